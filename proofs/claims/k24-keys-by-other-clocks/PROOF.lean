import PyProof.Rows.All
import Wide.All
import OpenK.AllK
import Wide.FinOn
import KE.OsHead
import HandS.ForMost
import HandS.ForExc
import HandS.Deep
import HandS.IsInst
import HandS.StrMore
import HandS.CallLocal
import HandS.Zip
import HandS.Lambda
import HandS.Comp
import HandS.Wide
import HandS.TupAny
import HandS.Style
import HandS.Evl
import KE.GoesMore
import KE.KExcIs
import KE.KTypeName
import HandS.FStr
import HandS.Small
import HandS.TryOnly
import HandS.CallSlots
import KE.KExcSuper
import HandS.ExcInit
import HandS.EndOwn
import KE.KNestM
import PySem.Challenge.RW_alltimes_k24_keys_of_scenes_by_other_clo
set_option Elab.async false
set_option linter.all false
set_option maxRecDepth 100000
set_option maxHeartbeats 8000000
/-! Values as data, heaps that grow, outcomes. -/
namespace G
open PySem PySem.Spec PyProof.Rows L2

abbrev PD := PyData
/-- a def of the text as a value; the bag -/
abbrev dFn (k : Nat) : PD := .dict [(.int k, .none)]
abbrev dBag : PD := .dict []

/-- K; the defs; the exception classes; the tables of code objects; the globals -/
structure Cn where
  K : PySem.W.Frag
  fa : Nat → Addr
  cx : Nat → Addr
  T : List (Addr × Str)
  gv : Nat → V

def Sub (F F' : Hp) : Prop := ∀ a o, F a = some o → F' a = some o
theorem Sub.refl (F : Hp) : Sub F F := fun _ _ h => h
theorem Sub.trans {F F1 F2 : Hp} (a : Sub F F1) (b : Sub F1 F2) : Sub F F2 := fun x o h => b x o (a x o h)
theorem Sub.rd {F F' : Hp} (s : Sub F F') {a : Addr} {u : HO} (h : Rd F a u) : Rd F' a u := by
  rcases h with h | ⟨o, h⟩
  · exact .inl (s _ _ h)
  · exact .inr ⟨o, s _ _ h⟩
theorem Sub.sl {K : PySem.W.Frag} {F F' : Hp} (s : Sub F F') {a : Addr} {xs : List V} (h : SqL K F a xs) : SqL K F' a xs := h.elim (fun h => .inl (s.rd h)) .inr
theorem Sub.st {K : PySem.W.Frag} {F F' : Hp} (s : Sub F F') {a : Addr} {xs : List V} (h : SqT K F a xs) : SqT K F' a xs := h.elim (fun h => .inl (s.rd h)) .inr

mutual
inductive Rv (c : Cn) (B : Option Addr) (F : Hp) : V → PD → Prop
  | non : Rv c B F .non .none
  | bl (b : Bool) : Rv c B F (.bl b) (.bool b)
  | int (i : Int) : Rv c B F (.int i) (.int i)
  | str (x : Str) : Rv c B F (.str x) (.str x)
  | lst {a : Addr} {xs : List V} {ds : List PD} : F a = some (.lst xs) → RvA c B F xs ds → Rv c B F (.ref a) (.list ds)
  | tup {a : Addr} {xs : List V} {ds : List PD} : SqT c.K F a xs → RvA c B F xs ds → Rv c B F (.ref a) (.tuple ds)
  | fn (k : Nat) : Rv c B F (.ref (c.fa k)) (.dict [(.int k, .none)])
  | bag {a : Addr} : B = some a → Rv c B F (.ref a) (.dict [])
inductive RvA (c : Cn) (B : Option Addr) (F : Hp) : List V → List PD → Prop
  | nil : RvA c B F [] []
  | cons {v : V} {vs : List V} {d : PD} {ds : List PD} : Rv c B F v d → RvA c B F vs ds → RvA c B F (v :: vs) (d :: ds)
end
section
variable {c : Cn} {B : Option Addr} {F F' H : Hp}
mutual
theorem Rv.mono (s : Sub F F') : ∀ (d : PD) (v : V), Rv c B F v d → Rv c B F' v d
  | .none, _, h => by cases h; exact .non
  | .bool b, _, h => by cases h; exact .bl b
  | .int i, _, h => by cases h; exact .int i
  | .str x, _, h => by cases h; exact .str x
  | .list ds, _, h => by
    cases h with
    | lst hs ha => exact .lst (s _ _ hs) (RvA.mono s ds _ ha)
  | .tuple ds, _, h => by
    cases h with
    | tup hs ha => exact .tup (s.st hs) (RvA.mono s ds _ ha)
  | .dict kvs, _, h => by
    cases h with
    | fn k => exact .fn k
    | bag e => exact .bag e
theorem RvA.mono (s : Sub F F') : ∀ (ds : List PD) (vs : List V), RvA c B F vs ds → RvA c B F' vs ds
  | [], _, h => by cases h; exact .nil
  | d :: ds, _, h => by
    cases h with
    | cons h1 h2 => exact .cons (Rv.mono s d _ h1) (RvA.mono s ds _ h2)
end
mutual
/-- no dict within -/
def noD : PD → Bool
  | .list ds => noDs ds
  | .tuple ds => noDs ds
  | .dict _ => false
  | _ => true
def noDs : List PD → Bool
  | [] => true
  | d :: ds => noD d && noDs ds
end
mutual
theorem Rv.dp : ∀ (d : PD) (v : V), noD d = true → Rv c B F v d → Dp c.K F v d
  | .none, _, _, h => by cases h; exact .non
  | .bool b, _, _, h => by cases h; exact .bl b
  | .int i, _, _, h => by cases h; exact .int i
  | .str x, _, _, h => by cases h; exact .str x
  | .list ds, _, n, h => by
    cases h with
    | lst hs ha => exact .lst (.inl (.inl hs)) (RvA.dp ds _ n ha)
  | .tuple ds, _, n, h => by
    cases h with
    | tup hs ha => exact .tup hs (RvA.dp ds _ n ha)
  | .dict kvs, _, n, h => by cases n
theorem RvA.dp : ∀ (ds : List PD) (vs : List V), noDs ds = true → RvA c B F vs ds → DpAll c.K F vs ds
  | [], _, _, h => by cases h; exact .nil
  | d :: ds, _, n, h => by
    cases h with
    | cons h1 h2 =>
      have n' : noD d = true ∧ noDs ds = true := by
        have q : (noD d && noDs ds) = true := n
        simpa using q
      exact .cons (Rv.dp d _ n'.1 h1) (RvA.dp ds _ n'.2 h2)
end
theorem RvA.length : ∀ {vs : List V} {ds : List PD}, RvA c B F vs ds → vs.length = ds.length
  | [], [], _ => rfl
  | _ :: _, _ :: _, .cons _ h => congrArg (· + 1) (RvA.length h)
theorem RvA.get : ∀ {vs : List V} {ds : List PD}, RvA c B F vs ds → ∀ {i : Nat} {d : PD}, ds[i]? = some d → ∃ v, vs[i]? = some v ∧ Rv c B F v d
  | [], [], _, i, d, e => by simp at e
  | v :: vs, _ :: ds, .cons h _, 0, d, e => by
    have e' := Option.some.inj (show some _ = some d from e)
    subst e'
    exact ⟨v, rfl, h⟩
  | v :: vs, _ :: ds, .cons _ h, i + 1, d, e => by
    obtain ⟨w, h1, h2⟩ := RvA.get h (i := i) (d := d) (by simpa using e)
    exact ⟨w, by simpa using h1, h2⟩
theorem RvA.getV : ∀ {vs : List V} {ds : List PD}, RvA c B F vs ds → ∀ {i : Nat} {v : V}, vs[i]? = some v → ∃ d, ds[i]? = some d ∧ Rv c B F v d
  | [], [], _, i, d, e => by simp at e
  | v :: vs, dd :: ds, .cons h _, 0, w, e => by
    have e' := Option.some.inj (show some _ = some w from e)
    subst e'
    exact ⟨dd, rfl, h⟩
  | v :: vs, _ :: ds, .cons _ h, i + 1, d, e => by
    obtain ⟨w, h1, h2⟩ := RvA.getV h (i := i) (v := d) (by simpa using e)
    exact ⟨w, by simpa using h1, h2⟩
theorem RvA.app : ∀ {vs ws : List V} {ds es : List PD}, RvA c B F vs ds → RvA c B F ws es → RvA c B F (vs ++ ws) (ds ++ es)
  | [], _, [], _, _, h => h
  | _ :: _, _, _ :: _, _, .cons h1 h2, h => .cons h1 (RvA.app h2 h)
theorem RvA.take : ∀ (n : Nat) {vs : List V} {ds : List PD}, RvA c B F vs ds → RvA c B F (vs.take n) (ds.take n)
  | 0, _, _, _ => .nil
  | n + 1, [], [], _ => .nil
  | n + 1, _ :: _, _ :: _, .cons h1 h2 => .cons h1 (RvA.take n h2)
theorem RvA.drop : ∀ (n : Nat) {vs : List V} {ds : List PD}, RvA c B F vs ds → RvA c B F (vs.drop n) (ds.drop n)
  | 0, _, _, h => h
  | n + 1, [], [], _ => .nil
  | n + 1, _ :: _, _ :: _, .cons h1 h2 => RvA.drop n h2
theorem RvA.strs : ∀ (xs : List Str), RvA c B F (xs.map V.str) (xs.map PyData.str)
  | [] => .nil
  | x :: xs => .cons (.str x) (RvA.strs xs)

/-- no table of code objects -/
def NT (o : HO) : Prop := ∀ ps, o ≠ .tbl ps
theorem NT.lst {xs : List V} : NT (.lst xs) := fun _ e => nomatch e
theorem NT.tup {xs : List V} : NT (.tup xs) := fun _ e => nomatch e
theorem NT.xd {fs : List (Str × V)} : NT (.xd fs) := fun _ e => nomatch e
/-- nothing that is known stands there -/
def Fr0 (H : Hp) (a : Addr) : Prop := ∀ o, H a = some o → ¬ NT o
theorem Fr0.of {H : Hp} {a : Addr} (h : H a = none) : Fr0 H a := fun o e => by rw [h] at e; cases e
theorem Fr0.ne {H : Hp} {a b : Addr} {o : HO} (n : Fr0 H a) (h : H b = some o) (t : NT o) : b ≠ a := fun e => by
  subst e
  exact n o h t
/-- F: what never changes; H: all that is tracked. From (F, H) to (F', H') -/
structure Gr (B : Option Addr) (F H F' H' : Hp) : Prop where
  sub : Sub F F'
  inn : Sub F' H'
  keep : ∀ b o, H b = some o → NT o → some b ≠ B → H' b = some o
  there : ∀ b o, H b = some o → NT o → ∃ o', H' b = some o' ∧ NT o'
  new : ∀ b o, H b = some o → NT o → F b = none → F' b = none
theorem Gr.refl (s : Sub F H) : Gr B F H F H := ⟨.refl F, s, fun _ _ h _ _ => h, fun _ o h t => ⟨o, h, t⟩, fun _ _ _ _ h => h⟩
theorem Gr.trans {F1 H1 F2 H2 : Hp} (a : Gr B F H F1 H1) (b : Gr B F1 H1 F2 H2) : Gr B F H F2 H2 where
  sub := a.sub.trans b.sub
  inn := b.inn
  keep := fun x o h t n => b.keep x o (a.keep x o h t n) t n
  there := fun x o h t => by
    obtain ⟨o1, h1, t1⟩ := a.there x o h t
    exact b.there x o1 h1 t1
  new := fun x o h t n => by
    obtain ⟨o1, h1, t1⟩ := a.there x o h t
    exact b.new x o1 h1 t1 (a.new x o h t n)
theorem Gr.back {F H F' H' : Hp} (g : Gr B F H F' H') {a : Addr} (n : Fr0 H' a) : Fr0 H a := fun o e t => by
  obtain ⟨o', q, t'⟩ := g.there _ _ e t
  exact n o' q t'
/-- a new object that stays as it is -/
theorem Gr.fresh (s : Sub F H) {p : Addr} {o : HO} (hp : H p = none) : Gr B F H (upd F p o) (upd H p o) where
  sub := fun a u h => by
    have n : a ≠ p := fun e => by rw [e] at h; rw [s _ _ h] at hp; cases hp
    rw [upd_ne n]; exact h
  inn := fun a u h => by
    by_cases e : a = p
    · subst e; rw [upd_same] at h ⊢; exact h
    · rw [upd_ne e] at h ⊢; exact s _ _ h
  keep := fun b u h _ _ => by rw [upd_ne (ne_of_none h hp)]; exact h
  there := fun b u h t => ⟨u, by rw [upd_ne (ne_of_none h hp)]; exact h, t⟩
  new := fun b u h _ n => by rw [upd_ne (ne_of_none h hp)]; exact n
/-- a new object that may change -/
theorem Gr.freshM (s : Sub F H) {p : Addr} {o : HO} (hp : H p = none) : Gr B F H F (upd H p o) where
  sub := .refl F
  inn := fun a u h => by rw [upd_ne (ne_of_none (s _ _ h) hp)]; exact s _ _ h
  keep := fun b u h _ _ => by rw [upd_ne (ne_of_none h hp)]; exact h
  there := fun b u h t => ⟨u, by rw [upd_ne (ne_of_none h hp)]; exact h, t⟩
  new := fun b u h _ n => n
theorem tabs_mut {T : List (Addr × Str)} (h : LamX.Tabs T H) {D : Addr} {vs ws : List V} (e : H D = some (.lst vs)) : LamX.Tabs T (upd H D (.lst ws)) := fun p hp => by
  obtain ⟨ps, h1, h2, h3⟩ := h p hp
  refine ⟨ps, by rw [upd_ne (fun q => by rw [q, e] at h1; cases h1)]; exact h1, h2, fun pos cv hc => ?_⟩
  obtain ⟨cc, e1, e2⟩ := h3 pos cv hc
  exact ⟨cc, e1, by rw [upd_ne (fun q => by rw [q, e] at e2; cases e2)]; exact e2⟩
/-- the bag's list; the tables -/
structure BagR (c : Cn) (B : Option Addr) (F H : Hp) (g : List PD) : Prop where
  bag : ∀ a, B = some a → F a = none ∧ ∃ vs, H a = some (.lst vs) ∧ RvA c B F vs g
  nt : ∀ a o, F a = some o → NT o
  tb : LamX.Tabs c.T H
theorem BagR.fresh {g : List PD} (h : BagR c B F H g) (s : Sub F H) {p : Addr} {o : HO} (hp : H p = none) (t : NT o) : BagR c B (upd F p o) (upd H p o) g where
  bag := fun a e => by
    obtain ⟨h1, vs, h2, h3⟩ := h.bag a e
    have n := ne_of_none h2 hp
    exact ⟨by rw [upd_ne n]; exact h1, vs, by rw [upd_ne n]; exact h2, RvA.mono (Gr.fresh (B := B) s hp).sub _ _ h3⟩
  nt := fun a u e => by
    by_cases q : a = p
    · subst q; rw [upd_same] at e; cases e; exact t
    · rw [upd_ne q] at e; exact h.nt a u e
  tb := h.tb.ext fun b u e => by rw [upd_ne (ne_of_none e hp)]; exact e
theorem BagR.freshM {g : List PD} (h : BagR c B F H g) {p : Addr} {o : HO} (hp : H p = none) : BagR c B F (upd H p o) g where
  bag := fun a e => by
    obtain ⟨h1, vs, h2, h3⟩ := h.bag a e
    exact ⟨h1, vs, by rw [upd_ne (ne_of_none h2 hp)]; exact h2, h3⟩
  nt := h.nt
  tb := h.tb.ext fun b u e => by rw [upd_ne (ne_of_none e hp)]; exact e
/-- only tables have changed -/
theorem BagR.ext {g : List PD} (h : BagR c B F H g) {H1 : Hp} (e : LamX.ExtN H H1) (t : LamX.Tabs c.T H1) : BagR c B F H1 g where
  bag := fun a q => by
    obtain ⟨h1, vs, h2, h3⟩ := h.bag a q
    exact ⟨h1, vs, e _ _ h2 NT.lst, h3⟩
  nt := h.nt
  tb := t
theorem Gr.ext {g : List PD} (h : BagR c B F H g) (s : Sub F H) {H1 : Hp} (e : LamX.ExtN H H1) : Gr B F H F H1 where
  sub := .refl F
  inn := fun a u q => e _ _ (s _ _ q) (h.nt a u q)
  keep := fun b o q t _ => e _ _ q t
  there := fun b o q t => ⟨o, e _ _ q t, t⟩
  new := fun b o q _ n => n
end

/-! ### outcomes -/
/-- an exception: its class, its fields -/
structure Xn where
  c : Nat
  as : List (Str × PD)
inductive Out (β : Type) where
  | stuck
  | ok (b : β) (g : List PD)
  | exn (x : Xn) (g : List PD)
abbrev M (β : Type) := List PD → Out β
def ret {β : Type} (b : β) : M β := fun g => .ok b g
def Out.bnd {β γ : Type} (o : Out β) (f : β → M γ) : Out γ := match o with | .stuck => .stuck | .ok b g => f b g | .exn x g => .exn x g
def bnd {β γ : Type} (m : M β) (f : β → M γ) : M γ := fun g => (m g).bnd f
def stk {β : Type} : M β := fun _ => .stuck
def ofO {β : Type} : Option β → M β
  | some b => ret b
  | none => stk

def toV : PD → V | .none => .non | .bool b => .bl b | .int i => .int i | .str x => .str x | _ => .non
/-- an exception's own dict -/
def xdB (as : List (Str × PD)) : HO := .xd (as.map fun p => (p.1, toV p.2))
def ExnP (c : Cn) (B : Option Addr) (E : XK) (F H : Hp) (x : Xn) (g : List PD) : Prop := ∀ F' H', Gr B F H F' H' → BagR c B F' H' g → (x.as = [] → E (.ref (c.cx x.c)) none H') ∧ (x.as ≠ [] → ∀ dd, H' dd = some (xdB x.as) → E (.ref (c.cx x.c)) (some dd) H')
def Post (c : Cn) (B : Option Addr) (E : XK) (F H : Hp) {β : Type} (o : Out β) (k : β → List PD → Hp → Hp → Prop) : Prop := match o with
  | .stuck => False
  | .ok b g => ∀ F' H', Gr B F H F' H' → BagR c B F' H' g → k b g F' H'
  | .exn x g => ExnP c B E F H x g
section
variable {c : Cn} {B : Option Addr} {E : XK} {F H F1 H1 : Hp} {β γ : Type}
theorem ExnP.grow {x : Xn} {g : List PD} (h : ExnP c B E F H x g) (a : Gr B F H F1 H1) : ExnP c B E F1 H1 x g := fun F' H' gr bg => h F' H' (a.trans gr) bg
theorem Post.grow {o : Out β} {k : β → List PD → Hp → Hp → Prop} (h : Post c B E F H o k) (a : Gr B F H F1 H1) : Post c B E F1 H1 o k := by
  cases o with
  | stuck => exact h
  | ok b g => exact fun F' H' gr bg => h F' H' (a.trans gr) bg
  | exn x g => exact ExnP.grow h a
theorem Post.bind {o : Out β} {f : β → M γ} {k : γ → List PD → Hp → Hp → Prop} (h : Post c B E F H (o.bnd f) k) : Post c B E F H o fun b g F1 H1 => Post c B E F1 H1 (f b g) k := by
  cases o with
  | stuck => exact h
  | ok b g => exact fun F1 H1 gr bg => Post.grow (o := f b g) (k := k) h gr
  | exn x g => exact h
theorem Post.imp {o : Out β} {k k' : β → List PD → Hp → Hp → Prop} (h : Post c B E F H o k) (i : ∀ b g F' H', Gr B F H F' H' → BagR c B F' H' g → k b g F' H' → k' b g F' H') : Post c B E F H o k' := by
  cases o with
  | stuck => exact h
  | ok b g => exact fun F' H' gr bg => i b g F' H' gr bg (h F' H' gr bg)
  | exn x g => exact h
theorem Post.now {b : β} {g : List PD} {k : β → List PD → Hp → Hp → Prop} (h : Post c B E F H (.ok b g) k) (s : Sub F H) (bg : BagR c B F H g) : k b g F H := h F H (.refl s) bg
end
end G

/-! bool - bool; // of great ints; tuple[::-1]; X() of an own exception class. -/
namespace HX
open PySem PySem.Spec PyProof.Rows L2
theorem slot_bs : Slot "bool" (dunder "sub") "int.__sub__" :=
  .of (owner := "int") (n := "__sub__") (by rw [typeLookup_type, builtinLookup_eq_fast]; kernel_rfl) (by decide +kernel) (by decide +kernel) (by decide +kernel) (by first | exact .inl (by decide +kernel) | exact .inr (by decide +kernel)) (by rw [isSubtype_type]; kernel_rfl)
theorem fills_bs : fillsNumberSlot (.type "bool") "sub" = pure true :=
  fillsNumberSlot_of (id := "int.__sub__") (r := some (.builtin "int.__rsub__")) (by rw [typeLookup_type, builtinLookup_eq_fast]; kernel_rfl) (by decide +kernel) (by rw [typeLookup_type, builtinLookup_eq_fast]; kernel_rfl)
def bi (b : Bool) : Int := if b = true then 1 else 0
theorem gives_bs (a b : Bool) : Gives (Builtin.«int.__sub__» ⟨[.bool a, .bool b], []⟩) (.int (bi a - bi b)) := by
  cases a <;> cases b <;> exact .of_eq rfl
section
variable {X : Cx}
theorem op_subB : OpR X (binaryOp .Sub) (fun x y H Q => ∃ a b, x = .bl a ∧ y = .bl b ∧ Q (.int (bi a - bi b)) H) := by
  intro pins s σ H x y v u Q I rx ry h
  obtain ⟨a, b, rfl, rfl, q⟩ := h
  cases rx
  cases ry
  exact binaryOp_gives (op := .Sub) (T := "bool") rfl rfl fills_bs slot_bs PySem.F.entry_int_sub (PySem.F.args_int_sub_2 _ _) (gives_bs a b) trivial ⟨.int (bi a - bi b), H, I.tok _, ⟨_, rfl⟩, q⟩
def CDivZ (_ j : Int) : Prop := j ≠ 0 ∧ j.natAbs.log2 < 9000
theorem op_fdivZ : OpR X (binaryOp .FloorDiv) (rI CDivZ fun i j => .int (i.fdiv j)) := opI fun _ _ _ _ _ _ _ hc q => floordiv_int hc.1 q (.inl (PyProof.noPylong_of_log2 hc.2))
end
/-! ### tuple[::-1] -/
section
variable {prog : Program} {w : World} {A : Around} {E : Value → Shared → Prop} {s : Shared}
theorem applied_rev {sl : Addr} {vl vu vs : Value} {n : Nat} {Q : Int × Int × Nat → Shared → Prop} (hs : s.heap.IsSliceOf sl vl vu vs) (pl : IsPart vl none) (pu : IsPart vu none) (ps : IsPart vs (some (-1)))
    (h : Q ((n : Int) - 1, -1, n) s) : wpAny (model prog w) A (Builtin.Slice.sliceApplied (.ref sl) (pure (n : Int))) Q E s := by
  obtain ⟨os, hos, hcs, hds⟩ := id hs
  unfold Builtin.Slice.sliceApplied Builtin.Slice.sliceFields
  refine wpAny_bind (wpAny_bind (wpAny_field hos hds (x := vl) rfl (wpAny_bind (wpAny_field hos hds (x := vu) rfl (wpAny_bind (wpAny_field hos hds (x := vs) rfl (wpAny_pure ?_)))))))
  refine wpAny_bind (HT.slicePart_ ps ?_)
  show wpAny _ _ (if ((-1 : Int) == 0) = true then _ else _) _ _ s
  rw [if_neg (by decide)]
  refine wpAny_bind (HT.slicePart_ pl (wpAny_bind (HT.slicePart_ pu (wpAny_bind (wpAny_pure ?_)))))
  have e : Builtin.Slice.slicePlaces ((n : Int) - 1) (-1) (-1) = n := by
    unfold Builtin.Slice.slicePlaces
    have h1 : ¬ ((-1 : Int) > 0) := by decide
    rw [if_neg h1, show (- -1 : Int) = 1 by decide]
    by_cases q : (n : Int) - 1 > -1
    · rw [if_pos q, Int.ediv_one]
      omega
    · rw [if_neg q]
      omega
  refine wpAny_pure ?_
  have e2 : ((Builtin.Slice.sliceAdjust none none (-1) (n : Int)).1, (-1 : Int), Builtin.Slice.slicePlaces (Builtin.Slice.sliceAdjust none none (-1) (n : Int)).1 (Builtin.Slice.sliceAdjust none none (-1) (n : Int)).2 (-1)) = ((n : Int) - 1, (-1 : Int), n) := by
    show ((n : Int) - 1, (-1 : Int), Builtin.Slice.slicePlaces ((n : Int) - 1) (-1) (-1)) = _
    rw [e]
  show Q ((Builtin.Slice.sliceAdjust none none (-1) (n : Int)).1, (-1 : Int), Builtin.Slice.slicePlaces (Builtin.Slice.sliceAdjust none none (-1) (n : Int)).1 (Builtin.Slice.sliceAdjust none none (-1) (n : Int)).2 (-1)) s
  rw [e2]
  exact h
theorem fm_congr {α β : Type} {f g : α → Option β} : ∀ l : List α, (∀ x ∈ l, f x = g x) → l.filterMap f = l.filterMap g
  | [], _ => rfl
  | a :: l, h => by rw [List.filterMap_cons, List.filterMap_cons, h a List.mem_cons_self, fm_congr l fun x hx => h x (List.mem_cons_of_mem _ hx)]
theorem pick_rev (xs : Array Value) : ((List.range xs.size).filterMap fun (m : Nat) => xs[(((xs.size : Int) - 1) + (m : Int) * (-1)).toNat]?).toArray = xs.toList.reverse.toArray := by
  congr 1
  have e : (List.range xs.size).filterMap (fun (m : Nat) => xs[(((xs.size : Int) - 1) + (m : Int) * (-1)).toNat]?) = ((List.range xs.size).map fun k => xs.size - 1 - k).filterMap (xs[·]?) := by
    rw [List.filterMap_map]
    refine fm_congr _ fun m hm => ?_
    have l := List.mem_range.mp hm
    show _ = xs[xs.size - 1 - m]?
    congr 1
    omega
  rw [e, PySem.W.krv_range, List.filterMap_reverse, PySem.W.krv_all]
theorem getItem_tuple_rev {t sl : Addr} {items : Array Value} {vl vu vs : Value} {Q : Value → Shared → Prop} (ht : IsTup s.heap t items) (hs : s.heap.IsSliceOf sl vl vu vs) (pl : IsPart vl none) (pu : IsPart vu none) (ps : IsPart vs (some (-1)))
    (h : Q (.ref s.heap.objs.size) { s with heap := s.heap.push { cls := .type "tuple", data := .seq items.toList.reverse.toArray } }) (hsz : items.size ≤ sizeLine) : wpAny (model prog w) A (getItem (.ref t) (.ref sl)) Q E s := by
  have hrev : sizeOk (.seq items.toList.reverse.toArray) := by
    show items.toList.reverse.toArray.size ≤ sizeLine
    rw [List.size_toArray, List.length_reverse, Array.length_toList]
    exact hsz
  obtain ⟨os, hos, hcs, hds⟩ := id hs
  have hT2 : s.TypeIs (.ref sl) "slice" := ⟨os, hos, hcs⟩
  unfold getItem
  try with_reducible refine wpAny_holding ?_
  first | refine wpAny_bind (wpAny_pure ?_) | skip
  refine wpAny_bind (wpAny_sequenceKey ht.typeIs (by decide) ?_)
  refine wpAny_bind (wpAny_callSpecial?_slot (name := Str.ofString "__getitem__") ht.typeIs PyProof.Rows.slot_tuple_getitem (wpAny_call_entry PyProof.Rows.slot_tuple_getitem ht.typeIs entry_tuple_getitem ?_ (args_tuple_getitem _ _)))
  show wpAny _ _ (Builtin.Tuple.tupleItemsOf (.ref t) >>= _) _ _ s
  refine wpAny_bind (tupleItemsOf_ ht (wpAny_bind (wpAny_typeOf hT2 ?_)))
  rw [if_pos (by decide)]
  refine wpAny_bind (applied_rev (n := items.size) hs pl pu ps ?_)
  have hno : ¬ ((((items.size : Int) - 1) == 0 && (-1 : Int) == 1 && items.size == items.size) = true) := by
    intro q
    rw [Bool.and_eq_true, Bool.and_eq_true] at q
    exact absurd q.1.2 (by decide)
  show wpAny _ _ (if (((items.size : Int) - 1) == 0 && (-1 : Int) == 1 && items.size == items.size) = true then _ else _) _ _ s
  rw [if_neg hno, pick_rev]
  first
    | exact wpAny_bind (m := Builtin.Tuple.tupleExact _) (wpAny_newObj_type (wpAny_pure ⟨_, rfl, wpAny_pure h⟩) hrev)
    | exact wpAny_bind (wpAny_bind (m := Builtin.Tuple.tupleExact _) (wpAny_newObj_type (wpAny_pure (wpAny_pure ⟨_, rfl, wpAny_pure h⟩)) hrev))
    | exact wpAny_bind (wpAny_bind (m := Builtin.Tuple.tupleExact _) (wpAny_newObj_type (wpAny_pure ⟨_, rfl, wpAny_pure h⟩) hrev))
end
def tRevT (K : PySem.W.Frag) (te : TE) : TE := fun σ H Q => te σ H fun x H1 => ∃ a xs, x = .ref a ∧ SqT K H1 a xs ∧ ∀ p, H1 p = none → Q (.ref p) (upd H1 p (.tup xs.reverse))
theorem pe_revT {X : Cx} {e : Expr} {te : TE} {k : Nat} {p1 p2 p3 pos : Pos} (he : PE X e te) : PE X (.Subscript e (.Slice none none (some (.UnaryOp .USub (.Constant (.int 1) k p1) p2)) p3) pos) (tRevT X.K te) := by
  refine ⟨fun pins s σ H Q I h => ?_⟩
  refine Subscript_ (thn (he.run pins s σ H _ I h) fun v s1 ⟨x, H1, I1, r1, q1⟩ => ?_)
  obtain ⟨a, xs, ex, hx, q⟩ := q1
  subst ex
  cases r1
  have hst : PO X (some (.UnaryOp .USub (.Constant (.int 1) k p1) p2)) (tPart (tUn (rU fun i => .int (-i)) (tC (.int 1)))) := po_some (pe_un un_neg pe_int)
  refine wpAny_Slice (thn (po_none.run pins s1 σ H1 (fun o H2 => o = none ∧ H2 = H1) I1 ⟨rfl, rfl⟩) fun vl s2 ⟨l, H2, I2, pl, el, e2⟩ => ?_)
  subst el e2
  refine thn (po_none.run pins s2 σ H2 (fun o H3 => o = none ∧ H3 = H2) I2 ⟨rfl, rfl⟩) fun vu s3 ⟨u, H3, I3, pu, eu, e3⟩ => ?_
  subst eu e3
  refine thn (hst.run pins s3 σ H3 (fun o H4 => o = some (-1) ∧ H4 = H3) I3 ⟨1, rfl, -1, rfl, rfl, rfl⟩) fun vs s4 ⟨o, H4, I4, ps, eo, e4⟩ => ?_
  subst eo e4
  have I5 : Inv X pins σ H4 { s4 with heap := s4.heap.push { cls := .type "slice", data := .fields #[vl, vu, vs] } } := I4.kept (t' := s4.toks) fun b ob q => Heap.get?_push_of_some _ q
  obtain ⟨its, r, ht, hz⟩ := I5.tuple hx
  have hlen := r.length
  show wpAny (model X.prog X.w) X.A (subscriptTail e (.Slice none none (some (.UnaryOp .USub (.Constant (.int 1) k p1) p2)) p3) (.ref a) (.ref s4.heap.objs.size)) (EP X pins σ Q) X.xe { s4 with heap := s4.heap.push { cls := .type "slice", data := .fields #[vl, vu, vs] } }
  refine tail_any (ops := [.ref a, .ref s4.heap.objs.size]) ht.typeIs (PyProof.Rows.slot_tuple_getitem.lookup) ?_ (by with_unfolding_all rfl)
  refine getItem_tuple_rev ht (Heap.IsSliceOf.new _ vl vu vs) pl pu ps ?_ (by rw [List.size_toArray]; omega)
  refine ⟨.ref _, _, I5.laid (t' := s4.toks) (o := .tup xs.reverse) (fun b ob q => Heap.get?_push_of_some _ q) (Nat.le_refl _) ?_, rfl, q _ (I5.hok.fresh (Nat.le_refl _))⟩
  exact ⟨by rw [List.length_reverse]; exact hz, _, r.reverse, IsTup.new _ _⟩
/-! ### X() -/
section
variable {X : Cx} {C : Addr} {bmB : List Value} {B newId initId : String}
theorem pmk_own0 {x : Str} {p pos : Pos} (F : ExcBaseFacts B newId initId bmB) (q : PySem.W.excIn X.K C bmB newId = true) (gC : X.mg x = some (.ref C)) (kC : PySem.W.keepIn X.K (.ref C) = true) (r : Raises X (.ref C)) (hg : Gl X x)
    (hdb : (x == ("__debug__" : Str)) = false := by decide) : PMk X (.Call (.Name x p) [] [] pos) (fun _ H Q => Q (.ref C) none H) := by
  intro pins s σ H Q I h
  refine wpAny_Call_Name_kw (ld_glob I hg gC ?_ hdb)
  refine PySem.W.callWith_K0 (first := []) I.kIn kC ?_
  show wpAny _ _ (call (.ref C) []) _ _ _
  obtain ⟨bm, N, nm, qn, bs, hdct, sn, sub, ab, col, dd, k0, k1, k2, k3, k5, mN, hC, hN, hni, T⟩ := exc_obj I.kIn q
  refine wpAny_call_exc_subT F T hC hN hni (fun h' e hm => ?_) (by show 0 ≤ sizeLine; rw [sizeLine_eq]; omega)
  exact mk_of I hm r h (I.hok.gone hm.new)
end
end HX

/-! The forms, what they reckon. -/
namespace G
open PySem PySem.Spec PyProof.Rows L2

inductive Op2 where
  | add | sub | mul | fdv | mod | eq | ne | lt | le | gt | ge | is | isn | inn | nin | ix
inductive Blt where | abs | len | int | tup | lst | any | all | max1
mutual
inductive Tg where | name (i : Nat) | tup (ts : Tgs)
inductive Tgs where | nil | cons (t : Tg) (ts : Tgs)
end
mutual
inductive Ex where
  | var (i : Nat)
  | lit (d : PD)
  | glb (n : Nat)
  | op2 (o : Op2) (a b : Ex)
  | neg (a : Ex)
  | chain (o o' : Op2) (a b k : Ex)
  | ite (t : Tx) (a b : Ex)
  | andV (a b : Ex)
  | orV (a b : Ex)
  | notV (a : Ex)
  | tup (es : Exs)
  | lst (es : Exs)
  | lc (elt : Ex) (tg : Tg) (it : Ix) (own : List Nat)
  | lcf (elt : Ex) (tg : Tg) (it : Ix) (t : Tx) (own : List Nat)
  | lcN (elt : Ex) (tg : Tg) (it : Ix) (own : List Nat)
  | lcfN (elt : Ex) (tg : Tg) (it : Ix) (t : Tx) (own : List Nat)
  | lc2 (elt : Ex) (tg : Tg) (it : Ix) (tg1 : Tg) (it1 : Ix) (own vs1 : List Nat)
  | sl (a : Ex) (lo hi : Exs)
  | rev (a : Ex)
  | blt (b : Blt) (a : Ex)
  | max2 (a b : Ex)
  | isi (t : String) (a : Ex)
  | call (f : Nat) (es : Exs)
  | bget (i n : Nat)
  | oix (i : Nat) (e : Ex)
  | olen (i : Nat)
  | oem (i : Nat)
  | heard (e : Ex)
inductive Exs where | nil | cons (e : Ex) (es : Exs)
inductive Tx where
  | val (e : Ex)
  | and (a b : Tx)
  | or (a b : Tx)
  | not (a : Tx)
inductive Ix where
  | list (e : Ex)
  | tup (e : Ex)
  | range (e : Ex)
  | range2 (a b : Ex)
  | enumL (e : Ex)
  | enumT (e : Ex)
  | zip (a b : Ex)
end

/-! ### what the operations reckon -/
def isFl : PD → Bool | .none => true | .bool _ => true | .int _ => true | .str _ => true | _ => false
def shp (d : PD) : Bool := noD d && SeqAt.shaped d
def items : PD → Option (List PD) | .list ds => some ds | .tuple ds => some ds | _ => none
def isNo : PD → Bool | .none => true | _ => false
def inF (n : Bool) (a b : PD) : Option PD := match items b with
  | some ds => if isFl a = true ∧ ds.all isFl = true then some (.bool (if n = true then !inV (toV a) (ds.map toV) else inV (toV a) (ds.map toV))) else none
  | none => none
def opF : Op2 → PD → PD → Option PD
  | .add, .int i, .int j => some (.int (i + j))
  | .add, .str x, .str y => if x.length + y.length ≤ sizeLine then some (.str (x ++ y)) else none
  | .add, .list xs, .list ys => if xs.length + ys.length ≤ sizeLine then some (.list (xs ++ ys)) else none
  | .add, .tuple xs, .tuple ys => if xs.length + ys.length ≤ sizeLine then some (.tuple (xs ++ ys)) else none
  | .sub, .int i, .int j => some (.int (i - j))
  | .sub, .bool i, .bool j => some (.int (HX.bi i - HX.bi j))
  | .mul, .int i, .int j => if i.natAbs.log2 + j.natAbs.log2 < 1000000 then some (.int (i * j)) else none
  | .mul, .list xs, .int k => if -(2 ^ 63) ≤ k ∧ k < 2 ^ 63 ∧ xs.length * k.toNat ≤ 1000000 then some (.list (List.replicate k.toNat xs).flatten) else none
  | .fdv, .int i, .int j => if j ≠ 0 ∧ j.natAbs.log2 < 9000 then some (.int (i.fdiv j)) else none
  | .mod, .int i, .int j => if j ≠ 0 then some (.int (i.fmod j)) else none
  | .eq, a, b => if shp a = true ∧ shp b = true then some (.bool (PyData.eqv a b)) else none
  | .ne, a, b => if shp a = true ∧ shp b = true then some (.bool (!PyData.eqv a b)) else none
  | .lt, .int i, .int j => some (.bool (decide (i < j)))
  | .le, .int i, .int j => some (.bool (decide (i ≤ j)))
  | .gt, .int i, .int j => some (.bool (decide (j < i)))
  | .ge, .int i, .int j => some (.bool (decide (j ≤ i)))
  | .is, a, .none => some (.bool (isNo a))
  | .isn, a, .none => some (.bool (!isNo a))
  | .inn, a, b => inF false a b
  | .nin, a, b => inF true a b
  | .ix, .list ds, .int i => atI ds i
  | .ix, .tuple ds, .int i => atI ds i
  | .ix, .str z, .int i => if z.length ≤ sizeLine then (atI z.cps.toList i).map fun k => .str ⟨#[k]⟩ else none
  | _, _, _ => none
def cutP (ds : List PD) (lo hi : Option Int) : List PD := (ds.drop (HT.sIx ds.length 0 lo)).take (HT.sIx ds.length ds.length hi - HT.sIx ds.length 0 lo)
def slF : PD → Option Int → Option Int → Option PD
  | .str z, lo, hi => if z.length ≤ sizeLine then some (.str (cutS z lo hi)) else none
  | .list ds, lo, hi => some (.list (cutP ds lo hi))
  | .tuple ds, lo, hi => some (.tuple (cutP ds lo hi))
  | _, _, _ => none
def boolsOf : List PD → Option (List Bool)
  | [] => some []
  | .bool b :: ds => (boolsOf ds).map (b :: ·)
  | _ :: _ => none
def intsOf : List PD → Option (List Int)
  | [] => some []
  | .int b :: ds => (intsOf ds).map (b :: ·)
  | _ :: _ => none
def maxL : Int → List Int → Int
  | m, [] => m
  | m, x :: xs => maxL (if x > m then x else m) xs
def bltF : Blt → PD → Option PD
  | .abs, .int i => some (.int (if i < 0 then -i else i))
  | .len, .list ds => some (.int ds.length)
  | .len, .tuple ds => some (.int ds.length)
  | .len, .str z => if z.length ≤ sizeLine then some (.int z.length) else none
  | .int, .int i => some (.int i)
  | .int, .bool b => some (.int (if b = true then 1 else 0))
  | .tup, .list ds => some (.tuple ds)
  | .tup, .tuple ds => some (.tuple ds)
  | .lst, .list ds => some (.list ds)
  | .lst, .tuple ds => some (.list ds)
  | .any, .list ds => (boolsOf ds).map fun bs => .bool (bs.any id)
  | .all, .list ds => (boolsOf ds).map fun bs => .bool (bs.all id)
  | .max1, .list ds => match intsOf ds with | some (n :: ns) => some (.int (maxL n ns)) | _ => none
  | _, _ => none
def max2F : PD → PD → Option PD
  | .int i, .int j => some (.int (if j > i then j else i))
  | _, _ => none
def tyOf : PD → String
  | .none => "NoneType" | .bool _ => "bool" | .int _ => "int" | .str _ => "str" | .list _ => "list" | .tuple _ => "tuple" | .dict _ => "dict"
def isiF (t : String) (d : PD) : Option PD := match d with
  | .dict _ => none
  | _ => if t = "int" then some (.bool (tyOf d == "int" || tyOf d == "bool")) else if t = "bool" then some (.bool (tyOf d == "bool")) else if t = "tuple" then some (.bool (tyOf d == "tuple")) else none
def revF : PD → Option PD
  | .tuple ds => some (.tuple ds.reverse)
  | _ => none

/-! ### slots -/
inductive Sl where
  | no
  | d (x : PD)
  | own (xs : List PD)
abbrev EnvD := List Sl
def bagOf : Sl → Option Unit
  | .d (.dict []) => some ()
  | _ => none
theorem bagOf_eq {s : Sl} {u : Unit} (h : bagOf s = some u) : s = .d (.dict []) := by
  unfold bagOf at h
  split at h
  · rfl
  · cases h
def ownOf : Sl → Option (List PD)
  | .own xs => some xs
  | _ => none
theorem ownOf_eq {s : Sl} {xs : List PD} (h : ownOf s = some xs) : s = .own xs := by
  cases s <;> try (cases h; done)
  cases h; rfl
def wipeD (env : EnvD) : List Nat → EnvD
  | [] => env
  | v :: vs => (wipeD env vs).set v .no
mutual
/-- a target takes a value -/
def tgF : Tg → PD → EnvD → Option EnvD
  | .name i, d, env => some (env.set i (.d d))
  | .tup ts, .tuple ds, env => tgsF ts ds env
  | .tup _, _, _ => none
def tgsF : Tgs → List PD → EnvD → Option EnvD
  | .nil, [], env => some env
  | .cons t ts, d :: ds, env => (tgF t d env).bind fun e => tgsF ts ds e
  | _, _, _ => none
end
/-- without own lists -/
def noOw (env : EnvD) : EnvD := env.map fun s => match s with | .own _ => .no | s => s
def noX {β : Type} (m : M β) : M β := fun g => match m g with | .exn _ _ => .stuck | o => o
mutual
def tgIn : Tg → List Nat → Bool
  | .name i, own => own.contains i
  | .tup ts, own => tgsIn ts own
def tgsIn : Tgs → List Nat → Bool
  | .nil, _ => true
  | .cons t ts, own => tgIn t own && tgsIn ts own
end
def Tgs.len : Tgs → Nat
  | .nil => 0
  | .cons _ ts => ts.len + 1
def mapM' {β γ : Type} (f : β → M γ) : List β → M (List γ)
  | [] => ret []
  | x :: xs => bnd (f x) fun y => bnd (mapM' f xs) fun ys => ret (y :: ys)
/-- with tests: none: left out -/
def mapF {β γ : Type} (f : β → M (Option γ)) : List β → M (List γ)
  | [] => ret []
  | x :: xs => bnd (f x) fun y => bnd (mapF f xs) fun ys => ret (y.toList ++ ys)
def enumF (ds : List PD) : List PD := ds.zipIdx.map fun p => .tuple [.int (p.2 : Nat), p.1]
def zipF (xs ys : List PD) : List PD := (xs.zip ys).map fun p => .tuple [p.1, p.2]

/-- what a law's forms lean on: the defs' numbers of parameters, globals, what is heard of an exception -/
structure Lw where
  ar : Nat → Nat
  gD : Nat → Option PD
  hear : Xn → Option PD
/-- what is heard -/
def hearO (h : Xn → Option PD) : Out PD → Out PD
  | .stuck => .stuck
  | .ok d g => .ok (.tuple [.str "told", d]) g
  | .exn x g => match h x with | some d => .ok d g | none => .stuck
section
variable (Fn : Nat → List PD → M PD) (L : Lw)
mutual
def evE : Ex → EnvD → M PD
  | .var i, env => match env[i]? with | some (.d x) => ret x | _ => stk
  | .lit d, _ => ret d
  | .glb n, _ => ofO (L.gD n)
  | .op2 o a b, env => bnd (evE a env) fun x => bnd (evE b env) fun y => ofO (opF o x y)
  | .neg a, env => bnd (evE a env) fun x => match x with | .int i => ret (.int (-i)) | _ => stk
  | .chain o o' a b k, env => bnd (evE a env) fun x => bnd (evE b env) fun y => match opF o x y with
    | some (.bool true) => bnd (evE k env) fun z => ofO (opF o' y z)
    | some (.bool false) => ret (.bool false)
    | _ => stk
  | .ite t a b, env => bnd (evT t env) fun k => if k = true then evE a env else evE b env
  | .andV a b, env => bnd (evE a env) fun x => match x with | .bool true => evE b env | .bool false => ret (.bool false) | _ => stk
  | .orV a b, env => bnd (evE a env) fun x => match x with | .bool false => evE b env | .bool true => ret (.bool true) | _ => stk
  | .notV a, env => bnd (evE a env) fun x => match x with | .bool k => ret (.bool (!k)) | _ => stk
  | .tup es, env => bnd (evA es env) fun ds => if ds.length ≤ 1000 then ret (.tuple ds) else stk
  | .lst es, env => bnd (evA es env) fun ds => if ds.length ≤ 1000 then ret (.list ds) else stk
  | .lc elt tg it own, env => bnd (evI it env) fun ds => if ds.length ≤ 1000000 ∧ tgIn tg own = true then bnd (mapM' (fun d => match tgF tg d (wipeD env own) with | some env' => evE elt env' | none => stk) ds) fun ys => ret (.list ys) else stk
  | .lcf elt tg it t own, env => bnd (evI it env) fun ds => if ds.length ≤ 1000000 ∧ tgIn tg own = true then bnd (mapF (fun d => match tgF tg d (wipeD env own) with | some env' => bnd (evT t env') fun k => if k = true then bnd (evE elt env') fun y => ret (some y) else ret none | none => stk) ds) fun ys => ret (.list ys) else stk
  | .lcN elt tg it own, env => bnd (evI it env) fun ds => if ds.length ≤ 1000000 ∧ tgIn tg own = true then bnd (mapM' (fun d => match tgF tg d (wipeD env own) with | some env' => noX (evE elt env') | none => stk) ds) fun ys => ret (.list ys) else stk
  | .lcfN elt tg it t own, env => bnd (evI it env) fun ds => if ds.length ≤ 1000000 ∧ tgIn tg own = true then bnd (mapF (fun d => match tgF tg d (wipeD env own) with | some env' => noX (bnd (evT t env') fun k => if k = true then bnd (evE elt env') fun y => ret (some y) else ret none) | none => stk) ds) fun ys => ret (.list ys) else stk
  | .lc2 elt tg it tg1 it1 own vs1, env => bnd (evI it env) fun ds => if ds.length ≤ 1000 ∧ (tgIn tg own && tgIn tg1 vs1) = true then bnd (mapM' (fun d => match tgF tg d (noOw (wipeD env own)) with
      | some env1 => noX (bnd (evI it1 env1) fun es => if es.length ≤ 1000 then mapM' (fun d1 => match tgF tg1 d1 (wipeD env1 vs1) with | some env2 => evE elt env2 | none => stk) es else stk)
      | none => stk) ds) fun yss => ret (.list yss.flatten) else stk
  | .sl a lo hi, env => bnd (evE a env) fun x => bnd (evO lo env) fun l => bnd (evO hi env) fun h => ofO (slF x l h)
  | .rev a, env => bnd (evE a env) fun x => ofO (revF x)
  | .blt b a, env => bnd (evE a env) fun x => ofO (bltF b x)
  | .max2 a b, env => bnd (evE a env) fun x => bnd (evE b env) fun y => ofO (max2F x y)
  | .isi t a, env => bnd (evE a env) fun x => ofO (isiF t x)
  | .call f es, env => bnd (evA es env) fun ds => Fn f ds
  | .bget i n, env => match (env[i]?).bind bagOf with | some _ => (fun g => match g[n]? with | some d => .ok d g | none => .stuck) | none => stk
  | .oix i e, env => match (env[i]?).bind ownOf with | some xs => bnd (evE e env) (fun y => match y with | .int k => ofO (atI xs k) | _ => stk) | none => stk
  | .olen i, env => match (env[i]?).bind ownOf with | some xs => ret (.int xs.length) | none => stk
  | .oem i, env => match (env[i]?).bind ownOf with | some xs => if shp (.list xs) = true then ret (.bool (!PyData.eqv (.list xs) (.list []))) else stk | none => stk
  | .heard e, env => fun g => hearO L.hear (evE e env g)
def evA : Exs → EnvD → M (List PD)
  | .nil, _ => ret []
  | .cons e es, env => bnd (evE e env) fun x => bnd (evA es env) fun xs => ret (x :: xs)
/-- a slice's end -/
def evO : Exs → EnvD → M (Option Int)
  | .nil, _ => ret none
  | .cons e _, env => bnd (evE e env) fun x => match x with | .int i => ret (some i) | _ => stk
def evT : Tx → EnvD → M Bool
  | .val e, env => bnd (evE e env) fun x => match x with | .bool k => ret k | _ => stk
  | .and a b, env => bnd (evT a env) fun k => if k = true then evT b env else ret false
  | .or a b, env => bnd (evT a env) fun k => if k = true then ret true else evT b env
  | .not a, env => bnd (evT a env) fun k => ret (!k)
/-- what is walked -/
def evI : Ix → EnvD → M (List PD)
  | .list e, env => bnd (evE e env) fun x => match x with | .list ds => ret ds | _ => stk
  | .tup e, env => bnd (evE e env) fun x => match x with | .tuple ds => ret ds | _ => stk
  | .range e, env => bnd (evE e env) fun x => match x with | .int n => if -(2 ^ 62) ≤ n ∧ n < 2 ^ 62 then ret ((List.range n.toNat).map fun k => .int (k : Nat)) else stk | _ => stk
  | .range2 a b, env => bnd (evE a env) fun x => bnd (evE b env) fun y => match x, y with
    | .int m, .int n => if -(2 ^ 62) ≤ m ∧ m < 2 ^ 62 ∧ -(2 ^ 62) ≤ n ∧ n < 2 ^ 62 then ret ((List.range (n - m).toNat).map fun k => .int (m + (k : Nat))) else stk
    | _, _ => stk
  | .enumL e, env => bnd (evE e env) fun x => match x with | .list ds => ret (enumF ds) | _ => stk
  | .enumT e, env => bnd (evE e env) fun x => match x with | .tuple ds => ret (enumF ds) | _ => stk
  | .zip a b, env => bnd (evE a env) fun x => bnd (evE b env) fun y => match x, y with
    | .list xs, .list ys => ret (zipF xs ys)
    | .tuple xs, .tuple ys => ret (zipF xs ys)
    | _, _ => stk
end
end
end G

/-! The operations' rules and that they reckon what NB says. -/
namespace G
open PySem PySem.Spec PyProof.Rows L2

def rOr (r r' : R2) : R2 := fun x y H Q => r x y H Q ∨ r' x y H Q
theorem OpR.or {X : Cx} {f : Value → Value → Sem Value} {r r' : R2} (a : OpR X f r) (b : OpR X f r') : OpR X f (rOr r r') := by
  intro pins s σ H x y v u Q I rx ry h
  exact h.elim (fun h => a pins s σ H x y v u Q I rx ry h) (fun h => b pins s σ H x y v u Q I rx ry h)
def rAddS : R2 := fun x y H Q => ∃ i j, x = .str i ∧ y = .str j ∧ i.length + j.length ≤ sizeLine ∧ Q (.str (i ++ j)) H
def rSubB : R2 := fun x y H Q => ∃ a b, x = .bl a ∧ y = .bl b ∧ Q (.int (HX.bi a - HX.bi b)) H
def opR (K : PySem.W.Frag) : Op2 → R2
  | .add => rOr (rI0 fun i j => .int (i + j)) (rOr rAddS (rOr rCat (rCatA K)))
  | .sub => rOr (rI0 fun i j => .int (i - j)) rSubB
  | .mul => rOr (rI CMulW fun i j => .int (i * j)) rRep
  | .fdv => rI HX.CDivZ fun i j => .int (i.fdiv j)
  | .mod => rI (fun _ j => j ≠ 0) fun i j => .int (i.fmod j)
  | .eq => rEqD K
  | .ne => rNeD K
  | .lt => rI0 fun i j => .bl (decide (i < j))
  | .le => rI0 fun i j => .bl (decide (i ≤ j))
  | .gt => rI0 fun i j => .bl (decide (j < i))
  | .ge => rI0 fun i j => .bl (decide (j ≤ i))
  | .is => fun x y H Q => y = .non ∧ Q (.bl (decide (x = .non))) H
  | .isn => fun x y H Q => y = .non ∧ Q (.bl (!decide (x = .non))) H
  | .inn => rIn K false
  | .nin => rIn K true
  | .ix => rOr (rIxL K) (rOr (rIxT K) rIxS)

section
variable {c : Cn} {B : Option Addr} {F H : Hp} {g : List PD} {x y : V} {dx dy dz : PD} {Q : VK}
theorem rv_toV : ∀ {d : PD} {v : V}, isFl d = true → Rv c B F v d → v = toV d ∧ flatV v = true
  | .none, _, _, h => by cases h; exact ⟨rfl, rfl⟩
  | .bool b, _, _, h => by cases h; exact ⟨rfl, rfl⟩
  | .int i, _, _, h => by cases h; exact ⟨rfl, rfl⟩
  | .str s, _, _, h => by cases h; exact ⟨rfl, rfl⟩
  | .list _, _, n, _ => by cases n
  | .tuple _, _, n, _ => by cases n
  | .dict _, _, n, _ => by cases n
theorem rva_toV : ∀ {ds : List PD} {vs : List V}, ds.all isFl = true → RvA c B F vs ds → vs = ds.map toV ∧ vs.all flatV = true
  | [], _, _, h => by cases h; exact ⟨rfl, rfl⟩
  | d :: ds, _, n, h => by
    cases h with
    | cons h1 h2 =>
      rw [List.all_cons, Bool.and_eq_true] at n
      obtain ⟨e1, f1⟩ := rv_toV n.1 h1
      obtain ⟨e2, f2⟩ := rva_toV n.2 h2
      exact ⟨by rw [e1, e2]; rfl, by rw [List.all_cons, f1, f2]; rfl⟩
theorem sq_items {b : PD} {ds : List PD} {v : V} (e : items b = some ds) (h : Rv c B F v b) : ∃ p xs, v = .ref p ∧ (SqL c.K F p xs ∨ SqT c.K F p xs) ∧ RvA c B F xs ds := by
  cases b with
  | list es =>
    have e' := Option.some.inj (show some es = some ds from e)
    subst e'
    cases h with
    | lst hs ha => exact ⟨_, _, rfl, .inl (.inl (.inl hs)), ha⟩
  | tuple es =>
    have e' := Option.some.inj (show some es = some ds from e)
    subst e'
    cases h with
    | tup hs ha => exact ⟨_, _, rfl, .inr hs, ha⟩
  | _ => cases e
theorem shp_of {d : PD} (h : shp d = true) : noD d = true ∧ SeqAt.shaped d = true := by
  have q : (noD d && SeqAt.shaped d) = true := h
  simpa using q
theorem shp_dp {d : PD} {v : V} (s : Sub F H) (h : shp d = true) (r : Rv c B F v d) : Dp c.K H v d ∧ SeqAt.shaped d = true :=
  ⟨Rv.dp d v (shp_of h).1 (Rv.mono s d v r), (shp_of h).2⟩
theorem dec_non {d : PD} {v : V} (r : Rv c B F v d) : decide (v = V.non) = isNo d := by
  cases r <;> simp [isNo]
theorem ixN_len {vs : List V} {ds : List PD} (h : RvA c B F vs ds) {i : Int} {d : PD} (e : atI ds i = some d) : ∃ v, atI vs i = some v ∧ Rv c B F v d := by
  unfold atI at e ⊢
  rw [h.length]
  cases q : ixN ds.length i with
  | none => rw [q] at e; cases e
  | some j =>
    rw [q] at e
    exact RvA.get h (i := j) (d := d) e
theorem rv_bl (b : Bool) : Rv c B F (.bl b) (.bool b) := .bl b
theorem some_of {α : Type} {p : Prop} [Decidable p] {a b : α} (h : (if p then some a else none) = some b) : p ∧ a = b := by
  by_cases q : p
  · rw [if_pos q] at h; exact ⟨q, Option.some.inj h⟩
  · rw [if_neg q] at h; cases h
theorem RvA.rep {vs : List V} {ds : List PD} (h : RvA c B F vs ds) : ∀ n : Nat, RvA c B F (List.replicate n vs).flatten (List.replicate n ds).flatten
  | 0 => .nil
  | n + 1 => by
    rw [List.replicate_succ, List.replicate_succ, List.flatten_cons, List.flatten_cons]
    exact h.app (RvA.rep h n)
theorem RvA.rev : ∀ {vs : List V} {ds : List PD}, RvA c B F vs ds → RvA c B F vs.reverse ds.reverse
  | [], [], _ => .nil
  | v :: vs, d :: ds, .cons h1 h2 => by
    rw [List.reverse_cons, List.reverse_cons]
    exact (RvA.rev h2).app (.cons h1 .nil)
theorem in_ok (n : Bool) (s : Sub F H) (bg : BagR c B F H g) (rx : Rv c B F x dx) (ry : Rv c B F y dy) (h : inF n dx dy = some dz)
    (q : ∀ F' H' v, Gr B F H F' H' → BagR c B F' H' g → Rv c B F' v dz → Q v H') : rIn c.K n x y H Q := by
  unfold inF at h
  cases e : items dy with
  | none => rw [e] at h; cases h
  | some ds =>
    rw [e] at h
    obtain ⟨l, e2⟩ := some_of h
    obtain ⟨p, xs, rfl, hq, ha⟩ := sq_items e ry
    obtain ⟨e3, f3⟩ := rv_toV l.1 rx
    obtain ⟨e4, f4⟩ := rva_toV l.2 ha
    refine ⟨p, xs, rfl, hq.elim (fun k => .inl (s.sl k)) (fun k => .inr (s.st k)), f3, f4, ?_⟩
    rw [e3, e4]
    cases n with
    | false => exact q F H _ (.refl s) bg (e2 ▸ .bl _)
    | true => exact q F H _ (.refl s) bg (e2 ▸ .bl _)
/-- an operation does what opF says -/
theorem op_ok (o : Op2) (s : Sub F H) (bg : BagR c B F H g) (rx : Rv c B F x dx) (ry : Rv c B F y dy) (h : opF o dx dy = some dz)
    (q : ∀ F' H' v, Gr B F H F' H' → BagR c B F' H' g → Rv c B F' v dz → Q v H') : opR c.K o x y H Q := by
  have now : ∀ v, Rv c B F v dz → Q v H := fun v r => q F H v (.refl s) bg r
  cases o with
  | add =>
    cases dx <;> try (first | (cases h; done) | (simp [opF] at h; done))
    · cases dy <;> try (first | (cases h; done) | (simp [opF] at h; done))
      cases rx; cases ry
      have e := Option.some.inj h
      exact .inl ⟨_, _, rfl, rfl, now _ (e ▸ .int _)⟩
    · cases dy <;> try (first | (cases h; done) | (simp [opF] at h; done))
      cases rx; cases ry
      obtain ⟨l, e⟩ := some_of h
      exact .inr (.inl ⟨_, _, rfl, rfl, l, now _ (e ▸ .str _)⟩)
    · cases dy <;> try (first | (cases h; done) | (simp [opF] at h; done))
      cases rx with
      | lst hx ax =>
        cases ry with
        | lst hy ay =>
          obtain ⟨l, e⟩ := some_of h
          subst e
          refine .inr (.inr (.inl ⟨_, _, _, _, rfl, rfl, s _ _ hx, s _ _ hy, by rw [ax.length, ay.length]; exact l, fun p hp => ?_⟩))
          exact q _ _ _ (.fresh s hp) (bg.fresh s hp NT.lst) (.lst upd_same (RvA.mono (Gr.fresh (B := B) s hp).sub _ _ (ax.app ay)))
    · cases dy <;> try (first | (cases h; done) | (simp [opF] at h; done))
      cases rx with
      | tup hx ax =>
        cases ry with
        | tup hy ay =>
          obtain ⟨l, e⟩ := some_of h
          subst e
          refine .inr (.inr (.inr ⟨_, _, _, _, rfl, rfl, s.st hx, s.st hy, by rw [ax.length, ay.length]; exact l, fun z => ?_, fun z1 z2 => ?_, fun z1 z2 p hp => ?_⟩))
          · subst z
            cases ax
            exact now _ (.tup hy ay)
          · subst z2
            cases ay
            rw [List.append_nil] at now
            exact now _ (.tup hx ax)
          · exact q _ _ _ (.fresh s hp) (bg.fresh s hp NT.tup) (.tup (.inl (.inl upd_same)) (RvA.mono (Gr.fresh (B := B) s hp).sub _ _ (ax.app ay)))
  | sub =>
    cases dx <;> try (first | (cases h; done) | (simp [opF] at h; done))
    · cases dy <;> try (first | (cases h; done) | (simp [opF] at h; done))
      cases rx; cases ry
      have e := Option.some.inj h
      exact .inr ⟨_, _, rfl, rfl, now _ (e ▸ .int _)⟩
    · cases dy <;> try (first | (cases h; done) | (simp [opF] at h; done))
      cases rx; cases ry
      have e := Option.some.inj h
      exact .inl ⟨_, _, rfl, rfl, now _ (e ▸ .int _)⟩
  | mul =>
    cases dx <;> try (first | (cases h; done) | (simp [opF] at h; done))
    · cases dy <;> try (first | (cases h; done) | (simp [opF] at h; done))
      cases rx; cases ry
      obtain ⟨l, e⟩ := some_of h
      exact .inl ⟨_, _, rfl, rfl, l, now _ (e ▸ .int _)⟩
    · cases dy <;> try (first | (cases h; done) | (simp [opF] at h; done))
      cases ry
      cases rx with
      | lst hx ax =>
        obtain ⟨l, e⟩ := some_of h
        subst e
        refine .inr ⟨_, _, _, rfl, rfl, s _ _ hx, l.1, l.2.1, Nat.le_trans (by rw [ax.length]; exact l.2.2) (by decide), fun p hp => ?_⟩
        exact q _ _ _ (.fresh s hp) (bg.fresh s hp NT.lst) (.lst upd_same (RvA.mono (Gr.fresh (B := B) s hp).sub _ _ (ax.rep _)))
  | fdv =>
    cases dx <;> try (first | (cases h; done) | (simp [opF] at h; done))
    cases dy <;> try (first | (cases h; done) | (simp [opF] at h; done))
    cases rx; cases ry
    obtain ⟨l, e⟩ := some_of h
    exact ⟨_, _, rfl, rfl, l, now _ (e ▸ .int _)⟩
  | mod =>
    cases dx <;> try (first | (cases h; done) | (simp [opF] at h; done))
    cases dy <;> try (first | (cases h; done) | (simp [opF] at h; done))
    cases rx; cases ry
    obtain ⟨l, e⟩ := some_of h
    exact ⟨_, _, rfl, rfl, l, now _ (e ▸ .int _)⟩
  | eq =>
    have h' : (if shp dx = true ∧ shp dy = true then some (PyData.bool (PyData.eqv dx dy)) else none) = some dz := by cases dx <;> exact h
    obtain ⟨l, e⟩ := some_of h'
    obtain ⟨p1, s1⟩ := shp_dp s l.1 rx
    obtain ⟨p2, s2⟩ := shp_dp s l.2 ry
    exact ⟨_, _, p1, p2, s1, s2, now _ (e ▸ .bl _)⟩
  | ne =>
    have h' : (if shp dx = true ∧ shp dy = true then some (PyData.bool (!PyData.eqv dx dy)) else none) = some dz := by cases dx <;> exact h
    obtain ⟨l, e⟩ := some_of h'
    obtain ⟨p1, s1⟩ := shp_dp s l.1 rx
    obtain ⟨p2, s2⟩ := shp_dp s l.2 ry
    exact ⟨_, _, p1, p2, s1, s2, now _ (e ▸ .bl _)⟩
  | lt =>
    cases dx <;> try (first | (cases h; done) | (simp [opF] at h; done))
    cases dy <;> try (first | (cases h; done) | (simp [opF] at h; done))
    cases rx; cases ry
    have e := Option.some.inj h
    exact ⟨_, _, rfl, rfl, now _ (e ▸ .bl _)⟩
  | le =>
    cases dx <;> try (first | (cases h; done) | (simp [opF] at h; done))
    cases dy <;> try (first | (cases h; done) | (simp [opF] at h; done))
    cases rx; cases ry
    have e := Option.some.inj h
    exact ⟨_, _, rfl, rfl, now _ (e ▸ .bl _)⟩
  | gt =>
    cases dx <;> try (first | (cases h; done) | (simp [opF] at h; done))
    cases dy <;> try (first | (cases h; done) | (simp [opF] at h; done))
    cases rx; cases ry
    have e := Option.some.inj h
    exact ⟨_, _, rfl, rfl, now _ (e ▸ .bl _)⟩
  | ge =>
    cases dx <;> try (first | (cases h; done) | (simp [opF] at h; done))
    cases dy <;> try (first | (cases h; done) | (simp [opF] at h; done))
    cases rx; cases ry
    have e := Option.some.inj h
    exact ⟨_, _, rfl, rfl, now _ (e ▸ .bl _)⟩
  | is =>
    cases dy <;> try (cases dx <;> first | (cases h; done) | (simp [opF] at h; done))
    cases ry
    have h' : some (PyData.bool (isNo dx)) = some dz := by cases dx <;> exact h
    have e := Option.some.inj h'
    refine ⟨rfl, ?_⟩
    rw [dec_non rx]
    exact now _ (e ▸ .bl _)
  | isn =>
    cases dy <;> try (cases dx <;> first | (cases h; done) | (simp [opF] at h; done))
    cases ry
    have h' : some (PyData.bool (!isNo dx)) = some dz := by cases dx <;> exact h
    have e := Option.some.inj h'
    refine ⟨rfl, ?_⟩
    rw [dec_non rx]
    exact now _ (e ▸ .bl _)
  | inn => exact in_ok false s bg rx ry (by cases dx <;> exact h) q
  | nin => exact in_ok true s bg rx ry (by cases dx <;> exact h) q
  | ix =>
    cases dx <;> try (first | (cases h; done) | (simp [opF] at h; done))
    · cases dy <;> try (first | (cases h; done) | (simp [opF] at h; done))
      rename_i z i
      cases rx; cases ry
      have h' : (if z.length ≤ sizeLine then (atI z.cps.toList i).map fun k => PyData.str ⟨#[k]⟩ else none) = some dz := h
      by_cases l : z.length ≤ sizeLine
      · rw [if_pos l] at h'
        obtain ⟨k, e1, e2⟩ := Option.map_eq_some_iff.mp h'
        exact .inr (.inr ⟨_, _, k, rfl, rfl, l, e1, now _ (e2 ▸ .str _)⟩)
      · rw [if_neg l] at h'; cases h'
    · cases dy <;> try (first | (cases h; done) | (simp [opF] at h; done))
      cases ry
      cases rx with
      | lst hx ax =>
        obtain ⟨v, e, r⟩ := ixN_len ax (show atI _ _ = some dz from h)
        exact .inl ⟨_, _, _, v, rfl, rfl, .inl (.inl (s _ _ hx)), e, now _ r⟩
    · cases dy <;> try (first | (cases h; done) | (simp [opF] at h; done))
      cases ry
      cases rx with
      | tup hx ax =>
        obtain ⟨v, e, r⟩ := ixN_len ax (show atI _ _ = some dz from h)
        exact .inr (.inl ⟨_, _, _, v, rfl, rfl, s.st hx, e, now _ r⟩)
end
/-! the rules hold -/
section
variable {X : Cx}
theorem o_add : OpR X (binaryOp .Add) (opR X.K .add) := OpR.or op_add (OpR.or op_add_str (OpR.or op_cat op_catA))
theorem o_sub : OpR X (binaryOp .Sub) (opR X.K .sub) := OpR.or op_sub HX.op_subB
theorem o_mul : OpR X (binaryOp .Mult) (opR X.K .mul) := OpR.or op_mulW op_rep
theorem o_fdv : OpR X (binaryOp .FloorDiv) (opR X.K .fdv) := HX.op_fdivZ
end
end G

/-! enumerate(tuple). -/
namespace HX
open PySem PySem.Spec PyProof.Rows L2
open AutoSeq1 (wpAny_loadPart')
theorem meets_enumT (l : Addr) (items : Array Value) (n : Nat) (dct : Option Addr) (sl : Array (Option Value)) :
    Meets (Builtin.«enumerate.__new__» ⟨[.type "enumerate", .ref l], []⟩) (fun _ R s => s.heap.get? l = some { cls := .type "tuple", dict := dct, data := .seq items n, slots := sl } ∧
      R (.ok (.ret (.ref (s.heap.push { cls := .type "tuple_iterator", data := .fields #[.ref l, .int 0 0] }).objs.size))) { s with heap := (s.heap.push { cls := .type "tuple_iterator", data := .fields #[.ref l, .int 0 0] }).push { cls := .type "enumerate", data := .fields #[.none, .bool false, .ref s.heap.objs.size, rawInt 0, .none, .none] } }) :=
  .of_wp fun prog w A R s h => by
    obtain ⟨hp, g, d, tk, os⟩ := s
    obtain ⟨hl, h⟩ := h
    have hsub := sub_enumerate
    have hL : Heap.IsTuple (Shared.heap ⟨hp, g, d, tk, os⟩) l items := ⟨_, hl, rfl, n, rfl⟩
    wp_walk using wpAny_loadPart' hl
    refine wpAny_stack_any fun st => wpAny_pure ?_
    split
    · rename_i c _ _ _ _ _
      cases (c == Value.type "enumerate")
      · wp_walk using wpAny_loadPart' hl, wpAny_pyIter_tuple hL
        exact ⟨_, rfl, h⟩
      · wp_walk using wpAny_loadPart' hl, wpAny_pyIter_tuple hL
        exact ⟨_, rfl, h⟩
    · wp_walk using wpAny_loadPart' hl, wpAny_pyIter_tuple hL
      exact ⟨_, rfl, h⟩
theorem call_enumT {prog : Program} {w : World} {A : Around} {E : Value → Shared → Prop} {s : Shared} {l : Addr} {items : Array Value} {Q : Value → Shared → Prop} (hL : s.heap.IsTuple l items)
    (h : ∀ h', IsEnum h' (s.heap.objs.size + 1) s.heap.objs.size 0 .none → h'.IsTupleIter s.heap.objs.size l 0 → h'.objs.size = s.heap.objs.size + 2 → (∀ b o, s.heap.get? b = some o → h'.get? b = some o) → Q (.ref (s.heap.objs.size + 1)) { s with heap := h' }) :
    wpAny (model prog w) A (call (.type "enumerate") [.ref l]) Q E s := by
  obtain ⟨⟨c, dct, dt, sl⟩, hl, hc, n, hd⟩ := hL
  replace hc : c = .type "tuple" := hc
  replace hd : dt = .seq items n := hd
  subst hc hd
  refine callType_new F.called_enumerate (by decide) (F.typeCall_enumerate_1 _) (F.newCall_enumerate_1 _) (fun obj => F.args_object_init_2 obj _) F.entry_enumerate_new (meets_enumT l items n dct sl) ⟨hl, ?_⟩
  have hz : (s.heap.push { cls := .type "tuple_iterator", data := .fields #[.ref l, .int 0 0] }).objs.size = s.heap.objs.size + 1 := Heap.size_push ..
  show _ ∧ _
  rw [hz]
  have he : IsEnum ((s.heap.push { cls := .type "tuple_iterator", data := .fields #[.ref l, .int 0 0] }).push { cls := .type "enumerate", data := .fields #[.none, .bool false, .ref s.heap.objs.size, rawInt 0, .none, .none] }) (s.heap.objs.size + 1) s.heap.objs.size 0 .none := by
    have q := Heap.get?_push_size (s.heap.push { cls := .type "tuple_iterator", data := .fields #[.ref l, .int 0 0] }) (o := { cls := .type "enumerate", data := .fields #[.none, .bool false, .ref s.heap.objs.size, rawInt 0, .none, .none] }) rfl
    rw [hz] at q
    exact q
  exact ⟨⟨_, he, rfl⟩, h _ he ⟨_, Heap.get?_push_of_some _ (Heap.get?_push_size _ rfl), rfl, rfl⟩ (by rw [Heap.size_push, hz]) fun b o x => Heap.get?_push_of_some _ (Heap.get?_push_of_some _ x)⟩
/-- the tuple at a, the items in new pairs with their places -/
def IteT (K : PySem.W.Frag) (a : Addr) : It :=
  ⟨fun i H => ∃ (xs : List V) (x : V), SqT K H a xs ∧ xs[i]? = some x, fun i H v H' => ∃ T x, v = .ref T ∧ H T = none ∧ H' = upd H T (.tup [.int (i : Nat), x]) ∧ ∀ xs, SqT K H a xs → xs[i]? = some x, fun i H => ∃ xs : List V, SqT K H a xs ∧ xs.length ≤ i⟩
theorem turn_enumT {P : Program} {w : World} {K : PySem.W.Frag} {elts : List Expr} {kk : Nat} {tpos : Pos} (a e it : Addr) :
    Turn P w K (.Tuple elts kk tpos) (IteT K a) [e, it] e (fun i h => (∃ old, IsEnum h e it ((i : Nat) : Int) old) ∧ h.IsTupleIter it a i ∧ e ≠ it) where
  mem := by simp
  obj := fun i h st b hb => by
    obtain ⟨⟨old, he⟩, ⟨o, ho, hc, hd⟩, _⟩ := st
    rcases (show b = e ∨ b = it by simpa using hb) with z | z
    · rw [z]; exact ⟨_, he, fun v q => nomatch q⟩
    · rw [z]; exact ⟨o, ho, fun v q => by rw [hd] at q; cases q⟩
  keep := fun i h h' st k => let ⟨⟨old, he⟩, hi, hne⟩ := st; ⟨⟨old, k e (by simp) _ he⟩, hi.at fun o q => k it (by simp) o q, hne⟩
  item := by
    intro X hP hw hK hc i pins s σ H E I hf st hg
    subst hP hw hK
    obtain ⟨⟨old, he⟩, hit, hne⟩ := st
    obtain ⟨xs, x, hq, hx⟩ := hg
    obtain ⟨its, rv, p, hz⟩ := I.tuple hq
    obtain ⟨u, hu, ru⟩ := rv.get hx
    have p' : s.heap.IsTuple a its.toArray := p
    have hel : e < s.heap.objs.size := Heap.lt_size he
    have hil : it < s.heap.objs.size := by obtain ⟨_, q, _⟩ := hit; exact Heap.lt_size q
    have hu' : its.toArray[i]? = some u := by simpa using hu
    have nai : a ≠ it := fun z => by
      obtain ⟨o1, q1, c1, _⟩ := hit
      obtain ⟨o2, q2, c2, _⟩ := p'
      rw [z, q1] at q2
      cases q2
      rw [c1] at c2
      exact absurd (Value.type.inj c2) (by decide)
    have nae : e ≠ a := fun z => by
      obtain ⟨o2, q2, c2, _⟩ := p'
      rw [← z, he] at q2
      cases q2
      exact absurd (Value.type.inj c2) (by decide)
    refine wpAny_pyNext_enum_itemD (Draws.tuple (A := X.A.in1) (by show X.A.handled = none; exact I.ok.hd hc) it a nai its.toArray) he ⟨hit, p'⟩ (Array.getElem?_eq_some_iff.mp hu').1 hne (by simp [hne, nae]) fun v h' tk hv ho hst' hT hsz hk => ?_
    rw [hu'] at hv
    cases hv
    refine ⟨_, rfl, wpAny_letOwnedTupleGo_enum (s := { s with heap := h', toks := tk + 1 }) ho fun h'' he' sb => ?_⟩
    have hT2 : h''.get? s.heap.objs.size = some { cls := .type "tuple", data := .seq #[.int i tk, u] } := (sb.2 _ (Nat.ne_of_gt hel)).trans hT
    have new : ObjOk X.prog X.w (upd H s.heap.objs.size (.tup [.int (i : Nat), x])) h'' s.heap.objs.size (.tup [.int (i : Nat), x]) := ⟨by show 2 ≤ sizeLine; decide, [.int i tk, u], .cons ⟨_, rfl⟩ (.cons ru .nil), ⟨_, hT2, rfl, _, rfl⟩⟩
    have I1 : Inv X pins σ (upd H s.heap.objs.size (.tup [.int (i : Nat), x])) { s with heap := h'', toks := tk + 1 } :=
      I.turnedNew (ch := [e, it]) (fun b ob hb q => (sb.2 b (fun z => hb (by simp [z]))).trans (hk b ob (fun z => hb (by simp [z])) (fun z => hb (by simp [z])) q)) hf (Nat.le_refl _) new
    refine ⟨.ref s.heap.objs.size, _, I1, rfl, ⟨_, x, rfl, I.hok.fresh (Nat.le_refl _), rfl, fun ys hy => by rw [I.tuple_inj hy hq]; exact hx⟩, ⟨⟨u, ?_⟩, hst'.1.at fun o q => (sb.2 it (Ne.symm hne)).trans q, hne⟩, fun b hb => ?_⟩
    · rw [show ((i + 1 : Nat) : Int) = (i : Int) + 1 by omega]
      exact he'
    · have hb' : b < s.heap.objs.size := by
        rcases (show b = e ∨ b = it by simpa using hb) with z | z
        · rw [z]; exact hel
        · rw [z]; exact hil
      rw [upd_ne (Nat.ne_of_lt hb')]
      exact (hf b hb).1
  done := by
    intro X hP hw hK hc i pins s σ H E I hf st hg
    subst hP hw hK
    obtain ⟨⟨old, he⟩, hit, hne⟩ := st
    obtain ⟨xs, hq, hx⟩ := hg
    obtain ⟨its, rv, p, hz⟩ := I.tuple hq
    have p' : s.heap.IsTuple a its.toArray := p
    obtain ⟨f0, f1, f2, f3, f4, f5⟩ := hf it (by simp)
    have hl := rv.length
    have hT : s.TypeIs (.ref e) "enumerate" := ⟨_, he, rfl⟩
    unfold pyNext
    refine wpAny_bind (wpAny_attempt (wpAny_callSpecial?_slot (name := Str.ofString "__next__") hT F.slot_enumerate_next (wpAny_call_entry F.slot_enumerate_next hT F.entry_enumerate_next ?_ (F.args_enumerate_next_1 _))))
    show wpAny _ _ (field (.ref e) 2 >>= _) _ _ _
    refine wpAny_bind (wpAny_field he rfl (x := .ref it) rfl ?_)
    refine wpAny_bind (wpAny_nextOf_tuple_end (A := X.A.in1) (by show X.A.handled = none; exact I.ok.hd hc) hit p' (by simp; omega) fun h' x eb hx' => ?_)
    obtain ⟨o, ho, hc'⟩ := hx'
    refine wpAny_bind (wpAny_isInstance (T := "StopIteration") (b := true) ⟨o, ho, hc'⟩ isSubtype_stop ?_)
    exact wpAny_pure ⟨rfl, I.turned (t' := s.toks) (fun b o hb q => eb b o hb q) f0 f1 f3 f4 f5⟩
  self := fun A i s Q E st h => let ⟨⟨_, he⟩, _⟩ := st; wpAny_pyIter_enum he h
def iEnumT (K : PySem.W.Frag) (ta : TA) : TI := fun σ H R => ta σ H fun vs H1 => ∃ a xs, vs = [.ref a] ∧ SqT K H1 a xs ∧ R (IteT K a) H1
theorem pi_enumT {X : Cx} {e : Expr} {ta : TA} {p pos tpos : Pos} {elts : List Expr} {kk : Nat} (hg : Gl X "enumerate") (hm : X.mg "enumerate" = none) (ha : PA X [e] ta) (hs : starEach [e] X.env = [(false, eval e X.env)] := by rfl) :
    PI X (.Tuple elts kk tpos) (.Call (.Name "enumerate" p) [e] [] pos) (iEnumT X.K ta) := by
  refine ⟨fun pins s σ H R I h => ?_⟩
  refine Call_ (ld_blt I hg hm boot_enumerate (PyProof.Rows.callWith_type1 (thn (ha.run pos pins s σ H _ I h) fun us s1 ⟨vs, H1, I1, r1, q1⟩ => ?_) hs rfl))
  obtain ⟨a, xs, ex, hq, q⟩ := q1
  subst ex
  cases r1 with
  | cons r rr =>
    cases rr
    cases r
    obtain ⟨its, rv, p', hz⟩ := I1.tuple hq
    refine call_enumT (show s1.heap.IsTuple a its.toArray from p') fun h' he hit hsz hk => wpAny_pyIter_enum he ?_
    have I2 : Inv X pins σ H1 { s1 with heap := h' } := I1.kept (t' := s1.toks) hk
    refine ⟨s1.heap.objs.size + 1, [s1.heap.objs.size + 1, s1.heap.objs.size], _, _, H1, rfl, I2, turn_enumT a (s1.heap.objs.size + 1) s1.heap.objs.size, ⟨⟨.none, he⟩, hit, Nat.succ_ne_self _⟩, fun b hb => ?_, q⟩
    have hle : s1.heap.objs.size ≤ b := by
      rcases (show b = s1.heap.objs.size + 1 ∨ b = s1.heap.objs.size by simpa using hb) with z | z
      · rw [z]; exact Nat.le_add_right _ _
      · rw [z]; exact Nat.le_refl _
    exact I1.fpOk hle (I1.hok.fresh hle)
end HX

/-! The forms as readings of the hand layer, and that these hold where the forms reckon. -/
namespace G
open PySem PySem.Spec PyProof.Rows L2

/-! ### slots -/
def SlR (c : Cn) (B : Option Addr) (F H : Hp) (o : Option V) : Sl → Prop
  | .no => True
  | .d x => ∃ v, o = some v ∧ Rv c B F v x
  | .own xs => ∃ a vs, o = some (.ref a) ∧ H a = some (.lst vs) ∧ F a = none ∧ some a ≠ B ∧ RvA c B F vs xs
structure MEnv (c : Cn) (B : Option Addr) (F H : Hp) (σ : L2.St) (env : EnvD) : Prop where
  len : σ.length = env.length
  sl : ∀ (i : Nat) (s : Sl), env[i]? = some s → ∃ o, σ[i]? = some o ∧ SlR c B F H o s
  ap : ∀ (i j : Nat) (a : Addr) (xs ys : List PD), env[i]? = some (.own xs) → env[j]? = some (.own ys) → σ[i]? = some (some (.ref a)) → σ[j]? = some (some (.ref a)) → i = j
section
variable {c : Cn} {B : Option Addr} {F H F' H' : Hp} {σ : L2.St} {env : EnvD}
theorem SlR.grow {o : Option V} {s : Sl} (h : SlR c B F H o s) (g : Gr B F H F' H') : SlR c B F' H' o s := by
  cases s with
  | no => exact h
  | d x =>
    obtain ⟨v, e, r⟩ := h
    exact ⟨v, e, Rv.mono g.sub _ _ r⟩
  | own xs =>
    obtain ⟨a, vs, e, ha, hf, nb, r⟩ := h
    exact ⟨a, vs, e, g.keep _ _ ha NT.lst nb, g.new _ _ ha NT.lst hf, nb, RvA.mono g.sub _ _ r⟩
theorem MEnv.grow (h : MEnv c B F H σ env) (g : Gr B F H F' H') : MEnv c B F' H' σ env :=
  ⟨h.len, fun i s e => by
    obtain ⟨o, h1, h2⟩ := h.sl i s e
    exact ⟨o, h1, h2.grow g⟩, h.ap⟩
theorem MEnv.get (h : MEnv c B F H σ env) {i : Nat} {x : PD} (e : env[i]? = some (.d x)) : ∃ v, σ[i]? = some (some v) ∧ Rv c B F v x := by
  obtain ⟨o, h1, v, h2, h3⟩ := h.sl i _ e
  subst h2
  exact ⟨v, h1, h3⟩
/-- a slot gets a value (or nothing is known of it any more) -/
theorem MEnv.set (h : MEnv c B F H σ env) (i : Nat) {o : Option V} {s : Sl} (r : SlR c B F H o s) (n : ∀ xs, s ≠ .own xs) : MEnv c B F H (σ.set i o) (env.set i s) := by
  refine ⟨by rw [List.length_set, List.length_set]; exact h.len, fun j t e => ?_, fun j k a xs ys e1 e2 f1 f2 => ?_⟩
  · by_cases q : i = j
    · subst q
      by_cases l : i < env.length
      · rw [List.getElem?_set_self l] at e
        cases e
        exact ⟨o, List.getElem?_set_self (by rw [h.len]; exact l), r⟩
      · rw [List.getElem?_eq_none (by rw [List.length_set]; omega)] at e
        cases e
    · rw [List.getElem?_set_ne q] at e ⊢
      exact h.sl j t e
  · have ne : ∀ m zs, (env.set i s)[m]? = some (.own zs) → i ≠ m := fun m zs e q => by
      subst q
      by_cases l : i < env.length
      · rw [List.getElem?_set_self l] at e
        exact n zs (Option.some.inj e)
      · rw [List.getElem?_eq_none (by rw [List.length_set]; omega)] at e
        cases e
    have n1 := ne j xs e1
    have n2 := ne k ys e2
    rw [List.getElem?_set_ne n1] at e1 f1
    rw [List.getElem?_set_ne n2] at e2 f2
    exact h.ap j k a xs ys e1 e2 f1 f2
theorem MEnv.wipe (h : MEnv c B F H σ env) : ∀ own : List Nat, MEnv c B F H (wipe σ own) (wipeD env own)
  | [] => h
  | v :: vs => (MEnv.wipe h vs).set v (o := none) (s := .no) trivial (fun _ q => nomatch q)
theorem wipe_set (σ : L2.St) (i : Nat) (o : Option V) : ∀ own : List Nat, own.contains i = true → L2.wipe (σ.set i o) own = L2.wipe σ own
  | [], h => by cases h
  | v :: vs, h => by
    show (L2.wipe (σ.set i o) vs).set v none = (L2.wipe σ vs).set v none
    by_cases q : vs.contains i = true
    · rw [wipe_set σ i o vs q]
    · have e : v = i := by
        rw [List.contains_cons] at h
        have q' : vs.contains i = false := by simpa using q
        rw [q', Bool.or_false] at h
        exact (beq_iff_eq.mp h).symm
      subst e
      have key : ∀ ws : List Nat, ws.contains v = false → L2.wipe (σ.set v o) ws = (L2.wipe σ ws).set v o := by
        intro ws
        induction ws with
        | nil => intro _; rfl
        | cons w ws ih =>
          intro hw
          rw [List.contains_cons, Bool.or_eq_false_iff] at hw
          show (L2.wipe (σ.set v o) ws).set w none = ((L2.wipe σ ws).set w none).set v o
          rw [ih hw.2, List.set_comm _ _ (fun q => by rw [q] at hw; simp at hw)]
      rw [key vs (by simpa using q), List.set_set]
end

/-! ### targets -/
mutual
def dG (K : PySem.W.Frag) : Tg → TG
  | .name i => gName i
  | .tup ts => gTup K ts.len (dGs K ts)
def dGs (K : PySem.W.Frag) : Tgs → TGs
  | .nil => gNil
  | .cons t ts => gCons (dG K t) (dGs K ts)
end
section
variable {c : Cn} {B : Option Addr} {F H : Hp}
theorem tgs_len : ∀ (ts : Tgs) (ds : List PD) (env env' : EnvD), tgsF ts ds env = some env' → ds.length = ts.len
  | .nil, [], _, _, _ => rfl
  | .nil, _ :: _, _, _, h => by simp [tgsF] at h
  | .cons t ts, [], _, _, h => by simp [tgsF] at h
  | .cons t ts, d :: ds, env, env', h => by
    unfold tgsF at h
    cases e : tgF t d env with
    | none => rw [e] at h; cases h
    | some e1 =>
      rw [e] at h
      show ds.length + 1 = ts.len + 1
      rw [tgs_len ts ds e1 env' h]
mutual
theorem tg_ok (s : Sub F H) : ∀ (t : Tg) (d : PD) (env env' : EnvD) (σ : L2.St) (v : V) (Q : L2.St → Hp → Prop), tgF t d env = some env' → MEnv c B F H σ env → Rv c B F v d →
    (∀ σ', MEnv c B F H σ' env' → (∀ own, tgIn t own = true → L2.wipe σ' own = L2.wipe σ own) → Q σ' H) → dG c.K t v σ H Q
  | .name i, d, env, env', σ, v, Q, h, me, r, q => by
    have e : env.set i (.d d) = env' := Option.some.inj (show some (env.set i (.d d)) = some env' from h)
    subst e
    exact q _ (me.set i ⟨v, rfl, r⟩ (fun _ z => nomatch z)) fun own ho => wipe_set σ i _ own ho
  | .tup ts, .tuple ds, env, env', σ, v, Q, h, me, r, q => by
    cases r with
    | tup hs ha => exact ⟨_, _, rfl, s.st hs, by rw [ha.length]; exact tgs_len ts ds env env' h, tgs_ok s ts ds env env' σ _ Q h me ha q⟩
  | .tup ts, .none, _, _, _, _, _, h, _, _, _ => by cases h
  | .tup ts, .bool _, _, _, _, _, _, h, _, _, _ => by cases h
  | .tup ts, .int _, _, _, _, _, _, h, _, _, _ => by cases h
  | .tup ts, .str _, _, _, _, _, _, h, _, _, _ => by cases h
  | .tup ts, .list _, _, _, _, _, _, h, _, _, _ => by cases h
  | .tup ts, .dict _, _, _, _, _, _, h, _, _, _ => by cases h
theorem tgs_ok (s : Sub F H) : ∀ (ts : Tgs) (ds : List PD) (env env' : EnvD) (σ : L2.St) (vs : List V) (Q : L2.St → Hp → Prop), tgsF ts ds env = some env' → MEnv c B F H σ env → RvA c B F vs ds →
    (∀ σ', MEnv c B F H σ' env' → (∀ own, tgsIn ts own = true → L2.wipe σ' own = L2.wipe σ own) → Q σ' H) → dGs c.K ts vs σ H Q
  | .nil, [], env, env', σ, vs, Q, h, me, r, q => by
    cases r
    have e : env = env' := Option.some.inj (show some env = some env' from h)
    subst e
    exact ⟨rfl, q σ me fun _ _ => rfl⟩
  | .nil, _ :: _, _, _, _, _, _, h, _, _, _ => by simp [tgsF] at h
  | .cons t ts, [], _, _, _, _, _, h, _, _, _ => by simp [tgsF] at h
  | .cons t ts, d :: ds, env, env', σ, vs, Q, h, me, r, q => by
    cases r with
    | cons r1 r2 =>
      unfold tgsF at h
      cases e : tgF t d env with
      | none => rw [e] at h; cases h
      | some e1 =>
        rw [e] at h
        refine ⟨_, _, rfl, tg_ok s t d env e1 σ _ _ e me r1 fun σ1 me1 w1 => ?_⟩
        refine tgs_ok s ts ds e1 env' σ1 _ Q h me1 r2 fun σ2 me2 w2 => q σ2 me2 fun own ho => ?_
        have ho' : tgIn t own = true ∧ tgsIn ts own = true := by
          have z : (tgIn t own && tgsIn ts own) = true := ho
          simpa using z
        rw [w2 own ho'.2, w1 own ho'.1]
end
end
/-! ### what is walked -/
structure Walks (c : Cn) (B : Option Addr) (J : It) (F0 : Hp) (ds : List PD) : Prop where
  go : ∀ i F H, Sub F0 F → Sub F H → i < ds.length → J.go i H
  stop : ∀ i F H, Sub F0 F → Sub F H → ds.length ≤ i → J.stop i H
  yld : ∀ (i : Nat) (F H : Hp) (x : V) (H' : Hp) (d : PD), Sub F0 F → Sub F H → ds[i]? = some d → J.yld i H x H' → ∃ F', Gr B F H F' H' ∧ Rv c B F' x d ∧ ∀ g, BagR c B F H g → BagR c B F' H' g
section
variable {c : Cn} {B : Option Addr} {F H : Hp}
theorem walks_l {a : Addr} {xs : List V} {ds : List PD} (hs : F a = some (.lst xs)) (ha : RvA c B F xs ds) : Walks c B (Itl c.K a) F ds where
  go := fun i F1 H1 gs gi l => by
    have e := List.getElem?_eq_getElem (show i < xs.length by rw [ha.length]; exact l)
    exact ⟨xs, _, .inl (.inl (gi _ _ (gs _ _ hs))), e⟩
  stop := fun i F1 H1 gs gi l => ⟨xs, .inl (.inl (gi _ _ (gs _ _ hs))), by rw [ha.length]; exact l⟩
  yld := fun i F1 H1 x H' d gs gi e ⟨eh, hx⟩ => by
    subst eh
    have e1 := hx xs (.inl (.inl (gi _ _ (gs _ _ hs))))
    obtain ⟨v, h1, r⟩ := ha.get e
    rw [e1] at h1
    cases h1
    exact ⟨F1, .refl gi, Rv.mono gs _ _ r, fun _ h => h⟩
theorem walks_t {a : Addr} {xs : List V} {ds : List PD} (hs : SqT c.K F a xs) (ha : RvA c B F xs ds) : Walks c B (Itt c.K a) F ds where
  go := fun i F1 H1 gs gi l => by
    have e := List.getElem?_eq_getElem (show i < xs.length by rw [ha.length]; exact l)
    exact ⟨xs, _, gi.st (gs.st hs), e⟩
  stop := fun i F1 H1 gs gi l => ⟨xs, gi.st (gs.st hs), by rw [ha.length]; exact l⟩
  yld := fun i F1 H1 x H' d gs gi e ⟨eh, hx⟩ => by
    subst eh
    have e1 := hx xs (gi.st (gs.st hs))
    obtain ⟨v, h1, r⟩ := ha.get e
    rw [e1] at h1
    cases h1
    exact ⟨F1, .refl gi, Rv.mono gs _ _ r, fun _ h => h⟩
theorem walks_r {m : Int} {n : Nat} : Walks c B (Itr m n) F ((List.range n).map fun k => .int (m + (k : Nat))) where
  go := fun i F1 H1 gs gi l => by
    have l' : i < n := by simpa using l
    exact l'
  stop := fun i F1 H1 gs gi l => by
    have l' : n ≤ i := by simpa using l
    exact l'
  yld := fun i F1 H1 x H' d gs gi e ⟨eh, hx⟩ => by
    subst eh
    subst hx
    rw [List.getElem?_map] at e
    obtain ⟨k, e1, e2⟩ := Option.map_eq_some_iff.mp e
    have e3 : k = i := by
      by_cases l : i < n
      · rw [List.getElem?_range l] at e1
        exact (Option.some.inj e1).symm
      · rw [List.getElem?_eq_none (by simpa using l)] at e1
        cases e1
    subst e3
    subst e2
    exact ⟨F1, .refl gi, .int _, fun _ h => h⟩
theorem walks_r0 {n : Nat} : Walks c B (Itr 0 n) F ((List.range n).map fun k => .int (k : Nat)) := by
  have h := walks_r (c := c) (B := B) (F := F) (m := 0) (n := n)
  simpa using h
theorem walks_e {a : Addr} {xs : List V} {ds : List PD} (hs : F a = some (.lst xs)) (ha : RvA c B F xs ds) : Walks c B (Ite c.K a) F (enumF ds) where
  go := fun i F1 H1 gs gi l => by
    have l' : i < ds.length := by simpa [enumF] using l
    have e := List.getElem?_eq_getElem (show i < xs.length by rw [ha.length]; exact l')
    exact ⟨xs, _, .inl (.inl (gi _ _ (gs _ _ hs))), e⟩
  stop := fun i F1 H1 gs gi l => ⟨xs, .inl (.inl (gi _ _ (gs _ _ hs))), by
    have l' : ds.length ≤ i := by simpa [enumF] using l
    rw [ha.length]; exact l'⟩
  yld := fun i F1 H1 x H' d gs gi e ⟨T, y, ex, hT, eh, hx⟩ => by
    subst ex
    subst eh
    have e1 := hx xs (.inl (.inl (gi _ _ (gs _ _ hs))))
    unfold enumF at e
    rw [List.getElem?_map] at e
    obtain ⟨p, e2, e3⟩ := Option.map_eq_some_iff.mp e
    rw [List.getElem?_zipIdx] at e2
    obtain ⟨dd, e4, e5⟩ := Option.map_eq_some_iff.mp e2
    subst e5
    subst e3
    obtain ⟨v, h1, r⟩ := ha.get e4
    rw [e1] at h1
    cases h1
    have gf := Gr.fresh (B := B) (o := HO.tup [V.int (i : Nat), y]) gi hT
    refine ⟨_, gf, ?_, fun gg hb => hb.fresh gi hT NT.tup⟩
    refine .tup (.inl (.inl upd_same)) (.cons ?_ (.cons (Rv.mono (gs.trans gf.sub) _ _ r) .nil))
    show Rv c B _ (.int ((i : Nat) : Int)) (.int ((0 + i : Nat) : Int))
    rw [Nat.zero_add]
    exact .int _
theorem walks_et {a : Addr} {xs : List V} {ds : List PD} (hs : SqT c.K F a xs) (ha : RvA c B F xs ds) : Walks c B (HX.IteT c.K a) F (enumF ds) where
  go := fun i F1 H1 gs gi l => by
    have l' : i < ds.length := by simpa [enumF] using l
    have e := List.getElem?_eq_getElem (show i < xs.length by rw [ha.length]; exact l')
    exact ⟨xs, _, gi.st (gs.st hs), e⟩
  stop := fun i F1 H1 gs gi l => ⟨xs, gi.st (gs.st hs), by
    have l' : ds.length ≤ i := by simpa [enumF] using l
    rw [ha.length]; exact l'⟩
  yld := fun i F1 H1 x H' d gs gi e ⟨T, y, ex, hT, eh, hx⟩ => by
    subst ex
    subst eh
    have e1 := hx xs (gi.st (gs.st hs))
    unfold enumF at e
    rw [List.getElem?_map] at e
    obtain ⟨p, e2, e3⟩ := Option.map_eq_some_iff.mp e
    rw [List.getElem?_zipIdx] at e2
    obtain ⟨dd, e4, e5⟩ := Option.map_eq_some_iff.mp e2
    subst e5
    subst e3
    obtain ⟨v, h1, r⟩ := ha.get e4
    rw [e1] at h1
    cases h1
    have gf := Gr.fresh (B := B) (o := HO.tup [V.int (i : Nat), y]) gi hT
    refine ⟨_, gf, ?_, fun gg hb => hb.fresh gi hT NT.tup⟩
    refine .tup (.inl (.inl upd_same)) (.cons ?_ (.cons (Rv.mono (gs.trans gf.sub) _ _ r) .nil))
    show Rv c B _ (.int ((i : Nat) : Int)) (.int ((0 + i : Nat) : Int))
    rw [Nat.zero_add]
    exact .int _
theorem walks_zT {a b : Addr} {xs ys : List V} {ds es : List PD} (h1 : SqT c.K F a xs) (h2 : SqT c.K F b ys) (r1 : RvA c B F xs ds) (r2 : RvA c B F ys es) : Walks c B (RZ.ItzT c.K a b) F (zipF ds es) := by
  have mv : ∀ {F1 H1 : Hp}, Sub F F1 → Sub F1 H1 → SqT c.K H1 a xs := fun gs gi => gi.st (gs.st h1)
  have mw : ∀ {F1 H1 : Hp}, Sub F F1 → Sub F1 H1 → SqT c.K H1 b ys := fun gs gi => gi.st (gs.st h2)
  have len : (zipF ds es).length = min ds.length es.length := by unfold zipF; rw [List.length_map, List.length_zip]
  refine ⟨fun i F1 H1 gs gi l => ?_, fun i F1 H1 gs gi l => ?_, fun i F1 H1 x H' d gs gi e => ?_⟩
  · rw [len] at l
    have l1 : i < xs.length := by rw [r1.length]; omega
    have l2 : i < ys.length := by rw [r2.length]; omega
    exact ⟨xs, ys, _, _, mv gs gi, mw gs gi, List.getElem?_eq_getElem l1, List.getElem?_eq_getElem l2⟩
  · rw [len] at l
    exact ⟨xs, ys, mv gs gi, mw gs gi, by rw [r1.length, r2.length]; omega⟩
  · rintro ⟨T, x1, x2, ex, hT, eh, f1, f2⟩
    subst ex
    subst eh
    have e1 := f1 xs (mv gs gi)
    have e2 := f2 ys (mw gs gi)
    unfold zipF at e
    rw [List.getElem?_map] at e
    obtain ⟨p, e3, e4⟩ := Option.map_eq_some_iff.mp e
    subst e4
    obtain ⟨e5, e6⟩ := List.getElem?_zip_eq_some.mp e3
    obtain ⟨v1, g1, q1⟩ := r1.get e5
    obtain ⟨v2, g2, q2⟩ := r2.get e6
    rw [e1] at g1
    rw [e2] at g2
    cases g1
    cases g2
    have gf := Gr.fresh (B := B) (o := HO.tup [x1, x2]) gi hT
    exact ⟨_, gf, .tup (.inl (.inl upd_same)) (.cons (Rv.mono (gs.trans gf.sub) _ _ q1) (.cons (Rv.mono (gs.trans gf.sub) _ _ q2) .nil)), fun gg hb => hb.fresh gi hT NT.tup⟩
theorem walks_zL {a b : Addr} {xs ys : List V} {ds es : List PD} (h1 : SqL c.K F a xs) (h2 : SqL c.K F b ys) (r1 : RvA c B F xs ds) (r2 : RvA c B F ys es) : Walks c B (Itz c.K a b) F (zipF ds es) := by
  have mv : ∀ {F1 H1 : Hp}, Sub F F1 → Sub F1 H1 → SqL c.K H1 a xs := fun gs gi => gi.sl (gs.sl h1)
  have mw : ∀ {F1 H1 : Hp}, Sub F F1 → Sub F1 H1 → SqL c.K H1 b ys := fun gs gi => gi.sl (gs.sl h2)
  have len : (zipF ds es).length = min ds.length es.length := by unfold zipF; rw [List.length_map, List.length_zip]
  refine ⟨fun i F1 H1 gs gi l => ?_, fun i F1 H1 gs gi l => ?_, fun i F1 H1 x H' d gs gi e => ?_⟩
  · rw [len] at l
    have l1 : i < xs.length := by rw [r1.length]; omega
    have l2 : i < ys.length := by rw [r2.length]; omega
    exact ⟨xs, ys, _, _, mv gs gi, mw gs gi, List.getElem?_eq_getElem l1, List.getElem?_eq_getElem l2⟩
  · rw [len] at l
    exact ⟨xs, ys, mv gs gi, mw gs gi, by rw [r1.length, r2.length]; omega⟩
  · rintro ⟨T, x1, x2, ex, hT, eh, f1, f2⟩
    subst ex
    subst eh
    have e1 := f1 xs (mv gs gi)
    have e2 := f2 ys (mw gs gi)
    unfold zipF at e
    rw [List.getElem?_map] at e
    obtain ⟨p, e3, e4⟩ := Option.map_eq_some_iff.mp e
    subst e4
    obtain ⟨e5, e6⟩ := List.getElem?_zip_eq_some.mp e3
    obtain ⟨v1, g1, q1⟩ := r1.get e5
    obtain ⟨v2, g2, q2⟩ := r2.get e6
    rw [e1] at g1
    rw [e2] at g2
    cases g1
    cases g2
    have gf := Gr.fresh (B := B) (o := HO.tup [x1, x2]) gi hT
    exact ⟨_, gf, .tup (.inl (.inl upd_same)) (.cons (Rv.mono (gs.trans gf.sub) _ _ q1) (.cons (Rv.mono (gs.trans gf.sub) _ _ q2) .nil)), fun gg hb => hb.fresh gi hT NT.tup⟩
end
end G

/-! The expressions. -/
namespace G
open PySem PySem.Spec PyProof.Rows L2

/-- a def's promise by what it reckons -/
def SpOf (c : Cn) (n : Nat) (f : List PD → M PD) : Sp := fun vs H Q E => ∃ (B : Option Addr) (F : Hp) (g ds : List PD), Sub F H ∧ BagR c B F H g ∧ RvA c B F vs ds ∧ ds.length = n ∧
  Post c B E F H (f ds g) fun d _ F' H' => ∀ v, Rv c B F' v d → Q v H'
/-- what is leant on: the defs' promises; what is made of a lambda -/
structure Th where
  c : Cn
  sp : Nat → Sp
  hT : (XK → Hp → VK → Prop) → Hp → VK → Prop
def slR (K : PySem.W.Frag) : V → Option Int → Option Int → Hp → VK → Prop := fun x lo hi H Q => rSlS x lo hi H Q ∨ (rSlL K x lo hi H Q ∨ rSlA K x lo hi H Q)
def bltR (K : PySem.W.Frag) : Blt → List V → Hp → VK → Prop
  | .abs => fun xs H Q => ∃ i, xs = [V.int i] ∧ Q (V.int (if i < 0 then -i else i)) H
  | .len => fun xs H Q => (∃ p ys, xs = [V.ref p] ∧ (SqL K H p ys ∨ SqT K H p ys) ∧ Q (V.int ys.length) H) ∨ ∃ z, xs = [V.str z] ∧ z.length ≤ sizeLine ∧ Q (V.int z.length) H
  | .int => fun xs H Q => (∃ i, xs = [V.int i] ∧ Q (V.int i) H) ∨ ∃ k, xs = [V.bl k] ∧ Q (V.int (if k = true then 1 else 0)) H
  | .tup => fun xs H Q => ∃ p ys, xs = [V.ref p] ∧ ((SqL K H p ys ∧ ∀ (l : Addr), H l = none → Q (V.ref l) (upd H l (HO.tup ys))) ∨ SqT K H p ys ∧ Q (V.ref p) H)
  | .lst => Evl.rListS K
  | .any => rAny K
  | .all => rAll K
  | .max1 => rMax K
/-- nothing is let out -/
def E00 : XK := fun _ _ _ => False
section
variable (Θ : Th)
mutual
def dE (E : XK) : Ex → TE
  | .var i => tVar i
  | .lit d => tC (toV d)
  | .glb n => tC (Θ.c.gv n)
  | .op2 o a b => tOp (opR Θ.c.K o) (dE E a) (dE E b)
  | .neg a => tUn (rU fun i => V.int (-i)) (dE E a)
  | .chain o o' a b k => tChain (opR Θ.c.K o) (opR Θ.c.K o') (dE E a) (dE E b) (dE E k)
  | .ite t a b => tIf (dT E t) (dE E a) (dE E b)
  | .andV a b => tAndV (dE E a) (dE E b)
  | .orV a b => tOrV (dE E a) (dE E b)
  | .notV a => tNotV (dE E a)
  | .tup es => tTup (dA E es)
  | .lst es => tLst (dA E es)
  | .lc elt tg it own => tLc (dI E it) (dG Θ.c.K tg) tYes (dE E elt) own
  | .lcf elt tg it t own => tLc (dI E it) (dG Θ.c.K tg) (dT E t) (dE E elt) own
  | .lcN elt tg it own => tLc (dI E it) (dG Θ.c.K tg) tYes (dE E00 elt) own
  | .lcfN elt tg it t own => tLc (dI E it) (dG Θ.c.K tg) (dT E00 t) (dE E00 elt) own
  | .lc2 elt tg it tg1 it1 own vs1 => tLc2 (dI E it) (dG Θ.c.K tg) tYes (dI E00 it1) (dG Θ.c.K tg1) tYes (dE E00 elt) own vs1
  | .sl a lo hi => tSl (slR Θ.c.K) (dE E a) (dO E lo) (dO E hi)
  | .rev a => HX.tRevT Θ.c.K (dE E a)
  | .blt b a => tCB (bltR Θ.c.K b) (tCons (dE E a) tNil)
  | .max2 a b => tCB Evl.rMax2 (tCons (dE E a) (tCons (dE E b) tNil))
  | .isi t a => tCB (rIsi Θ.c.K) (tCons (dE E a) (tCons (tC (V.ty t)) tNil))
  | .call f es => tCall (Θ.sp f) [] E (dA E es)
  | .bget i n => tOp (rIxL Θ.c.K) (tVar i) (tC (.int n))
  | .oix i e => tOp (opR Θ.c.K .ix) (tVar i) (dE E e)
  | .olen i => tCB (bltR Θ.c.K .len) (tCons (tVar i) tNil)
  | .oem i => tOp (opR Θ.c.K .ne) (tVar i) (tLst tNil)
  | .heard e => LamX.tLam Θ.c.T Θ.hT (fun E' => dE E' e)
def dA (E : XK) : Exs → TA
  | .nil => tNil
  | .cons e es => tCons (dE E e) (dA E es)
def dO (E : XK) : Exs → TO
  | .nil => tNoPart
  | .cons e _ => tPart (dE E e)
def dT (E : XK) : Tx → TT
  | .val e => tTest (dE E e)
  | .and a b => tAnd (dT E a) (dT E b)
  | .or a b => tOr (dT E a) (dT E b)
  | .not a => tNot (dT E a)
def dI (E : XK) : Ix → TI
  | .list e => iList Θ.c.K (dE E e)
  | .tup e => iTup Θ.c.K (dE E e)
  | .range e => iRng1 (tCons (dE E e) tNil)
  | .range2 a b => iRng2 (tCons (dE E a) (tCons (dE E b) tNil))
  | .enumL e => iEnum Θ.c.K (tCons (dE E e) tNil)
  | .enumT e => HX.iEnumT Θ.c.K (tCons (dE E e) tNil)
  | .zip a b => RZ.iZipA Θ.c.K (tCons (dE E a) (tCons (dE E b) tNil))
end
end

/-! ### the built-ins do what they say -/
section
variable {c : Cn} {B : Option Addr} {F H : Hp} {g : List PD} {x y : V} {dx dy dz : PD} {Q : VK}
theorem ofO_post {E : XK} {o : Option PD} {k : PD → List PD → Hp → Hp → Prop} (h : Post c B E F H (ofO o g) k) : ∃ z, o = some z ∧ Post c B E F H (.ok z g) k := by
  cases o with
  | none => exact False.elim h
  | some z => exact ⟨z, rfl, h⟩
theorem bools_of : ∀ {ds : List PD} {bs : List Bool} {vs : List V}, boolsOf ds = some bs → RvA c B F vs ds → vs = bs.map V.bl
  | [], bs, _, h, r => by
    cases r
    have e := Option.some.inj (show some [] = some bs from h)
    subst e; rfl
  | d :: ds, bs, _, h, r => by
    cases d <;> try (cases h; done)
    rename_i b
    have h' : (boolsOf ds).map (b :: ·) = some bs := h
    obtain ⟨t, e1, e2⟩ := Option.map_eq_some_iff.mp h'
    subst e2
    cases r with
    | cons r1 r2 =>
      cases r1
      rw [bools_of e1 r2]; rfl
theorem ints_of : ∀ {ds : List PD} {bs : List Int} {vs : List V}, intsOf ds = some bs → RvA c B F vs ds → vs = bs.map V.int
  | [], bs, _, h, r => by
    cases r
    have e := Option.some.inj (show some [] = some bs from h)
    subst e; rfl
  | d :: ds, bs, _, h, r => by
    cases d <;> try (cases h; done)
    rename_i b
    have h' : (intsOf ds).map (b :: ·) = some bs := h
    obtain ⟨t, e1, e2⟩ := Option.map_eq_some_iff.mp h'
    subst e2
    cases r with
    | cons r1 r2 =>
      cases r1
      rw [ints_of e1 r2]; rfl
theorem maxL_ge : ∀ (ns : List Int) (m : Int), m ≤ maxL m ns ∧ (∀ y, y ∈ ns → y ≤ maxL m ns) ∧ (maxL m ns = m ∨ maxL m ns ∈ ns)
  | [], m => ⟨Int.le_refl _, (fun y h => by cases h), .inl rfl⟩
  | x :: xs, m => by
    obtain ⟨h1, h2, h3⟩ := maxL_ge xs (if x > m then x else m)
    have e : maxL m (x :: xs) = maxL (if x > m then x else m) xs := rfl
    rw [e]
    refine ⟨?_, fun y hy => ?_, ?_⟩
    · split at h1 <;> split <;> omega
    · cases hy with
      | head => split at h1 <;> split <;> omega
      | tail _ hy => exact h2 y hy
    · rcases h3 with h3 | h3
      · rw [h3]
        by_cases q : x > m
        · rw [if_pos q]; exact .inr List.mem_cons_self
        · rw [if_neg q]; exact .inl rfl
      · exact .inr (List.mem_cons_of_mem _ h3)
theorem blt_ok (b : Blt) (s : Sub F H) (bg : BagR c B F H g) (rx : Rv c B F x dx) (h : bltF b dx = some dz)
    (q : ∀ F' H' v, Gr B F H F' H' → BagR c B F' H' g → Rv c B F' v dz → Q v H') : bltR c.K b [x] H Q := by
  have now : ∀ v, Rv c B F v dz → Q v H := fun v r => q F H v (.refl s) bg r
  cases b with
  | abs =>
    cases dx <;> try (first | (cases h; done) | (simp [bltF] at h; done))
    cases rx
    exact ⟨_, rfl, now _ (Option.some.inj h ▸ .int _)⟩
  | len =>
    cases dx <;> try (first | (cases h; done) | (simp [bltF] at h; done))
    · cases rx
      obtain ⟨l, e⟩ := some_of h
      exact .inr ⟨_, rfl, l, now _ (e ▸ .int _)⟩
    · cases rx with
      | lst hs ha => exact .inl ⟨_, _, rfl, .inl (.inl (.inl (s _ _ hs))), by rw [ha.length]; exact now _ (Option.some.inj h ▸ .int _)⟩
    · cases rx with
      | tup hs ha => exact .inl ⟨_, _, rfl, .inr (s.st hs), by rw [ha.length]; exact now _ (Option.some.inj h ▸ .int _)⟩
  | int =>
    cases dx <;> try (first | (cases h; done) | (simp [bltF] at h; done))
    · cases rx
      exact .inr ⟨_, rfl, now _ (Option.some.inj h ▸ .int _)⟩
    · cases rx
      exact .inl ⟨_, rfl, now _ (Option.some.inj h ▸ .int _)⟩
  | tup =>
    cases dx <;> try (first | (cases h; done) | (simp [bltF] at h; done))
    · cases rx with
      | lst hs ha =>
        have e := Option.some.inj h
        subst e
        exact ⟨_, _, rfl, .inl ⟨.inl (.inl (s _ _ hs)), fun l hl => q _ _ _ (.fresh s hl) (bg.fresh s hl NT.tup) (.tup (.inl (.inl upd_same)) (RvA.mono (Gr.fresh (B := B) s hl).sub _ _ ha))⟩⟩
    · cases rx with
      | tup hs ha =>
        have e := Option.some.inj h
        subst e
        exact ⟨_, _, rfl, .inr ⟨s.st hs, now _ (.tup hs ha)⟩⟩
  | lst =>
    cases dx <;> try (first | (cases h; done) | (simp [bltF] at h; done))
    · cases rx with
      | lst hs ha =>
        have e := Option.some.inj h
        subst e
        exact ⟨_, _, rfl, .inl (.inl (.inl (s _ _ hs))), fun l hl => q _ _ _ (.fresh s hl) (bg.fresh s hl NT.lst) (.lst upd_same (RvA.mono (Gr.fresh (B := B) s hl).sub _ _ ha))⟩
    · cases rx with
      | tup hs ha =>
        have e := Option.some.inj h
        subst e
        exact ⟨_, _, rfl, .inr (s.st hs), fun l hl => q _ _ _ (.fresh s hl) (bg.fresh s hl NT.lst) (.lst upd_same (RvA.mono (Gr.fresh (B := B) s hl).sub _ _ ha))⟩
  | any =>
    cases dx <;> try (first | (cases h; done) | (simp [bltF] at h; done))
    rename_i ds
    have h' : (boolsOf ds).map (fun bs => PyData.bool (bs.any id)) = some dz := h
    obtain ⟨bs, e1, e2⟩ := Option.map_eq_some_iff.mp h'
    cases rx with
    | lst hs ha =>
      have e3 := bools_of e1 ha
      subst e3
      exact ⟨_, bs, rfl, .inl (.inl (s _ _ hs)), now _ (e2 ▸ .bl _)⟩
  | all =>
    cases dx <;> try (first | (cases h; done) | (simp [bltF] at h; done))
    rename_i ds
    have h' : (boolsOf ds).map (fun bs => PyData.bool (bs.all id)) = some dz := h
    obtain ⟨bs, e1, e2⟩ := Option.map_eq_some_iff.mp h'
    cases rx with
    | lst hs ha =>
      have e3 := bools_of e1 ha
      subst e3
      exact ⟨_, bs, rfl, .inl (.inl (s _ _ hs)), now _ (e2 ▸ .bl _)⟩
  | max1 =>
    cases dx <;> try (first | (cases h; done) | (simp [bltF] at h; done))
    rename_i ds
    have h' : (match intsOf ds with | some (n :: ns) => some (PyData.int (maxL n ns)) | _ => none) = some dz := h
    cases e1 : intsOf ds with
    | none => rw [e1] at h'; cases h'
    | some bs =>
      rw [e1] at h'
      cases bs with
      | nil => cases h'
      | cons n ns =>
        have e := Option.some.inj h'
        cases rx with
        | lst hs ha =>
          have e3 := ints_of e1 ha
          subst e3
          refine ⟨_, n :: ns, rfl, .inl (.inl (s _ _ hs)), Nat.succ_pos _, fun m hm hg => ?_⟩
          obtain ⟨g1, g2, g3⟩ := maxL_ge ns n
          have em : m = maxL n ns := by
            refine Int.le_antisymm ?_ ?_
            · cases hm with
              | head => exact g1
              | tail _ hm => exact g2 m hm
            · rcases g3 with g3 | g3
              · rw [g3]; exact hg n List.mem_cons_self
              · exact hg _ (List.mem_cons_of_mem _ g3)
          rw [em]
          exact now _ (e ▸ .int _)
theorem max2_ok (s : Sub F H) (bg : BagR c B F H g) (rx : Rv c B F x dx) (ry : Rv c B F y dy) (h : max2F dx dy = some dz) (q : ∀ F' H' v, Gr B F H F' H' → BagR c B F' H' g → Rv c B F' v dz → Q v H') : Evl.rMax2 [x, y] H Q := by
  cases dx <;> try (first | (cases h; done) | (simp [max2F] at h; done))
  cases dy <;> try (first | (cases h; done) | (simp [max2F] at h; done))
  cases rx; cases ry
  exact ⟨_, _, rfl, q F H _ (.refl s) bg (Option.some.inj h ▸ .int _)⟩
theorem ty_ok (s : Sub F H) (r : Rv c B F x dx) (n : ∀ kvs, dx ≠ .dict kvs) : TyX c.K H x (.type (tyOf dx)) := by
  cases r with
  | non => exact .base .non
  | bl b => exact .base (.bl b)
  | int i => exact .base (.int i)
  | str z => exact .base (.str z)
  | lst hs ha => exact .base (.lst (s _ _ hs))
  | tup hs ha =>
    rcases hs with (h | ⟨o, h⟩) | ⟨o, its, k, h1, h2, _⟩
    · exact .base (.tup (s _ _ h))
    · exact .fTuple (s _ _ h)
    · exact .kTuple h1 h2
  | fn k => exact absurd rfl (n _)
  | bag e => exact absurd rfl (n _)
theorem kit_int {K : PySem.W.Frag} : ∀ (d : PD), (∀ kvs, d ≠ .dict kvs) → PySem.W.kitOne K (.type (tyOf d)) (.type "int") = some (tyOf d == "int" || tyOf d == "bool")
  | .none, _ => by
    show PySem.W.kitOne K (.type "NoneType") (.type "int") = some ("NoneType" == "int" || "NoneType" == "bool")
    rw [show ("NoneType" == "int" || "NoneType" == "bool") = false by decide]
    exact kit_ty (by decide +kernel)
  | .bool b, _ => by
    show PySem.W.kitOne K (.type "bool") (.type "int") = some ("bool" == "int" || "bool" == "bool")
    rw [show ("bool" == "int" || "bool" == "bool") = true by decide]
    exact kit_ty (by decide +kernel)
  | .int i, _ => by
    show PySem.W.kitOne K (.type "int") (.type "int") = some ("int" == "int" || "int" == "bool")
    rw [show ("int" == "int" || "int" == "bool") = true by decide]
    exact kit_ty (by decide +kernel)
  | .str z, _ => by
    show PySem.W.kitOne K (.type "str") (.type "int") = some ("str" == "int" || "str" == "bool")
    rw [show ("str" == "int" || "str" == "bool") = false by decide]
    exact kit_ty (by decide +kernel)
  | .list l, _ => by
    show PySem.W.kitOne K (.type "list") (.type "int") = some ("list" == "int" || "list" == "bool")
    rw [show ("list" == "int" || "list" == "bool") = false by decide]
    exact kit_ty (by decide +kernel)
  | .tuple l, _ => by
    show PySem.W.kitOne K (.type "tuple") (.type "int") = some ("tuple" == "int" || "tuple" == "bool")
    rw [show ("tuple" == "int" || "tuple" == "bool") = false by decide]
    exact kit_ty (by decide +kernel)
  | .dict k, n => absurd rfl (n k)
theorem kit_bool {K : PySem.W.Frag} : ∀ (d : PD), (∀ kvs, d ≠ .dict kvs) → PySem.W.kitOne K (.type (tyOf d)) (.type "bool") = some (tyOf d == "bool")
  | .none, _ => by
    show PySem.W.kitOne K (.type "NoneType") (.type "bool") = some ("NoneType" == "bool")
    rw [show ("NoneType" == "bool") = false by decide]
    exact kit_ty (by decide +kernel)
  | .bool b, _ => by
    show PySem.W.kitOne K (.type "bool") (.type "bool") = some ("bool" == "bool")
    rw [show ("bool" == "bool") = true by decide]
    exact kit_ty (by decide +kernel)
  | .int i, _ => by
    show PySem.W.kitOne K (.type "int") (.type "bool") = some ("int" == "bool")
    rw [show ("int" == "bool") = false by decide]
    exact kit_ty (by decide +kernel)
  | .str z, _ => by
    show PySem.W.kitOne K (.type "str") (.type "bool") = some ("str" == "bool")
    rw [show ("str" == "bool") = false by decide]
    exact kit_ty (by decide +kernel)
  | .list l, _ => by
    show PySem.W.kitOne K (.type "list") (.type "bool") = some ("list" == "bool")
    rw [show ("list" == "bool") = false by decide]
    exact kit_ty (by decide +kernel)
  | .tuple l, _ => by
    show PySem.W.kitOne K (.type "tuple") (.type "bool") = some ("tuple" == "bool")
    rw [show ("tuple" == "bool") = false by decide]
    exact kit_ty (by decide +kernel)
  | .dict k, n => absurd rfl (n k)
theorem kit_tuple {K : PySem.W.Frag} : ∀ (d : PD), (∀ kvs, d ≠ .dict kvs) → PySem.W.kitOne K (.type (tyOf d)) (.type "tuple") = some (tyOf d == "tuple")
  | .none, _ => by
    show PySem.W.kitOne K (.type "NoneType") (.type "tuple") = some ("NoneType" == "tuple")
    rw [show ("NoneType" == "tuple") = false by decide]
    exact kit_ty (by decide +kernel)
  | .bool b, _ => by
    show PySem.W.kitOne K (.type "bool") (.type "tuple") = some ("bool" == "tuple")
    rw [show ("bool" == "tuple") = false by decide]
    exact kit_ty (by decide +kernel)
  | .int i, _ => by
    show PySem.W.kitOne K (.type "int") (.type "tuple") = some ("int" == "tuple")
    rw [show ("int" == "tuple") = false by decide]
    exact kit_ty (by decide +kernel)
  | .str z, _ => by
    show PySem.W.kitOne K (.type "str") (.type "tuple") = some ("str" == "tuple")
    rw [show ("str" == "tuple") = false by decide]
    exact kit_ty (by decide +kernel)
  | .list l, _ => by
    show PySem.W.kitOne K (.type "list") (.type "tuple") = some ("list" == "tuple")
    rw [show ("list" == "tuple") = false by decide]
    exact kit_ty (by decide +kernel)
  | .tuple l, _ => by
    show PySem.W.kitOne K (.type "tuple") (.type "tuple") = some ("tuple" == "tuple")
    rw [show ("tuple" == "tuple") = true by decide]
    exact kit_ty (by decide +kernel)
  | .dict k, n => absurd rfl (n k)
theorem isi_ok {t : String} (s : Sub F H) (bg : BagR c B F H g) (rx : Rv c B F x dx) (h : isiF t dx = some dz)
    (q : ∀ F' H' v, Gr B F H F' H' → BagR c B F' H' g → Rv c B F' v dz → Q v H') : rIsi c.K [x, .ty t] H Q := by
  have now : ∀ v, Rv c B F v dz → Q v H := fun v r => q F H v (.refl s) bg r
  have nd : ∀ kvs, dx ≠ .dict kvs := fun kvs e => by subst e; cases h
  have ty := ty_ok s rx nd
  have h' : (if t = "int" then some (PyData.bool (tyOf dx == "int" || tyOf dx == "bool")) else if t = "bool" then some (PyData.bool (tyOf dx == "bool")) else if t = "tuple" then some (PyData.bool (tyOf dx == "tuple")) else none) = some dz := by
    cases dx <;> first | exact h | exact absurd rfl (nd _)
  by_cases t1 : t = "int"
  · subst t1
    rw [if_pos rfl] at h'
    exact ⟨x, .ty "int", _, _, (tyOf dx == "int" || tyOf dx == "bool"), rfl, .ty _, ty, kit_int dx nd, now _ (Option.some.inj h' ▸ .bl _)⟩
  · rw [if_neg t1] at h'
    by_cases t2 : t = "bool"
    · subst t2
      rw [if_pos rfl] at h'
      exact ⟨x, .ty "bool", _, _, (tyOf dx == "bool"), rfl, .ty _, ty, kit_bool dx nd, now _ (Option.some.inj h' ▸ .bl _)⟩
    · rw [if_neg t2] at h'
      by_cases t3 : t = "tuple"
      · subst t3
        rw [if_pos rfl] at h'
        exact ⟨x, .ty "tuple", _, _, (tyOf dx == "tuple"), rfl, .ty _, ty, kit_tuple dx nd, now _ (Option.some.inj h' ▸ .bl _)⟩
      · rw [if_neg t3] at h'; cases h'

theorem RvA.cut {vs : List V} {ds : List PD} (h : RvA c B F vs ds) (lo hi : Option Int) : RvA c B F (cutV vs lo hi) (cutP ds lo hi) := by
  unfold cutV cutP
  rw [h.length]
  exact RvA.take _ (RvA.drop _ h)
theorem cutP_whole {n : Nat} {ds : List PD} {lo hi : Option Int} (e : n = ds.length) (z1 : HT.sIx n 0 lo = 0) (z2 : HT.sIx n n hi = n) : cutP ds lo hi = ds := by
  subst e
  unfold cutP
  rw [z1, z2, List.drop_zero, Nat.sub_zero, List.take_length]
theorem sl_ok {lo hi : Option Int} (s : Sub F H) (bg : BagR c B F H g) (rx : Rv c B F x dx) (h : slF dx lo hi = some dz) (q : ∀ F' H' v, Gr B F H F' H' → BagR c B F' H' g → Rv c B F' v dz → Q v H') : slR c.K x lo hi H Q := by
  cases dx <;> try (first | (cases h; done) | (simp [slF] at h; done))
  · cases rx
    obtain ⟨l, e⟩ := some_of h
    exact .inl ⟨_, rfl, l, q F H _ (.refl s) bg (e ▸ .str _)⟩
  · cases rx with
    | lst hs ha =>
      have e := Option.some.inj h
      subst e
      exact .inr (.inl ⟨_, _, rfl, .inl (.inl (s _ _ hs)), fun p hp => q _ _ _ (.fresh s hp) (bg.fresh s hp NT.lst) (.lst upd_same (RvA.mono (Gr.fresh (B := B) s hp).sub _ _ (ha.cut lo hi)))⟩)
  · cases rx with
    | tup hs ha =>
      have e := Option.some.inj h
      subst e
      refine .inr (.inr ⟨_, _, rfl, s.st hs, fun z => ?_, fun z p hp => q _ _ _ (.fresh s hp) (bg.fresh s hp NT.tup) (.tup (.inl (.inl upd_same)) (RvA.mono (Gr.fresh (B := B) s hp).sub _ _ (ha.cut lo hi)))⟩)
      refine q F H _ (.refl s) bg ?_
      rw [cutP_whole ha.length z.1 z.2]
      exact .tup hs ha
theorem rev_ok (s : Sub F H) (bg : BagR c B F H g) (rx : Rv c B F x dx) (h : revF dx = some dz) (q : ∀ F' H' v, Gr B F H F' H' → BagR c B F' H' g → Rv c B F' v dz → Q v H') : ∃ a xs, x = .ref a ∧ SqT c.K H a xs ∧ ∀ p, H p = none → Q (.ref p) (upd H p (.tup xs.reverse)) := by
  cases dx <;> try (first | (cases h; done) | (simp [revF] at h; done))
  cases rx with
  | tup hs ha =>
    have e := Option.some.inj h
    subst e
    exact ⟨_, _, rfl, s.st hs, fun p hp => q _ _ _ (.fresh s hp) (bg.fresh s hp NT.tup) (.tup (.inl (.inl upd_same)) (RvA.mono (Gr.fresh (B := B) s hp).sub _ _ ha.rev))⟩
end
end G

/-! Comprehensions. -/
namespace G
open PySem PySem.Spec PyProof.Rows L2

section
variable {c : Cn} {B : Option Addr} {F H F1 H1 F2 H2 : Hp} {D : Addr}
theorem Gr.mut {o : HO} (a : Gr B F1 H1 F2 H2) (t : NT o) (n1 : Fr0 H1 D) (n2 : F2 D = none) : Gr B F1 H1 F2 (upd H2 D o) where
  sub := a.sub
  inn := fun x u h => by
    have e : x ≠ D := fun e => by rw [e, n2] at h; cases h
    rw [upd_ne e]; exact a.inn _ _ h
  keep := fun b u h t nb => by rw [upd_ne (n1.ne h t)]; exact a.keep _ _ h t nb
  there := fun b u h t => by
    obtain ⟨o', q, t'⟩ := a.there _ _ h t
    exact ⟨o', by rw [upd_ne (n1.ne h t)]; exact q, t'⟩
  new := a.new
theorem Gr.freeze {o : HO} (a : Gr B F1 H1 F2 H2) (n1 : Fr0 H1 D) (n2 : F2 D = none) (h2 : H2 D = some o) : Gr B F1 H1 (upd F2 D o) H2 where
  sub := fun x u h => by
    have h' := a.sub _ _ h
    have e : x ≠ D := fun e => by rw [e, n2] at h'; cases h'
    rw [upd_ne e]; exact h'
  inn := fun x u h => by
    by_cases e : x = D
    · subst e; rw [upd_same] at h; rw [← h]; exact h2
    · rw [upd_ne e] at h; exact a.inn _ _ h
  keep := a.keep
  there := a.there
  new := fun b u h t n => by rw [upd_ne (n1.ne h t)]; exact a.new _ _ h t n
theorem BagR.ne {g : List PD} (b : BagR c B F H g) {a : Addr} (e : B = some a) (n : Fr0 H D) : a ≠ D := by
  obtain ⟨_, vs, h, _⟩ := b.bag a e
  exact n.ne h NT.lst
theorem BagR.mut {g g' : List PD} {vs ws : List V} (b : BagR c B F2 H2 g) (b1 : BagR c B F1 H1 g') (n : Fr0 H1 D) (e : H2 D = some (.lst vs)) : BagR c B F2 (upd H2 D (.lst ws)) g where
  bag := fun a e => by
    obtain ⟨h1, vs, h2, h3⟩ := b.bag a e
    exact ⟨h1, vs, by rw [upd_ne (b1.ne e n)]; exact h2, h3⟩
  nt := b.nt
  tb := tabs_mut b.tb e
theorem BagR.freeze {g g' : List PD} {o : HO} (b : BagR c B F2 H2 g) (b1 : BagR c B F1 H1 g') (t : NT o) (n : Fr0 H1 D) (s : Sub F2 (upd F2 D o)) : BagR c B (upd F2 D o) H2 g where
  bag := fun a e => by
    obtain ⟨h1, vs, h2, h3⟩ := b.bag a e
    exact ⟨by rw [upd_ne (b1.ne e n)]; exact h1, vs, h2, RvA.mono s _ _ h3⟩
  nt := fun a u e => by
    by_cases q : a = D
    · subst q; rw [upd_same] at e; cases e; exact t
    · rw [upd_ne q] at e; exact b.nt a u e
  tb := b.tb
theorem sub_upd {o : HO} (n : F D = none) : Sub F (upd F D o) := fun x u h => by
  have e : x ≠ D := fun e => by rw [e, n] at h; cases h
  rw [upd_ne e]; exact h
theorem none_of (s : Sub F H) (n : H D = none) : F D = none := by
  cases e : F D with
  | none => rfl
  | some o => rw [s _ _ e] at n; cases n
end

theorem noX_ok {β : Type} {m : M β} {g g1 : List PD} {y : β} (h : noX m g = .ok y g1) : m g = .ok y g1 := by
  unfold noX at h
  cases e : m g with
  | stuck => rw [e] at h; cases h
  | ok b k => rw [e] at h; exact h
  | exn x k => rw [e] at h; cases h
theorem noX_exn {β : Type} {m : M β} {g g1 : List PD} {x : Xn} (h : noX m g = .exn x g1) : False := by
  unfold noX at h
  cases e : m g with
  | stuck => rw [e] at h; cases h
  | ok b k => rw [e] at h; cases h
  | exn x k => rw [e] at h; cases h
/-- what is made of an item -/
def itP (c : Cn) (B : Option Addr) (Qs : VK) (Qn : Hp → Prop) (o : Option PD) (F' H' : Hp) : Prop := match o with
  | some y => ∀ v, Rv c B F' v y → Qs v H'
  | none => Qn H'
/-- a list comprehension -/
theorem lc_ok {c : Cn} {B : Option Addr} {E : XK} {F1 H1 : Hp} {g : List PD} {J : It} {ds : List PD} {f : PD → M (Option PD)} {tg : TG} {tt : TT} {te : TE} {own : List Nat} {σ : L2.St} {Q : VK}
    (bg : BagR c B F1 H1 g) (s1 : Sub F1 H1) (W : Walks c B J F1 ds) (hl : ds.length ≤ 1000000)
    (helt : ∀ F H x d gb (Qs : VK) (Qn : Hp → Prop), Gr B F1 H1 F H → BagR c B F H gb → Rv c B F x d → Post c B E F H (f d gb) (fun o _ F' H' => itP c B Qs Qn o F' H') →
      tg x (wipe σ own) H fun σ2 H2 => wipe σ2 own = wipe σ own ∧ tt σ2 H2 fun b H3 => if b = true then te σ2 H3 Qs else Qn H3)
    (h : Post c B E F1 H1 (mapF f ds g) fun ys _ F' H' => ∀ a vs, H' a = some (.lst vs) → F' a = none → Fr0 H1 a → RvA c B F' vs ys → Q (.ref a) H') :
    ∀ D, H1 D = none → ∃ W : Nat → Nat → Hp → Prop, (∃ m, W 0 m (upd H1 D (.lst []))) ∧ ∀ i m H, W i m H →
      (J.stop i H ∧ Q (.ref D) H) ∨ (J.go i H ∧ ∃ Nx : Hp → Prop, (∀ H', Nx H' → ∃ m', m' < m ∧ W (i + 1) m' H') ∧ ∀ x H', J.yld i H x H' → tg x (wipe σ own) H' fun σ2 H2 => wipe σ2 own = wipe σ own ∧
        tt σ2 H2 fun b H3 => if b = true then te σ2 H3 fun y H4 => ∃ acc, H4 D = some (.lst acc) ∧ acc.length < sizeLine ∧ Nx (upd H4 D (.lst (acc ++ [y]))) else Nx H3) := by
  intro D hD
  have fD : F1 D = none := none_of s1 hD
  have rD : Fr0 H1 D := .of hD
  refine ⟨fun i m H => m = ds.length - i ∧ i ≤ ds.length ∧ ∃ F acc vs gb, Gr B F1 H1 F H ∧ BagR c B F H gb ∧ H D = some (.lst vs) ∧ F D = none ∧ RvA c B F vs acc ∧ vs.length ≤ i ∧
    Post c B E F1 H1 (mapF f (ds.drop i) gb) (fun ys _ F' H' => ∀ a vs, H' a = some (.lst vs) → F' a = none → Fr0 H1 a → RvA c B F' vs (acc ++ ys) → Q (.ref a) H'),
    ⟨_, rfl, Nat.zero_le _, F1, [], [], g, .freshM s1 hD, bg.freshM hD, upd_same, fD, .nil, Nat.le_refl _, h⟩, ?_⟩
  rintro i m H ⟨rfl, il, F, acc, vs, gb, gr, bb, hv, nD, ra, vl, hp⟩
  by_cases q : i = ds.length
  · left
    have e0 : ds.drop i = [] := by rw [q]; exact List.drop_length
    rw [e0] at hp
    refine ⟨W.stop i F H gr.sub gr.inn (by omega), ?_⟩
    refine hp F H gr bb D vs hv nD rD ?_
    rw [List.append_nil]
    exact ra
  · right
    have il' : i < ds.length := by omega
    have e0 : ds.drop i = ds[i] :: ds.drop (i + 1) := List.drop_eq_getElem_cons il'
    have e1 : ds[i]? = some ds[i] := List.getElem?_eq_getElem il'
    rw [e0] at hp
    refine ⟨W.go i F H gr.sub gr.inn il', fun H'' => ∃ m', m' < ds.length - i ∧ (m' = ds.length - (i + 1) ∧ i + 1 ≤ ds.length ∧ ∃ F acc vs gb, Gr B F1 H1 F H'' ∧ BagR c B F H'' gb ∧ H'' D = some (.lst vs) ∧ F D = none ∧ RvA c B F vs acc ∧ vs.length ≤ i + 1 ∧
      Post c B E F1 H1 (mapF f (ds.drop (i + 1)) gb) (fun ys _ F' H' => ∀ a vs, H' a = some (.lst vs) → F' a = none → Fr0 H1 a → RvA c B F' vs (acc ++ ys) → Q (.ref a) H')), fun H' hN => hN, fun x H' hy => ?_⟩
    obtain ⟨F2, gr2, rx, bag2⟩ := W.yld i F H x H' _ gr.sub gr.inn e1 hy
    have gr12 := gr.trans gr2
    have nB : some D ≠ B := fun e => (bg.ne e.symm rD) rfl
    refine helt F2 H' x ds[i] gb _ _ gr12 (bag2 _ bb) rx ?_
    have hp' : Post c B E F1 H1 ((f ds[i] gb).bnd fun y => bnd (mapF f (ds.drop (i + 1))) fun ys => ret (y.toList ++ ys)) _ := hp
    cases ef : f ds[i] gb with
    | stuck =>
      exfalso
      rw [ef] at hp'
      exact hp'
    | exn x g' =>
      rw [ef] at hp'
      exact ExnP.grow hp' gr12
    | ok y g1 =>
      rw [ef] at hp'
      have hp2 : Post c B E F1 H1 (mapF f (ds.drop (i + 1)) g1) (fun ys _ F' H' => ∀ a vs, H' a = some (.lst vs) → F' a = none → Fr0 H1 a → RvA c B F' vs (acc ++ y.toList ++ ys) → Q (.ref a) H') := by
        have hp3 : Post c B E F1 H1 ((mapF f (ds.drop (i + 1)) g1).bnd fun ys => ret (y.toList ++ ys)) _ := hp'
        refine (Post.bind hp3).imp fun ys g2 F' H' gr3 bg3 hk a ws e1 e2 e3 rv => ?_
        have hk' := hk F' H' (.refl gr3.inn) bg3 a ws e1 e2 e3
        rw [List.append_assoc] at rv
        exact hk' rv
      intro F3 H3 gr3 bg3
      have hv3 : H3 D = some (.lst vs) := gr3.keep _ _ (gr2.keep _ _ hv NT.lst nB) NT.lst nB
      have n3 : F3 D = none := gr3.new _ _ (gr2.keep _ _ hv NT.lst nB) NT.lst (gr2.new _ _ hv NT.lst nD)
      cases y with
      | none =>
        refine ⟨ds.length - (i + 1), by omega, rfl, il', F3, acc, vs, g1, gr12.trans gr3, bg3, hv3, n3, RvA.mono (gr2.trans gr3).sub _ _ ra, by omega, ?_⟩
        have e : acc ++ (none : Option PD).toList = acc := List.append_nil _
        rw [e] at hp2
        exact hp2
      | some y =>
        intro v rv
        exact ⟨vs, hv3, Nat.lt_of_lt_of_le (show vs.length < 1000001 by omega) (by decide), ds.length - (i + 1), by omega, rfl, il', F3, acc ++ [y], vs ++ [v], g1, (gr12.trans gr3).mut NT.lst rD n3, bg3.mut bg rD hv3, upd_same, n3,
          (RvA.mono (gr2.trans gr3).sub _ _ ra).app (.cons rv .nil), by rw [List.length_append]; exact Nat.succ_le_succ vl, hp2⟩
theorem bnd_assoc {α β γ : Type} (m : M α) (f : α → M β) (k : β → M γ) : bnd (bnd m f) k = bnd m fun x => bnd (f x) k := by
  funext g
  show ((m g).bnd f).bnd k = (m g).bnd fun x => bnd (f x) k
  cases m g <;> rfl
theorem bnd_ret {α β : Type} (x : α) (f : α → M β) : bnd (ret x) f = f x := rfl
theorem mapF_some {β γ : Type} (f : β → M γ) : ∀ ds : List β, mapF (fun d => bnd (f d) fun y => ret (some y)) ds = mapM' f ds
  | [] => rfl
  | d :: ds => by
    show bnd (bnd (f d) fun y => ret (some y)) (fun y => bnd (mapF _ ds) fun ys => ret (y.toList ++ ys)) = bnd (f d) fun y => bnd (mapM' f ds) fun ys => ret (y :: ys)
    rw [bnd_assoc, mapF_some f ds]
    rfl
/-- a list that is the def's own may be left as it is -/
theorem Post.own {c : Cn} {B : Option Addr} {E : XK} {F H : Hp} {g0 : List PD} {o : Out PD} {Q : VK} (bg0 : BagR c B F H g0) (h : Post c B E F H o fun d _ F' H' => ∀ v, Rv c B F' v d → Q v H') :
    Post c B E F H o fun d _ F' H' => ∀ ds a vs, d = .list ds → H' a = some (.lst vs) → F' a = none → Fr0 H a → RvA c B F' vs ds → Q (.ref a) H' := by
  cases o with
  | stuck => exact h
  | exn x g => exact h
  | ok d g =>
    intro F' H' gr bg ds a vs e h1 h2 h3 ra
    subst e
    have sb := sub_upd (o := HO.lst vs) h2
    exact h (upd F' a (.lst vs)) H' (gr.freeze h3 h2 h1) (bg.freeze bg0 NT.lst h3 sb) _ (.lst upd_same (RvA.mono sb _ _ ra))
/-! ### two clauses -/
def NoOwn (env : EnvD) : Prop := ∀ (i : Nat) (xs : List PD), env[i]? ≠ some (Sl.own xs)
theorem noOw_no (env : EnvD) : NoOwn (noOw env) := fun i xs h => by
  unfold noOw at h
  rw [List.getElem?_map] at h
  obtain ⟨s, _, e⟩ := Option.map_eq_some_iff.mp h
  cases s <;> cases e
theorem NoOwn.set {env : EnvD} (h : NoOwn env) (i : Nat) (s : Sl) (n : ∀ xs, s ≠ .own xs) : NoOwn (env.set i s) := fun j xs e => by
  by_cases q : i = j
  · subst q
    by_cases l : i < env.length
    · rw [List.getElem?_set_self l] at e; exact n xs (Option.some.inj e)
    · rw [List.getElem?_eq_none (by rw [List.length_set]; omega)] at e; cases e
  · rw [List.getElem?_set_ne q] at e; exact h j xs e
theorem NoOwn.wipe {env : EnvD} (h : NoOwn env) : ∀ own : List Nat, NoOwn (wipeD env own)
  | [] => h
  | v :: vs => (NoOwn.wipe h vs).set v .no (fun _ q => nomatch q)
mutual
theorem NoOwn.tg : ∀ (t : Tg) (d : PD) (env env' : EnvD), NoOwn env → tgF t d env = some env' → NoOwn env'
  | .name i, d, env, env', h, e => by
    have e' : env.set i (.d d) = env' := Option.some.inj e
    subst e'
    exact h.set i _ (fun _ q => nomatch q)
  | .tup ts, .tuple ds, env, env', h, e => NoOwn.tgs ts ds env env' h e
  | .tup ts, .none, _, _, _, h => by cases h
  | .tup ts, .bool _, _, _, _, h => by cases h
  | .tup ts, .int _, _, _, _, h => by cases h
  | .tup ts, .str _, _, _, _, h => by cases h
  | .tup ts, .list _, _, _, _, h => by cases h
  | .tup ts, .dict _, _, _, _, h => by cases h
theorem NoOwn.tgs : ∀ (ts : Tgs) (ds : List PD) (env env' : EnvD), NoOwn env → tgsF ts ds env = some env' → NoOwn env'
  | .nil, [], env, env', h, e => by
    have e' : env = env' := Option.some.inj e
    subst e'
    exact h
  | .nil, _ :: _, _, _, _, h => by simp [tgsF] at h
  | .cons t ts, [], _, _, _, h => by simp [tgsF] at h
  | .cons t ts, d :: ds, env, env', h, e => by
    unfold tgsF at e
    cases q : tgF t d env with
    | none => rw [q] at e; cases e
    | some e1 =>
      rw [q] at e
      exact NoOwn.tgs ts ds e1 env' (NoOwn.tg t d env e1 h q) e
end
section
variable {c : Cn} {B : Option Addr} {F H F' H' : Hp} {σ : L2.St} {env : EnvD}
theorem MEnv.noOw (h : MEnv c B F H σ env) : MEnv c B F H σ (noOw env) := by
  refine ⟨by unfold G.noOw; rw [List.length_map]; exact h.len, fun i s e => ?_, fun i j a xs ys e1 => absurd e1 (noOw_no env i xs)⟩
  unfold G.noOw at e
  rw [List.getElem?_map] at e
  obtain ⟨s0, e0, e1⟩ := Option.map_eq_some_iff.mp e
  obtain ⟨o, h1, h2⟩ := h.sl i s0 e0
  refine ⟨o, h1, ?_⟩
  cases s0 with
  | own xs => cases e1; trivial
  | no => cases e1; trivial
  | d x => cases e1; exact h2
theorem MEnv.sub (h : MEnv c B F H σ env) (n : NoOwn env) (s : Sub F F') : MEnv c B F' H' σ env := by
  refine ⟨h.len, fun i sl e => ?_, fun i j a xs ys e1 => absurd e1 (n i xs)⟩
  obtain ⟨o, h1, h2⟩ := h.sl i sl e
  refine ⟨o, h1, ?_⟩
  cases sl with
  | own xs => exact absurd e (n i xs)
  | no => trivial
  | d x =>
    obtain ⟨v, e1, r⟩ := h2
    exact ⟨v, e1, Rv.mono s _ _ r⟩
end
/-- the second clause's loop -/
theorem lc2_in {c : Cn} {B : Option Addr} {F1 H1 : Hp} {g1 g2 : List PD} {J1 : It} {es ys : List PD} {f1 : PD → M PD} {tg1 : TG} {te : TE} {vs1 : List Nat} {σ2 : L2.St} {D : Addr} {Nx : Hp → Prop} {F4 H4 : Hp} {acc : List PD} {n0 : Nat}
    (b1 : BagR c B F1 H1 g1) (rD : Fr0 H1 D) (gr : Gr B F1 H1 F4 H4) (bg : BagR c B F4 H4 g2) {g3 : List PD} (hv : ∃ vs, H4 D = some (.lst vs) ∧ RvA c B F4 vs acc ∧ vs.length = n0) (nD : F4 D = none) (W : Walks c B J1 F4 es) (hl : n0 + es.length ≤ 2000000) (hm : mapM' f1 es g2 = .ok ys g3)
    (helt : ∀ F H x d gb y gc (Q' : VK), Sub F4 F → Gr B F1 H1 F H → BagR c B F H gb → Rv c B F x d → f1 d gb = .ok y gc → (∀ F' H' v, Gr B F H F' H' → BagR c B F' H' gc → Rv c B F' v y → Q' v H') →
      tg1 x (wipe σ2 vs1) H fun σ3 H5 => wipe σ3 vs1 = wipe σ2 vs1 ∧ te σ3 H5 Q')
    (hN : ∀ F H vs, Gr B F1 H1 F H → Sub F4 F → BagR c B F H g3 → H D = some (.lst vs) → F D = none → RvA c B F vs (acc ++ ys) → vs.length = n0 + es.length → Nx H) :
    ∃ W1 : Nat → Nat → Hp → Prop, (∃ m, W1 0 m H4) ∧ ∀ j k H, W1 j k H →
      (J1.stop j H ∧ Nx H) ∨ (J1.go j H ∧ ∃ Nx1 : Hp → Prop, (∀ H', Nx1 H' → ∃ k', k' < k ∧ W1 (j + 1) k' H') ∧ ∀ x H', J1.yld j H x H' → tg1 x (wipe σ2 vs1) H' fun σ3 H5 => wipe σ3 vs1 = wipe σ2 vs1 ∧ tYes σ3 H5 fun b H6 =>
        if b = true then te σ3 H6 fun y H7 => ∃ acc, H7 D = some (.lst acc) ∧ acc.length < sizeLine ∧ Nx1 (upd H7 D (.lst (acc ++ [y]))) else Nx1 H6) := by
  obtain ⟨vs0, hv0, ra0, hl0⟩ := hv
  have nB : some D ≠ B := fun e => (b1.ne e.symm rD) rfl
  refine ⟨fun j k H => k = es.length - j ∧ j ≤ es.length ∧ ∃ F vs gb ya yb, Gr B F1 H1 F H ∧ Sub F4 F ∧ BagR c B F H gb ∧ H D = some (.lst vs) ∧ F D = none ∧ RvA c B F vs (acc ++ ya) ∧ vs.length = n0 + j ∧ ys = ya ++ yb ∧ mapM' f1 (es.drop j) gb = .ok yb g3,
    ⟨_, rfl, Nat.zero_le _, F4, vs0, g2, [], ys, gr, .refl _, bg, hv0, nD, by rw [List.append_nil]; exact ra0, hl0, rfl, hm⟩, ?_⟩
  rintro j k H ⟨rfl, jl, F, vs, gb, ya, yb, gr', s4, bb, hv, nF, ra, vl, ey, hp⟩
  by_cases q : j = es.length
  · left
    have e0 : es.drop j = [] := by rw [q]; exact List.drop_length
    rw [e0] at hp
    have hp' : Out.ok ([] : List PD) gb = .ok yb g3 := hp
    cases hp'
    rw [List.append_nil] at ey
    subst ey
    refine ⟨W.stop j F H s4 gr'.inn (by omega), hN F H vs gr' s4 bb hv nF ra (by rw [vl, q])⟩
  · right
    have jl' : j < es.length := by omega
    have e0 : es.drop j = es[j] :: es.drop (j + 1) := List.drop_eq_getElem_cons jl'
    have e1 : es[j]? = some es[j] := List.getElem?_eq_getElem jl'
    rw [e0] at hp
    have hp' : (f1 es[j] gb).bnd (fun y => bnd (mapM' f1 (es.drop (j + 1))) fun ys => ret (y :: ys)) = .ok yb g3 := hp
    cases ef : f1 es[j] gb with
    | stuck => rw [ef] at hp'; cases hp'
    | exn x g' => rw [ef] at hp'; cases hp'
    | ok y gc =>
      rw [ef] at hp'
      have hp2 : (mapM' f1 (es.drop (j + 1)) gc).bnd (fun ys => ret (y :: ys)) = .ok yb g3 := hp'
      cases em : mapM' f1 (es.drop (j + 1)) gc with
      | stuck => rw [em] at hp2; cases hp2
      | exn x g' => rw [em] at hp2; cases hp2
      | ok yc gd =>
        rw [em] at hp2
        have hp3 : Out.ok (y :: yc) gd = .ok yb g3 := hp2
        cases hp3
        refine ⟨W.go j F H s4 gr'.inn jl', fun H'' => ∃ k', k' < es.length - j ∧ (k' = es.length - (j + 1) ∧ j + 1 ≤ es.length ∧ ∃ F vs gb ya yb, Gr B F1 H1 F H'' ∧ Sub F4 F ∧ BagR c B F H'' gb ∧ H'' D = some (.lst vs) ∧ F D = none ∧ RvA c B F vs (acc ++ ya) ∧ vs.length = n0 + (j + 1) ∧ ys = ya ++ yb ∧ mapM' f1 (es.drop (j + 1)) gb = .ok yb g3), fun H' hN => hN, fun x H' hy => ?_⟩
        obtain ⟨F2, gr2, rx, bag2⟩ := W.yld j F H x H' _ s4 gr'.inn e1 hy
        refine helt F2 H' x es[j] gb y gc _ (s4.trans gr2.sub) (gr'.trans gr2) (bag2 _ bb) rx ef fun F3 H3 v gr3 bg3 rv => ?_
        have hv3 : H3 D = some (.lst vs) := gr3.keep _ _ (gr2.keep _ _ hv NT.lst nB) NT.lst nB
        have n3 : F3 D = none := gr3.new _ _ (gr2.keep _ _ hv NT.lst nB) NT.lst (gr2.new _ _ hv NT.lst nF)
        refine ⟨vs, hv3, Nat.lt_of_lt_of_le (show vs.length < 2000001 by omega) (by decide), es.length - (j + 1), by omega, rfl, jl', F3, vs ++ [v], gc, ya ++ [y], yc, ((gr'.trans gr2).trans gr3).mut NT.lst rD n3, (s4.trans gr2.sub).trans gr3.sub, bg3.mut b1 rD hv3, upd_same, n3,
          ?_, by rw [List.length_append, vl]; rfl, by rw [ey, List.append_assoc]; rfl, em⟩
        have r1 := (RvA.mono (gr2.trans gr3).sub _ _ ra).app (.cons rv .nil)
        rw [List.append_assoc] at r1
        exact r1
/-- with two clauses -/
theorem lc2_ok {c : Cn} {B : Option Addr} {E : XK} {F1 H1 : Hp} {g : List PD} {J : It} {ds : List PD} {f : PD → M (List PD)} {tg tg1 : TG} {wi1 : TI} {te : TE} {own vs1 : List Nat} {σ : L2.St} {Q : VK}
    (bg : BagR c B F1 H1 g) (s1 : Sub F1 H1) (W : Walks c B J F1 ds) (hl : ds.length ≤ 1000) (hx : ∀ d g x g', f d g = .exn x g' → False) (hy : ∀ d g ys g', f d g = .ok ys g' → ys.length ≤ 1000)
    (helt : ∀ F H x d gb ys gc D (acc : List PD) (n0 : Nat) (Nx : Hp → Prop), Gr B F1 H1 F H → BagR c B F H gb → Rv c B F x d → f d gb = .ok ys gc → H1 D = none → F D = none → (∃ vs, H D = some (.lst vs) ∧ RvA c B F vs acc ∧ vs.length = n0) → n0 ≤ 1000000 →
      (∀ F' H' vs, Gr B F1 H1 F' H' → BagR c B F' H' gc → H' D = some (.lst vs) → F' D = none → RvA c B F' vs (acc ++ ys) → vs.length = n0 + ys.length → Nx H') →
      tg x (wipe σ own) H fun σ2 H2 => wipe σ2 own = wipe σ own ∧ tYes σ2 H2 fun b H3 => if b = true then wi1 σ2 H3 fun J1 H4 => ∃ W1 : Nat → Nat → Hp → Prop, (∃ m, W1 0 m H4) ∧ ∀ j k H, W1 j k H →
        (J1.stop j H ∧ Nx H) ∨ (J1.go j H ∧ ∃ Nx1 : Hp → Prop, (∀ H', Nx1 H' → ∃ k', k' < k ∧ W1 (j + 1) k' H') ∧ ∀ x H', J1.yld j H x H' → tg1 x (wipe σ2 vs1) H' fun σ3 H5 => wipe σ3 vs1 = wipe σ2 vs1 ∧ tYes σ3 H5 fun b H6 =>
          if b = true then te σ3 H6 fun y H7 => ∃ acc, H7 D = some (.lst acc) ∧ acc.length < sizeLine ∧ Nx1 (upd H7 D (.lst (acc ++ [y]))) else Nx1 H6)
        else Nx H3)
    (h : Post c B E F1 H1 (mapM' f ds g) fun yss _ F' H' => ∀ a vs, H' a = some (.lst vs) → F' a = none → Fr0 H1 a → RvA c B F' vs yss.flatten → Q (.ref a) H') :
    ∀ D, H1 D = none → ∃ W : Nat → Nat → Hp → Prop, (∃ m, W 0 m (upd H1 D (.lst []))) ∧ ∀ i m H, W i m H →
      (J.stop i H ∧ Q (.ref D) H) ∨ (J.go i H ∧ ∃ Nx : Hp → Prop, (∀ H', Nx H' → ∃ m', m' < m ∧ W (i + 1) m' H') ∧ ∀ x H', J.yld i H x H' → tg x (wipe σ own) H' fun σ2 H2 => wipe σ2 own = wipe σ own ∧ tYes σ2 H2 fun b H3 =>
        if b = true then wi1 σ2 H3 fun J1 H4 => ∃ W1 : Nat → Nat → Hp → Prop, (∃ m, W1 0 m H4) ∧ ∀ j k H, W1 j k H →
          (J1.stop j H ∧ Nx H) ∨ (J1.go j H ∧ ∃ Nx1 : Hp → Prop, (∀ H', Nx1 H' → ∃ k', k' < k ∧ W1 (j + 1) k' H') ∧ ∀ x H', J1.yld j H x H' → tg1 x (wipe σ2 vs1) H' fun σ3 H5 => wipe σ3 vs1 = wipe σ2 vs1 ∧ tYes σ3 H5 fun b H6 =>
            if b = true then te σ3 H6 fun y H7 => ∃ acc, H7 D = some (.lst acc) ∧ acc.length < sizeLine ∧ Nx1 (upd H7 D (.lst (acc ++ [y]))) else Nx1 H6)
        else Nx H3) := by
  intro D hD
  have fD : F1 D = none := none_of s1 hD
  have rD : Fr0 H1 D := .of hD
  refine ⟨fun i m H => m = ds.length - i ∧ i ≤ ds.length ∧ ∃ F acc vs gb, Gr B F1 H1 F H ∧ BagR c B F H gb ∧ H D = some (.lst vs) ∧ F D = none ∧ RvA c B F vs acc ∧ vs.length ≤ i * 1000 ∧
    Post c B E F1 H1 (mapM' f (ds.drop i) gb) (fun yss _ F' H' => ∀ a vs, H' a = some (.lst vs) → F' a = none → Fr0 H1 a → RvA c B F' vs (acc ++ yss.flatten) → Q (.ref a) H'),
    ⟨_, rfl, Nat.zero_le _, F1, [], [], g, .freshM s1 hD, bg.freshM hD, upd_same, fD, .nil, Nat.zero_le _, h⟩, ?_⟩
  rintro i m H ⟨rfl, il, F, acc, vs, gb, gr, bb, hv, nD, ra, vl, hp⟩
  by_cases q : i = ds.length
  · left
    have e0 : ds.drop i = [] := by rw [q]; exact List.drop_length
    rw [e0] at hp
    refine ⟨W.stop i F H gr.sub gr.inn (by omega), ?_⟩
    refine hp F H gr bb D vs hv nD rD ?_
    show RvA c B F vs (acc ++ [])
    rw [List.append_nil]
    exact ra
  · right
    have il' : i < ds.length := by omega
    have e0 : ds.drop i = ds[i] :: ds.drop (i + 1) := List.drop_eq_getElem_cons il'
    have e1 : ds[i]? = some ds[i] := List.getElem?_eq_getElem il'
    rw [e0] at hp
    refine ⟨W.go i F H gr.sub gr.inn il', fun H'' => ∃ m', m' < ds.length - i ∧ (m' = ds.length - (i + 1) ∧ i + 1 ≤ ds.length ∧ ∃ F acc vs gb, Gr B F1 H1 F H'' ∧ BagR c B F H'' gb ∧ H'' D = some (.lst vs) ∧ F D = none ∧ RvA c B F vs acc ∧ vs.length ≤ (i + 1) * 1000 ∧
      Post c B E F1 H1 (mapM' f (ds.drop (i + 1)) gb) (fun yss _ F' H' => ∀ a vs, H' a = some (.lst vs) → F' a = none → Fr0 H1 a → RvA c B F' vs (acc ++ yss.flatten) → Q (.ref a) H')), fun H' hN => hN, fun x H' hy' => ?_⟩
    obtain ⟨F2, gr2, rx, bag2⟩ := W.yld i F H x H' _ gr.sub gr.inn e1 hy'
    have gr12 := gr.trans gr2
    have nB : some D ≠ B := fun e => (bg.ne e.symm rD) rfl
    have hv2 := gr2.keep _ _ hv NT.lst nB
    have n2 : F2 D = none := gr2.new _ _ hv NT.lst nD
    have hp' : Post c B E F1 H1 ((f ds[i] gb).bnd fun y => bnd (mapM' f (ds.drop (i + 1))) fun ys => ret (y :: ys)) _ := hp
    cases ef : f ds[i] gb with
    | stuck =>
      exfalso
      rw [ef] at hp'
      exact hp'
    | exn x g' => exact (hx _ _ _ _ ef).elim
    | ok ys g1 =>
      rw [ef] at hp'
      have hp2 : Post c B E F1 H1 (mapM' f (ds.drop (i + 1)) g1) (fun yss _ F' H' => ∀ a vs, H' a = some (.lst vs) → F' a = none → Fr0 H1 a → RvA c B F' vs ((acc ++ ys) ++ yss.flatten) → Q (.ref a) H') := by
        have hp3 : Post c B E F1 H1 ((mapM' f (ds.drop (i + 1)) g1).bnd fun yss => ret (ys :: yss)) _ := hp'
        refine (Post.bind hp3).imp fun yss g2 F' H' gr3 bg3 hk a ws e1 e2 e3 rv => ?_
        have hk' := hk F' H' (.refl gr3.inn) bg3 a ws e1 e2 e3
        rw [List.append_assoc] at rv
        exact hk' rv
      have yl := hy _ _ _ _ ef
      refine helt F2 H' x ds[i] gb ys g1 D acc vs.length _ gr12 (bag2 _ bb) rx ef hD n2 ⟨vs, hv2, RvA.mono gr2.sub _ _ ra, rfl⟩ (by omega) fun F' H'' vs' gr' bg' hv' nD' ra' vl' => ?_
      exact ⟨ds.length - (i + 1), by omega, rfl, il', F', acc ++ ys, vs', g1, gr', bg', hv', nD', ra', by omega, hp2⟩
end G

/-! The theorem of expressions. -/
namespace G
open PySem PySem.Spec PyProof.Rows L2
variable (Θ : Th) (Fn : Nat → List PD → M PD) (L : Lw)
/-- what the table says -/
structure Tab : Prop where
  sp : ∀ f, Θ.sp f = SpOf Θ.c (L.ar f) (Fn f)
  gl : ∀ n d, L.gD n = some d → ∀ B F, Rv Θ.c B F (Θ.c.gv n) d
  hd : ∀ (tl : XK → Hp → VK → Prop) (B : Option Addr) (F H : Hp) (g : List PD) (o : Out PD) (Q : VK), Sub F H → BagR Θ.c B F H g → (∀ (E : XK) (Q' : VK), Post Θ.c B E F H o (fun d _ F' H' => ∀ v, Rv Θ.c B F' v d → Q' v H') → tl E H Q') →
    Post Θ.c B E00 F H (hearO L.hear o) (fun d _ F' H' => ∀ v, Rv Θ.c B F' v d → Q v H') → Θ.hT tl H Q
variable {Θ Fn L}
variable (T : Tab Θ Fn L)
def argN : Exs → Nat
  | .nil => 0
  | .cons _ es => argN es + 1
mutual
/-- each call has as many arguments as the def takes -/
def okE (L : Lw) : Ex → Bool
  | .var _ => true
  | .lit d => isFl d
  | .glb _ => true
  | .op2 _ a b => okE L a && okE L b
  | .neg a => okE L a
  | .chain _ _ a b k => okE L a && (okE L b && okE L k)
  | .ite t a b => okT L t && (okE L a && okE L b)
  | .andV a b => okE L a && okE L b
  | .orV a b => okE L a && okE L b
  | .notV a => okE L a
  | .tup es => okA L es
  | .lst es => okA L es
  | .lc elt _ it _ => okE L elt && okI L it
  | .lcf elt _ it t _ => okE L elt && (okI L it && okT L t)
  | .lcN elt _ it _ => okE L elt && okI L it
  | .lcfN elt _ it t _ => okE L elt && (okI L it && okT L t)
  | .lc2 elt _ it _ it1 _ _ => okE L elt && (okI L it && okI L it1)
  | .sl a lo hi => okE L a && (okA L lo && okA L hi)
  | .rev a => okE L a
  | .blt _ a => okE L a
  | .max2 a b => okE L a && okE L b
  | .isi _ a => okE L a
  | .call f es => decide (argN es = L.ar f) && okA L es
  | .bget _ _ => true
  | .oix _ e => okE L e
  | .olen _ => true
  | .oem _ => true
  | .heard e => okE L e
def okA (L : Lw) : Exs → Bool
  | .nil => true
  | .cons e es => okE L e && okA L es
def okT (L : Lw) : Tx → Bool
  | .val e => okE L e
  | .and a b => okT L a && okT L b
  | .or a b => okT L a && okT L b
  | .not a => okT L a
def okI (L : Lw) : Ix → Bool
  | .list e => okE L e
  | .tup e => okE L e
  | .range e => okE L e
  | .range2 a b => okE L a && okE L b
  | .enumL e => okE L e
  | .enumT e => okE L e
  | .zip a b => okE L a && okE L b
end
theorem and_of {a b : Bool} (h : (a && b) = true) : a = true ∧ b = true := by simpa using h
theorem lit_rv {c : Cn} {B : Option Addr} {F : Hp} : ∀ {d : PD}, isFl d = true → Rv c B F (toV d) d
  | .none, _ => .non
  | .bool b, _ => .bl b
  | .int i, _ => .int i
  | .str x, _ => .str x
  | .list _, h => by cases h
  | .tuple _, h => by cases h
  | .dict _, h => by cases h
theorem wipe_sub (σ : L2.St) (own : List Nat) : ∀ vs : List Nat, (∀ v, v ∈ vs → own.contains v = true) → L2.wipe (L2.wipe σ vs) own = L2.wipe σ own
  | [], _ => rfl
  | v :: vs, h => by
    show L2.wipe ((L2.wipe σ vs).set v none) own = L2.wipe σ own
    rw [wipe_set _ v none own (h v List.mem_cons_self), wipe_sub σ own vs fun w hw => h w (List.mem_cons_of_mem _ hw)]
theorem wipe_idem (σ : L2.St) (own : List Nat) : L2.wipe (L2.wipe σ own) own = L2.wipe σ own := wipe_sub σ own own fun v hv => by simpa using hv
theorem Post.bindL {c : Cn} {B : Option Addr} {E : XK} {F H : Hp} {β γ : Type} {o : Out β} {f : β → M γ} {k : γ → List PD → Hp → Hp → Prop} {P : β → Prop} (h : Post c B E F H (o.bnd f) k) (hl : ∀ b g, o = .ok b g → P b) :
    Post c B E F H o fun b g F1 H1 => P b ∧ Post c B E F1 H1 (f b g) k := by
  cases o with
  | stuck => exact h
  | ok b g => exact fun F1 H1 gr bg => ⟨hl b g rfl, Post.grow (o := f b g) (k := k) h gr⟩
  | exn x g => exact h
theorem evA_len (Fn : Nat → List PD → M PD) (L : Lw) : ∀ (es : Exs) (env : EnvD) (g : List PD) (ds : List PD) (g' : List PD), evA Fn L es env g = .ok ds g' → ds.length = argN es
  | .nil, env, g, ds, g', h => by
    unfold evA at h
    cases h
    rfl
  | .cons e es, env, g, ds, g', h => by
    unfold evA at h
    have h' : (evE Fn L e env g).bnd (fun x => bnd (evA Fn L es env) fun xs => ret (x :: xs)) = .ok ds g' := h
    cases q : evE Fn L e env g with
    | stuck => rw [q] at h'; cases h'
    | exn x gg => rw [q] at h'; cases h'
    | ok x g1 =>
      rw [q] at h'
      have h2 : (evA Fn L es env g1).bnd (fun xs => ret (x :: xs)) = .ok ds g' := h'
      cases q2 : evA Fn L es env g1 with
      | stuck => rw [q2] at h2; cases h2
      | exn x gg => rw [q2] at h2; cases h2
      | ok xs g2 =>
        rw [q2] at h2
        cases h2
        show xs.length + 1 = argN es + 1
        rw [evA_len Fn L es env g1 xs _ q2]

theorem lcP {c : Cn} {B : Option Addr} {E : XK} {F H : Hp} {g : List PD} {α : Type} {k : α → List PD} {m : M α} {Q : VK} (bg : BagR c B F H g) (h : Post c B E F H ((m g).bnd fun ys => ret (.list (k ys))) fun d _ F' H' => ∀ v, Rv c B F' v d → Q v H') :
    Post c B E F H (m g) fun ys _ F' H' => ∀ a vs, H' a = some (.lst vs) → F' a = none → Fr0 H a → RvA c B F' vs (k ys) → Q (.ref a) H' := by
  have h' := Post.own bg h
  cases e : m g with
  | stuck => rw [e] at h'; exact h'
  | exn x g1 => rw [e] at h'; exact h'
  | ok ys g1 =>
    rw [e] at h'
    exact fun F' H' gr bg' a vs h1 h2 h3 ra => h' F' H' gr bg' (k ys) a vs rfl h1 h2 h3 ra
theorem mapM'_len {β γ : Type} (f : β → M γ) : ∀ (ds : List β) (g : List PD) (ys : List γ) (g' : List PD), mapM' f ds g = .ok ys g' → ys.length = ds.length
  | [], g, ys, g', h => by
    have h' : Out.ok ([] : List γ) g = .ok ys g' := h
    cases h'
    rfl
  | d :: ds, g, ys, g', h => by
    have h' : (f d g).bnd (fun y => bnd (mapM' f ds) fun ys => ret (y :: ys)) = .ok ys g' := h
    cases q : f d g with
    | stuck => rw [q] at h'; cases h'
    | exn x gg => rw [q] at h'; cases h'
    | ok y g1 =>
      rw [q] at h'
      have h2 : (mapM' f ds g1).bnd (fun ys => ret (y :: ys)) = .ok ys g' := h'
      cases q2 : mapM' f ds g1 with
      | stuck => rw [q2] at h2; cases h2
      | exn x gg => rw [q2] at h2; cases h2
      | ok zs g2 =>
        rw [q2] at h2
        cases h2
        show zs.length + 1 = ds.length + 1
        rw [mapM'_len f ds g1 zs _ q2]
/-- the parts of a comprehension -/
def lcF (Fn : Nat → List PD → M PD) (L : Lw) (elt : Ex) (tg : Tg) (own : List Nat) (env : EnvD) (d : PD) : M PD := match tgF tg d (wipeD env own) with | some env' => evE Fn L elt env' | none => stk
def lcfF (Fn : Nat → List PD → M PD) (L : Lw) (elt : Ex) (tg : Tg) (t : Tx) (own : List Nat) (env : EnvD) (d : PD) : M (Option PD) := match tgF tg d (wipeD env own) with | some env' => bnd (evT Fn L t env') fun k => if k = true then bnd (evE Fn L elt env') fun y => ret (some y) else ret none | none => stk
def lcNF (Fn : Nat → List PD → M PD) (L : Lw) (elt : Ex) (tg : Tg) (own : List Nat) (env : EnvD) (d : PD) : M PD := match tgF tg d (wipeD env own) with | some env' => noX (evE Fn L elt env') | none => stk
def lcfNF (Fn : Nat → List PD → M PD) (L : Lw) (elt : Ex) (tg : Tg) (t : Tx) (own : List Nat) (env : EnvD) (d : PD) : M (Option PD) := match tgF tg d (wipeD env own) with | some env' => noX (bnd (evT Fn L t env') fun k => if k = true then bnd (evE Fn L elt env') fun y => ret (some y) else ret none) | none => stk
theorem Post.noX {c : Cn} {B : Option Addr} {E : XK} {F H : Hp} {β : Type} {m : M β} {g : List PD} {k : β → List PD → Hp → Hp → Prop} (h : Post c B E F H (G.noX m g) k) : Post c B E00 F H (m g) k := by
  unfold G.noX at h
  cases e : m g with
  | stuck => rw [e] at h; exact h
  | ok b g' => rw [e] at h; exact h
  | exn x g' => rw [e] at h; exact False.elim h
def lc2G (Fn : Nat → List PD → M PD) (L : Lw) (elt : Ex) (tg1 : Tg) (vs1 : List Nat) (env1 : EnvD) (d1 : PD) : M PD := match tgF tg1 d1 (wipeD env1 vs1) with | some env2 => evE Fn L elt env2 | none => stk
def lc2F (Fn : Nat → List PD → M PD) (L : Lw) (elt : Ex) (tg tg1 : Tg) (it1 : Ix) (own vs1 : List Nat) (env : EnvD) (d : PD) : M (List PD) := match tgF tg d (noOw (wipeD env own)) with
  | some env1 => noX (bnd (evI Fn L it1 env1) fun es => if es.length ≤ 1000 then mapM' (lc2G Fn L elt tg1 vs1 env1) es else stk)
  | none => stk
include T
mutual
theorem evE_ok : ∀ (e : Ex) (E : XK) (B : Option Addr) (F H : Hp) (σ : L2.St) (env : EnvD) (g : List PD) (Q : VK), okE L e = true → Sub F H → BagR Θ.c B F H g → MEnv Θ.c B F H σ env →
    Post Θ.c B E F H (evE Fn L e env g) (fun d _ F' H' => ∀ v, Rv Θ.c B F' v d → Q v H') → dE Θ E e σ H Q
  | .var i, E, B, F, H, σ, env, g, Q, ok, s, bg, me, h => by
    unfold evE at h
    cases e : env[i]? with
    | none => rw [e] at h; exact False.elim h
    | some sl =>
      cases sl with
      | no => rw [e] at h; exact False.elim h
      | own xs => rw [e] at h; exact False.elim h
      | d x =>
        rw [e] at h
        obtain ⟨v, h1, r⟩ := me.get e
        exact ⟨v, h1, h F H (.refl s) bg v r⟩
  | .lit d, E, B, F, H, σ, env, g, Q, ok, s, bg, me, h => h F H (.refl s) bg _ (lit_rv ok)
  | .glb n, E, B, F, H, σ, env, g, Q, ok, s, bg, me, h => by
    unfold evE at h
    obtain ⟨z, e, h1⟩ := ofO_post h
    exact h1 F H (.refl s) bg _ (T.gl n z e B F)
  | .op2 o a b, E, B, F, H, σ, env, g, Q, ok, s, bg, me, h => by
    obtain ⟨ok1, ok2⟩ := and_of ok
    unfold evE at h
    refine evE_ok a E B F H σ env g _ ok1 s bg me ((Post.bind h).imp fun x g1 F1 H1 gr1 bg1 h1 v1 r1 => ?_)
    refine evE_ok b E B F1 H1 σ env g1 _ ok2 gr1.inn bg1 (me.grow gr1) ((Post.bind h1).imp fun y g2 F2 H2 gr2 bg2 h2 v2 r2 => ?_)
    obtain ⟨z, e, h3⟩ := ofO_post h2
    exact op_ok o gr2.inn bg2 (Rv.mono gr2.sub _ _ r1) r2 e fun F' H' v gr bg' rv => h3 F' H' gr bg' v rv
  | .neg a, E, B, F, H, σ, env, g, Q, ok, s, bg, me, h => by
    unfold evE at h
    refine evE_ok a E B F H σ env g _ ok s bg me ((Post.bind h).imp fun x g1 F1 H1 gr1 bg1 h1 v1 r1 => ?_)
    cases x <;> try exact False.elim h1
    cases r1
    exact ⟨_, rfl, h1 F1 H1 (.refl gr1.inn) bg1 _ (.int _)⟩
  | .chain o o' a b k, E, B, F, H, σ, env, g, Q, ok, s, bg, me, h => by
    obtain ⟨ok1, ok2⟩ := and_of ok
    obtain ⟨ok2, ok3⟩ := and_of ok2
    unfold evE at h
    refine evE_ok a E B F H σ env g _ ok1 s bg me ((Post.bind h).imp fun x g1 F1 H1 gr1 bg1 h1 v1 r1 => ?_)
    refine evE_ok b E B F1 H1 σ env g1 _ ok2 gr1.inn bg1 (me.grow gr1) ((Post.bind h1).imp fun y g2 F2 H2 gr2 bg2 h2 v2 r2 => ?_)
    cases e : opF o x y with
    | none => rw [e] at h2; exact False.elim h2
    | some z =>
      rw [e] at h2
      refine op_ok o gr2.inn bg2 (Rv.mono gr2.sub _ _ r1) r2 e fun F3 H3 v gr3 bg3 rv => ?_
      cases z <;> try exact False.elim h2
      rename_i kb
      cases rv
      cases kb with
      | false => exact ⟨false, rfl, h2 F3 H3 gr3 bg3 _ (.bl false)⟩
      | true =>
        refine ⟨true, rfl, ?_⟩
        show dE Θ E k σ H3 _
        refine evE_ok k E B F3 H3 σ env g2 _ ok3 gr3.inn bg3 (me.grow ((gr1.trans gr2).trans gr3)) ((Post.bind (Post.grow h2 gr3)).imp fun w g4 F4 H4 gr4 bg4 h4 v4 r4 => ?_)
        obtain ⟨z2, e2, h5⟩ := ofO_post h4
        exact op_ok o' gr4.inn bg4 (Rv.mono (gr3.trans gr4).sub _ _ r2) r4 e2 fun F' H' v gr bg' rv => h5 F' H' gr bg' v rv
  | .ite t a b, E, B, F, H, σ, env, g, Q, ok, s, bg, me, h => by
    obtain ⟨ok1, ok2⟩ := and_of ok
    obtain ⟨ok2, ok3⟩ := and_of ok2
    unfold evE at h
    refine evT_ok t E B F H σ env g _ ok1 s bg me ((Post.bind h).imp fun x g1 F1 H1 gr1 bg1 h1 => ?_)
    cases x with
    | true => exact evE_ok a E B F1 H1 σ env g1 _ ok2 gr1.inn bg1 (me.grow gr1) h1
    | false => exact evE_ok b E B F1 H1 σ env g1 _ ok3 gr1.inn bg1 (me.grow gr1) h1
  | .andV a b, E, B, F, H, σ, env, g, Q, ok, s, bg, me, h => by
    obtain ⟨ok1, ok2⟩ := and_of ok
    unfold evE at h
    refine evE_ok a E B F H σ env g _ ok1 s bg me ((Post.bind h).imp fun x g1 F1 H1 gr1 bg1 h1 v1 r1 => ?_)
    cases x <;> try exact False.elim h1
    rename_i kb
    cases r1
    cases kb with
    | false => exact ⟨false, rfl, h1 F1 H1 (.refl gr1.inn) bg1 _ (.bl false)⟩
    | true => exact ⟨true, rfl, evE_ok b E B F1 H1 σ env g1 _ ok2 gr1.inn bg1 (me.grow gr1) h1⟩
  | .orV a b, E, B, F, H, σ, env, g, Q, ok, s, bg, me, h => by
    obtain ⟨ok1, ok2⟩ := and_of ok
    unfold evE at h
    refine evE_ok a E B F H σ env g _ ok1 s bg me ((Post.bind h).imp fun x g1 F1 H1 gr1 bg1 h1 v1 r1 => ?_)
    cases x <;> try exact False.elim h1
    rename_i kb
    cases r1
    cases kb with
    | true => exact ⟨true, rfl, h1 F1 H1 (.refl gr1.inn) bg1 _ (.bl true)⟩
    | false => exact ⟨false, rfl, evE_ok b E B F1 H1 σ env g1 _ ok2 gr1.inn bg1 (me.grow gr1) h1⟩
  | .notV a, E, B, F, H, σ, env, g, Q, ok, s, bg, me, h => by
    unfold evE at h
    refine evE_ok a E B F H σ env g _ ok s bg me ((Post.bind h).imp fun x g1 F1 H1 gr1 bg1 h1 v1 r1 => ?_)
    cases x <;> try exact False.elim h1
    cases r1
    exact ⟨_, rfl, h1 F1 H1 (.refl gr1.inn) bg1 _ (.bl _)⟩
  | .tup es, E, B, F, H, σ, env, g, Q, ok, s, bg, me, h => by
    unfold evE at h
    refine evA_ok es E B F H σ env g _ ok s bg me ((Post.bind h).imp fun ds g1 F1 H1 gr1 bg1 h1 vs rs => ?_)
    by_cases l : ds.length ≤ 1000
    · rw [if_pos l] at h1
      refine ⟨Nat.le_trans (by rw [rs.length]; exact l) (by decide), fun p hp => ?_⟩
      exact h1 _ _ (.fresh gr1.inn hp) (bg1.fresh gr1.inn hp NT.tup) _ (.tup (.inl (.inl upd_same)) (RvA.mono (Gr.fresh (B := B) gr1.inn hp).sub _ _ rs))
    · rw [if_neg l] at h1; exact False.elim h1
  | .lst es, E, B, F, H, σ, env, g, Q, ok, s, bg, me, h => by
    unfold evE at h
    refine evA_ok es E B F H σ env g _ ok s bg me ((Post.bind h).imp fun ds g1 F1 H1 gr1 bg1 h1 vs rs => ?_)
    by_cases l : ds.length ≤ 1000
    · rw [if_pos l] at h1
      refine ⟨Nat.le_trans (by rw [rs.length]; exact l) (by decide), fun p hp => ?_⟩
      exact h1 _ _ (.fresh gr1.inn hp) (bg1.fresh gr1.inn hp NT.lst) _ (.lst upd_same (RvA.mono (Gr.fresh (B := B) gr1.inn hp).sub _ _ rs))
    · rw [if_neg l] at h1; exact False.elim h1
  | .lc elt tg it own, E, B, F, H, σ, env, g, Q, ok, s, bg, me, h => by
    obtain ⟨ok1, ok2⟩ := and_of ok
    unfold evE at h
    refine evI_ok it E B F H σ env g _ ok2 s bg me ((Post.bind h).imp fun ds g1 F1 H1 gr1 bg1 h1 J W => ?_)
    by_cases l : ds.length ≤ 1000000 ∧ tgIn tg own = true
    · rw [if_pos l] at h1
      have h2 := lcP (k := id) (E := E) (Q := Q) bg1 (show Post Θ.c B E F1 H1 ((mapM' (lcF Fn L elt tg own env) ds g1).bnd fun ys => ret (PyData.list (id ys))) (fun d _ F' H' => ∀ v, Rv Θ.c B F' v d → Q v H') from h1)
      rw [← mapF_some] at h2
      refine lc_ok bg1 gr1.inn W l.1 (fun F2 H2 x d gb Qs Qn gr2 bg2 rx k => ?_) h2
      unfold lcF at k
      cases e : tgF tg d (wipeD env own) with
      | none => rw [e] at k; exact False.elim k
      | some env' =>
        rw [e] at k
        refine tg_ok gr2.inn tg d _ env' _ x _ e ((me.grow (gr1.trans gr2)).wipe own) rx fun σ' me' hw => ⟨by rw [hw own l.2]; exact wipe_idem σ own, ?_⟩
        show dE Θ E elt σ' H2 Qs
        exact evE_ok elt E B F2 H2 σ' env' gb _ ok1 gr2.inn bg2 me' ((Post.bind k).imp fun y g3 F3 H3 gr3 bg3 h3 v r => h3 F3 H3 (.refl gr3.inn) bg3 v r)
    · rw [if_neg l] at h1; exact False.elim h1
  | .lcf elt tg it t own, E, B, F, H, σ, env, g, Q, ok, s, bg, me, h => by
    obtain ⟨ok1, ok2⟩ := and_of ok
    obtain ⟨ok2, ok3⟩ := and_of ok2
    unfold evE at h
    refine evI_ok it E B F H σ env g _ ok2 s bg me ((Post.bind h).imp fun ds g1 F1 H1 gr1 bg1 h1 J W => ?_)
    by_cases l : ds.length ≤ 1000000 ∧ tgIn tg own = true
    · rw [if_pos l] at h1
      have h2 := lcP (k := id) (E := E) (Q := Q) bg1 (show Post Θ.c B E F1 H1 ((mapF (lcfF Fn L elt tg t own env) ds g1).bnd fun ys => ret (PyData.list (id ys))) (fun d _ F' H' => ∀ v, Rv Θ.c B F' v d → Q v H') from h1)
      refine lc_ok bg1 gr1.inn W l.1 (fun F2 H2 x d gb Qs Qn gr2 bg2 rx k => ?_) h2
      unfold lcfF at k
      cases e : tgF tg d (wipeD env own) with
      | none => rw [e] at k; exact False.elim k
      | some env' =>
        rw [e] at k
        refine tg_ok gr2.inn tg d _ env' _ x _ e ((me.grow (gr1.trans gr2)).wipe own) rx fun σ' me' hw => ⟨by rw [hw own l.2]; exact wipe_idem σ own, ?_⟩
        refine evT_ok t E B F2 H2 σ' env' gb _ ok3 gr2.inn bg2 me' ((Post.bind k).imp fun kb g3 F3 H3 gr3 bg3 h3 => ?_)
        cases kb with
        | false =>
          rw [if_neg Bool.false_ne_true]
          exact h3 F3 H3 (.refl gr3.inn) bg3
        | true =>
          rw [if_pos rfl]
          exact evE_ok elt E B F3 H3 σ' env' g3 _ ok1 gr3.inn bg3 (me'.grow gr3) ((Post.bind h3).imp fun y g4 F4 H4 gr4 bg4 h4 v r => h4 F4 H4 (.refl gr4.inn) bg4 v r)
    · rw [if_neg l] at h1; exact False.elim h1
  | .lcN elt tg it own, E, B, F, H, σ, env, g, Q, ok, s, bg, me, h => by
    obtain ⟨ok1, ok2⟩ := and_of ok
    unfold evE at h
    refine evI_ok it E B F H σ env g _ ok2 s bg me ((Post.bind h).imp fun ds g1 F1 H1 gr1 bg1 h1 J W => ?_)
    by_cases l : ds.length ≤ 1000000 ∧ tgIn tg own = true
    · rw [if_pos l] at h1
      have h2 := lcP (k := id) (E := E) (Q := Q) bg1 (show Post Θ.c B E F1 H1 ((mapM' (lcNF Fn L elt tg own env) ds g1).bnd fun ys => ret (PyData.list (id ys))) (fun d _ F' H' => ∀ v, Rv Θ.c B F' v d → Q v H') from h1)
      rw [← mapF_some] at h2
      refine lc_ok bg1 gr1.inn W l.1 (fun F2 H2 x d gb Qs Qn gr2 bg2 rx k => ?_) h2
      unfold lcNF at k
      cases e : tgF tg d (wipeD env own) with
      | none => rw [e] at k; exact False.elim k
      | some env' =>
        rw [e] at k
        refine tg_ok gr2.inn tg d _ env' _ x _ e ((me.grow (gr1.trans gr2)).wipe own) rx fun σ' me' hw => ⟨by rw [hw own l.2]; exact wipe_idem σ own, ?_⟩
        show dE Θ E00 elt σ' H2 Qs
        exact evE_ok elt E00 B F2 H2 σ' env' gb _ ok1 gr2.inn bg2 me' ((Post.noX (Post.bind k)).imp fun y g3 F3 H3 gr3 bg3 h3 v r => h3 F3 H3 (.refl gr3.inn) bg3 v r)
    · rw [if_neg l] at h1; exact False.elim h1
  | .lcfN elt tg it t own, E, B, F, H, σ, env, g, Q, ok, s, bg, me, h => by
    obtain ⟨ok1, ok2⟩ := and_of ok
    obtain ⟨ok2, ok3⟩ := and_of ok2
    unfold evE at h
    refine evI_ok it E B F H σ env g _ ok2 s bg me ((Post.bind h).imp fun ds g1 F1 H1 gr1 bg1 h1 J W => ?_)
    by_cases l : ds.length ≤ 1000000 ∧ tgIn tg own = true
    · rw [if_pos l] at h1
      have h2 := lcP (k := id) (E := E) (Q := Q) bg1 (show Post Θ.c B E F1 H1 ((mapF (lcfNF Fn L elt tg t own env) ds g1).bnd fun ys => ret (PyData.list (id ys))) (fun d _ F' H' => ∀ v, Rv Θ.c B F' v d → Q v H') from h1)
      refine lc_ok bg1 gr1.inn W l.1 (fun F2 H2 x d gb Qs Qn gr2 bg2 rx k => ?_) h2
      unfold lcfNF at k
      cases e : tgF tg d (wipeD env own) with
      | none => rw [e] at k; exact False.elim k
      | some env' =>
        rw [e] at k
        refine tg_ok gr2.inn tg d _ env' _ x _ e ((me.grow (gr1.trans gr2)).wipe own) rx fun σ' me' hw => ⟨by rw [hw own l.2]; exact wipe_idem σ own, ?_⟩
        have k := Post.noX k
        refine evT_ok t E00 B F2 H2 σ' env' gb _ ok3 gr2.inn bg2 me' ((Post.bind k).imp fun kb g3 F3 H3 gr3 bg3 h3 => ?_)
        cases kb with
        | false =>
          rw [if_neg Bool.false_ne_true]
          exact h3 F3 H3 (.refl gr3.inn) bg3
        | true =>
          rw [if_pos rfl]
          exact evE_ok elt E00 B F3 H3 σ' env' g3 _ ok1 gr3.inn bg3 (me'.grow gr3) ((Post.bind h3).imp fun y g4 F4 H4 gr4 bg4 h4 v r => h4 F4 H4 (.refl gr4.inn) bg4 v r)
    · rw [if_neg l] at h1; exact False.elim h1
  | .lc2 elt tg it tg1 it1 own vs1, E, B, F, H, σ, env, g, Q, ok, s, bg, me, h => by
    obtain ⟨ok1, ok2⟩ := and_of ok
    obtain ⟨ok2, ok3⟩ := and_of ok2
    unfold evE at h
    refine evI_ok it E B F H σ env g _ ok2 s bg me ((Post.bind h).imp fun ds g1 F1 H1 gr1 bg1 h1 J W => ?_)
    by_cases l : ds.length ≤ 1000 ∧ (tgIn tg own && tgIn tg1 vs1) = true
    · rw [if_pos l] at h1
      obtain ⟨l1, l2⟩ := l
      obtain ⟨l2, l3⟩ := and_of l2
      have h2 := lcP (k := List.flatten) (E := E) (Q := Q) bg1 (show Post Θ.c B E F1 H1 ((mapM' (lc2F Fn L elt tg tg1 it1 own vs1 env) ds g1).bnd fun ys => ret (PyData.list ys.flatten)) (fun d _ F' H' => ∀ v, Rv Θ.c B F' v d → Q v H') from h1)
      refine lc2_ok bg1 gr1.inn W l1 (fun d g x g' e => ?_) (fun d g ys g' e => ?_) (fun F2 H2 x d gb ys gc D acc n0 Nx gr2 bg2 rx ef hD nD hv hn hN => ?_) h2
      · unfold lc2F at e
        cases e1 : tgF tg d (noOw (wipeD env own)) with
        | none => rw [e1] at e; cases e
        | some env1 => rw [e1] at e; exact noX_exn e
      · unfold lc2F at e
        cases e1 : tgF tg d (noOw (wipeD env own)) with
        | none => rw [e1] at e; cases e
        | some env1 =>
          rw [e1] at e
          have e2 : (evI Fn L it1 env1 g).bnd (fun es => if es.length ≤ 1000 then mapM' (lc2G Fn L elt tg1 vs1 env1) es else stk) = .ok ys g' := noX_ok e
          cases e3 : evI Fn L it1 env1 g with
          | stuck => rw [e3] at e2; cases e2
          | exn x gg => rw [e3] at e2; cases e2
          | ok es g2 =>
            rw [e3] at e2
            have e4 : (if es.length ≤ 1000 then mapM' (lc2G Fn L elt tg1 vs1 env1) es else stk) g2 = .ok ys g' := e2
            by_cases le : es.length ≤ 1000
            · rw [if_pos le] at e4
              rw [mapM'_len _ _ _ _ _ e4]
              exact le
            · rw [if_neg le] at e4; cases e4
      · unfold lc2F at ef
        cases e1 : tgF tg d (noOw (wipeD env own)) with
        | none => rw [e1] at ef; cases ef
        | some env1 =>
          rw [e1] at ef
          have e2 : (evI Fn L it1 env1 gb).bnd (fun es => if es.length ≤ 1000 then mapM' (lc2G Fn L elt tg1 vs1 env1) es else stk) = .ok ys gc := noX_ok ef
          have no1 : NoOwn env1 := NoOwn.tg tg d _ env1 (noOw_no _) e1
          have rD : Fr0 H1 D := .of hD
          have nB : some D ≠ B := fun e => (bg1.ne e.symm rD) rfl
          obtain ⟨vs, hv1, ra, hl0⟩ := hv
          refine tg_ok gr2.inn tg d _ env1 _ x _ e1 ((me.grow (gr1.trans gr2)).wipe own).noOw rx fun σ2 me2 hw => ⟨by rw [hw own l2]; exact wipe_idem σ own, ?_⟩
          show dI Θ E00 it1 σ2 H2 _
          refine evI_ok it1 E00 B F2 H2 σ2 env1 gb _ ok3 gr2.inn bg2 me2 ?_
          cases e3 : evI Fn L it1 env1 gb with
          | stuck => rw [e3] at e2; cases e2
          | exn x gg => rw [e3] at e2; cases e2
          | ok es g2 =>
            rw [e3] at e2
            have e4 : (if es.length ≤ 1000 then mapM' (lc2G Fn L elt tg1 vs1 env1) es else stk) g2 = .ok ys gc := e2
            by_cases le : es.length ≤ 1000
            · rw [if_pos le] at e4
              intro F4 H4 gr4 bg4 J1 W1
              have hv4 := gr4.keep _ _ hv1 NT.lst nB
              have n4 := gr4.new _ _ hv1 NT.lst nD
              refine lc2_in bg1 rD (gr2.trans gr4) bg4 ⟨vs, hv4, RvA.mono gr4.sub _ _ ra, hl0⟩ n4 W1 (by omega) e4 (fun F5 H5 x5 d5 gb5 y5 gc5 Q5 s45 gr5 bg5 rx5 ef5 k5 => ?_) (fun F5 H5 vs5 gr5 s45 bg5 hv5 n5 ra5 vl5 => ?_)
              · unfold lc2G at ef5
                cases e5 : tgF tg1 d5 (wipeD env1 vs1) with
                | none => rw [e5] at ef5; cases ef5
                | some env2 =>
                  rw [e5] at ef5
                  refine tg_ok gr5.inn tg1 d5 _ env2 _ x5 _ e5 ((me2.sub no1 (gr4.sub.trans s45)).wipe vs1) rx5 fun σ3 me3 hw3 => ⟨by rw [hw3 vs1 l3]; exact wipe_idem σ2 vs1, ?_⟩
                  refine evE_ok elt E00 B F5 H5 σ3 env2 gb5 _ ok1 gr5.inn bg5 me3 ?_
                  rw [show evE Fn L elt env2 gb5 = .ok y5 gc5 from ef5]
                  exact fun F' H' gr' bg' v rv => k5 F' H' v gr' bg' rv
              · exact hN F5 H5 vs5 gr5 bg5 hv5 n5 ra5 (by rw [vl5, mapM'_len _ _ _ _ _ e4])
            · rw [if_neg le] at e4; cases e4
    · rw [if_neg l] at h1; exact False.elim h1
  | .sl a lo hi, E, B, F, H, σ, env, g, Q, ok, s, bg, me, h => by
    obtain ⟨ok1, ok2⟩ := and_of ok
    obtain ⟨ok2, ok3⟩ := and_of ok2
    unfold evE at h
    refine evE_ok a E B F H σ env g _ ok1 s bg me ((Post.bind h).imp fun x g1 F1 H1 gr1 bg1 h1 v1 r1 => ?_)
    refine evO_ok lo E B F1 H1 σ env g1 _ ok2 gr1.inn bg1 (me.grow gr1) ((Post.bind h1).imp fun l g2 F2 H2 gr2 bg2 h2 => ?_)
    refine evO_ok hi E B F2 H2 σ env g2 _ ok3 gr2.inn bg2 (me.grow (gr1.trans gr2)) ((Post.bind h2).imp fun u g3 F3 H3 gr3 bg3 h3 => ?_)
    obtain ⟨z, e, h4⟩ := ofO_post h3
    exact sl_ok gr3.inn bg3 (Rv.mono (gr2.trans gr3).sub _ _ r1) e fun F' H' v gr bg' rv => h4 F' H' gr bg' v rv
  | .blt b a, E, B, F, H, σ, env, g, Q, ok, s, bg, me, h => by
    unfold evE at h
    refine evE_ok a E B F H σ env g _ ok s bg me ((Post.bind h).imp fun x g1 F1 H1 gr1 bg1 h1 v1 r1 => ?_)
    obtain ⟨z, e, h4⟩ := ofO_post h1
    exact blt_ok b gr1.inn bg1 r1 e fun F' H' v gr bg' rv => h4 F' H' gr bg' v rv
  | .rev a, E, B, F, H, σ, env, g, Q, ok, s, bg, me, h => by
    unfold evE at h
    refine evE_ok a E B F H σ env g _ ok s bg me ((Post.bind h).imp fun x g1 F1 H1 gr1 bg1 h1 v1 r1 => ?_)
    obtain ⟨z, e, h4⟩ := ofO_post h1
    exact rev_ok gr1.inn bg1 r1 e fun F' H' v gr bg' rv => h4 F' H' gr bg' v rv
  | .max2 a b, E, B, F, H, σ, env, g, Q, ok, s, bg, me, h => by
    obtain ⟨ok1, ok2⟩ := and_of ok
    unfold evE at h
    refine evE_ok a E B F H σ env g _ ok1 s bg me ((Post.bind h).imp fun x g1 F1 H1 gr1 bg1 h1 v1 r1 => ?_)
    refine evE_ok b E B F1 H1 σ env g1 _ ok2 gr1.inn bg1 (me.grow gr1) ((Post.bind h1).imp fun y g2 F2 H2 gr2 bg2 h2 v2 r2 => ?_)
    obtain ⟨z, e, h3⟩ := ofO_post h2
    exact max2_ok gr2.inn bg2 (Rv.mono gr2.sub _ _ r1) r2 e fun F' H' v gr bg' rv => h3 F' H' gr bg' v rv
  | .isi t a, E, B, F, H, σ, env, g, Q, ok, s, bg, me, h => by
    unfold evE at h
    refine evE_ok a E B F H σ env g _ ok s bg me ((Post.bind h).imp fun x g1 F1 H1 gr1 bg1 h1 v1 r1 => ?_)
    obtain ⟨z, e, h4⟩ := ofO_post h1
    exact isi_ok gr1.inn bg1 r1 e fun F' H' v gr bg' rv => h4 F' H' gr bg' v rv
  | .call f es, E, B, F, H, σ, env, g, Q, ok, s, bg, me, h => by
    obtain ⟨ok1, ok2⟩ := and_of ok
    have ok1 := of_decide_eq_true ok1
    unfold evE at h
    refine evA_ok es E B F H σ env g _ ok2 s bg me ?_
    refine (Post.bindL h (evA_len Fn L es env g)).imp fun ds g1 F1 H1 gr1 bg1 h1 vs rs => ?_
    rw [T.sp f]
    exact ⟨B, F1, g1, ds, gr1.inn, bg1, by rw [List.append_nil]; exact rs, h1.1.trans ok1, h1.2⟩
  | .bget i n, E, B, F, H, σ, env, g, Q, ok, s, bg, me, h => by
    unfold evE at h
    cases e0 : (env[i]?).bind bagOf with
    | none => rw [e0] at h; exact False.elim h
    | some u =>
      rw [e0] at h
      obtain ⟨sl, e1, e2⟩ := Option.bind_eq_some_iff.mp e0
      have e3 := bagOf_eq e2
      subst e3
      obtain ⟨v, h1, r⟩ := me.get e1
      cases r with
      | bag eB =>
        obtain ⟨nF, vs, hv, ra⟩ := bg.bag _ eB
        have h' : Post Θ.c B E F H (match g[n]? with | some d => Out.ok d g | none => .stuck) _ := h
        cases e4 : g[n]? with
        | none => rw [e4] at h'; exact False.elim h'
        | some d =>
          rw [e4] at h'
          obtain ⟨w, h2, r2⟩ := ra.get e4
          have hl : n < vs.length := (List.getElem?_eq_some_iff.mp h2).1
          exact ⟨_, h1, _, vs, n, w, rfl, rfl, .inl (.inl hv), atI_nat h2, h' F H (.refl s) bg w r2⟩
  | .oix i e, E, B, F, H, σ, env, g, Q, ok, s, bg, me, h => by
    unfold evE at h
    cases e0 : (env[i]?).bind ownOf with
    | none => rw [e0] at h; exact False.elim h
    | some xs =>
      rw [e0] at h
      obtain ⟨sl, e1, e2⟩ := Option.bind_eq_some_iff.mp e0
      have e3 := ownOf_eq e2
      subst e3
      obtain ⟨o, h1, a, vs, h2, h3, h4, h5, h6⟩ := me.sl i _ e1
      subst h2
      refine ⟨_, h1, ?_⟩
      refine evE_ok e E B F H σ env g _ ok s bg me ((Post.bind h).imp fun y g1 F1 H1 gr1 bg1 h7 v1 r1 => ?_)
      cases y <;> try exact False.elim h7
      cases r1
      obtain ⟨z, e4, h8⟩ := ofO_post h7
      obtain ⟨w, e5, r2⟩ := ixN_len h6 e4
      exact .inl ⟨_, vs, _, w, rfl, rfl, .inl (.inl (gr1.keep _ _ h3 NT.lst h5)), e5, h8 F1 H1 (.refl gr1.inn) bg1 w (Rv.mono gr1.sub _ _ r2)⟩
  | .olen i, E, B, F, H, σ, env, g, Q, ok, s, bg, me, h => by
    unfold evE at h
    cases e0 : (env[i]?).bind ownOf with
    | none => rw [e0] at h; exact False.elim h
    | some xs =>
      rw [e0] at h
      obtain ⟨sl, e1, e2⟩ := Option.bind_eq_some_iff.mp e0
      have e3 := ownOf_eq e2
      subst e3
      obtain ⟨o, h1, a, vs, h2, h3, h4, h5, h6⟩ := me.sl i _ e1
      subst h2
      refine ⟨_, h1, .inl ⟨_, vs, rfl, .inl (.inl (.inl h3)), ?_⟩⟩
      rw [h6.length]
      exact h F H (.refl s) bg _ (.int _)
  | .oem i, E, B, F, H, σ, env, g, Q, ok, s, bg, me, h => by
    unfold evE at h
    cases e0 : (env[i]?).bind ownOf with
    | none => rw [e0] at h; exact False.elim h
    | some xs =>
      rw [e0] at h
      obtain ⟨sl, e1, e2⟩ := Option.bind_eq_some_iff.mp e0
      have e3 := ownOf_eq e2
      subst e3
      obtain ⟨o, h1, a, vs, h2, h3, h4, h5, h6⟩ := me.sl i _ e1
      subst h2
      have h' : Post Θ.c B E F H ((if shp (.list xs) = true then ret (.bool (!PyData.eqv (.list xs) (.list []))) else stk : M PD) g) (fun d _ F' H' => ∀ v, Rv Θ.c B F' v d → Q v H') := h
      by_cases l : shp (.list xs) = true
      · rw [if_pos l] at h'
        refine ⟨_, h1, by show 0 ≤ sizeLine; decide, fun p hp => ?_⟩
        have s1 : noDs xs = true := (shp_of l).1
        have gr := Gr.freshM (B := B) (o := HO.lst []) s hp
        refine ⟨_, _, .lst (.inl (.inl (by rw [upd_ne (ne_of_none h3 hp)]; exact h3))) (RvA.dp xs vs s1 (RvA.mono (s.trans (sub_upd hp)) _ _ h6)), .lst (.inl (.inl upd_same)) .nil, (shp_of l).2, by decide +kernel, ?_⟩
        exact h' F _ gr (bg.freshM hp) _ (.bl _)
      · rw [if_neg l] at h'; exact False.elim h'
  | .heard e, E, B, F, H, σ, env, g, Q, ok, s, bg, me, h => by
    unfold evE at h
    refine ⟨bg.tb, fun H1 hE hT => ?_⟩
    have gr := Gr.ext bg s hE
    have bg1 := bg.ext hE hT
    have s1 := gr.inn
    refine T.hd _ B F H1 g (evE Fn L e env g) Q s1 bg1 (fun E' Q' hp => evE_ok e E' B F H1 σ env g Q' ok s1 bg1 (me.grow gr) hp) ?_
    have h' : Post Θ.c B E F H (hearO L.hear (evE Fn L e env g)) (fun d _ F' H' => ∀ v, Rv Θ.c B F' v d → Q v H') := h
    have h2 := h'.grow gr
    cases q : hearO L.hear (evE Fn L e env g) with
    | stuck => rw [q] at h2; exact h2
    | ok d g' => rw [q] at h2; exact h2
    | exn x g' =>
      exfalso
      unfold hearO at q
      split at q
      · cases q
      · cases q
      · split at q <;> cases q
theorem evA_ok : ∀ (es : Exs) (E : XK) (B : Option Addr) (F H : Hp) (σ : L2.St) (env : EnvD) (g : List PD) (Q : List V → Hp → Prop), okA L es = true → Sub F H → BagR Θ.c B F H g → MEnv Θ.c B F H σ env →
    Post Θ.c B E F H (evA Fn L es env g) (fun ds _ F' H' => ∀ vs, RvA Θ.c B F' vs ds → Q vs H') → dA Θ E es σ H Q
  | .nil, E, B, F, H, σ, env, g, Q, ok, s, bg, me, h => h F H (.refl s) bg _ .nil
  | .cons e es, E, B, F, H, σ, env, g, Q, ok, s, bg, me, h => by
    obtain ⟨ok1, ok2⟩ := and_of ok
    unfold evA at h
    refine evE_ok e E B F H σ env g _ ok1 s bg me ((Post.bind h).imp fun x g1 F1 H1 gr1 bg1 h1 v1 r1 => ?_)
    refine evA_ok es E B F1 H1 σ env g1 _ ok2 gr1.inn bg1 (me.grow gr1) ((Post.bind h1).imp fun xs g2 F2 H2 gr2 bg2 h2 vs rs => ?_)
    exact h2 F2 H2 (.refl gr2.inn) bg2 _ (.cons (Rv.mono gr2.sub _ _ r1) rs)
theorem evO_ok : ∀ (es : Exs) (E : XK) (B : Option Addr) (F H : Hp) (σ : L2.St) (env : EnvD) (g : List PD) (Q : Option Int → Hp → Prop), okA L es = true → Sub F H → BagR Θ.c B F H g → MEnv Θ.c B F H σ env →
    Post Θ.c B E F H (evO Fn L es env g) (fun l _ _ H' => Q l H') → dO Θ E es σ H Q
  | .nil, E, B, F, H, σ, env, g, Q, ok, s, bg, me, h => h F H (.refl s) bg
  | .cons e es, E, B, F, H, σ, env, g, Q, ok, s, bg, me, h => by
    obtain ⟨ok1, ok2⟩ := and_of ok
    unfold evO at h
    refine evE_ok e E B F H σ env g _ ok1 s bg me ((Post.bind h).imp fun x g1 F1 H1 gr1 bg1 h1 v1 r1 => ?_)
    cases x <;> try exact False.elim h1
    cases r1
    exact ⟨_, rfl, h1 F1 H1 (.refl gr1.inn) bg1⟩
theorem evT_ok : ∀ (t : Tx) (E : XK) (B : Option Addr) (F H : Hp) (σ : L2.St) (env : EnvD) (g : List PD) (Q : Bool → Hp → Prop), okT L t = true → Sub F H → BagR Θ.c B F H g → MEnv Θ.c B F H σ env →
    Post Θ.c B E F H (evT Fn L t env g) (fun k _ _ H' => Q k H') → dT Θ E t σ H Q
  | .val e, E, B, F, H, σ, env, g, Q, ok, s, bg, me, h => by
    unfold evT at h
    refine evE_ok e E B F H σ env g _ ok s bg me ((Post.bind h).imp fun x g1 F1 H1 gr1 bg1 h1 v1 r1 => ?_)
    cases x <;> try exact False.elim h1
    cases r1
    exact ⟨_, rfl, h1 F1 H1 (.refl gr1.inn) bg1⟩
  | .and a b, E, B, F, H, σ, env, g, Q, ok, s, bg, me, h => by
    obtain ⟨ok1, ok2⟩ := and_of ok
    unfold evT at h
    refine evT_ok a E B F H σ env g _ ok1 s bg me ((Post.bind h).imp fun x g1 F1 H1 gr1 bg1 h1 => ?_)
    cases x with
    | true => exact evT_ok b E B F1 H1 σ env g1 _ ok2 gr1.inn bg1 (me.grow gr1) h1
    | false => exact h1 F1 H1 (.refl gr1.inn) bg1
  | .or a b, E, B, F, H, σ, env, g, Q, ok, s, bg, me, h => by
    obtain ⟨ok1, ok2⟩ := and_of ok
    unfold evT at h
    refine evT_ok a E B F H σ env g _ ok1 s bg me ((Post.bind h).imp fun x g1 F1 H1 gr1 bg1 h1 => ?_)
    cases x with
    | true => exact h1 F1 H1 (.refl gr1.inn) bg1
    | false => exact evT_ok b E B F1 H1 σ env g1 _ ok2 gr1.inn bg1 (me.grow gr1) h1
  | .not a, E, B, F, H, σ, env, g, Q, ok, s, bg, me, h => by
    unfold evT at h
    refine evT_ok a E B F H σ env g _ ok s bg me ((Post.bind h).imp fun x g1 F1 H1 gr1 bg1 h1 => ?_)
    exact h1 F1 H1 (.refl gr1.inn) bg1
theorem evI_ok : ∀ (t : Ix) (E : XK) (B : Option Addr) (F H : Hp) (σ : L2.St) (env : EnvD) (g : List PD) (R : It → Hp → Prop), okI L t = true → Sub F H → BagR Θ.c B F H g → MEnv Θ.c B F H σ env →
    Post Θ.c B E F H (evI Fn L t env g) (fun ds _ F' H' => ∀ J, Walks Θ.c B J F' ds → R J H') → dI Θ E t σ H R
  | .list e, E, B, F, H, σ, env, g, R, ok, s, bg, me, h => by
    unfold evI at h
    refine evE_ok e E B F H σ env g _ ok s bg me ((Post.bind h).imp fun x g1 F1 H1 gr1 bg1 h1 v1 r1 => ?_)
    cases x <;> try exact False.elim h1
    cases r1 with
    | lst hs ha => exact ⟨_, rfl, ⟨_, .inl (.inl (gr1.inn _ _ hs))⟩, h1 F1 H1 (.refl gr1.inn) bg1 _ (walks_l hs ha)⟩
  | .tup e, E, B, F, H, σ, env, g, R, ok, s, bg, me, h => by
    unfold evI at h
    refine evE_ok e E B F H σ env g _ ok s bg me ((Post.bind h).imp fun x g1 F1 H1 gr1 bg1 h1 v1 r1 => ?_)
    cases x <;> try exact False.elim h1
    cases r1 with
    | tup hs ha => exact ⟨_, rfl, ⟨_, gr1.inn.st hs⟩, h1 F1 H1 (.refl gr1.inn) bg1 _ (walks_t hs ha)⟩
  | .range e, E, B, F, H, σ, env, g, R, ok, s, bg, me, h => by
    unfold evI at h
    refine evE_ok e E B F H σ env g _ ok s bg me ((Post.bind h).imp fun x g1 F1 H1 gr1 bg1 h1 v1 r1 => ?_)
    cases x <;> try exact False.elim h1
    rename_i n
    cases r1
    by_cases l : -(2 ^ 62) ≤ n ∧ n < 2 ^ 62
    · have h1' := h1
      dsimp only at h1'
      rw [if_pos l] at h1'
      exact ⟨n, rfl, l.1, l.2, h1' F1 H1 (.refl gr1.inn) bg1 _ walks_r0⟩
    · have h1' := h1
      dsimp only at h1'
      rw [if_neg l] at h1'
      exact False.elim h1'
  | .range2 a b, E, B, F, H, σ, env, g, R, ok, s, bg, me, h => by
    obtain ⟨ok1, ok2⟩ := and_of ok
    unfold evI at h
    refine evE_ok a E B F H σ env g _ ok1 s bg me ((Post.bind h).imp fun x g1 F1 H1 gr1 bg1 h1 v1 r1 => ?_)
    refine evE_ok b E B F1 H1 σ env g1 _ ok2 gr1.inn bg1 (me.grow gr1) ((Post.bind h1).imp fun y g2 F2 H2 gr2 bg2 h2 v2 r2 => ?_)
    cases x <;> try exact False.elim h2
    cases y <;> try exact False.elim h2
    rename_i m n
    cases r1
    cases r2
    have h2' := h2
    dsimp only at h2'
    by_cases l : -(2 ^ 62) ≤ m ∧ m < 2 ^ 62 ∧ -(2 ^ 62) ≤ n ∧ n < 2 ^ 62
    · rw [if_pos l] at h2'
      exact ⟨m, n, rfl, l, h2' F2 H2 (.refl gr2.inn) bg2 _ walks_r⟩
    · rw [if_neg l] at h2'
      exact False.elim h2'
  | .enumL e, E, B, F, H, σ, env, g, R, ok, s, bg, me, h => by
    unfold evI at h
    refine evE_ok e E B F H σ env g _ ok s bg me ((Post.bind h).imp fun x g1 F1 H1 gr1 bg1 h1 v1 r1 => ?_)
    cases x <;> try exact False.elim h1
    cases r1 with
    | lst hs ha => exact ⟨_, _, rfl, .inl (.inl (gr1.inn _ _ hs)), h1 F1 H1 (.refl gr1.inn) bg1 _ (walks_e hs ha)⟩
  | .enumT e, E, B, F, H, σ, env, g, R, ok, s, bg, me, h => by
    unfold evI at h
    refine evE_ok e E B F H σ env g _ ok s bg me ((Post.bind h).imp fun x g1 F1 H1 gr1 bg1 h1 v1 r1 => ?_)
    cases x <;> try exact False.elim h1
    cases r1 with
    | tup hs ha => exact ⟨_, _, rfl, gr1.inn.st hs, h1 F1 H1 (.refl gr1.inn) bg1 _ (walks_et hs ha)⟩
  | .zip a b, E, B, F, H, σ, env, g, R, ok, s, bg, me, h => by
    obtain ⟨ok1, ok2⟩ := and_of ok
    unfold evI at h
    refine evE_ok a E B F H σ env g _ ok1 s bg me ((Post.bind h).imp fun x g1 F1 H1 gr1 bg1 h1 v1 r1 => ?_)
    refine evE_ok b E B F1 H1 σ env g1 _ ok2 gr1.inn bg1 (me.grow gr1) ((Post.bind h1).imp fun y g2 F2 H2 gr2 bg2 h2 v2 r2 => ?_)
    cases x <;> try exact False.elim h2
    · cases y <;> try exact False.elim h2
      cases r1 with
      | lst q1 a1 =>
        cases r2 with
        | lst q2 a2 =>
          have a1' := RvA.mono gr2.sub _ _ a1
          have q1' : SqL Θ.c.K F2 _ _ := .inl (.inl (gr2.sub _ _ q1))
          have q2' : SqL Θ.c.K F2 _ _ := .inl (.inl q2)
          exact ⟨_, _, _, _, rfl, .inl ⟨gr2.inn.sl q1', gr2.inn.sl q2', h2 F2 H2 (.refl gr2.inn) bg2 _ (walks_zL q1' q2' a1' a2)⟩⟩
    · cases y <;> try exact False.elim h2
      cases r1 with
      | tup q1 a1 =>
        cases r2 with
        | tup q2 a2 =>
          have a1' := RvA.mono gr2.sub _ _ a1
          have q1' := gr2.sub.st q1
          exact ⟨_, _, _, _, rfl, .inr ⟨gr2.inn.st q1', gr2.inn.st q2, h2 F2 H2 (.refl gr2.inn) bg2 _ (walks_zT q1' q2 a1' a2)⟩⟩
end
end G

/-! Statements. -/
namespace G
open PySem PySem.Spec PyProof.Rows L2

mutual
inductive St where
  | set (i : Nat) (e : Ex)
  | setO (i : Nat) (e : Ex)
  | asg (tg : Tg) (e : Ex)
  | par (i j : Nat) (oi oj : Bool) (a b : Ex)
  | par3 (i j l : Nat) (oi oj ol : Bool) (a b k : Ex)
  | ife (t : Tx) (a b : Ss)
  | ret (e : Ex)
  | retN
  | rse0 (c : Nat)
  | rse2 (c : Nat) (n1 n2 : Str) (a b : Ex)
  | whl (t : Tx) (body : Ss)
  | fr (tg : Tg) (it : Ix) (body : Ss)
  | app (i : Nat) (e : Ex)
  | pop (i : Nat)
  | ext (i : Nat) (e : Ex)
  | iset (i : Nat) (k e : Ex)
  | ex (e : Ex)
  | bset (i n : Nat) (e : Ex)
inductive Ss where
  | nil
  | cons (s : St) (r : Ss)
  | frz (i : Nat) (r : Ss)
end
inductive Fl where
  | nx (env : EnvD)
  | rt (d : PD)
/-- makes a list of its own -/
def isL : Ex → Bool
  | .lst _ => true
  | .lc _ _ _ _ => true
  | .lcf _ _ _ _ _ => true
  | .lcN _ _ _ _ => true
  | .lcfN _ _ _ _ _ => true
  | .op2 .mul _ _ => true
  | .blt .lst _ => true
  | _ => false
def listOf : PD → Option (List PD) | .list ds => some ds | _ => none
def fuel : Nat := 100000
section
variable (Fn : Nat → List PD → M PD) (L : Lw)
/-- what a slot gets -/
def slOf (o : Bool) (d : PD) : Option Sl := if o = true then (listOf d).map .own else some (.d d)
def evWh (t : EnvD → M Bool) (body : EnvD → M Fl) : Nat → EnvD → M Fl
  | 0, _ => stk
  | n + 1, env => bnd (t env) fun k => if k = true then bnd (body env) fun f => match f with | .nx env' => evWh t body n env' | .rt d => ret (.rt d) else ret (.nx env)
def evFr (tg : Tg) (body : EnvD → M Fl) : List PD → EnvD → M Fl
  | [], env => ret (.nx env)
  | d :: ds, env => match tgF tg d env with
    | none => stk
    | some e1 => bnd (body e1) fun f => match f with | .nx env' => evFr tg body ds env' | .rt d => ret (.rt d)
mutual
def evS : St → EnvD → M Fl
  | .set i e, env => bnd (evE Fn L e env) fun d => ret (.nx (env.set i (.d d)))
  | .setO i e, env => bnd (evE Fn L e env) fun d => match listOf d with | some ds => if i < env.length then ret (.nx (env.set i (.own ds))) else stk | none => stk
  | .asg tg e, env => bnd (evE Fn L e env) fun d => match tgF tg d env with | some env' => ret (.nx env') | none => stk
  | .par i j oi oj a b, env => bnd (evE Fn L a env) fun x => match slOf oi x with
    | none => stk
    | some s => bnd (evE Fn L b env) fun y => match slOf oj y with
      | none => stk
      | some t => if i < env.length ∧ j < env.length ∧ i ≠ j then ret (.nx ((env.set i s).set j t)) else stk
  | .par3 i j l oi oj ol a b k, env => bnd (evE Fn L a env) fun x => match slOf oi x with
    | none => stk
    | some s => bnd (evE Fn L b env) fun y => match slOf oj y with
      | none => stk
      | some t => bnd (evE Fn L k env) fun z => match slOf ol z with
        | none => stk
        | some u => if i < env.length ∧ j < env.length ∧ l < env.length ∧ i ≠ j ∧ i ≠ l ∧ j ≠ l then ret (.nx (((env.set i s).set j t).set l u)) else stk
  | .ife t a b, env => bnd (evT Fn L t env) fun k => if k = true then evSs a env else evSs b env
  | .ret e, env => bnd (evE Fn L e env) fun d => ret (.rt d)
  | .retN, _ => ret (.rt .none)
  | .rse0 c, _ => fun g => .exn ⟨c, []⟩ g
  | .rse2 c n1 n2 a b, env => bnd (evE Fn L a env) fun x => bnd (evE Fn L b env) fun y => if isFl x = true ∧ isFl y = true then fun g => .exn ⟨c, [(n1, x), (n2, y)]⟩ g else stk
  | .whl t body, env => evWh (fun e => evT Fn L t e) (fun e => evSs body e) fuel env
  | .fr tg it body, env => bnd (evI Fn L it env) fun ds => evFr tg (fun e => evSs body e) ds env
  | .app i e, env => match (env[i]?).bind ownOf with
    | some xs => if xs.length < 1000000 then bnd (evE Fn L e env) fun d => ret (.nx (env.set i (.own (xs ++ [d])))) else stk
    | none => stk
  | .pop i, env => match (env[i]?).bind ownOf with
    | some xs => if xs.length = 0 then stk else ret (.nx (env.set i (.own xs.dropLast)))
    | none => stk
  | .ext i e, env => match (env[i]?).bind ownOf with
    | some xs => bnd (evE Fn L e env) fun d => match listOf d with | some ys => if xs.length + ys.length ≤ 1000000 then ret (.nx (env.set i (.own (xs ++ ys)))) else stk | none => stk
    | none => stk
  | .iset i k e, env => match (env[i]?).bind ownOf with
    | some xs => bnd (evE Fn L e env) fun d => bnd (evE Fn L k env) fun n => match n with
      | .int m => match ixN xs.length m with | some j => ret (.nx (env.set i (.own (xs.set j d)))) | none => stk
      | _ => stk
    | none => stk
  | .ex e, env => bnd (evE Fn L e env) fun _ => ret (.nx env)
  | .bset i n e, env => match (env[i]?).bind bagOf with | some _ => bnd (evE Fn L e env) (fun d g => if n < g.length then .ok (.nx env) (g.set n d) else .stuck) | none => stk
def evSs : Ss → EnvD → M Fl
  | .nil, env => ret (.nx env)
  | .cons s r, env => bnd (evS s env) fun f => match f with | .nx env' => evSs r env' | .rt d => ret (.rt d)
  | .frz i r, env => match (env[i]?).bind ownOf with
    | some xs => evSs r (env.set i (.d (.list xs)))
    | none => stk
end
/-- a def: its slots' number, its body -/
def evF (n : Nat) (b : Ss) : List PD → M PD := fun ds => bnd (evSs Fn L b (ds.map Sl.d ++ List.replicate (n - ds.length) Sl.no)) fun f => match f with | .nx _ => ret .none | .rt d => ret d
end

/-! ### as readings -/
section
variable (Θ : Th)
def tRse0 (E : XK) (C : Addr) : TS := fun _ σ H => E (.ref C) none H
def tRse2 (E : XK) (C : Addr) (n1 n2 : Str) (ta : TA) : TS := fun _ σ H => ta σ H fun vs H1 => ∃ v w, vs = [v, w] ∧ ∀ d : Addr, H1 d = none → E (.ref C) (some d) (upd H1 d (.xd [(n1, v), (n2, w)]))
/-- xs[n] = e at the list of slot i -/
def tBset (i n : Nat) (te : TE) : TS := tAsg te (gSub (tVar i) (tC (.int (n : Nat))) rSetL)
mutual
def dS (E : XK) : St → TS
  | .set i e => tAsg (dE Θ E e) (gName i)
  | .setO i e => tAsg (dE Θ E e) (gName i)
  | .asg tg e => tAsg (dE Θ E e) (dG Θ.c.K tg)
  | .par i j _ _ a b => tPar i j (tCons (dE Θ E a) (tCons (dE Θ E b) tNil))
  | .par3 i j l _ _ _ a b k => tPar3 i j l (tCons (dE Θ E a) (tCons (dE Θ E b) (tCons (dE Θ E k) tNil)))
  | .ife t a b => tIfS (dT Θ E t) (dSs E a) (dSs E b)
  | .ret e => tRet (dE Θ E e)
  | .retN => tRetN
  | .rse0 c => tRse0 E (Θ.c.cx c)
  | .rse2 c n1 n2 a b => tRse2 E (Θ.c.cx c) n1 n2 (tCons (dE Θ E a) (tCons (dE Θ E b) tNil))
  | .whl t body => tWhile (dT Θ E t) (dSs E body)
  | .fr tg it body => tFor (dI Θ E it) (dG Θ.c.K tg) (dSs E body)
  | .app i e => tDrop (tBM Θ.c.K "list" rAppend (tVar i) (tCons (dE Θ E e) tNil))
  | .pop i => tDrop (tBM Θ.c.K "list" rPop (tVar i) tNil)
  | .ext i e => tDrop (tBM Θ.c.K "list" rExtend (tVar i) (tCons (dE Θ E e) tNil))
  | .iset i k e => tAsg (dE Θ E e) (gSub (tVar i) (dE Θ E k) rSetL)
  | .ex e => tDrop (dE Θ E e)
  | .bset i n e => tBset i n (dE Θ E e)
def dSs (E : XK) : Ss → TS
  | .nil => tNext
  | .cons s r => tSeq (dS E s) (dSs E r)
  | .frz _ r => dSs E r
end
end

/-! ### the state between statements -/
structure SInv (c : Cn) (B : Option Addr) (F0 H0 F H : Hp) (σ : L2.St) (env : EnvD) (g : List PD) : Prop where
  gr : Gr B F0 H0 F H
  bg0 : ∃ g0, BagR c B F0 H0 g0
  bg : BagR c B F H g
  me : MEnv c B F H σ env
  ow : ∀ (i : Nat) (xs : List PD) (a : Addr), env[i]? = some (.own xs) → σ[i]? = some (some (.ref a)) → Fr0 H0 a
section
variable {c : Cn} {B : Option Addr} {E : XK} {F0 H0 F H F1 H1 : Hp} {σ : L2.St} {env : EnvD} {g g1 : List PD} {D : Ends}
theorem SInv.grow (S : SInv c B F0 H0 F H σ env g) (gr : Gr B F H F1 H1) (b : BagR c B F1 H1 g1) : SInv c B F0 H0 F1 H1 σ env g1 :=
  ⟨S.gr.trans gr, S.bg0, b, S.me.grow gr, S.ow⟩
theorem RvA.set {F : Hp} : ∀ {vs : List V} {ds : List PD}, RvA c B F vs ds → ∀ (n : Nat) {v : V} {d : PD}, Rv c B F v d → RvA c B F (vs.set n v) (ds.set n d)
  | [], [], _, _, _, _, _ => .nil
  | _ :: _, _ :: _, .cons _ h2, 0, _, _, r => .cons r h2
  | _ :: _, _ :: _, .cons h1 h2, n + 1, _, _, r => .cons h1 (RvA.set h2 n r)
/-- the bag's list changes -/
theorem SInv.bset (S : SInv c B F0 H0 F H σ env g) {a : Addr} (e : B = some a) {vs : List V} (hv : H a = some (.lst vs)) (n : Nat) {v : V} {d : PD} (r : Rv c B F v d) (ra : RvA c B F vs g) (hF : F a = none) :
    SInv c B F0 H0 F (upd H a (.lst (vs.set n v))) σ env (g.set n d) := by
  have gr : Gr B F H F (upd H a (.lst (vs.set n v))) :=
    ⟨.refl F, fun x u h => by rw [upd_ne (fun q => by rw [q, hF] at h; cases h)]; exact S.gr.inn _ _ h, fun b o h t nb => by rw [upd_ne (fun q => nb (by rw [q, e]))]; exact h,
     fun b o h t => by
      by_cases q : b = a
      · subst q; exact ⟨_, upd_same, NT.lst⟩
      · exact ⟨o, by rw [upd_ne q]; exact h, t⟩, fun b o h t k => k⟩
  refine S.grow gr ⟨fun a' e' => ?_, S.bg.nt, tabs_mut S.bg.tb hv⟩
  have q : a' = a := Option.some.inj (e'.symm.trans e)
  subst q
  exact ⟨hF, _, upd_same, ra.set n r⟩
theorem slr_len (S : MEnv c B F H σ env) {i : Nat} {s : Sl} (e : env[i]? = some s) : i < env.length ∧ i < σ.length := by
  have l := (List.getElem?_eq_some_iff.mp e).1
  exact ⟨l, by rw [S.len]; exact l⟩
/-- a slot gets a value -/
theorem SInv.set (S : SInv c B F0 H0 F H σ env g) (i : Nat) {v : V} {d : PD} (r : Rv c B F v d) : SInv c B F0 H0 F H (σ.set i (some v)) (env.set i (.d d)) g := by
  refine ⟨S.gr, S.bg0, S.bg, S.me.set i ⟨v, rfl, r⟩ (fun _ q => nomatch q), fun j xs a e1 e2 => ?_⟩
  have n : i ≠ j := fun q => by
    subst q
    by_cases l : i < env.length
    · rw [List.getElem?_set_self l] at e1; cases e1
    · rw [List.getElem?_eq_none (by rw [List.length_set]; omega)] at e1; cases e1
  rw [List.getElem?_set_ne n] at e1 e2
  exact S.ow j xs a e1 e2
/-- a slot gets a list of its own -/
theorem SInv.setO (S : SInv c B F0 H0 F H σ env g) (i : Nat) (il : i < env.length) {a : Addr} {vs : List V} {ds : List PD} (h1 : H a = some (.lst vs)) (h2 : F a = none) (h0 : Fr0 H0 a) (ra : RvA c B F vs ds)
    (un : ∀ (j : Nat) (ys : List PD), j ≠ i → env[j]? = some (.own ys) → σ[j]? ≠ some (some (.ref a))) : SInv c B F0 H0 F H (σ.set i (some (.ref a))) (env.set i (.own ds)) g := by
  have nB : some a ≠ B := fun q => by
    obtain ⟨g0, b0⟩ := S.bg0
    exact b0.ne q.symm h0 rfl
  have lσ : i < σ.length := by rw [S.me.len]; exact il
  refine ⟨S.gr, S.bg0, S.bg, ⟨by rw [List.length_set, List.length_set]; exact S.me.len, fun j s e => ?_, fun j k b xs ys e1 e2 f1 f2 => ?_⟩, fun j xs b e1 e2 => ?_⟩
  · by_cases q : i = j
    · subst q
      rw [List.getElem?_set_self il] at e
      cases e
      exact ⟨_, List.getElem?_set_self lσ, a, vs, rfl, h1, h2, nB, ra⟩
    · rw [List.getElem?_set_ne q] at e ⊢
      exact S.me.sl j s e
  · by_cases q : i = j
    · by_cases q2 : i = k
      · rw [← q, ← q2]
      · subst q
        rw [List.getElem?_set_self lσ] at f1
        cases f1
        rw [List.getElem?_set_ne q2] at e2 f2
        exact absurd f2 (un k ys (Ne.symm q2) e2)
    · by_cases q2 : i = k
      · subst q2
        rw [List.getElem?_set_self lσ] at f2
        cases f2
        rw [List.getElem?_set_ne q] at e1 f1
        exact absurd f1 (un j xs (Ne.symm q) e1)
      · rw [List.getElem?_set_ne q] at e1 f1
        rw [List.getElem?_set_ne q2] at e2 f2
        exact S.me.ap j k b xs ys e1 e2 f1 f2
  · by_cases q : i = j
    · subst q
      rw [List.getElem?_set_self lσ] at e2
      cases e2
      exact h0
    · rw [List.getElem?_set_ne q] at e1 e2
      exact S.ow j xs b e1 e2
theorem SInv.addr (S : SInv c B F0 H0 F H σ env g) {i : Nat} {xs : List PD} (e : env[i]? = some (.own xs)) : ∃ a vs, σ[i]? = some (some (.ref a)) ∧ H a = some (.lst vs) ∧ F a = none ∧ some a ≠ B ∧ RvA c B F vs xs ∧ Fr0 H0 a := by
  obtain ⟨o, h1, a, vs, h2, h3, h4, h5, h6⟩ := S.me.sl i _ e
  subst h2
  exact ⟨a, vs, h1, h3, h4, h5, h6, S.ow i xs a e h1⟩
/-- a list that nobody has is in no slot -/
theorem SInv.unq (S : SInv c B F0 H0 F H σ env g) {a : Addr} (n : Fr0 H a) (j : Nat) (ys : List PD) (e : env[j]? = some (.own ys)) : σ[j]? ≠ some (some (.ref a)) := fun q => by
  obtain ⟨b, vs, h1, h2, _⟩ := S.addr e
  rw [h1] at q
  cases q
  exact n _ h2 NT.lst
theorem SInv.frz (S : SInv c B F0 H0 F H σ env g) {i : Nat} {xs : List PD} (e : env[i]? = some (.own xs)) : ∃ F', Sub F F' ∧ SInv c B F0 H0 F' H σ (env.set i (.d (.list xs))) g := by
  obtain ⟨a, vs, h1, h2, h3, h4, h5, h6⟩ := S.addr e
  obtain ⟨g0, b0⟩ := S.bg0
  have sb := sub_upd (o := HO.lst vs) h3
  have il := (slr_len S.me e).1
  refine ⟨upd F a (.lst vs), sb, S.gr.freeze h6 h3 h2, S.bg0, S.bg.freeze b0 NT.lst h6 sb, ⟨by rw [List.length_set]; exact S.me.len, fun j s f => ?_, fun j k b us ws e1 e2 f1 f2 => ?_⟩, fun j us b e1 e2 => ?_⟩
  · by_cases q : i = j
    · subst q
      rw [List.getElem?_set_self il] at f
      cases f
      exact ⟨_, h1, _, rfl, .lst upd_same (RvA.mono sb _ _ h5)⟩
    · rw [List.getElem?_set_ne q] at f
      obtain ⟨o, k1, k2⟩ := S.me.sl j s f
      refine ⟨o, k1, ?_⟩
      cases s with
      | no => trivial
      | d x =>
        obtain ⟨v, k3, k4⟩ := k2
        exact ⟨v, k3, Rv.mono sb _ _ k4⟩
      | own us =>
        obtain ⟨b, ws, k3, k4, k5, k6, k7⟩ := k2
        subst k3
        have nb : b ≠ a := fun z => by
          subst z
          exact q (S.me.ap i j b xs us e f h1 k1)
        exact ⟨b, ws, rfl, k4, by rw [upd_ne nb]; exact k5, k6, RvA.mono sb _ _ k7⟩
  · have n : ∀ m zs, (env.set i (Sl.d (.list xs)))[m]? = some (.own zs) → i ≠ m := fun m zs e q => by
      subst q
      rw [List.getElem?_set_self il] at e; cases e
    rw [List.getElem?_set_ne (n j us e1)] at e1
    rw [List.getElem?_set_ne (n k ws e2)] at e2
    exact S.me.ap j k b us ws e1 e2 f1 f2
  · have n : i ≠ j := fun q => by
      subst q
      rw [List.getElem?_set_self il] at e1; cases e1
    rw [List.getElem?_set_ne n] at e1
    exact S.ow j us b e1 e2
/-- an own list changes -/
theorem SInv.chg (S : SInv c B F0 H0 F H σ env g) {i : Nat} {xs : List PD} (e : env[i]? = some (.own xs)) {a : Addr} {vs : List V} (h1 : σ[i]? = some (some (.ref a))) (h2 : H a = some (.lst vs)) {ws : List V} {ds : List PD} (ra : RvA c B F ws ds) :
    SInv c B F0 H0 F (upd H a (.lst ws)) σ (env.set i (.own ds)) g := by
  obtain ⟨a', vs', k1, k2, k3, k4, k5, k6⟩ := S.addr e
  rw [h1] at k1
  cases k1
  rw [h2] at k2
  cases k2
  obtain ⟨g0, b0⟩ := S.bg0
  have il := (slr_len S.me e).1
  refine ⟨S.gr.mut NT.lst k6 k3, S.bg0, S.bg.mut b0 k6 h2, ⟨by rw [List.length_set]; exact S.me.len, fun j s f => ?_, fun j k b us ws e1 e2 f1 f2 => ?_⟩, fun j us b e1 e2 => ?_⟩
  · by_cases q : i = j
    · subst q
      rw [List.getElem?_set_self il] at f
      cases f
      exact ⟨_, h1, a, ws, rfl, upd_same, k3, k4, ra⟩
    · rw [List.getElem?_set_ne q] at f
      obtain ⟨o, m1, m2⟩ := S.me.sl j s f
      refine ⟨o, m1, ?_⟩
      cases s with
      | no => trivial
      | d x => exact m2
      | own us =>
        obtain ⟨b, ws, m3, m4, m5, m6, m7⟩ := m2
        subst m3
        have nb : b ≠ a := fun z => by
          subst z
          exact q (S.me.ap i j b xs us e f h1 m1)
        exact ⟨b, ws, rfl, by rw [upd_ne nb]; exact m4, m5, m6, m7⟩
  · have back : ∀ (m : Nat) (zs : List PD), (env.set i (Sl.own ds))[m]? = some (Sl.own zs) → ∃ zs' : List PD, env[m]? = some (Sl.own zs') := fun m zs e' => by
      by_cases q : i = m
      · subst q; exact ⟨xs, e⟩
      · rw [List.getElem?_set_ne q] at e'; exact ⟨zs, e'⟩
    obtain ⟨u1, e1'⟩ := back j us e1
    obtain ⟨u2, e2'⟩ := back k ws e2
    exact S.me.ap j k b u1 u2 e1' e2' f1 f2
  · by_cases q : i = j
    · subst q
      rw [h1] at e2
      cases e2
      exact k6
    · rw [List.getElem?_set_ne q] at e1
      exact S.ow j us b e1 e2
end
end G

/-! Own lists, parts. -/
namespace G
open PySem PySem.Spec PyProof.Rows L2
variable {Θ : Th} {Fn : Nat → List PD → M PD} {L : Lw}
variable (T : Tab Θ Fn L)
include T
/-- a list of the def's own -/
theorem evL_ok : ∀ (e : Ex) (E : XK) (B : Option Addr) (F H : Hp) (σ : L2.St) (env : EnvD) (g : List PD) (Q : VK), isL e = true → okE L e = true → Sub F H → BagR Θ.c B F H g → MEnv Θ.c B F H σ env →
    Post Θ.c B E F H (evE Fn L e env g) (fun d _ F' H' => ∃ ds, d = .list ds ∧ ∀ a vs, H' a = some (.lst vs) → F' a = none → Fr0 H a → RvA Θ.c B F' vs ds → Q (.ref a) H') → dE Θ E e σ H Q := by
  intro e E B F H σ env g Q hl ok s bg me h
  cases e <;> try (cases hl; done)
  · rename_i o a b
    cases o <;> try (cases hl; done)
    obtain ⟨ok1, ok2⟩ := and_of ok
    unfold evE at h
    refine evE_ok T a E B F H σ env g _ ok1 s bg me ((Post.bind h).imp fun x g1 F1 H1 gr1 bg1 h1 v1 r1 => ?_)
    refine evE_ok T b E B F1 H1 σ env g1 _ ok2 gr1.inn bg1 (me.grow gr1) ((Post.bind h1).imp fun y g2 F2 H2 gr2 bg2 h2 v2 r2 => ?_)
    obtain ⟨z, e, h3⟩ := ofO_post h2
    cases x <;> try (first | (cases e; done) | (simp [opF] at e; done))
    · cases y <;> try (first | (cases e; done) | (simp [opF] at e; done))
      obtain ⟨l, e'⟩ := some_of e
      subst e'
      obtain ⟨ds, e1, _⟩ := h3 F2 H2 (.refl gr2.inn) bg2
      cases e1
    · cases y <;> try (first | (cases e; done) | (simp [opF] at e; done))
      cases r2
      cases r1 with
      | lst hx ax =>
        obtain ⟨l, e'⟩ := some_of e
        subst e'
        refine .inr ⟨_, _, _, rfl, rfl, gr2.inn _ _ (gr2.sub _ _ hx), l.1, l.2.1, Nat.le_trans (by rw [ax.length]; exact l.2.2) (by decide), fun p hp => ?_⟩
        obtain ⟨ds, e1, k⟩ := h3 F2 _ (.freshM gr2.inn hp) (bg2.freshM hp)
        cases e1
        exact k p _ upd_same (none_of gr2.inn hp) (gr1.back (gr2.back (.of hp))) (RvA.mono gr2.sub _ _ (ax.rep _))
  · rename_i es
    unfold evE at h
    refine evA_ok T es E B F H σ env g _ ok s bg me ((Post.bind h).imp fun ds g1 F1 H1 gr1 bg1 h1 vs rs => ?_)
    by_cases l : ds.length ≤ 1000
    · rw [if_pos l] at h1
      refine ⟨Nat.le_trans (by rw [rs.length]; exact l) (by decide), fun p hp => ?_⟩
      obtain ⟨ds', e1, k⟩ := h1 F1 _ (.freshM gr1.inn hp) (bg1.freshM hp)
      cases e1
      exact k p vs upd_same (none_of gr1.inn hp) (gr1.back (.of hp)) rs
    · rw [if_neg l] at h1; exact False.elim h1
  · rename_i elt tg it own
    obtain ⟨ok1, ok2⟩ := and_of ok
    unfold evE at h
    refine evI_ok T it E B F H σ env g _ ok2 s bg me ((Post.bind h).imp fun ds g1 F1 H1 gr1 bg1 h1 J W => ?_)
    by_cases l : ds.length ≤ 1000000 ∧ tgIn tg own = true
    · rw [if_pos l] at h1
      have h2 : Post Θ.c B E F1 H1 (mapM' (lcF Fn L elt tg own env) ds g1) fun ys _ F' H' => ∀ a vs, H' a = some (.lst vs) → F' a = none → Fr0 H1 a → RvA Θ.c B F' vs ys → Q (.ref a) H' :=
        (Post.bind (show Post Θ.c B E F1 H1 ((mapM' (lcF Fn L elt tg own env) ds g1).bnd fun ys => ret (PyData.list ys)) _ from h1)).imp fun ys g2 F2 H2 gr2 bg2 h2 a vs e1 e2 e3 ra => by
          obtain ⟨ds', e4, k⟩ := h2 F2 H2 (.refl gr2.inn) bg2
          cases e4
          exact k a vs e1 e2 (gr1.back e3) ra
      rw [← mapF_some] at h2
      refine lc_ok bg1 gr1.inn W l.1 (fun F2 H2 x d gb Qs Qn gr2 bg2 rx k => ?_) h2
      unfold lcF at k
      cases e : tgF tg d (wipeD env own) with
      | none => rw [e] at k; exact False.elim k
      | some env' =>
        rw [e] at k
        refine tg_ok gr2.inn tg d _ env' _ x _ e ((me.grow (gr1.trans gr2)).wipe own) rx fun σ' me' hw => ⟨by rw [hw own l.2]; exact wipe_idem σ own, ?_⟩
        show dE Θ E elt σ' H2 Qs
        exact evE_ok T elt E B F2 H2 σ' env' gb _ ok1 gr2.inn bg2 me' ((Post.bind k).imp fun y g3 F3 H3 gr3 bg3 h3 v r => h3 F3 H3 (.refl gr3.inn) bg3 v r)
    · rw [if_neg l] at h1; exact False.elim h1
  · rename_i elt tg it t own
    obtain ⟨ok1, ok2⟩ := and_of ok
    obtain ⟨ok2, ok3⟩ := and_of ok2
    unfold evE at h
    refine evI_ok T it E B F H σ env g _ ok2 s bg me ((Post.bind h).imp fun ds g1 F1 H1 gr1 bg1 h1 J W => ?_)
    by_cases l : ds.length ≤ 1000000 ∧ tgIn tg own = true
    · rw [if_pos l] at h1
      have h2 : Post Θ.c B E F1 H1 (mapF (lcfF Fn L elt tg t own env) ds g1) fun ys _ F' H' => ∀ a vs, H' a = some (.lst vs) → F' a = none → Fr0 H1 a → RvA Θ.c B F' vs ys → Q (.ref a) H' :=
        (Post.bind (show Post Θ.c B E F1 H1 ((mapF (lcfF Fn L elt tg t own env) ds g1).bnd fun ys => ret (PyData.list ys)) _ from h1)).imp fun ys g2 F2 H2 gr2 bg2 h2 a vs e1 e2 e3 ra => by
          obtain ⟨ds', e4, k⟩ := h2 F2 H2 (.refl gr2.inn) bg2
          cases e4
          exact k a vs e1 e2 (gr1.back e3) ra
      refine lc_ok bg1 gr1.inn W l.1 (fun F2 H2 x d gb Qs Qn gr2 bg2 rx k => ?_) h2
      unfold lcfF at k
      cases e : tgF tg d (wipeD env own) with
      | none => rw [e] at k; exact False.elim k
      | some env' =>
        rw [e] at k
        refine tg_ok gr2.inn tg d _ env' _ x _ e ((me.grow (gr1.trans gr2)).wipe own) rx fun σ' me' hw => ⟨by rw [hw own l.2]; exact wipe_idem σ own, ?_⟩
        refine evT_ok T t E B F2 H2 σ' env' gb _ ok3 gr2.inn bg2 me' ((Post.bind k).imp fun kb g3 F3 H3 gr3 bg3 h3 => ?_)
        cases kb with
        | false =>
          rw [if_neg Bool.false_ne_true]
          exact h3 F3 H3 (.refl gr3.inn) bg3
        | true =>
          rw [if_pos rfl]
          exact evE_ok T elt E B F3 H3 σ' env' g3 _ ok1 gr3.inn bg3 (me'.grow gr3) ((Post.bind h3).imp fun y g4 F4 H4 gr4 bg4 h4 v r => h4 F4 H4 (.refl gr4.inn) bg4 v r)
    · rw [if_neg l] at h1; exact False.elim h1
  · rename_i elt tg it own
    obtain ⟨ok1, ok2⟩ := and_of ok
    unfold evE at h
    refine evI_ok T it E B F H σ env g _ ok2 s bg me ((Post.bind h).imp fun ds g1 F1 H1 gr1 bg1 h1 J W => ?_)
    by_cases l : ds.length ≤ 1000000 ∧ tgIn tg own = true
    · rw [if_pos l] at h1
      have h2 : Post Θ.c B E F1 H1 (mapM' (lcNF Fn L elt tg own env) ds g1) fun ys _ F' H' => ∀ a vs, H' a = some (.lst vs) → F' a = none → Fr0 H1 a → RvA Θ.c B F' vs ys → Q (.ref a) H' :=
        (Post.bind (show Post Θ.c B E F1 H1 ((mapM' (lcNF Fn L elt tg own env) ds g1).bnd fun ys => ret (PyData.list ys)) _ from h1)).imp fun ys g2 F2 H2 gr2 bg2 h2 a vs e1 e2 e3 ra => by
          obtain ⟨ds', e4, k⟩ := h2 F2 H2 (.refl gr2.inn) bg2
          cases e4
          exact k a vs e1 e2 (gr1.back e3) ra
      rw [← mapF_some] at h2
      refine lc_ok bg1 gr1.inn W l.1 (fun F2 H2 x d gb Qs Qn gr2 bg2 rx k => ?_) h2
      unfold lcNF at k
      cases e : tgF tg d (wipeD env own) with
      | none => rw [e] at k; exact False.elim k
      | some env' =>
        rw [e] at k
        refine tg_ok gr2.inn tg d _ env' _ x _ e ((me.grow (gr1.trans gr2)).wipe own) rx fun σ' me' hw => ⟨by rw [hw own l.2]; exact wipe_idem σ own, ?_⟩
        show dE Θ E00 elt σ' H2 Qs
        exact evE_ok T elt E00 B F2 H2 σ' env' gb _ ok1 gr2.inn bg2 me' ((Post.noX (Post.bind k)).imp fun y g3 F3 H3 gr3 bg3 h3 v r => h3 F3 H3 (.refl gr3.inn) bg3 v r)
    · rw [if_neg l] at h1; exact False.elim h1
  · rename_i elt tg it t own
    obtain ⟨ok1, ok2⟩ := and_of ok
    obtain ⟨ok2, ok3⟩ := and_of ok2
    unfold evE at h
    refine evI_ok T it E B F H σ env g _ ok2 s bg me ((Post.bind h).imp fun ds g1 F1 H1 gr1 bg1 h1 J W => ?_)
    by_cases l : ds.length ≤ 1000000 ∧ tgIn tg own = true
    · rw [if_pos l] at h1
      have h2 : Post Θ.c B E F1 H1 (mapF (lcfNF Fn L elt tg t own env) ds g1) fun ys _ F' H' => ∀ a vs, H' a = some (.lst vs) → F' a = none → Fr0 H1 a → RvA Θ.c B F' vs ys → Q (.ref a) H' :=
        (Post.bind (show Post Θ.c B E F1 H1 ((mapF (lcfNF Fn L elt tg t own env) ds g1).bnd fun ys => ret (PyData.list ys)) _ from h1)).imp fun ys g2 F2 H2 gr2 bg2 h2 a vs e1 e2 e3 ra => by
          obtain ⟨ds', e4, k⟩ := h2 F2 H2 (.refl gr2.inn) bg2
          cases e4
          exact k a vs e1 e2 (gr1.back e3) ra
      refine lc_ok bg1 gr1.inn W l.1 (fun F2 H2 x d gb Qs Qn gr2 bg2 rx k => ?_) h2
      unfold lcfNF at k
      cases e : tgF tg d (wipeD env own) with
      | none => rw [e] at k; exact False.elim k
      | some env' =>
        rw [e] at k
        refine tg_ok gr2.inn tg d _ env' _ x _ e ((me.grow (gr1.trans gr2)).wipe own) rx fun σ' me' hw => ⟨by rw [hw own l.2]; exact wipe_idem σ own, ?_⟩
        have k := Post.noX k
        refine evT_ok T t E00 B F2 H2 σ' env' gb _ ok3 gr2.inn bg2 me' ((Post.bind k).imp fun kb g3 F3 H3 gr3 bg3 h3 => ?_)
        cases kb with
        | false =>
          rw [if_neg Bool.false_ne_true]
          exact h3 F3 H3 (.refl gr3.inn) bg3
        | true =>
          rw [if_pos rfl]
          exact evE_ok T elt E00 B F3 H3 σ' env' g3 _ ok1 gr3.inn bg3 (me'.grow gr3) ((Post.bind h3).imp fun y g4 F4 H4 gr4 bg4 h4 v r => h4 F4 H4 (.refl gr4.inn) bg4 v r)
    · rw [if_neg l] at h1; exact False.elim h1
  · rename_i b a
    cases b <;> try (cases hl; done)
    unfold evE at h
    refine evE_ok T a E B F H σ env g _ ok s bg me ((Post.bind h).imp fun x g1 F1 H1 gr1 bg1 h1 v1 r1 => ?_)
    obtain ⟨z, e, h3⟩ := ofO_post h1
    have fin : ∀ (p : Addr) (xs : List V) (ds : List PD), z = .list ds → RvA Θ.c B F1 xs ds → H1 p = none → Q (.ref p) (upd H1 p (.lst xs)) := fun p xs ds ez ra hp => by
      subst ez
      obtain ⟨ds', e1, k⟩ := h3 F1 _ (.freshM gr1.inn hp) (bg1.freshM hp)
      cases e1
      exact k p _ upd_same (none_of gr1.inn hp) (gr1.back (.of hp)) ra
    cases x <;> try (first | (cases e; done) | (simp [bltF] at e; done))
    · cases r1 with
      | lst hs ha => exact ⟨_, _, rfl, .inl (.inl (.inl (gr1.inn _ _ hs))), fun p hp => fin p _ _ (Option.some.inj e).symm ha hp⟩
    · cases r1 with
      | tup hs ha => exact ⟨_, _, rfl, .inr (gr1.inn.st hs), fun p hp => fin p _ _ (Option.some.inj e).symm ha hp⟩
omit T
mutual
/-- the forms are such as the program has -/
def okS (L : Lw) : St → Bool
  | .set _ e => okE L e
  | .setO _ e => isL e && okE L e
  | .asg _ e => okE L e
  | .par _ _ oi oj a b => (okE L a && okE L b) && ((!oi || isL a) && (!oj || isL b))
  | .par3 _ _ _ oi oj ol a b k => (okE L a && (okE L b && okE L k)) && ((!oi || isL a) && ((!oj || isL b) && (!ol || isL k)))
  | .ife t a b => okT L t && (okSs L a && okSs L b)
  | .ret e => okE L e
  | .retN => true
  | .rse0 _ => true
  | .rse2 _ _ _ a b => okE L a && okE L b
  | .whl t b => okT L t && okSs L b
  | .fr _ it b => okI L it && okSs L b
  | .app _ e => okE L e
  | .pop _ => true
  | .ext _ e => okE L e
  | .iset _ k e => okE L k && okE L e
  | .ex e => okE L e
  | .bset _ _ e => okE L e
def okSs (L : Lw) : Ss → Bool
  | .nil => true
  | .cons s r => okS L s && okSs L r
  | .frz _ r => okSs L r
end
/-- a target in the state -/
theorem tgS_ok {c : Cn} {B : Option Addr} {F0 H0 F H : Hp} {g : List PD} {t : Tg} {d : PD} {env env' : EnvD} {σ : L2.St} {v : V} {Q : L2.St → Hp → Prop} (S : SInv c B F0 H0 F H σ env g) (e : tgF t d env = some env') (r : Rv c B F v d)
    (q : ∀ σ', SInv c B F0 H0 F H σ' env' g → Q σ' H) : dG c.K t v σ H Q := by
  have key : (∀ (t : Tg) (d : PD) (env env' : EnvD) (σ : L2.St) (v : V) (Q : L2.St → Hp → Prop), SInv c B F0 H0 F H σ env g → tgF t d env = some env' → Rv c B F v d → (∀ σ', SInv c B F0 H0 F H σ' env' g → Q σ' H) → dG c.K t v σ H Q) := by
    intro t
    refine Tg.rec (motive_1 := fun t => ∀ (d : PD) (env env' : EnvD) (σ : L2.St) (v : V) (Q : L2.St → Hp → Prop), SInv c B F0 H0 F H σ env g → tgF t d env = some env' → Rv c B F v d → (∀ σ', SInv c B F0 H0 F H σ' env' g → Q σ' H) → dG c.K t v σ H Q)
      (motive_2 := fun ts => ∀ (ds : List PD) (env env' : EnvD) (σ : L2.St) (vs : List V) (Q : L2.St → Hp → Prop), SInv c B F0 H0 F H σ env g → tgsF ts ds env = some env' → RvA c B F vs ds → (∀ σ', SInv c B F0 H0 F H σ' env' g → Q σ' H) → dGs c.K ts vs σ H Q) ?_ ?_ ?_ ?_ t
    · intro i d env env' σ v Q S e r q
      have e' : env.set i (.d d) = env' := Option.some.inj (show some (env.set i (.d d)) = some env' from e)
      subst e'
      exact q _ (S.set i r)
    · intro ts ih d env env' σ v Q S e r q
      cases d <;> try (cases e; done)
      cases r with
      | tup hs ha => exact ⟨_, _, rfl, S.gr.inn.st hs, by rw [ha.length]; exact tgs_len ts _ env env' e, ih _ env env' σ _ Q S e ha q⟩
    · intro ds env env' σ vs Q S e r q
      cases ds with
      | nil =>
        cases r
        have e' : env = env' := Option.some.inj (show some env = some env' from e)
        subst e'
        exact ⟨rfl, q σ S⟩
      | cons d ds => simp [tgsF] at e
    · intro t ts ih1 ih2 ds env env' σ vs Q S e r q
      cases ds with
      | nil => simp [tgsF] at e
      | cons d ds =>
        cases r with
        | cons r1 r2 =>
          unfold tgsF at e
          cases e1 : tgF t d env with
          | none => rw [e1] at e; cases e
          | some en1 =>
            rw [e1] at e
            exact ⟨_, _, rfl, ih1 d env en1 σ _ _ S e1 r1 fun σ1 S1 => ih2 ds en1 env' σ1 _ Q S1 e r2 q⟩
  exact key t d env env' σ v Q S e r q
theorem listOf_eq {d : PD} {ds : List PD} (h : listOf d = some ds) : d = .list ds := by
  cases d <;> try (cases h; done)
  cases h; rfl
/-- the parts of a, b = x, y -/
theorem slOf_d {d : PD} {s : Sl} (h : slOf false d = some s) : s = .d d := by
  unfold slOf at h
  rw [if_neg Bool.false_ne_true] at h
  exact (Option.some.inj h).symm
theorem slOf_o {d : PD} {s : Sl} (h : slOf true d = some s) : ∃ ds, d = .list ds ∧ s = .own ds := by
  unfold slOf at h
  rw [if_pos rfl] at h
  obtain ⟨ds, e1, e2⟩ := Option.map_eq_some_iff.mp h
  exact ⟨ds, listOf_eq e1, e2.symm⟩
/-- an expression as a part: its value, or its own list -/
def PartR (c : Cn) (B : Option Addr) (H0 F H : Hp) (o : Bool) (v : V) (d : PD) : Prop :=
  if o = true then ∃ ds a vs, d = .list ds ∧ v = .ref a ∧ H a = some (.lst vs) ∧ F a = none ∧ Fr0 H0 a ∧ RvA c B F vs ds else Rv c B F v d
include T
theorem evP_ok (e : Ex) (o : Bool) (E : XK) (B : Option Addr) (F H : Hp) (σ : L2.St) (env : EnvD) (g : List PD) (Q : VK) (ok : okE L e = true) (ol : (!o || isL e) = true) (s : Sub F H) (bg : BagR Θ.c B F H g) (me : MEnv Θ.c B F H σ env)
    (h : Post Θ.c B E F H (evE Fn L e env g) (fun d _ F' H' => (∃ s, slOf o d = some s) ∧ ∀ v, PartR Θ.c B H F' H' o v d → Q v H')) : dE Θ E e σ H Q := by
  cases o with
  | false => exact evE_ok T e E B F H σ env g Q ok s bg me (h.imp fun d g' F' H' gr bg' k v r => k.2 v r)
  | true =>
    refine evL_ok T e E B F H σ env g Q (by simpa using ol) ok s bg me (h.imp fun d g' F' H' gr bg' k => ?_)
    obtain ⟨⟨sl, es⟩, k⟩ := k
    obtain ⟨ds, e0, _⟩ := slOf_o es
    exact ⟨ds, e0, fun a vs e2 e3 e4 ra => k _ ⟨ds, a, vs, e0, rfl, e2, e3, e4, ra⟩⟩
omit T
theorem PartR.put {c : Cn} {B : Option Addr} {F0 H0 F H Hs : Hp} {σ : L2.St} {env : EnvD} {g : List PD} {o : Bool} {v : V} {d : PD} {s : Sl} {i : Nat} (S : SInv c B F0 H0 F H σ env g) (h0 : ∀ a, Fr0 Hs a → Fr0 H0 a) (il : i < env.length)
    (un : ∀ a, Fr0 Hs a → ∀ (j : Nat) (ys : List PD), j ≠ i → env[j]? = some (Sl.own ys) → σ[j]? ≠ some (some (.ref a))) (p : PartR c B Hs F H o v d) (e : slOf o d = some s) : SInv c B F0 H0 F H (σ.set i (some v)) (env.set i s) g := by
  cases o with
  | false =>
    have e' := slOf_d e
    subst e'
    exact S.set i p
  | true =>
    obtain ⟨ds, e1, e2⟩ := slOf_o e
    obtain ⟨ds', a, vs, e3, e4, e5, e6, e7, ra⟩ := p
    subst e1
    cases e3
    subst e2
    subst e4
    exact S.setO i il e5 e6 (h0 a e7) ra (un a e7)
end G

/-! The theorem of statements. -/
namespace G
open PySem PySem.Spec PyProof.Rows L2
/-- as PostS, with a floor Fb of what is frozen -/
def PostB (c : Cn) (B : Option Addr) (E : XK) (F0 H0 Fb : Hp) (o : Out Fl) (D : Ends) : Prop := match o with
  | .stuck => False
  | .ok (.nx env) g => ∀ F H σ, Sub Fb F → SInv c B F0 H0 F H σ env g → D.nx σ H
  | .ok (.rt d) g => ∀ F H v, Gr B F0 H0 F H → BagR c B F H g → Rv c B F v d → D.rt v H
  | .exn x g => ExnP c B E F0 H0 x g
section
variable {c : Cn} {B : Option Addr} {E : XK} {F0 H0 Fb F H F1 H1 : Hp} {σ : L2.St} {env : EnvD} {g g1 : List PD} {D : Ends}
theorem PostB.bind {β : Type} {o : Out β} {f : β → M Fl} (S : SInv c B F0 H0 F H σ env g) (h : PostB c B E F0 H0 Fb (o.bnd f) D) :
    Post c B E F H o fun b g' _ _ => PostB c B E F0 H0 Fb (f b g') D := by
  cases o with
  | stuck => exact h
  | ok b g' => exact fun _ _ _ _ => h
  | exn x g' => exact ExnP.grow h S.gr
/-- one after another -/
theorem PostB.seq {o : Out Fl} {k : EnvD → M Fl} {D' : Ends} (h : PostB c B E F0 H0 Fb (o.bnd fun f => match f with | .nx env' => k env' | .rt d => ret (.rt d)) D) (hr : D'.rt = D.rt)
    (hn : ∀ F H σ env g, Sub Fb F → SInv c B F0 H0 F H σ env g → PostB c B E F0 H0 Fb (k env g) D → D'.nx σ H) : PostB c B E F0 H0 Fb o D' := by
  cases o with
  | stuck => exact h
  | exn x g' => exact h
  | ok f g' =>
    cases f with
    | nx env' => exact fun F H σ sb S => hn F H σ env' g' sb S h
    | rt d =>
      show ∀ F H v, Gr B F0 H0 F H → BagR c B F H g' → Rv c B F v d → D'.rt v H
      rw [hr]; exact h
theorem PostB.lift {Fb' : Hp} {o : Out Fl} (h : PostB c B E F0 H0 Fb o D) (s : Sub Fb Fb') : PostB c B E F0 H0 Fb' o D := by
  cases o with
  | stuck => exact h
  | exn x g' => exact h
  | ok f g' =>
    cases f with
    | nx env' => exact fun F H σ sb S => h F H σ (s.trans sb) S
    | rt d => exact h
end
variable {Θ : Th} {Fn : Nat → List PD → M PD} {L : Lw}
variable (T : Tab Θ Fn L)
include T
theorem wh_ok {E : XK} {B : Option Addr} {F0 H0 Fb : Hp} {D : Ends} (t : Tx) (body : Ss) (ok : okT L t = true)
    (hb : ∀ (F H : Hp) (σ : L2.St) (env : EnvD) (g : List PD) (D : Ends), Sub Fb F → SInv Θ.c B F0 H0 F H σ env g → PostB Θ.c B E F0 H0 Fb (evSs Fn L body env g) D → dSs Θ E body D σ H)
    {F H : Hp} {σ : L2.St} {env : EnvD} {g : List PD} (sb : Sub Fb F) (S : SInv Θ.c B F0 H0 F H σ env g) (h : PostB Θ.c B E F0 H0 Fb (evWh (fun e => evT Fn L t e) (fun e => evSs Fn L body e) fuel env g) D) :
    tWhile (dT Θ E t) (dSs Θ E body) D σ H := by
  refine ⟨fun m σ H => ∃ F env g, Sub Fb F ∧ SInv Θ.c B F0 H0 F H σ env g ∧ PostB Θ.c B E F0 H0 Fb (evWh (fun e => evT Fn L t e) (fun e => evSs Fn L body e) m env g) D, ⟨fuel, F, env, g, sb, S, h⟩, ?_⟩
  rintro m σ H ⟨F, env, g, sb, S, h⟩
  cases m with
  | zero => exact False.elim h
  | succ n =>
    unfold evWh at h
    refine evT_ok T t E B F H σ env g _ ok S.gr.inn S.bg S.me ((PostB.bind S h).imp fun k g1 F1 H1 gr1 bg1 h1 => ?_)
    cases k with
    | false => exact h1 F1 H1 σ (sb.trans gr1.sub) (S.grow gr1 bg1)
    | true =>
      refine ⟨_, fun σ' H' hN => ⟨n, Nat.lt_succ_self n, hN⟩, ?_⟩
      exact hb F1 H1 σ env g1 _ (sb.trans gr1.sub) (S.grow gr1 bg1) (PostB.seq h1 rfl fun F H σ env g sb S h => ⟨F, env, g, sb, S, h⟩)
theorem fr_ok {E : XK} {B : Option Addr} {F0 H0 Fb : Hp} {D : Ends} (tg : Tg) (body : Ss)
    (hb : ∀ (Fb F H : Hp) (σ : L2.St) (env : EnvD) (g : List PD) (D : Ends), Sub Fb F → SInv Θ.c B F0 H0 F H σ env g → PostB Θ.c B E F0 H0 Fb (evSs Fn L body env g) D → dSs Θ E body D σ H)
    {F H : Hp} {σ : L2.St} {env : EnvD} {g : List PD} {J : It} {ds : List PD} (W : Walks Θ.c B J F ds) (sb : Sub Fb F) (S : SInv Θ.c B F0 H0 F H σ env g) (h : PostB Θ.c B E F0 H0 Fb (evFr tg (fun e => evSs Fn L body e) ds env g) D) :
    ∃ W : Nat → Nat → L2.St → Hp → Prop, (∃ m, W 0 m σ H) ∧ ∀ i m σ H, W i m σ H →
      (J.stop i H ∧ D.nx σ H) ∨ (J.go i H ∧ ∃ N : L2.St → Hp → Prop, (∀ σ' H', N σ' H' → ∃ m', m' < m ∧ W (i + 1) m' σ' H') ∧ ∀ x H', J.yld i H x H' → dG Θ.c.K tg x σ H' fun σ2 H2 => dSs Θ E body { D with nx := N, ct := N, bk := D.nx } σ2 H2) := by
  refine ⟨fun i m σ H => m = ds.length - i ∧ i ≤ ds.length ∧ ∃ F' env g, Sub F F' ∧ SInv Θ.c B F0 H0 F' H σ env g ∧ PostB Θ.c B E F0 H0 F (evFr tg (fun e => evSs Fn L body e) (ds.drop i) env g) D, ⟨_, rfl, Nat.zero_le _, F, env, g, .refl F, S, h.lift sb⟩, ?_⟩
  rintro i m σ H ⟨rfl, il, F', env, g, sb, S, h⟩
  by_cases q : i = ds.length
  · left
    have e0 : ds.drop i = [] := by rw [q]; exact List.drop_length
    rw [e0] at h
    exact ⟨W.stop i F' H sb S.gr.inn (by omega), h F' H σ sb S⟩
  · right
    have il' : i < ds.length := by omega
    have e0 : ds.drop i = ds[i] :: ds.drop (i + 1) := List.drop_eq_getElem_cons il'
    have e1 : ds[i]? = some ds[i] := List.getElem?_eq_getElem il'
    rw [e0] at h
    refine ⟨W.go i F' H sb S.gr.inn il', fun σ H => ∃ F' env g, Sub F F' ∧ SInv Θ.c B F0 H0 F' H σ env g ∧ PostB Θ.c B E F0 H0 F (evFr tg (fun e => evSs Fn L body e) (ds.drop (i + 1)) env g) D, fun σ' H' hN => ⟨ds.length - (i + 1), by omega, rfl, il', hN⟩, fun x H' hy => ?_⟩
    obtain ⟨F2, gr2, rx, bag2⟩ := W.yld i F' H x H' _ sb S.gr.inn e1 hy
    have S2 := S.grow gr2 (bag2 _ S.bg)
    unfold evFr at h
    cases e : tgF tg ds[i] env with
    | none => rw [e] at h; exact False.elim h
    | some env1 =>
      rw [e] at h
      refine tgS_ok S2 e rx fun σ3 S3 => ?_
      exact hb F F2 H' σ3 env1 g _ (sb.trans gr2.sub) S3 (PostB.seq h rfl fun F' H σ env g sb S h => ⟨F', env, g, sb, S, h⟩)
mutual
theorem evS_ok : ∀ (st : St) (E : XK) (B : Option Addr) (F0 H0 Fb F H : Hp) (σ : L2.St) (env : EnvD) (g : List PD) (D : Ends), okS L st = true → Sub Fb F → SInv Θ.c B F0 H0 F H σ env g →
    PostB Θ.c B E F0 H0 Fb (evS Fn L st env g) D → dS Θ E st D σ H
  | .set i e, E, B, F0, H0, Fb, F, H, σ, env, g, D, ok, sb, S, h => by
    unfold evS at h
    exact evE_ok T e E B F H σ env g _ ok S.gr.inn S.bg S.me ((PostB.bind S h).imp fun d g1 F1 H1 gr1 bg1 h1 v r => h1 F1 H1 _ (sb.trans gr1.sub) ((S.grow gr1 bg1).set i r))
  | .setO i e, E, B, F0, H0, Fb, F, H, σ, env, g, D, ok, sb, S, h => by
    obtain ⟨ok1, ok2⟩ := and_of ok
    unfold evS at h
    refine evL_ok T e E B F H σ env g _ ok1 ok2 S.gr.inn S.bg S.me ((PostB.bind S h).imp fun d g1 F1 H1 gr1 bg1 h1 => ?_)
    cases q : listOf d with
    | none => rw [q] at h1; exact False.elim h1
    | some ds =>
      rw [q] at h1
      refine ⟨ds, listOf_eq q, fun a vs e2 e3 e4 ra => ?_⟩
      have h1' : PostB Θ.c B E F0 H0 Fb ((if i < env.length then ret (.nx (env.set i (.own ds))) else stk : M Fl) g1) D := h1
      by_cases l : i < env.length
      · rw [if_pos l] at h1'
        exact h1' F1 H1 _ (sb.trans gr1.sub) ((S.grow gr1 bg1).setO i l e2 e3 (S.gr.back e4) ra fun j ys _ e => S.unq e4 j ys e)
      · rw [if_neg l] at h1'
        exact False.elim h1'
  | .asg tg e, E, B, F0, H0, Fb, F, H, σ, env, g, D, ok, sb, S, h => by
    unfold evS at h
    refine evE_ok T e E B F H σ env g _ ok S.gr.inn S.bg S.me ((PostB.bind S h).imp fun d g1 F1 H1 gr1 bg1 h1 v r => ?_)
    cases q : tgF tg d env with
    | none => rw [q] at h1; exact False.elim h1
    | some env' =>
      rw [q] at h1
      exact tgS_ok (S.grow gr1 bg1) q r fun σ' S' => h1 F1 H1 σ' (sb.trans gr1.sub) S'
  | .par i j oi oj a b, E, B, F0, H0, Fb, F, H, σ, env, g, D, ok, sb, S, h => by
    obtain ⟨ok1, ok2⟩ := and_of ok
    obtain ⟨oka, okb⟩ := and_of ok1
    obtain ⟨ola, olb⟩ := and_of ok2
    unfold evS at h
    refine evP_ok T a oi E B F H σ env g _ oka ola S.gr.inn S.bg S.me ((PostB.bind S h).imp fun x g1 F1 H1 gr1 bg1 h1 => ?_)
    cases q1 : slOf oi x with
    | none => rw [q1] at h1; exact False.elim h1
    | some s =>
    rw [q1] at h1
    refine ⟨⟨s, rfl⟩, fun v p1 => ?_⟩
    have S1 := S.grow gr1 bg1
    refine evP_ok T b oj E B F1 H1 σ env g1 _ okb olb S1.gr.inn bg1 S1.me ((PostB.bind S1 h1).imp fun y g2 F2 H2 gr2 bg2 h2 => ?_)
    cases q2 : slOf oj y with
    | none => rw [q2] at h2; exact False.elim h2
    | some t =>
    rw [q2] at h2
    refine ⟨⟨t, rfl⟩, fun w p2 => ⟨v, w, rfl, ?_⟩⟩
    have h2' : PostB Θ.c B E F0 H0 Fb ((if i < env.length ∧ j < env.length ∧ i ≠ j then ret (.nx ((env.set i s).set j t)) else stk : M Fl) g2) D := h2
    by_cases l : i < env.length ∧ j < env.length ∧ i ≠ j
    · rw [if_pos l] at h2'
      have S1' := PartR.put S1 (fun a n => S.gr.back n) l.1 (fun a n k ys _ e => S.unq n k ys e) p1 q1
      have S2' := S1'.grow gr2 bg2
      have S3 := PartR.put S2' (fun a n => S1.gr.back n) (by rw [List.length_set]; exact l.2.1) (fun a n k ys _ e => S1'.unq n k ys e) p2 q2
      exact h2' F2 H2 _ ((sb.trans gr1.sub).trans gr2.sub) S3
    · rw [if_neg l] at h2'
      exact False.elim h2'
  | .par3 i j l oi oj ol a b k, E, B, F0, H0, Fb, F, H, σ, env, g, D, ok, sb, S, h => by
    obtain ⟨ok1, ok2⟩ := and_of ok
    obtain ⟨oka, okb⟩ := and_of ok1
    obtain ⟨okb, okk⟩ := and_of okb
    obtain ⟨ola, olb⟩ := and_of ok2
    obtain ⟨olb, olk⟩ := and_of olb
    unfold evS at h
    refine evP_ok T a oi E B F H σ env g _ oka ola S.gr.inn S.bg S.me ((PostB.bind S h).imp fun x g1 F1 H1 gr1 bg1 h1 => ?_)
    cases q1 : slOf oi x with
    | none => rw [q1] at h1; exact False.elim h1
    | some s =>
    rw [q1] at h1
    refine ⟨⟨s, rfl⟩, fun v p1 => ?_⟩
    have S1 := S.grow gr1 bg1
    refine evP_ok T b oj E B F1 H1 σ env g1 _ okb olb S1.gr.inn bg1 S1.me ((PostB.bind S1 h1).imp fun y g2 F2 H2 gr2 bg2 h2 => ?_)
    cases q2 : slOf oj y with
    | none => rw [q2] at h2; exact False.elim h2
    | some t =>
    rw [q2] at h2
    refine ⟨⟨t, rfl⟩, fun w p2 => ?_⟩
    have S2 := S1.grow gr2 bg2
    refine evP_ok T k ol E B F2 H2 σ env g2 _ okk olk S2.gr.inn bg2 S2.me ((PostB.bind S2 h2).imp fun z g3 F3 H3 gr3 bg3 h3 => ?_)
    cases q3 : slOf ol z with
    | none => rw [q3] at h3; exact False.elim h3
    | some u =>
    rw [q3] at h3
    refine ⟨⟨u, rfl⟩, fun z1 p3 => ⟨v, w, z1, rfl, ?_⟩⟩
    have h3' : PostB Θ.c B E F0 H0 Fb ((if i < env.length ∧ j < env.length ∧ l < env.length ∧ i ≠ j ∧ i ≠ l ∧ j ≠ l then ret (.nx (((env.set i s).set j t).set l u)) else stk : M Fl) g3) D := h3
    by_cases c : i < env.length ∧ j < env.length ∧ l < env.length ∧ i ≠ j ∧ i ≠ l ∧ j ≠ l
    · rw [if_pos c] at h3'
      have S1' := PartR.put S1 (fun a n => S.gr.back n) c.1 (fun a n k ys _ e => S.unq n k ys e) p1 q1
      have S2' := S1'.grow gr2 bg2
      have S3 := PartR.put S2' (fun a n => S1.gr.back n) (by rw [List.length_set]; exact c.2.1) (fun a n k ys _ e => S1'.unq n k ys e) p2 q2
      have S3' := S3.grow gr3 bg3
      have S4 := PartR.put S3' (fun a n => S2.gr.back n) (by rw [List.length_set, List.length_set]; exact c.2.2.1) (fun a n k ys _ e => S3.unq n k ys e) p3 q3
      exact h3' F3 H3 _ (((sb.trans gr1.sub).trans gr2.sub).trans gr3.sub) S4
    · rw [if_neg c] at h3'
      exact False.elim h3'
  | .ife t a b, E, B, F0, H0, Fb, F, H, σ, env, g, D, ok, sb, S, h => by
    obtain ⟨ok1, ok2⟩ := and_of ok
    obtain ⟨ok2, ok3⟩ := and_of ok2
    unfold evS at h
    refine evT_ok T t E B F H σ env g _ ok1 S.gr.inn S.bg S.me ((PostB.bind S h).imp fun k g1 F1 H1 gr1 bg1 h1 => ?_)
    cases k with
    | true => exact evSs_ok a E B F0 H0 Fb F1 H1 σ env g1 D ok2 (sb.trans gr1.sub) (S.grow gr1 bg1) h1
    | false => exact evSs_ok b E B F0 H0 Fb F1 H1 σ env g1 D ok3 (sb.trans gr1.sub) (S.grow gr1 bg1) h1
  | .ret e, E, B, F0, H0, Fb, F, H, σ, env, g, D, ok, sb, S, h => by
    unfold evS at h
    exact evE_ok T e E B F H σ env g _ ok S.gr.inn S.bg S.me ((PostB.bind S h).imp fun d g1 F1 H1 gr1 bg1 h1 v r => h1 F1 H1 v (S.gr.trans gr1) bg1 r)
  | .retN, E, B, F0, H0, Fb, F, H, σ, env, g, D, ok, sb, S, h => h F H .non S.gr S.bg .non
  | .rse0 k, E, B, F0, H0, Fb, F, H, σ, env, g, D, ok, sb, S, h => ((show ExnP Θ.c B E F0 H0 ⟨k, []⟩ g from h) F H S.gr S.bg).1 rfl
  | .rse2 k n1 n2 a b, E, B, F0, H0, Fb, F, H, σ, env, g, D, ok, sb, S, h => by
    obtain ⟨ok1, ok2⟩ := and_of ok
    unfold evS at h
    refine evE_ok T a E B F H σ env g _ ok1 S.gr.inn S.bg S.me ((PostB.bind S h).imp fun x g1 F1 H1 gr1 bg1 h1 v1 r1 => ?_)
    have S1 := S.grow gr1 bg1
    refine evE_ok T b E B F1 H1 σ env g1 _ ok2 S1.gr.inn bg1 S1.me ((PostB.bind S1 h1).imp fun y g2 F2 H2 gr2 bg2 h2 v2 r2 => ?_)
    have S2 := S1.grow gr2 bg2
    refine ⟨v1, v2, rfl, fun d hd => ?_⟩
    have h2' : PostB Θ.c B E F0 H0 Fb ((if isFl x = true ∧ isFl y = true then fun g => .exn ⟨k, [(n1, x), (n2, y)]⟩ g else stk : M Fl) g2) D := h2
    by_cases l : isFl x = true ∧ isFl y = true
    · rw [if_pos l] at h2'
      have h3 : ExnP Θ.c B E F0 H0 ⟨k, [(n1, x), (n2, y)]⟩ g2 := h2'
      have e1 := (rv_toV l.1 r1).1
      have e2 := (rv_toV l.2 r2).1
      subst e1
      subst e2
      exact (h3 F2 _ (S2.gr.trans (.freshM S2.gr.inn hd)) (bg2.freshM hd)).2 (by simp) d upd_same
    · rw [if_neg l] at h2'
      exact False.elim h2'
  | .whl t body, E, B, F0, H0, Fb, F, H, σ, env, g, D, ok, sb, S, h => by
    obtain ⟨ok1, ok2⟩ := and_of ok
    unfold evS at h
    exact wh_ok T t body ok1 (fun F H σ env g D sb S h => evSs_ok body E B F0 H0 Fb F H σ env g D ok2 sb S h) sb S h
  | .fr tg it body, E, B, F0, H0, Fb, F, H, σ, env, g, D, ok, sb, S, h => by
    obtain ⟨ok1, ok2⟩ := and_of ok
    unfold evS at h
    refine evI_ok T it E B F H σ env g _ ok1 S.gr.inn S.bg S.me ((PostB.bind S h).imp fun ds g1 F1 H1 gr1 bg1 h1 J W => ?_)
    exact fr_ok T tg body (fun Fb F H σ env g D sb S h => evSs_ok body E B F0 H0 Fb F H σ env g D ok2 sb S h) W (sb.trans gr1.sub) (S.grow gr1 bg1) h1
  | .app i e, E, B, F0, H0, Fb, F, H, σ, env, g, D, ok, sb, S, h => by
    unfold evS at h
    cases q0 : (env[i]?).bind ownOf with
    | none => rw [q0] at h; exact False.elim h
    | some xs =>
      rw [q0] at h
      obtain ⟨sl, q, e2⟩ := Option.bind_eq_some_iff.mp q0
      have e3 := ownOf_eq e2
      subst e3
      have h' : PostB Θ.c B E F0 H0 Fb ((if xs.length < 1000000 then bnd (evE Fn L e env) fun d => ret (.nx (env.set i (.own (xs ++ [d])))) else stk : M Fl) g) D := h
      by_cases l : xs.length < 1000000
      · rw [if_pos l] at h'
        obtain ⟨a, vs, k1, k2, k3, k4, k5, k6⟩ := S.addr q
        refine ⟨.ref a, k1, ?_⟩
        refine ⟨.inl ⟨rfl, vs, .inl (.inl k2)⟩, ?_⟩
        refine evE_ok T e E B F H σ env g _ ok S.gr.inn S.bg S.me ((PostB.bind S h').imp fun d g1 F1 H1 gr1 bg1 h1 v r => ?_)
        have S1 := S.grow gr1 bg1
        have k2' := gr1.keep _ _ k2 NT.lst k4
        exact ⟨a, vs, v, rfl, rfl, k2', Nat.lt_of_lt_of_le (show vs.length < 1000000 by rw [k5.length]; exact l) (by decide), h1 F1 _ σ (sb.trans gr1.sub) (S1.chg q k1 k2' ((RvA.mono gr1.sub _ _ k5).app (.cons r .nil)))⟩
      · rw [if_neg l] at h'
        exact False.elim h'
  | .pop i, E, B, F0, H0, Fb, F, H, σ, env, g, D, ok, sb, S, h => by
    unfold evS at h
    cases q0 : (env[i]?).bind ownOf with
    | none => rw [q0] at h; exact False.elim h
    | some xs =>
      rw [q0] at h
      obtain ⟨sl, q, e2⟩ := Option.bind_eq_some_iff.mp q0
      have e3 := ownOf_eq e2
      subst e3
      have h' : PostB Θ.c B E F0 H0 Fb ((if xs.length = 0 then stk else ret (.nx (env.set i (.own xs.dropLast))) : M Fl) g) D := h
      by_cases l : xs.length = 0
      · rw [if_pos l] at h'
        exact False.elim h'
      · rw [if_neg l] at h'
        obtain ⟨a, vs, k1, k2, k3, k4, k5, k6⟩ := S.addr q
        have el := k5.length
        have hlt : vs.length - 1 < vs.length := by omega
        exact ⟨.ref a, k1, .inl ⟨rfl, vs, .inl (.inl k2)⟩, a, vs, _, rfl, rfl, k2, List.getElem?_eq_getElem hlt, h' F _ σ sb (S.chg q k1 k2 (by rw [List.dropLast_eq_take, List.dropLast_eq_take, el]; exact RvA.take _ k5))⟩
  | .ext i e, E, B, F0, H0, Fb, F, H, σ, env, g, D, ok, sb, S, h => by
    unfold evS at h
    cases q0 : (env[i]?).bind ownOf with
    | none => rw [q0] at h; exact False.elim h
    | some xs =>
      rw [q0] at h
      obtain ⟨sl, q, e2⟩ := Option.bind_eq_some_iff.mp q0
      have e3 := ownOf_eq e2
      subst e3
      obtain ⟨a, vs, k1, k2, k3, k4, k5, k6⟩ := S.addr q
      have h' : PostB Θ.c B E F0 H0 Fb (bnd (evE Fn L e env) (fun d => match listOf d with | some ys => if xs.length + ys.length ≤ 1000000 then ret (.nx (env.set i (.own (xs ++ ys)))) else stk | none => stk) g) D := h
      refine ⟨.ref a, k1, ?_⟩
      refine ⟨.inl ⟨rfl, vs, .inl (.inl k2)⟩, ?_⟩
      refine evE_ok T e E B F H σ env g _ ok S.gr.inn S.bg S.me ((PostB.bind S h').imp fun d g1 F1 H1 gr1 bg1 h1 v r => ?_)
      cases ql : listOf d with
      | none => rw [ql] at h1; exact False.elim h1
      | some ys =>
        rw [ql] at h1
        have h1' : PostB Θ.c B E F0 H0 Fb ((if xs.length + ys.length ≤ 1000000 then ret (.nx (env.set i (.own (xs ++ ys)))) else stk : M Fl) g1) D := h1
        by_cases l : xs.length + ys.length ≤ 1000000
        · rw [if_pos l] at h1'
          have ed := listOf_eq ql
          subst ed
          cases r with
          | lst hs ha =>
            have S1 := S.grow gr1 bg1
            have k2' := gr1.keep _ _ k2 NT.lst k4
            exact ⟨a, _, vs, _, rfl, rfl, k2', S1.gr.inn _ _ hs, Nat.le_trans (by rw [k5.length, ha.length]; exact l) (by decide), h1' F1 _ σ (sb.trans gr1.sub) (S1.chg q k1 k2' ((RvA.mono gr1.sub _ _ k5).app ha))⟩
        · rw [if_neg l] at h1'
          exact False.elim h1'
  | .iset i k e, E, B, F0, H0, Fb, F, H, σ, env, g, D, ok, sb, S, h => by
    obtain ⟨okk, oke⟩ := and_of ok
    unfold evS at h
    cases q0 : (env[i]?).bind ownOf with
    | none => rw [q0] at h; exact False.elim h
    | some xs =>
      rw [q0] at h
      obtain ⟨sl, q, e2⟩ := Option.bind_eq_some_iff.mp q0
      have e3 := ownOf_eq e2
      subst e3
      obtain ⟨a, vs, k1, k2, k3, k4, k5, k6⟩ := S.addr q
      have h' : PostB Θ.c B E F0 H0 Fb (bnd (evE Fn L e env) (fun d => bnd (evE Fn L k env) fun n => match n with
        | .int m => match ixN xs.length m with | some j => ret (.nx (env.set i (.own (xs.set j d)))) | none => stk
        | _ => stk) g) D := h
      refine evE_ok T e E B F H σ env g _ oke S.gr.inn S.bg S.me ((PostB.bind S h').imp fun d g1 F1 H1 gr1 bg1 h1 v r => ?_)
      have S1 := S.grow gr1 bg1
      refine ⟨_, k1, ?_⟩
      refine evE_ok T k E B F1 H1 σ env g1 _ okk S1.gr.inn bg1 S1.me ((PostB.bind S1 h1).imp fun n g2 F2 H2 gr2 bg2 h2 w r2 => ?_)
      have S2 := S1.grow gr2 bg2
      cases n <;> try exact False.elim h2
      rename_i m
      cases r2
      have h2' : PostB Θ.c B E F0 H0 Fb ((match ixN xs.length m with | some j => ret (.nx (env.set i (.own (xs.set j d)))) | none => stk : M Fl) g2) D := h2
      cases qi : ixN xs.length m with
      | none => rw [qi] at h2'; exact False.elim h2'
      | some j =>
        rw [qi] at h2'
        have k2' := gr2.keep _ _ (gr1.keep _ _ k2 NT.lst k4) NT.lst k4
        have r' := Rv.mono gr2.sub _ _ r
        exact ⟨a, vs, m, j, rfl, rfl, k2', by rw [k5.length]; exact qi, h2' F2 _ σ ((sb.trans gr1.sub).trans gr2.sub) (S2.chg q k1 k2' ((RvA.mono (gr1.trans gr2).sub _ _ k5).set j r'))⟩
  | .ex e, E, B, F0, H0, Fb, F, H, σ, env, g, D, ok, sb, S, h => by
    unfold evS at h
    exact evE_ok T e E B F H σ env g _ ok S.gr.inn S.bg S.me ((PostB.bind S h).imp fun d g1 F1 H1 gr1 bg1 h1 v r => h1 F1 H1 σ (sb.trans gr1.sub) (S.grow gr1 bg1))
  | .bset i n e, E, B, F0, H0, Fb, F, H, σ, env, g, D, ok, sb, S, h => by
    unfold evS at h
    cases e0 : (env[i]?).bind bagOf with
    | none => rw [e0] at h; exact False.elim h
    | some u =>
      rw [e0] at h
      obtain ⟨sl, e1, e2⟩ := Option.bind_eq_some_iff.mp e0
      have e3 := bagOf_eq e2
      subst e3
      obtain ⟨v0, h1, r0⟩ := S.me.get e1
      cases r0 with
      | bag eB =>
        have h' : PostB Θ.c B E F0 H0 Fb (bnd (evE Fn L e env) (fun d g => if n < g.length then .ok (.nx env) (g.set n d) else .stuck) g) D := h
        refine evE_ok T e E B F H σ env g _ ok S.gr.inn S.bg S.me ((PostB.bind S h').imp fun d g1 F1 H1 gr1 bg1 h2 v r => ?_)
        by_cases l : n < g1.length
        · rw [if_pos l] at h2
          have S1 := S.grow gr1 bg1
          obtain ⟨nF, vs, hv, ra⟩ := bg1.bag _ eB
          exact ⟨_, h1, _, vs, _, n, rfl, rfl, hv, Evl.ixN_nat (by rw [ra.length]; exact l), h2 F1 _ σ (sb.trans gr1.sub) (S1.bset eB hv n r ra nF)⟩
        · rw [if_neg l] at h2
          exact False.elim h2
theorem evSs_ok : ∀ (st : Ss) (E : XK) (B : Option Addr) (F0 H0 Fb F H : Hp) (σ : L2.St) (env : EnvD) (g : List PD) (D : Ends), okSs L st = true → Sub Fb F → SInv Θ.c B F0 H0 F H σ env g →
    PostB Θ.c B E F0 H0 Fb (evSs Fn L st env g) D → dSs Θ E st D σ H
  | .nil, E, B, F0, H0, Fb, F, H, σ, env, g, D, ok, sb, S, h => h F H σ sb S
  | .cons s r, E, B, F0, H0, Fb, F, H, σ, env, g, D, ok, sb, S, h => by
    obtain ⟨ok1, ok2⟩ := and_of ok
    unfold evSs at h
    refine evS_ok s E B F0 H0 Fb F H σ env g _ ok1 sb S (PostB.seq (D' := { D with nx := dSs Θ E r D }) h rfl fun F H σ env g sb S h => ?_)
    exact evSs_ok r E B F0 H0 Fb F H σ env g D ok2 sb S h
  | .frz i r, E, B, F0, H0, Fb, F, H, σ, env, g, D, ok, sb, S, h => by
    unfold evSs at h
    cases q0 : (env[i]?).bind ownOf with
    | none => rw [q0] at h; exact False.elim h
    | some xs =>
      rw [q0] at h
      obtain ⟨sl, q, e2⟩ := Option.bind_eq_some_iff.mp q0
      have e3 := ownOf_eq e2
      subst e3
      obtain ⟨F', sb', S'⟩ := S.frz q
      exact evSs_ok r E B F0 H0 Fb F' H σ _ g D ok (sb.trans sb') S' h
end
end G

/-! List comprehensions out of which an exception may come. -/
namespace HX
open PySem PySem.Spec PyProof.Rows L2
/-- the frame in which a context runs: D's -/
structure Air (X : Cx) (D : Env) (o : List Env) : Prop where
  stk : X.stack = D :: o
  fr : X.env.frame = some D.locals
  dfr : D.frame = some D.locals
/-- an exception in the air of X, whose frame stands at L; E: what is wished of it -/
def XEL (X : Cx) (L : Addr) (E : XK) (u : Value) (s' : Shared) : Prop :=
  ∃ (a : Addr) (B : Heap) (sI : Shared) (pins : List (Addr × Obj)) (σ : L2.St) (H : Hp) (cls : Value) (d : Option Addr), u = .ref a ∧ Inv X pins σ H sI ∧
    (∀ b o, sI.heap.get? b = some o → b ∉ frs X.stack → B.get? b = some o) ∧ sI.heap.UpToSlots s'.heap ∧ Sky B X.stack a (Zc cls d) L s'.heap ∧ H a = none ∧ s'.os = sI.os ∧ AllBare s'.gens ∧ E cls d H
def TakesL (X : Cx) (L : Addr) (E : XK) : Prop := ∀ u s', XEL X L E u s' → X.xe u s'
theorem takesL_of {X : Cx} {E : XK} (t : Takes X fun cls d _ H => E cls d H) : TakesL X X.env.locals E := t
/-- what a callee lets out -/
theorem passes_L {X : Cx} {L : Addr} {E : XK} (t : TakesL X L E) : Passes (L2.CX X.prog X.w) X E := fun pins σ H s e s' I c => by
  have x := XE.of_call (W := fun cls d _ H => E cls d H) I (fun _ _ _ h => h) c
  obtain ⟨a0, B0, H0, cls0, d0, e0, fl, _⟩ := c
  obtain ⟨a, B, sI, pins', σ', H', cls, d, ea, I', nb, up, sky, na, os, ag, w⟩ := x
  subst e0
  cases ea
  obtain ⟨_, _, _, oe, vs, T, oT, ts, he, _, hd, h1, _, _, hT, hdT, h3⟩ := fl
  refine t _ s' ⟨a0, B, sI, pins', σ', H', cls, d, rfl, I', nb, up, .inr (.inl ?_), na, os, ag, w⟩
  rcases sky with z | z | z
  · obtain ⟨_, _, _, oe2, vs2, he2, _, hd2, h12⟩ := z
    rw [he] at he2
    cases he2
    rw [hd] at hd2
    cases hd2
    rw [h1] at h12
    cases h12
  · exact z
  · obtain ⟨_, _, _, oe2, vs2, T2, oT2, ts2, he2, _, hd2, h12, _, _, hT2, hdT2, h32⟩ := z
    rw [he] at he2
    cases he2
    rw [hd] at hd2
    cases hd2
    rw [h1] at h12
    cases h12
    rw [hT] at hT2
    cases hT2
    rw [hdT] at hdT2
    cases hdT2
    rw [h3] at h32
    simp [rawInt] at h32
theorem note_same {x : Value} {c D : Env} (h : c.frame = D.frame) : noteFrame x c = noteFrame x D := by
  unfold noteFrame PySem.frameOf
  rw [h]
/-- noted by the frame -/
theorem Sky.noted {M : Model} {A : Around} {E₁ : Value → Shared → Prop} {D : Env} {o : List Env} {B : Heap} {a : Addr} {Z : Obj → Prop} {Q : Unit → Shared → Prop} {s : Shared} (hZ : HandSPX.Steady Z) (hfr : A.frames = some (D :: o)) (hf : D.frame = some D.locals)
    (x : Sky B (D :: o) a Z D.locals s.heap) (hQ : ∀ h', HandSPX.HeldZ B (D :: o) a Z D.locals h' → s.heap.UpToSlots h' → Q () { s with heap := h' }) : wpAny M A (noteFrame (.ref a) D) Q E₁ s := by
  rcases x with ⟨hB, hn, hl, oe, vs, he, hz, hd, h1⟩ | fl | hh
  · exact HandSPX.look_newZ hZ hfr hl hf he hB hn hd h1 hz hQ
  · exact HandSPX.looks_onZ hZ hfr hf fl hQ
  · exact HandSPX.againZ hf hh.2.2.2 (hQ s.heap hh (Heap.UpToSlots.refl _))
/-- the block's outcome, its frame told -/
def compEnd (M : Model) (A : Around) (E : Value → Shared → Prop) (Q : Value → Shared → Prop) (acc : Value) (C : Addr) (fr : Option Addr) (r : Result) (s' : Shared) : Prop := match r with
  | .ok _ => ∃ m, s'.heap.Ns C m ∧ ∀ h', Heap.SameBut C s'.heap h' → Q acc { s' with heap := h' }
  | .error x => ∃ m, s'.heap.Ns C m ∧ ∀ h', Heap.SameBut C s'.heap h' → ∀ ce : Env, ce.frame = fr → wpAny M A (passOn "comprehension.variables-let-go" x ce : Sem Value) (fun _ _ => False) E { s' with heap := h' }
theorem comp_free {M : Model} {A : Around} {E : Value → Shared → Prop} {s : Shared} {env : Env} {e : Expr} {scope : Scope} {pos : Pos} {newAcc first : Sem Value} {g : Comprehension} {gs : List Comprehension} {cl : List (Str × Addr)} {Q : Value → Shared → Prop}
    (hcl : clausesOf e = g :: gs) (hs : ∀ x, foldedSetIterable g.iter env x = pure x) (hclos : closureFor scope env = pure cl) (hkind : scope.kind = .function) (hnames : ∀ x ∈ scope.names, x.2 = .local → scope.names.lookup x.1 = some .local)
    (h : wpAny M A first (fun x s₁ => wpAny M A (pyIter x) (fun it s₂ => wpAny M A newAcc (fun acc s₃ => wpAny M A (newFunctionEnv scope env.globals cl [] env.qual none .none (some env)) (fun ce s₄ =>
        codeAny M A (.compStart e 0 it acc { ce with scope := relabel scope env }) (compEnd M A E Q acc ce.locals ce.frame) s₄) E s₃) E s₂) E s₁) E s) :
    wpAny M A (comprehension e scope env pos newAcc false first none) Q E s := by
  unfold comprehension
  rw [hclos, hcl]
  refine wpAny_bind (wpAny_mono h (fun x t₁ k₁ => wpAny_bind (wpAny_standAt (wpAny_bind (wpAny_of_eq (hs x) (wpAny_bind (wpAny_holding (wpAny_mono k₁ (fun it t₂ k₂ =>
    wpAny_standIf (wpAny_bind (wpAny_mono k₂ (fun acc t₃ k₃ => wpAny_bind (wpAny_pure (wpAny_bind (wpAny_mono k₃ (fun ce t₄ k₄ => ?_) fun _ _ z => z)))) fun _ _ z => z))) fun _ _ z => z))))))) fun _ _ z => z)
  dsimp only
  have hv : ∀ x ∈ (scope.names.filter fun x => (x.2 == .local || x.2 == .cell) && x.1 != (".0" : Str)).reverse, x.2 = .local → Env.kindOf { ce with scope := relabel scope env } x.1 = some .local :=
    fun x hx hl => lookup_relabel_local (hnames x (List.mem_filter.mp (List.mem_reverse.mp hx)).1 hl)
  refine wpAny_holding (wpAny_bind (wpAny_attempt (wpAny_holding (wpAny_run (codeAny_mono k₄ fun r t' hr => ?_)))))
  cases r with
  | ok f =>
    obtain ⟨m, hn, hr⟩ := hr
    exact wpAny_bind (wpAny_holding (wpAny_comp_letGo (cenv := { ce with scope := relabel scope env }) hkind _ t' m hv hn fun h' m' _ k' => wpAny_pure (hr h' k')))
  | error x =>
    obtain ⟨m, hn, hr⟩ := hr
    exact wpAny_bind (wpAny_holding (wpAny_comp_letGo (cenv := { ce with scope := relabel scope env }) hkind _ t' m hv hn fun h' m' _ k' => wpAny_mono (hr h' k' _ rfl) (fun _ _ f => f.elim) fun _ _ y => y))
section
variable {X : Cx}
/-- the block's context; what comes out of it is wished by E -/
abbrev blkX (X : Cx) (s : Shared) (H : Hp) (scope : Scope) (ce : Env) (fp : List Addr) (L : Addr) (E : XK) : Cx := (X.blk s H scope ce fp).wish (XEL (X.blk s H scope ce fp) L E)
theorem takesL_wish {L : Addr} {E : XK} : TakesL (X.wish (XEL X L E)) L E := fun u s' ⟨a, B, sI, pins, σ, H, cls, d, e, I, nb, up, sky, na, os, ag, w⟩ => ⟨a, B, sI, pins, σ, H, cls, d, e, I.unwish, nb, up, sky, na, os, ag, w⟩
theorem takesL_blk {s : Shared} {H : Hp} {scope : Scope} {ce : Env} {fp : List Addr} {L : Addr} {E : XK} : TakesL (blkX X s H scope ce fp L E) L E := takesL_wish
/-- what has come out of the block is in X's own air -/
theorem out_of {D : Env} {o : List Env} {E : XK} {pins : List (Addr × Obj)} {σ : L2.St} {H3 : Hp} {s3 : Shared} {scope : Scope} {ce : Env} {fp : List Addr} {Q : Value → Shared → Prop} {acc : Value} (air : Air X D o) (tk : TakesL X D.locals E) (I3 : Inv X pins σ H3 s3)
    (f3 : ∀ b ∈ fp, FpOk X pins H3 b) (cL : ce.locals = s3.heap.objs.size) (cF : ce.frame = X.env.frame) (hfr : X.A.frames = some X.stack) (u : Value) (s' : Shared) (x : XEL (X.blk s3 H3 scope ce fp) D.locals E u s') :
    notedBy (model X.prog X.w) X.A ce (fun e s' => compEnd (model X.prog X.w) X.A X.xe Q acc ce.locals ce.frame (.error e) s') u s' := by
  obtain ⟨a, B, sI, pins', σ', H', cls, d, rfl, Ib, nb, up, sky, na, os, ag, w⟩ := x
  have stk : (X.blk s3 H3 scope ce fp).stack = D :: o := air.stk
  rw [stk] at sky nb
  have hfD : X.A.frames = some (D :: o) := by rw [hfr, air.stk]
  show wpAny _ _ (noteFrame (.ref a) ce) _ _ s'
  rw [note_same (show ce.frame = D.frame by rw [cF, air.fr, air.dfr])]
  refine Sky.noted Zc.steady hfD air.dfr sky fun h1 held up1 => ?_
  obtain ⟨m, hn, _⟩ := Ib.loc
  have hn : sI.heap.Ns ce.locals m := hn
  -- the block's own names are no frame
  have nC : ce.locals ∉ frs (D :: o) := fun hm => by
    rw [← air.stk] at hm
    obtain ⟨_, o1, e1, _⟩ := I3.stack.mem hm
    have l := Heap.lt_size e1
    rw [cL] at l
    exact absurd l (Nat.lt_irrefl _)
  obtain ⟨oC, es, ep, hoC, hdC, _⟩ := id hn
  have hBC : B.get? ce.locals = some oC := nb _ _ hoC nC
  obtain ⟨st1, hnone, hff, ht⟩ := held
  refine ⟨m, up1.ns (up.ns hn), fun h2 sb cg hcg => ?_⟩
  obtain ⟨oe, vs, T, oT, ts, he, hz, hd, h1', hnT, hTe, hT, hdT, h3'⟩ := ht
  have nea : a ≠ ce.locals := fun z => by rw [z, hBC] at hnone; cases hnone
  have neT : T ≠ ce.locals := fun z => by rw [z, hBC] at hnT; cases hnT
  have g2 : ∀ b o, b ≠ ce.locals → h1.get? b = some o → h2.get? b = some o := fun b o q e => (sb.2 b q).trans e
  have ofB : ∀ b o, (B.hide ce.locals).get? b = some o → b ≠ ce.locals ∧ B.get? b = some o := fun b o e => by
    refine ⟨fun z => ?_, Heap.of_hide e⟩
    rw [z, Heap.hide_self] at e
    cases e
  have held2 : HandSPX.HeldZ (B.hide ce.locals) (D :: o) a (Zc cls d) D.locals h2 := by
    refine ⟨fun b o e => g2 b o (ofB b o e).1 (st1 b o (ofB b o e).2), ?_, ?_, oe, vs, T, oT, ts, g2 _ _ nea he, hz, hd, h1', ?_, hTe, g2 _ _ neT hT, hdT, h3'⟩
    · cases q : (B.hide ce.locals).get? a with
      | none => rfl
      | some o1 => rw [(ofB a o1 q).2] at hnone; cases hnone
    · have noB : ∀ L ∈ frs (D :: o), (B.hide ce.locals).get? L = none := fun L hL => by
        cases q : (B.hide ce.locals).get? L with
        | none => rfl
        | some o1 =>
          have z := (hff.mem hL).1
          rw [(ofB L o1 q).2] at z
          cases z
      have keep : ∀ b o1, (h1.hide ce.locals).get? b = some o1 → h2.get? b = some o1 := fun b o1 e => by
        have q : b ≠ ce.locals := fun z => by rw [z, Heap.hide_self] at e; cases e
        exact g2 b o1 q (Heap.of_hide e)
      have f1 : (h1.hide ce.locals).FunFrames B (D :: o) := by
        have gen : ∀ l : List Env, (∀ L ∈ frs l, L ≠ ce.locals) → h1.FunFrames B l → (h1.hide ce.locals).FunFrames B l := by
          intro l
          induction l with
          | nil => intro _ _; trivial
          | cons e l ih =>
            intro hne hl
            obtain ⟨k1, ⟨L, o1, k2, k3, k4, k5⟩, k6⟩ := hl
            have hL : L ∈ frs (e :: l) := by
              unfold frs
              rw [List.filterMap_cons, k2]
              exact List.mem_cons_self
            refine ⟨k1, ⟨L, o1, k2, k3, (Heap.hide_ne h1 (hne L hL)).trans k4, k5⟩, ih (fun L2 h2 => hne L2 ?_) k6⟩
            unfold frs at h2 ⊢
            rw [List.filterMap_cons, k2]
            exact List.mem_cons_of_mem _ h2
        exact gen _ (fun L hL z => nC (z ▸ hL)) hff
      exact funFrames_none (Heap.FunFrames.of_keeps (fun b o1 e _ => ⟨o1, keep b o1 e, rfl⟩) f1) noB
    · cases q : (B.hide ce.locals).get? T with
      | none => rfl
      | some o1 => rw [(ofB T o1 q).2] at hnT; cases hnT
  show wpAny _ _ (passOn "comprehension.variables-let-go" (.ref a) cg) _ _ _
  unfold PySem.passOn
  refine wpAny_bind (wpAny_field (g2 _ _ nea he) hd h1' ?_)
  rw [if_neg (show ¬ ((Value.ref T == Value.none) = true) from by simp)]
  rw [hcg, cF, air.fr]
  refine wpAny_bind (HandSPX.setFlight_onZ (s := { s' with heap := h2 }) held2 fun h3 held3 up3 => wpAny_throw ?_)
  -- X's own air
  have IX : Inv X pins σ H' sI := I3.call' (ch := fp) Ib.os Ib.base Ib.hok Ib.bare fun b hb => ⟨(f3 b hb).2.2.2.1, (f3 b hb).2.1, (f3 b hb).2.2.2.2.1, (f3 b hb).2.2.2.2.2⟩
  have nHC : H' ce.locals = none := Ib.free
  obtain ⟨q0, q1, _, q3, q4, q5⟩ := I3.fpOk (H' := H') (b := ce.locals) (Nat.le_of_eq cL.symm) nHC
  have IX2 := IX.turned (it := ce.locals) (h' := sI.heap.hide ce.locals) (t' := sI.toks) (fun b o1 hb e => (Heap.hide_ne sI.heap hb).trans e) q0 q1 q3 q4 q5
  have ofI : ∀ b o, (sI.heap.hide ce.locals).get? b = some o → b ≠ ce.locals ∧ sI.heap.get? b = some o := fun b o e => by
    refine ⟨fun z => ?_, Heap.of_hide e⟩
    rw [z, Heap.hide_self] at e
    cases e
  refine tk _ _ ⟨a, B.hide ce.locals, _, pins, σ, H', cls, d, rfl, IX2, fun b o1 e hb => ?_, fun b o1 e hnf => ?_, ?_, na, os, ag, w⟩
  · rw [air.stk] at hb
    exact (Heap.hide_ne B (ofI b o1 e).1).trans (nb b o1 (ofI b o1 e).2 hb)
  · obtain ⟨sl1, e1⟩ := up b o1 (ofI b o1 e).2 hnf
    obtain ⟨sl2, e2⟩ := up1 b _ e1 hnf
    obtain ⟨sl3, e3⟩ := up3 b { o1 with slots := sl2 } (g2 b { o1 with slots := sl2 } (ofI b o1 e).1 e2) hnf
    exact ⟨sl3, e3⟩
  · rw [air.stk]
    exact .inr (.inr held3)
end
end HX

/-! The rule of a list comprehension out of which an exception may come. -/
namespace HX
open PySem PySem.Spec PyProof.Rows L2
theorem thA {α : Type} {t : Sem α} {Q Q' : α → Shared → Prop} {E E' : Value → Shared → Prop} {M : Model} {A : Around} {s : Shared} (h : wpAny M A t Q E s) (hQ : ∀ a s, Q a s → Q' a s) (hE : ∀ e s, E e s → E' e s) : wpAny M A t Q' E' s := wpAny_mono h hQ hE
section
variable {X : Cx}
theorem pe_lcX {D : Env} {o : List Env} {E : XK} {elt tg iter : Expr} {ifs : List Expr} {scope : Scope} {own : List (Str × Nat)} {pos : Pos} {wi : TI} {g : TG} {tt : TT} {te : TE} (air : Air X D o) (tk : TakesL X D.locals E) (hc : X.calm = true) (hN : X.N.Nodup) (hi : PI X tg iter wi) (ok : BlkOk X.N X.env.scope scope own)
    (hg : ∀ (s : Shared) (H : Hp) (C : Addr) (cl : List (Str × Addr)) (fp : List Addr), PG (blkX X s H scope (compEnvC scope cl C X.env) fp D.locals E) tg g)
    (ht : ∀ (s : Shared) (H : Hp) (C : Addr) (cl : List (Str × Addr)) (fp : List Addr), PTs (blkX X s H scope (compEnvC scope cl C X.env) fp D.locals E) ifs tt)
    (he : ∀ (s : Shared) (H : Hp) (C : Addr) (cl : List (Str × Addr)) (fp : List Addr), PE (blkX X s H scope (compEnvC scope cl C X.env) fp D.locals E) elt te) (hs : ∀ x, foldedSetIterable iter X.env x = pure x := by intro _; rfl) :
    PE X (.ListComp elt [⟨tg, iter, ifs, 0⟩] scope pos) (tLc wi g tt te (own.map (·.2))) := by
  refine ⟨fun pins s σ H Q I h => ?_⟩
  rw [eval_ListComp]
  have hfree : ∀ y ∈ scope.names, y.2 = .free → ∃ c, X.env.cells.lookup y.1 = some c := fun y hy e => (ok.free y hy e).elim (fun k => I.ok.has _ (.inl k)) (fun k => I.ok.has _ (.inr k))
  refine comp_free rfl hs (closure_ok hfree) ok.kind (fun y hy e => by rw [ok.uniq y hy, e]) (thn (hi.run pins s σ H _ I h) fun xv s1 hx => thn hx fun itv s2 h2 => ?_)
  obtain ⟨it, fp, tn, J, H2, e, I2, T, st2, f2, q⟩ := h2
  subst e
  refine wpAny_newObj_type (newEnv_comp ?_) (by show 0 ≤ sizeLine; decide)
  generalize hP : s2.heap.objs.size = P
  have hPn : H2 P = none := I2.hok.fresh (Nat.le_of_eq hP)
  obtain ⟨W, ⟨m0, w0⟩, turn⟩ := q P hPn
  generalize hs3 : ({ s2 with heap := s2.heap.push { cls := .type "list", data := .seq ([] : List Value).toArray } } : Shared) = s3
  have I3 : Inv X pins σ (upd H2 P (.lst [])) s3 := by
    rw [← hs3]
    exact I2.laid (t' := s2.toks) (fun b o e => Heap.get?_push_of_some _ e) (Nat.le_of_eq hP) ⟨Nat.zero_le _, [], 0, .nil, by rw [← hP]; exact Heap.get?_push_size _ rfl⟩
  have h3 : s3.heap = s2.heap.push { cls := .type "list", data := .seq ([] : List Value).toArray } := by rw [← hs3]
  have sz : ∀ b ∈ fp, b < s2.heap.objs.size := fun b hb => (T.obj _ _ st2 b hb).elim fun o e => Heap.lt_size e.1
  have f3 : ∀ b ∈ fp, FpOk X pins (upd H2 P (.lst [])) b ∧ b < s3.heap.objs.size := fun b hb => by
    have l := sz b hb
    exact ⟨⟨by rw [upd_ne (by rw [← hP]; exact Nat.ne_of_lt l)]; exact (f2 b hb).1, (f2 b hb).2⟩, by rw [h3, Heap.size_push]; exact Nat.lt_succ_of_lt l⟩
  have st3 : tn 0 s3.heap := T.keep _ _ _ st2 fun b _ o e => by rw [h3]; exact Heap.get?_push_of_some _ e
  have I4' := (block_start I3 ok hN f3).wish (XEL (X.blk s3 (upd H2 P (.lst [])) scope (compEnvC scope (cellsFrom (s3.heap.objs.size + 1) scope.names (cloFrom X.env.cells scope.names [])) s3.heap.objs.size X.env) fp) D.locals E)
  have pg := hg s3 (upd H2 P (.lst [])) s3.heap.objs.size (cellsFrom (s3.heap.objs.size + 1) scope.names (cloFrom X.env.cells scope.names [])) fp
  have pt := ht s3 (upd H2 P (.lst [])) s3.heap.objs.size (cellsFrom (s3.heap.objs.size + 1) scope.names (cloFrom X.env.cells scope.names [])) fp
  have pe := he s3 (upd H2 P (.lst [])) s3.heap.objs.size (cellsFrom (s3.heap.objs.size + 1) scope.names (cloFrom X.env.cells scope.names [])) fp
  show codeAny _ _ (.compStart (.ListComp elt [⟨tg, iter, ifs, 0⟩] scope pos) 0 (.ref it) (.ref P) (compEnvC scope (cellsFrom (s3.heap.objs.size + 1) scope.names (cloFrom X.env.cells scope.names [])) s3.heap.objs.size X.env)) (compEnd (model X.prog X.w) X.A X.xe (EP X pins σ Q) (.ref P) s3.heap.objs.size X.env.frame)
    { s3 with heap := pushCells (s3.heap.push { cls := .type "dict", data := .dict #[] }) scope.names }
  generalize hce : compEnvC scope (cellsFrom (s3.heap.objs.size + 1) scope.names (cloFrom X.env.cells scope.names [])) s3.heap.objs.size X.env = ce at I4' pg pt pe ⊢
  have cL : ce.locals = s3.heap.objs.size := by subst hce; rfl
  have cF : ce.frame = X.env.frame := by subst hce; rfl
  have nfp : ∀ b ∈ fp, (upd H2 P (.lst [])) b = none := fun b hb => (f3 b hb).1.1
  generalize hH3 : upd H2 P (.lst []) = H3 at I3 I4' pg pt pe w0 nfp f3
  generalize hs4 : ({ s3 with heap := pushCells (s3.heap.push { cls := .type "dict", data := .dict #[] }) scope.names } : Shared) = s4 at I4' ⊢
  have st4 : tn 0 s4.heap := T.keep _ _ _ st3 fun b _ o e => by rw [← hs4]; exact pushCells_keeps _ _ _ _ (Heap.get?_push_of_some _ e)
  -- what comes out
  have outE : ∀ e s', XEL (X.blk s3 H3 scope ce fp) D.locals E e s' → notedBy (model X.prog X.w) X.A ce (fun e s' => compEnd (model X.prog X.w) X.A X.xe (EP X pins σ Q) (.ref P) s3.heap.objs.size X.env.frame (.error e) s') e s' := fun e s' x => by
    have z := out_of (Q := EP X pins σ Q) (acc := .ref P) air tk I3 (fun b hb => (f3 b hb).1) cL cF I3.ok.frames e s' x
    rw [cL, cF] at z
    exact z
  have stat : ∀ {σ' : L2.St} {H' : Hp} {s' : Shared}, Inv (blkX X s3 H3 scope ce fp D.locals E) [] σ' H' s' → (∀ b ∈ fp, H' b = none) → ∀ b ∈ fp, FpOk (blkX X s3 H3 scope ce fp D.locals E) [] H' b := fun {σ' H' s'} J' hn b hb =>
    ⟨hn b hb, (J'.ok.exf b hb).1, J'.ok.exfs b hb, .inl hb, fun x c e => (J'.ok.exf b hb).2 x c e, fun p hp => absurd (show p ∈ ([] : List (Addr × Obj)) ++ [] from hp) (by simp)⟩
  have loop : codeAny (model X.prog X.w) X.A (.compLoop (.ListComp elt [⟨tg, iter, ifs, 0⟩] scope pos) 0 (.ref it) (.ref P) ce) (compEnd (model X.prog X.w) X.A X.xe (EP X pins σ Q) (.ref P) s3.heap.objs.size X.env.frame) s4 := by
    refine compLoop_any (fun n s' => ∃ i H', Inv (blkX X s3 H3 scope ce fp D.locals E) [] (wipe σ (own.map (·.2))) H' s' ∧ tn i s'.heap ∧ (∀ b ∈ fp, H' b = none) ∧ W i n H') ?_ m0 ⟨0, H3, I4', st4, nfp, w0⟩
    rintro n s5 ⟨i, H5, I5, st5, n5, w5⟩
    rcases turn i n H5 w5 with ⟨stop, qq⟩ | ⟨go, Nx, hNx, step⟩
    · refine thnF (T.done (blkX X s3 H3 scope ce fp D.locals E) rfl rfl rfl hc i [] s5 _ H5 (fun _ _ => False) I5 (stat I5 n5) st5 stop) fun r s6 ⟨hr, I6⟩ => ?_
      subst hr
      have I7 : Inv X pins σ H5 s6 := I3.call' (ch := fp) I6.os I6.base I6.hok I6.bare fun b hb => ⟨(f3 b hb).1.2.2.2.1, (f3 b hb).1.2.1, (f3 b hb).1.2.2.2.2.1, (f3 b hb).1.2.2.2.2.2⟩
      have nC : H5 s3.heap.objs.size = none := cL ▸ (show H5 ce.locals = none from I6.free)
      obtain ⟨m, hn, _⟩ := I6.loc
      have hn : s6.heap.Ns s3.heap.objs.size m := cL ▸ (show s6.heap.Ns ce.locals m from hn)
      obtain ⟨g0, g1, _, g3, g4, g5⟩ := I3.fpOk (Nat.le_refl _) nC
      exact ⟨m, hn, fun h'' sb => ⟨.ref P, H5, I7.turned (t' := s6.toks) (fun b o hb e => (sb.2 b hb).trans e) g0 g1 g3 g4 g5, rfl, qq⟩⟩
    · refine thnF (T.item (blkX X s3 H3 scope ce fp D.locals E) rfl rfl rfl hc i [] s5 _ H5 (fun _ _ => False) I5 (stat I5 n5) st5 go) fun r s6 ⟨u, hr, h6⟩ => ?_
      subst hr
      refine thnF h6 fun _ s7 ⟨x, H7, I7, r7, y7, st7, n7⟩ => ?_
      have I7' := I7.pinned (stat I7 n7) (T.obj _ _ st7)
      refine thA (pg.run _ s7 _ H7 x u _ I7' r7 (step x H7 y7)) (fun _ s8 ⟨σ8, H8, I8, hw8, q8⟩ => ?_) outE
      refine thA (pt.run _ s8 σ8 H8 _ I8 q8) (fun b s9 ⟨H9, I9, q9⟩ => ?_) outE
      have fin : ∀ {s' : Shared} {H' : Hp}, Inv (blkX X s3 H3 scope ce fp D.locals E) ([] ++ pinsAt fp s7.heap) σ8 H' s' → Nx H' → ∃ m, m < n ∧ ∃ i H', Inv (blkX X s3 H3 scope ce fp D.locals E) [] (wipe σ (own.map (·.2))) H' s' ∧ tn i s'.heap ∧ (∀ b ∈ fp, H' b = none) ∧ W i m H' := fun {s' H'} J' nx => by
        obtain ⟨m', hm, w'⟩ := hNx H' nx
        have pin' : ∀ b ∈ fp, ∀ o, s7.heap.get? b = some o → s'.heap.get? b = some o ∧ H' b = none := fun b hb o e =>
          have z := J'.pin (b, o) (List.mem_append_right _ (List.mem_append_right _ (mem_pinsAt hb e)))
          ⟨z.1, z.2.1⟩
        refine ⟨m', hm, i + 1, H', (J'.unpinned (pins := [])).weak (by rw [← hw8, wipe_length]) (fun j v e => ?_), T.keep _ _ _ st7 fun b hb o e => (pin' b hb o e).1, fun b hb => (T.obj _ _ st7 b hb).elim fun o e => (pin' b hb o e.1).2, w'⟩
        rw [← hw8] at e
        exact (wipe_some e).1
      cases b with
      | false =>
        simp only [Bool.false_eq_true, if_false] at q9 ⊢
        exact fin I9 q9
      | true =>
        simp only [if_true] at q9 ⊢
        refine thA (pe.run _ s9 σ8 H9 _ I9 q9) (fun z s10 ⟨yv, H10, I10, r10, acc, hD10, hz10, nx⟩ => ?_) outE
        exact app_ok (X := blkX X s3 H3 scope ce fp D.locals E) I10 hD10 hz10 r10 fun s11 I11 => fin I11 nx
  exact codeAny_compStart_list loop (T.self X.A 0 _ _ _ st4 loop)
end
end HX

/-! Of an own exception: its method, its class, the class's name. -/
namespace HX
open PySem PySem.Spec PyProof.Rows PySem.W
open Builtin Builtin.ObjectAttr Builtin.Getset_descriptor
theorem canon_bga : Manifest.canonical "BaseException.__getattribute__" = "object.__getattribute__" := by decide +kernel
section
variable {prog : Program} {w : World} {A : Around} {E : Value → Shared → Prop} {s : Shared} {K : Frag} {x C : Addr} {ox : Obj} {od : Option Obj} {name : Str} {R : Result → Shared → Prop}
/-- o.m, o an own exception -/
theorem exc_method {f : Addr} {pl : Sem Bool} {Q : Value × List Value → Shared → Prop} (X : K.In s.heap) (I : InstAt s.heap x ox C od) (hga : findIn K (.ref C) "__getattribute__" = some (some (.builtin "BaseException.__getattribute__"))) (hk : findIn K (.ref C) "__getattr__" = some none)
    (hf : findIn K (.ref C) name = some (some (.ref f))) (ht : typeIn K (.ref f) = some (.type "function")) (hs : shadowIn od name = some false) (h : Q (.ref f, [.ref x]) s) : wpAny (model prog w) A (getMethod (.ref x) name pl) Q E s := by
  unfold getMethod specialOf
  refine wpAny_bind (wpAny_bind (I.type.here ((looks_findIn X hga).here ?_)))
  dsimp only
  rw [canon_bga, if_neg (by decide)]
  refine wpAny_bind (wpAny_bind (I.type.here ((looks_findIn X hk).here (wpAny_bind (wpAny_bind (I.type.here ((looks_findIn X hf).here (wpAny_bind ((looks_typeIn X ht).here ?_)))))))))
  rw [if_neg (by decide +kernel)]
  refine wpAny_bind (wpAny_loadPart I.at_ ?_)
  have hd := I.dict
  cases e : ox.dict with
  | none => exact wpAny_bind (wpAny_rule (wpAny_pure h))
  | some dx =>
    cases od with
    | none => rw [e] at hd; exact hd.elim
    | some o =>
      rw [e] at hd
      obtain ⟨r, a, b⟩ := Option.map_eq_some_iff.mp hs
      refine wpAny_bind (wpAny_bind (wpAny_loadPart hd ?_))
      rw [nsLook_of a]
      refine wpAny_pure ?_
      rw [b]
      exact wpAny_bind (wpAny_rule (wpAny_pure h))
/-- o.__class__ -/
theorem exc_class {gt : Option Value} {expr : Bool} {Q : Value → Shared → Prop} (X : K.In s.heap) (I : InstAt s.heap x ox C od) (hga : findIn K (.ref C) "__getattribute__" = some (some (.builtin "BaseException.__getattribute__"))) (hgt : findIn K (.ref C) "__getattr__" = some gt)
    (hsub : subIn K (.ref C) (.type "BaseException") = some true) (hf : findObj K C od "__class__" = some (.bind (.builtin "getset_descriptor.__get__") (.builtin "object.__class__"))) (hm : mroIn K C (.type "object") = some true)
    (h : Q (.ref C) { s with toks := s.toks + 1 }) : wpAny (model prog w) A (getAttr (.ref x) "__class__" expr) Q E s := by
  obtain ⟨hp, g, d, t, os⟩ := s
  have L0 := I.type (M := model prog w)
  have L1 := looks_findIn (M := model prog w) X hga
  have L2 := looks_findIn (M := model prog w) X hgt
  have L3 := looks_find (M := model prog w) X I hf
  have sb : Looks (model prog w) hp (isInstance (.ref x) (.type "BaseException")) true := L0.andThen (looks_subIn X hsub)
  have y0 : (expr && onTheHeap (Value.builtin "BaseException.__getattribute__")) = false := by cases expr <;> rfl
  have y1 : (onTheHeap (Value.ref C) && Value.builtin "BaseException.__getattribute__" == Value.builtin "object.__getattribute__") = false := by rw [show (Value.builtin "BaseException.__getattribute__" == Value.builtin "object.__getattribute__") = false by decide +kernel]; rfl
  unfold getAttr getAttrBy
  refine wpAny_bind (wpAny_mkText (wpAny_holding (wpAny_bind (L0.at (wpAny_bind (L1.at ?_))))))
  show wpAny _ _ (if (onTheHeap (Value.ref C) && Value.builtin "BaseException.__getattribute__" == Value.builtin "object.__getattribute__") = true then _ else _) _ _ _
  rw [y1, if_neg Bool.false_ne_true]
  unfold getAttrByItsOwn hookBefore
  refine wpAny_bind ?_
  rw [if_pos (show onTheHeap (Value.ref C) = true from rfl)]
  refine L2.at (wpAny_bind (wpAny_attempt (wpAny_holding ?_)))
  unfold callGetattribute
  rw [y0, if_neg Bool.false_ne_true]
  unfold boundAndCalled
  rw [PySem.F.excAttr_ValueError.ga.bind (.ref x)]
  refine wpAny_bind (wpAny_pure ?_)
  show wpAny _ _ (call (.builtin "BaseException.__getattribute__") [.ref x, .str "__class__" t]) _ _ _
  refine wpAny_call (codeAny_call_builtin PySem.F.excAttr_ValueError.ga.plain PySem.F.entry_bexc_ga ?_)
  refine @PySem.W.check_slot (model prog w) _ _ ⟨hp, g, d, t + 1, os⟩ "BaseException.__getattribute__" "BaseException" "__getattribute__" (.ref x) [.str "__class__" t] [] _ (by decide +kernel) (by decide +kernel) sb (PySem.F.args_bexc_ga (.ref x) (.str "__class__" t)) ?_
  unfold Builtin.«object.__getattribute__»
  refine wpAny_bind (wpAny_of_eq (a := ((Value.ref x : Value), [Value.str "__class__" t])) (by first | rfl | (simp only [slotArgs]; rfl)) ?_)
  refine wpAny_bind (wpAny_pure (wpAny_bind (L0.at (wpAny_bind (L3.at (wpAny_bind (wpAny_holding (wpAny_call (class_get (s := ⟨hp, g, d, t + 1, os⟩) (ox := ox) (od := od) X I hm ?_)))))))))
  refine wpAny_pure ?_
  show wpAny _ _ (handedOut (.ref C)) _ _ _
  rw [handedOut_of (show handedIn (.ref C) = true from rfl)]
  first | exact wpAny_pure h | exact wpAny_pure (wpAny_pure h)
/-- C.__name__, C an own class, by its descriptor -/
theorem name_get {tp v : Value} {oc : Obj} (X : K.In s.heap) (ty : typeIn K (.ref C) = some (.type "type")) (hl : K.lookup C = some oc) (hv : (oc.slots[2]?).join = some v) (h : R (.ok (.ret v)) s) :
    codeAny (model prog w) A (.call (.builtin "getset_descriptor.__get__") ⟨[.builtin "type.__name__", .ref C, tp], []⟩) R s := by
  have hC := X _ _ hl
  obtain ⟨hh, g, dr, t, os⟩ := s
  have L0 : Looks (model prog w) hh (typeOf (.ref C)) (.type "type") := looks_typeIn X ty
  have L1 : Looks (model prog w) hh (isSubtype (.type "type") (.type "type")) true := Looks.of_pure (by rw [isSubtype_type]; kernel_rfl)
  refine codeAny_call_builtin KF.slot_gs.plain KF.entry_gs (KF.slot_gs.check _ _ _ _ _ _ _ _ ktyn_type (KF.args_gs _ _ _) ?_)
  unfold Builtin.«getset_descriptor.__get__» descrGet
  rw [dga_obj]
  refine wpAny_bind (wpAny_pure ?_)
  unfold descrGetter descrCheckInstance descrNameAndClass isInstance
  simp only [ktyn_owner]
  repeat lk
  refine ⟨Code.quiet_builtin _ (by decide +kernel), codeAny_builtin ktyn_entry ?_⟩
  unfold Builtin.«type.__name__»
  dsimp only
  unfold Builtin.keptObject slotAt
  refine wpAny_bind (wpAny_bind (wpAny_loadPart hC (wpAny_pure ?_)))
  rw [hv]
  first | exact wpAny_pure h | exact wpAny_bind (wpAny_pure h) | exact wpAny_pure (wpAny_pure h)
theorem name_attr {v : Value} {oc : Obj} {expr : Bool} {Q : Value → Shared → Prop} (X : K.In s.heap) (hr : readsIn K C (.type "type") = true) (e : findCls K (.ref C) (.type "type") "__name__" = some (.get (.builtin "getset_descriptor.__get__") (.builtin "type.__name__") (.ref C) (.type "type")))
    (ty : typeIn K (.ref C) = some (.type "type")) (hl : K.lookup C = some oc) (hv : (oc.slots[2]?).join = some v) (hh : handedIn v = true) (h : Q v { s with toks := s.toks + 1 }) : wpAny (model prog w) A (getAttr (.ref C) "__name__" expr) Q E s :=
  cls_bind X hr e (wpAny_call (name_get (s := { s with toks := s.toks + 1 }) X ty hl hv (handed_on hh h)))
end
end HX

/-! class_name() of an own exception, called where it is handled. -/
namespace HX
open PySem PySem.Spec PyProof.Rows L2
/-- as cxOf, calm or not -/
def cxB (b : Bool) (CX : CXT) (P : Program) (w : World) (K : PySem.W.Frag) (mg : Str → Option Value) (base : Heap) (N : List Str) (qual : Str) (scope : Scope) (f : Addr) (cd : Value) (A : Around) (outer : List Env) (s : Shared) (H : Hp) (E : XK) : Cx :=
  { cxOf CX P w K mg base N qual scope f cd A outer s H E with calm := b }
section
variable {b : Bool} {CX : CXT} {P : Program} {w : World} {K : PySem.W.Frag} {mg : Str → Option Value} {base : Heap} {N ps : List Str} {qual name : Str} {scope : Scope} {f : Addr} {cdv : Value} {A : Around} {outer : List Env} {s s1 : Shared} {H : Hp} {E : XK} {us : List Value} {vs : List V} {Q : VK}
theorem inv_B (S : FnScope N ps scope) (hh : b = true → A.handled = none) (e0 : Env0 P w K mg base A outer s H) (hl : vs.length = ps.length) (r : Vals vs us)
    (x : InCallC s s.heap.objs.size (bindL (envOfC qual scope s.heap.objs.size f cdv).kindOf (ps.zip us) fun _ => none) (cellsFrom (s.heap.objs.size + 1) scope.names []) (bindC (envOfC qual scope s.heap.objs.size f cdv).kindOf (ps.zip us) fun _ => none) s1) :
    Inv (cxB b CX P w K mg base N qual scope f cdv A outer s H E) [] (L2.start N vs) H s1 := by
  have I := inv_start (A := { A with handled := none }) (CX := CX) (E := E) S rfl ⟨e0.frames, e0.mod, e0.bs, e0.bsz, e0.funs, e0.frf, e0.hok, e0.bare⟩ hl r x
  exact ⟨⟨I.ok.mod, I.ok.kind, I.ok.glob, I.ok.blt, I.ok.above, I.ok.inj, I.ok.has, I.ok.cab, hh, Around.frames_deeper e0.frames, I.ok.stk, I.ok.exf, I.ok.bs, I.ok.bsz, I.ok.noex, I.ok.exfs, I.ok.funs, I.ok.frf⟩,
    I.os, I.bare, I.base, I.loc, I.cell, I.free, I.freeC, I.pin, I.hok, I.len⟩
/-- a def's call at A -/
theorem run_B {params : Arguments} {body : List Stmt} {dV kV doc pm ct oc : Value} {an od : Option Addr} {osl : Array (Option Value)} {args : Args} {t : TS}
    (lk : K.lookup f = some ⟨oc, od, .func (PySem.W.fnOf name qual params body scope dV kV doc pm an cdv ct), osl⟩) (hcd : PySem.W.codeIn K cdv qual = true) (S : FnScope N ps scope) (hh : b = true → A.handled = none) (hdp : A.depth < recursionLimit)
    (e0 : Env0 P w K mg base A outer s H) (hb : BindsTo s (PySem.W.fnOf name qual params body scope dV kV doc pm an cdv ct) args (ps.zip us)) (hl : vs.length = ps.length) (r : Vals vs us)
    (ht : PSs (cxB b CX P w K mg base N qual scope f cdv A outer s H E) body t) (hq : t { nx := fun _ H' => Q .non H', rt := Q } (L2.start N vs) H) : codeAny (model P w) A (.call (.ref f) args) (CR CX outer P w H s Q E) s := by
  have up : ∀ b o, base.get? b = some o → s.heap.get? b = some o := fun b o e => (e0.bs b o e).1
  have Kn : K.In s.heap := e0.mod.kin.keeps up
  have nl : s.heap.NoLimit := e0.mod.nolimit.keeps up
  refine codeAny_call_function hdp (Kn _ _ lk) rfl S.co S.gen rfl (PySem.W.codeRec_of Kn hcd) (hb _ _ _ _ ?_)
  refine wpAny_newFunctionEnv_cells S.kind (fun y hy => (S.par y.1 (List.of_mem_zip (a := y.1) (b := y.2) hy).1).elim .inl fun q => .inr ⟨q, PySem.W.cellsFrom_some _ _ _ (.inl q)⟩) fun env he s1 x => ?_
  subst he
  refine ⟨nl.keeps x.toInCall.keep, codeAny_func (wpAny_mono (ht.run [] s1 (L2.start N vs) H _ (inv_B S hh e0 hl r x) hq) (fun fl s' hs => ?_) fun e s' hs => hs)⟩
  cases fl with
  | next =>
    obtain ⟨σ', H', J, q⟩ := hs
    exact ⟨V.non, H', J.os, J.bare, J.base, J.hok, rfl, q⟩
  | ret u =>
    obtain ⟨v, σ', H', J, rv, q⟩ := hs
    exact ⟨v, H', J.os, J.bare, J.base, J.hok, rv, q⟩
  | cont =>
    obtain ⟨_, _, _, q⟩ := hs
    exact q.elim
  | brk =>
    obtain ⟨_, _, _, q⟩ := hs
    exact q.elim
end
/-- an exception class: its class_name at fN, its name -/
structure ExN (K : PySem.W.Frag) (C fN : Addr) (nm : Str) : Prop where
  ga : PySem.W.findIn K (.ref C) "__getattribute__" = some (some (.builtin "BaseException.__getattribute__"))
  gg : PySem.W.findIn K (.ref C) "__getattr__" = some none
  mth : PySem.W.findIn K (.ref C) "class_name" = some (some (.ref fN))
  tyN : PySem.W.typeIn K (.ref fN) = some (.type "function")
  kpN : PySem.W.keepIn K (.ref fN) = true
  exC : PySem.W.subIn K (.ref C) (.type "BaseException") = some true
  cls : (PySem.W.clsIn K C).isSome = true
  at_ : PySem.W.findIn K (.ref C) "__class__" = some (some (.builtin "object.__class__"))
  sp : PySem.W.specialIn K (.builtin "object.__class__") "__get__" = some (some (.builtin "getset_descriptor.__get__"))
  tk : PySem.W.takesIn K (.builtin "object.__class__") = some true
  mro : PySem.W.mroIn K C (.type "object") = some true
  rd : PySem.W.readsIn K C (.type "type") = true
  fc : PySem.W.findCls K (.ref C) (.type "type") "__name__" = some (.get (.builtin "getset_descriptor.__get__") (.builtin "type.__name__") (.ref C) (.type "type"))
  ty : PySem.W.typeIn K (.ref C) = some (.type "type")
  lk : ∃ oc tk, K.lookup C = some oc ∧ (oc.slots[2]?).join = some (.str nm tk)
/-- the exception at a, its dict -/
def ExAt (oe : Obj) (C : Addr) (H : Hp) : Prop := oe.cls = .ref C ∧ (∃ vs, oe.data = .fields vs) ∧ (oe.dict = none ∨ ∃ dd fs, oe.dict = some dd ∧ H dd = some (.xd fs) ∧ fs.lookup ("class_name" : Str) = none)
theorem ExAt.inst {X : Cx} {pins : List (Addr × Obj)} {σ : L2.St} {H : Hp} {s : Shared} {a C : Addr} {oe : Obj} (x : ExAt oe C H) (I : Inv X pins σ H s) (ha : s.heap.get? a = some oe) : ∃ od, PySem.W.InstAt s.heap a oe C od ∧ PySem.W.shadowIn od "class_name" = some false := by
  obtain ⟨h1, ⟨vs, hd⟩, h3⟩ := x
  have no : PySem.W.notCls oe = true := by unfold PySem.W.notCls; rw [hd] <;> rfl
  rcases h3 with e | ⟨dd, fs, e, hdd, hl⟩
  · exact ⟨none, ⟨ha, h1, no, by rw [e]; trivial⟩, rfl⟩
  · obtain ⟨mA, hns, hr⟩ : ObjOk X.prog X.w H s.heap dd (.xd fs) := I.hok dd _ hdd
    obtain ⟨od, ho, hlk⟩ := lookIn_ns hns
    have hn : mA "class_name" = none := RelO.none_of (by rw [← hl]; exact hr _)
    exact ⟨some od, ⟨ha, h1, no, by rw [e]; exact ho⟩, by show (PySem.W.lookIn "class_name" (some od).get!).map (·.isSome) = some false; show (PySem.W.lookIn "class_name" od).map (·.isSome) = some false; rw [hlk, hn]; rfl⟩
section
variable {X : Cx} {C fN : Addr} {nm : Str} {pos : Pos} {e : Expr} {te : TE}
/-- e.__class__.__name__, e an exception that stood at the def's start -/
def tCn (X : Cx) (S : Addr → Str → Prop) (te : TE) : TE := fun σ H Q => te σ H fun x H1 => ∃ a oe C nm, x = .ref a ∧ X.s_0.heap.get? a = some oe ∧ X.H_0 a = none ∧ a ∉ X.fs ∧ a ∉ X.ex ∧ S C nm ∧ ExAt oe C H1 ∧ Q (.str nm) H1
theorem pe_cn {S : Addr → Str → Prop} {p2 p3 : Pos} (N : ∀ C nm, S C nm → ∃ fN, ExN X.K C fN nm) (he : PE X e te) (hb : attributeBase e "__class__" X.env (eval e X.env) = eval e X.env := by rfl)
    (hb2 : attributeBase (.Attribute e "__class__" p2) "__name__" X.env (eval (.Attribute e "__class__" p2) X.env) = eval (.Attribute e "__class__" p2) X.env := by rfl) : PE X (.Attribute (.Attribute e "__class__" p2) "__name__" p3) (tCn X S te) := by
  refine ⟨fun pins s σ H Q I h => attr_of hb2 (attr_of hb (thn (he.run pins s σ H _ I h) fun u s1 hh => ?_))⟩
  obtain ⟨x, H1, I1, rx, a, oe, C, nm, ex, ha, hn, hf, hx, hS, hE, q⟩ := hh
  subst ex
  obtain rfl : u = Value.ref a := rx
  obtain ⟨fN, N⟩ := N C nm hS
  have ha1 : s1.heap.get? a = some oe := I1.base.keep a oe ha hn hf hx
  obtain ⟨od, J, _⟩ := hE.inst I1 ha1
  obtain ⟨oc, tk, hl, hv⟩ := N.lk
  refine exc_class I1.kIn J N.ga N.gg N.exC (PySem.W.findObj_dataE N.cls N.at_ N.sp N.tk) N.mro ?_
  exact name_attr (s := { s1 with toks := s1.toks + 1 }) I1.kIn N.rd N.fc N.ty hl hv rfl ⟨.str nm, H1, (I1.tok _).tok _, ⟨_, rfl⟩, q⟩
end
/-- the def class_name: its slots, its body -/
structure CnDef (K : PySem.W.Frag) (st : Stmt) (fN : Addr) : Prop where
  fn : ∃ fd, Fun K "class_name" "TimeError.class_name" st fN fd
  sc : FnScope ["self"] ["self"] (defScope st)
  bd : ∀ (kV doc pm : Value) (an : Option Addr) (cdv ct : Value) (us : List Value), us.length = 1 → bindArgs (PySem.W.fnOf "class_name" "TimeError.class_name" (defArgs st) (defBody st) (defScope st) .none kV doc pm an cdv ct) ⟨us, []⟩ = pure ((["self"] : List Str).zip us)
  by_ : ∃ (p1 p2 p3 p4 p5 p6 : Pos), defBody st = [.Return (some (.JoinedStr [.FormattedValue (.Attribute (.Attribute (.Name "self" p1) "__class__" p2) "__name__" p3) (-1) none p4] p5)) p6]
section
variable {P : Program} {w : World} {K : PySem.W.Frag} {mg : Str → Option Value} {base : Heap}
theorem cn_run {st : Stmt} {fN : Addr} {S : Addr → Str → Prop} (D : CnDef K st fN) (N : ∀ C nm, S C nm → ∃ fN, ExN K C fN nm) {A : Around} {outer : List Env} {s : Shared} {H : Hp} {a C : Addr} {oe : Obj} {nm : Str} {Q : VK} (hdp : A.depth < recursionLimit) (e0 : Env0 P w K mg base A outer s H)
    (ha : s.heap.get? a = some oe) (hn : H a = none) (hf : a ∉ frs outer) (hS : S C nm) (hE : ExAt oe C H) (hz : nm.length ≤ sizeLine) (q : Q (.str nm) H) :
    codeAny (model P w) A (.call (.ref fN) ⟨[.ref a], []⟩) (CR (L2.CX P w) outer P w H s Q (fun _ _ _ => False)) s := by
  obtain ⟨⟨fd, F⟩, sc, bd, p1, p2, p3, p4, p5, p6, hby⟩ := D
  have bb := (F.binds (ps := ["self"]) fun kV doc pm an cdv ct us hl => bd kV doc pm an cdv ct us hl) s [.ref a] (e0.mod.kin.keeps fun b o e => (e0.bs b o e).1) rfl
  obtain ⟨oc, od, kV, doc, pm, an, cdv, ct, osl, rfl, lk, hcd⟩ := F.ex
  have hv : (defScope st).names.lookup ("self" : Str) = some .local ∨ (defScope st).names.lookup ("self" : Str) = some .cell := sc.par "self" (by simp)
  have vs : Vis (defScope st) "self" := hv.elim .inl fun z => .inr (.inl z)
  refine run_B (b := false) (vs := [.ref a]) lk hcd sc (fun z => by cases z) hdp e0 bb rfl (.cons rfl .nil) (t := tRet (tFmt (tCn (cxB false (L2.CX P w) P w K mg base ["self"] "TimeError.class_name" (defScope st) fN cdv A outer s H (fun _ _ _ => False)) S (tVar 0)))) ?_ ?_
  · rw [hby]
    exact pss_one (ps_ret (pe_fs1 (pe_fmt (pe_cn N (pe_var (i := 0) rfl vs)))))
  · exact ⟨.ref a, rfl, a, oe, C, nm, rfl, ha, hn, hf, (by show a ∉ ([] : List Addr); simp), hS, hE, .inl ⟨nm, rfl, hz, q⟩⟩
/-- e.class_name(), e the exception that the suite holds -/
def tCnC (S : Addr → Str → Prop) (a : Addr) (cls : Value) (d : Option Addr) (te : TE) : TE := fun σ H Q => te σ H fun x H1 => x = .ref a ∧ ∃ C nm, cls = .ref C ∧ S C nm ∧ nm.length ≤ sizeLine ∧ (d = none ∨ ∃ dd fs, d = some dd ∧ H1 dd = some (.xd fs) ∧ fs.lookup ("class_name" : Str) = none) ∧ Q (.str nm) H1
theorem pe_cnC {X : Cx} {a fN : Addr} {oe : Obj} {cls : Value} {d : Option Addr} {pn : List (Addr × Obj)} {e : Expr} {te : TE} {pos apos : Pos} {st : Stmt} {S : Addr → Str → Prop} {pl : Sem Bool} (D : CnDef X.K st fN) (N : ∀ C nm, S C nm → ExN X.K C fN nm) (hs : X.stack = X.env :: X.outer) (hfr : X.env.frame = some X.env.locals)
    (hz : Zc cls d oe) (hf : ∃ vs, oe.data = .fields vs) (hdp : X.A.depth < recursionLimit) (he : PE (X.suite a ((a, oe) :: pn)) e te)
    (ht : eval (.Call (.Attribute e "class_name" apos) [] [] pos) X.env = (do
      let ov ← eval e X.env
      standAt apos.atName
      let (f, first) ← holding [ov] (getMethod ov "class_name" pl)
      callWith pos f first (backTo pos (starEach [] X.env)) (backToKw pos (keywordEach [] X.env))) := by rfl) : PE (X.suite a ((a, oe) :: pn)) (.Call (.Attribute e "class_name" apos) [] [] pos) (tCnC S a cls d te) := by
  refine ⟨fun pins s σ H Q I h => ?_⟩
  refine PySem.W.methodCall_KW (pl := pl) (thn (he.run pins s σ H _ I h) fun u s1 ⟨x, H1, I1, rx, ex, C, nm, ec, hS, hlen, hd, q⟩ => ?_) ht
  subst ex
  obtain rfl : u = Value.ref a := rx
  have pin := I1.pin (a, oe) (List.mem_append_left _ List.mem_cons_self)
  have hE : ExAt oe C H1 := ⟨by rw [← ec]; exact hz.1, hf, hd.elim (fun z => .inl (hz.2.trans z)) fun ⟨dd, fs, e1, e2, e3⟩ => .inr ⟨dd, fs, hz.2.trans e1, e2, e3⟩⟩
  obtain ⟨od, J, hsh⟩ := hE.inst I1 pin.1
  have n := N C nm hS
  refine exc_method I1.kIn J n.ga n.gg n.mth n.tyN hsh ?_
  refine PySem.W.callWith_K0 (first := [.ref a]) I1.kIn n.kpN ?_
  have hfr' : a ∉ frs X.stack := fun hm => by
    rw [hs] at hm
    unfold frs at hm
    rw [List.filterMap_cons, hfr] at hm
    rcases List.mem_cons.mp hm with z | z
    · exact pin.2.2.1 z
    · exact pin.2.2.2.1 z
  refine wpAny_call (codeAny_mono (cn_run (mg := X.mg) (base := X.base) D (fun C nm h => ⟨fN, N C nm h⟩) hdp I1.env0 pin.1 pin.2.1 hfr' hS hE hlen q) fun r s' hq => ?_)
  cases r with
  | error e =>
    obtain ⟨_, _, _, _, _, _, _, _, _, _, _, _, z⟩ := hq
    exact z.elim
  | ok fl =>
    cases fl with
    | ret u => exact I1.after hq
    | cont => exact hq.elim
    | brk => exact hq.elim
    | next => exact hq.elim
end
end HX

/-! What is heard of a lambda: told or refused. -/
namespace HX
open PySem PySem.Spec PyProof.Rows L2 LamX
/-- error.f, error the exception that the suite holds (at a; its class cls, its dict d) -/
def tFld (S : Addr → Prop) (f : Str) (a : Addr) (cls : Value) (d : Option Addr) (te : TE) : TE := fun σ H Q => te σ H fun x H1 => x = .ref a ∧ ∃ C, cls = .ref C ∧ S C ∧ ∃ (dd : Addr) (fs : List (Str × V)) (v : V), d = some dd ∧ H1 dd = some (.xd fs) ∧ fs.lookup f = some v ∧ Q v H1
/-- what reading a field off an exception wants of its class -/
structure FdN (K : PySem.W.Frag) (C : Addr) (f : Str) : Prop where
  ga : PySem.W.findIn K (.ref C) "__getattribute__" = some (some (.builtin "BaseException.__getattribute__"))
  gg : PySem.W.findIn K (.ref C) "__getattr__" = some none
  exC : PySem.W.subIn K (.ref C) (.type "BaseException") = some true
  hd : PySem.W.hasDictIn K C = true
  no : PySem.W.findIn K (.ref C) f = some none
theorem pe_fld {X : Cx} {a : Addr} {oe : Obj} {cls : Value} {d : Option Addr} {pn : List (Addr × Obj)} {e : Expr} {te : TE} {pos : Pos} {f : Str} {S : Addr → Prop} (N : ∀ C, S C → FdN X.K C f) (hz : Zc cls d oe) (hf : ∃ vs, oe.data = .fields vs)
    (he : PE (X.suite a ((a, oe) :: pn)) e te) (hb : attributeBase e f X.env (eval e X.env) = eval e X.env := by rfl) : PE (X.suite a ((a, oe) :: pn)) (.Attribute e f pos) (tFld S f a cls d te) := by
  refine ⟨fun pins s σ H Q I h => attr_of hb (thn (he.run pins s σ H _ I h) fun u s1 hh => ?_)⟩
  obtain ⟨x, H1, I1, rx, ex, C, ec, hS, dd, fs, v, ed, ea, l, q⟩ := hh
  subst ex
  obtain rfl : u = Value.ref a := rx
  subst ec
  subst ed
  have n := N C hS
  obtain ⟨vs, hd⟩ := hf
  obtain ⟨mA, hns, hr⟩ : ObjOk X.prog X.w H1 s1.heap dd (.xd fs) := I1.hok dd _ ea
  obtain ⟨od, ho, hl⟩ := lookIn_ns hns
  obtain ⟨u, hu, ru⟩ := RelO.some_of (v := v) (o := mA f) (by rw [← l]; exact hr f)
  have J : PySem.W.InstAt s1.heap a oe C (some od) := ⟨(I1.pin (a, oe) (List.mem_append_left _ List.mem_cons_self)).1, hz.1, by unfold PySem.W.notCls; rw [hd] <;> rfl, by rw [hz.2]; exact ho⟩
  exact HandSPX.exc_get I1.kIn J n.ga n.gg n.exC (PySem.W.findObj_own n.hd n.no rfl (by rw [hl, hu])) (handed_of ru) ⟨v, H1, I1.tok _, ru, q⟩
/-- what is heard: ("told", value), or ("refused", class, what) -/
def THeard (K : PySem.W.Frag) (CT : Addr) (S : Addr → Str → Prop) : (XK → Hp → VK → Prop) → Hp → VK → Prop := fun tl H Q =>
  tl (fun cls d H' => ∃ C nm, cls = .ref C ∧ S C nm ∧ nm.length ≤ sizeLine ∧ PySem.W.exmOne K cls (.ref CT) = some true ∧ (d = none ∨ ∃ dd fs, d = some dd ∧ H' dd = some (.xd fs) ∧ fs.lookup ("class_name" : Str) = none) ∧
      (nm ≠ "TooLarge" → ∀ p, H' p = none → Q (.ref p) (upd H' p (.tup [.str "refused", .str nm, .non]))) ∧
      (nm = "TooLarge" → ∃ dd fs v, d = some dd ∧ H' dd = some (.xd fs) ∧ fs.lookup ("what" : Str) = some v ∧ ∀ p, H' p = none → Q (.ref p) (upd H' p (.tup [.str "refused", .str nm, v])))) H
    (fun v H1 => [V.str "told", v].length ≤ sizeLine ∧ ∀ p, H1 p = none → Q (.ref p) (upd H1 p (.tup [.str "told", v])))
theorem takes_len {Y : Cx} {W : WX} (t : Takes Y W) : Takes Y (fun cls d σ H => σ.length = Y.N.length → W cls d σ H) := fun u s' ⟨a, B, sI, pins, σ, H, cls, d, e, I, nb, up, sky, na, os, ag, w⟩ => t u s' ⟨a, B, sI, pins, σ, H, cls, d, e, I, nb, up, sky, na, os, ag, w I.len⟩
/-- o.m() by getMethod -/
def MCall (e : Expr) (m : Str) (apos pos : Pos) (pl : Env → Sem Bool) : Prop := ∀ env, eval (.Call (.Attribute e m apos) [] [] pos) env = (do
  let ov ← eval e env
  standAt apos.atName
  let (f, first) ← holding [ov] (getMethod ov m (pl env))
  callWith pos f first (backTo pos (starEach [] env)) (backToKw pos (keywordEach [] env)))
abbrev nHd : List Str := ["act", "error"]
theorem heard_gives {X : Cx} {x q : Str} {sg : Scope} {g CT fN : Addr} {cdg : Value} {st : Stmt} {S : Addr → Str → Prop} {j1 j2 j3 j4 j5 j6 : Nat} {p1 p2 p3 p4 p5 p6 p7 p8 p9 p10 p11 p12 p13 p14 p15 p16 p17 p18 p19 p20 p21 p22 p23 : Pos}
    (D : CnDef X.K st fN) (N : ∀ C nm, S C nm → ExN X.K C fN nm) (NF : ∀ C, S C "TooLarge" → FdN X.K C "what") (hdp : X.A.depth + 1 < recursionLimit) {pl1 pl2 : Env → Sem Bool} (m1 : MCall (.Name "error" p8) "class_name" p9 p10 pl1) (m2 : MCall (.Name "error" p11) "class_name" p12 p13 pl2)
    (ha : sg.names.lookup ("act" : Str) = some .local) (he : sg.names.lookup ("error" : Str) = some .local) (hge : sg.names.lookup ("TimeError" : Str) = some .globalImplicit) (hme : X.mg "TimeError" = some (.ref CT)) :
    GivesTo X nHd x sg g cdg [.Try [.Return (some (.Tuple [.Constant (.str "told") j1 p1, .Call (.Name "act" p2) [] [] p3] j2 p4)) p5] [.ExceptHandler (some (.Name "TimeError" p6)) (some "error")
      [.Return (some (.Tuple [.Constant (.str "refused") j3 p7, .Call (.Attribute (.Name "error" p8) "class_name" p9) [] [] p10,
        .IfExp (.Compare (.Call (.Attribute (.Name "error" p11) "class_name" p12) [] [] p13) [.Eq] [.Constant (.str "TooLarge") j4 p14] p15) (.Attribute (.Name "error" p16) "what" p17) (.Constant .none j5 p18) p19] j6 p20)) p21] p22] [] [] p23] "act" q (THeard X.K CT S) := by
  intro f c' s H Q tl act hc h
  have hla : Vis sg "act" := .inl ha
  have hle : Vis sg "error" := .inl he
  refine ⟨_, pss_one (ps_try_as (X := (cxOf C8.CX0 X.prog X.w X.K X.mg X.base nHd x sg g cdg X.A X.stack s H C8.E0).nox) (i := 1) (c := .ref CT)
      (tb := fun W D σ H => ∃ Ech : XK, (∀ cls d σ' H', σ'.length = 2 → Ech cls d H' → W cls d σ' H') ∧ σ[0]? = some (some (.ref f)) ∧ H c' = some (CodeO c' q) ∧ tl Ech H fun v H1 => [V.str "told", v].length ≤ sizeLine ∧ ∀ p, H1 p = none → D.rt (.ref p) (upd H1 p (.tup [.str "told", v])))
      (ts := fun a cls d => tRet (tTup (tCons (tC (.str "refused")) (tCons (tCnC S a cls d (tVar 1)) (tCons (tIf (tTest (tOp rEq (tCnC S a cls d (tVar 1)) (tC (.str "TooLarge")))) (tFld (fun C => S C "TooLarge") "what" a cls d (tVar 1)) (tC .non)) tNil)))))
      (Wout := fun _ _ _ _ => False) rfl rfl (by show nHd.Nodup; decide +kernel) rfl he ⟨hge, by decide, .inl hme⟩ L2.takes0 (fun W pn xe tk _ => ?_) (fun a oe cls d pn hz hf => ?_)), ?_⟩
  · refine pss_one ⟨fun pins s' σ H' D' I h' => ?_⟩
    obtain ⟨Ech, hW, h1, h2, h3⟩ := h'
    have hp := act _ pn xe Ech p2 p3 (takes_len tk) (fun cls d σ' H' hE hl => hW cls d σ' H' hl hE)
    have hq : PS _ (.Return (some (.Tuple [.Constant (.str "told") j1 p1, .Call (.Name "act" p2) [] [] p3] j2 p4)) p5) _ := ps_ret (pe_tup (pa_cons pe_str (pa_cons hp pa_nil)))
    exact hq.run pins s' σ H' D' I ⟨h1, h2, h3⟩
  · have v1 : ∀ (p : Pos), PE ((cxOf C8.CX0 X.prog X.w X.K X.mg X.base nHd x sg g cdg X.A X.stack s H C8.E0).nox.suite a ((a, oe) :: pn)) (.Name "error" p) (tVar 1) := fun p => pe_var (i := 1) rfl hle
    have cn : ∀ (p q r : Pos) (pl : Env → Sem Bool), MCall (.Name "error" p) "class_name" q r pl → PE ((cxOf C8.CX0 X.prog X.w X.K X.mg X.base nHd x sg g cdg X.A X.stack s H C8.E0).nox.suite a ((a, oe) :: pn)) (.Call (.Attribute (.Name "error" p) "class_name" q) [] [] r) (tCnC S a cls d (tVar 1)) := fun p q r pl hm => pe_cnC (X := (cxOf C8.CX0 X.prog X.w X.K X.mg X.base nHd x sg g cdg X.A X.stack s H C8.E0).nox) D N rfl rfl hz hf hdp (v1 p) (hm _)
    exact pss_one (ps_ret (pe_tup (pa_cons pe_str (pa_cons (cn _ _ _ _ m1) (pa_cons (pe_ifExp (pt_cmpR op_eq (cn _ _ _ _ m2) pe_str (nomark _)) (pe_fld NF hz hf (v1 _)) pe_non) pa_nil)))))
  · refine ⟨_, fun cls d σ' H' hl hE => ?_, rfl, hc, h⟩
    obtain ⟨C, nm, ec, hS, hz, hm, hd, h1, h2⟩ := hE
    refine ⟨true, hm, fun _ a _ => ?_, fun z => by cases z⟩
    have s1 : (σ'.set 1 (some (V.ref a)))[1]? = some (some (.ref a)) := List.getElem?_set_self (by omega)
    have cn : ∀ Q' : VK, Q' (.str nm) H' → tCnC S a cls d (tVar 1) (σ'.set 1 (some (.ref a))) H' Q' := fun Q' q' => ⟨_, s1, rfl, C, nm, ec, hS, hz, hd, q'⟩
    dsimp only [tRet, tTup, tCons, tC, tNil, tIf, tTest, tOp]
    refine cn _ ?_
    refine cn _ ?_
    refine ⟨rfl, _, rfl, ?_⟩
    by_cases t : nm = "TooLarge"
    · obtain ⟨dd, fs, v, e1, e2, e3, e4⟩ := h2 t
      rw [if_pos (decide_eq_true (by rw [t]))]
      refine ⟨_, s1, rfl, C, ec, by rw [← t]; exact hS, dd, fs, v, e1, e2, e3, by show 3 ≤ sizeLine; decide, e4⟩
    · have nt : ¬ (decide (V.str nm = V.str "TooLarge") = true) := fun z => t (V.str.inj (of_decide_eq_true z))
      rw [if_neg nt]
      exact ⟨by show 3 ≤ sizeLine; decide, h1 t⟩
end HX

/-! The rules over the forms. -/
namespace G
open PySem PySem.Spec PyProof.Rows L2
def bltNames : List Str := ["abs", "len", "int", "str", "tuple", "list", "all", "any", "max", "min", "isinstance", "range", "enumerate", "zip", "bool", "repr", "sum", "sorted"]
/-- the names of a law's text: the defs' number and names, the globals, those defs that are called by rules of their own -/
structure Lx where
  nf : Nat
  nm : Nat → Str
  gl : List Str
  ng : List Nat
/-- what a def's body may lean on -/
structure Ctx (X : Cx) (Θ : Th) (k : Nat) (lx : Lx) : Prop where
  K : X.K = Θ.c.K
  room : Room k X.A
  calm : X.calm = true
  nd : X.N.Nodup
  fns : ∀ i, i < lx.nf → i ∉ lx.ng → ∃ fd ps, FnOk X.prog X.w X.K X.mg X.base (L2.CX X.prog X.w) k (Θ.c.fa i) fd ps (Θ.sp i) ∧ Binds X.K fd ps [] ∧ X.mg (lx.nm i) = some (.ref (Θ.c.fa i)) ∧ PySem.W.keepIn X.K (.ref (Θ.c.fa i)) = true
  blt : ∀ x, x ∈ bltNames → X.mg x = none
  gls : ∀ n x, lx.gl[n]? = some x → ∃ u, X.mg x = some u ∧ RelV (Θ.c.gv n) u
/-- what may come out of a body: E, by way of the frame at D -/
structure XT (X : Cx) (D : Addr) (E : XK) : Prop where
  air : ∃ (e : Env) (o : List Env), HX.Air X e o ∧ e.locals = D
  tk : HX.TakesL X D E
section
variable {X : Cx} {Θ : Th} {k : Nat} {lx : Lx} {E : XK} {Da : Addr}
theorem XT.ps (h : XT X Da E) : Passes (L2.CX X.prog X.w) X E := HX.passes_L h.tk
theorem Ctx.blk (C : Ctx X Θ k lx) (s : Shared) (H : Hp) (scope : Scope) (ce : Env) (fp : List Addr) : Ctx (X.blk s H scope ce fp) Θ k lx := ⟨C.K, C.room, C.calm, C.nd, C.fns, C.blt, C.gls⟩
theorem Ctx.blkX (C : Ctx X Θ k lx) (s : Shared) (H : Hp) (scope : Scope) (ce : Env) (fp : List Addr) (L : Addr) (E : XK) : Ctx (HX.blkX X s H scope ce fp L E) Θ k lx := ⟨C.K, C.room, C.calm, C.nd, C.fns, C.blt, C.gls⟩
theorem XT.blk (h : XT X Da E) (s : Shared) (H : Hp) (scope : Scope) (cl : List (Str × Addr)) (D : Addr) (fp : List Addr) : XT (HX.blkX X s H scope (compEnvC scope cl D X.env) fp Da E) Da E := by
  obtain ⟨e, o, a, rfl⟩ := h.air
  exact ⟨⟨e, o, ⟨a.stk, a.fr, a.dfr⟩, rfl⟩, HX.takesL_blk⟩
theorem Ctx.hu (C : Ctx X Θ k lx) : X.A.units + 65 < cLine := by have := C.room.un; omega
theorem Ctx.hu0 (C : Ctx X Θ k lx) : X.A.units + 64 < cLine := by have := C.room.un; omega
theorem pass00 (C : Ctx X Θ k lx) : Passes (L2.CX X.prog X.w) X E00 := passL
theorem OpR.conv {f : Value → Value → Sem Value} {r : R2} {K K' : PySem.W.Frag} (e : K = K') {o : Op2} (h : OpR X f (opR K o)) : OpR X f (opR K' o) := e ▸ h
/-! the operations' rules -/
theorem p_add (C : Ctx X Θ k lx) : OpR X (binaryOp .Add) (opR Θ.c.K .add) := C.K ▸ o_add
theorem p_sub (C : Ctx X Θ k lx) : OpR X (binaryOp .Sub) (opR Θ.c.K .sub) := C.K ▸ o_sub
theorem p_mul (C : Ctx X Θ k lx) : OpR X (binaryOp .Mult) (opR Θ.c.K .mul) := C.K ▸ o_mul
theorem p_fdv (C : Ctx X Θ k lx) : OpR X (binaryOp .FloorDiv) (opR Θ.c.K .fdv) := C.K ▸ o_fdv
theorem p_mod (C : Ctx X Θ k lx) : OpR X (binaryOp .Mod) (opR Θ.c.K .mod) := op_modN
theorem p_eq (C : Ctx X Θ k lx) : OpR X (compareOp .Eq) (opR Θ.c.K .eq) := C.K ▸ op_eqD C.hu0
theorem p_ne (C : Ctx X Θ k lx) : OpR X (compareOp .NotEq) (opR Θ.c.K .ne) := C.K ▸ op_neD C.hu0
theorem p_lt (C : Ctx X Θ k lx) : OpR X (compareOp .Lt) (opR Θ.c.K .lt) := op_lt
theorem p_le (C : Ctx X Θ k lx) : OpR X (compareOp .LtE) (opR Θ.c.K .le) := op_le
theorem p_gt (C : Ctx X Θ k lx) : OpR X (compareOp .Gt) (opR Θ.c.K .gt) := op_gt
theorem p_ge (C : Ctx X Θ k lx) : OpR X (compareOp .GtE) (opR Θ.c.K .ge) := op_ge
theorem p_is (C : Ctx X Θ k lx) : OpR X (compareOp .Is) (opR Θ.c.K .is) := op_isN
theorem p_isn (C : Ctx X Θ k lx) : OpR X (compareOp .IsNot) (opR Θ.c.K .isn) := op_notN
theorem p_inn (C : Ctx X Θ k lx) : OpR X (compareOp .In) (opR Θ.c.K .inn) := C.K ▸ op_in_seq
theorem p_nin (C : Ctx X Θ k lx) : OpR X (compareOp .NotIn) (opR Θ.c.K .nin) := C.K ▸ op_notIn_seq
theorem IxR.or {r r' : R2} (a : IxR X r) (b : IxR X r') : IxR X (rOr r r') := by
  intro value slice pins s σ H x y v u Q I rx ry h hs
  exact Or.elim h (fun h => a value slice pins s σ H x y v u Q I rx ry h hs) (fun h => b value slice pins s σ H x y v u Q I rx ry h hs)
theorem p_ix (C : Ctx X Θ k lx) : IxR X (opR Θ.c.K .ix) := C.K ▸ IxR.or ix_list (IxR.or ix_tup ix_str)
theorem p_sl (C : Ctx X Θ k lx) : L2.SlR X (slR Θ.c.K) := C.K ▸ L2.SlR.or sl_str (L2.SlR.or sl_list sl_tupA)
/-! expressions -/
variable {a b e f : Expr} {es : List Expr} {ia ib ic : Ex} {ies : Exs} {pos p apos : Pos} {x : Str}
theorem d_var (i : Nat) (hN : X.N[i]? = some x := by rfl) (hv : Vis X.env.scope x := by first | exact Or.inl rfl | exact Or.inr (Or.inl rfl) | exact Or.inr (Or.inr rfl)) (hd : (x == ("__debug__" : Str)) = false := by decide)
    (hcd : (x == ("__classdict__" : Str)) = false := by decide) : PE X (.Name x pos) (dE Θ E (.var i)) := pe_var hN hv hd hcd
theorem d_int {i : Int} {j : Nat} : PE X (.Constant (.int i) j pos) (dE Θ E (.lit (.int i))) := pe_int
theorem d_str {j : Nat} {y : Str} (h : x = y) : PE X (.Constant (.str x) j pos) (dE Θ E (.lit (.str y))) := h ▸ pe_str
theorem d_bl {i : Bool} {j : Nat} : PE X (.Constant (.bool i) j pos) (dE Θ E (.lit (.bool i))) := pe_bl
theorem d_non {j : Nat} : PE X (.Constant .none j pos) (dE Θ E (.lit .none)) := pe_non
theorem d_glb (C : Ctx X Θ k lx) (n : Nat) (hn : lx.gl[n]? = some x := by rfl) (hg : Gl X x := by rfl) (hd : (x == ("__debug__" : Str)) = false := by decide) : PE X (.Name x pos) (dE Θ E (.glb n)) := by
  obtain ⟨u, h1, h2⟩ := C.gls n x hn
  exact pe_glob hg h1 h2 hd
theorem d_op {o : Operator} {q : Op2} (ho : OpR X (binaryOp o) (opR Θ.c.K q)) (ha : PE X a (dE Θ E ia)) (hb : PE X b (dE Θ E ib)) : PE X (.BinOp a o b pos) (dE Θ E (.op2 q ia ib)) := pe_op ho ha hb
theorem d_ix (C : Ctx X Θ k lx) (ha : PE X a (dE Θ E ia)) (hb : PE X b (dE Θ E ib)) (hs : PlainIx b := by first | (intro _ _; rfl) | exact fun _ _ => rfl) : PE X (.Subscript a b pos) (dE Θ E (.op2 .ix ia ib)) := pe_ix (p_ix C) ha hb hs
theorem d_cmp {o : CmpOp} {q : Op2} (ho : OpR X (compareOp o) (opR Θ.c.K q)) (ha : PE X a (dE Θ E ia)) (hb : PE X b (dE Θ E ib)) (hm : behindInMarks o b = false := by first | exact nomark _ | rfl) : PE X (.Compare a [o] [b] pos) (dE Θ E (.op2 q ia ib)) := pe_cmpR ho ha hb hm
theorem d_neg (ha : PE X a (dE Θ E ia)) : PE X (.UnaryOp .USub a pos) (dE Θ E (.neg ia)) := pe_un un_neg ha
theorem d_chain {o o' : CmpOp} {q q' : Op2} {c : Expr} (ho : OpR X (compareOp o) (opR Θ.c.K q)) (ho' : OpR X (compareOp o') (opR Θ.c.K q')) (ha : PE X a (dE Θ E ia)) (hb : PE X b (dE Θ E ib)) (hc : PE X c (dE Θ E ic)) (hm : lastMarks [o, o'] [b, c] = false := by with_unfolding_all rfl) :
    PE X (.Compare a [o, o'] [b, c] pos) (dE Θ E (.chain q q' ia ib ic)) := pe_chain ho ho' ha hb hc hm
theorem d_ite {t : Expr} {it : Tx} (ht : PT X t (dT Θ E it)) (ha : PE X a (dE Θ E ia)) (hb : PE X b (dE Θ E ib)) : PE X (.IfExp t a b pos) (dE Θ E (.ite it ia ib)) := pe_ifExp ht ha hb
theorem d_and {rest : List Expr} (ha : PE X a (dE Θ E ia)) (hb : PE X (.BoolOp .And (b :: rest) pos) (dE Θ E ib)) : PE X (.BoolOp .And (a :: b :: rest) pos) (dE Θ E (.andV ia ib)) := pe_and ha hb
theorem d_or {rest : List Expr} (ha : PE X a (dE Θ E ia)) (hb : PE X (.BoolOp .Or (b :: rest) pos) (dE Θ E ib)) : PE X (.BoolOp .Or (a :: b :: rest) pos) (dE Θ E (.orV ia ib)) := pe_or ha hb
theorem d_one {o : BoolOp} (ha : PE X a (dE Θ E ia)) : PE X (.BoolOp o [a] pos) (dE Θ E ia) := pe_one ha
theorem d_not (ha : PE X a (dE Θ E ia)) : PE X (.UnaryOp .Not a pos) (dE Θ E (.notV ia)) := pe_not ha
theorem d_nil : PA X [] (dA Θ E .nil) := pa_nil
theorem d_cons (ha : PE X e (dE Θ E ia)) (hr : PA X es (dA Θ E ies)) (hs : starEach (e :: es) X.env = (false, eval e X.env) :: starEach es X.env := by rfl) : PA X (e :: es) (dA Θ E (.cons ia ies)) := pa_cons ha hr hs
theorem d_tup {j} (h : PA X es (dA Θ E ies)) : PE X (.Tuple es j pos) (dE Θ E (.tup ies)) := pe_tup h
theorem d_lst (h : PA X es (dA Θ E ies)) : PE X (.List es pos) (dE Θ E (.lst ies)) := pe_lst h
theorem d_sl (C : Ctx X Θ k lx) {p2 : Pos} {lo hi : Option Expr} {il ih : Exs} (ha : PE X a (dE Θ E ia)) (hl : PO X lo (dO Θ E il)) (hu : PO X hi (dO Θ E ih)) : PE X (.Subscript a (.Slice lo hi none p2) pos) (dE Θ E (.sl ia il ih)) := pe_slice (p_sl C) ha hl hu
theorem d_on : PO X none (dO Θ E .nil) := po_none
theorem d_os (h : PE X e (dE Θ E ia)) : PO X (some e) (dO Θ E (.cons ia .nil)) := po_some h
theorem d_rev (C : Ctx X Θ k lx) {j : Nat} {p1 p2 p3 : Pos} (ha : PE X a (dE Θ E ia)) : PE X (.Subscript a (.Slice none none (some (.UnaryOp .USub (.Constant (.int 1) j p1) p2)) p3) pos) (dE Θ E (.rev ia)) := by
  have h := HX.pe_revT (k := j) (p1 := p1) (p2 := p2) (p3 := p3) (pos := pos) ha
  rw [C.K] at h
  exact h
/-- a built-in of one argument -/
theorem d_bltB (C : Ctx X Θ k lx) {id : String} {q : Blt} (hc : CallR X (.builtin id) (bltR Θ.c.K q)) (ha : PE X e (dE Θ E ia)) (hm : x ∈ bltNames := by decide) (hg : Gl X x := by rfl) (hv : bootBuiltins x = some (.builtin id) := by rfl) (hn : x ≠ "__name__" := by decide) (hdb : (x == ("__debug__" : Str)) = false := by decide)
    (he : starEach [e] X.env = (false, eval e X.env) :: starEach [] X.env := by rfl) (hpl : (backTo pos (starEach [] X.env)).any (·.1) = false := by rfl) : PE X (.Call (.Name x p) [e] [] pos) (dE Θ E (.blt q ia)) :=
  pe_callB hc hg (C.blt _ hm) hv (pa_cons ha pa_nil he) hn hdb he hpl
theorem d_bltT (C : Ctx X Θ k lx) {id : String} {q : Blt} (hc : CallR X (.type id) (bltR Θ.c.K q)) (ha : PE X e (dE Θ E ia)) (hm : x ∈ bltNames := by decide) (hg : Gl X x := by rfl) (hv : bootBuiltins x = some (.type id) := by rfl) (hn : x ≠ "__name__" := by decide) (hdb : (x == ("__debug__" : Str)) = false := by decide)
    (he : starEach [e] X.env = (false, eval e X.env) :: starEach [] X.env := by rfl) (hpl : (backTo pos (starEach [] X.env)).any (·.1) = false := by rfl) : PE X (.Call (.Name x p) [e] [] pos) (dE Θ E (.blt q ia)) :=
  pe_callTy hc hg (C.blt _ hm) hv (pa_cons ha pa_nil he) hn hdb he hpl
theorem CallR.or {f : Value} {r r' : List V → Hp → VK → Prop} (a : CallR X f r) (b : CallR X f r') : CallR X f (fun xs H Q => r xs H Q ∨ r' xs H Q) := by
  intro pins s σ H xs us Q I rx h
  exact h.elim (fun h => a pins s σ H xs us Q I rx h) (fun h => b pins s σ H xs us Q I rx h)
theorem c_abs (C : Ctx X Θ k lx) : CallR X (.builtin "abs") (bltR Θ.c.K .abs) := call_abs
theorem c_len (C : Ctx X Θ k lx) : CallR X (.builtin "len") (bltR Θ.c.K .len) := C.K ▸ CallR.or call_len_seq call_len_str
theorem c_int (C : Ctx X Θ k lx) : CallR X (.type "int") (bltR Θ.c.K .int) := call_int1
theorem c_tup (C : Ctx X Θ k lx) : CallR X (.type "tuple") (bltR Θ.c.K .tup) := C.K ▸ call_tuple_of
theorem c_lst (C : Ctx X Θ k lx) : CallR X (.type "list") (bltR Θ.c.K .lst) := C.K ▸ call_list_of
theorem c_any (C : Ctx X Θ k lx) : CallR X (.builtin "any") (bltR Θ.c.K .any) := C.K ▸ cr_any C.calm
theorem c_all (C : Ctx X Θ k lx) : CallR X (.builtin "all") (bltR Θ.c.K .all) := C.K ▸ cr_all C.calm
theorem c_max1 (C : Ctx X Θ k lx) : CallR X (.builtin "max") (bltR Θ.c.K .max1) := C.K ▸ cr_max C.calm
theorem d_max2 (C : Ctx X Θ k lx) (ha : PE X a (dE Θ E ia)) (hb : PE X b (dE Θ E ib)) (hg : Gl X "max" := by rfl) (h1 : starEach [a, b] X.env = (false, eval a X.env) :: starEach [b] X.env := by rfl) (h2 : starEach [b] X.env = (false, eval b X.env) :: starEach [] X.env := by rfl)
    (hpl : (backTo pos (starEach [b] X.env)).any (·.1) = false := by rfl) : PE X (.Call (.Name "max" p) [a, b] [] pos) (dE Θ E (.max2 ia ib)) :=
  pe_callB (call_max2 C.calm) hg (C.blt _ (by decide)) (by rfl) (pa_cons ha (pa_cons hb pa_nil h2) h1) (by decide) (by decide) h1 hpl
/-- len(xs), xs an own list -/
theorem d_olen (C : Ctx X Θ k lx) (i : Nat) {px : Pos} (hN : X.N[i]? = some x := by rfl) (hv : Vis X.env.scope x := by first | exact Or.inl rfl | exact Or.inr (Or.inl rfl) | exact Or.inr (Or.inr rfl)) (hd : (x == ("__debug__" : Str)) = false := by decide) (hcd : (x == ("__classdict__" : Str)) = false := by decide)
    (hg : Gl X "len" := by rfl) (he : starEach [.Name x px] X.env = (false, eval (.Name x px) X.env) :: starEach [] X.env := by rfl) (hpl : (backTo pos (starEach [] X.env)).any (·.1) = false := by rfl) : PE X (.Call (.Name "len" p) [.Name x px] [] pos) (dE Θ E (.olen i)) :=
  pe_callB (c_len C) hg (C.blt _ (by decide)) (by rfl) (pa_cons (pe_var hN hv hd hcd) pa_nil he) (by decide) (by decide) he hpl
theorem d_oix (C : Ctx X Θ k lx) (i : Nat) {px : Pos} (hb : PE X b (dE Θ E ib)) (hN : X.N[i]? = some x := by rfl) (hv : Vis X.env.scope x := by first | exact Or.inl rfl | exact Or.inr (Or.inl rfl) | exact Or.inr (Or.inr rfl)) (hd : (x == ("__debug__" : Str)) = false := by decide) (hcd : (x == ("__classdict__" : Str)) = false := by decide)
    (hs : PlainIx b := by first | (intro _ _; rfl) | exact fun _ _ => rfl) : PE X (.Subscript (.Name x px) b pos) (dE Θ E (.oix i ib)) := pe_ix (p_ix C) (pe_var hN hv hd hcd) hb hs
theorem d_oem (C : Ctx X Θ k lx) (i : Nat) {px p2 : Pos} (hN : X.N[i]? = some x := by rfl) (hv : Vis X.env.scope x := by first | exact Or.inl rfl | exact Or.inr (Or.inl rfl) | exact Or.inr (Or.inr rfl)) (hd : (x == ("__debug__" : Str)) = false := by decide) (hcd : (x == ("__classdict__" : Str)) = false := by decide)
    (hm : behindInMarks .NotEq (.List [] p2) = false := by first | exact nomark _ | rfl) : PE X (.Compare (.Name x px) [.NotEq] [.List [] p2] pos) (dE Θ E (.oem i)) := pe_cmpR (p_ne C) (pe_var hN hv hd hcd) (pe_lst pa_nil) hm
theorem d_toem (C : Ctx X Θ k lx) (i : Nat) {px p2 : Pos} (hN : X.N[i]? = some x := by rfl) (hv : Vis X.env.scope x := by first | exact Or.inl rfl | exact Or.inr (Or.inl rfl) | exact Or.inr (Or.inr rfl)) (hd : (x == ("__debug__" : Str)) = false := by decide) (hcd : (x == ("__classdict__" : Str)) = false := by decide)
    (hm : behindInMarks .NotEq (.List [] p2) = false := by first | exact nomark _ | rfl) : PT X (.Compare (.Name x px) [.NotEq] [.List [] p2] pos) (dT Θ E (.val (.oem i))) := pt_cmpR (p_ne C) (pe_var hN hv hd hcd) (pe_lst pa_nil) hm
/-- isinstance(e, T) -/
theorem d_isi (C : Ctx X Θ k lx) {t : String} {y : Str} {py : Pos} (ha : PE X e (dE Θ E ia)) (hgi : Gl X "isinstance" := by rfl) (hg : Gl X y := by rfl) (hm : y ∈ bltNames := by decide) (hv : bootBuiltins y = some (.type t) := by rfl)
    (hn : y ≠ "__name__" := by decide) (hdb : (y == ("__debug__" : Str)) = false := by decide)
    (he : starEach [e, .Name y py] X.env = (false, eval e X.env) :: starEach [.Name y py] X.env := by rfl) (he2 : starEach [.Name y py] X.env = (false, eval (.Name y py) X.env) :: starEach [] X.env := by rfl) (hpl : (backTo pos (starEach [.Name y py] X.env)).any (·.1) = false := by rfl) :
    PE X (.Call (.Name "isinstance" p) [e, .Name y py] [] pos) (dE Θ E (.isi t ia)) := by
  have h := call_isi (X := X)
  rw [C.K] at h
  exact pe_callB h hgi (C.blt _ (by decide)) (by rfl) (pa_cons ha (pa_cons (pe_bltn hg (C.blt _ hm) hv rfl hn hdb) pa_nil he2) he) (by decide) (by decide) he hpl
/-- a call of a def -/
theorem d_call (C : Ctx X Θ k lx) (hp : Passes (L2.CX X.prog X.w) X E) (i : Nat) (ha : PA X (e :: es) (dA Θ E ies)) (hi : i < lx.nf := by decide) (hng : i ∉ lx.ng := by decide) (hn : lx.nm i = x := by rfl) (hg : Gl X x := by rfl) (hd : (x == ("__debug__" : Str)) = false := by decide)
    (he : starEach (e :: es) X.env = (false, eval e X.env) :: starEach es X.env := by rfl) (hpl : (backTo pos (starEach es X.env)).any (·.1) = false := by rfl) : PE X (.Call (.Name x p) (e :: es) [] pos) (dE Θ E (.call i ies)) := by
  obtain ⟨fd, ps, F, B, h1, h2⟩ := C.fns i hi hng
  exact pe_call F C.room hg (hn ▸ h1) h2 B .nil hp ha hd he hpl
/-- the same by a second name -/
theorem d_callA (C : Ctx X Θ k lx) (hp : Passes (L2.CX X.prog X.w) X E) (i : Nat) (h1 : X.mg x = some (.ref (Θ.c.fa i))) (ha : PA X (e :: es) (dA Θ E ies)) (hi : i < lx.nf := by decide) (hng : i ∉ lx.ng := by decide) (hg : Gl X x := by rfl) (hd : (x == ("__debug__" : Str)) = false := by decide)
    (he : starEach (e :: es) X.env = (false, eval e X.env) :: starEach es X.env := by rfl) (hpl : (backTo pos (starEach es X.env)).any (·.1) = false := by rfl) : PE X (.Call (.Name x p) (e :: es) [] pos) (dE Θ E (.call i ies)) := by
  obtain ⟨fd, ps, F, B, _, h2⟩ := C.fns i hi hng
  exact pe_call F C.room hg h1 h2 B .nil hp ha hd he hpl
/-! tests -/
theorem d_tc {o : CmpOp} {q : Op2} (ho : OpR X (compareOp o) (opR Θ.c.K q)) (ha : PE X a (dE Θ E ia)) (hb : PE X b (dE Θ E ib)) (hm : behindInMarks o b = false := by first | exact nomark _ | rfl) : PT X (.Compare a [o] [b] pos) (dT Θ E (.val (.op2 q ia ib))) := pt_cmpR ho ha hb hm
theorem d_tch {o o' : CmpOp} {q q' : Op2} {c : Expr} (ho : OpR X (compareOp o) (opR Θ.c.K q)) (ho' : OpR X (compareOp o') (opR Θ.c.K q')) (ha : PE X a (dE Θ E ia)) (hb : PE X b (dE Θ E ib)) (hc : PE X c (dE Θ E ic)) (hm : lastMarks [o, o'] [b, c] = false := by with_unfolding_all rfl) :
    PT X (.Compare a [o, o'] [b, c] pos) (dT Θ E (.val (.chain q q' ia ib ic))) := pt_chain ho ho' ha hb hc hm
theorem d_tv (h : PE X e (dE Θ E ia)) (he : ∀ whole, isTrue e X.env whole = (do let v ← whole; standAt e.pos; holding [v] (truthy v)) := by intro _; rfl) : PT X e (dT Θ E (.val ia)) := pt_val h he
variable {ta tb : Tx}
theorem d_tnot (h : PT X a (dT Θ E ta)) : PT X (.UnaryOp .Not a pos) (dT Θ E (.not ta)) := pt_not h
theorem d_wand1 (h : PT X a (dT Θ E ta)) : PW X (.BoolOp .And [a] pos) (dT Θ E ta) := pw_and1 h
theorem d_wor1 (h : PT X a (dT Θ E ta)) : PW X (.BoolOp .Or [a] pos) (dT Θ E ta) := pw_or1 h
theorem d_wand {rest : List Expr} (ha : PT X a (dT Θ E ta)) (hb : PW X (.BoolOp .And (b :: rest) pos) (dT Θ E tb)) : PW X (.BoolOp .And (a :: b :: rest) pos) (dT Θ E (.and ta tb)) := pw_and ha hb
theorem d_wor {rest : List Expr} (ha : PT X a (dT Θ E ta)) (hb : PW X (.BoolOp .Or (b :: rest) pos) (dT Θ E tb)) : PW X (.BoolOp .Or (a :: b :: rest) pos) (dT Θ E (.or ta tb)) := pw_or ha hb
/-! targets, walks -/
variable {tg iter : Expr} {itg : Tg} {itgs : Tgs} {ii : Ix}
theorem d_gn (C : Ctx X Θ k lx) (i : Nat) (hN : X.N[i]? = some x := by rfl) (hx : Loc X.env.scope x := by first | exact Or.inl rfl | exact Or.inr rfl) (hf : X.fn x = true ∨ X.env.scope.names.lookup x = some .local := by first | exact .inl rfl | exact .inr rfl) : PG X (.Name x pos) (dG Θ.c.K (.name i)) := pg_name C.nd hN hx hf
theorem d_g0 : PGs X [] (dGs Θ.c.K .nil) := pgs_nil
theorem d_g1 {es : List Expr} (h1 : PG X e (dG Θ.c.K itg)) (h2 : PGs X es (dGs Θ.c.K itgs)) (hs : (assignEach (e :: es) X.env).map (·.2) = assign e X.env :: (assignEach es X.env).map (·.2) := by rfl) : PGs X (e :: es) (dGs Θ.c.K (.cons itg itgs)) := pgs_cons h1 h2 hs
theorem d_gt (C : Ctx X Θ k lx) {j : Nat} (h : PGs X es (dGs Θ.c.K itgs)) (hn : (assignEach es X.env).length = itgs.len := by rfl) (hst : (assignEach es X.env).findIdx? (·.1) = none := by rfl) : PG X (.Tuple es j pos) (dG Θ.c.K (.tup itgs)) := by
  have q := pg_tup C.calm h hn hst (k := j) (pos := pos)
  rw [C.K] at q
  exact q
theorem d_il (C : Ctx X Θ k lx) (h : PE X e (dE Θ E ia)) : PI X tg e (dI Θ E (.list ia)) := by
  have q := pi_list (tg := tg) h
  rw [C.K] at q
  exact q
theorem d_it (C : Ctx X Θ k lx) (h : PE X e (dE Θ E ia)) : PI X tg e (dI Θ E (.tup ia)) := by
  have q := pi_tup (tg := tg) h
  rw [C.K] at q
  exact q
theorem d_ir (C : Ctx X Θ k lx) (h : PE X e (dE Θ E ia)) (hg : Gl X "range" := by rfl) (hs : starEach [e] X.env = [(false, eval e X.env)] := by rfl) : PI X tg (.Call (.Name "range" p) [e] [] pos) (dI Θ E (.range ia)) :=
  pi_range1 hg (C.blt _ (by decide)) (pa_cons h pa_nil hs) hs
theorem d_ir2 (C : Ctx X Θ k lx) (ha : PE X a (dE Θ E ia)) (hb : PE X b (dE Θ E ib)) (hg : Gl X "range" := by rfl) (hs : starEach [a, b] X.env = [(false, eval a X.env), (false, eval b X.env)] := by rfl) (hs2 : starEach [b] X.env = [(false, eval b X.env)] := by rfl) : PI X tg (.Call (.Name "range" p) [a, b] [] pos) (dI Θ E (.range2 ia ib)) :=
  pi_range2 hg (C.blt _ (by decide)) (pa_cons ha (pa_cons hb pa_nil hs2) (by rw [hs, hs2])) hs hs2
theorem d_ieL (C : Ctx X Θ k lx) {elts : List Expr} {kk : Nat} {tpos : Pos} (h : PE X e (dE Θ E ia)) (hg : Gl X "enumerate" := by rfl) (hs : starEach [e] X.env = [(false, eval e X.env)] := by rfl) : PI X (.Tuple elts kk tpos) (.Call (.Name "enumerate" p) [e] [] pos) (dI Θ E (.enumL ia)) := by
  have q := pi_enum (elts := elts) (kk := kk) (tpos := tpos) (p := p) (pos := pos) hg (C.blt _ (by decide)) (pa_cons h pa_nil hs) hs
  rw [C.K] at q
  exact q
theorem d_ieT (C : Ctx X Θ k lx) {elts : List Expr} {kk : Nat} {tpos : Pos} (h : PE X e (dE Θ E ia)) (hg : Gl X "enumerate" := by rfl) (hs : starEach [e] X.env = [(false, eval e X.env)] := by rfl) : PI X (.Tuple elts kk tpos) (.Call (.Name "enumerate" p) [e] [] pos) (dI Θ E (.enumT ia)) := by
  have q := HX.pi_enumT (elts := elts) (kk := kk) (tpos := tpos) (p := p) (pos := pos) hg (C.blt _ (by decide)) (pa_cons h pa_nil hs) hs
  rw [C.K] at q
  exact q
theorem d_iz (C : Ctx X Θ k lx) {elts : List Expr} {kk : Nat} {tpos : Pos} (ha : PE X a (dE Θ E ia)) (hb : PE X b (dE Θ E ib)) (hg : Gl X "zip" := by rfl) (hs : starEach [a, b] X.env = (false, eval a X.env) :: starEach [b] X.env := by rfl) (hs2 : starEach [b] X.env = (false, eval b X.env) :: starEach [] X.env := by rfl)
    (hpl : (backTo pos (starEach [b] X.env)).any (·.1) = false := by rfl) : PI X (.Tuple elts kk tpos) (.Call (.Name "zip" p) [a, b] [] pos) (dI Θ E (.zip ia ib)) := by
  have q := RZ.pi_zipA (elts := elts) (kk := kk) (tpos := tpos) (p := p) (pos := pos) hg (C.blt _ (by decide)) (pa_cons ha (pa_cons hb pa_nil hs2) hs) hs hpl
  rw [C.K] at q
  exact q
/-- comprehensions -/
abbrev BkX (X : Cx) (s : Shared) (H : Hp) (scope : Scope) (cl : List (Str × Addr)) (D : Addr) (fp : List Addr) (L : Addr) (E : XK) : Cx := HX.blkX X s H scope (compEnvC scope cl D X.env) fp L E
abbrev BkN (X : Cx) (s : Shared) (H : Hp) (scope : Scope) (cl : List (Str × Addr)) (D : Addr) (fp : List Addr) : Cx := X.blk s H scope (compEnvC scope cl D X.env) fp
variable {elt : Expr} {scope : Scope} {own : List (Str × Nat)} {ie : Ex} {t : Expr} {it : Tx}
theorem d_lc (C : Ctx X Θ k lx) (ht : XT X Da E) (hi : PI X tg iter (dI Θ E ii)) (hg : ∀ (s : Shared) (H : Hp) (D : Addr) (cl : List (Str × Addr)) (fp : List Addr), Ctx (BkX X s H scope cl D fp Da E) Θ k lx → PG (BkX X s H scope cl D fp Da E) tg (dG Θ.c.K itg))
    (he : ∀ (s : Shared) (H : Hp) (D : Addr) (cl : List (Str × Addr)) (fp : List Addr), Ctx (BkX X s H scope cl D fp Da E) Θ k lx → XT (BkX X s H scope cl D fp Da E) Da E → Passes (L2.CX X.prog X.w) (BkX X s H scope cl D fp Da E) E → PE (BkX X s H scope cl D fp Da E) elt (dE Θ E ie)) (ok : blkC X.N X.env.scope scope own = true := by kernel_rfl) (hs : ∀ x, foldedSetIterable iter X.env x = pure x := by intro _; rfl) :
    PE X (.ListComp elt [⟨tg, iter, [], 0⟩] scope pos) (dE Θ E (.lc ie itg ii (own.map (·.2)))) := by
  obtain ⟨e, o, a, rfl⟩ := ht.air
  exact HX.pe_lcX a ht.tk C.calm C.nd hi (blkOk_by ok) (fun s H D cl fp => hg s H D cl fp (C.blkX _ _ _ _ _ _ _)) (fun _ _ _ _ _ => pts_nil) (fun s H D cl fp => he s H D cl fp (C.blkX _ _ _ _ _ _ _) (ht.blk _ _ _ _ _ _) (ht.blk _ _ _ _ _ _).ps) hs
theorem d_lcf (C : Ctx X Θ k lx) (ht : XT X Da E) (hi : PI X tg iter (dI Θ E ii)) (hg : ∀ (s : Shared) (H : Hp) (D : Addr) (cl : List (Str × Addr)) (fp : List Addr), Ctx (BkX X s H scope cl D fp Da E) Θ k lx → PG (BkX X s H scope cl D fp Da E) tg (dG Θ.c.K itg))
    (hT : ∀ (s : Shared) (H : Hp) (D : Addr) (cl : List (Str × Addr)) (fp : List Addr), Ctx (BkX X s H scope cl D fp Da E) Θ k lx → XT (BkX X s H scope cl D fp Da E) Da E → Passes (L2.CX X.prog X.w) (BkX X s H scope cl D fp Da E) E → PT (BkX X s H scope cl D fp Da E) t (dT Θ E it))
    (he : ∀ (s : Shared) (H : Hp) (D : Addr) (cl : List (Str × Addr)) (fp : List Addr), Ctx (BkX X s H scope cl D fp Da E) Θ k lx → XT (BkX X s H scope cl D fp Da E) Da E → Passes (L2.CX X.prog X.w) (BkX X s H scope cl D fp Da E) E → PE (BkX X s H scope cl D fp Da E) elt (dE Θ E ie)) (ok : blkC X.N X.env.scope scope own = true := by kernel_rfl) (hs : ∀ x, foldedSetIterable iter X.env x = pure x := by intro _; rfl) :
    PE X (.ListComp elt [⟨tg, iter, [t], 0⟩] scope pos) (dE Θ E (.lcf ie itg ii it (own.map (·.2)))) := by
  obtain ⟨e, o, a, rfl⟩ := ht.air
  exact HX.pe_lcX a ht.tk C.calm C.nd hi (blkOk_by ok) (fun s H D cl fp => hg s H D cl fp (C.blkX _ _ _ _ _ _ _)) (fun s H D cl fp => pts_one (hT s H D cl fp (C.blkX _ _ _ _ _ _ _) (ht.blk _ _ _ _ _ _) (ht.blk _ _ _ _ _ _).ps)) (fun s H D cl fp => he s H D cl fp (C.blkX _ _ _ _ _ _ _) (ht.blk _ _ _ _ _ _) (ht.blk _ _ _ _ _ _).ps) hs
/-- name = [comprehension]: nothing is let out -/
theorem d_setLcN (C : Ctx X Θ k lx) (i : Nat) {pos' spos : Pos} (hi : PI X tg iter (dI Θ E ii)) (hg : ∀ (s : Shared) (H : Hp) (D : Addr) (cl : List (Str × Addr)) (fp : List Addr), Ctx (BkN X s H scope cl D fp) Θ k lx → PG (BkN X s H scope cl D fp) tg (dG Θ.c.K itg))
    (he : ∀ (s : Shared) (H : Hp) (D : Addr) (cl : List (Str × Addr)) (fp : List Addr), Ctx (BkN X s H scope cl D fp) Θ k lx → Passes (L2.CX X.prog X.w) (BkN X s H scope cl D fp) E00 → PE (BkN X s H scope cl D fp) elt (dE Θ E00 ie)) (ok : blkC X.N X.env.scope scope own = true := by kernel_rfl) (hN : X.N[i]? = some x := by rfl) (hl : X.env.scope.names.lookup x = some .local := by rfl)
    (hsw : swapsWith (.ListComp elt [⟨tg, iter, [], 0⟩] scope pos) (some (.Name x pos')) spos.line X.env = pure true := by exact sw_true rfl rfl rfl rfl) (hs : ∀ x, foldedSetIterable iter X.env x = pure x := by intro _; rfl) :
    PS X (.Assign [.Name x pos'] (.ListComp elt [⟨tg, iter, [], 0⟩] scope pos) spos) (dS Θ E (.set i (.lcN ie itg ii (own.map (·.2))))) := ps_setLc C.calm C.nd hN hl hsw hi (blkOk_by ok) (fun s H D cl fp => hg s H D cl fp (C.blk _ _ _ _ _)) (fun _ _ _ _ _ => pts_nil) (fun s H D cl fp => he s H D cl fp (C.blk _ _ _ _ _) (pass00 (C.blk _ _ _ _ _))) hs
theorem d_setLcNO (C : Ctx X Θ k lx) (i : Nat) {pos' spos : Pos} (hi : PI X tg iter (dI Θ E ii)) (hg : ∀ (s : Shared) (H : Hp) (D : Addr) (cl : List (Str × Addr)) (fp : List Addr), Ctx (BkN X s H scope cl D fp) Θ k lx → PG (BkN X s H scope cl D fp) tg (dG Θ.c.K itg))
    (he : ∀ (s : Shared) (H : Hp) (D : Addr) (cl : List (Str × Addr)) (fp : List Addr), Ctx (BkN X s H scope cl D fp) Θ k lx → Passes (L2.CX X.prog X.w) (BkN X s H scope cl D fp) E00 → PE (BkN X s H scope cl D fp) elt (dE Θ E00 ie)) (ok : blkC X.N X.env.scope scope own = true := by kernel_rfl) (hN : X.N[i]? = some x := by rfl) (hl : X.env.scope.names.lookup x = some .local := by rfl)
    (hsw : swapsWith (.ListComp elt [⟨tg, iter, [], 0⟩] scope pos) (some (.Name x pos')) spos.line X.env = pure true := by exact sw_true rfl rfl rfl rfl) (hs : ∀ x, foldedSetIterable iter X.env x = pure x := by intro _; rfl) :
    PS X (.Assign [.Name x pos'] (.ListComp elt [⟨tg, iter, [], 0⟩] scope pos) spos) (dS Θ E (.setO i (.lcN ie itg ii (own.map (·.2))))) := ps_setLc C.calm C.nd hN hl hsw hi (blkOk_by ok) (fun s H D cl fp => hg s H D cl fp (C.blk _ _ _ _ _)) (fun _ _ _ _ _ => pts_nil) (fun s H D cl fp => he s H D cl fp (C.blk _ _ _ _ _) (pass00 (C.blk _ _ _ _ _))) hs
theorem d_setLcfN (C : Ctx X Θ k lx) (i : Nat) {pos' spos : Pos} (hi : PI X tg iter (dI Θ E ii)) (hg : ∀ (s : Shared) (H : Hp) (D : Addr) (cl : List (Str × Addr)) (fp : List Addr), Ctx (BkN X s H scope cl D fp) Θ k lx → PG (BkN X s H scope cl D fp) tg (dG Θ.c.K itg))
    (hT : ∀ (s : Shared) (H : Hp) (D : Addr) (cl : List (Str × Addr)) (fp : List Addr), Ctx (BkN X s H scope cl D fp) Θ k lx → Passes (L2.CX X.prog X.w) (BkN X s H scope cl D fp) E00 → PT (BkN X s H scope cl D fp) t (dT Θ E00 it))
    (he : ∀ (s : Shared) (H : Hp) (D : Addr) (cl : List (Str × Addr)) (fp : List Addr), Ctx (BkN X s H scope cl D fp) Θ k lx → Passes (L2.CX X.prog X.w) (BkN X s H scope cl D fp) E00 → PE (BkN X s H scope cl D fp) elt (dE Θ E00 ie)) (ok : blkC X.N X.env.scope scope own = true := by kernel_rfl) (hN : X.N[i]? = some x := by rfl) (hl : X.env.scope.names.lookup x = some .local := by rfl)
    (hsw : swapsWith (.ListComp elt [⟨tg, iter, [t], 0⟩] scope pos) (some (.Name x pos')) spos.line X.env = pure true := by exact sw_true rfl rfl rfl rfl) (hs : ∀ x, foldedSetIterable iter X.env x = pure x := by intro _; rfl) :
    PS X (.Assign [.Name x pos'] (.ListComp elt [⟨tg, iter, [t], 0⟩] scope pos) spos) (dS Θ E (.set i (.lcfN ie itg ii it (own.map (·.2))))) := ps_setLc C.calm C.nd hN hl hsw hi (blkOk_by ok) (fun s H D cl fp => hg s H D cl fp (C.blk _ _ _ _ _)) (fun s H D cl fp => pts_one (hT s H D cl fp (C.blk _ _ _ _ _) (pass00 (C.blk _ _ _ _ _)))) (fun s H D cl fp => he s H D cl fp (C.blk _ _ _ _ _) (pass00 (C.blk _ _ _ _ _))) hs
variable {tg1 iter1 : Expr} {itg1 : Tg} {ii1 : Ix}
theorem d_lc2 (C : Ctx X Θ k lx) (vs1 : List Nat) (hi : PI X tg iter (dI Θ E ii)) (hg : ∀ (s : Shared) (H : Hp) (D : Addr) (cl : List (Str × Addr)) (fp : List Addr), Ctx (BkN X s H scope cl D fp) Θ k lx → PG (BkN X s H scope cl D fp) tg (dG Θ.c.K itg))
    (hi1 : ∀ (s : Shared) (H : Hp) (D : Addr) (cl : List (Str × Addr)) (fp : List Addr), Ctx (BkN X s H scope cl D fp) Θ k lx → Passes (L2.CX X.prog X.w) (BkN X s H scope cl D fp) E00 → PI (BkN X s H scope cl D fp) tg1 iter1 (dI Θ E00 ii1))
    (hg1 : ∀ (s : Shared) (H : Hp) (D : Addr) (cl : List (Str × Addr)) (fp : List Addr), Ctx (BkN X s H scope cl D fp) Θ k lx → PG (BkN X s H scope cl D fp) tg1 (dG Θ.c.K itg1))
    (he : ∀ (s : Shared) (H : Hp) (D : Addr) (cl : List (Str × Addr)) (fp : List Addr), Ctx (BkN X s H scope cl D fp) Θ k lx → Passes (L2.CX X.prog X.w) (BkN X s H scope cl D fp) E00 → PE (BkN X s H scope cl D fp) elt (dE Θ E00 ie)) (ok : blkC X.N X.env.scope scope own = true := by kernel_rfl) (hv : ∀ i ∈ vs1, i ∈ own.map (·.2) := by decide)
    (hs : ∀ x, foldedSetIterable iter X.env x = pure x := by intro _; rfl) (hs1 : ∀ env x, foldedSetIterable iter1 env x = pure x := by intro _ _; rfl) :
    PE X (.ListComp elt [⟨tg, iter, [], 0⟩, ⟨tg1, iter1, [], 0⟩] scope pos) (dE Θ E (.lc2 ie itg ii itg1 ii1 (own.map (·.2)) vs1)) := pe_lc2 C.calm C.nd hi (blkOk_by ok) hv (fun s H D cl fp => hg s H D cl fp (C.blk _ _ _ _ _)) (fun _ _ _ _ _ => pts_nil)
      (fun s H D cl fp => hi1 s H D cl fp (C.blk _ _ _ _ _) (pass00 (C.blk _ _ _ _ _))) (fun s H D cl fp => hg1 s H D cl fp (C.blk _ _ _ _ _)) (fun _ _ _ _ _ => pts_nil) (fun s H D cl fp => he s H D cl fp (C.blk _ _ _ _ _) (pass00 (C.blk _ _ _ _ _))) hs hs1
theorem d_setLc2 (C : Ctx X Θ k lx) (i : Nat) (vs1 : List Nat) {pos' spos : Pos} (hi : PI X tg iter (dI Θ E ii)) (hg : ∀ (s : Shared) (H : Hp) (D : Addr) (cl : List (Str × Addr)) (fp : List Addr), Ctx (BkN X s H scope cl D fp) Θ k lx → PG (BkN X s H scope cl D fp) tg (dG Θ.c.K itg))
    (hi1 : ∀ (s : Shared) (H : Hp) (D : Addr) (cl : List (Str × Addr)) (fp : List Addr), Ctx (BkN X s H scope cl D fp) Θ k lx → Passes (L2.CX X.prog X.w) (BkN X s H scope cl D fp) E00 → PI (BkN X s H scope cl D fp) tg1 iter1 (dI Θ E00 ii1))
    (hg1 : ∀ (s : Shared) (H : Hp) (D : Addr) (cl : List (Str × Addr)) (fp : List Addr), Ctx (BkN X s H scope cl D fp) Θ k lx → PG (BkN X s H scope cl D fp) tg1 (dG Θ.c.K itg1))
    (he : ∀ (s : Shared) (H : Hp) (D : Addr) (cl : List (Str × Addr)) (fp : List Addr), Ctx (BkN X s H scope cl D fp) Θ k lx → Passes (L2.CX X.prog X.w) (BkN X s H scope cl D fp) E00 → PE (BkN X s H scope cl D fp) elt (dE Θ E00 ie)) (ok : blkC X.N X.env.scope scope own = true := by kernel_rfl) (hv : ∀ i ∈ vs1, i ∈ own.map (·.2) := by decide)
    (hN : X.N[i]? = some x := by rfl) (hl : X.env.scope.names.lookup x = some .local := by rfl) (hsw : swapsWith (.ListComp elt [⟨tg, iter, [], 0⟩, ⟨tg1, iter1, [], 0⟩] scope pos) (some (.Name x pos')) spos.line X.env = pure true := by exact sw_true rfl rfl rfl rfl)
    (hs : ∀ x, foldedSetIterable iter X.env x = pure x := by intro _; rfl) (hs1 : ∀ env x, foldedSetIterable iter1 env x = pure x := by intro _ _; rfl) :
    PS X (.Assign [.Name x pos'] (.ListComp elt [⟨tg, iter, [], 0⟩, ⟨tg1, iter1, [], 0⟩] scope pos) spos) (dS Θ E (.set i (.lc2 ie itg ii itg1 ii1 (own.map (·.2)) vs1))) := ps_setLc2 C.calm C.nd hN hl hsw hi (blkOk_by ok) hv (fun s H D cl fp => hg s H D cl fp (C.blk _ _ _ _ _)) (fun _ _ _ _ _ => pts_nil)
      (fun s H D cl fp => hi1 s H D cl fp (C.blk _ _ _ _ _) (pass00 (C.blk _ _ _ _ _))) (fun s H D cl fp => hg1 s H D cl fp (C.blk _ _ _ _ _)) (fun _ _ _ _ _ => pts_nil) (fun s H D cl fp => he s H D cl fp (C.blk _ _ _ _ _) (pass00 (C.blk _ _ _ _ _))) hs hs1
/-! statements -/
variable {st : Stmt} {sts : List Stmt} {is : St} {iss : Ss}
theorem d_snil : PSs X [] (dSs Θ E .nil) := pss_nil
theorem d_scons (h1 : PS X st (dS Θ E is)) (h2 : PSs X sts (dSs Θ E iss)) : PSs X (st :: sts) (dSs Θ E (.cons is iss)) := pss_cons h1 h2
theorem d_sfrz {i : Nat} (h : PSs X sts (dSs Θ E iss)) : PSs X sts (dSs Θ E (.frz i iss)) := h
theorem d_set (C : Ctx X Θ k lx) (i : Nat) {pos' : Pos} (he : PE X e (dE Θ E ia)) (hs : swapsWith e (some (.Name x pos')) pos.line X.env = pure false := by rfl) (hN : X.N[i]? = some x := by rfl) (hx : Loc X.env.scope x := by first | exact Or.inl rfl | exact Or.inr rfl)
    (hf : X.fn x = true ∨ X.env.scope.names.lookup x = some .local := by first | exact .inl rfl | exact .inr rfl) : PS X (.Assign [.Name x pos'] e pos) (dS Θ E (.set i ia)) := ps_set C.nd hN hx he hs hf
theorem d_setO (C : Ctx X Θ k lx) (i : Nat) {pos' : Pos} (he : PE X e (dE Θ E ia)) (hs : swapsWith e (some (.Name x pos')) pos.line X.env = pure false := by rfl) (hN : X.N[i]? = some x := by rfl) (hx : Loc X.env.scope x := by first | exact Or.inl rfl | exact Or.inr rfl)
    (hf : X.fn x = true ∨ X.env.scope.names.lookup x = some .local := by first | exact .inl rfl | exact .inr rfl) : PS X (.Assign [.Name x pos'] e pos) (dS Θ E (.setO i ia)) := ps_set C.nd hN hx he hs hf
theorem d_asg (he : PE X e (dE Θ E ia)) (hg : PG X tg (dG Θ.c.K itg)) (hs : swapsWithSole [tg] e pos.line X.env = pure false := by rfl) (hw : swappedStores [tg] e X.env = pure none := by rfl) (h1 : (assignEach [tg] X.env).map (·.2) = [assign tg X.env] := by rfl) :
    PS X (.Assign [tg] e pos) (dS Θ E (.asg itg ia)) := ps_asg he hg hs hw h1
theorem d_par (C : Ctx X Θ k lx) (i j : Nat) {oi oj : Bool} {y : Str} {px py pt pt2 : Pos} {kt k2 : Nat} (ha : PE X a (dE Θ E ia)) (hb : PE X b (dE Θ E ib)) (hij : i ≠ j := by decide) (hi : X.N[i]? = some x := by rfl) (hj : X.N[j]? = some y := by rfl)
    (hx : X.env.scope.names.lookup x = some .local := by rfl) (hy : X.env.scope.names.lookup y = some .local := by rfl) (hw : swappedStores [.Tuple [.Name x px, .Name y py] kt pt] (.Tuple [a, b] k2 pt2) X.env = pure (some [x, y]) := by rfl)
    (hs : swapsWithSole [.Tuple [.Name x px, .Name y py] kt pt] (.Tuple [a, b] k2 pt2) pos.line X.env = pure false := by rfl) (h1 : starEach [a, b] X.env = (false, eval a X.env) :: starEach [b] X.env := by rfl) (h2 : starEach [b] X.env = (false, eval b X.env) :: starEach [] X.env := by rfl) :
    PS X (.Assign [.Tuple [.Name x px, .Name y py] kt pt] (.Tuple [a, b] k2 pt2) pos) (dS Θ E (.par i j oi oj ia ib)) := ps_par C.calm C.nd hi hj hij hx hy (pa_cons ha (pa_cons hb pa_nil h2) h1) hw hs
theorem d_if {t : Expr} {p q : List Stmt} {it : Tx} {ip iq : Ss} (ht : PT X t (dT Θ E it)) (ha : PSs X p (dSs Θ E ip)) (hb : PSs X q (dSs Θ E iq)) : PS X (.If t p q pos) (dS Θ E (.ife it ip iq)) := ps_if ht ha hb
theorem d_ret (he : PE X e (dE Θ E ia)) : PS X (.Return (some e) pos) (dS Θ E (.ret ia)) := ps_ret he
theorem d_retN : PS X (.Return none pos) (dS Θ E .retN) := ps_retN
theorem d_par3 (C : Ctx X Θ k lx) (i j l : Nat) {oi oj ol : Bool} {y z : Str} {c : Expr} {px py pz pt pt2 : Pos} {kt k2 : Nat} (ha : PE X a (dE Θ E ia)) (hb : PE X b (dE Θ E ib)) (hc : PE X c (dE Θ E ic)) (hij : i ≠ j := by decide) (hil : i ≠ l := by decide) (hjl : j ≠ l := by decide) (hi : X.N[i]? = some x := by rfl) (hj : X.N[j]? = some y := by rfl) (hl : X.N[l]? = some z := by rfl)
    (hx : X.env.scope.names.lookup x = some .local := by rfl) (hy : X.env.scope.names.lookup y = some .local := by rfl) (hz : X.env.scope.names.lookup z = some .local := by rfl) (hw : swappedStores [.Tuple [.Name x px, .Name y py, .Name z pz] kt pt] (.Tuple [a, b, c] k2 pt2) X.env = pure (some [x, y, z]) := by rfl)
    (hs : swapsWithSole [.Tuple [.Name x px, .Name y py, .Name z pz] kt pt] (.Tuple [a, b, c] k2 pt2) pos.line X.env = pure false := by rfl) (h1 : starEach [a, b, c] X.env = (false, eval a X.env) :: starEach [b, c] X.env := by rfl) (h2 : starEach [b, c] X.env = (false, eval b X.env) :: starEach [c] X.env := by rfl) (h3 : starEach [c] X.env = (false, eval c X.env) :: starEach [] X.env := by rfl) :
    PS X (.Assign [.Tuple [.Name x px, .Name y py, .Name z pz] kt pt] (.Tuple [a, b, c] k2 pt2) pos) (dS Θ E (.par3 i j l oi oj ol ia ib ic)) := ps_par3 C.calm C.nd hi hj hl hij hil hjl hx hy hz (pa_cons ha (pa_cons hb (pa_cons hc pa_nil h3) h2) h1) hw hs
theorem d_whl {t : Expr} {it : Tx} (hp : PassesOwn (model X.prog X.w) X.A X.env X.xe) (ht : PT X t (dT Θ E it)) (hb : PSs X sts (dSs Θ E iss)) : PS X (.While t sts [] pos) (dS Θ E (.whl it iss)) := ps_while hp ht hb
theorem d_for (C : Ctx X Θ k lx) (hp : PassesOwn (model X.prog X.w) X.A X.env X.xe) (hi : PI X tg iter (dI Θ E ii)) (hg : PG X tg (dG Θ.c.K itg)) (hb : PSs X sts (dSs Θ E iss)) (hs : ∀ x, foldedSetIterable iter X.env x = pure x := by intro _; rfl) :
    PS X (.For tg iter sts [] pos) (dS Θ E (.fr itg ii iss)) := ps_for hp C.calm hi hg hb hs
/-- xs.append(e) -/
theorem d_app (C : Ctx X Θ k lx) (i : Nat) {px : Pos} (ha : PE X e (dE Θ E ia)) (hN : X.N[i]? = some x := by rfl) (hv : Vis X.env.scope x := by first | exact Or.inl rfl | exact Or.inr (Or.inl rfl)) (hd : (x == ("__debug__" : Str)) = false := by decide) (hcd : (x == ("__classdict__" : Str)) = false := by decide)
    (hbase : attributeBase (.Name x px) "append" X.env (eval (.Name x px) X.env) = eval (.Name x px) X.env := by rfl)
    (hfew : ((backTo pos (starEach [e] X.env)).all (fun x => !x.1) && (backToKw pos (keywordEach [] X.env)).all (fun x => x.1.isSome) && decide ([e].length + ([] : List Keyword).length + (if ([] : List Keyword).isEmpty then 0 else 1) < 30)) = true := by rfl)
    (hline : (apos.endLine == pos.line) = true := by rfl) (hs : starEach [e] X.env = (false, eval e X.env) :: starEach [] X.env := by rfl) (hpl : (backTo pos (starEach [] X.env)).any (·.1) = false := by rfl) {spos : Pos}
    (hsw : swapsWith (.Call (.Attribute (.Name x px) "append" apos) [e] [] pos) none spos.line X.env = pure false := by rfl) :
    PS X (.Expr (.Call (.Attribute (.Name x px) "append" apos) [e] [] pos) spos) (dS Θ E (.app i ia)) := by
  have q := pe_bm PySem.F.plainAttrs_list PySem.F.slot_list_append PySem.F.type_list_append (mt_append (X := X)) (pe_var (pos := px) hN hv hd hcd) (pa_cons ha pa_nil hs) hbase hfew hline hs hpl
  rw [C.K] at q
  exact ps_expr q hsw
/-- xs.extend(e) -/
theorem d_ext (C : Ctx X Θ k lx) (i : Nat) {px : Pos} (ha : PE X e (dE Θ E ia)) (hN : X.N[i]? = some x := by rfl) (hv : Vis X.env.scope x := by first | exact Or.inl rfl | exact Or.inr (Or.inl rfl)) (hd : (x == ("__debug__" : Str)) = false := by decide) (hcd : (x == ("__classdict__" : Str)) = false := by decide)
    (hbase : attributeBase (.Name x px) "extend" X.env (eval (.Name x px) X.env) = eval (.Name x px) X.env := by rfl)
    (hfew : ((backTo pos (starEach [e] X.env)).all (fun x => !x.1) && (backToKw pos (keywordEach [] X.env)).all (fun x => x.1.isSome) && decide ([e].length + ([] : List Keyword).length + (if ([] : List Keyword).isEmpty then 0 else 1) < 30)) = true := by rfl)
    (hline : (apos.endLine == pos.line) = true := by rfl) (hs : starEach [e] X.env = (false, eval e X.env) :: starEach [] X.env := by rfl) (hpl : (backTo pos (starEach [] X.env)).any (·.1) = false := by rfl) {spos : Pos}
    (hsw : swapsWith (.Call (.Attribute (.Name x px) "extend" apos) [e] [] pos) none spos.line X.env = pure false := by rfl) :
    PS X (.Expr (.Call (.Attribute (.Name x px) "extend" apos) [e] [] pos) spos) (dS Θ E (.ext i ia)) := by
  have q := pe_bm PySem.F.plainAttrs_list PySem.F.slot_list_extend PySem.F.type_list_extend (mt_extend (X := X)) (pe_var (pos := px) hN hv hd hcd) (pa_cons ha pa_nil hs) hbase hfew hline hs hpl
  rw [C.K] at q
  exact ps_expr q hsw
/-- xs.pop() -/
theorem d_pop (C : Ctx X Θ k lx) (i : Nat) {px : Pos} (hN : X.N[i]? = some x := by rfl) (hv : Vis X.env.scope x := by first | exact Or.inl rfl | exact Or.inr (Or.inl rfl)) (hd : (x == ("__debug__" : Str)) = false := by decide) (hcd : (x == ("__classdict__" : Str)) = false := by decide)
    (hbase : attributeBase (.Name x px) "pop" X.env (eval (.Name x px) X.env) = eval (.Name x px) X.env := by rfl)
    (hline : (apos.endLine == pos.line) = true := by rfl) {spos : Pos}
    (hsw : swapsWith (.Call (.Attribute (.Name x px) "pop" apos) [] [] pos) none spos.line X.env = pure false := by rfl) :
    PS X (.Expr (.Call (.Attribute (.Name x px) "pop" apos) [] [] pos) spos) (dS Θ E (.pop i)) := by
  have q := pe_bm0 PySem.F.plainAttrs_list PySem.F.slot_list_pop PySem.F.type_list_pop (mt_pop (X := X)) (pe_var (pos := px) hN hv hd hcd) hbase hline
  rw [C.K] at q
  exact ps_expr q hsw
/-- xs[b] = e, xs an own list -/
theorem d_iset (C : Ctx X Θ k lx) (i : Nat) {px tpos : Pos} (he : PE X e (dE Θ E ia)) (hb : PE X b (dE Θ E ib)) (hN : X.N[i]? = some x := by rfl) (hv : Vis X.env.scope x := by first | exact Or.inl rfl | exact Or.inr (Or.inl rfl) | exact Or.inr (Or.inr rfl)) (hd : (x == ("__debug__" : Str)) = false := by decide)
    (hcd : (x == ("__classdict__" : Str)) = false := by decide)
    (ha : ∀ v, assign (.Subscript (.Name x px) b tpos) X.env v = (do
      let ov ← holding [v] (eval (.Name x px) X.env)
      let iv ← holding [v, ov] (eval b X.env)
      standAt tpos
      holding [v, ov, iv] (setItem ov iv v)
      release [v, ov, iv] []) := by intro _; rfl)
    (hs : swapsWithSole [.Subscript (.Name x px) b tpos] e pos.line X.env = pure false := by rfl) (hw : swappedStores [.Subscript (.Name x px) b tpos] e X.env = pure none := by rfl)
    (h1 : (assignEach [.Subscript (.Name x px) b tpos] X.env).map (·.2) = [assign (.Subscript (.Name x px) b tpos) X.env] := by rfl) :
    PS X (.Assign [.Subscript (.Name x px) b tpos] e pos) (dS Θ E (.iset i ib ia)) :=
  ps_asg he (pg_sub (pe_var hN hv hd hcd) hb set_list ha) hs hw h1
theorem PE.conv {t t' : TE} (h : PE X e t) (i : ∀ σ H Q, t' σ H Q → t σ H Q) : PE X e t' := ⟨fun pins s σ H Q I q => h.run pins s σ H Q I (i _ _ _ q)⟩
theorem PS.conv {st : Stmt} {t t' : TS} (h : PS X st t) (i : ∀ D σ H, t' D σ H → t D σ H) : PS X st t' := ⟨fun pins s σ H D I q => h.run pins s σ H D I (i _ _ _ q)⟩
/-- name += a written number -/
theorem d_augI (C : Ctx X Θ k lx) (i : Nat) {j : Int} {m : Nat} {p2 pos' : Pos} (hN : X.N[i]? = some x := by rfl) (hx : Loc X.env.scope x := by first | exact Or.inl rfl | exact Or.inr rfl) (hf : X.fn x = true ∨ X.env.scope.names.lookup x = some .local := by first | exact .inl rfl | exact .inr rfl) :
    PS X (.AugAssign (.Name x pos') .Add (.Constant (.int j) m p2) pos) (dS Θ E (.set i (.op2 .add (.var i) (.lit (.int j))))) := by
  refine PS.conv (ps_aug C.nd hN hx (pe_int (i := j)) ip_add hf) fun D σ H q => ?_
  obtain ⟨v, h1, h2⟩ := q
  refine ⟨v, h1, ?_⟩
  rcases h2 with ⟨a, b, e1, e2, h3⟩ | ⟨a, b, _, e2, _⟩ | ⟨a, b, _, _, _, e2, _⟩ | ⟨a, b, _, _, _, e2, _⟩
  · exact ⟨a, b, e1, e2, h3⟩
  · cases e2
  · cases e2
  · cases e2
theorem d_augD (C : Ctx X Θ k lx) (i : Nat) {j : Int} {m : Nat} {p2 pos' : Pos} (hN : X.N[i]? = some x := by rfl) (hx : Loc X.env.scope x := by first | exact Or.inl rfl | exact Or.inr rfl) (hf : X.fn x = true ∨ X.env.scope.names.lookup x = some .local := by first | exact .inl rfl | exact .inr rfl) :
    PS X (.AugAssign (.Name x pos') .Sub (.Constant (.int j) m p2) pos) (dS Θ E (.set i (.op2 .sub (.var i) (.lit (.int j))))) := by
  refine PS.conv (ps_aug C.nd hN hx (pe_int (i := j)) ip_sub hf) fun D σ H q => ?_
  obtain ⟨v, h1, h2⟩ := q
  refine ⟨v, h1, ?_⟩
  rcases h2 with ⟨a, b, e1, e2, h3⟩ | ⟨a, b, _, e2, _⟩
  · exact ⟨a, b, e1, e2, h3⟩
  · cases e2
/-- xs[n], xs the list of a slot -/
theorem d_bget (C : Ctx X Θ k lx) (i n : Nat) {m : Nat} {p2 : Pos} (hN : X.N[i]? = some x := by rfl) (hv : Vis X.env.scope x := by first | exact Or.inl rfl | exact Or.inr (Or.inl rfl) | exact Or.inr (Or.inr rfl)) (hd : (x == ("__debug__" : Str)) = false := by decide)
    (hcd : (x == ("__classdict__" : Str)) = false := by decide) (hs : PlainIx (.Constant (.int (n : Int)) m p2) := by exact fun _ _ => rfl) : PE X (.Subscript (.Name x p) (.Constant (.int (n : Int)) m p2) pos) (dE Θ E (.bget i n)) :=
  pe_ix (C.K ▸ ix_list) (pe_var hN hv hd hcd) pe_int hs
/-- .. stored -/
theorem d_bset (C : Ctx X Θ k lx) (i n : Nat) {m : Nat} {p2 tpos : Pos} (he : PE X e (dE Θ E ia)) (hN : X.N[i]? = some x := by rfl) (hv : Vis X.env.scope x := by first | exact Or.inl rfl | exact Or.inr (Or.inl rfl) | exact Or.inr (Or.inr rfl)) (hd : (x == ("__debug__" : Str)) = false := by decide)
    (hcd : (x == ("__classdict__" : Str)) = false := by decide)
    (ha : ∀ v, assign (.Subscript (.Name x p) (.Constant (.int (n : Int)) m p2) tpos) X.env v = (do
      let ov ← holding [v] (eval (.Name x p) X.env)
      let iv ← holding [v, ov] (eval (.Constant (.int (n : Int)) m p2) X.env)
      standAt tpos
      holding [v, ov, iv] (setItem ov iv v)
      release [v, ov, iv] []) := by intro _; rfl)
    (hs : swapsWithSole [.Subscript (.Name x p) (.Constant (.int (n : Int)) m p2) tpos] e pos.line X.env = pure false := by rfl) (hw : swappedStores [.Subscript (.Name x p) (.Constant (.int (n : Int)) m p2) tpos] e X.env = pure none := by rfl)
    (h1 : (assignEach [.Subscript (.Name x p) (.Constant (.int (n : Int)) m p2) tpos] X.env).map (·.2) = [assign (.Subscript (.Name x p) (.Constant (.int (n : Int)) m p2) tpos) X.env] := by rfl) :
    PS X (.Assign [.Subscript (.Name x p) (.Constant (.int (n : Int)) m p2) tpos] e pos) (dS Θ E (.bset i n ia)) :=
  ps_asg he (pg_sub (pe_var hN hv hd hcd) pe_int set_list ha) hs hw h1
theorem get_list : PGet X (rIxL X.K) := by
  intro pins s σ H x y v u Q I rx ry h
  obtain ⟨p, xs, i, z, rfl, rfl, hq, he, q⟩ := h
  cases rx
  obtain ⟨t, rfl⟩ := ry
  obtain ⟨its, r, pl, hz⟩ := I.list hq
  obtain ⟨j, h1, h2, h3, h4, h5⟩ := atI_get he
  obtain ⟨w, ew, rw'⟩ := r.get h2
  have hl := r.length
  have hn := line63
  have fin : EP X pins σ Q w s := ⟨z, H, I, rw', q⟩
  by_cases h0 : 0 ≤ i
  · have hj : i.toNat = j := by
      rw [seqIndex_of h0 h5] at h1
      exact Option.some.inj h1
    exact wpAny_getItem_list pl.isList h0 (by omega) (by rw [hj]; simpa using ew) fin
  · have hj : (i + (its.toArray.size : Int)).toNat = j := by
      rw [seqIndex_neg (by omega) h4] at h1
      rw [List.size_toArray, ← hl]
      exact Option.some.inj h1
    exact wpAny_getItem_list_neg pl.isList (by omega) (by rw [List.size_toArray] <;> omega) (by omega) (by rw [hj]; simpa using ew) fin
/-- xs[n] += a written number -/
theorem d_baug (C : Ctx X Θ k lx) (i n : Nat) {m m2 : Nat} {j : Int} {p2 p3 tpos : Pos} (_ : PE X (.Constant (.int j) m2 p3) (dE Θ E (.lit (.int j)))) (hN : X.N[i]? = some x := by rfl) (hv : Vis X.env.scope x := by first | exact Or.inl rfl | exact Or.inr (Or.inl rfl) | exact Or.inr (Or.inr rfl)) (hd : (x == ("__debug__" : Str)) = false := by decide)
    (hcd : (x == ("__classdict__" : Str)) = false := by decide)
    (ha : ∀ ov iv new, augStore (.Constant (.int (n : Int)) m p2) ov iv new = (do holding [new, ov, iv] (setItem ov iv new); release [new, ov, iv] []; pure .next) := by intros; rfl) :
    PS X (.AugAssign (.Subscript (.Name x p) (.Constant (.int (n : Int)) m p2) tpos) .Add (.Constant (.int j) m2 p3) pos) (dS Θ E (.bset i n (.op2 .add (.bget i n) (.lit (.int j))))) := by
  refine PS.conv (ps_augS (pe_var hN hv hd hcd) pe_int (C.K ▸ get_list) pe_int ip_add set_list ha) fun D σ H q => ?_
  obtain ⟨o, h1, h2⟩ := q
  obtain ⟨p, xs, i', v, rfl, e2, h3, h4, h5⟩ := h2
  have e2' := V.int.inj e2
  subst e2'
  rcases h5 with ⟨l, r, e5, e6, o', h7, h8⟩ | ⟨a, b, _, e6, _⟩ | ⟨a, b, _, _, _, e6, _⟩ | ⟨a, b, _, _, _, e6, _⟩
  · rw [h1] at h7
    have e7 := Option.some.inj (Option.some.inj h7)
    subst e7
    exact ⟨_, h1, _, xs, _, v, rfl, rfl, h3, h4, l, r, e5, e6, h8⟩
  · cases e6
  · cases e6
  · cases e6
end
end G

/-! The forms of the law's defs (printed by wip/tools/gen2.py), what they reckon. -/
namespace G
open PySem PySem.Spec PyProof.Rows L2
/-- is_number -/
def ir0 : Ss := (.cons (.ret (.andV (.isi "int" (.var 0)) (.notV (.isi "bool" (.var 0))))) .nil)
/-- gcd -/
def ir1 : Ss := (.cons (.par 2 3 false false (.blt .abs (.var 0)) (.blt .abs (.var 1))) (.cons (.whl (.val (.op2 .ne (.var 3) (.lit (.int 0)))) (.cons (.par 2 3 false false (.var 3) (.op2 .sub (.var 2) (.op2 .mul (.op2 .fdv (.var 2) (.var 3)) (.var 3)))) .nil)) (.cons (.ret (.var 2)) .nil)))
/-- fraction -/
def ir2 : Ss := (.cons (.ife (.val (.op2 .eq (.var 1) (.lit (.int 0)))) (.cons (.rse0 0) .nil) .nil) (.cons (.set 2 (.call 1 (.cons (.var 0) (.cons (.var 1) .nil)))) (.cons (.set 2 (.ite (.val (.op2 .lt (.var 1) (.lit (.int 0)))) (.op2 .sub (.lit (.int 0)) (.var 2)) (.var 2))) (.cons (.ret (.tup (.cons (.op2 .fdv (.var 0) (.var 2)) (.cons (.op2 .fdv (.var 1) (.var 2)) .nil)))) .nil))))
/-- whole -/
def ir3 : Ss := (.cons (.ret (.tup (.cons (.var 0) (.cons (.lit (.int 1)) .nil)))) .nil)
/-- plus -/
def ir4 : Ss := (.cons (.ret (.call 2 (.cons (.op2 .add (.op2 .mul (.op2 .ix (.var 0) (.lit (.int 0))) (.op2 .ix (.var 1) (.lit (.int 1)))) (.op2 .mul (.op2 .ix (.var 1) (.lit (.int 0))) (.op2 .ix (.var 0) (.lit (.int 1))))) (.cons (.op2 .mul (.op2 .ix (.var 0) (.lit (.int 1))) (.op2 .ix (.var 1) (.lit (.int 1)))) .nil)))) .nil)
/-- negative -/
def ir5 : Ss := (.cons (.ret (.tup (.cons (.op2 .sub (.lit (.int 0)) (.op2 .ix (.var 0) (.lit (.int 0)))) (.cons (.op2 .ix (.var 0) (.lit (.int 1))) .nil)))) .nil)
/-- less -/
def ir6 : Ss := (.cons (.ret (.call 4 (.cons (.var 0) (.cons (.call 5 (.cons (.var 1) .nil)) .nil)))) .nil)
/-- times -/
def ir7 : Ss := (.cons (.ret (.call 2 (.cons (.op2 .mul (.op2 .ix (.var 0) (.lit (.int 0))) (.op2 .ix (.var 1) (.lit (.int 0)))) (.cons (.op2 .mul (.op2 .ix (.var 0) (.lit (.int 1))) (.op2 .ix (.var 1) (.lit (.int 1)))) .nil)))) .nil)
/-- over -/
def ir8 : Ss := (.cons (.ret (.call 2 (.cons (.op2 .mul (.op2 .ix (.var 0) (.lit (.int 0))) (.op2 .ix (.var 1) (.lit (.int 1)))) (.cons (.op2 .mul (.op2 .ix (.var 0) (.lit (.int 1))) (.op2 .ix (.var 1) (.lit (.int 0)))) .nil)))) .nil)
/-- sign -/
def ir9 : Ss := (.cons (.ret (.op2 .sub (.op2 .gt (.op2 .ix (.var 0) (.lit (.int 0))) (.lit (.int 0))) (.op2 .lt (.op2 .ix (.var 0) (.lit (.int 0))) (.lit (.int 0))))) .nil)
/-- compare -/
def ir10 : Ss := (.cons (.ret (.call 9 (.cons (.call 6 (.cons (.var 0) (.cons (.var 1) .nil))) .nil))) .nil)
/-- floor_of -/
def ir11 : Ss := (.cons (.ret (.op2 .fdv (.op2 .ix (.var 0) (.lit (.int 0))) (.op2 .ix (.var 0) (.lit (.int 1))))) .nil)
/-- slopes_of -/
def ir12 : Ss := (.cons (.asg (.tup (.cons (.name 1) (.cons (.name 2) .nil))) (.var 0)) (.cons (.set 3 (.lcN (.call 8 (.cons (.call 6 (.cons (.op2 .ix (.var 5) (.lit (.int 1))) (.cons (.op2 .ix (.var 4) (.lit (.int 1))) .nil))) (.cons (.call 6 (.cons (.op2 .ix (.var 5) (.lit (.int 0))) (.cons (.op2 .ix (.var 4) (.lit (.int 0))) .nil))) .nil))) (.tup (.cons (.name 4) (.cons (.name 5) .nil))) (.zip (.var 1) (.sl (.var 1) (.cons (.lit (.int 1)) .nil) .nil)) [4, 5])) (.cons (.ret (.op2 .add (.var 3) (.lst (.cons (.var 2) .nil)))) .nil)))
/-- piece_at -/
def ir13 : Ss := (.cons (.set 3 (.lit (.int 0))) (.cons (.whl (.and (.val (.op2 .lt (.op2 .add (.var 3) (.lit (.int 1))) (.blt .len (.op2 .ix (.var 0) (.lit (.int 0)))))) (.val (.op2 .le (.call 10 (.cons (.op2 .ix (.op2 .ix (.op2 .ix (.var 0) (.lit (.int 0))) (.op2 .add (.var 3) (.lit (.int 1)))) (.var 2)) (.cons (.var 1) .nil))) (.lit (.int 0))))) (.cons (.set 3 (.op2 .add (.var 3) (.lit (.int 1)))) .nil)) (.cons (.ret (.var 3)) .nil)))
/-- time_of -/
def ir14 : Ss := (.cons (.set 2 (.call 13 (.cons (.var 0) (.cons (.var 1) (.cons (.lit (.int 1)) .nil))))) (.cons (.asg (.tup (.cons (.name 3) (.cons (.name 4) .nil))) (.op2 .ix (.op2 .ix (.var 0) (.lit (.int 0))) (.var 2))) (.cons (.ret (.call 4 (.cons (.var 3) (.cons (.call 8 (.cons (.call 6 (.cons (.var 1) (.cons (.var 4) .nil))) (.cons (.op2 .ix (.call 12 (.cons (.var 0) .nil)) (.var 2)) .nil))) .nil)))) .nil)))
/-- slope_at -/
def ir15 : Ss := (.cons (.ret (.op2 .ix (.call 12 (.cons (.var 0) .nil)) (.call 13 (.cons (.var 0) (.cons (.var 1) (.cons (.lit (.int 0)) .nil)))))) .nil)
/-- least_clock -/
def ir16 : Ss := (.cons (.asg (.tup (.cons (.name 1) (.cons (.name 2) .nil))) (.tup (.cons (.call 12 (.cons (.var 0) .nil)) (.cons (.op2 .ix (.var 0) (.lit (.int 0))) .nil)))) (.cons (.set 3 (.lcfN (.op2 .ix (.var 2) (.var 4)) (.name 4) (.range (.blt .len (.var 2))) (.or (.val (.op2 .eq (.var 4) (.lit (.int 0)))) (.val (.op2 .ne (.op2 .ix (.var 1) (.op2 .sub (.var 4) (.lit (.int 1)))) (.op2 .ix (.var 1) (.var 4))))) [4])) (.cons (.ret (.tup (.cons (.blt .tup (.var 3)) (.cons (.op2 .ix (.var 0) (.lit (.int 1))) .nil)))) .nil)))
/-- is_straight -/
def ir17 : Ss := (.cons (.ret (.op2 .eq (.blt .len (.op2 .ix (.call 16 (.cons (.var 0) .nil)) (.lit (.int 0)))) (.lit (.int 1)))) .nil)
/-- poly_of -/
def ir18 : Ss := (.cons (.set 1 (.blt .len (.var 0))) (.cons (.whl (.and (.val (.op2 .gt (.var 1) (.lit (.int 0)))) (.val (.op2 .eq (.op2 .ix (.op2 .ix (.var 0) (.op2 .sub (.var 1) (.lit (.int 1)))) (.lit (.int 0))) (.lit (.int 0))))) (.cons (.set 1 (.op2 .sub (.var 1) (.lit (.int 1)))) .nil)) (.cons (.ret (.blt .tup (.sl (.var 0) .nil (.cons (.var 1) .nil)))) .nil)))
/-- constant_poly -/
def ir19 : Ss := (.cons (.ret (.call 18 (.cons (.tup (.cons (.var 0) .nil)) .nil))) .nil)
/-- degree -/
def ir20 : Ss := (.cons (.ret (.op2 .sub (.blt .len (.var 0)) (.lit (.int 1)))) .nil)
/-- value -/
def ir21 : Ss := (.cons (.set 2 (.tup (.cons (.lit (.int 0)) (.cons (.lit (.int 1)) .nil)))) (.cons (.fr (.name 3) (.tup (.rev (.var 0))) (.cons (.set 2 (.call 4 (.cons (.call 7 (.cons (.var 2) (.cons (.var 1) .nil))) (.cons (.var 3) .nil)))) .nil)) (.cons (.ret (.var 2)) .nil)))
/-- add -/
def ir22 : Ss := (.cons (.set 2 (.max2 (.blt .len (.var 0)) (.blt .len (.var 1)))) (.cons (.set 3 (.lc2 (.ite (.val (.op2 .lt (.var 4) (.blt .len (.var 5)))) (.op2 .ix (.var 5) (.var 4)) (.tup (.cons (.lit (.int 0)) (.cons (.lit (.int 1)) .nil)))) (.name 4) (.range (.var 2)) (.name 5) (.tup (.tup (.cons (.var 0) (.cons (.var 1) .nil)))) [4, 5] [5])) (.cons (.ret (.call 18 (.cons (.lc (.call 4 (.cons (.op2 .ix (.var 3) (.op2 .mul (.lit (.int 2)) (.var 4))) (.cons (.op2 .ix (.var 3) (.op2 .add (.op2 .mul (.lit (.int 2)) (.var 4)) (.lit (.int 1)))) .nil))) (.name 4) (.range (.var 2)) [4]) .nil))) .nil)))
/-- scaled -/
def ir23 : Ss := (.cons (.ret (.call 18 (.cons (.lc (.call 7 (.cons (.var 2) (.cons (.var 1) .nil))) (.name 2) (.tup (.var 0)) [2]) .nil))) .nil)
/-- check_degree -/
def ir24 : Ss := (.cons (.ife (.val (.op2 .gt (.var 0) (.glb 0))) (.cons (.rse2 1 ⟨#[119, 104, 97, 116]⟩ ⟨#[108, 105, 109, 105, 116]⟩ (.lit (.str ⟨#[100, 101, 103, 114, 101, 101]⟩)) (.glb 0)) .nil) .nil) .nil)
/-- multiply -/
def ir25 : Ss := (.cons (.ife (.or (.val (.op2 .eq (.var 0) (.tup .nil))) (.val (.op2 .eq (.var 1) (.tup .nil)))) (.cons (.ret (.tup .nil)) .nil) .nil) (.cons (.ex (.call 24 (.cons (.op2 .add (.call 20 (.cons (.var 0) .nil)) (.call 20 (.cons (.var 1) .nil))) .nil))) (.cons (.setO 2 (.op2 .mul (.lst (.cons (.tup (.cons (.lit (.int 0)) (.cons (.lit (.int 1)) .nil))) .nil)) (.op2 .sub (.op2 .add (.blt .len (.var 0)) (.blt .len (.var 1))) (.lit (.int 1))))) (.cons (.fr (.tup (.cons (.name 3) (.cons (.name 4) .nil))) (.enumT (.var 0)) (.cons (.fr (.tup (.cons (.name 5) (.cons (.name 6) .nil))) (.enumT (.var 1)) (.cons (.iset 2 (.op2 .add (.var 3) (.var 5)) (.call 4 (.cons (.oix 2 (.op2 .add (.var 3) (.var 5))) (.cons (.call 7 (.cons (.var 4) (.cons (.var 6) .nil))) .nil)))) .nil)) .nil)) (.frz 2 (.cons (.ret (.call 18 (.cons (.var 2) .nil))) .nil))))))
/-- put_in -/
def ir26 : Ss := (.cons (.ife (.and (.val (.op2 .gt (.call 20 (.cons (.var 0) .nil)) (.lit (.int 0)))) (.val (.op2 .gt (.call 20 (.cons (.var 1) .nil)) (.lit (.int 0))))) (.cons (.ex (.call 24 (.cons (.op2 .mul (.call 20 (.cons (.var 0) .nil)) (.call 20 (.cons (.var 1) .nil))) .nil))) .nil) .nil) (.cons (.set 2 (.tup .nil)) (.cons (.fr (.name 3) (.tup (.rev (.var 0))) (.cons (.set 2 (.call 22 (.cons (.call 25 (.cons (.var 2) (.cons (.var 1) .nil))) (.cons (.call 19 (.cons (.var 3) .nil)) .nil)))) .nil)) (.cons (.ret (.var 2)) .nil))))
/-- led -/
def ir27 : Ss := (.cons (.ret (.call 26 (.cons (.var 0) (.cons (.call 18 (.cons (.tup (.cons (.var 2) (.cons (.var 1) .nil))) .nil)) .nil)))) .nil)
/-- growth -/
def ir28 : Ss := (.cons (.ret (.call 18 (.cons (.sl (.lc (.call 7 (.cons (.var 2) (.cons (.call 3 (.cons (.var 1) .nil)) .nil))) (.tup (.cons (.name 1) (.cons (.name 2) .nil))) (.enumT (.var 0)) [1, 2]) (.cons (.lit (.int 1)) .nil) .nil) .nil))) .nil)
/-- constant -/
def ir29 : Ss := (.cons (.ret (.ite (.val (.op2 .ne (.call 9 (.cons (.var 0) .nil)) (.lit (.int 0)))) (.tup (.cons (.var 0) .nil)) (.tup .nil))) .nil)
/-- share -/
def ir30 : Ss := (.cons (.set 2 (.call 6 (.cons (.op2 .ix (.var 1) (.lit (.int 0))) (.cons (.op2 .ix (.var 0) (.lit (.int 0))) .nil)))) (.cons (.ret (.tup (.cons (.call 8 (.cons (.glb 2) (.cons (.var 2) .nil))) (.cons (.call 8 (.cons (.call 6 (.cons (.glb 1) (.cons (.op2 .ix (.var 0) (.lit (.int 0))) .nil))) (.cons (.var 2) .nil))) .nil)))) .nil))
/-- curve -/
def ir31 : Ss := (.cons (.par 4 5 false false (.call 6 (.cons (.op2 .ix (.var 1) (.lit (.int 0))) (.cons (.op2 .ix (.var 0) (.lit (.int 0))) .nil))) (.call 6 (.cons (.op2 .ix (.var 1) (.lit (.int 1))) (.cons (.op2 .ix (.var 0) (.lit (.int 1))) .nil)))) (.cons (.par 6 7 false false (.call 7 (.cons (.var 2) (.cons (.var 4) .nil))) (.call 7 (.cons (.var 3) (.cons (.var 4) .nil)))) (.cons (.set 8 (.call 6 (.cons (.call 7 (.cons (.tup (.cons (.lit (.int 3)) (.cons (.lit (.int 1)) .nil))) (.cons (.var 5) .nil))) (.cons (.call 4 (.cons (.call 7 (.cons (.tup (.cons (.lit (.int 2)) (.cons (.lit (.int 1)) .nil))) (.cons (.var 6) .nil))) (.cons (.var 7) .nil))) .nil)))) (.cons (.set 9 (.call 6 (.cons (.call 4 (.cons (.var 6) (.cons (.var 7) .nil))) (.cons (.call 7 (.cons (.tup (.cons (.lit (.int 2)) (.cons (.lit (.int 1)) .nil))) (.cons (.var 5) .nil))) .nil)))) (.cons (.ret (.lst (.cons (.op2 .ix (.var 0) (.lit (.int 1))) (.cons (.var 6) (.cons (.var 8) (.cons (.var 9) .nil)))))) .nil)))))
/-- trimmed -/
def ir32 : Ss := (.cons (.setO 1 (.blt .lst (.var 0))) (.cons (.whl (.and (.val (.oem 1)) (.val (.op2 .eq (.call 9 (.cons (.oix 1 (.neg (.lit (.int 1)))) .nil)) (.lit (.int 0))))) (.cons (.pop 1) .nil)) (.frz 1 (.cons (.ret (.blt .tup (.var 1))) .nil))))
/-- between -/
def ir33 : Ss := (.cons (.set 2 (.op2 .ix (.op2 .ix (.var 0) (.lit (.int 2))) (.lit (.int 0)))) (.cons (.ife (.val (.op2 .eq (.var 2) (.lit (.str ⟨#[104, 111, 108, 100]⟩)))) (.cons (.ret (.call 29 (.cons (.op2 .ix (.var 0) (.lit (.int 1))) .nil))) .nil) .nil) (.cons (.asg (.tup (.cons (.name 3) (.cons (.name 4) .nil))) (.call 30 (.cons (.var 0) (.cons (.var 1) .nil)))) (.cons (.ife (.val (.op2 .eq (.var 2) (.lit (.str ⟨#[99, 117, 114, 118, 101]⟩)))) (.cons (.ret (.call 27 (.cons (.call 32 (.cons (.call 31 (.cons (.var 0) (.cons (.var 1) (.cons (.op2 .ix (.op2 .ix (.var 0) (.lit (.int 2))) (.lit (.int 1))) (.cons (.op2 .ix (.op2 .ix (.var 0) (.lit (.int 2))) (.lit (.int 2))) .nil))))) .nil)) (.cons (.var 3) (.cons (.var 4) .nil))))) .nil) .nil) (.cons (.set 5 (.call 6 (.cons (.op2 .ix (.var 1) (.lit (.int 1))) (.cons (.op2 .ix (.var 0) (.lit (.int 1))) .nil)))) (.cons (.set 6 (.ite (.val (.op2 .eq (.var 2) (.lit (.str ⟨#[101, 97, 115, 101]⟩)))) (.glb 4) (.tup (.cons (.glb 1) (.cons (.glb 2) .nil))))) (.cons (.ret (.call 22 (.cons (.call 29 (.cons (.op2 .ix (.var 0) (.lit (.int 1))) .nil)) (.cons (.call 23 (.cons (.call 27 (.cons (.var 6) (.cons (.var 3) (.cons (.var 4) .nil)))) (.cons (.var 5) .nil))) .nil)))) .nil)))))))
/-- segment -/
def ir34 : Ss := (.cons (.set 2 (.op2 .ix (.var 0) (.lit (.int 0)))) (.cons (.ife (.or (.not (.val (.call 0 (.cons (.var 1) .nil)))) (.not (.val (.chain .le .lt (.lit (.int 0)) (.var 1) (.op2 .sub (.blt .len (.var 2)) (.lit (.int 1))))))) (.cons (.rse0 0) .nil) .nil) (.cons (.ret (.call 33 (.cons (.op2 .ix (.var 2) (.var 1)) (.cons (.op2 .ix (.var 2) (.op2 .add (.var 1) (.lit (.int 1)))) .nil)))) .nil)))
/-- round_of_track -/
def ir35 : Ss := (.cons (.ret (.ite (.val (.op2 .eq (.op2 .ix (.var 0) (.lit (.int 1))) (.lit (.str ⟨#[108, 111, 111, 112]⟩)))) (.call 6 (.cons (.op2 .ix (.op2 .ix (.op2 .ix (.var 0) (.lit (.int 0))) (.neg (.lit (.int 1)))) (.lit (.int 0))) (.cons (.op2 .ix (.op2 .ix (.op2 .ix (.var 0) (.lit (.int 0))) (.lit (.int 0))) (.lit (.int 0))) .nil))) (.lit .none))) .nil)
/-- folded_time -/
def ir36 : Ss := (.cons (.par 2 3 false false (.op2 .ix (.op2 .ix (.op2 .ix (.var 0) (.lit (.int 0))) (.lit (.int 0))) (.lit (.int 0))) (.call 35 (.cons (.var 0) .nil))) (.cons (.ife (.or (.val (.op2 .is (.var 3) (.lit .none))) (.val (.op2 .lt (.call 10 (.cons (.var 1) (.cons (.var 2) .nil))) (.lit (.int 0))))) (.cons (.ret (.var 1)) .nil) .nil) (.cons (.ret (.call 6 (.cons (.var 1) (.cons (.call 7 (.cons (.call 3 (.cons (.call 11 (.cons (.call 8 (.cons (.call 6 (.cons (.var 1) (.cons (.var 2) .nil))) (.cons (.var 3) .nil))) .nil)) .nil)) (.cons (.var 3) .nil))) .nil)))) .nil)))
/-- value_of -/
def ir37 : Ss := (.cons (.set 2 (.glb 1)) (.cons (.fr (.name 3) (.tup (.rev (.var 0))) (.cons (.set 2 (.call 4 (.cons (.call 7 (.cons (.var 2) (.cons (.var 1) .nil))) (.cons (.var 3) .nil)))) .nil)) (.cons (.ret (.var 2)) .nil)))
/-- value -/
def ir38 : Ss := (.cons (.par 2 1 false false (.op2 .ix (.var 0) (.lit (.int 0))) (.call 36 (.cons (.var 0) (.cons (.var 1) .nil)))) (.cons (.ife (.val (.op2 .le (.call 10 (.cons (.var 1) (.cons (.op2 .ix (.op2 .ix (.var 2) (.lit (.int 0))) (.lit (.int 0))) .nil))) (.lit (.int 0)))) (.cons (.ret (.op2 .ix (.op2 .ix (.var 2) (.lit (.int 0))) (.lit (.int 1)))) .nil) .nil) (.cons (.fr (.tup (.cons (.name 3) (.cons (.name 4) .nil))) (.zip (.var 2) (.sl (.var 2) (.cons (.lit (.int 1)) .nil) .nil)) (.cons (.ife (.val (.op2 .lt (.call 10 (.cons (.var 1) (.cons (.op2 .ix (.var 4) (.lit (.int 0))) .nil))) (.lit (.int 0)))) (.cons (.ret (.ite (.val (.op2 .gt (.call 10 (.cons (.var 1) (.cons (.op2 .ix (.var 3) (.lit (.int 0))) .nil))) (.lit (.int 0)))) (.call 37 (.cons (.call 33 (.cons (.var 3) (.cons (.var 4) .nil))) (.cons (.var 1) .nil))) (.op2 .ix (.var 3) (.lit (.int 1))))) .nil) .nil) .nil)) (.cons (.ret (.op2 .ix (.op2 .ix (.var 2) (.neg (.lit (.int 1)))) (.lit (.int 1)))) .nil))))
/-- marks_between -/
def ir39 : Ss := (.cons (.set 3 (.lcN (.op2 .ix (.var 4) (.lit (.int 1))) (.name 4) (.tup (.sl (.op2 .ix (.var 0) (.lit (.int 0))) (.cons (.lit (.int 1)) .nil) .nil)) [4])) (.cons (.ret (.lcf (.var 5) (.name 5) (.list (.var 3)) (.and (.val (.op2 .lt (.call 10 (.cons (.op2 .ix (.var 1) (.lit (.int 0))) (.cons (.var 5) .nil))) (.lit (.int 0)))) (.val (.op2 .lt (.call 10 (.cons (.var 5) (.cons (.op2 .ix (.var 2) (.lit (.int 0))) .nil))) (.lit (.int 0))))) [5])) .nil))
/-- slopes_between -/
def ir40 : Ss := (.cons (.set 4 (.call 15 (.cons (.var 0) (.cons (.call 14 (.cons (.var 0) (.cons (.var 2) .nil))) .nil)))) (.cons (.set 5 (.call 28 (.cons (.var 1) .nil))) (.cons (.ret (.tup (.cons (.lit (.str ⟨#[99, 117, 114, 118, 101]⟩)) (.cons (.call 7 (.cons (.call 21 (.cons (.var 5) (.cons (.var 2) .nil))) (.cons (.var 4) .nil))) (.cons (.call 7 (.cons (.call 21 (.cons (.var 5) (.cons (.var 3) .nil))) (.cons (.var 4) .nil))) .nil))))) .nil)))
/-- curve_between -/
def ir41 : Ss := (.cons (.ife (.or (.val (.op2 .inn (.op2 .ix (.op2 .ix (.var 1) (.lit (.int 2))) (.lit (.int 0))) (.tup (.cons (.lit (.str ⟨#[104, 111, 108, 100]⟩)) (.cons (.lit (.str ⟨#[108, 105, 110, 101]⟩)) .nil))))) (.and (.val (.op2 .eq (.op2 .ix (.op2 .ix (.var 1) (.lit (.int 2))) (.lit (.int 0))) (.lit (.str ⟨#[101, 97, 115, 101]⟩)))) (.val (.op2 .eq (.var 3) (.lst .nil))))) (.cons (.ret (.op2 .ix (.var 1) (.lit (.int 2)))) .nil) .nil) (.cons (.ret (.call 40 (.cons (.var 0) (.cons (.var 2) (.cons (.var 4) (.cons (.var 5) .nil)))))) .nil))
/-- keys_between -/
def ir42 : Ss := (.cons (.par 3 4 false false (.op2 .ix (.op2 .ix (.var 1) (.lit (.int 0))) (.var 2)) (.op2 .ix (.op2 .ix (.var 1) (.lit (.int 0))) (.op2 .add (.var 2) (.lit (.int 1))))) (.cons (.set 5 (.ite (.val (.op2 .eq (.op2 .ix (.op2 .ix (.var 3) (.lit (.int 2))) (.lit (.int 0))) (.lit (.str ⟨#[104, 111, 108, 100]⟩)))) (.lst .nil) (.call 39 (.cons (.var 0) (.cons (.var 3) (.cons (.var 4) .nil)))))) (.cons (.par3 6 7 8 false false true (.call 34 (.cons (.var 1) (.cons (.var 2) .nil))) (.op2 .add (.op2 .add (.lst (.cons (.op2 .ix (.var 3) (.lit (.int 0))) .nil)) (.var 5)) (.lst (.cons (.op2 .ix (.var 4) (.lit (.int 0))) .nil))) (.lst .nil)) (.cons (.fr (.tup (.cons (.name 9) (.cons (.name 10) .nil))) (.zip (.var 7) (.sl (.var 7) (.cons (.lit (.int 1)) .nil) .nil)) (.cons (.set 11 (.ite (.val (.op2 .eq (.var 9) (.op2 .ix (.var 3) (.lit (.int 0))))) (.op2 .ix (.var 3) (.lit (.int 1))) (.call 38 (.cons (.var 1) (.cons (.var 9) .nil))))) (.cons (.app 8 (.tup (.cons (.call 14 (.cons (.var 0) (.cons (.var 9) .nil))) (.cons (.var 11) (.cons (.call 41 (.cons (.var 0) (.cons (.var 3) (.cons (.var 6) (.cons (.var 5) (.cons (.var 9) (.cons (.var 10) .nil))))))) .nil))))) .nil))) (.frz 8 (.cons (.ret (.var 8)) .nil))))))
/-- last_key -/
def ir43 : Ss := (.cons (.ife (.val (.op2 .ne (.op2 .ix (.op2 .ix (.var 1) (.lit (.int 2))) (.lit (.int 0))) (.lit (.str ⟨#[99, 117, 114, 118, 101]⟩)))) (.cons (.ret (.tup (.cons (.call 14 (.cons (.var 0) (.cons (.op2 .ix (.var 1) (.lit (.int 0))) .nil))) (.cons (.op2 .ix (.var 1) (.lit (.int 1))) (.cons (.op2 .ix (.var 1) (.lit (.int 2))) .nil))))) .nil) .nil) (.cons (.set 2 (.call 15 (.cons (.var 0) (.cons (.call 14 (.cons (.var 0) (.cons (.op2 .ix (.var 1) (.lit (.int 0))) .nil))) .nil)))) (.cons (.ret (.tup (.cons (.call 14 (.cons (.var 0) (.cons (.op2 .ix (.var 1) (.lit (.int 0))) .nil))) (.cons (.op2 .ix (.var 1) (.lit (.int 1))) (.cons (.tup (.cons (.lit (.str ⟨#[99, 117, 114, 118, 101]⟩)) (.cons (.call 7 (.cons (.op2 .ix (.op2 .ix (.var 1) (.lit (.int 2))) (.lit (.int 1))) (.cons (.var 2) .nil))) (.cons (.call 7 (.cons (.op2 .ix (.op2 .ix (.var 1) (.lit (.int 2))) (.lit (.int 2))) (.cons (.var 2) .nil))) .nil)))) .nil))))) .nil)))
/-- retimed_track -/
def ir44 : Ss := (.cons (.ife (.and (.val (.op2 .eq (.op2 .ix (.var 0) (.lit (.int 1))) (.lit (.str ⟨#[108, 111, 111, 112]⟩)))) (.not (.val (.call 17 (.cons (.var 1) .nil))))) (.cons (.rse0 0) .nil) .nil) (.cons (.setO 2 (.lst .nil)) (.cons (.fr (.name 3) (.range (.op2 .sub (.blt .len (.op2 .ix (.var 0) (.lit (.int 0)))) (.lit (.int 1)))) (.cons (.ext 2 (.call 42 (.cons (.var 1) (.cons (.var 0) (.cons (.var 3) .nil))))) .nil)) (.cons (.app 2 (.call 43 (.cons (.var 1) (.cons (.op2 .ix (.op2 .ix (.var 0) (.lit (.int 0))) (.neg (.lit (.int 1)))) .nil)))) (.cons (.ife (.val (.op2 .gt (.olen 2) (.glb 3))) (.cons (.rse2 1 ⟨#[119, 104, 97, 116]⟩ ⟨#[108, 105, 109, 105, 116]⟩ (.lit (.str ⟨#[107, 101, 121, 115]⟩)) (.glb 3)) .nil) .nil) (.frz 2 (.cons (.ret (.tup (.cons (.blt .tup (.var 2)) (.cons (.op2 .ix (.var 0) (.lit (.int 1))) .nil)))) .nil)))))))
/-- retimed -/
def ir45 : Ss := (.cons (.set 2 (.call 16 (.cons (.var 1) .nil))) (.cons (.ife (.and (.not (.val (.call 17 (.cons (.var 1) .nil)))) (.val (.blt .any (.lc2 (.op2 .eq (.op2 .ix (.var 4) (.lit (.int 1))) (.lit (.str ⟨#[108, 111, 111, 112]⟩))) (.name 3) (.tup (.var 0)) (.name 4) (.tup (.sl (.var 3) (.cons (.lit (.int 3)) .nil) .nil)) [3, 4] [4])))) (.cons (.rse0 0) .nil) .nil) (.cons (.ret (.blt .tup (.lc (.op2 .add (.sl (.var 3) .nil (.cons (.lit (.int 3)) .nil)) (.blt .tup (.lc (.call 44 (.cons (.var 4) (.cons (.var 2) .nil))) (.name 4) (.tup (.sl (.var 3) (.cons (.lit (.int 3)) .nil) .nil)) [4]))) (.name 3) (.tup (.var 0)) [3]))) .nil)))
/-- _law_take -/
def ir47 : Ss := (.cons (.ife (.val (.op2 .eq (.bget 0 0) (.lit (.int 0)))) (.cons (.set 2 (.op2 .ix (.op2 .add (.sl (.bget 0 3) (.cons (.bget 0 2) .nil) .nil) (.lst (.cons (.lit (.int 0)) .nil))) (.lit (.int 0)))) (.cons (.bset 0 2 (.op2 .add (.bget 0 2) (.lit (.int 1)))) (.cons (.ife (.val (.op2 .ge (.var 2) (.lit (.int 1000000000000000000)))) (.cons (.bset 0 0 (.var 2)) .nil) .nil) (.cons (.set 3 (.op2 .add (.op2 .add (.op2 .mul (.bget 0 1) (.lit (.int 48271))) (.op2 .mod (.blt .int (.var 2)) (.lit (.int 2147483647)))) (.op2 .mul (.lit (.int 7919)) (.bget 0 2)))) (.cons (.bset 0 1 (.op2 .mod (.blt .int (.var 3)) (.lit (.int 2147483647)))) .nil))))) .nil) (.cons (.ife (.val (.op2 .gt (.bget 0 0) (.lit (.int 0)))) (.cons (.set 4 (.op2 .mod (.blt .int (.bget 0 0)) (.var 1))) (.cons (.bset 0 0 (.op2 .fdv (.blt .int (.bget 0 0)) (.var 1))) (.cons (.ret (.var 4)) .nil))) .nil) (.cons (.set 5 (.op2 .mod (.blt .int (.op2 .mul (.op2 .add (.bget 0 1) (.lit (.int 1))) (.lit (.int 39373)))) (.lit (.int 1000000007)))) (.cons (.set 6 (.op2 .mod (.blt .int (.op2 .mul (.op2 .mod (.blt .int (.op2 .mul (.var 5) (.var 5))) (.lit (.int 998244353))) (.lit (.int 30011)))) (.lit (.int 998244353)))) (.cons (.ret (.op2 .mod (.blt .int (.op2 .fdv (.var 6) (.lit (.int 7)))) (.var 1))) .nil)))))
/-- _law_some -/
def ir48 : Ss := (.cons (.ret (.op2 .ix (.var 1) (.call 47 (.cons (.var 0) (.cons (.blt .len (.var 1)) .nil))))) .nil)
/-- _law_gcd -/
def ir50 : Ss := (.cons (.whl (.val (.op2 .ne (.var 1) (.lit (.int 0)))) (.cons (.par 0 1 false false (.var 1) (.op2 .mod (.var 0) (.var 1))) .nil)) (.cons (.ret (.blt .abs (.var 0))) .nil))
/-- _law_fraction -/
def ir51 : Ss := (.cons (.ife (.val (.op2 .lt (.var 1) (.lit (.int 0)))) (.cons (.par 0 1 false false (.neg (.var 0)) (.neg (.var 1))) .nil) .nil) (.cons (.set 2 (.call 50 (.cons (.var 0) (.cons (.var 1) .nil)))) (.cons (.ret (.tup (.cons (.op2 .fdv (.var 0) (.var 2)) (.cons (.op2 .fdv (.var 1) (.var 2)) .nil)))) .nil)))
/-- _law_plus -/
def ir52 : Ss := (.cons (.ret (.call 51 (.cons (.op2 .add (.op2 .mul (.op2 .ix (.var 0) (.lit (.int 0))) (.op2 .ix (.var 1) (.lit (.int 1)))) (.op2 .mul (.op2 .ix (.var 1) (.lit (.int 0))) (.op2 .ix (.var 0) (.lit (.int 1))))) (.cons (.op2 .mul (.op2 .ix (.var 0) (.lit (.int 1))) (.op2 .ix (.var 1) (.lit (.int 1)))) .nil)))) .nil)
/-- _law_times -/
def ir53 : Ss := (.cons (.ret (.call 51 (.cons (.op2 .mul (.op2 .ix (.var 0) (.lit (.int 0))) (.op2 .ix (.var 1) (.lit (.int 0)))) (.cons (.op2 .mul (.op2 .ix (.var 0) (.lit (.int 1))) (.op2 .ix (.var 1) (.lit (.int 1)))) .nil)))) .nil)
/-- _law_less -/
def ir54 : Ss := (.cons (.ret (.call 52 (.cons (.var 0) (.cons (.tup (.cons (.neg (.op2 .ix (.var 1) (.lit (.int 0)))) (.cons (.op2 .ix (.var 1) (.lit (.int 1))) .nil))) .nil)))) .nil)
/-- _law_over -/
def ir55 : Ss := (.cons (.ret (.call 51 (.cons (.op2 .mul (.op2 .ix (.var 0) (.lit (.int 0))) (.op2 .ix (.var 1) (.lit (.int 1)))) (.cons (.op2 .mul (.op2 .ix (.var 0) (.lit (.int 1))) (.op2 .ix (.var 1) (.lit (.int 0)))) .nil)))) .nil)
/-- _law_compare -/
def ir56 : Ss := (.cons (.par 2 3 false false (.op2 .mul (.op2 .ix (.var 0) (.lit (.int 0))) (.op2 .ix (.var 1) (.lit (.int 1)))) (.op2 .mul (.op2 .ix (.var 1) (.lit (.int 0))) (.op2 .ix (.var 0) (.lit (.int 1))))) (.cons (.ret (.op2 .sub (.op2 .gt (.var 2) (.var 3)) (.op2 .lt (.var 2) (.var 3)))) .nil))
/-- _law_sum -/
def ir57 : Ss := (.cons (.set 1 (.tup (.cons (.lit (.int 0)) (.cons (.lit (.int 1)) .nil)))) (.cons (.fr (.name 2) (.list (.var 0)) (.cons (.set 1 (.call 52 (.cons (.var 1) (.cons (.var 2) .nil)))) .nil)) (.cons (.ret (.var 1)) .nil)))
/-- _law_some_fraction -/
def ir58 : Ss := (.cons (.ret (.call 51 (.cons (.op2 .sub (.call 47 (.cons (.var 0) (.cons (.op2 .add (.op2 .mul (.lit (.int 2)) (.var 1)) (.lit (.int 1))) .nil))) (.var 1)) (.cons (.call 48 (.cons (.var 0) (.cons (.lst (.cons (.lit (.int 1)) (.cons (.lit (.int 1)) (.cons (.lit (.int 2)) (.cons (.lit (.int 2)) (.cons (.lit (.int 3)) (.cons (.lit (.int 4)) .nil))))))) .nil))) .nil)))) .nil)
/-- _law_poly -/
def ir59 : Ss := (.cons (.setO 1 (.blt .lst (.var 0))) (.cons (.whl (.and (.val (.oem 1)) (.val (.op2 .eq (.op2 .ix (.oix 1 (.neg (.lit (.int 1)))) (.lit (.int 0))) (.lit (.int 0))))) (.cons (.pop 1) .nil)) (.frz 1 (.cons (.ret (.blt .tup (.var 1))) .nil))))
/-- _law_add -/
def ir60 : Ss := (.cons (.setO 2 (.lst .nil)) (.cons (.fr (.name 3) (.range (.max2 (.blt .len (.var 0)) (.blt .len (.var 1)))) (.cons (.set 4 (.lcfN (.op2 .ix (.var 5) (.var 3)) (.name 5) (.tup (.tup (.cons (.var 0) (.cons (.var 1) .nil)))) (.val (.op2 .lt (.var 3) (.blt .len (.var 5)))) [5])) (.cons (.app 2 (.call 57 (.cons (.var 4) .nil))) .nil))) (.frz 2 (.cons (.ret (.call 59 (.cons (.var 2) .nil))) .nil))))
/-- _law_multiply -/
def ir61 : Ss := (.cons (.setO 2 (.op2 .mul (.lst (.cons (.tup (.cons (.lit (.int 0)) (.cons (.lit (.int 1)) .nil))) .nil)) (.op2 .add (.blt .len (.var 0)) (.blt .len (.var 1))))) (.cons (.fr (.tup (.cons (.name 3) (.cons (.name 4) .nil))) (.enumT (.var 0)) (.cons (.fr (.tup (.cons (.name 5) (.cons (.name 6) .nil))) (.enumT (.var 1)) (.cons (.iset 2 (.op2 .add (.var 3) (.var 5)) (.call 52 (.cons (.oix 2 (.op2 .add (.var 3) (.var 5))) (.cons (.call 53 (.cons (.var 4) (.cons (.var 6) .nil))) .nil)))) .nil)) .nil)) (.frz 2 (.cons (.ret (.call 59 (.cons (.var 2) .nil))) .nil))))
/-- _law_value -/
def ir62 : Ss := (.cons (.set 2 (.tup (.cons (.lit (.int 0)) (.cons (.lit (.int 1)) .nil)))) (.cons (.fr (.name 3) (.tup (.rev (.var 0))) (.cons (.set 2 (.call 52 (.cons (.call 53 (.cons (.var 2) (.cons (.var 1) .nil))) (.cons (.var 3) .nil)))) .nil)) (.cons (.ret (.var 2)) .nil)))
/-- _law_growth -/
def ir63 : Ss := (.cons (.ret (.call 59 (.cons (.lc (.call 53 (.cons (.tup (.cons (.var 1) (.cons (.lit (.int 1)) .nil))) (.cons (.op2 .ix (.var 0) (.var 1)) .nil))) (.name 1) (.range2 (.lit (.int 1)) (.blt .len (.var 0))) [1]) .nil))) .nil)
/-- _law_led -/
def ir64 : Ss := (.cons (.set 3 (.tup .nil)) (.cons (.fr (.name 4) (.tup (.rev (.var 0))) (.cons (.set 3 (.call 60 (.cons (.call 61 (.cons (.var 3) (.cons (.call 59 (.cons (.lst (.cons (.var 2) (.cons (.var 1) .nil))) .nil)) .nil))) (.cons (.call 59 (.cons (.lst (.cons (.var 4) .nil)) .nil)) .nil)))) .nil)) (.cons (.ret (.var 3)) .nil)))
/-- _law_segment -/
def ir65 : Ss := (.cons (.asg (.tup (.cons (.tup (.cons (.name 2) (.cons (.name 3) (.cons (.name 4) .nil)))) (.cons (.tup (.cons (.name 5) (.cons (.name 6) (.cons (.name 7) .nil)))) .nil))) (.tup (.cons (.op2 .ix (.op2 .ix (.var 0) (.lit (.int 0))) (.var 1)) (.cons (.op2 .ix (.op2 .ix (.var 0) (.lit (.int 0))) (.op2 .add (.var 1) (.lit (.int 1)))) .nil)))) (.cons (.par 8 9 false false (.call 54 (.cons (.var 5) (.cons (.var 2) .nil))) (.call 54 (.cons (.var 6) (.cons (.var 3) .nil)))) (.cons (.ife (.val (.op2 .eq (.op2 .ix (.var 4) (.lit (.int 0))) (.lit (.str ⟨#[104, 111, 108, 100]⟩)))) (.cons (.ret (.call 59 (.cons (.lst (.cons (.var 3) .nil)) .nil))) .nil) .nil) (.cons (.ife (.val (.op2 .eq (.op2 .ix (.var 4) (.lit (.int 0))) (.lit (.str ⟨#[108, 105, 110, 101]⟩)))) (.cons (.set 10 (.call 59 (.cons (.lst (.cons (.var 3) (.cons (.var 9) .nil))) .nil))) .nil) (.cons (.ife (.val (.op2 .eq (.op2 .ix (.var 4) (.lit (.int 0))) (.lit (.str ⟨#[101, 97, 115, 101]⟩)))) (.cons (.set 10 (.call 59 (.cons (.lst (.cons (.var 3) (.cons (.tup (.cons (.lit (.int 0)) (.cons (.lit (.int 1)) .nil))) (.cons (.call 53 (.cons (.tup (.cons (.lit (.int 3)) (.cons (.lit (.int 1)) .nil))) (.cons (.var 9) .nil))) (.cons (.call 53 (.cons (.tup (.cons (.neg (.lit (.int 2))) (.cons (.lit (.int 1)) .nil))) (.cons (.var 9) .nil))) .nil))))) .nil))) .nil) (.cons (.par 13 14 false false (.call 53 (.cons (.op2 .ix (.var 4) (.lit (.int 1))) (.cons (.var 8) .nil))) (.call 53 (.cons (.op2 .ix (.var 4) (.lit (.int 2))) (.cons (.var 8) .nil)))) (.cons (.set 11 (.call 54 (.cons (.call 53 (.cons (.tup (.cons (.lit (.int 3)) (.cons (.lit (.int 1)) .nil))) (.cons (.var 9) .nil))) (.cons (.call 52 (.cons (.call 53 (.cons (.tup (.cons (.lit (.int 2)) (.cons (.lit (.int 1)) .nil))) (.cons (.var 13) .nil))) (.cons (.var 14) .nil))) .nil)))) (.cons (.set 12 (.call 54 (.cons (.call 52 (.cons (.var 13) (.cons (.var 14) .nil))) (.cons (.call 53 (.cons (.tup (.cons (.lit (.int 2)) (.cons (.lit (.int 1)) .nil))) (.cons (.var 9) .nil))) .nil)))) (.cons (.set 10 (.call 59 (.cons (.lst (.cons (.var 3) (.cons (.var 13) (.cons (.var 11) (.cons (.var 12) .nil))))) .nil))) .nil))))) .nil)) (.cons (.set 15 (.call 55 (.cons (.tup (.cons (.lit (.int 1)) (.cons (.lit (.int 1)) .nil))) (.cons (.var 8) .nil)))) (.cons (.ret (.call 64 (.cons (.var 10) (.cons (.var 15) (.cons (.call 54 (.cons (.tup (.cons (.lit (.int 0)) (.cons (.lit (.int 1)) .nil))) (.cons (.call 53 (.cons (.var 2) (.cons (.var 15) .nil))) .nil))) .nil))))) .nil))))))
/-- _law_track -/
def ir66 : Ss := (.cons (.par3 4 5 6 false false true (.op2 .add (.lit (.int 1)) (.call 47 (.cons (.var 0) (.cons (.var 1) .nil)))) (.call 51 (.cons (.op2 .sub (.call 47 (.cons (.var 0) (.cons (.lit (.int 4)) .nil))) (.lit (.int 1))) (.cons (.lit (.int 2)) .nil))) (.lst .nil)) (.cons (.fr (.name 7) (.range (.var 4)) (.cons (.set 8 (.call 48 (.cons (.var 0) (.cons (.ite (.val (.op2 .eq (.var 3) (.lit (.int 0)))) (.lst (.cons (.tup (.cons (.lit (.str ⟨#[104, 111, 108, 100]⟩)) .nil)) (.cons (.tup (.cons (.lit (.str ⟨#[108, 105, 110, 101]⟩)) .nil)) (.cons (.tup (.cons (.lit (.str ⟨#[108, 105, 110, 101]⟩)) .nil)) (.cons (.tup (.cons (.lit (.str ⟨#[101, 97, 115, 101]⟩)) .nil)) .nil))))) (.lst (.cons (.tup (.cons (.lit (.str ⟨#[104, 111, 108, 100]⟩)) .nil)) (.cons (.tup (.cons (.lit (.str ⟨#[108, 105, 110, 101]⟩)) .nil)) .nil)))) .nil)))) (.cons (.ife (.and (.val (.op2 .eq (.var 3) (.lit (.int 0)))) (.val (.op2 .eq (.call 47 (.cons (.var 0) (.cons (.lit (.int 4)) .nil))) (.lit (.int 0))))) (.cons (.set 8 (.tup (.cons (.lit (.str ⟨#[99, 117, 114, 118, 101]⟩)) (.cons (.call 58 (.cons (.var 0) (.cons (.lit (.int 2)) .nil))) (.cons (.call 58 (.cons (.var 0) (.cons (.lit (.int 2)) .nil))) .nil))))) .nil) .nil) (.cons (.set 9 (.call 58 (.cons (.var 0) (.cons (.var 2) .nil)))) (.cons (.set 9 (.ite (.val (.op2 .eq (.var 3) (.lit (.int 0)))) (.var 9) (.call 51 (.cons (.call 47 (.cons (.var 0) (.cons (.op2 .add (.var 2) (.lit (.int 1))) .nil))) (.cons (.call 48 (.cons (.var 0) (.cons (.lst (.cons (.lit (.int 1)) (.cons (.lit (.int 2)) .nil))) .nil))) .nil))))) (.cons (.app 6 (.tup (.cons (.var 5) (.cons (.var 9) (.cons (.var 8) .nil))))) (.cons (.set 5 (.call 52 (.cons (.var 5) (.cons (.call 48 (.cons (.var 0) (.cons (.lst (.cons (.tup (.cons (.lit (.int 1)) (.cons (.lit (.int 1)) .nil))) (.cons (.tup (.cons (.lit (.int 1)) (.cons (.lit (.int 2)) .nil))) (.cons (.tup (.cons (.lit (.int 2)) (.cons (.lit (.int 1)) .nil))) .nil)))) .nil))) .nil)))) .nil))))))) (.frz 6 (.cons (.ret (.tup (.cons (.blt .tup (.var 6)) (.cons (.ite (.val (.op2 .gt (.var 4) (.lit (.int 1)))) (.call 48 (.cons (.var 0) (.cons (.lst (.cons (.lit (.str ⟨#[111, 110, 99, 101]⟩)) (.cons (.lit (.str ⟨#[111, 110, 99, 101]⟩)) (.cons (.lit (.str ⟨#[108, 111, 111, 112]⟩)) .nil)))) .nil))) (.lit (.str ⟨#[111, 110, 99, 101]⟩))) .nil)))) .nil))))
/-- _law_still -/
def ir67 : Ss := (.cons (.ret (.tup (.cons (.tup (.cons (.tup (.cons (.tup (.cons (.lit (.int 0)) (.cons (.lit (.int 1)) .nil))) (.cons (.var 0) (.cons (.tup (.cons (.lit (.str ⟨#[104, 111, 108, 100]⟩)) .nil)) .nil)))) .nil)) (.cons (.lit (.str ⟨#[111, 110, 99, 101]⟩)) .nil)))) .nil)
/-- _law_clock -/
def ir68 : Ss := (.cons (.par 1 2 true false (.lst (.cons (.tup (.cons (.tup (.cons (.lit (.int 0)) (.cons (.lit (.int 1)) .nil))) (.cons (.tup (.cons (.lit (.int 0)) (.cons (.lit (.int 1)) .nil))) .nil))) .nil)) (.lst (.cons (.tup (.cons (.lit (.int 1)) (.cons (.lit (.int 1)) .nil))) (.cons (.tup (.cons (.lit (.int 1)) (.cons (.lit (.int 2)) .nil))) (.cons (.tup (.cons (.lit (.int 2)) (.cons (.lit (.int 1)) .nil))) (.cons (.tup (.cons (.lit (.int 3)) (.cons (.lit (.int 1)) .nil))) (.cons (.tup (.cons (.lit (.int 3)) (.cons (.lit (.int 2)) .nil))) .nil))))))) (.cons (.fr (.name 3) (.range (.call 47 (.cons (.var 0) (.cons (.lit (.int 3)) .nil)))) (.cons (.asg (.tup (.cons (.name 5) (.cons (.name 6) .nil))) (.oix 1 (.neg (.lit (.int 1))))) (.cons (.set 4 (.call 48 (.cons (.var 0) (.cons (.lst (.cons (.tup (.cons (.lit (.int 1)) (.cons (.lit (.int 1)) .nil))) (.cons (.tup (.cons (.lit (.int 1)) (.cons (.lit (.int 2)) .nil))) (.cons (.tup (.cons (.lit (.int 2)) (.cons (.lit (.int 1)) .nil))) .nil)))) .nil)))) (.cons (.app 1 (.tup (.cons (.call 52 (.cons (.var 5) (.cons (.var 4) .nil))) (.cons (.call 52 (.cons (.var 6) (.cons (.call 53 (.cons (.var 4) (.cons (.call 48 (.cons (.var 0) (.cons (.var 2) .nil))) .nil))) .nil))) .nil)))) .nil)))) (.frz 1 (.cons (.ret (.tup (.cons (.blt .tup (.var 1)) (.cons (.call 48 (.cons (.var 0) (.cons (.var 2) .nil))) .nil)))) .nil))))
/-- _law_clock_slopes -/
def ir69 : Ss := (.cons (.ret (.op2 .add (.lc (.call 55 (.cons (.call 54 (.cons (.var 4) (.cons (.var 2) .nil))) (.cons (.call 54 (.cons (.var 3) (.cons (.var 1) .nil))) .nil))) (.tup (.cons (.tup (.cons (.name 1) (.cons (.name 2) .nil))) (.cons (.tup (.cons (.name 3) (.cons (.name 4) .nil))) .nil))) (.zip (.op2 .ix (.var 0) (.lit (.int 0))) (.sl (.op2 .ix (.var 0) (.lit (.int 0))) (.cons (.lit (.int 1)) .nil) .nil)) [1, 2, 3, 4]) (.lst (.cons (.op2 .ix (.var 0) (.lit (.int 1))) .nil)))) .nil)
/-- _law_shows -/
def ir70 : Ss := (.cons (.set 3 (.blt .max1 (.lcf (.var 4) (.tup (.cons (.name 4) (.cons (.name 5) .nil))) (.enumT (.op2 .ix (.var 0) (.lit (.int 0)))) (.or (.val (.op2 .eq (.var 4) (.lit (.int 0)))) (.val (.op2 .le (.call 56 (.cons (.op2 .ix (.var 5) (.var 2)) (.cons (.var 1) .nil))) (.lit (.int 0))))) [4, 5]))) (.cons (.set 6 (.op2 .ix (.call 69 (.cons (.var 0) .nil)) (.var 3))) (.cons (.set 7 (.call 54 (.cons (.var 1) (.cons (.op2 .ix (.op2 .ix (.op2 .ix (.var 0) (.lit (.int 0))) (.var 3)) (.var 2)) .nil)))) (.cons (.ret (.call 52 (.cons (.op2 .ix (.op2 .ix (.op2 .ix (.var 0) (.lit (.int 0))) (.var 3)) (.op2 .sub (.lit (.int 1)) (.var 2))) (.cons (.ite (.val (.op2 .eq (.var 2) (.lit (.int 0)))) (.call 53 (.cons (.var 7) (.cons (.var 6) .nil))) (.call 55 (.cons (.var 7) (.cons (.var 6) .nil)))) .nil)))) .nil))))
/-- _law_least_clock -/
def ir71 : Ss := (.cons (.set 1 (.call 69 (.cons (.var 0) .nil))) (.cons (.ret (.tup (.cons (.blt .tup (.lcf (.var 3) (.tup (.cons (.name 2) (.cons (.name 3) .nil))) (.enumT (.op2 .ix (.var 0) (.lit (.int 0)))) (.or (.val (.op2 .eq (.var 2) (.lit (.int 0)))) (.val (.op2 .ne (.op2 .ix (.var 1) (.op2 .sub (.var 2) (.lit (.int 1)))) (.op2 .ix (.var 1) (.var 2))))) [2, 3])) (.cons (.op2 .ix (.var 0) (.lit (.int 1))) .nil)))) .nil))
/-- _law_own_track -/
def ir73 : Ss := (.cons (.set 1 (.call 71 (.cons (.var 1) .nil))) (.cons (.par 2 3 false true (.op2 .ix (.var 0) (.lit (.int 0))) (.lst .nil)) (.cons (.set 4 (.call 69 (.cons (.var 1) .nil))) (.cons (.fr (.name 5) (.range (.op2 .sub (.blt .len (.var 2)) (.lit (.int 1)))) (.cons (.asg (.tup (.cons (.tup (.cons (.name 12) (.cons (.name 13) (.cons (.name 14) .nil)))) (.cons (.tup (.cons (.name 15) (.cons (.name 16) (.cons (.name 17) .nil)))) .nil))) (.tup (.cons (.op2 .ix (.var 2) (.var 5)) (.cons (.op2 .ix (.var 2) (.op2 .add (.var 5) (.lit (.int 1)))) .nil)))) (.cons (.set 6 (.lcfN (.var 20) (.tup (.cons (.name 19) (.cons (.name 20) .nil))) (.tup (.sl (.op2 .ix (.var 1) (.lit (.int 0))) (.cons (.lit (.int 1)) .nil) .nil)) (.and (.val (.op2 .ne (.op2 .ix (.var 14) (.lit (.int 0))) (.lit (.str ⟨#[104, 111, 108, 100]⟩)))) (.and (.val (.op2 .lt (.call 56 (.cons (.var 12) (.cons (.var 20) .nil))) (.lit (.int 0)))) (.val (.op2 .lt (.call 56 (.cons (.var 20) (.cons (.var 15) .nil))) (.lit (.int 0)))))) [19, 20])) (.cons (.asg (.tup (.cons (.name 7) (.cons (.name 8) .nil))) (.tup (.cons (.call 65 (.cons (.var 0) (.cons (.var 5) .nil))) (.cons (.op2 .add (.op2 .add (.lst (.cons (.var 12) .nil)) (.var 6)) (.lst (.cons (.var 15) .nil))) .nil)))) (.cons (.fr (.tup (.cons (.name 9) (.cons (.name 10) .nil))) (.zip (.var 8) (.sl (.var 8) (.cons (.lit (.int 1)) .nil) .nil)) (.cons (.set 11 (.var 14)) (.cons (.ife (.or (.val (.op2 .eq (.op2 .ix (.var 14) (.lit (.int 0))) (.lit (.str ⟨#[99, 117, 114, 118, 101]⟩)))) (.and (.val (.op2 .eq (.op2 .ix (.var 14) (.lit (.int 0))) (.lit (.str ⟨#[101, 97, 115, 101]⟩)))) (.val (.op2 .ne (.var 6) (.lst .nil))))) (.cons (.set 18 (.blt .max1 (.lcf (.var 21) (.tup (.cons (.name 21) (.cons (.name 22) .nil))) (.enumT (.op2 .ix (.var 1) (.lit (.int 0)))) (.or (.val (.op2 .eq (.var 21) (.lit (.int 0)))) (.val (.op2 .le (.call 56 (.cons (.op2 .ix (.var 22) (.lit (.int 1))) (.cons (.var 9) .nil))) (.lit (.int 0))))) [21, 22]))) (.cons (.set 11 (.op2 .add (.tup (.cons (.lit (.str ⟨#[99, 117, 114, 118, 101]⟩)) .nil)) (.blt .tup (.lc (.call 53 (.cons (.call 62 (.cons (.call 63 (.cons (.var 7) .nil)) (.cons (.var 23) .nil))) (.cons (.op2 .ix (.var 4) (.var 18)) .nil))) (.name 23) (.tup (.tup (.cons (.var 9) (.cons (.var 10) .nil)))) [23])))) .nil)) .nil) (.cons (.app 3 (.tup (.cons (.call 70 (.cons (.var 1) (.cons (.var 9) (.cons (.lit (.int 1)) .nil)))) (.cons (.ite (.val (.op2 .eq (.var 9) (.var 12))) (.var 13) (.call 62 (.cons (.var 7) (.cons (.var 9) .nil)))) (.cons (.var 11) .nil))))) .nil)))) .nil))))) (.cons (.asg (.tup (.cons (.name 12) (.cons (.name 13) (.cons (.name 14) .nil)))) (.op2 .ix (.var 2) (.neg (.lit (.int 1))))) (.cons (.ife (.val (.op2 .eq (.op2 .ix (.var 14) (.lit (.int 0))) (.lit (.str ⟨#[99, 117, 114, 118, 101]⟩)))) (.cons (.set 18 (.blt .max1 (.lcf (.var 21) (.tup (.cons (.name 21) (.cons (.name 22) .nil))) (.enumT (.op2 .ix (.var 1) (.lit (.int 0)))) (.or (.val (.op2 .eq (.var 21) (.lit (.int 0)))) (.val (.op2 .le (.call 56 (.cons (.op2 .ix (.var 22) (.lit (.int 1))) (.cons (.var 12) .nil))) (.lit (.int 0))))) [21, 22]))) (.cons (.set 14 (.tup (.cons (.lit (.str ⟨#[99, 117, 114, 118, 101]⟩)) (.cons (.call 53 (.cons (.op2 .ix (.var 14) (.lit (.int 1))) (.cons (.op2 .ix (.var 4) (.var 18)) .nil))) (.cons (.call 53 (.cons (.op2 .ix (.var 14) (.lit (.int 2))) (.cons (.op2 .ix (.var 4) (.var 18)) .nil))) .nil))))) .nil)) .nil) (.frz 3 (.cons (.ret (.tup (.cons (.blt .tup (.op2 .add (.var 3) (.lst (.cons (.tup (.cons (.call 70 (.cons (.var 1) (.cons (.var 12) (.cons (.lit (.int 1)) .nil)))) (.cons (.var 13) (.cons (.var 14) .nil)))) .nil)))) (.cons (.op2 .ix (.var 0) (.lit (.int 1))) .nil)))) .nil))))))))
/-- law -/
def ir74 : Ss := (.cons (.fr (.name 2) (.range (.lit (.int 5))) (.cons (.set 3 (.lcN (.call 66 (.cons (.var 1) (.cons (.lit (.int 4)) (.cons (.lit (.int 3)) (.cons (.lit (.int 0)) .nil))))) (.name 16) (.range (.lit (.int 2))) [16])) (.cons (.ife (.val (.op2 .eq (.call 47 (.cons (.var 1) (.cons (.lit (.int 2)) .nil))) (.lit (.int 0)))) (.cons (.set 3 (.lcN (.tup (.cons (.var 9) (.cons (.lit (.str ⟨#[111, 110, 99, 101]⟩)) .nil))) (.tup (.cons (.name 9) (.cons (.name 18) .nil))) (.list (.var 3)) [9, 18])) .nil) .nil) (.cons (.set 4 (.ite (.val (.op2 .gt (.call 47 (.cons (.var 1) (.cons (.lit (.int 3)) .nil))) (.lit (.int 0)))) (.call 68 (.cons (.var 1) .nil)) (.tup (.cons (.tup (.cons (.tup (.cons (.tup (.cons (.lit (.int 0)) (.cons (.lit (.int 1)) .nil))) (.cons (.tup (.cons (.lit (.int 0)) (.cons (.lit (.int 1)) .nil))) .nil))) .nil)) (.cons (.call 48 (.cons (.var 1) (.cons (.lst (.cons (.tup (.cons (.lit (.int 2)) (.cons (.lit (.int 1)) .nil))) (.cons (.tup (.cons (.lit (.int 1)) (.cons (.lit (.int 3)) .nil))) .nil))) .nil))) .nil))))) (.cons (.set 5 (.tup (.cons (.tup (.cons (.lit (.str ⟨#[97]⟩)) (.cons (.lit .none) (.cons (.tup (.cons (.lit (.str ⟨#[100, 105, 115, 99]⟩)) (.cons (.tup (.cons (.lit (.int 1)) (.cons (.lit (.int 1)) .nil))) .nil))) (.cons (.op2 .ix (.var 3) (.lit (.int 0))) (.cons (.op2 .ix (.var 3) (.lit (.int 1))) (.cons (.call 67 (.cons (.tup (.cons (.lit (.int 1)) (.cons (.lit (.int 1)) .nil))) .nil)) .nil))))))) .nil))) (.cons (.set 6 (.op2 .eq (.blt .len (.op2 .ix (.call 71 (.cons (.var 4) .nil)) (.lit (.int 0)))) (.lit (.int 1)))) (.cons (.set 7 (.op2 .ne (.lcf (.var 18) (.tup (.cons (.name 9) (.cons (.name 18) .nil))) (.list (.var 3)) (.val (.op2 .eq (.var 18) (.lit (.str ⟨#[108, 111, 111, 112]⟩)))) [9, 18]) (.lst .nil))) (.cons (.set 8 (.blt .tup (.lc (.op2 .add (.sl (.var 17) .nil (.cons (.lit (.int 3)) .nil)) (.blt .tup (.lc (.call 73 (.cons (.var 21) (.cons (.var 4) .nil))) (.name 21) (.tup (.sl (.var 17) (.cons (.lit (.int 3)) .nil) .nil)) [21]))) (.name 17) (.tup (.var 5)) [17]))) (.cons (.ife (.not (.val (.call 49 (.cons (.heard (.call 45 (.cons (.var 5) (.cons (.var 4) .nil)))) (.cons (.ite (.and (.val (.var 7)) (.not (.val (.var 6)))) (.tup (.cons (.lit (.str ⟨#[114, 101, 102, 117, 115, 101, 100]⟩)) (.cons (.lit (.str ⟨#[78, 111, 116, 104, 105, 110, 103]⟩)) (.cons (.lit .none) .nil)))) (.tup (.cons (.lit (.str ⟨#[116, 111, 108, 100]⟩)) (.cons (.var 8) .nil)))) .nil))))) (.cons (.ret (.lit (.bool false))) .nil) .nil) (.cons (.set 9 (.blt .tup (.lc (.tup (.cons (.tup (.cons (.var 16) (.cons (.lit (.int 1)) .nil))) (.cons (.tup (.cons (.op2 .mod (.var 16) (.lit (.int 3))) (.cons (.lit (.int 1)) .nil))) (.cons (.call 48 (.cons (.var 1) (.cons (.lst (.cons (.tup (.cons (.lit (.str ⟨#[108, 105, 110, 101]⟩)) .nil)) (.cons (.tup (.cons (.lit (.str ⟨#[104, 111, 108, 100]⟩)) .nil)) (.cons (.tup (.cons (.lit (.str ⟨#[101, 97, 115, 101]⟩)) .nil)) .nil)))) .nil))) .nil)))) (.name 16) (.range (.op2 .add (.lit (.int 9)) (.call 47 (.cons (.var 1) (.cons (.lit (.int 4)) .nil))))) [16]))) (.cons (.set 10 (.blt .tup (.lc (.tup (.cons (.tup (.cons (.op2 .mul (.lit (.int 2)) (.var 16)) (.cons (.lit (.int 1)) .nil))) (.cons (.tup (.cons (.op2 .add (.op2 .add (.op2 .mul (.lit (.int 3)) (.var 16)) (.op2 .mul (.var 16) (.var 16))) (.blt .int (.op2 .gt (.var 16) (.lit (.int 0))))) (.cons (.lit (.int 2)) .nil))) .nil))) (.name 16) (.range (.lit (.int 5))) [16]))) (.cons (.set 11 (.tup (.cons (.blt .tup (.lc (.tup (.cons (.var 19) (.cons (.call 51 (.cons (.op2 .ix (.var 20) (.lit (.int 0))) (.cons (.op2 .ix (.var 20) (.lit (.int 1))) .nil))) .nil))) (.tup (.cons (.name 19) (.cons (.name 20) .nil))) (.tup (.var 10)) [19, 20])) (.cons (.tup (.cons (.lit (.int 5)) (.cons (.lit (.int 1)) .nil))) .nil)))) (.cons (.set 12 (.tup (.cons (.tup (.cons (.lit (.str ⟨#[98]⟩)) (.cons (.lit .none) (.cons (.tup (.cons (.lit (.str ⟨#[112, 111, 105, 110, 116]⟩)) .nil)) (.cons (.call 67 (.cons (.tup (.cons (.lit (.int 0)) (.cons (.lit (.int 1)) .nil))) .nil)) (.cons (.tup (.cons (.var 9) (.cons (.lit (.str ⟨#[111, 110, 99, 101]⟩)) .nil))) (.cons (.call 67 (.cons (.tup (.cons (.lit (.int 1)) (.cons (.lit (.int 1)) .nil))) .nil)) .nil))))))) .nil))) (.cons (.set 13 (.call 73 (.cons (.tup (.cons (.var 9) (.cons (.lit (.str ⟨#[111, 110, 99, 101]⟩)) .nil))) (.cons (.var 11) .nil)))) (.cons (.set 14 (.heard (.call 45 (.cons (.var 12) (.cons (.var 11) .nil))))) (.cons (.ife (.not (.val (.call 49 (.cons (.var 14) (.cons (.ite (.val (.op2 .le (.blt .len (.op2 .ix (.var 13) (.lit (.int 0)))) (.lit (.int 12)))) (.tup (.cons (.lit (.str ⟨#[116, 111, 108, 100]⟩)) (.cons (.tup (.cons (.op2 .add (.sl (.op2 .ix (.var 12) (.lit (.int 0))) .nil (.cons (.lit (.int 4)) .nil)) (.tup (.cons (.var 13) (.cons (.op2 .ix (.op2 .ix (.var 12) (.lit (.int 0))) (.lit (.int 5))) .nil)))) .nil)) .nil))) (.tup (.cons (.lit (.str ⟨#[114, 101, 102, 117, 115, 101, 100]⟩)) (.cons (.lit (.str ⟨#[84, 111, 111, 76, 97, 114, 103, 101]⟩)) (.cons (.lit (.str ⟨#[107, 101, 121, 115]⟩)) .nil))))) .nil))))) (.cons (.ret (.lit (.bool false))) .nil) .nil) (.cons (.set 15 (.op2 .add (.var 12) (.tup (.cons (.tup (.cons (.lit (.str ⟨#[99]⟩)) (.cons (.lit .none) (.cons (.tup (.cons (.lit (.str ⟨#[112, 111, 105, 110, 116]⟩)) .nil)) (.cons (.tup (.cons (.sl (.var 9) .nil (.cons (.lit (.int 2)) .nil)) (.cons (.lit (.str ⟨#[108, 111, 111, 112]⟩)) .nil))) (.cons (.call 67 (.cons (.tup (.cons (.lit (.int 0)) (.cons (.lit (.int 1)) .nil))) .nil)) (.cons (.call 67 (.cons (.tup (.cons (.lit (.int 1)) (.cons (.lit (.int 1)) .nil))) .nil)) .nil))))))) .nil)))) (.cons (.ife (.not (.val (.call 49 (.cons (.heard (.call 45 (.cons (.var 15) (.cons (.var 11) .nil)))) (.cons (.tup (.cons (.lit (.str ⟨#[114, 101, 102, 117, 115, 101, 100]⟩)) (.cons (.lit (.str ⟨#[78, 111, 116, 104, 105, 110, 103]⟩)) (.cons (.lit .none) .nil)))) .nil))))) (.cons (.ret (.lit (.bool false))) .nil) .nil) .nil)))))))))))))))))) (.cons (.ret (.lit (.bool true))) .nil))
def nmL : List Str := [("is_number" : Str), ("gcd" : Str), ("fraction" : Str), ("whole" : Str), ("plus" : Str), ("negative" : Str), ("less" : Str), ("times" : Str), ("over" : Str), ("sign" : Str), ("compare" : Str), ("floor_of" : Str), ("slopes_of" : Str), ("piece_at" : Str), ("time_of" : Str), ("slope_at" : Str), ("least_clock" : Str), ("is_straight" : Str), ("poly_of" : Str), ("constant_poly" : Str), ("degree" : Str), ("value_polys" : Str), ("add" : Str), ("scaled" : Str), ("check_degree" : Str), ("multiply" : Str), ("put_in" : Str), ("led" : Str), ("growth" : Str), ("constant" : Str), ("share" : Str), ("curve" : Str), ("trimmed" : Str), ("between" : Str), ("segment" : Str), ("round_of_track" : Str), ("folded_time" : Str), ("value_of" : Str), ("value_tracks" : Str), ("marks_between" : Str), ("slopes_between" : Str), ("curve_between" : Str), ("keys_between" : Str), ("last_key" : Str), ("retimed_track" : Str), ("retimed" : Str), ("_law_bag" : Str), ("_law_take" : Str), ("_law_some" : Str), ("_law_alike" : Str), ("_law_gcd" : Str), ("_law_fraction" : Str), ("_law_plus" : Str), ("_law_times" : Str), ("_law_less" : Str), ("_law_over" : Str), ("_law_compare" : Str), ("_law_sum" : Str), ("_law_some_fraction" : Str), ("_law_poly" : Str), ("_law_add" : Str), ("_law_multiply" : Str), ("_law_value" : Str), ("_law_growth" : Str), ("_law_led" : Str), ("_law_segment" : Str), ("_law_track" : Str), ("_law_still" : Str), ("_law_clock" : Str), ("_law_clock_slopes" : Str), ("_law_shows" : Str), ("_law_least_clock" : Str), ("_law_heard" : Str), ("_law_own_track" : Str), ("law" : Str)]
def rnL : List Str := [("is_number" : Str), ("gcd" : Str), ("fraction" : Str), ("whole" : Str), ("plus" : Str), ("negative" : Str), ("less" : Str), ("times" : Str), ("over" : Str), ("sign" : Str), ("compare" : Str), ("floor_of" : Str), ("slopes_of" : Str), ("piece_at" : Str), ("time_of" : Str), ("slope_at" : Str), ("least_clock" : Str), ("is_straight" : Str), ("poly_of" : Str), ("constant_poly" : Str), ("degree" : Str), ("value" : Str), ("add" : Str), ("scaled" : Str), ("check_degree" : Str), ("multiply" : Str), ("put_in" : Str), ("led" : Str), ("growth" : Str), ("constant" : Str), ("share" : Str), ("curve" : Str), ("trimmed" : Str), ("between" : Str), ("segment" : Str), ("round_of_track" : Str), ("folded_time" : Str), ("value_of" : Str), ("value" : Str), ("marks_between" : Str), ("slopes_between" : Str), ("curve_between" : Str), ("keys_between" : Str), ("last_key" : Str), ("retimed_track" : Str), ("retimed" : Str), ("_law_bag" : Str), ("_law_take" : Str), ("_law_some" : Str), ("_law_alike" : Str), ("_law_gcd" : Str), ("_law_fraction" : Str), ("_law_plus" : Str), ("_law_times" : Str), ("_law_less" : Str), ("_law_over" : Str), ("_law_compare" : Str), ("_law_sum" : Str), ("_law_some_fraction" : Str), ("_law_poly" : Str), ("_law_add" : Str), ("_law_multiply" : Str), ("_law_value" : Str), ("_law_growth" : Str), ("_law_led" : Str), ("_law_segment" : Str), ("_law_track" : Str), ("_law_still" : Str), ("_law_clock" : Str), ("_law_clock_slopes" : Str), ("_law_shows" : Str), ("_law_least_clock" : Str), ("_law_heard" : Str), ("_law_own_track" : Str), ("law" : Str)]
def parL : List (List Str) := [[("thing" : Str)], [("a" : Str), ("b" : Str)], [("top" : Str), ("bottom" : Str)], [("n" : Str)], [("one" : Str), ("other" : Str)], [("one" : Str)], [("one" : Str), ("other" : Str)], [("one" : Str), ("other" : Str)], [("one" : Str), ("other" : Str)], [("one" : Str)], [("one" : Str), ("other" : Str)], [("one" : Str)], [("clock" : Str)], [("clock" : Str), ("f" : Str), ("which" : Str)], [("clock" : Str), ("u" : Str)], [("clock" : Str), ("f" : Str)], [("clock" : Str)], [("clock" : Str)], [("fractions" : Str)], [("f" : Str)], [("poly" : Str)], [("poly" : Str), ("f" : Str)], [("one" : Str), ("other" : Str)], [("poly" : Str), ("f" : Str)], [("many" : Str)], [("one" : Str), ("other" : Str)], [("one" : Str), ("other" : Str)], [("poly" : Str), ("a" : Str), ("b" : Str)], [("poly" : Str)], [("f" : Str)], [("one" : Str), ("other" : Str)], [("one" : Str), ("other" : Str), ("out" : Str), ("into" : Str)], [("coefficients" : Str)], [("one" : Str), ("other" : Str)], [("track" : Str), ("k" : Str)], [("track" : Str)], [("track" : Str), ("f" : Str)], [("poly" : Str), ("f" : Str)], [("track" : Str), ("f" : Str)], [("clock" : Str), ("one" : Str), ("other" : Str)], [("clock" : Str), ("poly" : Str), ("low" : Str), ("high" : Str)], [("clock" : Str), ("key" : Str), ("poly" : Str), ("marks" : Str), ("low" : Str), ("high" : Str)], [("clock" : Str), ("track" : Str), ("k" : Str)], [("clock" : Str), ("key" : Str)], [("track" : Str), ("clock" : Str)], [("scene" : Str), ("clock" : Str)], [("script" : Str)], [("bag" : Str), ("many" : Str)], [("bag" : Str), ("things" : Str)], [("found" : Str), ("due" : Str)], [("a" : Str), ("b" : Str)], [("top" : Str), ("bottom" : Str)], [("one" : Str), ("other" : Str)], [("one" : Str), ("other" : Str)], [("one" : Str), ("other" : Str)], [("one" : Str), ("other" : Str)], [("one" : Str), ("other" : Str)], [("some" : Str)], [("bag" : Str), ("most" : Str)], [("coefficients" : Str)], [("one" : Str), ("other" : Str)], [("one" : Str), ("other" : Str)], [("poly" : Str), ("f" : Str)], [("poly" : Str)], [("poly" : Str), ("a" : Str), ("b" : Str)], [("track" : Str), ("k" : Str)], [("bag" : Str), ("keys" : Str), ("values" : Str), ("kind" : Str)], [("value_v" : Str)], [("bag" : Str)], [("clock" : Str)], [("clock" : Str), ("f" : Str), ("way" : Str)], [("clock" : Str)], [("act" : Str)], [("track" : Str), ("clock" : Str)], [("script" : Str)]]
def slL : List (List Str) := [[("thing" : Str)], [("a" : Str), ("b" : Str), ("one" : Str), ("other" : Str)], [("top" : Str), ("bottom" : Str), ("by" : Str)], [("n" : Str)], [("one" : Str), ("other" : Str)], [("one" : Str)], [("one" : Str), ("other" : Str)], [("one" : Str), ("other" : Str)], [("one" : Str), ("other" : Str)], [("one" : Str)], [("one" : Str), ("other" : Str)], [("one" : Str)], [("clock" : Str), ("points" : Str), ("rate" : Str), ("steps" : Str), ("one" : Str), ("other" : Str)], [("clock" : Str), ("f" : Str), ("which" : Str), ("at" : Str)], [("clock" : Str), ("u" : Str), ("at" : Str), ("time" : Str), ("shown" : Str)], [("clock" : Str), ("f" : Str)], [("clock" : Str), ("slopes" : Str), ("points" : Str), ("kept" : Str), ("at" : Str)], [("clock" : Str)], [("fractions" : Str), ("many" : Str)], [("f" : Str)], [("poly" : Str)], [("poly" : Str), ("f" : Str), ("found" : Str), ("one" : Str)], [("one" : Str), ("other" : Str), ("many" : Str), ("pairs" : Str), ("at" : Str), ("poly" : Str)], [("poly" : Str), ("f" : Str), ("one" : Str)], [("many" : Str)], [("one" : Str), ("other" : Str), ("found" : Str), ("at" : Str), ("first" : Str), ("place" : Str), ("second" : Str)], [("one" : Str), ("other" : Str), ("found" : Str), ("coefficient" : Str)], [("poly" : Str), ("a" : Str), ("b" : Str)], [("poly" : Str), ("at" : Str), ("one" : Str)], [("f" : Str)], [("one" : Str), ("other" : Str), ("length" : Str)], [("one" : Str), ("other" : Str), ("out" : Str), ("into" : Str), ("length" : Str), ("far" : Str), ("first" : Str), ("last" : Str), ("second" : Str), ("third" : Str)], [("coefficients" : Str), ("found" : Str)], [("one" : Str), ("other" : Str), ("word" : Str), ("a" : Str), ("b" : Str), ("far" : Str), ("its" : Str)], [("track" : Str), ("k" : Str), ("keys" : Str)], [("track" : Str)], [("track" : Str), ("f" : Str), ("first" : Str), ("length" : Str)], [("poly" : Str), ("f" : Str), ("found" : Str), ("coefficient" : Str)], [("track" : Str), ("f" : Str), ("keys" : Str), ("one" : Str), ("other" : Str)], [("clock" : Str), ("one" : Str), ("other" : Str), ("shown" : Str), ("point" : Str), ("u" : Str)], [("clock" : Str), ("poly" : Str), ("low" : Str), ("high" : Str), ("rate" : Str), ("its" : Str)], [("clock" : Str), ("key" : Str), ("poly" : Str), ("marks" : Str), ("low" : Str), ("high" : Str)], [("clock" : Str), ("track" : Str), ("k" : Str), ("one" : Str), ("other" : Str), ("marks" : Str), ("poly" : Str), ("ends" : Str), ("found" : Str), ("low" : Str), ("high" : Str), ("told" : Str)], [("clock" : Str), ("key" : Str), ("rate" : Str)], [("track" : Str), ("clock" : Str), ("found" : Str), ("k" : Str)], [("scene" : Str), ("clock" : Str), ("least" : Str), ("part" : Str), ("track" : Str)], [("script" : Str), ("cell" : Str)], [("bag" : Str), ("many" : Str), ("cell" : Str), ("stirred" : Str), ("value_v" : Str), ("begin" : Str), ("second" : Str)], [("bag" : Str), ("things" : Str)], [("found" : Str), ("due" : Str)], [("a" : Str), ("b" : Str)], [("top" : Str), ("bottom" : Str), ("part" : Str)], [("one" : Str), ("other" : Str)], [("one" : Str), ("other" : Str)], [("one" : Str), ("other" : Str)], [("one" : Str), ("other" : Str)], [("one" : Str), ("other" : Str), ("left" : Str), ("right" : Str)], [("some" : Str), ("found" : Str), ("one" : Str)], [("bag" : Str), ("most" : Str)], [("coefficients" : Str), ("found" : Str)], [("one" : Str), ("other" : Str), ("found" : Str), ("k" : Str), ("parts" : Str), ("poly" : Str)], [("one" : Str), ("other" : Str), ("found" : Str), ("i" : Str), ("a" : Str), ("j" : Str), ("b" : Str)], [("poly" : Str), ("f" : Str), ("found" : Str), ("one" : Str)], [("poly" : Str), ("k" : Str)], [("poly" : Str), ("a" : Str), ("b" : Str), ("found" : Str), ("one" : Str)], [("track" : Str), ("k" : Str), ("t" : Str), ("a" : Str), ("curve_v" : Str), ("u" : Str), ("b" : Str), ("last" : Str), ("span" : Str), ("rise" : Str), ("shape" : Str), ("three" : Str), ("cube" : Str), ("out" : Str), ("into" : Str), ("by" : Str)], [("bag" : Str), ("keys" : Str), ("values" : Str), ("kind" : Str), ("many" : Str), ("at" : Str), ("found" : Str), ("k" : Str), ("curve_v" : Str), ("value_v" : Str)], [("value_v" : Str)], [("bag" : Str), ("points" : Str), ("rates" : Str), ("k" : Str), ("step" : Str), ("time" : Str), ("shown" : Str)], [("clock" : Str), ("t" : Str), ("u" : Str), ("s" : Str), ("v" : Str)], [("clock" : Str), ("f" : Str), ("way" : Str), ("k" : Str), ("at" : Str), ("point" : Str), ("slope" : Str), ("rest" : Str)], [("clock" : Str), ("slopes" : Str), ("k" : Str), ("point" : Str)], [("act" : Str)], [("track" : Str), ("clock" : Str), ("keys" : Str), ("found" : Str), ("slopes" : Str), ("k" : Str), ("marks" : Str), ("poly" : Str), ("ends" : Str), ("low" : Str), ("high" : Str), ("told" : Str), ("t" : Str), ("a" : Str), ("curve_v" : Str), ("u" : Str), ("b" : Str), ("last" : Str), ("at" : Str), ("time" : Str), ("shown" : Str), ("n" : Str), ("point" : Str), ("f" : Str)], [("script" : Str), ("bag" : Str), ("lap" : Str), ("tracks" : Str), ("clock" : Str), ("scene" : Str), ("straight" : Str), ("loops" : Str), ("due" : Str), ("keys" : Str), ("points" : Str), ("bent" : Str), ("long" : Str), ("own" : Str), ("heard" : Str), ("both" : Str), ("k" : Str), ("part" : Str), ("word" : Str), ("time" : Str), ("shown" : Str), ("track" : Str)]]
def topL : List Nat := [5, 7, 8, 9, 10, 11, 12, 13, 14, 15, 16, 17, 19, 20, 21, 22, 23, 24, 27, 28, 29, 30, 32, 33, 34, 35, 36, 37, 38, 44, 45, 46, 47, 48, 49, 50, 51, 52, 53, 56, 57, 58, 59, 60, 61, 62, 64, 65, 66, 67, 68, 69, 70, 71, 72, 73, 74, 75, 76, 77, 78, 79, 80, 81, 82, 83, 84, 85, 86, 87, 88, 89, 90, 91, 92]
def glN : List Str := [("MOST_DEGREE" : Str), ("ZERO" : Str), ("ONE" : Str), ("MOST_KEYS" : Str), ("EASE" : Str)]
def glD : List PyData := [(.int 24), (.tuple [(.int 0), (.int 1)]), (.tuple [(.int 1), (.int 1)]), (.int 12), (.tuple [(.tuple [(.int 0), (.int 1)]), (.tuple [(.int 0), (.int 1)]), (.tuple [(.int 3), (.int 1)]), (.tuple [(.int (-2)), (.int 1)])])]
def arL : List Nat := [1, 2, 2, 1, 2, 1, 2, 2, 2, 1, 2, 1, 1, 3, 2, 2, 1, 1, 1, 1, 1, 2, 2, 2, 1, 2, 2, 3, 1, 1, 2, 4, 1, 2, 2, 1, 2, 2, 2, 3, 4, 6, 3, 2, 2, 2, 1, 2, 2, 2, 2, 2, 2, 2, 2, 2, 2, 1, 2, 1, 2, 2, 2, 1, 3, 2, 4, 1, 1, 1, 3, 1, 1, 2, 1]
def ar (k : Nat) : Nat := arL.getD k 0
/-- the def's number of slots, its form -/
def bodyOf : Nat → Option (Nat × Ss)
  | 0 => some (1, ir0)
  | 1 => some (4, ir1)
  | 2 => some (3, ir2)
  | 3 => some (1, ir3)
  | 4 => some (2, ir4)
  | 5 => some (1, ir5)
  | 6 => some (2, ir6)
  | 7 => some (2, ir7)
  | 8 => some (2, ir8)
  | 9 => some (1, ir9)
  | 10 => some (2, ir10)
  | 11 => some (1, ir11)
  | 12 => some (6, ir12)
  | 13 => some (4, ir13)
  | 14 => some (5, ir14)
  | 15 => some (2, ir15)
  | 16 => some (5, ir16)
  | 17 => some (1, ir17)
  | 18 => some (2, ir18)
  | 19 => some (1, ir19)
  | 20 => some (1, ir20)
  | 21 => some (4, ir21)
  | 22 => some (6, ir22)
  | 23 => some (3, ir23)
  | 24 => some (1, ir24)
  | 25 => some (7, ir25)
  | 26 => some (4, ir26)
  | 27 => some (3, ir27)
  | 28 => some (3, ir28)
  | 29 => some (1, ir29)
  | 30 => some (3, ir30)
  | 31 => some (10, ir31)
  | 32 => some (2, ir32)
  | 33 => some (7, ir33)
  | 34 => some (3, ir34)
  | 35 => some (1, ir35)
  | 36 => some (4, ir36)
  | 37 => some (4, ir37)
  | 38 => some (5, ir38)
  | 39 => some (6, ir39)
  | 40 => some (6, ir40)
  | 41 => some (6, ir41)
  | 42 => some (12, ir42)
  | 43 => some (3, ir43)
  | 44 => some (4, ir44)
  | 45 => some (5, ir45)
  | 47 => some (7, ir47)
  | 48 => some (2, ir48)
  | 50 => some (2, ir50)
  | 51 => some (3, ir51)
  | 52 => some (2, ir52)
  | 53 => some (2, ir53)
  | 54 => some (2, ir54)
  | 55 => some (2, ir55)
  | 56 => some (4, ir56)
  | 57 => some (3, ir57)
  | 58 => some (2, ir58)
  | 59 => some (2, ir59)
  | 60 => some (6, ir60)
  | 61 => some (7, ir61)
  | 62 => some (4, ir62)
  | 63 => some (2, ir63)
  | 64 => some (5, ir64)
  | 65 => some (16, ir65)
  | 66 => some (10, ir66)
  | 67 => some (1, ir67)
  | 68 => some (7, ir68)
  | 69 => some (5, ir69)
  | 70 => some (8, ir70)
  | 71 => some (4, ir71)
  | 73 => some (24, ir73)
  | _ => none
mutual
def sameD : PD → PD → Bool
  | .none, .none => true
  | .bool a, .bool b => a == b
  | .int a, .int b => a == b
  | .str a, .str b => a == b
  | .list a, .list b => sameDs a b
  | .tuple a, .tuple b => sameDs a b
  | _, _ => false
def sameDs : List PD → List PD → Bool
  | [], [] => true
  | a :: as, b :: bs => sameD a b && sameDs as bs
  | _, _ => false
end
/-- what can be shown -/
def showOk (a : PD) : Bool := shp a && (a.showable && (!a.hasDict && PyData.layable0 a))
/-- what cannot be told apart -/
def alikeF : List PD → M PD
  | [a, b] => if showOk a = true ∧ sameD a b = true ∧ (items a).isSome = true then ret (.bool true) else stk
  | _ => stk
/-- what is heard of an exception -/
def hearF : Xn → Option PD
  | ⟨0, []⟩ => some (.tuple [.str "refused", .str "Nothing", .none])
  | ⟨1, [(a, d), (b, _)]⟩ => if a = "what" ∧ b = "limit" ∧ isFl d = true then some (.tuple [.str "refused", .str "TooLarge", d]) else none
  | _ => none
def lwK : Lw := ⟨ar, fun n => glD[n]?, hearF⟩
def sem : Nat → Nat → List PD → M PD
  | 0, _ => fun _ => stk
  | n + 1, f => fun ds => if ds.length = ar f then (if f = 49 then alikeF ds else match bodyOf f with | some (k, b) => evF (sem n) lwK k b ds | none => stk) else stk
end G

/-! What a derivation is, for this law. -/
namespace G
open PySem PySem.Spec PyProof.Rows L2
section
variable {X : Cx} {Θ : Th} {k : Nat} {E : XK} {a b e : Expr} {es : List Expr} {ia ib : Ex} {ies : Exs} {pos p : Pos} {x : Str}
/-- a power of two written numbers -/
theorem d_pow {i j : Int} {r : Int} {n m : Nat} {p1 p2 : Pos} (hr : i ^ j.toNat = r) (h0 : 0 ≤ j) (h1 : j ≤ 1000000) (h2 : i.natAbs < 2 ^ 64) : PE X (.BinOp (.Constant (.int i) n p1) .Pow (.Constant (.int j) m p2) pos) (dE Θ E (.lit (.int r))) :=
  PE.conv (pe_op op_pow pe_int pe_int) fun σ H Q q => ⟨_, _, rfl, rfl, ⟨h0, h1, h2⟩, by show Q (V.int (i ^ j.toNat)) H; rw [hr]; exact q⟩
/-- an own exception without arguments; one with two fields -/
def Rz0 (X : Cx) (Θ : Th) (E : XK) (c : Nat) (x : Str) : Prop := ∀ {p pos pos2 : Pos}, X.env.kindOf x = some .globalImplicit → PS X (.Raise (some (.Call (.Name x p) [] [] pos)) none pos2) (dS Θ E (.rse0 c))
def Rz2 (X : Cx) (Θ : Th) (E : XK) (c : Nat) (x n1 n2 : Str) : Prop := ∀ {a b : Expr} {ia ib : Ex} {p pos pos2 : Pos}, PE X a (dE Θ E ia) → PE X b (dE Θ E ib) →
  starEach [a, b] X.env = (false, eval a X.env) :: starEach [b] X.env → starEach [b] X.env = (false, eval b X.env) :: starEach [] X.env → (backTo pos (starEach [b] X.env)).any (·.1) = false → X.env.kindOf x = some .globalImplicit →
  PS X (.Raise (some (.Call (.Name x p) [a, b] [] pos)) none pos2) (dS Θ E (.rse2 c n1 n2 ia ib))
structure BtT (X : Cx) (Θ : Th) (E : XK) : Prop where
  r0 : ∀ c x, (c, x) ∈ ([(0, "Nothing")] : List (Nat × Str)) → Rz0 X Θ E c x
  r2 : ∀ c x n1 n2, (c, x, n1, n2) ∈ ([(1, "TooLarge", "what", "limit")] : List (Nat × Str × Str × Str)) → Rz2 X Θ E c x n1 n2
theorem d_rse0 (bt : BtT X Θ E) (c : Nat) {pos2 : Pos} (h : (c, x) ∈ ([(0, "Nothing")] : List (Nat × Str))) (hg : X.env.kindOf x = some .globalImplicit := by rfl) : PS X (.Raise (some (.Call (.Name x p) [] [] pos)) none pos2) (dS Θ E (.rse0 c)) := bt.r0 c x h hg
theorem d_rse2 (bt : BtT X Θ E) (c : Nat) {n1 n2 : Str} {pos2 : Pos} (h : (c, x, n1, n2) ∈ ([(1, "TooLarge", "what", "limit")] : List (Nat × Str × Str × Str))) (ha : PE X a (dE Θ E ia)) (hb : PE X b (dE Θ E ib)) (h1 : starEach [a, b] X.env = (false, eval a X.env) :: starEach [b] X.env := by rfl) (h2 : starEach [b] X.env = (false, eval b X.env) :: starEach [] X.env := by rfl)
    (hpl : (backTo pos (starEach [b] X.env)).any (·.1) = false := by rfl) (hg : X.env.kindOf x = some .globalImplicit := by rfl) : PS X (.Raise (some (.Call (.Name x p) [a, b] [] pos)) none pos2) (dS Θ E (.rse2 c n1 n2 ia ib)) := bt.r2 c x n1 n2 h ha hb h1 h2 hpl hg
theorem d_ex {spos : Pos} (he : PE X e (dE Θ E ia)) (hs : swapsWith e none spos.line X.env = pure false := by rfl) : PS X (.Expr e spos) (dS Θ E (.ex ia)) := ps_expr he hs
/-- a call by a rule of its own -/
def CallG (X : Cx) (Θ : Th) (E : XK) (i : Nat) (x : Str) : Prop := ∀ {e : Expr} {es : List Expr} {ies : Exs} {p pos : Pos}, PA X (e :: es) (dA Θ E ies) → starEach (e :: es) X.env = (false, eval e X.env) :: starEach es X.env → (backTo pos (starEach es X.env)).any (·.1) = false → X.env.kindOf x = some .globalImplicit →
  PE X (.Call (.Name x p) (e :: es) [] pos) (dE Θ E (.call i ies))
theorem d_callG {i : Nat} (cg : CallG X Θ E i x) (ha : PA X (e :: es) (dA Θ E ies)) (he : starEach (e :: es) X.env = (false, eval e X.env) :: starEach es X.env := by rfl) (hpl : (backTo pos (starEach es X.env)).any (·.1) = false := by rfl) (hg : X.env.kindOf x = some .globalImplicit := by rfl) :
    PE X (.Call (.Name x p) (e :: es) [] pos) (dE Θ E (.call i ies)) := cg ha he hpl hg
end
/-! ### the bodies of the defs -/
def topS (i : Nat) : Stmt := PySem.Challenge.pw_alltimes_k24_keys_of_scenes_by_other_clo.main.body.getD i (.Pass ⟨0, 0, 0, 0⟩)
def nmOf (i : Nat) : Str := nmL.getD i ""
def rnOf (i : Nat) : Str := rnL.getD i ""
def lxK : Lx := ⟨75, nmOf, glN, [49]⟩
/-- what is heard of a lambda -/
def HeardG (X : Cx) (Θ : Th) (E : XK) (k : Nat) : Prop := ∀ {params : Arguments} {body : Expr} {scope : Scope} {p lpos pos : Pos} {ie : Ex},
  (∀ (A : Around) (outer : List Env) (s : Shared) (H : Hp) (E' : XK) (f c' : Addr), Ctx (LamX.lamCx X A outer s H E' scope f c') Θ k lxK → Passes (L2.CX X.prog X.w) (LamX.lamCx X A outer s H E' scope f c') E' → PE (LamX.lamCx X A outer s H E' scope f c') body (dE Θ E' ie)) →
  LamX.lamSB X.env.scope scope = true → defaultsOf params X.env = ([], []) → (∀ (q : Str) (cl : List (Str × Addr)) (pm cv ctv : Value), bindArgs (PySem.W.kla_fn "<lambda>" q params body scope cl pm cv ctv) ⟨[], []⟩ = pure []) → X.env.kindOf "_law_heard" = some .globalImplicit →
  PE X (.Call (.Name "_law_heard" p) [.Lambda params body scope lpos] [] pos) (dE Θ E (.heard ie))
theorem d_heard {X : Cx} {Θ : Th} {E : XK} {k : Nat} {params : Arguments} {body : Expr} {scope : Scope} {p lpos pos : Pos} {ie : Ex} (ch : HeardG X Θ E k)
    (hb : ∀ (A : Around) (outer : List Env) (s : Shared) (H : Hp) (E' : XK) (f c' : Addr), Ctx (LamX.lamCx X A outer s H E' scope f c') Θ k lxK → Passes (L2.CX X.prog X.w) (LamX.lamCx X A outer s H E' scope f c') E' → PE (LamX.lamCx X A outer s H E' scope f c') body (dE Θ E' ie))
    (hl : LamX.lamSB X.env.scope scope = true := by kernel_rfl) (hd : defaultsOf params X.env = ([], []) := by rfl) (hbd : ∀ (q : Str) (cl : List (Str × Addr)) (pm cv ctv : Value), bindArgs (PySem.W.kla_fn "<lambda>" q params body scope cl pm cv ctv) ⟨[], []⟩ = pure [] := by intros; rfl) (hg : X.env.kindOf "_law_heard" = some .globalImplicit := by rfl) :
    PE X (.Call (.Name "_law_heard" p) [.Lambda params body scope lpos] [] pos) (dE Θ E (.heard ie)) := ch hb hl hd hbd hg
def Der (sts : List Stmt) (top : Nat) (N : List Str) (name : Str) (ir : Ss) : Prop := ∀ (P : Program) (w : World) (K : PySem.W.Frag) (mg : Str → Option Value) (base : Heap) (fa : Addr) (cdv : Value) (A : Around) (outer : List Env) (s : Shared) (H : Hp) (E : XK) (Θ : Th) (k : Nat),
  Ctx (cxOf (L2.CX P w) P w K mg base N name (defScope (topS top)) fa cdv A outer s H E) Θ k lxK → XT (cxOf (L2.CX P w) P w K mg base N name (defScope (topS top)) fa cdv A outer s H E) s.heap.objs.size E → Passes (L2.CX P w) (cxOf (L2.CX P w) P w K mg base N name (defScope (topS top)) fa cdv A outer s H E) E →
  PassesOwn (model P w) (A.deeper (envOfC name (defScope (topS top)) s.heap.objs.size fa cdv)) (envOfC name (defScope (topS top)) s.heap.objs.size fa cdv) (cxOf (L2.CX P w) P w K mg base N name (defScope (topS top)) fa cdv A outer s H E).xe →
  BtT (cxOf (L2.CX P w) P w K mg base N name (defScope (topS top)) fa cdv A outer s H E) Θ E →
  PSs (cxOf (L2.CX P w) P w K mg base N name (defScope (topS top)) fa cdv A outer s H E) sts (dSs Θ E ir)
def DerG (sts : List Stmt) (top : Nat) (N : List Str) (name : Str) (ir : Ss) : Prop := ∀ (P : Program) (w : World) (K : PySem.W.Frag) (mg : Str → Option Value) (base : Heap) (fa : Addr) (cdv : Value) (A : Around) (outer : List Env) (s : Shared) (H : Hp) (E : XK) (Θ : Th) (k : Nat),
  Ctx (cxOf (L2.CX P w) P w K mg base N name (defScope (topS top)) fa cdv A outer s H E) Θ k lxK → XT (cxOf (L2.CX P w) P w K mg base N name (defScope (topS top)) fa cdv A outer s H E) s.heap.objs.size E → Passes (L2.CX P w) (cxOf (L2.CX P w) P w K mg base N name (defScope (topS top)) fa cdv A outer s H E) E →
  PassesOwn (model P w) (A.deeper (envOfC name (defScope (topS top)) s.heap.objs.size fa cdv)) (envOfC name (defScope (topS top)) s.heap.objs.size fa cdv) (cxOf (L2.CX P w) P w K mg base N name (defScope (topS top)) fa cdv A outer s H E).xe →
  BtT (cxOf (L2.CX P w) P w K mg base N name (defScope (topS top)) fa cdv A outer s H E) Θ E →
  (∀ i x, (i, x) ∈ ([(49, "_law_alike")] : List (Nat × Str)) → CallG (cxOf (L2.CX P w) P w K mg base N name (defScope (topS top)) fa cdv A outer s H E) Θ E i x) →
  HeardG (cxOf (L2.CX P w) P w K mg base N name (defScope (topS top)) fa cdv A outer s H E) Θ E k →
  PSs (cxOf (L2.CX P w) P w K mg base N name (defScope (topS top)) fa cdv A outer s H E) sts (dSs Θ E ir)
end G

/-! Derivations (printed by wip/tools/gen2.py). -/
namespace G
open PySem PySem.Spec PyProof.Rows L2
theorem D0 : Der (defBody (topS 5)) 5 [("thing" : Str)] "is_number" ir0 := fun P w K mg base fa cdv A outer s H E Θ k C ht hp po bt =>
  (d_scons (d_ret (d_and (d_isi C (d_var 0)) (d_one (d_not (d_isi C (d_var 0)))))) d_snil)
theorem D3 : Der (defBody (topS 9)) 9 [("n" : Str)] "whole" ir3 := fun P w K mg base fa cdv A outer s H E Θ k C ht hp po bt =>
  (d_scons (d_ret (d_tup (d_cons (d_var 0) (d_cons d_int d_nil)))) d_snil)
theorem D6 : Der (defBody (topS 12)) 12 [("one" : Str), ("other" : Str)] "less" ir6 := fun P w K mg base fa cdv A outer s H E Θ k C ht hp po bt =>
  (d_scons (d_ret (d_call C hp 4 (d_cons (d_var 0) (d_cons (d_call C hp 5 (d_cons (d_var 1) d_nil)) d_nil)))) d_snil)
theorem D9 : Der (defBody (topS 15)) 15 [("one" : Str)] "sign" ir9 := fun P w K mg base fa cdv A outer s H E Θ k C ht hp po bt =>
  (d_scons (d_ret (d_op (p_sub C) (d_cmp (p_gt C) (d_ix C (d_var 0) d_int) d_int) (d_cmp (p_lt C) (d_ix C (d_var 0) d_int) d_int))) d_snil)
theorem D12 : Der (defBody (topS 19)) 19 [("clock" : Str), ("points" : Str), ("rate" : Str), ("steps" : Str), ("one" : Str), ("other" : Str)] "slopes_of" ir12 := fun P w K mg base fa cdv A outer s H E Θ k C ht hp po bt =>
  (d_scons (d_asg (d_var 0) (d_gt C (d_g1 (d_gn C 1) (d_g1 (d_gn C 2) d_g0)))) (d_scons (d_setLcN C 3 (d_iz C (d_var 1) (d_sl C (d_var 1) (d_os d_int) d_on)) (fun s H D cl fp C => (d_gt C (d_g1 (d_gn C 4) (d_g1 (d_gn C 5) d_g0)))) (fun s H D cl fp C hp => (d_call C hp 8 (d_cons (d_call C hp 6 (d_cons (d_ix C (d_var 5) d_int) (d_cons (d_ix C (d_var 4) d_int) d_nil))) (d_cons (d_call C hp 6 (d_cons (d_ix C (d_var 5) d_int) (d_cons (d_ix C (d_var 4) d_int) d_nil))) d_nil)))) (own := [("one", 4), ("other", 5)])) (d_scons (d_ret (d_op (p_add C) (d_var 3) (d_lst (d_cons (d_var 2) d_nil)))) d_snil)))
theorem D15 : Der (defBody (topS 22)) 22 [("clock" : Str), ("f" : Str)] "slope_at" ir15 := fun P w K mg base fa cdv A outer s H E Θ k C ht hp po bt =>
  (d_scons (d_ret (d_ix C (d_call C hp 12 (d_cons (d_var 0) d_nil)) (d_call C hp 13 (d_cons (d_var 0) (d_cons (d_var 1) (d_cons d_int d_nil)))))) d_snil)
theorem D18 : Der (defBody (topS 27)) 27 [("fractions" : Str), ("many" : Str)] "poly_of" ir18 := fun P w K mg base fa cdv A outer s H E Θ k C ht hp po bt =>
  (d_scons (d_set C 1 (d_bltB C (c_len C) (d_var 0))) (d_scons (d_whl po (PW.pt (d_wand (d_tc (p_gt C) (d_var 1) d_int) (d_wand1 (d_tc (p_eq C) (d_ix C (d_ix C (d_var 0) (d_op (p_sub C) (d_var 1) d_int)) d_int) d_int)))) (d_scons (d_augD C 1) d_snil)) (d_scons (d_ret (d_bltT C (c_tup C) (d_sl C (d_var 0) d_on (d_os (d_var 1))))) d_snil)))
theorem D21 : Der (defBody (topS 30)) 30 [("poly" : Str), ("f" : Str), ("found" : Str), ("one" : Str)] "value" ir21 := fun P w K mg base fa cdv A outer s H E Θ k C ht hp po bt =>
  (d_scons (d_set C 2 (d_tup (d_cons d_int (d_cons d_int d_nil)))) (d_scons (d_for C po (d_it C (d_rev C (d_var 0))) (d_gn C 3) (d_scons (d_set C 2 (d_call C hp 4 (d_cons (d_call C hp 7 (d_cons (d_var 2) (d_cons (d_var 1) d_nil))) (d_cons (d_var 3) d_nil)))) d_snil)) (d_scons (d_ret (d_var 2)) d_snil)))
theorem D24 : Der (defBody (topS 34)) 34 [("many" : Str)] "check_degree" ir24 := fun P w K mg base fa cdv A outer s H E Θ k C ht hp po bt =>
  (d_scons (d_if (d_tc (p_gt C) (d_var 0) (d_glb C 0)) (d_scons (d_rse2 bt 1 (by decide) (d_str (by decide +kernel)) (d_glb C 0)) d_snil) d_snil) d_snil)
theorem D27 : Der (defBody (topS 37)) 37 [("poly" : Str), ("a" : Str), ("b" : Str)] "led" ir27 := fun P w K mg base fa cdv A outer s H E Θ k C ht hp po bt =>
  (d_scons (d_ret (d_call C hp 26 (d_cons (d_var 0) (d_cons (d_call C hp 18 (d_cons (d_tup (d_cons (d_var 2) (d_cons (d_var 1) d_nil))) d_nil)) d_nil)))) d_snil)
theorem D30 : Der (defBody (topS 45)) 45 [("one" : Str), ("other" : Str), ("length" : Str)] "share" ir30 := fun P w K mg base fa cdv A outer s H E Θ k C ht hp po bt =>
  (d_scons (d_set C 2 (d_call C hp 6 (d_cons (d_ix C (d_var 1) d_int) (d_cons (d_ix C (d_var 0) d_int) d_nil)))) (d_scons (d_ret (d_tup (d_cons (d_call C hp 8 (d_cons (d_glb C 2) (d_cons (d_var 2) d_nil))) (d_cons (d_call C hp 8 (d_cons (d_call C hp 6 (d_cons (d_glb C 1) (d_cons (d_ix C (d_var 0) d_int) d_nil))) (d_cons (d_var 2) d_nil))) d_nil)))) d_snil))
theorem D33 : Der (defBody (topS 48)) 48 [("one" : Str), ("other" : Str), ("word" : Str), ("a" : Str), ("b" : Str), ("far" : Str), ("its" : Str)] "between" ir33 := fun P w K mg base fa cdv A outer s H E Θ k C ht hp po bt =>
  (d_scons (d_set C 2 (d_ix C (d_ix C (d_var 0) d_int) d_int)) (d_scons (d_if (d_tc (p_eq C) (d_var 2) (d_str (by decide +kernel))) (d_scons (d_ret (d_call C hp 29 (d_cons (d_ix C (d_var 0) d_int) d_nil))) d_snil) d_snil) (d_scons (d_asg (d_call C hp 30 (d_cons (d_var 0) (d_cons (d_var 1) d_nil))) (d_gt C (d_g1 (d_gn C 3) (d_g1 (d_gn C 4) d_g0)))) (d_scons (d_if (d_tc (p_eq C) (d_var 2) (d_str (by decide +kernel))) (d_scons (d_ret (d_call C hp 27 (d_cons (d_call C hp 32 (d_cons (d_call C hp 31 (d_cons (d_var 0) (d_cons (d_var 1) (d_cons (d_ix C (d_ix C (d_var 0) d_int) d_int) (d_cons (d_ix C (d_ix C (d_var 0) d_int) d_int) d_nil))))) d_nil)) (d_cons (d_var 3) (d_cons (d_var 4) d_nil))))) d_snil) d_snil) (d_scons (d_set C 5 (d_call C hp 6 (d_cons (d_ix C (d_var 1) d_int) (d_cons (d_ix C (d_var 0) d_int) d_nil)))) (d_scons (d_set C 6 (d_ite (d_tc (p_eq C) (d_var 2) (d_str (by decide +kernel))) (d_glb C 4) (d_tup (d_cons (d_glb C 1) (d_cons (d_glb C 2) d_nil))))) (d_scons (d_ret (d_call C hp 22 (d_cons (d_call C hp 29 (d_cons (d_ix C (d_var 0) d_int) d_nil)) (d_cons (d_call C hp 23 (d_cons (d_call C hp 27 (d_cons (d_var 6) (d_cons (d_var 3) (d_cons (d_var 4) d_nil)))) (d_cons (d_var 5) d_nil))) d_nil)))) d_snil)))))))
theorem D36 : Der (defBody (topS 51)) 51 [("track" : Str), ("f" : Str), ("first" : Str), ("length" : Str)] "folded_time" ir36 := fun P w K mg base fa cdv A outer s H E Θ k C ht hp po bt =>
  (d_scons (d_par C 2 3 (d_ix C (d_ix C (d_ix C (d_var 0) d_int) d_int) d_int) (d_call C hp 35 (d_cons (d_var 0) d_nil))) (d_scons (d_if (PW.pt (d_wor (d_tc (p_is C) (d_var 3) d_non) (d_wor1 (d_tc (p_lt C) (d_call C hp 10 (d_cons (d_var 1) (d_cons (d_var 2) d_nil))) d_int)))) (d_scons (d_ret (d_var 1)) d_snil) d_snil) (d_scons (d_ret (d_call C hp 6 (d_cons (d_var 1) (d_cons (d_call C hp 7 (d_cons (d_call C hp 3 (d_cons (d_call C hp 11 (d_cons (d_call C hp 8 (d_cons (d_call C hp 6 (d_cons (d_var 1) (d_cons (d_var 2) d_nil))) (d_cons (d_var 3) d_nil))) d_nil)) d_nil)) (d_cons (d_var 3) d_nil))) d_nil)))) d_snil)))
theorem D39 : Der (defBody (topS 56)) 56 [("clock" : Str), ("one" : Str), ("other" : Str), ("shown" : Str), ("point" : Str), ("u" : Str)] "marks_between" ir39 := fun P w K mg base fa cdv A outer s H E Θ k C ht hp po bt =>
  (d_scons (d_setLcN C 3 (d_it C (d_sl C (d_ix C (d_var 0) d_int) (d_os d_int) d_on)) (fun s H D cl fp C => (d_gn C 4)) (fun s H D cl fp C hp => (d_ix C (d_var 4) d_int)) (own := [("point", 4)])) (d_scons (d_ret (d_lcf C ht (d_il C (d_var 3)) (fun s H D cl fp C => (d_gn C 5)) (fun s H D cl fp C ht hp => (PW.pt (d_wand (d_tc (p_lt C) (d_call C hp 10 (d_cons (d_ix C (d_var 1) d_int) (d_cons (d_var 5) d_nil))) d_int) (d_wand1 (d_tc (p_lt C) (d_call C hp 10 (d_cons (d_var 5) (d_cons (d_ix C (d_var 2) d_int) d_nil))) d_int))))) (fun s H D cl fp C ht hp => (d_var 5)) (own := [("u", 5)]))) d_snil))
theorem D42 : Der (defBody (topS 59)) 59 [("clock" : Str), ("track" : Str), ("k" : Str), ("one" : Str), ("other" : Str), ("marks" : Str), ("poly" : Str), ("ends" : Str), ("found" : Str), ("low" : Str), ("high" : Str), ("told" : Str)] "keys_between" ir42 := fun P w K mg base fa cdv A outer s H E Θ k C ht hp po bt =>
  (d_scons (d_par C 3 4 (d_ix C (d_ix C (d_var 1) d_int) (d_var 2)) (d_ix C (d_ix C (d_var 1) d_int) (d_op (p_add C) (d_var 2) d_int))) (d_scons (d_set C 5 (d_ite (d_tc (p_eq C) (d_ix C (d_ix C (d_var 3) d_int) d_int) (d_str (by decide +kernel))) (d_lst d_nil) (d_call C hp 39 (d_cons (d_var 0) (d_cons (d_var 3) (d_cons (d_var 4) d_nil)))))) (d_scons (d_par3 C 6 7 8 (d_call C hp 34 (d_cons (d_var 1) (d_cons (d_var 2) d_nil))) (d_op (p_add C) (d_op (p_add C) (d_lst (d_cons (d_ix C (d_var 3) d_int) d_nil)) (d_var 5)) (d_lst (d_cons (d_ix C (d_var 4) d_int) d_nil))) (d_lst d_nil)) (d_scons (d_for C po (d_iz C (d_var 7) (d_sl C (d_var 7) (d_os d_int) d_on)) (d_gt C (d_g1 (d_gn C 9) (d_g1 (d_gn C 10) d_g0))) (d_scons (d_set C 11 (d_ite (d_tc (p_eq C) (d_var 9) (d_ix C (d_var 3) d_int)) (d_ix C (d_var 3) d_int) (d_call C hp 38 (d_cons (d_var 1) (d_cons (d_var 9) d_nil))))) (d_scons (d_app C 8 (d_tup (d_cons (d_call C hp 14 (d_cons (d_var 0) (d_cons (d_var 9) d_nil))) (d_cons (d_var 11) (d_cons (d_call C hp 41 (d_cons (d_var 0) (d_cons (d_var 3) (d_cons (d_var 6) (d_cons (d_var 5) (d_cons (d_var 9) (d_cons (d_var 10) d_nil))))))) d_nil))))) d_snil))) (d_sfrz (d_scons (d_ret (d_var 8)) d_snil))))))
theorem D45 : Der (defBody (topS 62)) 62 [("scene" : Str), ("clock" : Str), ("least" : Str), ("part" : Str), ("track" : Str)] "retimed" ir45 := fun P w K mg base fa cdv A outer s H E Θ k C ht hp po bt =>
  (d_scons (d_set C 2 (d_call C hp 16 (d_cons (d_var 1) d_nil))) (d_scons (d_if (PW.pt (d_wand (d_tnot (d_tv (d_call C hp 17 (d_cons (d_var 1) d_nil)))) (d_wand1 (d_tv (d_bltB C (c_any C) (d_lc2 C [4] (d_it C (d_var 0)) (fun s H D cl fp C => (d_gn C 3)) (fun s H D cl fp C hp => (d_it C (d_sl C (d_var 3) (d_os d_int) d_on))) (fun s H D cl fp C => (d_gn C 4)) (fun s H D cl fp C hp => (d_cmp (p_eq C) (d_ix C (d_var 4) d_int) (d_str (by decide +kernel)))) (own := [("part", 3), ("track", 4)]))))))) (d_scons (d_rse0 bt 0 (by decide)) d_snil) d_snil) (d_scons (d_ret (d_bltT C (c_tup C) (d_lc C ht (d_it C (d_var 0)) (fun s H D cl fp C => (d_gn C 3)) (fun s H D cl fp C ht hp => (d_op (p_add C) (d_sl C (d_var 3) d_on (d_os d_int)) (d_bltT C (c_tup C) (d_lc C ht (d_it C (d_sl C (d_var 3) (d_os d_int) d_on)) (fun s H D cl fp C => (d_gn C 4)) (fun s H D cl fp C ht hp => (d_call C hp 44 (d_cons (d_var 4) (d_cons (d_var 2) d_nil)))) (own := [("track", 4)]))))) (own := [("part", 3)])))) d_snil)))
theorem D50 : Der (defBody (topS 68)) 68 [("a" : Str), ("b" : Str)] "_law_gcd" ir50 := fun P w K mg base fa cdv A outer s H E Θ k C ht hp po bt =>
  (d_scons (d_whl po (d_tc (p_ne C) (d_var 1) d_int) (d_scons (d_par C 0 1 (d_var 1) (d_op (p_mod C) (d_var 0) (d_var 1))) d_snil)) (d_scons (d_ret (d_bltB C (c_abs C) (d_var 0))) d_snil))
theorem D53 : Der (defBody (topS 71)) 71 [("one" : Str), ("other" : Str)] "_law_times" ir53 := fun P w K mg base fa cdv A outer s H E Θ k C ht hp po bt =>
  (d_scons (d_ret (d_call C hp 51 (d_cons (d_op (p_mul C) (d_ix C (d_var 0) d_int) (d_ix C (d_var 1) d_int)) (d_cons (d_op (p_mul C) (d_ix C (d_var 0) d_int) (d_ix C (d_var 1) d_int)) d_nil)))) d_snil)
theorem D56 : Der (defBody (topS 74)) 74 [("one" : Str), ("other" : Str), ("left" : Str), ("right" : Str)] "_law_compare" ir56 := fun P w K mg base fa cdv A outer s H E Θ k C ht hp po bt =>
  (d_scons (d_par C 2 3 (d_op (p_mul C) (d_ix C (d_var 0) d_int) (d_ix C (d_var 1) d_int)) (d_op (p_mul C) (d_ix C (d_var 1) d_int) (d_ix C (d_var 0) d_int))) (d_scons (d_ret (d_op (p_sub C) (d_cmp (p_gt C) (d_var 2) (d_var 3)) (d_cmp (p_lt C) (d_var 2) (d_var 3)))) d_snil))
theorem D59 : Der (defBody (topS 77)) 77 [("coefficients" : Str), ("found" : Str)] "_law_poly" ir59 := fun P w K mg base fa cdv A outer s H E Θ k C ht hp po bt =>
  (d_scons (d_setO C 1 (d_bltT C (c_lst C) (d_var 0))) (d_scons (d_whl po (PW.pt (d_wand (d_toem C 1) (d_wand1 (d_tc (p_eq C) (d_ix C (d_oix C 1 (d_neg d_int)) d_int) d_int)))) (d_scons (d_pop C 1) d_snil)) (d_sfrz (d_scons (d_ret (d_bltT C (c_tup C) (d_var 1))) d_snil))))
theorem D62 : Der (defBody (topS 80)) 80 [("poly" : Str), ("f" : Str), ("found" : Str), ("one" : Str)] "_law_value" ir62 := fun P w K mg base fa cdv A outer s H E Θ k C ht hp po bt =>
  (d_scons (d_set C 2 (d_tup (d_cons d_int (d_cons d_int d_nil)))) (d_scons (d_for C po (d_it C (d_rev C (d_var 0))) (d_gn C 3) (d_scons (d_set C 2 (d_call C hp 52 (d_cons (d_call C hp 53 (d_cons (d_var 2) (d_cons (d_var 1) d_nil))) (d_cons (d_var 3) d_nil)))) d_snil)) (d_scons (d_ret (d_var 2)) d_snil)))
theorem D65 : Der (defBody (topS 83)) 83 [("track" : Str), ("k" : Str), ("t" : Str), ("a" : Str), ("curve_v" : Str), ("u" : Str), ("b" : Str), ("last" : Str), ("span" : Str), ("rise" : Str), ("shape" : Str), ("three" : Str), ("cube" : Str), ("out" : Str), ("into" : Str), ("by" : Str)] "_law_segment" ir65 := fun P w K mg base fa cdv A outer s H E Θ k C ht hp po bt =>
  (d_scons (d_asg (d_tup (d_cons (d_ix C (d_ix C (d_var 0) d_int) (d_var 1)) (d_cons (d_ix C (d_ix C (d_var 0) d_int) (d_op (p_add C) (d_var 1) d_int)) d_nil))) (d_gt C (d_g1 (d_gt C (d_g1 (d_gn C 2) (d_g1 (d_gn C 3) (d_g1 (d_gn C 4) d_g0)))) (d_g1 (d_gt C (d_g1 (d_gn C 5) (d_g1 (d_gn C 6) (d_g1 (d_gn C 7) d_g0)))) d_g0)))) (d_scons (d_par C 8 9 (d_call C hp 54 (d_cons (d_var 5) (d_cons (d_var 2) d_nil))) (d_call C hp 54 (d_cons (d_var 6) (d_cons (d_var 3) d_nil)))) (d_scons (d_if (d_tc (p_eq C) (d_ix C (d_var 4) d_int) (d_str (by decide +kernel))) (d_scons (d_ret (d_call C hp 59 (d_cons (d_lst (d_cons (d_var 3) d_nil)) d_nil))) d_snil) d_snil) (d_scons (d_if (d_tc (p_eq C) (d_ix C (d_var 4) d_int) (d_str (by decide +kernel))) (d_scons (d_set C 10 (d_call C hp 59 (d_cons (d_lst (d_cons (d_var 3) (d_cons (d_var 9) d_nil))) d_nil))) d_snil) (d_scons (d_if (d_tc (p_eq C) (d_ix C (d_var 4) d_int) (d_str (by decide +kernel))) (d_scons (d_set C 10 (d_call C hp 59 (d_cons (d_lst (d_cons (d_var 3) (d_cons (d_tup (d_cons d_int (d_cons d_int d_nil))) (d_cons (d_call C hp 53 (d_cons (d_tup (d_cons d_int (d_cons d_int d_nil))) (d_cons (d_var 9) d_nil))) (d_cons (d_call C hp 53 (d_cons (d_tup (d_cons (d_neg d_int) (d_cons d_int d_nil))) (d_cons (d_var 9) d_nil))) d_nil))))) d_nil))) d_snil) (d_scons (d_par C 13 14 (d_call C hp 53 (d_cons (d_ix C (d_var 4) d_int) (d_cons (d_var 8) d_nil))) (d_call C hp 53 (d_cons (d_ix C (d_var 4) d_int) (d_cons (d_var 8) d_nil)))) (d_scons (d_set C 11 (d_call C hp 54 (d_cons (d_call C hp 53 (d_cons (d_tup (d_cons d_int (d_cons d_int d_nil))) (d_cons (d_var 9) d_nil))) (d_cons (d_call C hp 52 (d_cons (d_call C hp 53 (d_cons (d_tup (d_cons d_int (d_cons d_int d_nil))) (d_cons (d_var 13) d_nil))) (d_cons (d_var 14) d_nil))) d_nil)))) (d_scons (d_set C 12 (d_call C hp 54 (d_cons (d_call C hp 52 (d_cons (d_var 13) (d_cons (d_var 14) d_nil))) (d_cons (d_call C hp 53 (d_cons (d_tup (d_cons d_int (d_cons d_int d_nil))) (d_cons (d_var 9) d_nil))) d_nil)))) (d_scons (d_set C 10 (d_call C hp 59 (d_cons (d_lst (d_cons (d_var 3) (d_cons (d_var 13) (d_cons (d_var 11) (d_cons (d_var 12) d_nil))))) d_nil))) d_snil))))) d_snil)) (d_scons (d_set C 15 (d_call C hp 55 (d_cons (d_tup (d_cons d_int (d_cons d_int d_nil))) (d_cons (d_var 8) d_nil)))) (d_scons (d_ret (d_call C hp 64 (d_cons (d_var 10) (d_cons (d_var 15) (d_cons (d_call C hp 54 (d_cons (d_tup (d_cons d_int (d_cons d_int d_nil))) (d_cons (d_call C hp 53 (d_cons (d_var 2) (d_cons (d_var 15) d_nil))) d_nil))) d_nil))))) d_snil))))))
theorem D68 : Der (defBody (topS 86)) 86 [("bag" : Str), ("points" : Str), ("rates" : Str), ("k" : Str), ("step" : Str), ("time" : Str), ("shown" : Str)] "_law_clock" ir68 := fun P w K mg base fa cdv A outer s H E Θ k C ht hp po bt =>
  (d_scons (d_par C 1 2 (d_lst (d_cons (d_tup (d_cons (d_tup (d_cons d_int (d_cons d_int d_nil))) (d_cons (d_tup (d_cons d_int (d_cons d_int d_nil))) d_nil))) d_nil)) (d_lst (d_cons (d_tup (d_cons d_int (d_cons d_int d_nil))) (d_cons (d_tup (d_cons d_int (d_cons d_int d_nil))) (d_cons (d_tup (d_cons d_int (d_cons d_int d_nil))) (d_cons (d_tup (d_cons d_int (d_cons d_int d_nil))) (d_cons (d_tup (d_cons d_int (d_cons d_int d_nil))) d_nil))))))) (d_scons (d_for C po (d_ir C (d_call C hp 47 (d_cons (d_var 0) (d_cons d_int d_nil)))) (d_gn C 3) (d_scons (d_asg (d_oix C 1 (d_neg d_int)) (d_gt C (d_g1 (d_gn C 5) (d_g1 (d_gn C 6) d_g0)))) (d_scons (d_set C 4 (d_call C hp 48 (d_cons (d_var 0) (d_cons (d_lst (d_cons (d_tup (d_cons d_int (d_cons d_int d_nil))) (d_cons (d_tup (d_cons d_int (d_cons d_int d_nil))) (d_cons (d_tup (d_cons d_int (d_cons d_int d_nil))) d_nil)))) d_nil)))) (d_scons (d_app C 1 (d_tup (d_cons (d_call C hp 52 (d_cons (d_var 5) (d_cons (d_var 4) d_nil))) (d_cons (d_call C hp 52 (d_cons (d_var 6) (d_cons (d_call C hp 53 (d_cons (d_var 4) (d_cons (d_call C hp 48 (d_cons (d_var 0) (d_cons (d_var 2) d_nil))) d_nil))) d_nil))) d_nil)))) d_snil)))) (d_sfrz (d_scons (d_ret (d_tup (d_cons (d_bltT C (c_tup C) (d_var 1)) (d_cons (d_call C hp 48 (d_cons (d_var 0) (d_cons (d_var 2) d_nil))) d_nil)))) d_snil))))
theorem D71 : Der (defBody (topS 89)) 89 [("clock" : Str), ("slopes" : Str), ("k" : Str), ("point" : Str)] "_law_least_clock" ir71 := fun P w K mg base fa cdv A outer s H E Θ k C ht hp po bt =>
  (d_scons (d_set C 1 (d_call C hp 69 (d_cons (d_var 0) d_nil))) (d_scons (d_ret (d_tup (d_cons (d_bltT C (c_tup C) (d_lcf C ht (d_ieT C (d_ix C (d_var 0) d_int)) (fun s H D cl fp C => (d_gt C (d_g1 (d_gn C 2) (d_g1 (d_gn C 3) d_g0)))) (fun s H D cl fp C ht hp => (PW.pt (d_wor (d_tc (p_eq C) (d_var 2) d_int) (d_wor1 (d_tc (p_ne C) (d_ix C (d_var 1) (d_op (p_sub C) (d_var 2) d_int)) (d_ix C (d_var 1) (d_var 2))))))) (fun s H D cl fp C ht hp => (d_var 3)) (own := [("k", 2), ("point", 3)]))) (d_cons (d_ix C (d_var 0) d_int) d_nil)))) d_snil))
end G

/-! Derivations (printed by wip/tools/gen2.py). -/
namespace G
open PySem PySem.Spec PyProof.Rows L2
theorem D1 : Der (defBody (topS 7)) 7 [("a" : Str), ("b" : Str), ("one" : Str), ("other" : Str)] "gcd" ir1 := fun P w K mg base fa cdv A outer s H E Θ k C ht hp po bt =>
  (d_scons (d_par C 2 3 (d_bltB C (c_abs C) (d_var 0)) (d_bltB C (c_abs C) (d_var 1))) (d_scons (d_whl po (d_tc (p_ne C) (d_var 3) d_int) (d_scons (d_par C 2 3 (d_var 3) (d_op (p_sub C) (d_var 2) (d_op (p_mul C) (d_op (p_fdv C) (d_var 2) (d_var 3)) (d_var 3)))) d_snil)) (d_scons (d_ret (d_var 2)) d_snil)))
theorem D4 : Der (defBody (topS 10)) 10 [("one" : Str), ("other" : Str)] "plus" ir4 := fun P w K mg base fa cdv A outer s H E Θ k C ht hp po bt =>
  (d_scons (d_ret (d_call C hp 2 (d_cons (d_op (p_add C) (d_op (p_mul C) (d_ix C (d_var 0) d_int) (d_ix C (d_var 1) d_int)) (d_op (p_mul C) (d_ix C (d_var 1) d_int) (d_ix C (d_var 0) d_int))) (d_cons (d_op (p_mul C) (d_ix C (d_var 0) d_int) (d_ix C (d_var 1) d_int)) d_nil)))) d_snil)
theorem D7 : Der (defBody (topS 13)) 13 [("one" : Str), ("other" : Str)] "times" ir7 := fun P w K mg base fa cdv A outer s H E Θ k C ht hp po bt =>
  (d_scons (d_ret (d_call C hp 2 (d_cons (d_op (p_mul C) (d_ix C (d_var 0) d_int) (d_ix C (d_var 1) d_int)) (d_cons (d_op (p_mul C) (d_ix C (d_var 0) d_int) (d_ix C (d_var 1) d_int)) d_nil)))) d_snil)
theorem D10 : Der (defBody (topS 16)) 16 [("one" : Str), ("other" : Str)] "compare" ir10 := fun P w K mg base fa cdv A outer s H E Θ k C ht hp po bt =>
  (d_scons (d_ret (d_call C hp 9 (d_cons (d_call C hp 6 (d_cons (d_var 0) (d_cons (d_var 1) d_nil))) d_nil))) d_snil)
theorem D13 : Der (defBody (topS 20)) 20 [("clock" : Str), ("f" : Str), ("which" : Str), ("at" : Str)] "piece_at" ir13 := fun P w K mg base fa cdv A outer s H E Θ k C ht hp po bt =>
  (d_scons (d_set C 3 d_int) (d_scons (d_whl po (PW.pt (d_wand (d_tc (p_lt C) (d_op (p_add C) (d_var 3) d_int) (d_bltB C (c_len C) (d_ix C (d_var 0) d_int))) (d_wand1 (d_tc (p_le C) (d_call C hp 10 (d_cons (d_ix C (d_ix C (d_ix C (d_var 0) d_int) (d_op (p_add C) (d_var 3) d_int)) (d_var 2)) (d_cons (d_var 1) d_nil))) d_int)))) (d_scons (d_augI C 3) d_snil)) (d_scons (d_ret (d_var 3)) d_snil)))
theorem D16 : Der (defBody (topS 23)) 23 [("clock" : Str), ("slopes" : Str), ("points" : Str), ("kept" : Str), ("at" : Str)] "least_clock" ir16 := fun P w K mg base fa cdv A outer s H E Θ k C ht hp po bt =>
  (d_scons (d_asg (d_tup (d_cons (d_call C hp 12 (d_cons (d_var 0) d_nil)) (d_cons (d_ix C (d_var 0) d_int) d_nil))) (d_gt C (d_g1 (d_gn C 1) (d_g1 (d_gn C 2) d_g0)))) (d_scons (d_setLcfN C 3 (d_ir C (d_bltB C (c_len C) (d_var 2))) (fun s H D cl fp C => (d_gn C 4)) (fun s H D cl fp C hp => (PW.pt (d_wor (d_tc (p_eq C) (d_var 4) d_int) (d_wor1 (d_tc (p_ne C) (d_ix C (d_var 1) (d_op (p_sub C) (d_var 4) d_int)) (d_ix C (d_var 1) (d_var 4))))))) (fun s H D cl fp C hp => (d_ix C (d_var 2) (d_var 4))) (own := [("at", 4)])) (d_scons (d_ret (d_tup (d_cons (d_bltT C (c_tup C) (d_var 3)) (d_cons (d_ix C (d_var 0) d_int) d_nil)))) d_snil)))
theorem D19 : Der (defBody (topS 28)) 28 [("f" : Str)] "constant_poly" ir19 := fun P w K mg base fa cdv A outer s H E Θ k C ht hp po bt =>
  (d_scons (d_ret (d_call C hp 18 (d_cons (d_tup (d_cons (d_var 0) d_nil)) d_nil))) d_snil)
theorem D22 : Der (defBody (topS 32)) 32 [("one" : Str), ("other" : Str), ("many" : Str), ("pairs" : Str), ("at" : Str), ("poly" : Str)] "add" ir22 := fun P w K mg base fa cdv A outer s H E Θ k C ht hp po bt =>
  (d_scons (d_set C 2 (d_max2 C (d_bltB C (c_len C) (d_var 0)) (d_bltB C (c_len C) (d_var 1)))) (d_scons (d_set C 3 (d_lc2 C [5] (d_ir C (d_var 2)) (fun s H D cl fp C => (d_gn C 4)) (fun s H D cl fp C hp => (d_it C (d_tup (d_cons (d_var 0) (d_cons (d_var 1) d_nil))))) (fun s H D cl fp C => (d_gn C 5)) (fun s H D cl fp C hp => (d_ite (d_tc (p_lt C) (d_var 4) (d_bltB C (c_len C) (d_var 5))) (d_ix C (d_var 5) (d_var 4)) (d_tup (d_cons d_int (d_cons d_int d_nil))))) (own := [("at", 4), ("poly", 5)]))) (d_scons (d_ret (d_call C hp 18 (d_cons (d_lc C ht (d_ir C (d_var 2)) (fun s H D cl fp C => (d_gn C 4)) (fun s H D cl fp C ht hp => (d_call C hp 4 (d_cons (d_ix C (d_var 3) (d_op (p_mul C) d_int (d_var 4))) (d_cons (d_ix C (d_var 3) (d_op (p_add C) (d_op (p_mul C) d_int (d_var 4)) d_int)) d_nil)))) (own := [("at", 4)])) d_nil))) d_snil)))
theorem D25 : Der (defBody (topS 35)) 35 [("one" : Str), ("other" : Str), ("found" : Str), ("at" : Str), ("first" : Str), ("place" : Str), ("second" : Str)] "multiply" ir25 := fun P w K mg base fa cdv A outer s H E Θ k C ht hp po bt =>
  (d_scons (d_if (PW.pt (d_wor (d_tc (p_eq C) (d_var 0) (d_tup d_nil)) (d_wor1 (d_tc (p_eq C) (d_var 1) (d_tup d_nil))))) (d_scons (d_ret (d_tup d_nil)) d_snil) d_snil) (d_scons (d_ex (d_call C hp 24 (d_cons (d_op (p_add C) (d_call C hp 20 (d_cons (d_var 0) d_nil)) (d_call C hp 20 (d_cons (d_var 1) d_nil))) d_nil))) (d_scons (d_setO C 2 (d_op (p_mul C) (d_lst (d_cons (d_tup (d_cons d_int (d_cons d_int d_nil))) d_nil)) (d_op (p_sub C) (d_op (p_add C) (d_bltB C (c_len C) (d_var 0)) (d_bltB C (c_len C) (d_var 1))) d_int))) (d_scons (d_for C po (d_ieT C (d_var 0)) (d_gt C (d_g1 (d_gn C 3) (d_g1 (d_gn C 4) d_g0))) (d_scons (d_for C po (d_ieT C (d_var 1)) (d_gt C (d_g1 (d_gn C 5) (d_g1 (d_gn C 6) d_g0))) (d_scons (d_iset C 2 (d_call C hp 4 (d_cons (d_oix C 2 (d_op (p_add C) (d_var 3) (d_var 5))) (d_cons (d_call C hp 7 (d_cons (d_var 4) (d_cons (d_var 6) d_nil))) d_nil))) (d_op (p_add C) (d_var 3) (d_var 5))) d_snil)) d_snil)) (d_sfrz (d_scons (d_ret (d_call C hp 18 (d_cons (d_var 2) d_nil))) d_snil))))))
theorem D28 : Der (defBody (topS 38)) 38 [("poly" : Str), ("at" : Str), ("one" : Str)] "growth" ir28 := fun P w K mg base fa cdv A outer s H E Θ k C ht hp po bt =>
  (d_scons (d_ret (d_call C hp 18 (d_cons (d_sl C (d_lc C ht (d_ieT C (d_var 0)) (fun s H D cl fp C => (d_gt C (d_g1 (d_gn C 1) (d_g1 (d_gn C 2) d_g0)))) (fun s H D cl fp C ht hp => (d_call C hp 7 (d_cons (d_var 2) (d_cons (d_call C hp 3 (d_cons (d_var 1) d_nil)) d_nil)))) (own := [("at", 1), ("one", 2)])) (d_os d_int) d_on) d_nil))) d_snil)
theorem D31 : Der (defBody (topS 46)) 46 [("one" : Str), ("other" : Str), ("out" : Str), ("into" : Str), ("length" : Str), ("far" : Str), ("first" : Str), ("last" : Str), ("second" : Str), ("third" : Str)] "curve" ir31 := fun P w K mg base fa cdv A outer s H E Θ k C ht hp po bt =>
  (d_scons (d_par C 4 5 (d_call C hp 6 (d_cons (d_ix C (d_var 1) d_int) (d_cons (d_ix C (d_var 0) d_int) d_nil))) (d_call C hp 6 (d_cons (d_ix C (d_var 1) d_int) (d_cons (d_ix C (d_var 0) d_int) d_nil)))) (d_scons (d_par C 6 7 (d_call C hp 7 (d_cons (d_var 2) (d_cons (d_var 4) d_nil))) (d_call C hp 7 (d_cons (d_var 3) (d_cons (d_var 4) d_nil)))) (d_scons (d_set C 8 (d_call C hp 6 (d_cons (d_call C hp 7 (d_cons (d_tup (d_cons d_int (d_cons d_int d_nil))) (d_cons (d_var 5) d_nil))) (d_cons (d_call C hp 4 (d_cons (d_call C hp 7 (d_cons (d_tup (d_cons d_int (d_cons d_int d_nil))) (d_cons (d_var 6) d_nil))) (d_cons (d_var 7) d_nil))) d_nil)))) (d_scons (d_set C 9 (d_call C hp 6 (d_cons (d_call C hp 4 (d_cons (d_var 6) (d_cons (d_var 7) d_nil))) (d_cons (d_call C hp 7 (d_cons (d_tup (d_cons d_int (d_cons d_int d_nil))) (d_cons (d_var 5) d_nil))) d_nil)))) (d_scons (d_ret (d_lst (d_cons (d_ix C (d_var 0) d_int) (d_cons (d_var 6) (d_cons (d_var 8) (d_cons (d_var 9) d_nil)))))) d_snil)))))
theorem D34 : Der (defBody (topS 49)) 49 [("track" : Str), ("k" : Str), ("keys" : Str)] "segment" ir34 := fun P w K mg base fa cdv A outer s H E Θ k C ht hp po bt =>
  (d_scons (d_set C 2 (d_ix C (d_var 0) d_int)) (d_scons (d_if (PW.pt (d_wor (d_tnot (d_tv (d_call C hp 0 (d_cons (d_var 1) d_nil)))) (d_wor1 (d_tnot (d_tch (p_le C) (p_lt C) d_int (d_var 1) (d_op (p_sub C) (d_bltB C (c_len C) (d_var 2)) d_int)))))) (d_scons (d_rse0 bt 0 (by decide)) d_snil) d_snil) (d_scons (d_ret (d_call C hp 33 (d_cons (d_ix C (d_var 2) (d_var 1)) (d_cons (d_ix C (d_var 2) (d_op (p_add C) (d_var 1) d_int)) d_nil)))) d_snil)))
theorem D37 : Der (defBody (topS 52)) 52 [("poly" : Str), ("f" : Str), ("found" : Str), ("coefficient" : Str)] "value_of" ir37 := fun P w K mg base fa cdv A outer s H E Θ k C ht hp po bt =>
  (d_scons (d_set C 2 (d_glb C 1)) (d_scons (d_for C po (d_it C (d_rev C (d_var 0))) (d_gn C 3) (d_scons (d_set C 2 (d_call C hp 4 (d_cons (d_call C hp 7 (d_cons (d_var 2) (d_cons (d_var 1) d_nil))) (d_cons (d_var 3) d_nil)))) d_snil)) (d_scons (d_ret (d_var 2)) d_snil)))
theorem D40 : Der (defBody (topS 57)) 57 [("clock" : Str), ("poly" : Str), ("low" : Str), ("high" : Str), ("rate" : Str), ("its" : Str)] "slopes_between" ir40 := fun P w K mg base fa cdv A outer s H E Θ k C ht hp po bt =>
  (d_scons (d_set C 4 (d_call C hp 15 (d_cons (d_var 0) (d_cons (d_call C hp 14 (d_cons (d_var 0) (d_cons (d_var 2) d_nil))) d_nil)))) (d_scons (d_set C 5 (d_call C hp 28 (d_cons (d_var 1) d_nil))) (d_scons (d_ret (d_tup (d_cons (d_str (by decide +kernel)) (d_cons (d_call C hp 7 (d_cons (d_call C hp 21 (d_cons (d_var 5) (d_cons (d_var 2) d_nil))) (d_cons (d_var 4) d_nil))) (d_cons (d_call C hp 7 (d_cons (d_call C hp 21 (d_cons (d_var 5) (d_cons (d_var 3) d_nil))) (d_cons (d_var 4) d_nil))) d_nil))))) d_snil)))
theorem D43 : Der (defBody (topS 60)) 60 [("clock" : Str), ("key" : Str), ("rate" : Str)] "last_key" ir43 := fun P w K mg base fa cdv A outer s H E Θ k C ht hp po bt =>
  (d_scons (d_if (d_tc (p_ne C) (d_ix C (d_ix C (d_var 1) d_int) d_int) (d_str (by decide +kernel))) (d_scons (d_ret (d_tup (d_cons (d_call C hp 14 (d_cons (d_var 0) (d_cons (d_ix C (d_var 1) d_int) d_nil))) (d_cons (d_ix C (d_var 1) d_int) (d_cons (d_ix C (d_var 1) d_int) d_nil))))) d_snil) d_snil) (d_scons (d_set C 2 (d_call C hp 15 (d_cons (d_var 0) (d_cons (d_call C hp 14 (d_cons (d_var 0) (d_cons (d_ix C (d_var 1) d_int) d_nil))) d_nil)))) (d_scons (d_ret (d_tup (d_cons (d_call C hp 14 (d_cons (d_var 0) (d_cons (d_ix C (d_var 1) d_int) d_nil))) (d_cons (d_ix C (d_var 1) d_int) (d_cons (d_tup (d_cons (d_str (by decide +kernel)) (d_cons (d_call C hp 7 (d_cons (d_ix C (d_ix C (d_var 1) d_int) d_int) (d_cons (d_var 2) d_nil))) (d_cons (d_call C hp 7 (d_cons (d_ix C (d_ix C (d_var 1) d_int) d_int) (d_cons (d_var 2) d_nil))) d_nil)))) d_nil))))) d_snil)))
theorem D47 : Der (defBody (topS 65)) 65 [("bag" : Str), ("many" : Str), ("cell" : Str), ("stirred" : Str), ("value_v" : Str), ("begin" : Str), ("second" : Str)] "_law_take" ir47 := fun P w K mg base fa cdv A outer s H E Θ k C ht hp po bt =>
  (d_scons (d_if (d_tc (p_eq C) (d_bget C 0 0) d_int) (d_scons (d_set C 2 (d_ix C (d_op (p_add C) (d_sl C (d_bget C 0 3) (d_os (d_bget C 0 2)) d_on) (d_lst (d_cons d_int d_nil))) d_int)) (d_scons (d_baug C 0 2 d_int) (d_scons (d_if (d_tc (p_ge C) (d_var 2) (d_pow (by decide) (by decide) (by decide) (by decide))) (d_scons (d_bset C 0 0 (d_var 2)) d_snil) d_snil) (d_scons (d_set C 3 (d_op (p_add C) (d_op (p_add C) (d_op (p_mul C) (d_bget C 0 1) d_int) (d_op (p_mod C) (d_bltT C (c_int C) (d_var 2)) d_int)) (d_op (p_mul C) d_int (d_bget C 0 2)))) (d_scons (d_bset C 0 1 (d_op (p_mod C) (d_bltT C (c_int C) (d_var 3)) d_int)) d_snil))))) d_snil) (d_scons (d_if (d_tc (p_gt C) (d_bget C 0 0) d_int) (d_scons (d_set C 4 (d_op (p_mod C) (d_bltT C (c_int C) (d_bget C 0 0)) (d_var 1))) (d_scons (d_bset C 0 0 (d_op (p_fdv C) (d_bltT C (c_int C) (d_bget C 0 0)) (d_var 1))) (d_scons (d_ret (d_var 4)) d_snil))) d_snil) (d_scons (d_set C 5 (d_op (p_mod C) (d_bltT C (c_int C) (d_op (p_mul C) (d_op (p_add C) (d_bget C 0 1) d_int) d_int)) d_int)) (d_scons (d_set C 6 (d_op (p_mod C) (d_bltT C (c_int C) (d_op (p_mul C) (d_op (p_mod C) (d_bltT C (c_int C) (d_op (p_mul C) (d_var 5) (d_var 5))) d_int) d_int)) d_int)) (d_scons (d_ret (d_op (p_mod C) (d_bltT C (c_int C) (d_op (p_fdv C) (d_var 6) d_int)) (d_var 1))) d_snil)))))
theorem D51 : Der (defBody (topS 69)) 69 [("top" : Str), ("bottom" : Str), ("part" : Str)] "_law_fraction" ir51 := fun P w K mg base fa cdv A outer s H E Θ k C ht hp po bt =>
  (d_scons (d_if (d_tc (p_lt C) (d_var 1) d_int) (d_scons (d_par C 0 1 (d_neg (d_var 0)) (d_neg (d_var 1))) d_snil) d_snil) (d_scons (d_set C 2 (d_call C hp 50 (d_cons (d_var 0) (d_cons (d_var 1) d_nil)))) (d_scons (d_ret (d_tup (d_cons (d_op (p_fdv C) (d_var 0) (d_var 2)) (d_cons (d_op (p_fdv C) (d_var 1) (d_var 2)) d_nil)))) d_snil)))
theorem D54 : Der (defBody (topS 72)) 72 [("one" : Str), ("other" : Str)] "_law_less" ir54 := fun P w K mg base fa cdv A outer s H E Θ k C ht hp po bt =>
  (d_scons (d_ret (d_call C hp 52 (d_cons (d_var 0) (d_cons (d_tup (d_cons (d_neg (d_ix C (d_var 1) d_int)) (d_cons (d_ix C (d_var 1) d_int) d_nil))) d_nil)))) d_snil)
theorem D57 : Der (defBody (topS 75)) 75 [("some" : Str), ("found" : Str), ("one" : Str)] "_law_sum" ir57 := fun P w K mg base fa cdv A outer s H E Θ k C ht hp po bt =>
  (d_scons (d_set C 1 (d_tup (d_cons d_int (d_cons d_int d_nil)))) (d_scons (d_for C po (d_il C (d_var 0)) (d_gn C 2) (d_scons (d_set C 1 (d_call C hp 52 (d_cons (d_var 1) (d_cons (d_var 2) d_nil)))) d_snil)) (d_scons (d_ret (d_var 1)) d_snil)))
theorem D60 : Der (defBody (topS 78)) 78 [("one" : Str), ("other" : Str), ("found" : Str), ("k" : Str), ("parts" : Str), ("poly" : Str)] "_law_add" ir60 := fun P w K mg base fa cdv A outer s H E Θ k C ht hp po bt =>
  (d_scons (d_setO C 2 (d_lst d_nil)) (d_scons (d_for C po (d_ir C (d_max2 C (d_bltB C (c_len C) (d_var 0)) (d_bltB C (c_len C) (d_var 1)))) (d_gn C 3) (d_scons (d_setLcfN C 4 (d_it C (d_tup (d_cons (d_var 0) (d_cons (d_var 1) d_nil)))) (fun s H D cl fp C => (d_gn C 5)) (fun s H D cl fp C hp => (d_tc (p_lt C) (d_var 3) (d_bltB C (c_len C) (d_var 5)))) (fun s H D cl fp C hp => (d_ix C (d_var 5) (d_var 3))) (own := [("poly", 5)])) (d_scons (d_app C 2 (d_call C hp 57 (d_cons (d_var 4) d_nil))) d_snil))) (d_sfrz (d_scons (d_ret (d_call C hp 59 (d_cons (d_var 2) d_nil))) d_snil))))
theorem D63 : Der (defBody (topS 81)) 81 [("poly" : Str), ("k" : Str)] "_law_growth" ir63 := fun P w K mg base fa cdv A outer s H E Θ k C ht hp po bt =>
  (d_scons (d_ret (d_call C hp 59 (d_cons (d_lc C ht (d_ir2 C d_int (d_bltB C (c_len C) (d_var 0))) (fun s H D cl fp C => (d_gn C 1)) (fun s H D cl fp C ht hp => (d_call C hp 53 (d_cons (d_tup (d_cons (d_var 1) (d_cons d_int d_nil))) (d_cons (d_ix C (d_var 0) (d_var 1)) d_nil)))) (own := [("k", 1)])) d_nil))) d_snil)
theorem D66 : Der (defBody (topS 84)) 84 [("bag" : Str), ("keys" : Str), ("values" : Str), ("kind" : Str), ("many" : Str), ("at" : Str), ("found" : Str), ("k" : Str), ("curve_v" : Str), ("value_v" : Str)] "_law_track" ir66 := fun P w K mg base fa cdv A outer s H E Θ k C ht hp po bt =>
  (d_scons (d_par3 C 4 5 6 (d_op (p_add C) d_int (d_call C hp 47 (d_cons (d_var 0) (d_cons (d_var 1) d_nil)))) (d_call C hp 51 (d_cons (d_op (p_sub C) (d_call C hp 47 (d_cons (d_var 0) (d_cons d_int d_nil))) d_int) (d_cons d_int d_nil))) (d_lst d_nil)) (d_scons (d_for C po (d_ir C (d_var 4)) (d_gn C 7) (d_scons (d_set C 8 (d_call C hp 48 (d_cons (d_var 0) (d_cons (d_ite (d_tc (p_eq C) (d_var 3) d_int) (d_lst (d_cons (d_tup (d_cons (d_str (by decide +kernel)) d_nil)) (d_cons (d_tup (d_cons (d_str (by decide +kernel)) d_nil)) (d_cons (d_tup (d_cons (d_str (by decide +kernel)) d_nil)) (d_cons (d_tup (d_cons (d_str (by decide +kernel)) d_nil)) d_nil))))) (d_lst (d_cons (d_tup (d_cons (d_str (by decide +kernel)) d_nil)) (d_cons (d_tup (d_cons (d_str (by decide +kernel)) d_nil)) d_nil)))) d_nil)))) (d_scons (d_if (PW.pt (d_wand (d_tc (p_eq C) (d_var 3) d_int) (d_wand1 (d_tc (p_eq C) (d_call C hp 47 (d_cons (d_var 0) (d_cons d_int d_nil))) d_int)))) (d_scons (d_set C 8 (d_tup (d_cons (d_str (by decide +kernel)) (d_cons (d_call C hp 58 (d_cons (d_var 0) (d_cons d_int d_nil))) (d_cons (d_call C hp 58 (d_cons (d_var 0) (d_cons d_int d_nil))) d_nil))))) d_snil) d_snil) (d_scons (d_set C 9 (d_call C hp 58 (d_cons (d_var 0) (d_cons (d_var 2) d_nil)))) (d_scons (d_set C 9 (d_ite (d_tc (p_eq C) (d_var 3) d_int) (d_var 9) (d_call C hp 51 (d_cons (d_call C hp 47 (d_cons (d_var 0) (d_cons (d_op (p_add C) (d_var 2) d_int) d_nil))) (d_cons (d_call C hp 48 (d_cons (d_var 0) (d_cons (d_lst (d_cons d_int (d_cons d_int d_nil))) d_nil))) d_nil))))) (d_scons (d_app C 6 (d_tup (d_cons (d_var 5) (d_cons (d_var 9) (d_cons (d_var 8) d_nil))))) (d_scons (d_set C 5 (d_call C hp 52 (d_cons (d_var 5) (d_cons (d_call C hp 48 (d_cons (d_var 0) (d_cons (d_lst (d_cons (d_tup (d_cons d_int (d_cons d_int d_nil))) (d_cons (d_tup (d_cons d_int (d_cons d_int d_nil))) (d_cons (d_tup (d_cons d_int (d_cons d_int d_nil))) d_nil)))) d_nil))) d_nil)))) d_snil))))))) (d_sfrz (d_scons (d_ret (d_tup (d_cons (d_bltT C (c_tup C) (d_var 6)) (d_cons (d_ite (d_tc (p_gt C) (d_var 4) d_int) (d_call C hp 48 (d_cons (d_var 0) (d_cons (d_lst (d_cons (d_str (by decide +kernel)) (d_cons (d_str (by decide +kernel)) (d_cons (d_str (by decide +kernel)) d_nil)))) d_nil))) (d_str (by decide +kernel))) d_nil)))) d_snil))))
theorem D69 : Der (defBody (topS 87)) 87 [("clock" : Str), ("t" : Str), ("u" : Str), ("s" : Str), ("v" : Str)] "_law_clock_slopes" ir69 := fun P w K mg base fa cdv A outer s H E Θ k C ht hp po bt =>
  (d_scons (d_ret (d_op (p_add C) (d_lc C ht (d_iz C (d_ix C (d_var 0) d_int) (d_sl C (d_ix C (d_var 0) d_int) (d_os d_int) d_on)) (fun s H D cl fp C => (d_gt C (d_g1 (d_gt C (d_g1 (d_gn C 1) (d_g1 (d_gn C 2) d_g0))) (d_g1 (d_gt C (d_g1 (d_gn C 3) (d_g1 (d_gn C 4) d_g0))) d_g0)))) (fun s H D cl fp C ht hp => (d_call C hp 55 (d_cons (d_call C hp 54 (d_cons (d_var 4) (d_cons (d_var 2) d_nil))) (d_cons (d_call C hp 54 (d_cons (d_var 3) (d_cons (d_var 1) d_nil))) d_nil)))) (own := [("t", 1), ("u", 2), ("s", 3), ("v", 4)])) (d_lst (d_cons (d_ix C (d_var 0) d_int) d_nil)))) d_snil)
theorem D73 : Der (defBody (topS 91)) 91 [("track" : Str), ("clock" : Str), ("keys" : Str), ("found" : Str), ("slopes" : Str), ("k" : Str), ("marks" : Str), ("poly" : Str), ("ends" : Str), ("low" : Str), ("high" : Str), ("told" : Str), ("t" : Str), ("a" : Str), ("curve_v" : Str), ("u" : Str), ("b" : Str), ("last" : Str), ("at" : Str), ("time" : Str), ("shown" : Str), ("n" : Str), ("point" : Str), ("f" : Str)] "_law_own_track" ir73 := fun P w K mg base fa cdv A outer s H E Θ k C ht hp po bt =>
  (d_scons (d_set C 1 (d_call C hp 71 (d_cons (d_var 1) d_nil))) (d_scons (d_par C 2 3 (d_ix C (d_var 0) d_int) (d_lst d_nil)) (d_scons (d_set C 4 (d_call C hp 69 (d_cons (d_var 1) d_nil))) (d_scons (d_for C po (d_ir C (d_op (p_sub C) (d_bltB C (c_len C) (d_var 2)) d_int)) (d_gn C 5) (d_scons (d_asg (d_tup (d_cons (d_ix C (d_var 2) (d_var 5)) (d_cons (d_ix C (d_var 2) (d_op (p_add C) (d_var 5) d_int)) d_nil))) (d_gt C (d_g1 (d_gt C (d_g1 (d_gn C 12) (d_g1 (d_gn C 13) (d_g1 (d_gn C 14) d_g0)))) (d_g1 (d_gt C (d_g1 (d_gn C 15) (d_g1 (d_gn C 16) (d_g1 (d_gn C 17) d_g0)))) d_g0)))) (d_scons (d_setLcfN C 6 (d_it C (d_sl C (d_ix C (d_var 1) d_int) (d_os d_int) d_on)) (fun s H D cl fp C => (d_gt C (d_g1 (d_gn C 19) (d_g1 (d_gn C 20) d_g0)))) (fun s H D cl fp C hp => (PW.pt (d_wand (d_tc (p_ne C) (d_ix C (d_var 14) d_int) (d_str (by decide +kernel))) (d_wand (d_tc (p_lt C) (d_call C hp 56 (d_cons (d_var 12) (d_cons (d_var 20) d_nil))) d_int) (d_wand1 (d_tc (p_lt C) (d_call C hp 56 (d_cons (d_var 20) (d_cons (d_var 15) d_nil))) d_int)))))) (fun s H D cl fp C hp => (d_var 20)) (own := [("time", 19), ("shown", 20)])) (d_scons (d_asg (d_tup (d_cons (d_call C hp 65 (d_cons (d_var 0) (d_cons (d_var 5) d_nil))) (d_cons (d_op (p_add C) (d_op (p_add C) (d_lst (d_cons (d_var 12) d_nil)) (d_var 6)) (d_lst (d_cons (d_var 15) d_nil))) d_nil))) (d_gt C (d_g1 (d_gn C 7) (d_g1 (d_gn C 8) d_g0)))) (d_scons (d_for C po (d_iz C (d_var 8) (d_sl C (d_var 8) (d_os d_int) d_on)) (d_gt C (d_g1 (d_gn C 9) (d_g1 (d_gn C 10) d_g0))) (d_scons (d_set C 11 (d_var 14)) (d_scons (d_if (PW.pt (d_wor (d_tc (p_eq C) (d_ix C (d_var 14) d_int) (d_str (by decide +kernel))) (d_wor1 (PW.pt (d_wand (d_tc (p_eq C) (d_ix C (d_var 14) d_int) (d_str (by decide +kernel))) (d_wand1 (d_tc (p_ne C) (d_var 6) (d_lst d_nil)))))))) (d_scons (d_set C 18 (d_bltB C (c_max1 C) (d_lcf C ht (d_ieT C (d_ix C (d_var 1) d_int)) (fun s H D cl fp C => (d_gt C (d_g1 (d_gn C 21) (d_g1 (d_gn C 22) d_g0)))) (fun s H D cl fp C ht hp => (PW.pt (d_wor (d_tc (p_eq C) (d_var 21) d_int) (d_wor1 (d_tc (p_le C) (d_call C hp 56 (d_cons (d_ix C (d_var 22) d_int) (d_cons (d_var 9) d_nil))) d_int))))) (fun s H D cl fp C ht hp => (d_var 21)) (own := [("n", 21), ("point", 22)])))) (d_scons (d_set C 11 (d_op (p_add C) (d_tup (d_cons (d_str (by decide +kernel)) d_nil)) (d_bltT C (c_tup C) (d_lc C ht (d_it C (d_tup (d_cons (d_var 9) (d_cons (d_var 10) d_nil)))) (fun s H D cl fp C => (d_gn C 23)) (fun s H D cl fp C ht hp => (d_call C hp 53 (d_cons (d_call C hp 62 (d_cons (d_call C hp 63 (d_cons (d_var 7) d_nil)) (d_cons (d_var 23) d_nil))) (d_cons (d_ix C (d_var 4) (d_var 18)) d_nil)))) (own := [("f", 23)]))))) d_snil)) d_snil) (d_scons (d_app C 3 (d_tup (d_cons (d_call C hp 70 (d_cons (d_var 1) (d_cons (d_var 9) (d_cons d_int d_nil)))) (d_cons (d_ite (d_tc (p_eq C) (d_var 9) (d_var 12)) (d_var 13) (d_call C hp 62 (d_cons (d_var 7) (d_cons (d_var 9) d_nil)))) (d_cons (d_var 11) d_nil))))) d_snil)))) d_snil))))) (d_scons (d_asg (d_ix C (d_var 2) (d_neg d_int)) (d_gt C (d_g1 (d_gn C 12) (d_g1 (d_gn C 13) (d_g1 (d_gn C 14) d_g0))))) (d_scons (d_if (d_tc (p_eq C) (d_ix C (d_var 14) d_int) (d_str (by decide +kernel))) (d_scons (d_set C 18 (d_bltB C (c_max1 C) (d_lcf C ht (d_ieT C (d_ix C (d_var 1) d_int)) (fun s H D cl fp C => (d_gt C (d_g1 (d_gn C 21) (d_g1 (d_gn C 22) d_g0)))) (fun s H D cl fp C ht hp => (PW.pt (d_wor (d_tc (p_eq C) (d_var 21) d_int) (d_wor1 (d_tc (p_le C) (d_call C hp 56 (d_cons (d_ix C (d_var 22) d_int) (d_cons (d_var 12) d_nil))) d_int))))) (fun s H D cl fp C ht hp => (d_var 21)) (own := [("n", 21), ("point", 22)])))) (d_scons (d_set C 14 (d_tup (d_cons (d_str (by decide +kernel)) (d_cons (d_call C hp 53 (d_cons (d_ix C (d_var 14) d_int) (d_cons (d_ix C (d_var 4) (d_var 18)) d_nil))) (d_cons (d_call C hp 53 (d_cons (d_ix C (d_var 14) d_int) (d_cons (d_ix C (d_var 4) (d_var 18)) d_nil))) d_nil))))) d_snil)) d_snil) (d_sfrz (d_scons (d_ret (d_tup (d_cons (d_bltT C (c_tup C) (d_op (p_add C) (d_var 3) (d_lst (d_cons (d_tup (d_cons (d_call C hp 70 (d_cons (d_var 1) (d_cons (d_var 12) (d_cons d_int d_nil)))) (d_cons (d_var 13) (d_cons (d_var 14) d_nil)))) d_nil)))) (d_cons (d_ix C (d_var 0) d_int) d_nil)))) d_snil))))))))
end G

/-! Derivations (printed by wip/tools/gen2.py). -/
namespace G
open PySem PySem.Spec PyProof.Rows L2
theorem D2 : Der (defBody (topS 8)) 8 [("top" : Str), ("bottom" : Str), ("by" : Str)] "fraction" ir2 := fun P w K mg base fa cdv A outer s H E Θ k C ht hp po bt =>
  (d_scons (d_if (d_tc (p_eq C) (d_var 1) d_int) (d_scons (d_rse0 bt 0 (by decide)) d_snil) d_snil) (d_scons (d_set C 2 (d_call C hp 1 (d_cons (d_var 0) (d_cons (d_var 1) d_nil)))) (d_scons (d_set C 2 (d_ite (d_tc (p_lt C) (d_var 1) d_int) (d_op (p_sub C) d_int (d_var 2)) (d_var 2))) (d_scons (d_ret (d_tup (d_cons (d_op (p_fdv C) (d_var 0) (d_var 2)) (d_cons (d_op (p_fdv C) (d_var 1) (d_var 2)) d_nil)))) d_snil))))
theorem D5 : Der (defBody (topS 11)) 11 [("one" : Str)] "negative" ir5 := fun P w K mg base fa cdv A outer s H E Θ k C ht hp po bt =>
  (d_scons (d_ret (d_tup (d_cons (d_op (p_sub C) d_int (d_ix C (d_var 0) d_int)) (d_cons (d_ix C (d_var 0) d_int) d_nil)))) d_snil)
theorem D8 : Der (defBody (topS 14)) 14 [("one" : Str), ("other" : Str)] "over" ir8 := fun P w K mg base fa cdv A outer s H E Θ k C ht hp po bt =>
  (d_scons (d_ret (d_call C hp 2 (d_cons (d_op (p_mul C) (d_ix C (d_var 0) d_int) (d_ix C (d_var 1) d_int)) (d_cons (d_op (p_mul C) (d_ix C (d_var 0) d_int) (d_ix C (d_var 1) d_int)) d_nil)))) d_snil)
theorem D11 : Der (defBody (topS 17)) 17 [("one" : Str)] "floor_of" ir11 := fun P w K mg base fa cdv A outer s H E Θ k C ht hp po bt =>
  (d_scons (d_ret (d_op (p_fdv C) (d_ix C (d_var 0) d_int) (d_ix C (d_var 0) d_int))) d_snil)
theorem D14 : Der (defBody (topS 21)) 21 [("clock" : Str), ("u" : Str), ("at" : Str), ("time" : Str), ("shown" : Str)] "time_of" ir14 := fun P w K mg base fa cdv A outer s H E Θ k C ht hp po bt =>
  (d_scons (d_set C 2 (d_call C hp 13 (d_cons (d_var 0) (d_cons (d_var 1) (d_cons d_int d_nil))))) (d_scons (d_asg (d_ix C (d_ix C (d_var 0) d_int) (d_var 2)) (d_gt C (d_g1 (d_gn C 3) (d_g1 (d_gn C 4) d_g0)))) (d_scons (d_ret (d_call C hp 4 (d_cons (d_var 3) (d_cons (d_call C hp 8 (d_cons (d_call C hp 6 (d_cons (d_var 1) (d_cons (d_var 4) d_nil))) (d_cons (d_ix C (d_call C hp 12 (d_cons (d_var 0) d_nil)) (d_var 2)) d_nil))) d_nil)))) d_snil)))
theorem D17 : Der (defBody (topS 24)) 24 [("clock" : Str)] "is_straight" ir17 := fun P w K mg base fa cdv A outer s H E Θ k C ht hp po bt =>
  (d_scons (d_ret (d_cmp (p_eq C) (d_bltB C (c_len C) (d_ix C (d_call C hp 16 (d_cons (d_var 0) d_nil)) d_int)) d_int)) d_snil)
theorem D20 : Der (defBody (topS 29)) 29 [("poly" : Str)] "degree" ir20 := fun P w K mg base fa cdv A outer s H E Θ k C ht hp po bt =>
  (d_scons (d_ret (d_op (p_sub C) (d_bltB C (c_len C) (d_var 0)) d_int)) d_snil)
theorem D23 : Der (defBody (topS 33)) 33 [("poly" : Str), ("f" : Str), ("one" : Str)] "scaled" ir23 := fun P w K mg base fa cdv A outer s H E Θ k C ht hp po bt =>
  (d_scons (d_ret (d_call C hp 18 (d_cons (d_lc C ht (d_it C (d_var 0)) (fun s H D cl fp C => (d_gn C 2)) (fun s H D cl fp C ht hp => (d_call C hp 7 (d_cons (d_var 2) (d_cons (d_var 1) d_nil)))) (own := [("one", 2)])) d_nil))) d_snil)
theorem D26 : Der (defBody (topS 36)) 36 [("one" : Str), ("other" : Str), ("found" : Str), ("coefficient" : Str)] "put_in" ir26 := fun P w K mg base fa cdv A outer s H E Θ k C ht hp po bt =>
  (d_scons (d_if (PW.pt (d_wand (d_tc (p_gt C) (d_call C hp 20 (d_cons (d_var 0) d_nil)) d_int) (d_wand1 (d_tc (p_gt C) (d_call C hp 20 (d_cons (d_var 1) d_nil)) d_int)))) (d_scons (d_ex (d_call C hp 24 (d_cons (d_op (p_mul C) (d_call C hp 20 (d_cons (d_var 0) d_nil)) (d_call C hp 20 (d_cons (d_var 1) d_nil))) d_nil))) d_snil) d_snil) (d_scons (d_set C 2 (d_tup d_nil)) (d_scons (d_for C po (d_it C (d_rev C (d_var 0))) (d_gn C 3) (d_scons (d_set C 2 (d_call C hp 22 (d_cons (d_call C hp 25 (d_cons (d_var 2) (d_cons (d_var 1) d_nil))) (d_cons (d_call C hp 19 (d_cons (d_var 3) d_nil)) d_nil)))) d_snil)) (d_scons (d_ret (d_var 2)) d_snil))))
theorem D29 : Der (defBody (topS 44)) 44 [("f" : Str)] "constant" ir29 := fun P w K mg base fa cdv A outer s H E Θ k C ht hp po bt =>
  (d_scons (d_ret (d_ite (d_tc (p_ne C) (d_call C hp 9 (d_cons (d_var 0) d_nil)) d_int) (d_tup (d_cons (d_var 0) d_nil)) (d_tup d_nil))) d_snil)
theorem D32 : Der (defBody (topS 47)) 47 [("coefficients" : Str), ("found" : Str)] "trimmed" ir32 := fun P w K mg base fa cdv A outer s H E Θ k C ht hp po bt =>
  (d_scons (d_setO C 1 (d_bltT C (c_lst C) (d_var 0))) (d_scons (d_whl po (PW.pt (d_wand (d_toem C 1) (d_wand1 (d_tc (p_eq C) (d_call C hp 9 (d_cons (d_oix C 1 (d_neg d_int)) d_nil)) d_int)))) (d_scons (d_pop C 1) d_snil)) (d_sfrz (d_scons (d_ret (d_bltT C (c_tup C) (d_var 1))) d_snil))))
theorem D35 : Der (defBody (topS 50)) 50 [("track" : Str)] "round_of_track" ir35 := fun P w K mg base fa cdv A outer s H E Θ k C ht hp po bt =>
  (d_scons (d_ret (d_ite (d_tc (p_eq C) (d_ix C (d_var 0) d_int) (d_str (by decide +kernel))) (d_call C hp 6 (d_cons (d_ix C (d_ix C (d_ix C (d_var 0) d_int) (d_neg d_int)) d_int) (d_cons (d_ix C (d_ix C (d_ix C (d_var 0) d_int) d_int) d_int) d_nil))) d_non)) d_snil)
theorem D38 : Der (defBody (topS 53)) 53 [("track" : Str), ("f" : Str), ("keys" : Str), ("one" : Str), ("other" : Str)] "value" ir38 := fun P w K mg base fa cdv A outer s H E Θ k C ht hp po bt =>
  (d_scons (d_par C 2 1 (d_ix C (d_var 0) d_int) (d_call C hp 36 (d_cons (d_var 0) (d_cons (d_var 1) d_nil)))) (d_scons (d_if (d_tc (p_le C) (d_call C hp 10 (d_cons (d_var 1) (d_cons (d_ix C (d_ix C (d_var 2) d_int) d_int) d_nil))) d_int) (d_scons (d_ret (d_ix C (d_ix C (d_var 2) d_int) d_int)) d_snil) d_snil) (d_scons (d_for C po (d_iz C (d_var 2) (d_sl C (d_var 2) (d_os d_int) d_on)) (d_gt C (d_g1 (d_gn C 3) (d_g1 (d_gn C 4) d_g0))) (d_scons (d_if (d_tc (p_lt C) (d_call C hp 10 (d_cons (d_var 1) (d_cons (d_ix C (d_var 4) d_int) d_nil))) d_int) (d_scons (d_ret (d_ite (d_tc (p_gt C) (d_call C hp 10 (d_cons (d_var 1) (d_cons (d_ix C (d_var 3) d_int) d_nil))) d_int) (d_call C hp 37 (d_cons (d_call C hp 33 (d_cons (d_var 3) (d_cons (d_var 4) d_nil))) (d_cons (d_var 1) d_nil))) (d_ix C (d_var 3) d_int))) d_snil) d_snil) d_snil)) (d_scons (d_ret (d_ix C (d_ix C (d_var 2) (d_neg d_int)) d_int)) d_snil))))
theorem D41 : Der (defBody (topS 58)) 58 [("clock" : Str), ("key" : Str), ("poly" : Str), ("marks" : Str), ("low" : Str), ("high" : Str)] "curve_between" ir41 := fun P w K mg base fa cdv A outer s H E Θ k C ht hp po bt =>
  (d_scons (d_if (PW.pt (d_wor (d_tc (p_inn C) (d_ix C (d_ix C (d_var 1) d_int) d_int) (d_tup (d_cons (d_str (by decide +kernel)) (d_cons (d_str (by decide +kernel)) d_nil)))) (d_wor1 (PW.pt (d_wand (d_tc (p_eq C) (d_ix C (d_ix C (d_var 1) d_int) d_int) (d_str (by decide +kernel))) (d_wand1 (d_tc (p_eq C) (d_var 3) (d_lst d_nil)))))))) (d_scons (d_ret (d_ix C (d_var 1) d_int)) d_snil) d_snil) (d_scons (d_ret (d_call C hp 40 (d_cons (d_var 0) (d_cons (d_var 2) (d_cons (d_var 4) (d_cons (d_var 5) d_nil)))))) d_snil))
theorem D44 : Der (defBody (topS 61)) 61 [("track" : Str), ("clock" : Str), ("found" : Str), ("k" : Str)] "retimed_track" ir44 := fun P w K mg base fa cdv A outer s H E Θ k C ht hp po bt =>
  (d_scons (d_if (PW.pt (d_wand (d_tc (p_eq C) (d_ix C (d_var 0) d_int) (d_str (by decide +kernel))) (d_wand1 (d_tnot (d_tv (d_call C hp 17 (d_cons (d_var 1) d_nil))))))) (d_scons (d_rse0 bt 0 (by decide)) d_snil) d_snil) (d_scons (d_setO C 2 (d_lst d_nil)) (d_scons (d_for C po (d_ir C (d_op (p_sub C) (d_bltB C (c_len C) (d_ix C (d_var 0) d_int)) d_int)) (d_gn C 3) (d_scons (d_ext C 2 (d_call C hp 42 (d_cons (d_var 1) (d_cons (d_var 0) (d_cons (d_var 3) d_nil))))) d_snil)) (d_scons (d_app C 2 (d_call C hp 43 (d_cons (d_var 1) (d_cons (d_ix C (d_ix C (d_var 0) d_int) (d_neg d_int)) d_nil)))) (d_scons (d_if (d_tc (p_gt C) (d_olen C 2) (d_glb C 3)) (d_scons (d_rse2 bt 1 (by decide) (d_str (by decide +kernel)) (d_glb C 3)) d_snil) d_snil) (d_sfrz (d_scons (d_ret (d_tup (d_cons (d_bltT C (c_tup C) (d_var 2)) (d_cons (d_ix C (d_var 0) d_int) d_nil)))) d_snil)))))))
theorem D48 : Der (defBody (topS 66)) 66 [("bag" : Str), ("things" : Str)] "_law_some" ir48 := fun P w K mg base fa cdv A outer s H E Θ k C ht hp po bt =>
  (d_scons (d_ret (d_ix C (d_var 1) (d_call C hp 47 (d_cons (d_var 0) (d_cons (d_bltB C (c_len C) (d_var 1)) d_nil))))) d_snil)
theorem D52 : Der (defBody (topS 70)) 70 [("one" : Str), ("other" : Str)] "_law_plus" ir52 := fun P w K mg base fa cdv A outer s H E Θ k C ht hp po bt =>
  (d_scons (d_ret (d_call C hp 51 (d_cons (d_op (p_add C) (d_op (p_mul C) (d_ix C (d_var 0) d_int) (d_ix C (d_var 1) d_int)) (d_op (p_mul C) (d_ix C (d_var 1) d_int) (d_ix C (d_var 0) d_int))) (d_cons (d_op (p_mul C) (d_ix C (d_var 0) d_int) (d_ix C (d_var 1) d_int)) d_nil)))) d_snil)
theorem D55 : Der (defBody (topS 73)) 73 [("one" : Str), ("other" : Str)] "_law_over" ir55 := fun P w K mg base fa cdv A outer s H E Θ k C ht hp po bt =>
  (d_scons (d_ret (d_call C hp 51 (d_cons (d_op (p_mul C) (d_ix C (d_var 0) d_int) (d_ix C (d_var 1) d_int)) (d_cons (d_op (p_mul C) (d_ix C (d_var 0) d_int) (d_ix C (d_var 1) d_int)) d_nil)))) d_snil)
theorem D58 : Der (defBody (topS 76)) 76 [("bag" : Str), ("most" : Str)] "_law_some_fraction" ir58 := fun P w K mg base fa cdv A outer s H E Θ k C ht hp po bt =>
  (d_scons (d_ret (d_call C hp 51 (d_cons (d_op (p_sub C) (d_call C hp 47 (d_cons (d_var 0) (d_cons (d_op (p_add C) (d_op (p_mul C) d_int (d_var 1)) d_int) d_nil))) (d_var 1)) (d_cons (d_call C hp 48 (d_cons (d_var 0) (d_cons (d_lst (d_cons d_int (d_cons d_int (d_cons d_int (d_cons d_int (d_cons d_int (d_cons d_int d_nil))))))) d_nil))) d_nil)))) d_snil)
theorem D61 : Der (defBody (topS 79)) 79 [("one" : Str), ("other" : Str), ("found" : Str), ("i" : Str), ("a" : Str), ("j" : Str), ("b" : Str)] "_law_multiply" ir61 := fun P w K mg base fa cdv A outer s H E Θ k C ht hp po bt =>
  (d_scons (d_setO C 2 (d_op (p_mul C) (d_lst (d_cons (d_tup (d_cons d_int (d_cons d_int d_nil))) d_nil)) (d_op (p_add C) (d_bltB C (c_len C) (d_var 0)) (d_bltB C (c_len C) (d_var 1))))) (d_scons (d_for C po (d_ieT C (d_var 0)) (d_gt C (d_g1 (d_gn C 3) (d_g1 (d_gn C 4) d_g0))) (d_scons (d_for C po (d_ieT C (d_var 1)) (d_gt C (d_g1 (d_gn C 5) (d_g1 (d_gn C 6) d_g0))) (d_scons (d_iset C 2 (d_call C hp 52 (d_cons (d_oix C 2 (d_op (p_add C) (d_var 3) (d_var 5))) (d_cons (d_call C hp 53 (d_cons (d_var 4) (d_cons (d_var 6) d_nil))) d_nil))) (d_op (p_add C) (d_var 3) (d_var 5))) d_snil)) d_snil)) (d_sfrz (d_scons (d_ret (d_call C hp 59 (d_cons (d_var 2) d_nil))) d_snil))))
theorem D64 : Der (defBody (topS 82)) 82 [("poly" : Str), ("a" : Str), ("b" : Str), ("found" : Str), ("one" : Str)] "_law_led" ir64 := fun P w K mg base fa cdv A outer s H E Θ k C ht hp po bt =>
  (d_scons (d_set C 3 (d_tup d_nil)) (d_scons (d_for C po (d_it C (d_rev C (d_var 0))) (d_gn C 4) (d_scons (d_set C 3 (d_call C hp 60 (d_cons (d_call C hp 61 (d_cons (d_var 3) (d_cons (d_call C hp 59 (d_cons (d_lst (d_cons (d_var 2) (d_cons (d_var 1) d_nil))) d_nil)) d_nil))) (d_cons (d_call C hp 59 (d_cons (d_lst (d_cons (d_var 4) d_nil)) d_nil)) d_nil)))) d_snil)) (d_scons (d_ret (d_var 3)) d_snil)))
theorem D67 : Der (defBody (topS 85)) 85 [("value_v" : Str)] "_law_still" ir67 := fun P w K mg base fa cdv A outer s H E Θ k C ht hp po bt =>
  (d_scons (d_ret (d_tup (d_cons (d_tup (d_cons (d_tup (d_cons (d_tup (d_cons d_int (d_cons d_int d_nil))) (d_cons (d_var 0) (d_cons (d_tup (d_cons (d_str (by decide +kernel)) d_nil)) d_nil)))) d_nil)) (d_cons (d_str (by decide +kernel)) d_nil)))) d_snil)
theorem D70 : Der (defBody (topS 88)) 88 [("clock" : Str), ("f" : Str), ("way" : Str), ("k" : Str), ("at" : Str), ("point" : Str), ("slope" : Str), ("rest" : Str)] "_law_shows" ir70 := fun P w K mg base fa cdv A outer s H E Θ k C ht hp po bt =>
  (d_scons (d_set C 3 (d_bltB C (c_max1 C) (d_lcf C ht (d_ieT C (d_ix C (d_var 0) d_int)) (fun s H D cl fp C => (d_gt C (d_g1 (d_gn C 4) (d_g1 (d_gn C 5) d_g0)))) (fun s H D cl fp C ht hp => (PW.pt (d_wor (d_tc (p_eq C) (d_var 4) d_int) (d_wor1 (d_tc (p_le C) (d_call C hp 56 (d_cons (d_ix C (d_var 5) (d_var 2)) (d_cons (d_var 1) d_nil))) d_int))))) (fun s H D cl fp C ht hp => (d_var 4)) (own := [("at", 4), ("point", 5)])))) (d_scons (d_set C 6 (d_ix C (d_call C hp 69 (d_cons (d_var 0) d_nil)) (d_var 3))) (d_scons (d_set C 7 (d_call C hp 54 (d_cons (d_var 1) (d_cons (d_ix C (d_ix C (d_ix C (d_var 0) d_int) (d_var 3)) (d_var 2)) d_nil)))) (d_scons (d_ret (d_call C hp 52 (d_cons (d_ix C (d_ix C (d_ix C (d_var 0) d_int) (d_var 3)) (d_op (p_sub C) d_int (d_var 2))) (d_cons (d_ite (d_tc (p_eq C) (d_var 2) d_int) (d_call C hp 53 (d_cons (d_var 7) (d_cons (d_var 6) d_nil))) (d_call C hp 55 (d_cons (d_var 7) (d_cons (d_var 6) d_nil)))) d_nil)))) d_snil))))
end G

/-! Derivations (printed by wip/tools/gen2.py). -/
namespace G
open PySem PySem.Spec PyProof.Rows L2
theorem D74 : DerG ((defBody (topS 92)).drop 1) 92 [("script" : Str), ("bag" : Str), ("lap" : Str), ("tracks" : Str), ("clock" : Str), ("scene" : Str), ("straight" : Str), ("loops" : Str), ("due" : Str), ("keys" : Str), ("points" : Str), ("bent" : Str), ("long" : Str), ("own" : Str), ("heard" : Str), ("both" : Str), ("k" : Str), ("part" : Str), ("word" : Str), ("time" : Str), ("shown" : Str), ("track" : Str)] "law" ir74 := fun P w K mg base fa cdv A outer s H E Θ k C ht hp po bt cg ch =>
  (d_scons (d_for C po (d_ir C d_int) (d_gn C 2) (d_scons (d_setLcN C 3 (d_ir C d_int) (fun s H D cl fp C => (d_gn C 16)) (fun s H D cl fp C hp => (d_call C hp 66 (d_cons (d_var 1) (d_cons d_int (d_cons d_int (d_cons d_int d_nil)))))) (own := [("k", 16)])) (d_scons (d_if (d_tc (p_eq C) (d_call C hp 47 (d_cons (d_var 1) (d_cons d_int d_nil))) d_int) (d_scons (d_setLcN C 3 (d_il C (d_var 3)) (fun s H D cl fp C => (d_gt C (d_g1 (d_gn C 9) (d_g1 (d_gn C 18) d_g0)))) (fun s H D cl fp C hp => (d_tup (d_cons (d_var 9) (d_cons (d_str (by decide +kernel)) d_nil)))) (own := [("keys", 9), ("word", 18)])) d_snil) d_snil) (d_scons (d_set C 4 (d_ite (d_tc (p_gt C) (d_call C hp 47 (d_cons (d_var 1) (d_cons d_int d_nil))) d_int) (d_call C hp 68 (d_cons (d_var 1) d_nil)) (d_tup (d_cons (d_tup (d_cons (d_tup (d_cons (d_tup (d_cons d_int (d_cons d_int d_nil))) (d_cons (d_tup (d_cons d_int (d_cons d_int d_nil))) d_nil))) d_nil)) (d_cons (d_call C hp 48 (d_cons (d_var 1) (d_cons (d_lst (d_cons (d_tup (d_cons d_int (d_cons d_int d_nil))) (d_cons (d_tup (d_cons d_int (d_cons d_int d_nil))) d_nil))) d_nil))) d_nil))))) (d_scons (d_set C 5 (d_tup (d_cons (d_tup (d_cons (d_str (by decide +kernel)) (d_cons d_non (d_cons (d_tup (d_cons (d_str (by decide +kernel)) (d_cons (d_tup (d_cons d_int (d_cons d_int d_nil))) d_nil))) (d_cons (d_ix C (d_var 3) d_int) (d_cons (d_ix C (d_var 3) d_int) (d_cons (d_call C hp 67 (d_cons (d_tup (d_cons d_int (d_cons d_int d_nil))) d_nil)) d_nil))))))) d_nil))) (d_scons (d_set C 6 (d_cmp (p_eq C) (d_bltB C (c_len C) (d_ix C (d_call C hp 71 (d_cons (d_var 4) d_nil)) d_int)) d_int)) (d_scons (d_set C 7 (d_cmp (p_ne C) (d_lcf C ht (d_il C (d_var 3)) (fun s H D cl fp C => (d_gt C (d_g1 (d_gn C 9) (d_g1 (d_gn C 18) d_g0)))) (fun s H D cl fp C ht hp => (d_tc (p_eq C) (d_var 18) (d_str (by decide +kernel)))) (fun s H D cl fp C ht hp => (d_var 18)) (own := [("keys", 9), ("word", 18)])) (d_lst d_nil))) (d_scons (d_set C 8 (d_bltT C (c_tup C) (d_lc C ht (d_it C (d_var 5)) (fun s H D cl fp C => (d_gn C 17)) (fun s H D cl fp C ht hp => (d_op (p_add C) (d_sl C (d_var 17) d_on (d_os d_int)) (d_bltT C (c_tup C) (d_lc C ht (d_it C (d_sl C (d_var 17) (d_os d_int) d_on)) (fun s H D cl fp C => (d_gn C 21)) (fun s H D cl fp C ht hp => (d_call C hp 73 (d_cons (d_var 21) (d_cons (d_var 4) d_nil)))) (own := [("track", 21)]))))) (own := [("part", 17)])))) (d_scons (d_if (d_tnot (d_tv (d_callG (cg 49 _ (by decide)) (d_cons (d_heard ch (fun A outer s H E f c C hp => (d_call C hp 45 (d_cons (d_var 5) (d_cons (d_var 4) d_nil))))) (d_cons (d_ite (PW.pt (d_wand (d_tv (d_var 7)) (d_wand1 (d_tnot (d_tv (d_var 6)))))) (d_tup (d_cons (d_str (by decide +kernel)) (d_cons (d_str (by decide +kernel)) (d_cons d_non d_nil)))) (d_tup (d_cons (d_str (by decide +kernel)) (d_cons (d_var 8) d_nil)))) d_nil))))) (d_scons (d_ret d_bl) d_snil) d_snil) (d_scons (d_set C 9 (d_bltT C (c_tup C) (d_lc C ht (d_ir C (d_op (p_add C) d_int (d_call C hp 47 (d_cons (d_var 1) (d_cons d_int d_nil))))) (fun s H D cl fp C => (d_gn C 16)) (fun s H D cl fp C ht hp => (d_tup (d_cons (d_tup (d_cons (d_var 16) (d_cons d_int d_nil))) (d_cons (d_tup (d_cons (d_op (p_mod C) (d_var 16) d_int) (d_cons d_int d_nil))) (d_cons (d_call C hp 48 (d_cons (d_var 1) (d_cons (d_lst (d_cons (d_tup (d_cons (d_str (by decide +kernel)) d_nil)) (d_cons (d_tup (d_cons (d_str (by decide +kernel)) d_nil)) (d_cons (d_tup (d_cons (d_str (by decide +kernel)) d_nil)) d_nil)))) d_nil))) d_nil))))) (own := [("k", 16)])))) (d_scons (d_set C 10 (d_bltT C (c_tup C) (d_lc C ht (d_ir C d_int) (fun s H D cl fp C => (d_gn C 16)) (fun s H D cl fp C ht hp => (d_tup (d_cons (d_tup (d_cons (d_op (p_mul C) d_int (d_var 16)) (d_cons d_int d_nil))) (d_cons (d_tup (d_cons (d_op (p_add C) (d_op (p_add C) (d_op (p_mul C) d_int (d_var 16)) (d_op (p_mul C) (d_var 16) (d_var 16))) (d_bltT C (c_int C) (d_cmp (p_gt C) (d_var 16) d_int))) (d_cons d_int d_nil))) d_nil)))) (own := [("k", 16)])))) (d_scons (d_set C 11 (d_tup (d_cons (d_bltT C (c_tup C) (d_lc C ht (d_it C (d_var 10)) (fun s H D cl fp C => (d_gt C (d_g1 (d_gn C 19) (d_g1 (d_gn C 20) d_g0)))) (fun s H D cl fp C ht hp => (d_tup (d_cons (d_var 19) (d_cons (d_call C hp 51 (d_cons (d_ix C (d_var 20) d_int) (d_cons (d_ix C (d_var 20) d_int) d_nil))) d_nil)))) (own := [("time", 19), ("shown", 20)]))) (d_cons (d_tup (d_cons d_int (d_cons d_int d_nil))) d_nil)))) (d_scons (d_set C 12 (d_tup (d_cons (d_tup (d_cons (d_str (by decide +kernel)) (d_cons d_non (d_cons (d_tup (d_cons (d_str (by decide +kernel)) d_nil)) (d_cons (d_call C hp 67 (d_cons (d_tup (d_cons d_int (d_cons d_int d_nil))) d_nil)) (d_cons (d_tup (d_cons (d_var 9) (d_cons (d_str (by decide +kernel)) d_nil))) (d_cons (d_call C hp 67 (d_cons (d_tup (d_cons d_int (d_cons d_int d_nil))) d_nil)) d_nil))))))) d_nil))) (d_scons (d_set C 13 (d_call C hp 73 (d_cons (d_tup (d_cons (d_var 9) (d_cons (d_str (by decide +kernel)) d_nil))) (d_cons (d_var 11) d_nil)))) (d_scons (d_set C 14 (d_heard ch (fun A outer s H E f c C hp => (d_call C hp 45 (d_cons (d_var 12) (d_cons (d_var 11) d_nil)))))) (d_scons (d_if (d_tnot (d_tv (d_callG (cg 49 _ (by decide)) (d_cons (d_var 14) (d_cons (d_ite (d_tc (p_le C) (d_bltB C (c_len C) (d_ix C (d_var 13) d_int)) d_int) (d_tup (d_cons (d_str (by decide +kernel)) (d_cons (d_tup (d_cons (d_op (p_add C) (d_sl C (d_ix C (d_var 12) d_int) d_on (d_os d_int)) (d_tup (d_cons (d_var 13) (d_cons (d_ix C (d_ix C (d_var 12) d_int) d_int) d_nil)))) d_nil)) d_nil))) (d_tup (d_cons (d_str (by decide +kernel)) (d_cons (d_str (by decide +kernel)) (d_cons (d_str (by decide +kernel)) d_nil))))) d_nil))))) (d_scons (d_ret d_bl) d_snil) d_snil) (d_scons (d_set C 15 (d_op (p_add C) (d_var 12) (d_tup (d_cons (d_tup (d_cons (d_str (by decide +kernel)) (d_cons d_non (d_cons (d_tup (d_cons (d_str (by decide +kernel)) d_nil)) (d_cons (d_tup (d_cons (d_sl C (d_var 9) d_on (d_os d_int)) (d_cons (d_str (by decide +kernel)) d_nil))) (d_cons (d_call C hp 67 (d_cons (d_tup (d_cons d_int (d_cons d_int d_nil))) d_nil)) (d_cons (d_call C hp 67 (d_cons (d_tup (d_cons d_int (d_cons d_int d_nil))) d_nil)) d_nil))))))) d_nil)))) (d_scons (d_if (d_tnot (d_tv (d_callG (cg 49 _ (by decide)) (d_cons (d_heard ch (fun A outer s H E f c C hp => (d_call C hp 45 (d_cons (d_var 15) (d_cons (d_var 11) d_nil))))) (d_cons (d_tup (d_cons (d_str (by decide +kernel)) (d_cons (d_str (by decide +kernel)) (d_cons d_non d_nil)))) d_nil))))) (d_scons (d_ret d_bl) d_snil) d_snil) d_snil)))))))))))))))))) (d_scons (d_ret d_bl) d_snil))
end G

/-! What cannot be told apart. -/
namespace G
open PySem PySem.Spec PyProof.Rows L2
mutual
/-- how long what is shown is, by its weight -/
theorem shown12 : ∀ d : PyData, d.canLay0 = true → d.shown.length ≤ 12 * d.weight + 10
  | .none, _ => by
    have e : (PyData.shown .none).length = 4 := rfl
    omega
  | .bool b, _ => by
    have e : (PyData.shown (.bool b)).length ≤ 5 := by cases b <;> decide
    omega
  | .int i, _ => by
    by_cases z : i = 0
    · subst z
      decide
    · have e := int_text_length_le (a := i) (k := i.natAbs.log2 + 1) (Nat.succ_pos _) (Nat.lt_succ_self _)
      have e2 : (PyData.shown (.int i)).length = (toString i).length := by
        show (Str.ofString (toString i)).length = _
        rw [PySem.ofString_length]
      have e3 : (PyData.int i).weight = i.natAbs.log2 + 1 := by
        show (if (i == 0) = true then 0 else i.natAbs.log2 + 1) = _
        rw [if_neg (by simpa using z)]
      omega
  | .str x, h => by
    have hx : ∀ c ∈ x.cps.toList, c < 16 ^ 8 := by
      have h1 := PyData.leavesShort_of_canLay0 13 (.str x) h rfl
      simpa only [PyData.leavesShort, List.all_eq_true, decide_eq_true_eq] using h1
    have e := PySem.StrLaws.reprText_len x hx
    have e2 : x.length = x.cps.size := rfl
    simp only [PyData.shown, PyData.weight]
    omega
  | .list xs, h => by
    have h1 := shown12All xs (by simpa only [PyData.canLay0] using h)
    have h2 := listText_len_le (PyData.shownAll xs)
    have h3 := PyData.shownAll_length xs
    simp only [PyData.shown, PyData.weight]
    omega
  | .tuple xs, h => by
    have h1 := shown12All xs (by simpa only [PyData.canLay0] using h)
    have h2 := tupleText_len_le (PyData.shownAll xs)
    have h3 := PyData.shownAll_length xs
    simp only [PyData.shown, PyData.weight]
    omega
  | .dict kvs, h => by cases h
theorem shown12All : ∀ xs : List PyData, PyData.canLayAll0 xs = true → ((PyData.shownAll xs).map (·.length)).sum + 2 * xs.length ≤ 12 * PyData.weightAll xs
  | [], _ => by simp only [PyData.shownAll, PyData.weightAll, List.map_nil, List.sum_nil, List.length_nil]; omega
  | x :: xs, h => by
    have h' : x.canLay0 = true ∧ PyData.canLayAll0 xs = true := by simpa only [PyData.canLayAll0, Bool.and_eq_true] using h
    have h1 := shown12 x h'.1
    have h2 := shown12All xs h'.2
    simp only [PyData.shownAll, PyData.weightAll, List.map_cons, List.sum_cons, List.length_cons]
    omega
end
theorem shown_ly {d : PyData} (hl : PyData.layable0 d = true) : d.shown.length ≤ 12582922 := by
  have hl' : (d.canLay0 && decide (d.depth ≤ 64) && decide (d.weight ≤ 2 ^ 20)) = true := hl
  simp only [Bool.and_eq_true, decide_eq_true_eq] at hl'
  have h := shown12 d hl'.1.1
  have e : (2 : Nat) ^ 20 = 1048576 := by decide
  omega
/-- repr(e), e a list -/
def rRepr (K : PySem.W.Frag) : List V → Hp → VK → Prop := fun xs H Q => ∃ (a : Addr) (d : PyData), xs = [.ref a] ∧ Dp K H (.ref a) d ∧ showOk d = true ∧ Q (.str d.shown) H
theorem showOk_parts {d : PyData} (h : showOk d = true) : shp d = true ∧ d.showable = true ∧ d.hasDict = false ∧ PyData.layable0 d = true := by
  unfold showOk at h
  simp only [Bool.and_eq_true, Bool.not_eq_true'] at h
  exact ⟨h.1, h.2.1, h.2.2.1, h.2.2.2⟩
theorem call_repr {X : Cx} (hg : X.A.guards = some []) (hu : X.A.units + 70 < cLine) : CallR X (.builtin "repr") (rRepr X.K) := by
  intro pins s σ H xs us Q I rx h
  obtain ⟨a, d, rfl, hd, ok, q⟩ := h
  obtain ⟨u, rfl, ru⟩ := rx.one
  cases ru
  obtain ⟨as, rd⟩ := Dp.reads I d _ _ hd rfl
  obtain ⟨h1, h2, h3, h4⟩ := showOk_parts ok
  have dd : d.depth ≤ 64 := SeqAt.depth_of_shaped (shp_of h1).2
  have sz := shown_ly h4
  refine repr_of_reads' rd h2 (fun z => by rw [h3] at z; cases z) hg (by omega) (fun _ _ e => e) (fun h' u tk hk => ⟨.str d.shown, H, I.kept (t' := tk) hk, ⟨u, rfl⟩, q⟩) (Nat.le_trans sz (by decide))
mutual
theorem sameD_eq : ∀ (a b : PD), sameD a b = true → a = b
  | .none, b, h => by cases b <;> first | rfl | cases h
  | .bool x, b, h => by
    cases b <;> try (cases h; done)
    rename_i y
    have q : (x == y) = true := h
    rw [beq_iff_eq.mp q]
  | .int x, b, h => by
    cases b <;> try (cases h; done)
    rename_i y
    have q : (x == y) = true := h
    rw [beq_iff_eq.mp q]
  | .str x, b, h => by
    cases b <;> try (cases h; done)
    rename_i y
    have q : (x == y) = true := h
    rw [beq_iff_eq.mp q]
  | .list x, b, h => by
    cases b <;> try (cases h; done)
    rename_i y
    rw [sameDs_eq x y h]
  | .tuple x, b, h => by
    cases b <;> try (cases h; done)
    rename_i y
    rw [sameDs_eq x y h]
  | .dict x, b, h => by cases b <;> cases h
theorem sameDs_eq : ∀ (a b : List PD), sameDs a b = true → a = b
  | [], [], _ => rfl
  | [], _ :: _, h => by cases h
  | _ :: _, [], h => by cases h
  | x :: xs, y :: ys, h => by
    have q : (sameD x y && sameDs xs ys) = true := h
    have q' := Bool.and_eq_true_iff.mp q
    rw [sameD_eq x y q'.1, sameDs_eq xs ys q'.2]
end
def tAlike (K : PySem.W.Frag) : TS := tRet (tAndV (tOp rEq (tCB (rRepr K) (tCons (tVar 0) tNil)) (tCB (rRepr K) (tCons (tVar 1) tNil))) (tOp (rEqD K) (tVar 0) (tVar 1)))
theorem eqv_self {d : PD} (h : shp d = true) : PyData.eqv d d = true := PySem.SeqAt.eqv_refl d (SeqAt.canLay_of_shaped (shp_of h).2)
section
variable {b : Bool} {P : Program} {w : World} {K : PySem.W.Frag} {mg : Str → Option Value} {base : Heap} {c : Cn}
theorem alike_der {X : Cx} (hN : X.N = ([("found" : Str), "due"] : List Str)) (hg : X.A.guards = some []) (hu : X.A.units + 70 < cLine) (hs : X.env.scope = defScope (topS 67)) (hm : X.mg "repr" = none) : PSs X (defBody (topS 67)) (tAlike X.K) := by
  have v0 : X.N[0]? = some ("found" : Str) := by rw [hN]; rfl
  have v1 : X.N[1]? = some ("due" : Str) := by rw [hN]; rfl
  have l0 : Vis X.env.scope "found" := by rw [hs]; exact .inl (by rfl)
  have l1 : Vis X.env.scope "due" := by rw [hs]; exact .inl (by rfl)
  have gr : Gl X "repr" := by
    show X.env.scope.names.lookup ("repr" : Str) = _
    rw [hs]
    rfl
  have cr := call_repr (X := X) hg hu
  exact pss_one (ps_ret (pe_and (pe_cmpR op_eq (pe_callB cr gr hm (by rfl) (pa_cons (pe_var v0 l0) pa_nil)) (pe_callB cr gr hm (by rfl) (pa_cons (pe_var v1 l1) pa_nil)) (nomark _)) (pe_one (pe_cmpR (op_eqD (by omega)) (pe_var v0 l0) (pe_var v1 l1) (nomark _)))))
theorem pure_alike {c : Cn} {vs : List V} {H : Hp} {Q : VK} {E : XK} (h : SpOf c 2 alikeF vs H Q E) : tAlike c.K { nx := fun _ H' => Q .non H', rt := Q } (L2.start ["found", "due"] vs) H := by
  obtain ⟨B, F, g, ds, sb, bg, ra, hl, hp⟩ := h
  cases ra with
  | nil => cases hl
  | cons r1 ra =>
    cases ra with
    | nil => cases hl
    | cons r2 ra =>
      cases ra with
      | cons _ _ => simp at hl
      | nil =>
        rename_i v1 d1 v2 d2
        have hp' : Post c B E F H ((if showOk d1 = true ∧ sameD d1 d2 = true ∧ (items d1).isSome = true then ret (.bool true) else stk : M PD) g) (fun d _ F' H' => ∀ v, Rv c B F' v d → Q v H') := hp
        by_cases l : showOk d1 = true ∧ sameD d1 d2 = true ∧ (items d1).isSome = true
        · rw [if_pos l] at hp'
          have e := sameD_eq d1 d2 l.2.1
          subst e
          have sh := (showOk_parts l.1).1
          have q : Q (.bl true) H := hp' F H (.refl sb) bg _ (.bl true)
          have dp1 := (shp_dp sb sh r1).1
          have dp2 := (shp_dp sb sh r2).1
          have sd := (shp_of sh).2
          have ref : ∀ {v : V}, Rv c B F v d1 → ∃ a, v = .ref a := fun {v} r => by
            obtain ⟨ds, hi⟩ := Option.isSome_iff_exists.mp l.2.2
            obtain ⟨p, _, e, _⟩ := sq_items hi r
            exact ⟨p, e⟩
          obtain ⟨a1, rfl⟩ := ref r1
          obtain ⟨a2, rfl⟩ := ref r2
          refine ⟨_, rfl, _, _, rfl, dp1, l.1, _, rfl, _, _, rfl, dp2, l.1, rfl, true, ?_, ?_⟩
          · exact congrArg V.bl (decide_eq_true rfl)
          · rw [if_pos rfl]
            refine ⟨_, rfl, _, rfl, _, _, dp1, dp2, sd, sd, ?_⟩
            rw [eqv_self sh]
            exact q
        · rw [if_neg l] at hp'
          exact False.elim hp'
/-- _law_alike at A -/
theorem alike_run {fA : Addr} {fd : FuncData} (F : Fun K "_law_alike" "_law_alike" (topS 67) fA fd) (hm : mg "repr" = none) {A : Around} {outer : List Env} {s : Shared} {H : Hp} {us : List Value} {vs : List V} {Q : VK} {E : XK} (hdp : A.depth < recursionLimit) (hu : A.units + 80 < cLine) (hg : A.guards = some [])
    (e0 : Env0 P w K mg base A outer s H) (r : Vals vs us) (ec : c.K = K) (h : SpOf c 2 alikeF vs H Q E) : codeAny (model P w) A (.call (.ref fA) ⟨us, []⟩) (CR (L2.CX P w) outer P w H s Q E) s := by
  have bd : Binds K fd ["found", "due"] [] := F.binds (ps := ["found", "due"]) fun _ _ _ _ _ _ us hl => match us, hl with | [_, _], _ => rfl
  have S : FnScope ["found", "due"] ["found", "due"] (defScope (topS 67)) := ⟨rfl, rfl, rfl, by decide +kernel, rfl, by decide +kernel, by decide +kernel⟩
  have hl : vs.length = 2 := by
    obtain ⟨_, _, _, ds, _, _, ra, hl, _⟩ := h
    rw [ra.length, hl]
  have bb := bd s us (e0.mod.kin.keeps fun b o e => (e0.bs b o e).1) (by rw [List.append_nil, ← r.length]; exact hl)
  rw [List.append_nil] at bb
  obtain ⟨oc, od, kV, doc, pm, an, cdv, ct, osl, rfl, lk, hcd⟩ := F.ex
  subst ec
  refine HX.run_B (b := false) lk hcd S (fun z => by cases z) hdp e0 bb hl r (alike_der (X := HX.cxB false (L2.CX P w) P w c.K mg base ["found", "due"] "_law_alike" (defScope (topS 67)) fA cdv A outer s H E) rfl ?_ ?_ rfl hm) (pure_alike h)
  · exact hg
  · show A.units + 3 + 70 < cLine
    omega
end
section
variable {X : Cx} {x : Str} {p pos : Pos} {e : Expr} {es : List Expr} {t : TA}
/-- a call of a def of which it is known what it does at this activation -/
theorem pe_callR {CX : CXT} {sp : Sp} {E : XK} {f : Addr}
    (R : ∀ (s : Shared) (H : Hp) (us : List Value) (vs : List V) (Q : VK), Env0 X.prog X.w X.K X.mg X.base X.A X.stack s H → Vals vs us → sp vs H Q E → codeAny (model X.prog X.w) X.A (.call (.ref f) ⟨us, []⟩) (CR CX X.stack X.prog X.w H s Q E) s)
    (hg : Gl X x) (hm : X.mg x = some (.ref f)) (hk : PySem.W.keepIn X.K (.ref f) = true) (hx : Passes CX X E) (ha : PA X (e :: es) t)
    (hdb : (x == ("__debug__" : Str)) = false := by decide) (he : starEach (e :: es) X.env = (false, eval e X.env) :: starEach es X.env := by rfl) (hpl : (backTo pos (starEach es X.env)).any (·.1) = false := by rfl) :
    PE X (.Call (.Name x p) (e :: es) [] pos) (tCall sp [] E t) := by
  refine ⟨fun pins s σ H Q I h => ?_⟩
  refine wpAny_Call_Name_kw (ld_glob I hg hm ?_ hdb)
  refine PySem.W.callWith_K (h₀ := X.base) I.ok.mod.kin hk (thn (ha.run pos pins s σ H _ I h) fun us s1 ⟨vs, H1, I1, r, q⟩ => ⟨I1.kIn, ?_⟩) he hpl
  refine wpAny_call (codeAny_mono (R s1 H1 us vs Q I1.env0 r (by have q' : sp (vs ++ []) H1 Q E := q; rw [List.append_nil] at q'; exact q')) fun r s' hq => ?_)
  cases r with
  | error e => exact hx pins σ H1 s1 e s' I1 hq
  | ok fl =>
    cases fl with
    | ret u => exact I1.after hq
    | cont => exact hq.elim
    | brk => exact hq.elim
    | next => exact hq.elim
end
end G

/-! TooLarge(line, column): super().__init__(line, column), two fields. -/
namespace BT
open PySem PySem.W PySem.Calls PyProof.Rows PySem.HandSPX
def topQ (i : Nat) : Stmt := PySem.Challenge.pw_alltimes_k24_keys_of_scenes_by_other_clo.main.body.getD i (.Pass ⟨0, 0, 0, 0⟩)
abbrev stI : Stmt := L2.inClass (topQ 3) 0
/-- what the written part says of TooLarge, at C, and of its __init__, at fI (its cell of __class__: cc; its code: cda) -/
structure BadTxt (P : Program) (K : Frag) (mg : Str → Option Value) (C fI cc cda : Addr) : Prop where
  gC : mg "TooLarge" = some (.ref C)
  gS : mg "super" = none
  cls : ∃ nm q N bs bm sn sub ab col dd k0 k1 k2 k3 k5, K.lookup C = some (excClassObj nm q C N bs bm true sn sub ab col dd k0 k1 k2 k3 k5 "ValueError.__new__") ∧ refsVE bm = true
  sa : findIn K (.ref C) "__setattr__" = some (some (.builtin "object.__setattr__"))
  ga : findIn K (.ref C) "__getattribute__" = some (some (.builtin "BaseException.__getattribute__"))
  gg : findIn K (.ref C) "__getattr__" = some none
  noL : findIn K (.ref C) "what" = some none
  noC : findIn K (.ref C) "limit" = some none
  iC : findIn K (.ref C) "__init__" = some (some (.ref fI))
  tC : typeIn K (.ref fI) = some (.type "function")
  kC : keepIn K (.ref C) = true
  exC : subIn K (.ref C) (.type "BaseException") = some true
  tyC : typeIn K (.ref C) = some (.type "type")
  hdC : hasDictIn K C = true
  te : exmOne K (.ref C) (.ref C) = some true
  fn : ∃ (oc : Value) (od : Option Addr) (kV doc pm : Value) (an : Option Addr) (ct : Value) (osl : Array (Option Value)),
    K.lookup fI = some ⟨oc, od, .func (ksFn "__init__" "TooLarge.__init__" (L2.defArgs stI) (L2.defBody stI) (L2.defScope stI) .none kV doc pm an (.ref cda) ct cc), osl⟩ ∧ codeIn K (.ref cda) "TooLarge.__init__" = true
  code : ∃ (ccl : Value) (cdd : Option Addr) (vs : Array Value) (ccs : Array (Option Value)) (file : Str) (tf : Tok), K.lookup cda = some ⟨ccl, cdd, .fields vs, ccs⟩ ∧ vs[2]? = some (.str file tf) ∧ ((P.main.file : Str) == file) = true
  cell : ∃ (cl : Value) (cld : Option Addr) (csl : Array (Option Value)), K.lookup cc = some ⟨cl, cld, .cell (some (.ref C)), csl⟩
  top : (P.main.scope.names.lookup ("super" : Str)).isSome = false
  mro : mroIn K C (.ref C) = some true
  opq : nsIn K cStatics "thirdparty.any" = some none
  sup : ks_superIn K C C "__init__" = some (some (.builtin "ValueError.__init__"))
  sub : subIn K (.ref C) (.type "ValueError") = some true
section
variable {prog : Program} {w : World} {A : Around} {E : Value → Shared → Prop} {h : Heap} {g : Array GenState} {d : Drawn} {t : Nat} {os : OsState}
variable {nm q : Str} {C N : Addr} {bs bm : List Value} {sn : List Str} {sub : List Value} {ab : Bool} {col : Option Bool} {dd : Option Addr} {k0 k1 k2 k3 k5 : Option Value}
/-- the bound __init__ of ValueError is called -/
theorem call_mw {u e t0 : Addr} {rest : List Value} {Q : Value → Shared → Prop} (hC : h.get? C = some (excClassObj nm q C N bs bm true sn sub ab col dd k0 k1 k2 k3 k5 "ValueError.__new__")) (he : h.get? e = some (excO C t0))
    (hu : h.get? u = some (kxs_mw "ValueError.__init__" e)) (hr : rest.length ≤ sizeLine)
    (hq : ∀ h' t1, (∀ b o, b ≠ e → h.get? b = some o → h'.get? b = some o) → h'.get? e = some (excO C t1) → Q .none ⟨h', g, d, t, os⟩) : wpAny (model prog w) A (call (.ref u) rest) Q E ⟨h, g, d, t, os⟩ := by
  refine wpAny_call (codeAny_of_tree ?_)
  show wpAny _ _ (callAny (.ref u) ⟨rest, []⟩) _ _ _
  unfold callAny
  refine wpAny_bind (wpAny_load hu ?_)
  simp only [kxs_mw, show (Value.type "method-wrapper" == Value.type "method" || Value.type "method-wrapper" == Value.type "builtin_function_or_method" || Value.type "method-wrapper" == Value.type "method-wrapper") = true by decide, if_true]
  refine KFB.if_so (by decide) (wpAny_bind (check_bound_init PySem.F.excBase_ValueError.toExcCallFacts hC he rfl (wpAny_bind (wpAny_pure (wpAny_pure ?_)))))
  refine ⟨plainId_quiet PySem.F.excBase_ValueError.init.plain _, codeAny_builtin PySem.F.excBase_ValueError.initEntry ?_⟩
  exact exc_init_tree (cls := .ref C) (t0 := t0) (dv := none) (c2 := .none) (c3 := .none) (b4 := .bool false) he hr fun h' k e' _ => hq h' _ k e'
end
/-- what __init__ leaves of a fresh exception at x -/
structure InitEnd (h h' : Heap) (x C dx t1 : Addr) (l c : Value) : Prop where
  keep : ∀ b o, b ≠ x → h.get? b = some o → h'.get? b = some o
  obj : h'.get? x = some { cls := .ref C, dict := some dx, data := .fields #[.ref t1, .none, .none, .none, .bool false, .none] }
  dbig : h.objs.size ≤ dx
  dne : dx ≠ x
  ns : h'.Ns1 dx (fun y => if y = "limit" then some c else if y = "what" then some l else none)
section
variable {P : Program} {w : World} {A : Around} {R : Result → Shared → Prop} {s : Shared} {K : Frag} {mg mb : Str → Option Value} {C fI cc cda : Addr}
theorem loc {M : Model} {E : Value → Shared → Prop} {s : Shared} {env : Env} {m : Str → Option Value} {x : Str} {pos : Pos} {v : Value} {Q : Value → Shared → Prop} (hn : s.heap.Ns env.locals m) (hv : m x = some v) (h : Q v s)
    (hk : env.scope.kind = .function := by rfl) (hl : env.kindOf x = some .local := by rfl) (hd : (x == ("__debug__" : Str)) = false := by decide) : wpAny M A (eval (.Name x pos) env) Q E s := wpAny_Name (wpAny_loadName_local hk hl hn hv h) hd
theorem bad_init (T : BadTxt P K mg C fI cc cda) {x t0 : Addr} {l c : Value} (X : K.In s.heap) (hG : s.heap.Ns mainGlobals mg) (hB : s.heap.Ns builtinsNs mb) (hb : mb "super" = bootBuiltins "super") (hlim : s.heap.NoLimit) (hx : s.heap.get? x = some (excO C t0)) (hkx : K.lookup x = none) (hroom : A.depth < recursionLimit)
    (hq : ∀ h' tk dx t1, InitEnd s.heap h' x C dx t1 l c → R (.ok (.ret .none)) { s with heap := h', toks := tk }) :
    codeAny (model P w) A (.call (.ref fI) ⟨[.ref x, l, c], []⟩) R s := by
  obtain ⟨oc, od, kV, doc, pm, an, ct, osl, ho, hcd⟩ := T.fn
  obtain ⟨nm, q, N, bs, bm, sn, sub, ab, col, dd, k0, k1, k2, k3, k5, hC, hbm⟩ := T.cls
  obtain ⟨ccl, cdd, vs, ccs, file, tf, hcode, hvs, hfile⟩ := T.code
  obtain ⟨cl, cld, csl, hcell⟩ := T.cell
  have hcl : clsIn K C = some { name := nm, bases := bs, mro := .ref C :: bm, ns := N, qualname := q, hasDict := true, slotNames := sn, subclasses := sub, abstract := ab, collection := col, hasDel := false } := by unfold clsIn; rw [hC] <;> rfl
  refine ks_codeAny_call_defAt (fd := ksFn "__init__" "TooLarge.__init__" (L2.defArgs stI) (L2.defBody stI) (L2.defScope stI) .none kV doc pm an (.ref cda) ct cc) (body := L2.defBody stI) (binds := [("self", .ref x), ("what", l), ("limit", c)]) hroom (X _ _ ho) rfl hlim (codeRec_of X hcd) rfl
    (BindsTo.of_eq (by first | rfl | with_unfolding_all rfl)) (show ∀ x ∈ (L2.defScope stI).names, x.2 ≠ .cell by decide +kernel) (fun y hy => ?hl) (fun h₁ hn k₁ => ?_) rfl rfl rfl
  case hl =>
    have key : ∀ z ∈ [("self" : Str), "what", "limit"], (L2.defScope stI).names.lookup z = some .local := by decide +kernel
    rcases List.mem_cons.mp hy with rfl | hy
    · exact key "self" (by decide)
    rcases List.mem_cons.mp hy with rfl | hy
    · exact key "what" (by decide)
    rcases List.mem_cons.mp hy with rfl | hy
    · exact key "limit" (by decide)
    cases hy
  have hx₁ := k₁ _ _ hx
  have hxL : s.heap.objs.size ≠ x := Nat.ne_of_gt (Heap.lt_size hx)
  have X₁ : K.In h₁ := X.keeps k₁
  have vx : (List.reverse [(("self" : Str), Value.ref x), ("what", l), ("limit", c)]).lookup ("self" : Str) = some (.ref x) := by first | rfl | with_unfolding_all rfl | kernel_rfl
  have vl : (List.reverse [(("self" : Str), Value.ref x), ("what", l), ("limit", c)]).lookup ("what" : Str) = some l := by first | rfl | with_unfolding_all rfl | kernel_rfl
  have vc : (List.reverse [(("self" : Str), Value.ref x), ("what", l), ("limit", c)]).lookup ("limit" : Str) = some c := by first | rfl | with_unfolding_all rfl | kernel_rfl
  refine ks_wpAt_execs_cons (ks_wpAt_Expr_any (ks_wpAt_MethodCall (ks_wpAt_super_base (by rfl) (by rfl) (by decide) rfl (k₁ _ _ (X _ _ ho)) rfl rfl rfl (k₁ _ _ (X _ _ hcode)) rfl hvs hfile T.top ?_)))
  have kNs : ∀ {b : Addr} {m : Str → Option Value}, s.heap.Ns b m → h₁.Ns b m := fun ⟨o, es, ep, e, r⟩ => ⟨o, es, ep, k₁ _ _ e, r⟩
  refine ks_loadName_global (by rfl) (by rfl) (loadGlobal_builtin (kNs hG) T.gS (kNs hB) (hb.trans (by first | boot_by_name | rfl)) ⟨rfl, ?_⟩)
  refine wpAny_loadName_free (by rfl) (by rfl) (by first | rfl | with_unfolding_all rfl) ⟨_, X₁ _ _ hcell, rfl⟩ ?_
  refine wpAny_loadName_local (by rfl) (by rfl) hn vx ?_
  refine ks_wpAny_isType_cls (X₁ _ _ hC) rfl ⟨rfl, ?_⟩
  refine ks_wpAny_call_super (X₁ _ _ hC) rfl hx₁ rfl (fun _ z => by cases z) (looks_mroIn X₁ T.mro) (fun h₂ hso k₂ => ?_)
  have X₂ : K.In h₂ := X₁.keeps k₂
  have hx₂ := k₂ _ _ hx₁
  have I₂ : InstAt h₂ x (excO C t0) C none := ⟨hx₂, rfl, rfl, trivial⟩
  have sup : alongIn K "__init__" (((Value.ref C :: bm).dropWhile (· != .ref C)).drop 1) = some (some (.builtin "ValueError.__init__")) := by
    have z := T.sup
    unfold ks_superIn at z
    rw [hcl] at z
    exact z
  have hxC : x ≠ C := fun z => by
    rw [z, X₂ _ _ hC] at hx₂
    cases hx₂
  refine kxs_getMethod kxs_ValueError hso (looks_opaque X₂ T.opq) (l₀ := .ref C :: bm) (fun A Q E s k q => wpAny_bind ((looks_clsIn X₂ hcl) A _ E s k (wpAny_pure q))) rfl X₂ sup (I₂.type.andThen (looks_subIn X₂ T.sub)) hxC (by decide) ?_
  have k₃ : ∀ b o, h₂.get? b = some o → (h₂.push (kxs_mw "ValueError.__init__" x)).get? b = some o := fun b o e => Heap.get?_push_of_some _ e
  have hmw : (h₂.push (kxs_mw "ValueError.__init__" x)).get? h₂.objs.size = some (kxs_mw "ValueError.__init__" x) := Heap.get?_push_size _ rfl
  generalize h₂.push (kxs_mw "ValueError.__init__" x) = h₃ at k₃ hmw ⊢
  have n₃ : h₃.Ns s.heap.objs.size (fun y => (List.reverse [(("self" : Str), Value.ref x), ("what", l), ("limit", c)]).lookup y) := by
    obtain ⟨o, es, ep, e, r⟩ := hn
    exact ⟨o, es, ep, k₃ _ _ (k₂ _ _ e), r⟩
  have kk : ∀ b o, s.heap.get? b = some o → h₃.get? b = some o := fun b o e => k₃ _ _ (k₂ _ _ (k₁ _ _ e))
  refine kxs_callWith (i := "ValueError.__init__") (x := x) (by rfl) (evalArgs_plain ?_)
  refine Calls.spliced_cons (loc n₃ vl (Calls.spliced_cons (loc n₃ vc (Calls.spliced_nil ?_))))
  refine ⟨hmw, call_mw (X.keeps kk _ _ hC) (kk _ _ hx) hmw (by show 2 ≤ sizeLine; decide) fun h₄ t1 k₄ e₄ => ?_⟩
  have k4 : ∀ b o, b ≠ x → s.heap.get? b = some o → h₄.get? b = some o := fun b o hb e => k₄ b o hb (kk b o e)
  have n₄ : h₄.Ns s.heap.objs.size (fun y => (List.reverse [(("self" : Str), Value.ref x), ("what", l), ("limit", c)]).lookup y) := by
    obtain ⟨o, es, ep, e, r⟩ := n₃
    exact ⟨o, es, ep, k₄ _ _ hxL e, r⟩
  have hnx : ∀ o, K.lookup x ≠ some o := fun o e => by rw [hkx] at e; cases e
  have X₄ : K.In h₄ := fun a o e => k4 a o (fun z => hnx o (z ▸ e)) (X a o e)
  refine wpAt_of_wpAny ?_
  refine wpAny_execs_cons (plainObj_wpAny_Assign_Attribute (loc n₄ vl (loc n₄ vx ?_)))
  refine set_plain X₄ (ox := excO C t1) (od := none) ⟨e₄, rfl, rfl, trivial⟩ T.sa ?_
  refine exc_osa X₄ e₄ hcl (show refsVE (.ref C :: bm) = true from hbm) rfl T.noL (fun h₅ tk₅ dx k₅ dn dne e₅ m₅ => ?_)
  have k5 : ∀ b o, b ≠ x → s.heap.get? b = some o → h₅.get? b = some o := fun b o hb e => k₅ b o hb (k4 b o hb e)
  have n₅ : h₅.Ns s.heap.objs.size (fun y => (List.reverse [(("self" : Str), Value.ref x), ("what", l), ("limit", c)]).lookup y) := by
    obtain ⟨o, es, ep, e, r⟩ := n₄
    exact ⟨o, es, ep, k₅ _ _ hxL e, r⟩
  have X₅ : K.In h₅ := fun a o e => k5 a o (fun z => hnx o (z ▸ e)) (X a o e)
  have lt4 : s.heap.objs.size < h₄.objs.size := n₄.lt
  refine wpAny_execs_cons (plainObj_wpAny_Assign_Attribute (loc n₅ vc (loc n₅ vx ?_)))
  obtain ⟨oD, esD, epD, hD1, hD2⟩ := id m₅
  refine set_plain X₅ (ox := { cls := .ref C, dict := some dx, data := .fields #[.ref t1, .none, .none, .none, .bool false, .none] }) (od := some oD) ⟨e₅, rfl, rfl, hD1⟩ T.sa ?_
  refine PySem.OEX.osa_old X₅ e₅ m₅ (nl := ["what"]) (fun y hy => ?_) (by decide) hcl (show refsVE (.ref C :: bm) = true from hbm) rfl T.noC (fun h₆ tk₆ k₆ m₆ => ?_)
  · by_cases z : y = "what"
    · rw [z]; exact List.mem_singleton.mpr rfl
    · exact absurd (if_neg z) hy
  refine wpAny_execs_nil (hq h₆ tk₆ dx t1 ⟨fun b o hb e => k₆ b o (fun z => ?_) (k5 b o hb e), k₆ _ _ dne.symm e₅, Nat.le_of_lt (Nat.lt_of_lt_of_le lt4 dn), dne, m₆⟩)
  have y := Heap.lt_size e
  rw [z] at y
  exact absurd (Nat.lt_of_lt_of_le (Nat.lt_trans y lt4) dn) (Nat.lt_irrefl _)
/-- a made TooLarge -/
structure OwnMade (h h' : Heap) (e C d : Addr) (l c : Value) : Prop where
  keep : ∀ b o, h.get? b = some o → h'.get? b = some o
  new : h.objs.size ≤ e
  obj : ∃ oe vs, h'.get? e = some oe ∧ oe.cls = .ref C ∧ oe.dict = some d ∧ oe.data = .fields vs ∧ vs[1]? = some .none
  dbig : h.objs.size ≤ d
  dne : d ≠ e
  ns : h'.Ns1 d (fun y => if y = "limit" then some c else if y = "what" then some l else none)
theorem bad_made (T : BadTxt P K mg C fI cc cda) {l c : Value} (X : K.In s.heap) (hG : s.heap.Ns mainGlobals mg) (hB : s.heap.Ns builtinsNs mb) (hb : mb "super" = bootBuiltins "super") (hlim : s.heap.NoLimit) (hroom : A.depth + 1 < recursionLimit)
    (hq : ∀ h' tk e d, OwnMade s.heap h' e C d l c → R (.ok (.ret (.ref e))) { s with heap := h', toks := tk }) :
    codeAny (model P w) A (.call (.ref C) ⟨[l, c], []⟩) R s := by
  obtain ⟨nm, q, N, bs, bm, sn, sub, ab, col, dd, k0, k1, k2, k3, k5, hC, hbm⟩ := T.cls
  obtain ⟨hp, g, dr, tk, os⟩ := s
  have k : ∀ b o, hp.get? b = some o → ((hp.push (kdv_tup [l, c])).push (excO C hp.objs.size)).get? b = some o := fun b o e => Heap.get?_push_of_some _ (Heap.get?_push_of_some _ e)
  have hget : ((hp.push (kdv_tup [l, c])).push (excO C hp.objs.size)).get? (hp.objs.size + 1) = some (excO C hp.objs.size) := by heap_get
  have hkx : K.lookup (hp.objs.size + 1) = none := by
    cases e : K.lookup (hp.objs.size + 1) with
    | none => rfl
    | some o => exact absurd (Nat.lt_of_succ_lt (Heap.lt_size (show hp.get? (hp.objs.size + 1) = some o from X _ _ e))) (Nat.lt_irrefl _)
  have kNs : ∀ {b : Addr} {m : Str → Option Value}, hp.Ns b m → ((hp.push (kdv_tup [l, c])).push (excO C hp.objs.size)).Ns b m := fun ⟨o, es, ep, e, r⟩ => ⟨o, es, ep, k _ _ e, r⟩
  refine call_own F.excBase_ValueError (fun X => refsVE_contains X bm hbm) (X _ _ hC) (looks_findIn X T.iC) (fun self => bind_fn X self T.tC) (by show 2 ≤ sizeLine; decide) ?_
  refine bad_init (s := ⟨(hp.push (kdv_tup [l, c])).push (excO C hp.objs.size), g, dr, tk, os⟩) T (X.keeps k) (kNs hG) (kNs hB) hb (hlim.keeps k) hget hkx ?_ fun h' tk' dx t1 ⟨k', hx, dn, dne, hns⟩ => ?_
  · show A.depth + 1 < recursionLimit
    exact hroom
  · have z : hp.objs.size + 1 + 1 ≤ dx := by
      have e := dn
      simp only [Heap.size_push] at e
      exact e
    exact ⟨rfl, hq h' tk' (hp.objs.size + 1) dx ⟨fun b o e => k' b o (Nat.ne_of_lt (Nat.lt_succ_of_lt (Heap.lt_size e))) (k b o e), Nat.le_succ _, ⟨_, _, hx, rfl, rfl, rfl, rfl⟩, Nat.le_trans (Nat.le_trans (Nat.le_succ _) (Nat.le_succ _)) z, dne, hns⟩⟩
end
end BT
namespace G
open PySem PySem.Spec PyProof.Rows L2
theorem relO_two {v w : V} {v' w' : Value} (rv : RelV v v') (rw' : RelV w w') (f : Str) : RelO (List.lookup f [(("what" : Str), v), (("limit" : Str), w)]) (if f = "limit" then some w' else if f = "what" then some v' else none) := by
  by_cases hc : f = "limit"
  · subst hc
    rw [if_pos rfl]
    exact rw'
  · rw [if_neg hc]
    by_cases hl : f = "what"
    · subst hl
      rw [if_pos rfl]
      exact rv
    · rw [if_neg hl]
      have q1 : (f == ("what" : Str)) = false := by simpa using hl
      have q2 : (f == ("limit" : Str)) = false := by simpa using hc
      have q : List.lookup f [(("what" : Str), v), (("limit" : Str), w)] = none := by simp [List.lookup, q1, q2]
      rw [q]
      trivial
section
variable {X : Cx} {C fI cc cda : Addr}
/-- TooLarge(a, b) is made -/
def tMkB (C : Addr) (ta : TA) : L2.St → Hp → XK → Prop := fun σ H Q => ta σ H fun vs H1 => ∃ v w, vs = [v, w] ∧ ∀ d, H1 d = none → Q (.ref C) (some d) (upd H1 d (.xd [(("what" : Str), v), (("limit" : Str), w)]))
theorem pmk_bad {a b : Expr} {ta : TA} {p pos : Pos} {k : Nat} (T : BT.BadTxt X.prog X.K X.mg C fI cc cda) (hr : Room k X.A) (ha : PA X [a, b] ta) (hg : Gl X "TooLarge")
    (he : starEach [a, b] X.env = (false, eval a X.env) :: starEach [b] X.env) (hpl : (backTo pos (starEach [b] X.env)).any (·.1) = false) :
    PMk X (.Call (.Name "TooLarge" p) [a, b] [] pos) (tMkB C ta) := by
  intro pins s σ H Q I h
  refine wpAny_Call_Name_kw (ld_glob I hg T.gC ?_)
  refine PySem.W.callWith_K (h₀ := X.base) I.ok.mod.kin T.kC (thn (ha.run pos pins s σ H _ I h) fun us s1 hh => ?_) he hpl
  obtain ⟨vs, H1, I1, r1, v, w, ev, q1⟩ := hh
  subst ev
  refine ⟨I1.kIn, ?_⟩
  obtain ⟨v', w', rfl, rv, rw'⟩ : ∃ v' w', us = [v', w'] ∧ RelV v v' ∧ RelV w w' := by
    cases r1 with
    | cons p q =>
      cases q with
      | cons p' q' =>
        cases q'
        exact ⟨_, _, rfl, p, p'⟩
  have hlim := I1.nolimit
  have hG : s1.heap.Ns mainGlobals X.mg := I1.ok.mod.glob.keeps I1.bk
  obtain ⟨mb, hB0, hb⟩ := I1.ok.mod.blt
  have hB : s1.heap.Ns builtinsNs mb := hB0.keeps I1.bk
  obtain ⟨hp, g, dr, tk, os⟩ := s1
  refine wpAny_call (BT.bad_made T I1.kIn hG hB (hb _ (by decide)) hlim (by have := hr.dp; omega) fun h' tk' e d M => ?_)
  show MkP X pins σ Q (.ref e) ⟨h', g, dr, tk', os⟩
  obtain ⟨oe, fv, hoe, hc, hd, hdat, h1⟩ := M.obj
  have hns := M.ns
  obtain ⟨G', g1, g2⟩ := restrict h' fun b => decide (b ≠ e)
  have gk : ∀ b, b ≠ e → G'.get? b = h'.get? b := fun b hb => g1 b (decide_eq_true hb)
  have ge : G'.get? e = none := g2 e (by simp)
  have old : ∀ b o, hp.get? b = some o → G'.get? b = some o := fun b o q => (gk b (Nat.ne_of_lt (Nat.lt_of_lt_of_le (Heap.lt_size q) M.new))).trans (M.keep b o q)
  have ob : ObjOk X.prog X.w (upd H1 d (.xd [(("what" : Str), v), (("limit" : Str), w)])) G' d (.xd [(("what" : Str), v), (("limit" : Str), w)]) :=
    ⟨_, hns.at (fun o q => (gk d M.dne).trans q), fun f => relO_two rv rw' f⟩
  have J : Inv X pins σ (upd H1 d (.xd [(("what" : Str), v), (("limit" : Str), w)])) ⟨G', g, dr, tk', os⟩ := I1.laid (t' := tk') old M.dbig ob
  refine ⟨e, oe, fv, ⟨G', g, dr, tk', os⟩, _, .ref C, some d, rfl, J, fun b o q => ?_, ge, hoe, ⟨hc, hd⟩, hdat, h1, ?_, rfl, I1.bare, raises_own T.exC T.tyC, q1 d (I1.hok.fresh M.dbig)⟩
  · by_cases hb : b = e
    · have q' : G'.get? b = some o := q
      rw [hb, ge] at q'; cases q'
    · exact (gk b hb).symm.trans q
  · rw [upd_ne (Ne.symm M.dne)]
    exact I1.hok.fresh M.new
end
/-- Nothing, at C -/
structure NoT (K : PySem.W.Frag) (mg : Str → Option Value) (C : Addr) : Prop where
  gC : mg "Nothing" = some (.ref C)
  q : ∃ newId initId bm, ExcBaseFacts "ValueError" newId initId bm ∧ PySem.W.excIn K C bm newId = true
  kC : PySem.W.keepIn K (.ref C) = true
  exC : PySem.W.subIn K (.ref C) (.type "BaseException") = some true
  tyC : PySem.W.typeIn K (.ref C) = some (.type "type")
/-- the raises as statements of a def -/
theorem bt_ok {P : Program} {w : World} {K : PySem.W.Frag} {mg : Str → Option Value} {base : Heap} {N : List Str} {name : Str} {sc : Scope} {f : Addr} {cdv : Value} {A : Around} {outer : List Env} {s : Shared} {H : Hp} {E : XK} {fI cc cda : Addr} {Θ : Th} {k : Nat}
    (T : BT.BadTxt P K mg (Θ.c.cx 1) fI cc cda) (T0 : NoT K mg (Θ.c.cx 0)) (hr : Room k (A.deeper (envOfC name sc s.heap.objs.size f cdv))) : BtT (cxOf (L2.CX P w) P w K mg base N name sc f cdv A outer s H E) Θ E := by
  refine ⟨fun c x h => ?_, fun c x n1 n2 h => ?_⟩
  · rcases List.mem_cons.mp h with q | h
    · cases q
      intro p pos pos2 hg
      obtain ⟨ni, ii, bm, F, q⟩ := T0.q
      exact ps_raise (W := fun cls d _ H => E cls d H) rfl (takes_of rfl rfl rfl rfl) (HX.pmk_own0 (X := cxOf (L2.CX P w) P w K mg base N name sc f cdv A outer s H E) F q T0.gC T0.kC (raises_own T0.exC T0.tyC) hg)
    · cases h
  · rcases List.mem_cons.mp h with q | h
    · cases q
      intro a b ia ib p pos pos2 ha hb h1 h2 hpl hg
      exact ps_raise (W := fun cls d _ H => E cls d H) rfl (takes_of rfl rfl rfl rfl) (pmk_bad (X := cxOf (L2.CX P w) P w K mg base N name sc f cdv A outer s H E) T hr (pa_cons ha (pa_cons hb pa_nil h2) h1) hg h1 hpl)
    · cases h
end G

/-! What is heard of a lambda. -/
namespace G
open PySem PySem.Spec PyProof.Rows L2
/-- the exception classes and their names -/
def SX (c : Cn) (C : Addr) (nm : Str) : Prop := (C = c.cx 0 ∧ nm = "Nothing") ∨ (C = c.cx 1 ∧ nm = "TooLarge")
section
variable {c : Cn} {CT : Addr}
/-- what is made of a lambda's reading -/
theorem heard_ok (x0 : PySem.W.exmOne c.K (.ref (c.cx 0)) (.ref CT) = some true) (x1 : PySem.W.exmOne c.K (.ref (c.cx 1)) (.ref CT) = some true) (tl : XK → Hp → VK → Prop) (B : Option Addr) (F H : Hp) (g : List PD) (o : Out PD) (Q : VK) (s : Sub F H) (bg : BagR c B F H g)
    (h : ∀ (E : XK) (Q' : VK), Post c B E F H o (fun d _ F' H' => ∀ v, Rv c B F' v d → Q' v H') → tl E H Q') (hp : Post c B E00 F H (hearO hearF o) (fun d _ F' H' => ∀ v, Rv c B F' v d → Q v H')) : HX.THeard c.K CT (SX c) tl H Q := by
  refine h _ _ ?_
  cases o with
  | stuck => exact hp
  | ok d g' =>
    intro F' H' gr bg' v rv
    refine ⟨by show 2 ≤ sizeLine; decide, fun p hn => ?_⟩
    have hp' : Post c B E00 F H (.ok (.tuple [.str "told", d]) g') (fun d _ F' H' => ∀ v, Rv c B F' v d → Q v H') := hp
    exact hp' _ _ (gr.trans (.fresh gr.inn hn)) (bg'.fresh gr.inn hn NT.tup) _ (.tup (.inl (.inl upd_same)) (.cons (.str _) (.cons (Rv.mono (Gr.fresh (B := B) gr.inn hn).sub _ _ rv) .nil)))
  | exn x g' =>
    have hp' : Post c B E00 F H (match hearF x with | some d => .ok d g' | none => .stuck) (fun d _ F' H' => ∀ v, Rv c B F' v d → Q v H') := hp
    cases e : hearF x with
    | none => rw [e] at hp'; exact False.elim hp'
    | some d =>
      rw [e] at hp'
      intro F' H' gr bg'
      unfold hearF at e
      split at e
      · cases e
        refine ⟨fun _ => ⟨_, "Nothing", rfl, .inl ⟨rfl, rfl⟩, by decide, x0, .inl rfl, fun _ p hn => ?_, fun z => ?_⟩, fun z => absurd rfl z⟩
        · exact hp' _ _ (gr.trans (.fresh gr.inn hn)) (bg'.fresh gr.inn hn NT.tup) _ (.tup (.inl (.inl upd_same)) (.cons (.str _) (.cons (.str _) (.cons .non .nil))))
        · exact absurd z (by decide +kernel)
      · rename_i a d' b e'
        by_cases l : a = "what" ∧ b = "limit" ∧ isFl d' = true
        · rw [if_pos l] at e
          obtain ⟨rfl, rfl, fd⟩ := l
          have e2 := Option.some.inj e
          subst e2
          refine ⟨(fun z => by cases z), fun _ dd hd => ⟨_, "TooLarge", rfl, .inr ⟨rfl, rfl⟩, by decide, x1, .inr ⟨dd, _, rfl, hd, ?_⟩, fun z => absurd rfl z, fun _ => ⟨dd, _, toV d', rfl, hd, ?_, fun p hn => ?_⟩⟩⟩
          · have h1 : (("class_name" : Str) == ("what" : Str)) = false := by decide +kernel
            have h2 : (("class_name" : Str) == ("limit" : Str)) = false := by decide +kernel
            simp [List.lookup, h1, h2]
          · have h1 : (("what" : Str) == ("what" : Str)) = true := by decide +kernel
            simp [List.lookup, h1]
          · exact hp' _ _ (gr.trans (.fresh gr.inn hn)) (bg'.fresh gr.inn hn NT.tup) _ (.tup (.inl (.inl upd_same)) (.cons (.str _) (.cons (.str _) (.cons (lit_rv fd) .nil))))
        · rw [if_neg l] at e; cases e
      · cases e
end
/-- what the top has written of the exceptions -/
structure Exn (K : PySem.W.Frag) (mg : Str → Option Value) (c : Cn) (CT fN : Addr) : Prop where
  gT : mg "TimeError" = some (.ref CT)
  x0 : PySem.W.exmOne K (.ref (c.cx 0)) (.ref CT) = some true
  x1 : PySem.W.exmOne K (.ref (c.cx 1)) (.ref CT) = some true
  n0 : HX.ExN K (c.cx 0) fN "Nothing"
  n1 : HX.ExN K (c.cx 1) fN "TooLarge"
  f1 : HX.FdN K (c.cx 1) "what"
  cn : HX.CnDef K (L2.inClass (topS 1) 0) fN
theorem Exn.N {K : PySem.W.Frag} {mg : Str → Option Value} {c : Cn} {CT fN : Addr} (D : Exn K mg c CT fN) : ∀ C nm, SX c C nm → HX.ExN K C fN nm := by
  intro C nm h
  rcases h with ⟨rfl, rfl⟩ | ⟨rfl, rfl⟩
  · exact D.n0
  · exact D.n1
theorem Exn.NF {K : PySem.W.Frag} {mg : Str → Option Value} {c : Cn} {CT fN : Addr} (D : Exn K mg c CT fN) : ∀ C, SX c C "TooLarge" → HX.FdN K C "what" := by
  intro C h
  rcases h with ⟨_, h⟩ | ⟨rfl, _⟩
  · exact absurd h (by decide +kernel)
  · exact D.f1
def topHd : Stmt := topS 90
def plHd (p : Pos) : Env → Sem Bool := fun env => do return (← importBound (.Name "error" p) env).getD true
theorem hd_body : ∃ (j1 j2 j3 j4 j5 j6 : Nat) (p1 p2 p3 p4 p5 p6 p7 p8 p9 p10 p11 p12 p13 p14 p15 p16 p17 p18 p19 p20 p21 p22 p23 : Pos), HX.MCall (.Name "error" p8) "class_name" p9 p10 (plHd p8) ∧ HX.MCall (.Name "error" p11) "class_name" p12 p13 (plHd p11) ∧
    defBody topHd = [.Try [.Return (some (.Tuple [.Constant (.str "told") j1 p1, .Call (.Name "act" p2) [] [] p3] j2 p4)) p5] [.ExceptHandler (some (.Name "TimeError" p6)) (some "error")
      [.Return (some (.Tuple [.Constant (.str "refused") j3 p7, .Call (.Attribute (.Name "error" p8) "class_name" p9) [] [] p10,
        .IfExp (.Compare (.Call (.Attribute (.Name "error" p11) "class_name" p12) [] [] p13) [.Eq] [.Constant (.str "TooLarge") j4 p14] p15) (.Attribute (.Name "error" p16) "what" p17) (.Constant .none j5 p18) p19] j6 p20)) p21] p22] [] [] p23] := by
  refine ⟨_, _, _, _, _, _, _, _, _, _, _, _, _, _, _, _, _, _, _, _, _, _, _, _, _, _, _, _, _, ?_, ?_, rfl⟩
  · intro env; rfl
  · intro env; rfl
section
variable {P : Program} {w : World} {K : PySem.W.Frag} {mg : Str → Option Value} {base : Heap} {N : List Str} {name : Str} {sc : Scope} {f : Addr} {cdv : Value} {A : Around} {outer : List Env} {s : Shared} {H : Hp} {E : XK} {Θ : Th} {k : Nat} {CT fN g cL PT : Addr} {fd : FuncData}
theorem heardG_ok (C : Ctx (cxOf (L2.CX P w) P w K mg base N name sc f cdv A outer s H E) Θ k lxK) (D : Exn K mg Θ.c CT fN) (eT : Θ.hT = HX.THeard K CT (SX Θ.c)) (Fh : Fun K "_law_heard" "_law_heard" topHd g fd) (gm : mg "_law_heard" = some (.ref g))
    (TB : LamX.TabB base mg cL PT) (hcode : cdv = .ref cL) (hTs : Θ.c.T = [(PT, (envOfC name sc s.heap.objs.size f cdv).qual ++ "<lambda>")]) (hr : Room (k + 2) (A.deeper (envOfC name sc s.heap.objs.size f cdv))) :
    HeardG (cxOf (L2.CX P w) P w K mg base N name sc f cdv A outer s H E) Θ E k := by
  intro params body scope p lpos pos ie hb hl hd hbd hg
  have bd : Binds K fd ["act"] [] := Fh.binds (ps := ["act"]) fun _ _ _ _ _ _ us hl => match us, hl with | [_], _ => rfl
  have Sg : FnScope HX.nHd ["act"] (defScope topHd) := ⟨rfl, rfl, rfl, by decide +kernel, rfl, by decide +kernel, by decide +kernel⟩
  have kp := Fh.kp
  obtain ⟨oc, od, kV, doc, pm, an, cdh, ct, osl, rfl, lk, hcd⟩ := Fh.ex
  obtain ⟨j1, j2, j3, j4, j5, j6, p1, p2, p3, p4, p5, p6, p7, p8, p9, p10, p11, p12, p13, p14, p15, p16, p17, p18, p19, p20, p21, p22, p23, m1, m2, hby⟩ := hd_body
  have hG : LamX.GivesTo (cxOf (L2.CX P w) P w K mg base N name sc f cdv A outer s H E) HX.nHd "_law_heard" (defScope topHd) g cdh (defBody topHd) "act" ((cxOf (L2.CX P w) P w K mg base N name sc f cdv A outer s H E).env.qual ++ "<lambda>") (HX.THeard K CT (SX Θ.c)) := by
    rw [hby]
    refine HX.heard_gives (X := cxOf (L2.CX P w) P w K mg base N name sc f cdv A outer s H E) (st := L2.inClass (topS 1) 0) D.cn D.N D.NF ?_ m1 m2 (by rfl) (by rfl) (by rfl) D.gT
    have := hr.dp
    show (A.deeper (envOfC name sc s.heap.objs.size f cdv)).depth + 1 < recursionLimit
    omega
  have hu : ∀ p ∈ Θ.c.T, p.1 = PT → p.2 = (cxOf (L2.CX P w) P w K mg base N name sc f cdv A outer s H E).env.qual ++ "<lambda>" := fun p hp _ => by
    rw [hTs] at hp
    have e := List.mem_singleton.mp hp
    rw [e]
    rfl
  have h := LamX.pe_lamcall (X := cxOf (L2.CX P w) P w K mg base N name sc f cdv A outer s H E) (T := Θ.c.T) (t := fun E' => dE Θ E' ie) (k := k) (p := p) (lpos := lpos) (pos := pos) (c := cL) (P := PT) hg gm kp lk hcd bd Sg rfl (.inl (by rfl)) hG TB (by rw [← hcode]; rfl) (by rw [hTs]; exact List.mem_singleton.mpr rfl) hu hr (LamX.lamS_by hl) hd hbd
    (fun A' outer' s' H' E' f' c' rm => hb A' outer' s' H' E' f' c' ⟨C.K, rm, rfl, C.nd, C.fns, C.blt, C.gls⟩ fun pins σ H'' s1 e s2 I h =>
      passAt (X := LamX.lamCx (cxOf (L2.CX P w) P w K mg base N name sc f cdv A outer s H E) A' outer' s' H' E' scope f' c') (W := fun cls d _ H => E' cls d H) (takes_of rfl rfl rfl rfl) σ pins H'' s1 e s2 I h)
  rw [← eT] at h
  exact h
end
end G

/-! The defs do what their forms reckon. -/
namespace G
open PySem PySem.Spec PyProof.Rows L2
abbrev topOf (i : Nat) : Stmt := topS (topL.getD i 0)
abbrev parOf (i : Nat) : List Str := parL.getD i []
abbrev slOfN (i : Nat) : List Str := slL.getD i []
/-- what the top has written: the defs, the globals -/
structure Txt (c : Cn) (mg : Str → Option Value) : Prop where
  fn : ∀ i, i < 75 → ∃ fd, Fun c.K (rnOf i) (rnOf i) (topOf i) (c.fa i) fd
  nam : ∀ i, i < 75 → mg (nmOf i) = some (.ref (c.fa i))
  blt : ∀ x, x ∈ bltNames → mg x = none
  gls : ∀ n x, glN[n]? = some x → ∃ u, mg x = some u ∧ RelV (c.gv n) u
  gld : ∀ n d, glD[n]? = some d → ∀ B F, Rv c B F (c.gv n) d
theorem start_env {c : Cn} {B : Option Addr} {F H : Hp} {N : List Str} {vs : List V} {ds : List PD} (ra : RvA c B F vs ds) (hl : ds.length ≤ N.length) : MEnv c B F H (L2.start N vs) (ds.map Sl.d ++ List.replicate (N.length - ds.length) Sl.no) := by
  have el := ra.length
  unfold L2.start
  rw [el]
  refine ⟨by simp [el], fun i s e => ?_, fun i j a xs ys e1 _ _ _ => ?_⟩
  · by_cases l : i < ds.length
    · rw [List.getElem?_append_left (by simpa using l), List.getElem?_map] at e
      rw [List.getElem?_append_left (by simpa [el] using l), List.getElem?_map]
      obtain ⟨d, e1, e2⟩ := Option.map_eq_some_iff.mp e
      obtain ⟨v, h1, h2⟩ := ra.get e1
      subst e2
      exact ⟨some v, by rw [h1]; rfl, v, rfl, h2⟩
    · rw [List.getElem?_append_right (by simpa using l)] at e
      have e' := List.mem_of_getElem? e
      have es : s = .no := (List.mem_replicate.mp e').2
      subst es
      have li : i < (ds.map Sl.d ++ List.replicate (N.length - ds.length) Sl.no).length := by
        rw [List.length_append, List.length_map, List.length_replicate]
        have := (List.getElem?_eq_some_iff.mp e).1
        rw [List.length_map, List.length_replicate] at this
        omega
      have li' : i < (vs.map some ++ List.replicate (N.length - ds.length) (none : Option V)).length := by
        simp at li ⊢
        omega
      exact ⟨_, List.getElem?_eq_getElem li', trivial⟩
  · exfalso
    by_cases l : i < ds.length
    · rw [List.getElem?_append_left (by simpa using l), List.getElem?_map] at e1
      obtain ⟨d, _, e2⟩ := Option.map_eq_some_iff.mp e1
      cases e2
    · rw [List.getElem?_append_right (by simpa using l)] at e1
      have es := (List.mem_replicate.mp (List.mem_of_getElem? e1)).2
      cases es
theorem env_noown {ds : List PD} {n i : Nat} {xs : List PD} (e : (ds.map Sl.d ++ List.replicate n Sl.no)[i]? = some (.own xs)) : False := by
  by_cases l : i < ds.length
  · rw [List.getElem?_append_left (by simpa using l), List.getElem?_map] at e
    obtain ⟨d, _, e2⟩ := Option.map_eq_some_iff.mp e
    cases e2
  · rw [List.getElem?_append_right (by simpa using l)] at e
    have es := (List.mem_replicate.mp (List.mem_of_getElem? e)).2
    cases es
/-- the state at a def's entry -/
theorem sinv_start {c : Cn} {B : Option Addr} {F H : Hp} {N : List Str} {vs : List V} {ds g : List PD} (s : Sub F H) (bg : BagR c B F H g) (ra : RvA c B F vs ds) (hl : ds.length ≤ N.length) :
    SInv c B F H F H (L2.start N vs) (ds.map Sl.d ++ List.replicate (N.length - ds.length) Sl.no) g :=
  ⟨.refl s, ⟨g, bg⟩, bg, start_env ra hl, fun i xs a e _ => (env_noown e).elim⟩
/-- the end of a def -/
theorem post_ends {c : Cn} {B : Option Addr} {E : XK} {F H : Hp} {Q : VK} {o : Out Fl} (h : Post c B E F H (o.bnd fun f => match f with | .nx _ => ret .none | .rt d => ret d) fun d _ F' H' => ∀ v, Rv c B F' v d → Q v H') : PostB c B E F H F o { nx := fun _ H' => Q .non H', rt := Q } := by
  cases o with
  | stuck => exact h
  | exn x g => exact h
  | ok f g =>
    cases f with
    | nx env => exact fun F' H' σ _ S => h F' H' S.gr S.bg .non .non
    | rt d => exact fun F' H' v gr bg r => h F' H' gr bg v r
theorem passX {P : Program} {w : World} {K : PySem.W.Frag} {mg : Str → Option Value} {base : Heap} {N : List Str} {name : Str} {sc : Scope} {f : Addr} {cdv : Value} {A : Around} {outer : List Env} {s : Shared} {H : Hp} {E : XK} :
    Passes (L2.CX P w) (cxOf (L2.CX P w) P w K mg base N name sc f cdv A outer s H E) E := fun pins σ H' s' e s'' I h =>
  passAt (X := cxOf (L2.CX P w) P w K mg base N name sc f cdv A outer s H E) (W := fun cls d _ H => E cls d H) (takes_of rfl rfl rfl rfl) σ pins H' s' e s'' I h
theorem xtX {P : Program} {w : World} {K : PySem.W.Frag} {mg : Str → Option Value} {base : Heap} {N : List Str} {name : Str} {sc : Scope} {f : Addr} {cdv : Value} {A : Around} {outer : List Env} {s : Shared} {H : Hp} {E : XK} :
    XT (cxOf (L2.CX P w) P w K mg base N name sc f cdv A outer s H E) s.heap.objs.size E :=
  ⟨⟨_, outer, ⟨rfl, rfl, rfl⟩, rfl⟩, HX.takesL_of (X := cxOf (L2.CX P w) P w K mg base N name sc f cdv A outer s H E) (takes_of rfl rfl rfl rfl)⟩
/-- the table at a level -/
def ThN (c : Cn) (CT : Addr) (n : Nat) : Th := ⟨c, fun f => SpOf c (ar f) (sem n f), HX.THeard c.K CT (SX c)⟩
section
variable {P : Program} {w : World} {mg : Str → Option Value} {base : Heap} {c : Cn} {CT fN : Addr} (T : Txt c mg) (X : Exn c.K mg c CT fN) (bds : ∀ i fd, i < 75 → Fun c.K (rnOf i) (rnOf i) (topOf i) (c.fa i) fd → Binds c.K fd (parOf i) [])
include T X
theorem tabN (n : Nat) : Tab (ThN c CT n) (sem n) lwK := ⟨fun _ => rfl, fun k d h => T.gld k d h, fun tl B F H g o Q s bg h hp => heard_ok X.x0 X.x1 tl B F H g o Q s bg h hp⟩
omit X
/-- all defs at a level -/
def AllOk (P : Program) (w : World) (mg : Str → Option Value) (base : Heap) (c : Cn) (n : Nat) : Prop :=
  ∀ i fd, i < 75 → i ∉ lxK.ng → Fun c.K (rnOf i) (rnOf i) (topOf i) (c.fa i) fd → FnOk P w c.K mg base (L2.CX P w) n (c.fa i) fd (parOf i) (SpOf c (ar i) (sem n i))
include bds
theorem ctxN {n : Nat} (h : AllOk P w mg base c n) {N : List Str} {name : Str} {top : Nat} {f : Addr} {cdv : Value} {A : Around} {outer : List Env} {s : Shared} {H : Hp} {E : XK} (nd : N.Nodup) (hr : Room n (A.deeper (envOfC name (defScope (topS top)) s.heap.objs.size f cdv))) :
    Ctx (cxOf (L2.CX P w) P w c.K mg base N name (defScope (topS top)) f cdv A outer s H E) (ThN c CT n) n lxK where
  K := rfl
  room := hr
  calm := rfl
  nd := nd
  fns := fun i hi hng => by
    obtain ⟨fd, F⟩ := T.fn i hi
    exact ⟨fd, parOf i, h i fd hi hng F, bds i fd hi F, T.nam i hi, F.kp⟩
  blt := T.blt
  gls := T.gls
include X
/-- a def by its form -/
theorem okDef {fI cc cda : Addr} (R : BT.BadTxt P c.K mg (c.cx 1) fI cc cda) (R0 : NoT c.K mg (c.cx 0)) {n : Nat} (h : AllOk P w mg base c n) {i : Nat} {fd : FuncData} {b : Ss} (hi : i < 75) (F : Fun c.K (rnOf i) (rnOf i) (topOf i) (c.fa i) fd) (hb : bodyOf i = some ((slOfN i).length, b)) (D : Der (defBody (topS (topL.getD i 0))) (topL.getD i 0) (slOfN i) (rnOf i) b)
    (S : FnScope (slOfN i) (parOf i) (defScope (topOf i))) (ha : ar i = (parOf i).length) (hok : okSs lwK b = true) (h1 : i ≠ 49) : FnOk P w c.K mg base (L2.CX P w) (n + 1) (c.fa i) fd (parOf i) (SpOf c (ar i) (sem (n + 1) i)) := by
  have hpl : (parOf i).length ≤ (slOfN i).length := by
    have e := congrArg List.length S.pre
    rw [List.length_take] at e
    omega
  refine F.okX S (fun vs H Q E q => ?_) fun cdv A outer s H vs Q E hr q => ?_
  · obtain ⟨B, F', g, ds, _, _, ra, hl, _⟩ := q
    rw [ra.length, hl, ha]
  · obtain ⟨B, F', g, ds, sb, bg, ra, hl, hp⟩ := q
    refine ⟨_, D P w c.K mg base (c.fa i) cdv A outer s H E (ThN c CT n) n (ctxN T bds h S.nd hr) xtX passX (passes_of (X := cxOf (L2.CX P w) P w c.K mg base (slOfN i) (rnOf i) (defScope (topOf i)) (c.fa i) cdv A outer s H E) rfl) (bt_ok (Θ := ThN c CT n) R R0 hr), ?_⟩
    have e : sem (n + 1) i ds g = evF (sem n) lwK (slOfN i).length b ds g := by
      unfold sem
      rw [if_pos hl, if_neg h1, hb]
    rw [e] at hp
    have hl' : ds.length ≤ (slOfN i).length := by rw [hl, ha]; exact hpl
    exact evSs_ok (tabN T X n) b E B F' H F' F' H (L2.start (slOfN i) vs) _ g _ hok (.refl F') (sinv_start sb bg ra hl') (post_ends hp)
end
end G

/-! All defs at every level. -/
namespace G
open PySem PySem.Spec PyProof.Rows L2
/-- what is looked up of a def -/
structure DefOk (i : Nat) (b : Ss) : Prop where
  body : bodyOf i = some ((slOfN i).length, b)
  der : Der (defBody (topS (topL.getD i 0))) (topL.getD i 0) (slOfN i) (rnOf i) b
  scope : FnScope (slOfN i) (parOf i) (defScope (topOf i))
  ar : ar i = (parOf i).length
  ok : okSs lwK b = true
theorem do0 : DefOk 0 ir0 := ⟨rfl, D0, ⟨rfl, rfl, rfl, by decide +kernel, rfl, by decide +kernel, by decide +kernel⟩, rfl, by decide +kernel⟩
theorem do1 : DefOk 1 ir1 := ⟨rfl, D1, ⟨rfl, rfl, rfl, by decide +kernel, rfl, by decide +kernel, by decide +kernel⟩, rfl, by decide +kernel⟩
theorem do2 : DefOk 2 ir2 := ⟨rfl, D2, ⟨rfl, rfl, rfl, by decide +kernel, rfl, by decide +kernel, by decide +kernel⟩, rfl, by decide +kernel⟩
theorem do3 : DefOk 3 ir3 := ⟨rfl, D3, ⟨rfl, rfl, rfl, by decide +kernel, rfl, by decide +kernel, by decide +kernel⟩, rfl, by decide +kernel⟩
theorem do4 : DefOk 4 ir4 := ⟨rfl, D4, ⟨rfl, rfl, rfl, by decide +kernel, rfl, by decide +kernel, by decide +kernel⟩, rfl, by decide +kernel⟩
theorem do5 : DefOk 5 ir5 := ⟨rfl, D5, ⟨rfl, rfl, rfl, by decide +kernel, rfl, by decide +kernel, by decide +kernel⟩, rfl, by decide +kernel⟩
theorem do6 : DefOk 6 ir6 := ⟨rfl, D6, ⟨rfl, rfl, rfl, by decide +kernel, rfl, by decide +kernel, by decide +kernel⟩, rfl, by decide +kernel⟩
theorem do7 : DefOk 7 ir7 := ⟨rfl, D7, ⟨rfl, rfl, rfl, by decide +kernel, rfl, by decide +kernel, by decide +kernel⟩, rfl, by decide +kernel⟩
theorem do8 : DefOk 8 ir8 := ⟨rfl, D8, ⟨rfl, rfl, rfl, by decide +kernel, rfl, by decide +kernel, by decide +kernel⟩, rfl, by decide +kernel⟩
theorem do9 : DefOk 9 ir9 := ⟨rfl, D9, ⟨rfl, rfl, rfl, by decide +kernel, rfl, by decide +kernel, by decide +kernel⟩, rfl, by decide +kernel⟩
theorem do10 : DefOk 10 ir10 := ⟨rfl, D10, ⟨rfl, rfl, rfl, by decide +kernel, rfl, by decide +kernel, by decide +kernel⟩, rfl, by decide +kernel⟩
theorem do11 : DefOk 11 ir11 := ⟨rfl, D11, ⟨rfl, rfl, rfl, by decide +kernel, rfl, by decide +kernel, by decide +kernel⟩, rfl, by decide +kernel⟩
theorem do12 : DefOk 12 ir12 := ⟨rfl, D12, ⟨rfl, rfl, rfl, by decide +kernel, rfl, by decide +kernel, by decide +kernel⟩, rfl, by decide +kernel⟩
theorem do13 : DefOk 13 ir13 := ⟨rfl, D13, ⟨rfl, rfl, rfl, by decide +kernel, rfl, by decide +kernel, by decide +kernel⟩, rfl, by decide +kernel⟩
theorem do14 : DefOk 14 ir14 := ⟨rfl, D14, ⟨rfl, rfl, rfl, by decide +kernel, rfl, by decide +kernel, by decide +kernel⟩, rfl, by decide +kernel⟩
theorem do15 : DefOk 15 ir15 := ⟨rfl, D15, ⟨rfl, rfl, rfl, by decide +kernel, rfl, by decide +kernel, by decide +kernel⟩, rfl, by decide +kernel⟩
theorem do16 : DefOk 16 ir16 := ⟨rfl, D16, ⟨rfl, rfl, rfl, by decide +kernel, rfl, by decide +kernel, by decide +kernel⟩, rfl, by decide +kernel⟩
theorem do17 : DefOk 17 ir17 := ⟨rfl, D17, ⟨rfl, rfl, rfl, by decide +kernel, rfl, by decide +kernel, by decide +kernel⟩, rfl, by decide +kernel⟩
theorem do18 : DefOk 18 ir18 := ⟨rfl, D18, ⟨rfl, rfl, rfl, by decide +kernel, rfl, by decide +kernel, by decide +kernel⟩, rfl, by decide +kernel⟩
theorem do19 : DefOk 19 ir19 := ⟨rfl, D19, ⟨rfl, rfl, rfl, by decide +kernel, rfl, by decide +kernel, by decide +kernel⟩, rfl, by decide +kernel⟩
theorem do20 : DefOk 20 ir20 := ⟨rfl, D20, ⟨rfl, rfl, rfl, by decide +kernel, rfl, by decide +kernel, by decide +kernel⟩, rfl, by decide +kernel⟩
theorem do21 : DefOk 21 ir21 := ⟨rfl, D21, ⟨rfl, rfl, rfl, by decide +kernel, rfl, by decide +kernel, by decide +kernel⟩, rfl, by decide +kernel⟩
theorem do22 : DefOk 22 ir22 := ⟨rfl, D22, ⟨rfl, rfl, rfl, by decide +kernel, rfl, by decide +kernel, by decide +kernel⟩, rfl, by decide +kernel⟩
theorem do23 : DefOk 23 ir23 := ⟨rfl, D23, ⟨rfl, rfl, rfl, by decide +kernel, rfl, by decide +kernel, by decide +kernel⟩, rfl, by decide +kernel⟩
theorem do24 : DefOk 24 ir24 := ⟨rfl, D24, ⟨rfl, rfl, rfl, by decide +kernel, rfl, by decide +kernel, by decide +kernel⟩, rfl, by decide +kernel⟩
theorem do25 : DefOk 25 ir25 := ⟨rfl, D25, ⟨rfl, rfl, rfl, by decide +kernel, rfl, by decide +kernel, by decide +kernel⟩, rfl, by decide +kernel⟩
theorem do26 : DefOk 26 ir26 := ⟨rfl, D26, ⟨rfl, rfl, rfl, by decide +kernel, rfl, by decide +kernel, by decide +kernel⟩, rfl, by decide +kernel⟩
theorem do27 : DefOk 27 ir27 := ⟨rfl, D27, ⟨rfl, rfl, rfl, by decide +kernel, rfl, by decide +kernel, by decide +kernel⟩, rfl, by decide +kernel⟩
theorem do28 : DefOk 28 ir28 := ⟨rfl, D28, ⟨rfl, rfl, rfl, by decide +kernel, rfl, by decide +kernel, by decide +kernel⟩, rfl, by decide +kernel⟩
theorem do29 : DefOk 29 ir29 := ⟨rfl, D29, ⟨rfl, rfl, rfl, by decide +kernel, rfl, by decide +kernel, by decide +kernel⟩, rfl, by decide +kernel⟩
theorem do30 : DefOk 30 ir30 := ⟨rfl, D30, ⟨rfl, rfl, rfl, by decide +kernel, rfl, by decide +kernel, by decide +kernel⟩, rfl, by decide +kernel⟩
theorem do31 : DefOk 31 ir31 := ⟨rfl, D31, ⟨rfl, rfl, rfl, by decide +kernel, rfl, by decide +kernel, by decide +kernel⟩, rfl, by decide +kernel⟩
theorem do32 : DefOk 32 ir32 := ⟨rfl, D32, ⟨rfl, rfl, rfl, by decide +kernel, rfl, by decide +kernel, by decide +kernel⟩, rfl, by decide +kernel⟩
theorem do33 : DefOk 33 ir33 := ⟨rfl, D33, ⟨rfl, rfl, rfl, by decide +kernel, rfl, by decide +kernel, by decide +kernel⟩, rfl, by decide +kernel⟩
theorem do34 : DefOk 34 ir34 := ⟨rfl, D34, ⟨rfl, rfl, rfl, by decide +kernel, rfl, by decide +kernel, by decide +kernel⟩, rfl, by decide +kernel⟩
theorem do35 : DefOk 35 ir35 := ⟨rfl, D35, ⟨rfl, rfl, rfl, by decide +kernel, rfl, by decide +kernel, by decide +kernel⟩, rfl, by decide +kernel⟩
theorem do36 : DefOk 36 ir36 := ⟨rfl, D36, ⟨rfl, rfl, rfl, by decide +kernel, rfl, by decide +kernel, by decide +kernel⟩, rfl, by decide +kernel⟩
theorem do37 : DefOk 37 ir37 := ⟨rfl, D37, ⟨rfl, rfl, rfl, by decide +kernel, rfl, by decide +kernel, by decide +kernel⟩, rfl, by decide +kernel⟩
theorem do38 : DefOk 38 ir38 := ⟨rfl, D38, ⟨rfl, rfl, rfl, by decide +kernel, rfl, by decide +kernel, by decide +kernel⟩, rfl, by decide +kernel⟩
theorem do39 : DefOk 39 ir39 := ⟨rfl, D39, ⟨rfl, rfl, rfl, by decide +kernel, rfl, by decide +kernel, by decide +kernel⟩, rfl, by decide +kernel⟩
theorem do40 : DefOk 40 ir40 := ⟨rfl, D40, ⟨rfl, rfl, rfl, by decide +kernel, rfl, by decide +kernel, by decide +kernel⟩, rfl, by decide +kernel⟩
theorem do41 : DefOk 41 ir41 := ⟨rfl, D41, ⟨rfl, rfl, rfl, by decide +kernel, rfl, by decide +kernel, by decide +kernel⟩, rfl, by decide +kernel⟩
theorem do42 : DefOk 42 ir42 := ⟨rfl, D42, ⟨rfl, rfl, rfl, by decide +kernel, rfl, by decide +kernel, by decide +kernel⟩, rfl, by decide +kernel⟩
theorem do43 : DefOk 43 ir43 := ⟨rfl, D43, ⟨rfl, rfl, rfl, by decide +kernel, rfl, by decide +kernel, by decide +kernel⟩, rfl, by decide +kernel⟩
theorem do44 : DefOk 44 ir44 := ⟨rfl, D44, ⟨rfl, rfl, rfl, by decide +kernel, rfl, by decide +kernel, by decide +kernel⟩, rfl, by decide +kernel⟩
theorem do45 : DefOk 45 ir45 := ⟨rfl, D45, ⟨rfl, rfl, rfl, by decide +kernel, rfl, by decide +kernel, by decide +kernel⟩, rfl, by decide +kernel⟩
theorem do47 : DefOk 47 ir47 := ⟨rfl, D47, ⟨rfl, rfl, rfl, by decide +kernel, rfl, by decide +kernel, by decide +kernel⟩, rfl, by decide +kernel⟩
theorem do48 : DefOk 48 ir48 := ⟨rfl, D48, ⟨rfl, rfl, rfl, by decide +kernel, rfl, by decide +kernel, by decide +kernel⟩, rfl, by decide +kernel⟩
theorem do50 : DefOk 50 ir50 := ⟨rfl, D50, ⟨rfl, rfl, rfl, by decide +kernel, rfl, by decide +kernel, by decide +kernel⟩, rfl, by decide +kernel⟩
theorem do51 : DefOk 51 ir51 := ⟨rfl, D51, ⟨rfl, rfl, rfl, by decide +kernel, rfl, by decide +kernel, by decide +kernel⟩, rfl, by decide +kernel⟩
theorem do52 : DefOk 52 ir52 := ⟨rfl, D52, ⟨rfl, rfl, rfl, by decide +kernel, rfl, by decide +kernel, by decide +kernel⟩, rfl, by decide +kernel⟩
theorem do53 : DefOk 53 ir53 := ⟨rfl, D53, ⟨rfl, rfl, rfl, by decide +kernel, rfl, by decide +kernel, by decide +kernel⟩, rfl, by decide +kernel⟩
theorem do54 : DefOk 54 ir54 := ⟨rfl, D54, ⟨rfl, rfl, rfl, by decide +kernel, rfl, by decide +kernel, by decide +kernel⟩, rfl, by decide +kernel⟩
theorem do55 : DefOk 55 ir55 := ⟨rfl, D55, ⟨rfl, rfl, rfl, by decide +kernel, rfl, by decide +kernel, by decide +kernel⟩, rfl, by decide +kernel⟩
theorem do56 : DefOk 56 ir56 := ⟨rfl, D56, ⟨rfl, rfl, rfl, by decide +kernel, rfl, by decide +kernel, by decide +kernel⟩, rfl, by decide +kernel⟩
theorem do57 : DefOk 57 ir57 := ⟨rfl, D57, ⟨rfl, rfl, rfl, by decide +kernel, rfl, by decide +kernel, by decide +kernel⟩, rfl, by decide +kernel⟩
theorem do58 : DefOk 58 ir58 := ⟨rfl, D58, ⟨rfl, rfl, rfl, by decide +kernel, rfl, by decide +kernel, by decide +kernel⟩, rfl, by decide +kernel⟩
theorem do59 : DefOk 59 ir59 := ⟨rfl, D59, ⟨rfl, rfl, rfl, by decide +kernel, rfl, by decide +kernel, by decide +kernel⟩, rfl, by decide +kernel⟩
theorem do60 : DefOk 60 ir60 := ⟨rfl, D60, ⟨rfl, rfl, rfl, by decide +kernel, rfl, by decide +kernel, by decide +kernel⟩, rfl, by decide +kernel⟩
theorem do61 : DefOk 61 ir61 := ⟨rfl, D61, ⟨rfl, rfl, rfl, by decide +kernel, rfl, by decide +kernel, by decide +kernel⟩, rfl, by decide +kernel⟩
theorem do62 : DefOk 62 ir62 := ⟨rfl, D62, ⟨rfl, rfl, rfl, by decide +kernel, rfl, by decide +kernel, by decide +kernel⟩, rfl, by decide +kernel⟩
theorem do63 : DefOk 63 ir63 := ⟨rfl, D63, ⟨rfl, rfl, rfl, by decide +kernel, rfl, by decide +kernel, by decide +kernel⟩, rfl, by decide +kernel⟩
theorem do64 : DefOk 64 ir64 := ⟨rfl, D64, ⟨rfl, rfl, rfl, by decide +kernel, rfl, by decide +kernel, by decide +kernel⟩, rfl, by decide +kernel⟩
theorem do65 : DefOk 65 ir65 := ⟨rfl, D65, ⟨rfl, rfl, rfl, by decide +kernel, rfl, by decide +kernel, by decide +kernel⟩, rfl, by decide +kernel⟩
theorem do66 : DefOk 66 ir66 := ⟨rfl, D66, ⟨rfl, rfl, rfl, by decide +kernel, rfl, by decide +kernel, by decide +kernel⟩, rfl, by decide +kernel⟩
theorem do67 : DefOk 67 ir67 := ⟨rfl, D67, ⟨rfl, rfl, rfl, by decide +kernel, rfl, by decide +kernel, by decide +kernel⟩, rfl, by decide +kernel⟩
theorem do68 : DefOk 68 ir68 := ⟨rfl, D68, ⟨rfl, rfl, rfl, by decide +kernel, rfl, by decide +kernel, by decide +kernel⟩, rfl, by decide +kernel⟩
theorem do69 : DefOk 69 ir69 := ⟨rfl, D69, ⟨rfl, rfl, rfl, by decide +kernel, rfl, by decide +kernel, by decide +kernel⟩, rfl, by decide +kernel⟩
theorem do70 : DefOk 70 ir70 := ⟨rfl, D70, ⟨rfl, rfl, rfl, by decide +kernel, rfl, by decide +kernel, by decide +kernel⟩, rfl, by decide +kernel⟩
theorem do71 : DefOk 71 ir71 := ⟨rfl, D71, ⟨rfl, rfl, rfl, by decide +kernel, rfl, by decide +kernel, by decide +kernel⟩, rfl, by decide +kernel⟩
theorem do73 : DefOk 73 ir73 := ⟨rfl, D73, ⟨rfl, rfl, rfl, by decide +kernel, rfl, by decide +kernel, by decide +kernel⟩, rfl, by decide +kernel⟩
theorem defs_ok : ∀ i, i < 75 → i ∉ lxK.ng → i ≠ 46 → i ≠ 72 → i ≠ 74 → ∃ b, DefOk i b
  | 0, _, _, _, _, _ => ⟨_, do0⟩
  | 1, _, _, _, _, _ => ⟨_, do1⟩
  | 2, _, _, _, _, _ => ⟨_, do2⟩
  | 3, _, _, _, _, _ => ⟨_, do3⟩
  | 4, _, _, _, _, _ => ⟨_, do4⟩
  | 5, _, _, _, _, _ => ⟨_, do5⟩
  | 6, _, _, _, _, _ => ⟨_, do6⟩
  | 7, _, _, _, _, _ => ⟨_, do7⟩
  | 8, _, _, _, _, _ => ⟨_, do8⟩
  | 9, _, _, _, _, _ => ⟨_, do9⟩
  | 10, _, _, _, _, _ => ⟨_, do10⟩
  | 11, _, _, _, _, _ => ⟨_, do11⟩
  | 12, _, _, _, _, _ => ⟨_, do12⟩
  | 13, _, _, _, _, _ => ⟨_, do13⟩
  | 14, _, _, _, _, _ => ⟨_, do14⟩
  | 15, _, _, _, _, _ => ⟨_, do15⟩
  | 16, _, _, _, _, _ => ⟨_, do16⟩
  | 17, _, _, _, _, _ => ⟨_, do17⟩
  | 18, _, _, _, _, _ => ⟨_, do18⟩
  | 19, _, _, _, _, _ => ⟨_, do19⟩
  | 20, _, _, _, _, _ => ⟨_, do20⟩
  | 21, _, _, _, _, _ => ⟨_, do21⟩
  | 22, _, _, _, _, _ => ⟨_, do22⟩
  | 23, _, _, _, _, _ => ⟨_, do23⟩
  | 24, _, _, _, _, _ => ⟨_, do24⟩
  | 25, _, _, _, _, _ => ⟨_, do25⟩
  | 26, _, _, _, _, _ => ⟨_, do26⟩
  | 27, _, _, _, _, _ => ⟨_, do27⟩
  | 28, _, _, _, _, _ => ⟨_, do28⟩
  | 29, _, _, _, _, _ => ⟨_, do29⟩
  | 30, _, _, _, _, _ => ⟨_, do30⟩
  | 31, _, _, _, _, _ => ⟨_, do31⟩
  | 32, _, _, _, _, _ => ⟨_, do32⟩
  | 33, _, _, _, _, _ => ⟨_, do33⟩
  | 34, _, _, _, _, _ => ⟨_, do34⟩
  | 35, _, _, _, _, _ => ⟨_, do35⟩
  | 36, _, _, _, _, _ => ⟨_, do36⟩
  | 37, _, _, _, _, _ => ⟨_, do37⟩
  | 38, _, _, _, _, _ => ⟨_, do38⟩
  | 39, _, _, _, _, _ => ⟨_, do39⟩
  | 40, _, _, _, _, _ => ⟨_, do40⟩
  | 41, _, _, _, _, _ => ⟨_, do41⟩
  | 42, _, _, _, _, _ => ⟨_, do42⟩
  | 43, _, _, _, _, _ => ⟨_, do43⟩
  | 44, _, _, _, _, _ => ⟨_, do44⟩
  | 45, _, _, _, _, _ => ⟨_, do45⟩
  | 46, _, _, h, _, _ => absurd rfl h
  | 47, _, _, _, _, _ => ⟨_, do47⟩
  | 48, _, _, _, _, _ => ⟨_, do48⟩
  | 49, _, h, _, _, _ => absurd (by decide) h
  | 50, _, _, _, _, _ => ⟨_, do50⟩
  | 51, _, _, _, _, _ => ⟨_, do51⟩
  | 52, _, _, _, _, _ => ⟨_, do52⟩
  | 53, _, _, _, _, _ => ⟨_, do53⟩
  | 54, _, _, _, _, _ => ⟨_, do54⟩
  | 55, _, _, _, _, _ => ⟨_, do55⟩
  | 56, _, _, _, _, _ => ⟨_, do56⟩
  | 57, _, _, _, _, _ => ⟨_, do57⟩
  | 58, _, _, _, _, _ => ⟨_, do58⟩
  | 59, _, _, _, _, _ => ⟨_, do59⟩
  | 60, _, _, _, _, _ => ⟨_, do60⟩
  | 61, _, _, _, _, _ => ⟨_, do61⟩
  | 62, _, _, _, _, _ => ⟨_, do62⟩
  | 63, _, _, _, _, _ => ⟨_, do63⟩
  | 64, _, _, _, _, _ => ⟨_, do64⟩
  | 65, _, _, _, _, _ => ⟨_, do65⟩
  | 66, _, _, _, _, _ => ⟨_, do66⟩
  | 67, _, _, _, _, _ => ⟨_, do67⟩
  | 68, _, _, _, _, _ => ⟨_, do68⟩
  | 69, _, _, _, _, _ => ⟨_, do69⟩
  | 70, _, _, _, _, _ => ⟨_, do70⟩
  | 71, _, _, _, _, _ => ⟨_, do71⟩
  | 72, _, _, _, h, _ => absurd rfl h
  | 73, _, _, _, _, _ => ⟨_, do73⟩
  | 74, _, _, _, _, h => absurd rfl h
  | n + 75, h, _, _, _, _ => absurd h (by omega)
section
variable {P : Program} {w : World} {mg : Str → Option Value} {base : Heap} {c : Cn} {CT fN : Addr}
theorem bdsN : ∀ i fd, i < 75 → Fun c.K (rnOf i) (rnOf i) (topOf i) (c.fa i) fd → Binds c.K fd (parOf i) []
  | 0, fd, _, F => F.binds (ps := parOf 0) fun _ _ _ _ _ _ us hl => match us, hl with | [_], _ => rfl
  | 1, fd, _, F => F.binds (ps := parOf 1) fun _ _ _ _ _ _ us hl => match us, hl with | [_, _], _ => rfl
  | 2, fd, _, F => F.binds (ps := parOf 2) fun _ _ _ _ _ _ us hl => match us, hl with | [_, _], _ => rfl
  | 3, fd, _, F => F.binds (ps := parOf 3) fun _ _ _ _ _ _ us hl => match us, hl with | [_], _ => rfl
  | 4, fd, _, F => F.binds (ps := parOf 4) fun _ _ _ _ _ _ us hl => match us, hl with | [_, _], _ => rfl
  | 5, fd, _, F => F.binds (ps := parOf 5) fun _ _ _ _ _ _ us hl => match us, hl with | [_], _ => rfl
  | 6, fd, _, F => F.binds (ps := parOf 6) fun _ _ _ _ _ _ us hl => match us, hl with | [_, _], _ => rfl
  | 7, fd, _, F => F.binds (ps := parOf 7) fun _ _ _ _ _ _ us hl => match us, hl with | [_, _], _ => rfl
  | 8, fd, _, F => F.binds (ps := parOf 8) fun _ _ _ _ _ _ us hl => match us, hl with | [_, _], _ => rfl
  | 9, fd, _, F => F.binds (ps := parOf 9) fun _ _ _ _ _ _ us hl => match us, hl with | [_], _ => rfl
  | 10, fd, _, F => F.binds (ps := parOf 10) fun _ _ _ _ _ _ us hl => match us, hl with | [_, _], _ => rfl
  | 11, fd, _, F => F.binds (ps := parOf 11) fun _ _ _ _ _ _ us hl => match us, hl with | [_], _ => rfl
  | 12, fd, _, F => F.binds (ps := parOf 12) fun _ _ _ _ _ _ us hl => match us, hl with | [_], _ => rfl
  | 13, fd, _, F => F.binds (ps := parOf 13) fun _ _ _ _ _ _ us hl => match us, hl with | [_, _, _], _ => rfl
  | 14, fd, _, F => F.binds (ps := parOf 14) fun _ _ _ _ _ _ us hl => match us, hl with | [_, _], _ => rfl
  | 15, fd, _, F => F.binds (ps := parOf 15) fun _ _ _ _ _ _ us hl => match us, hl with | [_, _], _ => rfl
  | 16, fd, _, F => F.binds (ps := parOf 16) fun _ _ _ _ _ _ us hl => match us, hl with | [_], _ => rfl
  | 17, fd, _, F => F.binds (ps := parOf 17) fun _ _ _ _ _ _ us hl => match us, hl with | [_], _ => rfl
  | 18, fd, _, F => F.binds (ps := parOf 18) fun _ _ _ _ _ _ us hl => match us, hl with | [_], _ => rfl
  | 19, fd, _, F => F.binds (ps := parOf 19) fun _ _ _ _ _ _ us hl => match us, hl with | [_], _ => rfl
  | 20, fd, _, F => F.binds (ps := parOf 20) fun _ _ _ _ _ _ us hl => match us, hl with | [_], _ => rfl
  | 21, fd, _, F => F.binds (ps := parOf 21) fun _ _ _ _ _ _ us hl => match us, hl with | [_, _], _ => rfl
  | 22, fd, _, F => F.binds (ps := parOf 22) fun _ _ _ _ _ _ us hl => match us, hl with | [_, _], _ => rfl
  | 23, fd, _, F => F.binds (ps := parOf 23) fun _ _ _ _ _ _ us hl => match us, hl with | [_, _], _ => rfl
  | 24, fd, _, F => F.binds (ps := parOf 24) fun _ _ _ _ _ _ us hl => match us, hl with | [_], _ => rfl
  | 25, fd, _, F => F.binds (ps := parOf 25) fun _ _ _ _ _ _ us hl => match us, hl with | [_, _], _ => rfl
  | 26, fd, _, F => F.binds (ps := parOf 26) fun _ _ _ _ _ _ us hl => match us, hl with | [_, _], _ => rfl
  | 27, fd, _, F => F.binds (ps := parOf 27) fun _ _ _ _ _ _ us hl => match us, hl with | [_, _, _], _ => rfl
  | 28, fd, _, F => F.binds (ps := parOf 28) fun _ _ _ _ _ _ us hl => match us, hl with | [_], _ => rfl
  | 29, fd, _, F => F.binds (ps := parOf 29) fun _ _ _ _ _ _ us hl => match us, hl with | [_], _ => rfl
  | 30, fd, _, F => F.binds (ps := parOf 30) fun _ _ _ _ _ _ us hl => match us, hl with | [_, _], _ => rfl
  | 31, fd, _, F => F.binds (ps := parOf 31) fun _ _ _ _ _ _ us hl => match us, hl with | [_, _, _, _], _ => rfl
  | 32, fd, _, F => F.binds (ps := parOf 32) fun _ _ _ _ _ _ us hl => match us, hl with | [_], _ => rfl
  | 33, fd, _, F => F.binds (ps := parOf 33) fun _ _ _ _ _ _ us hl => match us, hl with | [_, _], _ => rfl
  | 34, fd, _, F => F.binds (ps := parOf 34) fun _ _ _ _ _ _ us hl => match us, hl with | [_, _], _ => rfl
  | 35, fd, _, F => F.binds (ps := parOf 35) fun _ _ _ _ _ _ us hl => match us, hl with | [_], _ => rfl
  | 36, fd, _, F => F.binds (ps := parOf 36) fun _ _ _ _ _ _ us hl => match us, hl with | [_, _], _ => rfl
  | 37, fd, _, F => F.binds (ps := parOf 37) fun _ _ _ _ _ _ us hl => match us, hl with | [_, _], _ => rfl
  | 38, fd, _, F => F.binds (ps := parOf 38) fun _ _ _ _ _ _ us hl => match us, hl with | [_, _], _ => rfl
  | 39, fd, _, F => F.binds (ps := parOf 39) fun _ _ _ _ _ _ us hl => match us, hl with | [_, _, _], _ => rfl
  | 40, fd, _, F => F.binds (ps := parOf 40) fun _ _ _ _ _ _ us hl => match us, hl with | [_, _, _, _], _ => rfl
  | 41, fd, _, F => F.binds (ps := parOf 41) fun _ _ _ _ _ _ us hl => match us, hl with | [_, _, _, _, _, _], _ => rfl
  | 42, fd, _, F => F.binds (ps := parOf 42) fun _ _ _ _ _ _ us hl => match us, hl with | [_, _, _], _ => rfl
  | 43, fd, _, F => F.binds (ps := parOf 43) fun _ _ _ _ _ _ us hl => match us, hl with | [_, _], _ => rfl
  | 44, fd, _, F => F.binds (ps := parOf 44) fun _ _ _ _ _ _ us hl => match us, hl with | [_, _], _ => rfl
  | 45, fd, _, F => F.binds (ps := parOf 45) fun _ _ _ _ _ _ us hl => match us, hl with | [_, _], _ => rfl
  | 46, fd, _, F => F.binds (ps := parOf 46) fun _ _ _ _ _ _ us hl => match us, hl with | [_], _ => rfl
  | 47, fd, _, F => F.binds (ps := parOf 47) fun _ _ _ _ _ _ us hl => match us, hl with | [_, _], _ => rfl
  | 48, fd, _, F => F.binds (ps := parOf 48) fun _ _ _ _ _ _ us hl => match us, hl with | [_, _], _ => rfl
  | 49, fd, _, F => F.binds (ps := parOf 49) fun _ _ _ _ _ _ us hl => match us, hl with | [_, _], _ => rfl
  | 50, fd, _, F => F.binds (ps := parOf 50) fun _ _ _ _ _ _ us hl => match us, hl with | [_, _], _ => rfl
  | 51, fd, _, F => F.binds (ps := parOf 51) fun _ _ _ _ _ _ us hl => match us, hl with | [_, _], _ => rfl
  | 52, fd, _, F => F.binds (ps := parOf 52) fun _ _ _ _ _ _ us hl => match us, hl with | [_, _], _ => rfl
  | 53, fd, _, F => F.binds (ps := parOf 53) fun _ _ _ _ _ _ us hl => match us, hl with | [_, _], _ => rfl
  | 54, fd, _, F => F.binds (ps := parOf 54) fun _ _ _ _ _ _ us hl => match us, hl with | [_, _], _ => rfl
  | 55, fd, _, F => F.binds (ps := parOf 55) fun _ _ _ _ _ _ us hl => match us, hl with | [_, _], _ => rfl
  | 56, fd, _, F => F.binds (ps := parOf 56) fun _ _ _ _ _ _ us hl => match us, hl with | [_, _], _ => rfl
  | 57, fd, _, F => F.binds (ps := parOf 57) fun _ _ _ _ _ _ us hl => match us, hl with | [_], _ => rfl
  | 58, fd, _, F => F.binds (ps := parOf 58) fun _ _ _ _ _ _ us hl => match us, hl with | [_, _], _ => rfl
  | 59, fd, _, F => F.binds (ps := parOf 59) fun _ _ _ _ _ _ us hl => match us, hl with | [_], _ => rfl
  | 60, fd, _, F => F.binds (ps := parOf 60) fun _ _ _ _ _ _ us hl => match us, hl with | [_, _], _ => rfl
  | 61, fd, _, F => F.binds (ps := parOf 61) fun _ _ _ _ _ _ us hl => match us, hl with | [_, _], _ => rfl
  | 62, fd, _, F => F.binds (ps := parOf 62) fun _ _ _ _ _ _ us hl => match us, hl with | [_, _], _ => rfl
  | 63, fd, _, F => F.binds (ps := parOf 63) fun _ _ _ _ _ _ us hl => match us, hl with | [_], _ => rfl
  | 64, fd, _, F => F.binds (ps := parOf 64) fun _ _ _ _ _ _ us hl => match us, hl with | [_, _, _], _ => rfl
  | 65, fd, _, F => F.binds (ps := parOf 65) fun _ _ _ _ _ _ us hl => match us, hl with | [_, _], _ => rfl
  | 66, fd, _, F => F.binds (ps := parOf 66) fun _ _ _ _ _ _ us hl => match us, hl with | [_, _, _, _], _ => rfl
  | 67, fd, _, F => F.binds (ps := parOf 67) fun _ _ _ _ _ _ us hl => match us, hl with | [_], _ => rfl
  | 68, fd, _, F => F.binds (ps := parOf 68) fun _ _ _ _ _ _ us hl => match us, hl with | [_], _ => rfl
  | 69, fd, _, F => F.binds (ps := parOf 69) fun _ _ _ _ _ _ us hl => match us, hl with | [_], _ => rfl
  | 70, fd, _, F => F.binds (ps := parOf 70) fun _ _ _ _ _ _ us hl => match us, hl with | [_, _, _], _ => rfl
  | 71, fd, _, F => F.binds (ps := parOf 71) fun _ _ _ _ _ _ us hl => match us, hl with | [_], _ => rfl
  | 72, fd, _, F => F.binds (ps := parOf 72) fun _ _ _ _ _ _ us hl => match us, hl with | [_], _ => rfl
  | 73, fd, _, F => F.binds (ps := parOf 73) fun _ _ _ _ _ _ us hl => match us, hl with | [_, _], _ => rfl
  | 74, fd, _, F => F.binds (ps := parOf 74) fun _ _ _ _ _ _ us hl => match us, hl with | [_], _ => rfl
  | n + 75, _, h, _ => absurd h (by omega)
theorem ok_stk {n i : Nat} {f : Addr} {fd : FuncData} {ps : List Str} {k : Nat} (hs : ∀ ds g, sem n i ds g = .stuck) : FnOk P w c.K mg base (L2.CX P w) k f fd ps (SpOf c (ar i) (sem n i)) := by
  have no : ∀ {vs : List V} {H : Hp} {Q : VK} {E : XK}, SpOf c (ar i) (sem n i) vs H Q E → False := fun {vs H Q E} h => by
    obtain ⟨B, F, g, ds, _, _, _, _, hp⟩ := h
    rw [hs] at hp
    exact hp
  exact ⟨fun vs H Q E h => (no h).elim, fun A outer s H args us vs Q E _ _ _ _ h => (no h).elim⟩
theorem sem_no {n i : Nat} (h : bodyOf i = none) (h1 : i ≠ 49) (ds g : List PD) : sem (n + 1) i ds g = .stuck := by
  unfold sem
  by_cases l : ds.length = ar i
  · rw [if_pos l, if_neg h1, h]
    rfl
  · rw [if_neg l]
    rfl
theorem all_ok (T : Txt c mg) (X : Exn c.K mg c CT fN) {fI cc cda : Addr} (R : BT.BadTxt P c.K mg (c.cx 1) fI cc cda) (R0 : NoT c.K mg (c.cx 0)) : ∀ n, AllOk P w mg base c n
  | 0 => fun i fd hi hng F => ok_stk fun _ _ => rfl
  | n + 1 => fun i fd hi hng F => by
    have h1 : i ≠ 49 := fun z => hng (by rw [z]; decide)
    by_cases e0 : i = 46
    · subst e0
      exact ok_stk (sem_no rfl h1)
    by_cases e1 : i = 72
    · subst e1
      exact ok_stk (sem_no rfl h1)
    by_cases e2 : i = 74
    · subst e2
      exact ok_stk (sem_no rfl h1)
    obtain ⟨b, D⟩ := defs_ok i hi hng e0 e1 e2
    exact okDef T X bdsN R R0 (all_ok T X R R0 n) hi F D.body D.der D.scope D.ar D.ok h1
end
end G

/-! _law_bag at the caller's activation. -/
namespace G
open PySem PySem.Spec PyProof.Rows L2
def absI (i : Int) : Int := if i < 0 then -i else i
/-- the bag's list at first -/
def bag0 (ns : List Int) : List PD := [.int 0, .int 1234567891, .int 0, .list ((ns.take 63).map fun i => .int (absI i))]
def F00 : Hp := fun _ => none
theorem sub00 (H : Hp) : Sub F00 H := fun _ _ h => nomatch h
theorem bagNone {c : Cn} {H : Hp} {g : List PD} (tb : LamX.Tabs c.T H) : BagR c none F00 H g := ⟨(fun _ e => nomatch e), (fun _ _ e => nomatch e), tb⟩
/-- what _law_bag promises -/
def spBag (c : Cn) : Sp := fun vs H Q _ => ∃ (a : Addr) (ns : List Int), vs = [.ref a] ∧ SqL c.K H a (ns.map V.int) ∧ LamX.Tabs c.T H ∧
  ∀ F' H' b ws, Gr none F00 H F' H' → BagR c none F' H' [] → H' b = some (.lst ws) → F' b = none → Fr0 H b → RvA c none F' ws (bag0 ns) → Q (.ref b) H'
def tBag (K : PySem.W.Frag) : TS := tRet (tLst (tCons (tC (.int 0)) (tCons (tC (.int 1234567891)) (tCons (tC (.int 0)) (tCons (tLc (iList K (tSl (rSlL K) (tVar 0) tNoPart (tPart (tC (.int 63))))) (gName 1) tYes
  (tCB (fun xs H Q => ∃ i, xs = [V.int i] ∧ Q (V.int (if i < 0 then -i else i)) H) (tCons (tVar 1) tNil)) [1]) tNil)))))
abbrev nBag : List Str := ["script", "cell"]
section
variable {P : Program} {w : World} {K : PySem.W.Frag} {mg : Str → Option Value} {base : Heap} {f : Addr}
theorem bag_der {cdv : Value} {A : Around} {outer : List Env} {s : Shared} {H : Hp} {E : XK} (hb : mg "abs" = none) : PSs (cxOf (L2.CX P w) P w K mg base nBag "_law_bag" (defScope (topS 64)) f cdv A outer s H E) (defBody (topS 64)) (tBag K) := by
  have nd : nBag.Nodup := by decide +kernel
  exact pss_one (ps_ret (pe_lst (pa_cons pe_int (pa_cons pe_int (pa_cons pe_int (pa_cons (pe_lc (own := [(("cell" : Str), 1)]) rfl nd (pi_list (pe_slice sl_list (pv 0) po_none (po_some pe_int))) (blkOk_by (by kernel_rfl))
    (fun s H D cl fp => pg_name (i := 1) nd rfl (Or.inl rfl)) (fun _ _ _ _ _ => pts_nil) (fun s H D cl fp => pe_callB call_abs rfl hb (by rfl) (pa_cons (pv 1) pa_nil))) pa_nil))))))
def absF : PD → M PD | .int i => ret (.int (absI i)) | _ => stk
theorem absF_map : ∀ (ns : List Int) (g : List PD), mapM' absF (ns.map PyData.int) g = .ok (ns.map fun i => .int (absI i)) g
  | [], g => rfl
  | n :: ns, g => by
    show (absF (.int n) g).bnd (fun y => bnd (mapM' absF (ns.map PyData.int)) fun ys => ret (y :: ys)) = _
    show (mapM' absF (ns.map PyData.int) g).bnd (fun ys => ret (PyData.int (absI n) :: ys)) = _
    rw [absF_map ns g]
    rfl
theorem rva_ints {c : Cn} {B : Option Addr} {F : Hp} : ∀ ns : List Int, RvA c B F (ns.map V.int) (ns.map PyData.int)
  | [] => .nil
  | n :: ns => .cons (.int n) (rva_ints ns)
theorem pure_bag {c : Cn} {vs : List V} {H : Hp} {Q : VK} {E : XK} (h : spBag c vs H Q E) : tBag c.K { nx := fun _ H' => Q .non H', rt := Q } (L2.start nBag vs) H := by
  obtain ⟨a, ns, rfl, hs, tb, k⟩ := h
  have hcut : cutV (ns.map V.int) none (some 63) = (ns.take 63).map V.int := by
    unfold cutV
    have e1 : HT.sIx (ns.map V.int).length 0 none = 0 := rfl
    have e2 : HT.sIx (ns.map V.int).length (ns.map V.int).length (some 63) = min 63 (ns.map V.int).length := rfl
    rw [e1, e2, List.drop_zero, Nat.sub_zero, ← List.map_take, List.length_map]
    congr 1
    by_cases q : 63 ≤ ns.length
    · rw [Nat.min_eq_left q]
    · rw [Nat.min_eq_right (by omega), List.take_length, List.take_of_length_le (by omega)]
  refine ⟨.ref a, rfl, 63, rfl, a, _, rfl, hs, fun p hp => ⟨p, rfl, ⟨_, .inl (.inl upd_same)⟩, ?_⟩⟩
  rw [hcut]
  have gr0 := Gr.fresh (B := none) (o := HO.lst ((ns.take 63).map V.int)) (sub00 H) hp
  have bg0 := (bagNone (g := []) tb).fresh (B := none) (sub00 H) hp (o := HO.lst ((ns.take 63).map V.int)) NT.lst
  refine lc_ok (c := c) (B := none) (E := E00) (g := []) (ds := (ns.take 63).map PyData.int) (f := fun d => bnd (absF d) fun y => ret (some y)) (tg := gName 1) (tt := tYes) (te := tCB (fun xs H Q => ∃ i, xs = [V.int i] ∧ Q (V.int (if i < 0 then -i else i)) H) (tCons (tVar 1) tNil)) (own := [1]) (σ := L2.start nBag [.ref a]) (Q := fun x H1 => [V.int 0, V.int 1234567891, V.int 0, x].length ≤ sizeLine ∧ ∀ p2, H1 p2 = none → Q (.ref p2) (upd H1 p2 (.lst [V.int 0, V.int 1234567891, V.int 0, x]))) bg0 gr0.inn (walks_l upd_same (rva_ints _)) ?_ (fun F1 H1 x d gb Qs Qn gr bg rx kk => ?_) ?_
  · rw [List.length_map, List.length_take]
    exact Nat.le_trans (Nat.min_le_left _ _) (by decide)
  · cases d <;> try exact False.elim kk
    rename_i i
    cases rx
    exact ⟨rfl, _, rfl, _, rfl, kk F1 H1 (.refl gr.inn) bg _ (.int _)⟩
  · rw [mapF_some, absF_map]
    intro F' H' gr bg' q vs e1 e2 e3 ra
    refine ⟨(by show 4 ≤ sizeLine; decide), fun p2 hp2 => ?_⟩
    have grf := gr.freeze e3 e2 e1
    have sb := sub_upd (o := HO.lst vs) e2
    have nF : upd F' q (.lst vs) p2 = none := none_of grf.inn hp2
    have bgf : BagR c none (upd F' q (.lst vs)) H' [] := ⟨(fun _ e => nomatch e), (bg'.freeze bg0 NT.lst e3 sb).nt, bg'.tb⟩
    exact k _ _ p2 _ ((gr0.trans grf).trans (.freshM grf.inn hp2)) (bgf.freshM hp2) upd_same nF ((gr0.trans grf).back (.of hp2)) (.cons (.int _) (.cons (.int _) (.cons (.int _) (.cons (.lst upd_same (RvA.mono sb _ _ ra)) .nil))))
theorem ok_bag {c : Cn} (ek : c.K = K) {fd : FuncData} (F : Fun K "_law_bag" "_law_bag" (topS 64) f fd) (hb : mg "abs" = none) {k : Nat} : FnOk P w K mg base (L2.CX P w) (k + 1) f fd ["script"] (spBag c) := by
  subst ek
  refine F.okX (N := nBag) ⟨rfl, rfl, rfl, by decide +kernel, rfl, by decide +kernel, by decide +kernel⟩ (fun vs H Q E q => ?_) fun cdv A outer s H vs Q E hr q => ⟨_, bag_der hb, pure_bag q⟩
  obtain ⟨a, ns, rfl, _⟩ := q
  rfl
end
end G

/-! The law's def at the caller's activation, and from there the row's walk. -/
namespace G
open PySem PySem.Spec PyProof.Rows L2
mutual
theorem Rv.toB {c : Cn} {B : Option Addr} {F : Hp} : ∀ (d : PD) (v : V), Rv c none F v d → Rv c B F v d
  | .none, _, h => by cases h; exact .non
  | .bool b, _, h => by cases h; exact .bl b
  | .int i, _, h => by cases h; exact .int i
  | .str x, _, h => by cases h; exact .str x
  | .list ds, _, h => by
    cases h with
    | lst hs ha => exact .lst hs (RvA.toB ds _ ha)
  | .tuple ds, _, h => by
    cases h with
    | tup hs ha => exact .tup hs (RvA.toB ds _ ha)
  | .dict kvs, _, h => by
    cases h with
    | fn k => exact .fn k
    | bag e => cases e
theorem RvA.toB {c : Cn} {B : Option Addr} {F : Hp} : ∀ (ds : List PD) (vs : List V), RvA c none F vs ds → RvA c B F vs ds
  | [], _, h => by cases h; exact .nil
  | d :: ds, _, h => by
    cases h with
    | cons h1 h2 => exact .cons (Rv.toB d _ h1) (RvA.toB ds _ h2)
end
abbrev Lv : Nat := 20
/-- the slots behind bag = _law_bag(script) -/
def envL : EnvD := (List.replicate 22 Sl.no).set 1 (.d (.dict []))
/-- the law in plain: whatever the cells, it ends True -/
def Plain (ns : List Int) : Prop := ∃ g', evSs (sem Lv) lwK ir74 envL (bag0 ns) = .ok (.rt (.bool true)) g'
theorem me_no {c : Cn} {B : Option Addr} {F H : Hp} {σ : L2.St} : MEnv c B F H σ (List.replicate σ.length Sl.no) := by
  refine ⟨by simp, fun i s e => ?_, fun i j a xs ys e1 _ _ _ => ?_⟩
  · have es := (List.mem_replicate.mp (List.mem_of_getElem? e)).2
    subst es
    have l : i < σ.length := by
      have := (List.getElem?_eq_some_iff.mp e).1
      rwa [List.length_replicate] at this
    exact ⟨_, List.getElem?_eq_getElem l, trivial⟩
  · have es := (List.mem_replicate.mp (List.mem_of_getElem? e1)).2
    cases es
/-- the name of the law's lambdas -/
def qLam : Str := (envOfC "law" (defScope (topS 92)) 0 0 .none).qual ++ "<lambda>"
section
variable {P : Program} {w : World} {mg : Str → Option Value} {base : Heap} {c : Cn} {CT fN fI cc cda cL PT : Addr}
theorem spofA {m : Nat} {vs : List V} {H : Hp} {Q : VK} {E : XK} (h : SpOf c (ar 49) (sem (m + 1) 49) vs H Q E) : SpOf c 2 alikeF vs H Q E := by
  obtain ⟨B, F, g, ds, sb, bg, ra, hl, hp⟩ := h
  have e : sem (m + 1) 49 ds g = alikeF ds g := by
    unfold sem
    rw [if_pos hl, if_pos rfl]
  rw [e] at hp
  exact ⟨B, F, g, ds, sb, bg, ra, hl, hp⟩
theorem law_run (T : Txt c mg) (X : Exn c.K mg c CT fN) (R : BT.BadTxt P c.K mg (c.cx 1) fI cc cda) (R0 : NoT c.K mg (c.cx 0)) (eT : c.T = [(PT, qLam)]) (TB : LamX.TabB base mg cL PT) {s : Shared} {H : Hp} {a : Addr} {ns : List Int} {fd : FuncData} (F : Fun c.K "law" "law" (topS 92) (c.fa 74) fd) (hcL : fd.code = .ref cL) (e0 : Env0 P w c.K mg base callerA [] s H) (hs : SqL c.K H a (ns.map V.int)) (hTb : LamX.Tabs c.T H) (hp : Plain ns) :
    codeAny (model P w) callerA (.call (.ref (c.fa 74)) ⟨[.ref a], []⟩) (CR (L2.CX P w) [] P w H s (fun v _ => v = .bl true) E00) s := by
  have S : FnScope (slOfN 74) ["script"] (defScope (topS 92)) := ⟨rfl, rfl, rfl, by decide +kernel, rfl, by decide +kernel, by decide +kernel⟩
  have bd : Binds c.K fd ["script"] [] := F.binds (ps := ["script"]) fun _ _ _ _ _ _ us hl => match us, hl with | [_], _ => rfl
  have bb := bd s [.ref a] (e0.mod.kin.keeps fun b o e => (e0.bs b o e).1) rfl
  obtain ⟨fdB, FBg⟩ := T.fn 46 (by decide)
  obtain ⟨fdA, FA⟩ := T.fn 49 (by decide)
  obtain ⟨fdH, FH⟩ := T.fn 72 (by decide)
  have FB : FnOk P w c.K mg base (L2.CX P w) Lv (c.fa 46) fdB ["script"] (spBag c) := ok_bag (c := c) rfl FBg (T.blt _ (by decide)) (k := 19)
  obtain ⟨oc, od, kV, doc, pm, an, cdv, ct, osl, rfl, lk, hcd⟩ := F.ex
  have ecd : cdv = .ref cL := hcL
  have hr2 : Room (Lv + 2) (callerA.deeper (envOfC "law" (defScope (topS 92)) s.heap.objs.size (c.fa 74) cdv)) := ⟨rfl, by show callerA.depth + 1 + 3 * (Lv + 2) + 5 < recursionLimit; decide, by show callerA.units + 3 + 16 * (Lv + 2) + 200 < cLine; decide⟩
  have hr : Room Lv (callerA.deeper (envOfC "law" (defScope (topS 92)) s.heap.objs.size (c.fa 74) cdv)) := hr2.mono (by decide)
  have C := ctxN (CT := CT) (n := Lv) (s := s) (H := H) (E := E00) (outer := []) (cdv := cdv) (f := c.fa 74) (name := "law") T bdsN (all_ok (P := P) (w := w) (base := base) T X R R0 Lv) S.nd hr
  have mR : mg "repr" = none := T.blt _ (by decide)
  have dL := D74 P w c.K mg base (c.fa 74) cdv callerA [] s H E00 (ThN c CT Lv) Lv C xtX passL (passes_of (X := cxOf (L2.CX P w) P w c.K mg base (slOfN 74) "law" (defScope (topS 92)) (c.fa 74) cdv callerA [] s H E00) rfl) (bt_ok (Θ := ThN c CT Lv) R R0 hr) (fun i x hi => by
    intro e es ies p pos ha he hpl hg
    rcases List.mem_cons.mp hi with q | hi
    · cases q
      exact pe_callR (X := cxOf (L2.CX P w) P w c.K mg base (slOfN 74) "law" (defScope (topS 92)) (c.fa 74) cdv callerA [] s H E00) (f := c.fa 49) (fun s1 H1 us vs Q e1 r1 h1 => alike_run FA mR (by show callerA.depth + 1 < recursionLimit; decide) (by show callerA.units + 3 + 80 < cLine; decide) rfl e1 r1 rfl (spofA (m := 19) h1)) hg (T.nam 49 (by decide)) FA.kp passL ha (by decide) he hpl
    cases hi)
    (heardG_ok (Θ := ThN c CT Lv) C X rfl FH (T.nam 72 (by decide)) TB ecd eT hr2)
  have dB : PSs (cxOf (L2.CX P w) P w c.K mg base (slOfN 74) "law" (defScope (topS 92)) (c.fa 74) cdv callerA [] s H E00) (defBody (topS 92)) (tSeq (tAsg (tCall (spBag c) [] E00 (tCons (tVar 0) tNil)) (gName 1)) (dSs (ThN c CT Lv) E00 ir74)) :=
    pss_cons (ps_set (i := 1) S.nd rfl (Or.inr rfl) (pe_call FB hr rfl (T.nam 46 (by decide)) FBg.kp (bdsN 46 fdB (by decide) FBg) .nil passL (pa_cons (pv 0) pa_nil))) dL
  refine HX.run_B (b := true) (vs := [.ref a]) lk hcd S (fun _ => rfl) (by decide) e0 bb rfl (.cons rfl .nil) dB ?_
  refine ⟨_, rfl, a, ns, rfl, hs, hTb, fun F' H' b ws gr bg0 e1 e2 e3 ra => ?_⟩
  obtain ⟨g', hev⟩ := hp
  have bg : BagR c (some b) F' H' (bag0 ns) := ⟨fun a' e => by
    cases e
    exact ⟨e2, ws, e1, RvA.toB _ _ ra⟩, bg0.nt, bg0.tb⟩
  have me : MEnv c (some b) F' H' ((L2.start (slOfN 74) [.ref a]).set 1 (some (.ref b))) envL :=
    (me_no (σ := L2.start (slOfN 74) [.ref a])).set 1 ⟨.ref b, rfl, .bag rfl⟩ (fun _ z => nomatch z)
  refine evSs_ok (tabN T X Lv) ir74 E00 (some b) F' H' F' F' H' _ envL (bag0 ns) _ (by decide +kernel) (.refl F') ⟨.refl gr.inn, ⟨_, bg⟩, bg, me, fun i xs a' e _ => ?_⟩ ?_
  · exfalso
    have m := List.mem_of_getElem? e
    have : ∀ z ∈ envL, ∀ xs, z ≠ Sl.own xs := by
      intro z hz xs q
      subst q
      have hz' : (Sl.own xs) ∈ (List.replicate 22 Sl.no).set 1 (.d (.dict [])) := hz
      rcases List.mem_or_eq_of_mem_set hz' with h | h
      · cases (List.mem_replicate.mp h).2
      · cases h
    exact this _ m xs rfl
  · rw [hev]
    intro F3 H3 v _ _ rv
    cases rv
    rfl
end
end G

/-! What the top has written; the row's walk. -/
namespace G
open PySem PySem.Spec PyProof.Rows L2
abbrev rowK : PySem.W.OpenLaw := PySem.Challenge.rw_alltimes_k24_keys_of_scenes_by_other_clo
/-- the script's list and the law's table of code objects as they are tracked -/
def scr (K : PySem.W.Frag) (a PT : Addr) (vs : List Value) (ns : List Int) : Hp := fun b => if b = PT then some (.tbl #[]) else if b = a ∧ (K.lookup a).isNone = true then some (.frz { cls := .type "list", data := .seq vs.toArray } (.lst (ns.map V.int))) else none
theorem scr_some {K : PySem.W.Frag} {a PT b : Addr} {vs : List Value} {ns : List Int} {u : HO} (h : scr K a PT vs ns b = some u) : (b = PT ∧ u = .tbl #[]) ∨ (b ≠ PT ∧ b = a ∧ K.lookup a = none ∧ u = .frz { cls := .type "list", data := .seq vs.toArray } (.lst (ns.map V.int))) := by
  unfold scr at h
  by_cases p : b = PT
  · rw [if_pos p] at h
    exact .inl ⟨p, (Option.some.inj h).symm⟩
  · rw [if_neg p] at h
    by_cases q : b = a ∧ (K.lookup a).isNone = true
    · rw [if_pos q] at h
      exact .inr ⟨p, q.1, Option.isNone_iff_eq_none.mp q.2, (Option.some.inj h).symm⟩
    · rw [if_neg q] at h
      cases h
/-- the law's call by the caller, from what its def does there -/
theorem call_G {P : Program} {w : World} {K : PySem.W.Frag} {mg mb : Str → Option Value} {fl a cL PT : Addr} {q : Str} {s₁ : Shared} {vs : List Value} {ns : List Int}
    (KX : K.In s₁.heap) (hns : s₁.heap.Ns mainGlobals mg) (hb : s₁.heap.Ns builtinsNs mb) (hbb : ∀ x : Str, x ≠ "__name__" → mb x = bootBuiltins x) (hlim : s₁.heap.NoLimit) (hg : s₁.gens = #[])
    (hbm : ∃ (bm : Addr) (ob : Obj), mg "__builtins__" = some (.ref bm) ∧ bm ≠ builtinsNs ∧ s₁.heap.get? bm = some ob ∧ ob.cls = .type "module" ∧ ob.dict = some builtinsNs ∧ ob.data = .plain)
    (hP : s₁.heap.get? PT = some { cls := .none, data := .fields #[] }) (nP : K.lookup PT = none) (hC : PySem.W.codeHdIn K cL PT = true)
    (ha : s₁.heap.get? a = some { cls := .type "list", data := .seq vs.toArray }) (hi : IntsAre vs ns) (hl : ns.length ≤ sizeLine)
    (F : ∀ (base : Heap) (H : Hp), Env0 P w K mg base callerA [] s₁ H → LamX.TabB base mg cL PT → LamX.Tabs [(PT, q)] H → SqL K H a (ns.map V.int) → codeAny (model P w) callerA (.call (.ref fl) ⟨[.ref a], []⟩) (CR (L2.CX P w) [] P w H s₁ (fun v _ => v = .bl true) E00) s₁) :
    codeAny (model P w) callerA (.call (.ref fl) ⟨[.ref a], []⟩) (fun r s' => r = .ok (.ret (.bool true)) ∧ OldK s₁.heap s'.heap ∧ s'.os = s₁.os ∧ AllBare s'.gens) s₁ := by
  have rv := vals_ints hi
  have hsz := hi.length
  have aP : a ≠ PT := fun z => by
    rw [z, hP] at ha
    cases ha
  have atP : scr K a PT vs ns PT = some (.tbl #[]) := if_pos rfl
  have free : ∀ {b : Addr} {o : Obj}, s₁.heap.get? b = some o → (∀ vs n, o.data ≠ .seq vs n) → o.data ≠ .fields #[] → scr K a PT vs ns b = none := fun {b o} e h1 h2 => by
    cases q : scr K a PT vs ns b with
    | none => rfl
    | some u =>
      rcases scr_some q with ⟨e', _⟩ | ⟨_, e', _, _⟩
      · rw [e', hP] at e
        cases e
        exact (h2 rfl).elim
      · rw [e', ha] at e
        cases e
        exact (h1 _ _ rfl).elim
  have freeD : ∀ {b : Addr} {o : Obj} {es : Array DictEntry} {ep : Nat}, s₁.heap.get? b = some o → o.data = .dict es ep → scr K a PT vs ns b = none := fun {b o es ep} e d =>
    free e (fun vs n z => by rw [d] at z; cases z) (fun z => by rw [d] at z; cases z)
  have toB : ∀ {b : Addr} {m : Str → Option Value}, s₁.heap.Ns b m → (hidT s₁.heap (scr K a PT vs ns)).Ns b m := fun ⟨o, es, ep, e, d, r⟩ => ⟨o, es, ep, hidT_get e (freeD e d), d, r⟩
  have kB : K.In (hidT s₁.heap (scr K a PT vs ns)) := fun b o e => hidT_get (KX b o e) (by
    cases q : scr K a PT vs ns b with
    | none => rfl
    | some u =>
      rcases scr_some q with ⟨e', _⟩ | ⟨_, e', e2, _⟩
      · rw [e', nP] at e
        cases e
      · rw [e', e2] at e
        cases e)
  have okH : HOk P w (scr K a PT vs ns) s₁.heap := fun b u q => by
    rcases scr_some q with ⟨rfl, rfl⟩ | ⟨_, rfl, _, rfl⟩
    · exact hP
    · exact ⟨ha, by rw [List.length_map]; exact hl, vs, _, rv, ha⟩
  have sq : SqL K (scr K a PT vs ns) a (ns.map V.int) := by
    cases q : K.lookup a with
    | none => exact .inl (.inr ⟨_, (if_neg aP).trans (if_pos ⟨rfl, by rw [q]; rfl⟩)⟩)
    | some o =>
      have e := KX a o q
      rw [ha] at e
      cases e
      exact .inr ⟨_, vs.toArray, _, q, rfl, rfl, rfl, by rw [List.size_toArray, hsz]; exact hl, by simpa using rv⟩
  obtain ⟨mc, l1, l2⟩ := hlim
  have md : Mod K mg (hidT s₁.heap (scr K a PT vs ns)) := ⟨kB, toB hns, ⟨mb, toB hb, hbb⟩, ⟨mc, toB l1, l2⟩⟩
  have e0 : Env0 P w K mg (hidT s₁.heap (scr K a PT vs ns)) callerA [] s₁ (scr K a PT vs ns) := ⟨rfl, md, fun b o e => of_hidT e, Nat.le_of_eq (hidT_size _ _), trivial, fun b hb => absurd (show b ∈ ([] : List Addr) from hb) (by simp), okH, .of_eq hg⟩
  have TB : LamX.TabB (hidT s₁.heap (scr K a PT vs ns)) mg cL PT := by
    refine ⟨PySem.W.codeHd_of_K kB hC, ?_, fun z => ?_⟩
    · obtain ⟨bm, ob, b1, b2, b3, b4, b5, b6⟩ := hbm
      have nG : bm ≠ mainGlobals := fun q => by
        obtain ⟨o, es, ep, e, hd, _⟩ := hns
        rw [q, e] at b3
        cases b3
        rw [hd] at b6
        cases b6
      have nPm : bm ≠ PT := fun q => by
        rw [q, hP] at b3
        cases b3
        cases b6
      exact ⟨bm, ob, b1, b2, nG, nPm, hidT_get b3 (free b3 (fun vs n z => by rw [b6] at z; cases z) (fun z => by rw [b6] at z; cases z)), b4, b5, b6⟩
    · obtain ⟨o, es, ep, e, hd, _⟩ := hns
      rw [z, hP] at e
      cases e
      cases hd
  have hTb : LamX.Tabs [(PT, q)] (scr K a PT vs ns) := fun p hp => by
    rw [List.mem_singleton.mp hp]
    exact LamX.TabS.nil atP
  have CH := PySem.W.codeHd_of_K KX hC
  refine codeAny_mono (F _ _ e0 TB hTb sq) fun r s' q => ?_
  cases r with
  | error e =>
    obtain ⟨_, _, _, _, _, _, _, _, _, _, _, _, z⟩ := (show L2.CX P w [] (scr K a PT vs ns) s₁ E00 e s' from q)
    exact z.elim
  | ok fl' =>
    cases fl' with
    | ret u =>
      obtain ⟨v, H', os, bare, un, okH', rv', qv⟩ := q
      have qv' : v = .bl true := qv
      subst qv'
      obtain rfl : u = Value.bool true := rv'
      have key : ∀ b o, b ≠ PT → s₁.heap.get? b = some o → s'.heap.get? b = some o := fun b o nb e => by
        cases z : scr K a PT vs ns b with
        | none => exact un.keep b o e z (fun m => nomatch m) (fun m => nomatch m)
        | some u =>
          rcases scr_some z with ⟨e', _⟩ | ⟨_, _, _, rfl⟩
          · exact absurd e' nb
          · obtain ⟨e1, _⟩ := okH b _ z
            obtain ⟨e2, _⟩ := okH' b _ (un.frzs b _ _ z)
            rw [e1] at e
            cases e
            exact e2
      obtain ⟨more, hm⟩ : ∃ more : Array Value, s'.heap.get? PT = some { cls := .none, data := .fields more } := by
        obtain ⟨more, z⟩ := un.tbls PT #[] atP
        exact ⟨_, okH' PT _ z⟩
      refine ⟨rfl, ⟨fun b o e => ?_, fun b o e => ?_⟩, os, bare⟩
      · by_cases hb : b = PT
        · rw [hb] at e ⊢
          rw [hP] at e
          cases e
          exact .inr (.inl ⟨(CH.tab hP).isCodeTable, rfl, #[], more, rfl, by rw [Array.empty_append]; exact hm⟩)
        · exact .inl (key b o hb e)
      · by_cases hb : b = PT
        · rw [hb]
          exact ⟨_, hm⟩
        · exact ⟨o, key b o hb e⟩
    | next => exact q.elim
    | brk => exact q.elim
    | cont => exact q.elim
/-- all that the top has written -/
structure Top (K : PySem.W.Frag) (mg : Str → Option Value) (fl : Addr) : Prop where
  ex : ∃ (c : Cn) (CT fN fI cc cda cL PT : Addr), c.K = K ∧ c.fa 74 = fl ∧ Txt c mg ∧ Exn c.K mg c CT fN ∧ BT.BadTxt rowK.prog c.K mg (c.cx 1) fI cc cda ∧ NoT c.K mg (c.cx 0) ∧ c.T = [(PT, qLam)] ∧ PySem.W.codeHdIn K cL PT = true ∧ K.lookup PT = none ∧
    ∃ (o : Obj) (fd : FuncData) (e : Value) (dd : Option Addr) (vs : Array Value) (sl : Array (Option Value)), K.lookup fl = some o ∧ o.data = .func fd ∧ fd.code = .ref cL ∧ K.lookup cL = some ⟨e, dd, .fields vs, sl⟩ ∧ vs[11]? = some (.ref PT)
theorem walk_G {q : Program} {loose : List Str} {XP : (Str → Option Value) → Heap → Prop} {YP : World → Heap → Prop} {d : DefRec} {K : Params → PySem.W.Frag} (hdf : d.params.defaults = []) (hrec : ((recsOf q).any fun e => e.name == d.name) = true)
    (hY : ∀ (w : World) (h : Heap), YP w h → (K w.params).In h) (F : ∀ (w : World) (mg : Str → Option Value) (fl : Addr) (h : Heap), (K w.params).In h → h.Ns mainGlobals mg → mg d.name = some (.ref fl) → Top (K w.params) mg fl)
    (hp : ∀ ns : List Int, Plain ns) : PySem.W.WalkO q loose XP YP rowK.row.toRowW d [] (fun f vs => PySem.call f vs) := by
  refine Att.attach_call (l := rowK) (n := 63) rfl hdf fun w s₀ s₁ mg mb fa o pm cd doc a vs ns G Y ho hd hcd hmg hobj hints hlen hg => ?_
  have KX := hY w _ Y
  have hF := F w mg fa _ KX G.T.g hmg
  generalize K w.params = K' at KX hF
  obtain ⟨c, CT, fN, fI, cc, cda, cL, PT, eK, rfl, T, X, R, R0, eT, hC, nP, o1, fd1, e, dd, vs1, sl, k1, k2, k3, k4, k5⟩ := hF.ex
  subst eK
  have hP : s₁.heap.get? PT = some { cls := .none, data := .fields #[] } := by
    obtain ⟨dL, hm, hn1⟩ := List.any_eq_true.mp hrec
    have hn2 : dL.name = d.name := beq_iff_eq.mp hn1
    obtain ⟨a', o', fd', c', P', h1, h2, h3, h4, h5, h6⟩ := G.T.tab dL hm
    rw [hn2, hmg] at h1
    cases h1
    have g1 := KX _ _ k1
    rw [g1] at h2
    cases h2
    rw [k2] at h3
    cases h3
    rw [k3] at h4
    cases h4
    obtain ⟨⟨oc, vc, e1, _, e3, e4⟩, hP⟩ := h6
    have g2 := KX _ _ k4
    rw [g2] at e1
    cases e1
    cases e3
    rw [k5] at e4
    cases e4
    exact hP
  obtain ⟨fd, FL⟩ := T.fn 74 (by decide)
  have hcL : fd.code = .ref cL := by
    have FL' := FL
    obtain ⟨oc, od, kV, doc, pm, an, cdv, ct, osl, rfl, lk, _⟩ := FL'.ex
    rw [k1] at lk
    cases lk
    cases k2
    exact k3
  refine call_G (q := qLam) KX G.T.g G.T.b G.T.builtins G.T.nolimit hg G.T.bmain hP nP hC hobj hints (Nat.le_trans hlen (by decide)) fun base H e0 TB hTb hs => ?_
  rw [← eT] at hTb
  exact law_run T X R R0 eT TB FL hcL e0 hs hTb (hp ns)
/-- an error of the class is what «except» names -/
theorem exm_of {K : PySem.W.Frag} {S C : Addr} (h1 : PySem.W.subIn K (.ref S) (.type "BaseException") = some true) (h2 : PySem.W.isClsIn K S = true) (h3 : PySem.W.typeIn K (.ref S) = some (.type "type")) (h4 : PySem.W.subIn K (.ref C) (.ref S) = some true) :
    PySem.W.exmOne K (.ref C) (.ref S) = some true := by
  have q1 : (PySem.W.subIn K (.ref S) (.type "BaseException") == some true) = true := by rw [h1]; rfl
  have q2 : ((PySem.W.clsIn K S).isSome && PySem.W.typeIn K (.ref S) == some (.type "type")) = true := by
    rw [show (PySem.W.clsIn K S).isSome = true from h2, h3]; rfl
  unfold PySem.W.exmOne
  rw [if_pos q1]
  exact (if_pos q2).trans h4
theorem all_mk {K : PySem.W.Frag} {h : Heap} {mg : Str → Option Value} {fl : Addr} (X : K.In h) (G : h.Ns mainGlobals mg) (hfa : mg "law" = some (.ref fl))
    {f0 f1 f2 f3 f4 f5 f6 f7 f8 f9 f10 f11 f12 f13 f14 f15 f16 f17 f18 f19 f20 f21 f22 f23 f24 f25 f26 f27 f28 f29 f30 f31 f32 f33 f34 f35 f36 f37 f38 f39 f40 f41 f42 f43 f44 f45 f46 f47 f48 f49 f50 f51 f52 f53 f54 f55 f56 f57 f58 f59 f60 f61 f62 f63 f64 f65 f66 f67 f68 f69 f70 f71 f72 f73 f74 : Addr} {od0 an0 od1 an1 od2 an2 od3 an3 od4 an4 od5 an5 od6 an6 od7 an7 od8 an8 od9 an9 od10 an10 od11 an11 od12 an12 od13 an13 od14 an14 od15 an15 od16 an16 od17 an17 od18 an18 od19 an19 od20 an20 od21 an21 od22 an22 od23 an23 od24 an24 od25 an25 od26 an26 od27 an27 od28 an28 od29 an29 od30 an30 od31 an31 od32 an32 od33 an33 od34 an34 od35 an35 od36 an36 od37 an37 od38 an38 od39 an39 od40 an40 od41 an41 od42 an42 od43 an43 od44 an44 od45 an45 od46 an46 od47 an47 od48 an48 od49 an49 od50 an50 od51 an51 od52 an52 od53 an53 od54 an54 od55 an55 od56 an56 od57 an57 od58 an58 od59 an59 od60 an60 od61 an61 od62 an62 od63 an63 od64 an64 od65 an65 od66 an66 od67 an67 od68 an68 od69 an69 od70 an70 od71 an71 od72 an72 od73 an73 od74 an74 : Option Addr} {sl0 sl1 sl2 sl3 sl4 sl5 sl6 sl7 sl8 sl9 sl10 sl11 sl12 sl13 sl14 sl15 sl16 sl17 sl18 sl19 sl20 sl21 sl22 sl23 sl24 sl25 sl26 sl27 sl28 sl29 sl30 sl31 sl32 sl33 sl34 sl35 sl36 sl37 sl38 sl39 sl40 sl41 sl42 sl43 sl44 sl45 sl46 sl47 sl48 sl49 sl50 sl51 sl52 sl53 sl54 sl55 sl56 sl57 sl58 sl59 sl60 sl61 sl62 sl63 sl64 sl65 sl66 sl67 sl68 sl69 sl70 sl71 sl72 sl73 sl74 : Array (Option Value)} {oc0 kV0 dc0 pm0 cd0 ct0 oc1 kV1 dc1 pm1 cd1 ct1 oc2 kV2 dc2 pm2 cd2 ct2 oc3 kV3 dc3 pm3 cd3 ct3 oc4 kV4 dc4 pm4 cd4 ct4 oc5 kV5 dc5 pm5 cd5 ct5 oc6 kV6 dc6 pm6 cd6 ct6 oc7 kV7 dc7 pm7 cd7 ct7 oc8 kV8 dc8 pm8 cd8 ct8 oc9 kV9 dc9 pm9 cd9 ct9 oc10 kV10 dc10 pm10 cd10 ct10 oc11 kV11 dc11 pm11 cd11 ct11 oc12 kV12 dc12 pm12 cd12 ct12 oc13 kV13 dc13 pm13 cd13 ct13 oc14 kV14 dc14 pm14 cd14 ct14 oc15 kV15 dc15 pm15 cd15 ct15 oc16 kV16 dc16 pm16 cd16 ct16 oc17 kV17 dc17 pm17 cd17 ct17 oc18 kV18 dc18 pm18 cd18 ct18 oc19 kV19 dc19 pm19 cd19 ct19 oc20 kV20 dc20 pm20 cd20 ct20 oc21 kV21 dc21 pm21 cd21 ct21 oc22 kV22 dc22 pm22 cd22 ct22 oc23 kV23 dc23 pm23 cd23 ct23 oc24 kV24 dc24 pm24 cd24 ct24 oc25 kV25 dc25 pm25 cd25 ct25 oc26 kV26 dc26 pm26 cd26 ct26 oc27 kV27 dc27 pm27 cd27 ct27 oc28 kV28 dc28 pm28 cd28 ct28 oc29 kV29 dc29 pm29 cd29 ct29 oc30 kV30 dc30 pm30 cd30 ct30 oc31 kV31 dc31 pm31 cd31 ct31 oc32 kV32 dc32 pm32 cd32 ct32 oc33 kV33 dc33 pm33 cd33 ct33 oc34 kV34 dc34 pm34 cd34 ct34 oc35 kV35 dc35 pm35 cd35 ct35 oc36 kV36 dc36 pm36 cd36 ct36 oc37 kV37 dc37 pm37 cd37 ct37 oc38 kV38 dc38 pm38 cd38 ct38 oc39 kV39 dc39 pm39 cd39 ct39 oc40 kV40 dc40 pm40 cd40 ct40 oc41 kV41 dc41 pm41 cd41 ct41 oc42 kV42 dc42 pm42 cd42 ct42 oc43 kV43 dc43 pm43 cd43 ct43 oc44 kV44 dc44 pm44 cd44 ct44 oc45 kV45 dc45 pm45 cd45 ct45 oc46 kV46 dc46 pm46 cd46 ct46 oc47 kV47 dc47 pm47 cd47 ct47 oc48 kV48 dc48 pm48 cd48 ct48 oc49 kV49 dc49 pm49 cd49 ct49 oc50 kV50 dc50 pm50 cd50 ct50 oc51 kV51 dc51 pm51 cd51 ct51 oc52 kV52 dc52 pm52 cd52 ct52 oc53 kV53 dc53 pm53 cd53 ct53 oc54 kV54 dc54 pm54 cd54 ct54 oc55 kV55 dc55 pm55 cd55 ct55 oc56 kV56 dc56 pm56 cd56 ct56 oc57 kV57 dc57 pm57 cd57 ct57 oc58 kV58 dc58 pm58 cd58 ct58 oc59 kV59 dc59 pm59 cd59 ct59 oc60 kV60 dc60 pm60 cd60 ct60 oc61 kV61 dc61 pm61 cd61 ct61 oc62 kV62 dc62 pm62 cd62 ct62 oc63 kV63 dc63 pm63 cd63 ct63 oc64 kV64 dc64 pm64 cd64 ct64 oc65 kV65 dc65 pm65 cd65 ct65 oc66 kV66 dc66 pm66 cd66 ct66 oc67 kV67 dc67 pm67 cd67 ct67 oc68 kV68 dc68 pm68 cd68 ct68 oc69 kV69 dc69 pm69 cd69 ct69 oc70 kV70 dc70 pm70 cd70 ct70 oc71 kV71 dc71 pm71 cd71 ct71 oc72 kV72 dc72 pm72 cd72 ct72 oc73 kV73 dc73 pm73 cd73 ct73 oc74 kV74 dc74 pm74 ct74 : Value} {cL PT : Addr}
    (a0 : PySem.W.nsIn K mainGlobals "is_number" = some (some (.ref f0))) (l0 : K.lookup f0 = some ⟨oc0, od0, .func (PySem.W.fnOf "is_number" "is_number" (defArgs (topS 5)) (defBody (topS 5)) (defScope (topS 5)) .none kV0 dc0 pm0 an0 cd0 ct0), sl0⟩) (c0 : PySem.W.codeIn K cd0 "is_number" = true) (k0 : PySem.W.keepIn K (.ref f0) = true)
    (a1 : PySem.W.nsIn K mainGlobals "gcd" = some (some (.ref f1))) (l1 : K.lookup f1 = some ⟨oc1, od1, .func (PySem.W.fnOf "gcd" "gcd" (defArgs (topS 7)) (defBody (topS 7)) (defScope (topS 7)) .none kV1 dc1 pm1 an1 cd1 ct1), sl1⟩) (c1 : PySem.W.codeIn K cd1 "gcd" = true) (k1 : PySem.W.keepIn K (.ref f1) = true)
    (a2 : PySem.W.nsIn K mainGlobals "fraction" = some (some (.ref f2))) (l2 : K.lookup f2 = some ⟨oc2, od2, .func (PySem.W.fnOf "fraction" "fraction" (defArgs (topS 8)) (defBody (topS 8)) (defScope (topS 8)) .none kV2 dc2 pm2 an2 cd2 ct2), sl2⟩) (c2 : PySem.W.codeIn K cd2 "fraction" = true) (k2 : PySem.W.keepIn K (.ref f2) = true)
    (a3 : PySem.W.nsIn K mainGlobals "whole" = some (some (.ref f3))) (l3 : K.lookup f3 = some ⟨oc3, od3, .func (PySem.W.fnOf "whole" "whole" (defArgs (topS 9)) (defBody (topS 9)) (defScope (topS 9)) .none kV3 dc3 pm3 an3 cd3 ct3), sl3⟩) (c3 : PySem.W.codeIn K cd3 "whole" = true) (k3 : PySem.W.keepIn K (.ref f3) = true)
    (a4 : PySem.W.nsIn K mainGlobals "plus" = some (some (.ref f4))) (l4 : K.lookup f4 = some ⟨oc4, od4, .func (PySem.W.fnOf "plus" "plus" (defArgs (topS 10)) (defBody (topS 10)) (defScope (topS 10)) .none kV4 dc4 pm4 an4 cd4 ct4), sl4⟩) (c4 : PySem.W.codeIn K cd4 "plus" = true) (k4 : PySem.W.keepIn K (.ref f4) = true)
    (a5 : PySem.W.nsIn K mainGlobals "negative" = some (some (.ref f5))) (l5 : K.lookup f5 = some ⟨oc5, od5, .func (PySem.W.fnOf "negative" "negative" (defArgs (topS 11)) (defBody (topS 11)) (defScope (topS 11)) .none kV5 dc5 pm5 an5 cd5 ct5), sl5⟩) (c5 : PySem.W.codeIn K cd5 "negative" = true) (k5 : PySem.W.keepIn K (.ref f5) = true)
    (a6 : PySem.W.nsIn K mainGlobals "less" = some (some (.ref f6))) (l6 : K.lookup f6 = some ⟨oc6, od6, .func (PySem.W.fnOf "less" "less" (defArgs (topS 12)) (defBody (topS 12)) (defScope (topS 12)) .none kV6 dc6 pm6 an6 cd6 ct6), sl6⟩) (c6 : PySem.W.codeIn K cd6 "less" = true) (k6 : PySem.W.keepIn K (.ref f6) = true)
    (a7 : PySem.W.nsIn K mainGlobals "times" = some (some (.ref f7))) (l7 : K.lookup f7 = some ⟨oc7, od7, .func (PySem.W.fnOf "times" "times" (defArgs (topS 13)) (defBody (topS 13)) (defScope (topS 13)) .none kV7 dc7 pm7 an7 cd7 ct7), sl7⟩) (c7 : PySem.W.codeIn K cd7 "times" = true) (k7 : PySem.W.keepIn K (.ref f7) = true)
    (a8 : PySem.W.nsIn K mainGlobals "over" = some (some (.ref f8))) (l8 : K.lookup f8 = some ⟨oc8, od8, .func (PySem.W.fnOf "over" "over" (defArgs (topS 14)) (defBody (topS 14)) (defScope (topS 14)) .none kV8 dc8 pm8 an8 cd8 ct8), sl8⟩) (c8 : PySem.W.codeIn K cd8 "over" = true) (k8 : PySem.W.keepIn K (.ref f8) = true)
    (a9 : PySem.W.nsIn K mainGlobals "sign" = some (some (.ref f9))) (l9 : K.lookup f9 = some ⟨oc9, od9, .func (PySem.W.fnOf "sign" "sign" (defArgs (topS 15)) (defBody (topS 15)) (defScope (topS 15)) .none kV9 dc9 pm9 an9 cd9 ct9), sl9⟩) (c9 : PySem.W.codeIn K cd9 "sign" = true) (k9 : PySem.W.keepIn K (.ref f9) = true)
    (a10 : PySem.W.nsIn K mainGlobals "compare" = some (some (.ref f10))) (l10 : K.lookup f10 = some ⟨oc10, od10, .func (PySem.W.fnOf "compare" "compare" (defArgs (topS 16)) (defBody (topS 16)) (defScope (topS 16)) .none kV10 dc10 pm10 an10 cd10 ct10), sl10⟩) (c10 : PySem.W.codeIn K cd10 "compare" = true) (k10 : PySem.W.keepIn K (.ref f10) = true)
    (a11 : PySem.W.nsIn K mainGlobals "floor_of" = some (some (.ref f11))) (l11 : K.lookup f11 = some ⟨oc11, od11, .func (PySem.W.fnOf "floor_of" "floor_of" (defArgs (topS 17)) (defBody (topS 17)) (defScope (topS 17)) .none kV11 dc11 pm11 an11 cd11 ct11), sl11⟩) (c11 : PySem.W.codeIn K cd11 "floor_of" = true) (k11 : PySem.W.keepIn K (.ref f11) = true)
    (a12 : PySem.W.nsIn K mainGlobals "slopes_of" = some (some (.ref f12))) (l12 : K.lookup f12 = some ⟨oc12, od12, .func (PySem.W.fnOf "slopes_of" "slopes_of" (defArgs (topS 19)) (defBody (topS 19)) (defScope (topS 19)) .none kV12 dc12 pm12 an12 cd12 ct12), sl12⟩) (c12 : PySem.W.codeIn K cd12 "slopes_of" = true) (k12 : PySem.W.keepIn K (.ref f12) = true)
    (a13 : PySem.W.nsIn K mainGlobals "piece_at" = some (some (.ref f13))) (l13 : K.lookup f13 = some ⟨oc13, od13, .func (PySem.W.fnOf "piece_at" "piece_at" (defArgs (topS 20)) (defBody (topS 20)) (defScope (topS 20)) .none kV13 dc13 pm13 an13 cd13 ct13), sl13⟩) (c13 : PySem.W.codeIn K cd13 "piece_at" = true) (k13 : PySem.W.keepIn K (.ref f13) = true)
    (a14 : PySem.W.nsIn K mainGlobals "time_of" = some (some (.ref f14))) (l14 : K.lookup f14 = some ⟨oc14, od14, .func (PySem.W.fnOf "time_of" "time_of" (defArgs (topS 21)) (defBody (topS 21)) (defScope (topS 21)) .none kV14 dc14 pm14 an14 cd14 ct14), sl14⟩) (c14 : PySem.W.codeIn K cd14 "time_of" = true) (k14 : PySem.W.keepIn K (.ref f14) = true)
    (a15 : PySem.W.nsIn K mainGlobals "slope_at" = some (some (.ref f15))) (l15 : K.lookup f15 = some ⟨oc15, od15, .func (PySem.W.fnOf "slope_at" "slope_at" (defArgs (topS 22)) (defBody (topS 22)) (defScope (topS 22)) .none kV15 dc15 pm15 an15 cd15 ct15), sl15⟩) (c15 : PySem.W.codeIn K cd15 "slope_at" = true) (k15 : PySem.W.keepIn K (.ref f15) = true)
    (a16 : PySem.W.nsIn K mainGlobals "least_clock" = some (some (.ref f16))) (l16 : K.lookup f16 = some ⟨oc16, od16, .func (PySem.W.fnOf "least_clock" "least_clock" (defArgs (topS 23)) (defBody (topS 23)) (defScope (topS 23)) .none kV16 dc16 pm16 an16 cd16 ct16), sl16⟩) (c16 : PySem.W.codeIn K cd16 "least_clock" = true) (k16 : PySem.W.keepIn K (.ref f16) = true)
    (a17 : PySem.W.nsIn K mainGlobals "is_straight" = some (some (.ref f17))) (l17 : K.lookup f17 = some ⟨oc17, od17, .func (PySem.W.fnOf "is_straight" "is_straight" (defArgs (topS 24)) (defBody (topS 24)) (defScope (topS 24)) .none kV17 dc17 pm17 an17 cd17 ct17), sl17⟩) (c17 : PySem.W.codeIn K cd17 "is_straight" = true) (k17 : PySem.W.keepIn K (.ref f17) = true)
    (a18 : PySem.W.nsIn K mainGlobals "poly_of" = some (some (.ref f18))) (l18 : K.lookup f18 = some ⟨oc18, od18, .func (PySem.W.fnOf "poly_of" "poly_of" (defArgs (topS 27)) (defBody (topS 27)) (defScope (topS 27)) .none kV18 dc18 pm18 an18 cd18 ct18), sl18⟩) (c18 : PySem.W.codeIn K cd18 "poly_of" = true) (k18 : PySem.W.keepIn K (.ref f18) = true)
    (a19 : PySem.W.nsIn K mainGlobals "constant_poly" = some (some (.ref f19))) (l19 : K.lookup f19 = some ⟨oc19, od19, .func (PySem.W.fnOf "constant_poly" "constant_poly" (defArgs (topS 28)) (defBody (topS 28)) (defScope (topS 28)) .none kV19 dc19 pm19 an19 cd19 ct19), sl19⟩) (c19 : PySem.W.codeIn K cd19 "constant_poly" = true) (k19 : PySem.W.keepIn K (.ref f19) = true)
    (a20 : PySem.W.nsIn K mainGlobals "degree" = some (some (.ref f20))) (l20 : K.lookup f20 = some ⟨oc20, od20, .func (PySem.W.fnOf "degree" "degree" (defArgs (topS 29)) (defBody (topS 29)) (defScope (topS 29)) .none kV20 dc20 pm20 an20 cd20 ct20), sl20⟩) (c20 : PySem.W.codeIn K cd20 "degree" = true) (k20 : PySem.W.keepIn K (.ref f20) = true)
    (a21 : PySem.W.nsIn K mainGlobals "value_polys" = some (some (.ref f21))) (l21 : K.lookup f21 = some ⟨oc21, od21, .func (PySem.W.fnOf "value" "value" (defArgs (topS 30)) (defBody (topS 30)) (defScope (topS 30)) .none kV21 dc21 pm21 an21 cd21 ct21), sl21⟩) (c21 : PySem.W.codeIn K cd21 "value" = true) (k21 : PySem.W.keepIn K (.ref f21) = true)
    (a22 : PySem.W.nsIn K mainGlobals "add" = some (some (.ref f22))) (l22 : K.lookup f22 = some ⟨oc22, od22, .func (PySem.W.fnOf "add" "add" (defArgs (topS 32)) (defBody (topS 32)) (defScope (topS 32)) .none kV22 dc22 pm22 an22 cd22 ct22), sl22⟩) (c22 : PySem.W.codeIn K cd22 "add" = true) (k22 : PySem.W.keepIn K (.ref f22) = true)
    (a23 : PySem.W.nsIn K mainGlobals "scaled" = some (some (.ref f23))) (l23 : K.lookup f23 = some ⟨oc23, od23, .func (PySem.W.fnOf "scaled" "scaled" (defArgs (topS 33)) (defBody (topS 33)) (defScope (topS 33)) .none kV23 dc23 pm23 an23 cd23 ct23), sl23⟩) (c23 : PySem.W.codeIn K cd23 "scaled" = true) (k23 : PySem.W.keepIn K (.ref f23) = true)
    (a24 : PySem.W.nsIn K mainGlobals "check_degree" = some (some (.ref f24))) (l24 : K.lookup f24 = some ⟨oc24, od24, .func (PySem.W.fnOf "check_degree" "check_degree" (defArgs (topS 34)) (defBody (topS 34)) (defScope (topS 34)) .none kV24 dc24 pm24 an24 cd24 ct24), sl24⟩) (c24 : PySem.W.codeIn K cd24 "check_degree" = true) (k24 : PySem.W.keepIn K (.ref f24) = true)
    (a25 : PySem.W.nsIn K mainGlobals "multiply" = some (some (.ref f25))) (l25 : K.lookup f25 = some ⟨oc25, od25, .func (PySem.W.fnOf "multiply" "multiply" (defArgs (topS 35)) (defBody (topS 35)) (defScope (topS 35)) .none kV25 dc25 pm25 an25 cd25 ct25), sl25⟩) (c25 : PySem.W.codeIn K cd25 "multiply" = true) (k25 : PySem.W.keepIn K (.ref f25) = true)
    (a26 : PySem.W.nsIn K mainGlobals "put_in" = some (some (.ref f26))) (l26 : K.lookup f26 = some ⟨oc26, od26, .func (PySem.W.fnOf "put_in" "put_in" (defArgs (topS 36)) (defBody (topS 36)) (defScope (topS 36)) .none kV26 dc26 pm26 an26 cd26 ct26), sl26⟩) (c26 : PySem.W.codeIn K cd26 "put_in" = true) (k26 : PySem.W.keepIn K (.ref f26) = true)
    (a27 : PySem.W.nsIn K mainGlobals "led" = some (some (.ref f27))) (l27 : K.lookup f27 = some ⟨oc27, od27, .func (PySem.W.fnOf "led" "led" (defArgs (topS 37)) (defBody (topS 37)) (defScope (topS 37)) .none kV27 dc27 pm27 an27 cd27 ct27), sl27⟩) (c27 : PySem.W.codeIn K cd27 "led" = true) (k27 : PySem.W.keepIn K (.ref f27) = true)
    (a28 : PySem.W.nsIn K mainGlobals "growth" = some (some (.ref f28))) (l28 : K.lookup f28 = some ⟨oc28, od28, .func (PySem.W.fnOf "growth" "growth" (defArgs (topS 38)) (defBody (topS 38)) (defScope (topS 38)) .none kV28 dc28 pm28 an28 cd28 ct28), sl28⟩) (c28 : PySem.W.codeIn K cd28 "growth" = true) (k28 : PySem.W.keepIn K (.ref f28) = true)
    (a29 : PySem.W.nsIn K mainGlobals "constant" = some (some (.ref f29))) (l29 : K.lookup f29 = some ⟨oc29, od29, .func (PySem.W.fnOf "constant" "constant" (defArgs (topS 44)) (defBody (topS 44)) (defScope (topS 44)) .none kV29 dc29 pm29 an29 cd29 ct29), sl29⟩) (c29 : PySem.W.codeIn K cd29 "constant" = true) (k29 : PySem.W.keepIn K (.ref f29) = true)
    (a30 : PySem.W.nsIn K mainGlobals "share" = some (some (.ref f30))) (l30 : K.lookup f30 = some ⟨oc30, od30, .func (PySem.W.fnOf "share" "share" (defArgs (topS 45)) (defBody (topS 45)) (defScope (topS 45)) .none kV30 dc30 pm30 an30 cd30 ct30), sl30⟩) (c30 : PySem.W.codeIn K cd30 "share" = true) (k30 : PySem.W.keepIn K (.ref f30) = true)
    (a31 : PySem.W.nsIn K mainGlobals "curve" = some (some (.ref f31))) (l31 : K.lookup f31 = some ⟨oc31, od31, .func (PySem.W.fnOf "curve" "curve" (defArgs (topS 46)) (defBody (topS 46)) (defScope (topS 46)) .none kV31 dc31 pm31 an31 cd31 ct31), sl31⟩) (c31 : PySem.W.codeIn K cd31 "curve" = true) (k31 : PySem.W.keepIn K (.ref f31) = true)
    (a32 : PySem.W.nsIn K mainGlobals "trimmed" = some (some (.ref f32))) (l32 : K.lookup f32 = some ⟨oc32, od32, .func (PySem.W.fnOf "trimmed" "trimmed" (defArgs (topS 47)) (defBody (topS 47)) (defScope (topS 47)) .none kV32 dc32 pm32 an32 cd32 ct32), sl32⟩) (c32 : PySem.W.codeIn K cd32 "trimmed" = true) (k32 : PySem.W.keepIn K (.ref f32) = true)
    (a33 : PySem.W.nsIn K mainGlobals "between" = some (some (.ref f33))) (l33 : K.lookup f33 = some ⟨oc33, od33, .func (PySem.W.fnOf "between" "between" (defArgs (topS 48)) (defBody (topS 48)) (defScope (topS 48)) .none kV33 dc33 pm33 an33 cd33 ct33), sl33⟩) (c33 : PySem.W.codeIn K cd33 "between" = true) (k33 : PySem.W.keepIn K (.ref f33) = true)
    (a34 : PySem.W.nsIn K mainGlobals "segment" = some (some (.ref f34))) (l34 : K.lookup f34 = some ⟨oc34, od34, .func (PySem.W.fnOf "segment" "segment" (defArgs (topS 49)) (defBody (topS 49)) (defScope (topS 49)) .none kV34 dc34 pm34 an34 cd34 ct34), sl34⟩) (c34 : PySem.W.codeIn K cd34 "segment" = true) (k34 : PySem.W.keepIn K (.ref f34) = true)
    (a35 : PySem.W.nsIn K mainGlobals "round_of_track" = some (some (.ref f35))) (l35 : K.lookup f35 = some ⟨oc35, od35, .func (PySem.W.fnOf "round_of_track" "round_of_track" (defArgs (topS 50)) (defBody (topS 50)) (defScope (topS 50)) .none kV35 dc35 pm35 an35 cd35 ct35), sl35⟩) (c35 : PySem.W.codeIn K cd35 "round_of_track" = true) (k35 : PySem.W.keepIn K (.ref f35) = true)
    (a36 : PySem.W.nsIn K mainGlobals "folded_time" = some (some (.ref f36))) (l36 : K.lookup f36 = some ⟨oc36, od36, .func (PySem.W.fnOf "folded_time" "folded_time" (defArgs (topS 51)) (defBody (topS 51)) (defScope (topS 51)) .none kV36 dc36 pm36 an36 cd36 ct36), sl36⟩) (c36 : PySem.W.codeIn K cd36 "folded_time" = true) (k36 : PySem.W.keepIn K (.ref f36) = true)
    (a37 : PySem.W.nsIn K mainGlobals "value_of" = some (some (.ref f37))) (l37 : K.lookup f37 = some ⟨oc37, od37, .func (PySem.W.fnOf "value_of" "value_of" (defArgs (topS 52)) (defBody (topS 52)) (defScope (topS 52)) .none kV37 dc37 pm37 an37 cd37 ct37), sl37⟩) (c37 : PySem.W.codeIn K cd37 "value_of" = true) (k37 : PySem.W.keepIn K (.ref f37) = true)
    (a38 : PySem.W.nsIn K mainGlobals "value_tracks" = some (some (.ref f38))) (l38 : K.lookup f38 = some ⟨oc38, od38, .func (PySem.W.fnOf "value" "value" (defArgs (topS 53)) (defBody (topS 53)) (defScope (topS 53)) .none kV38 dc38 pm38 an38 cd38 ct38), sl38⟩) (c38 : PySem.W.codeIn K cd38 "value" = true) (k38 : PySem.W.keepIn K (.ref f38) = true)
    (a39 : PySem.W.nsIn K mainGlobals "marks_between" = some (some (.ref f39))) (l39 : K.lookup f39 = some ⟨oc39, od39, .func (PySem.W.fnOf "marks_between" "marks_between" (defArgs (topS 56)) (defBody (topS 56)) (defScope (topS 56)) .none kV39 dc39 pm39 an39 cd39 ct39), sl39⟩) (c39 : PySem.W.codeIn K cd39 "marks_between" = true) (k39 : PySem.W.keepIn K (.ref f39) = true)
    (a40 : PySem.W.nsIn K mainGlobals "slopes_between" = some (some (.ref f40))) (l40 : K.lookup f40 = some ⟨oc40, od40, .func (PySem.W.fnOf "slopes_between" "slopes_between" (defArgs (topS 57)) (defBody (topS 57)) (defScope (topS 57)) .none kV40 dc40 pm40 an40 cd40 ct40), sl40⟩) (c40 : PySem.W.codeIn K cd40 "slopes_between" = true) (k40 : PySem.W.keepIn K (.ref f40) = true)
    (a41 : PySem.W.nsIn K mainGlobals "curve_between" = some (some (.ref f41))) (l41 : K.lookup f41 = some ⟨oc41, od41, .func (PySem.W.fnOf "curve_between" "curve_between" (defArgs (topS 58)) (defBody (topS 58)) (defScope (topS 58)) .none kV41 dc41 pm41 an41 cd41 ct41), sl41⟩) (c41 : PySem.W.codeIn K cd41 "curve_between" = true) (k41 : PySem.W.keepIn K (.ref f41) = true)
    (a42 : PySem.W.nsIn K mainGlobals "keys_between" = some (some (.ref f42))) (l42 : K.lookup f42 = some ⟨oc42, od42, .func (PySem.W.fnOf "keys_between" "keys_between" (defArgs (topS 59)) (defBody (topS 59)) (defScope (topS 59)) .none kV42 dc42 pm42 an42 cd42 ct42), sl42⟩) (c42 : PySem.W.codeIn K cd42 "keys_between" = true) (k42 : PySem.W.keepIn K (.ref f42) = true)
    (a43 : PySem.W.nsIn K mainGlobals "last_key" = some (some (.ref f43))) (l43 : K.lookup f43 = some ⟨oc43, od43, .func (PySem.W.fnOf "last_key" "last_key" (defArgs (topS 60)) (defBody (topS 60)) (defScope (topS 60)) .none kV43 dc43 pm43 an43 cd43 ct43), sl43⟩) (c43 : PySem.W.codeIn K cd43 "last_key" = true) (k43 : PySem.W.keepIn K (.ref f43) = true)
    (a44 : PySem.W.nsIn K mainGlobals "retimed_track" = some (some (.ref f44))) (l44 : K.lookup f44 = some ⟨oc44, od44, .func (PySem.W.fnOf "retimed_track" "retimed_track" (defArgs (topS 61)) (defBody (topS 61)) (defScope (topS 61)) .none kV44 dc44 pm44 an44 cd44 ct44), sl44⟩) (c44 : PySem.W.codeIn K cd44 "retimed_track" = true) (k44 : PySem.W.keepIn K (.ref f44) = true)
    (a45 : PySem.W.nsIn K mainGlobals "retimed" = some (some (.ref f45))) (l45 : K.lookup f45 = some ⟨oc45, od45, .func (PySem.W.fnOf "retimed" "retimed" (defArgs (topS 62)) (defBody (topS 62)) (defScope (topS 62)) .none kV45 dc45 pm45 an45 cd45 ct45), sl45⟩) (c45 : PySem.W.codeIn K cd45 "retimed" = true) (k45 : PySem.W.keepIn K (.ref f45) = true)
    (a46 : PySem.W.nsIn K mainGlobals "_law_bag" = some (some (.ref f46))) (l46 : K.lookup f46 = some ⟨oc46, od46, .func (PySem.W.fnOf "_law_bag" "_law_bag" (defArgs (topS 64)) (defBody (topS 64)) (defScope (topS 64)) .none kV46 dc46 pm46 an46 cd46 ct46), sl46⟩) (c46 : PySem.W.codeIn K cd46 "_law_bag" = true) (k46 : PySem.W.keepIn K (.ref f46) = true)
    (a47 : PySem.W.nsIn K mainGlobals "_law_take" = some (some (.ref f47))) (l47 : K.lookup f47 = some ⟨oc47, od47, .func (PySem.W.fnOf "_law_take" "_law_take" (defArgs (topS 65)) (defBody (topS 65)) (defScope (topS 65)) .none kV47 dc47 pm47 an47 cd47 ct47), sl47⟩) (c47 : PySem.W.codeIn K cd47 "_law_take" = true) (k47 : PySem.W.keepIn K (.ref f47) = true)
    (a48 : PySem.W.nsIn K mainGlobals "_law_some" = some (some (.ref f48))) (l48 : K.lookup f48 = some ⟨oc48, od48, .func (PySem.W.fnOf "_law_some" "_law_some" (defArgs (topS 66)) (defBody (topS 66)) (defScope (topS 66)) .none kV48 dc48 pm48 an48 cd48 ct48), sl48⟩) (c48 : PySem.W.codeIn K cd48 "_law_some" = true) (k48 : PySem.W.keepIn K (.ref f48) = true)
    (a49 : PySem.W.nsIn K mainGlobals "_law_alike" = some (some (.ref f49))) (l49 : K.lookup f49 = some ⟨oc49, od49, .func (PySem.W.fnOf "_law_alike" "_law_alike" (defArgs (topS 67)) (defBody (topS 67)) (defScope (topS 67)) .none kV49 dc49 pm49 an49 cd49 ct49), sl49⟩) (c49 : PySem.W.codeIn K cd49 "_law_alike" = true) (k49 : PySem.W.keepIn K (.ref f49) = true)
    (a50 : PySem.W.nsIn K mainGlobals "_law_gcd" = some (some (.ref f50))) (l50 : K.lookup f50 = some ⟨oc50, od50, .func (PySem.W.fnOf "_law_gcd" "_law_gcd" (defArgs (topS 68)) (defBody (topS 68)) (defScope (topS 68)) .none kV50 dc50 pm50 an50 cd50 ct50), sl50⟩) (c50 : PySem.W.codeIn K cd50 "_law_gcd" = true) (k50 : PySem.W.keepIn K (.ref f50) = true)
    (a51 : PySem.W.nsIn K mainGlobals "_law_fraction" = some (some (.ref f51))) (l51 : K.lookup f51 = some ⟨oc51, od51, .func (PySem.W.fnOf "_law_fraction" "_law_fraction" (defArgs (topS 69)) (defBody (topS 69)) (defScope (topS 69)) .none kV51 dc51 pm51 an51 cd51 ct51), sl51⟩) (c51 : PySem.W.codeIn K cd51 "_law_fraction" = true) (k51 : PySem.W.keepIn K (.ref f51) = true)
    (a52 : PySem.W.nsIn K mainGlobals "_law_plus" = some (some (.ref f52))) (l52 : K.lookup f52 = some ⟨oc52, od52, .func (PySem.W.fnOf "_law_plus" "_law_plus" (defArgs (topS 70)) (defBody (topS 70)) (defScope (topS 70)) .none kV52 dc52 pm52 an52 cd52 ct52), sl52⟩) (c52 : PySem.W.codeIn K cd52 "_law_plus" = true) (k52 : PySem.W.keepIn K (.ref f52) = true)
    (a53 : PySem.W.nsIn K mainGlobals "_law_times" = some (some (.ref f53))) (l53 : K.lookup f53 = some ⟨oc53, od53, .func (PySem.W.fnOf "_law_times" "_law_times" (defArgs (topS 71)) (defBody (topS 71)) (defScope (topS 71)) .none kV53 dc53 pm53 an53 cd53 ct53), sl53⟩) (c53 : PySem.W.codeIn K cd53 "_law_times" = true) (k53 : PySem.W.keepIn K (.ref f53) = true)
    (a54 : PySem.W.nsIn K mainGlobals "_law_less" = some (some (.ref f54))) (l54 : K.lookup f54 = some ⟨oc54, od54, .func (PySem.W.fnOf "_law_less" "_law_less" (defArgs (topS 72)) (defBody (topS 72)) (defScope (topS 72)) .none kV54 dc54 pm54 an54 cd54 ct54), sl54⟩) (c54 : PySem.W.codeIn K cd54 "_law_less" = true) (k54 : PySem.W.keepIn K (.ref f54) = true)
    (a55 : PySem.W.nsIn K mainGlobals "_law_over" = some (some (.ref f55))) (l55 : K.lookup f55 = some ⟨oc55, od55, .func (PySem.W.fnOf "_law_over" "_law_over" (defArgs (topS 73)) (defBody (topS 73)) (defScope (topS 73)) .none kV55 dc55 pm55 an55 cd55 ct55), sl55⟩) (c55 : PySem.W.codeIn K cd55 "_law_over" = true) (k55 : PySem.W.keepIn K (.ref f55) = true)
    (a56 : PySem.W.nsIn K mainGlobals "_law_compare" = some (some (.ref f56))) (l56 : K.lookup f56 = some ⟨oc56, od56, .func (PySem.W.fnOf "_law_compare" "_law_compare" (defArgs (topS 74)) (defBody (topS 74)) (defScope (topS 74)) .none kV56 dc56 pm56 an56 cd56 ct56), sl56⟩) (c56 : PySem.W.codeIn K cd56 "_law_compare" = true) (k56 : PySem.W.keepIn K (.ref f56) = true)
    (a57 : PySem.W.nsIn K mainGlobals "_law_sum" = some (some (.ref f57))) (l57 : K.lookup f57 = some ⟨oc57, od57, .func (PySem.W.fnOf "_law_sum" "_law_sum" (defArgs (topS 75)) (defBody (topS 75)) (defScope (topS 75)) .none kV57 dc57 pm57 an57 cd57 ct57), sl57⟩) (c57 : PySem.W.codeIn K cd57 "_law_sum" = true) (k57 : PySem.W.keepIn K (.ref f57) = true)
    (a58 : PySem.W.nsIn K mainGlobals "_law_some_fraction" = some (some (.ref f58))) (l58 : K.lookup f58 = some ⟨oc58, od58, .func (PySem.W.fnOf "_law_some_fraction" "_law_some_fraction" (defArgs (topS 76)) (defBody (topS 76)) (defScope (topS 76)) .none kV58 dc58 pm58 an58 cd58 ct58), sl58⟩) (c58 : PySem.W.codeIn K cd58 "_law_some_fraction" = true) (k58 : PySem.W.keepIn K (.ref f58) = true)
    (a59 : PySem.W.nsIn K mainGlobals "_law_poly" = some (some (.ref f59))) (l59 : K.lookup f59 = some ⟨oc59, od59, .func (PySem.W.fnOf "_law_poly" "_law_poly" (defArgs (topS 77)) (defBody (topS 77)) (defScope (topS 77)) .none kV59 dc59 pm59 an59 cd59 ct59), sl59⟩) (c59 : PySem.W.codeIn K cd59 "_law_poly" = true) (k59 : PySem.W.keepIn K (.ref f59) = true)
    (a60 : PySem.W.nsIn K mainGlobals "_law_add" = some (some (.ref f60))) (l60 : K.lookup f60 = some ⟨oc60, od60, .func (PySem.W.fnOf "_law_add" "_law_add" (defArgs (topS 78)) (defBody (topS 78)) (defScope (topS 78)) .none kV60 dc60 pm60 an60 cd60 ct60), sl60⟩) (c60 : PySem.W.codeIn K cd60 "_law_add" = true) (k60 : PySem.W.keepIn K (.ref f60) = true)
    (a61 : PySem.W.nsIn K mainGlobals "_law_multiply" = some (some (.ref f61))) (l61 : K.lookup f61 = some ⟨oc61, od61, .func (PySem.W.fnOf "_law_multiply" "_law_multiply" (defArgs (topS 79)) (defBody (topS 79)) (defScope (topS 79)) .none kV61 dc61 pm61 an61 cd61 ct61), sl61⟩) (c61 : PySem.W.codeIn K cd61 "_law_multiply" = true) (k61 : PySem.W.keepIn K (.ref f61) = true)
    (a62 : PySem.W.nsIn K mainGlobals "_law_value" = some (some (.ref f62))) (l62 : K.lookup f62 = some ⟨oc62, od62, .func (PySem.W.fnOf "_law_value" "_law_value" (defArgs (topS 80)) (defBody (topS 80)) (defScope (topS 80)) .none kV62 dc62 pm62 an62 cd62 ct62), sl62⟩) (c62 : PySem.W.codeIn K cd62 "_law_value" = true) (k62 : PySem.W.keepIn K (.ref f62) = true)
    (a63 : PySem.W.nsIn K mainGlobals "_law_growth" = some (some (.ref f63))) (l63 : K.lookup f63 = some ⟨oc63, od63, .func (PySem.W.fnOf "_law_growth" "_law_growth" (defArgs (topS 81)) (defBody (topS 81)) (defScope (topS 81)) .none kV63 dc63 pm63 an63 cd63 ct63), sl63⟩) (c63 : PySem.W.codeIn K cd63 "_law_growth" = true) (k63 : PySem.W.keepIn K (.ref f63) = true)
    (a64 : PySem.W.nsIn K mainGlobals "_law_led" = some (some (.ref f64))) (l64 : K.lookup f64 = some ⟨oc64, od64, .func (PySem.W.fnOf "_law_led" "_law_led" (defArgs (topS 82)) (defBody (topS 82)) (defScope (topS 82)) .none kV64 dc64 pm64 an64 cd64 ct64), sl64⟩) (c64 : PySem.W.codeIn K cd64 "_law_led" = true) (k64 : PySem.W.keepIn K (.ref f64) = true)
    (a65 : PySem.W.nsIn K mainGlobals "_law_segment" = some (some (.ref f65))) (l65 : K.lookup f65 = some ⟨oc65, od65, .func (PySem.W.fnOf "_law_segment" "_law_segment" (defArgs (topS 83)) (defBody (topS 83)) (defScope (topS 83)) .none kV65 dc65 pm65 an65 cd65 ct65), sl65⟩) (c65 : PySem.W.codeIn K cd65 "_law_segment" = true) (k65 : PySem.W.keepIn K (.ref f65) = true)
    (a66 : PySem.W.nsIn K mainGlobals "_law_track" = some (some (.ref f66))) (l66 : K.lookup f66 = some ⟨oc66, od66, .func (PySem.W.fnOf "_law_track" "_law_track" (defArgs (topS 84)) (defBody (topS 84)) (defScope (topS 84)) .none kV66 dc66 pm66 an66 cd66 ct66), sl66⟩) (c66 : PySem.W.codeIn K cd66 "_law_track" = true) (k66 : PySem.W.keepIn K (.ref f66) = true)
    (a67 : PySem.W.nsIn K mainGlobals "_law_still" = some (some (.ref f67))) (l67 : K.lookup f67 = some ⟨oc67, od67, .func (PySem.W.fnOf "_law_still" "_law_still" (defArgs (topS 85)) (defBody (topS 85)) (defScope (topS 85)) .none kV67 dc67 pm67 an67 cd67 ct67), sl67⟩) (c67 : PySem.W.codeIn K cd67 "_law_still" = true) (k67 : PySem.W.keepIn K (.ref f67) = true)
    (a68 : PySem.W.nsIn K mainGlobals "_law_clock" = some (some (.ref f68))) (l68 : K.lookup f68 = some ⟨oc68, od68, .func (PySem.W.fnOf "_law_clock" "_law_clock" (defArgs (topS 86)) (defBody (topS 86)) (defScope (topS 86)) .none kV68 dc68 pm68 an68 cd68 ct68), sl68⟩) (c68 : PySem.W.codeIn K cd68 "_law_clock" = true) (k68 : PySem.W.keepIn K (.ref f68) = true)
    (a69 : PySem.W.nsIn K mainGlobals "_law_clock_slopes" = some (some (.ref f69))) (l69 : K.lookup f69 = some ⟨oc69, od69, .func (PySem.W.fnOf "_law_clock_slopes" "_law_clock_slopes" (defArgs (topS 87)) (defBody (topS 87)) (defScope (topS 87)) .none kV69 dc69 pm69 an69 cd69 ct69), sl69⟩) (c69 : PySem.W.codeIn K cd69 "_law_clock_slopes" = true) (k69 : PySem.W.keepIn K (.ref f69) = true)
    (a70 : PySem.W.nsIn K mainGlobals "_law_shows" = some (some (.ref f70))) (l70 : K.lookup f70 = some ⟨oc70, od70, .func (PySem.W.fnOf "_law_shows" "_law_shows" (defArgs (topS 88)) (defBody (topS 88)) (defScope (topS 88)) .none kV70 dc70 pm70 an70 cd70 ct70), sl70⟩) (c70 : PySem.W.codeIn K cd70 "_law_shows" = true) (k70 : PySem.W.keepIn K (.ref f70) = true)
    (a71 : PySem.W.nsIn K mainGlobals "_law_least_clock" = some (some (.ref f71))) (l71 : K.lookup f71 = some ⟨oc71, od71, .func (PySem.W.fnOf "_law_least_clock" "_law_least_clock" (defArgs (topS 89)) (defBody (topS 89)) (defScope (topS 89)) .none kV71 dc71 pm71 an71 cd71 ct71), sl71⟩) (c71 : PySem.W.codeIn K cd71 "_law_least_clock" = true) (k71 : PySem.W.keepIn K (.ref f71) = true)
    (a72 : PySem.W.nsIn K mainGlobals "_law_heard" = some (some (.ref f72))) (l72 : K.lookup f72 = some ⟨oc72, od72, .func (PySem.W.fnOf "_law_heard" "_law_heard" (defArgs (topS 90)) (defBody (topS 90)) (defScope (topS 90)) .none kV72 dc72 pm72 an72 cd72 ct72), sl72⟩) (c72 : PySem.W.codeIn K cd72 "_law_heard" = true) (k72 : PySem.W.keepIn K (.ref f72) = true)
    (a73 : PySem.W.nsIn K mainGlobals "_law_own_track" = some (some (.ref f73))) (l73 : K.lookup f73 = some ⟨oc73, od73, .func (PySem.W.fnOf "_law_own_track" "_law_own_track" (defArgs (topS 91)) (defBody (topS 91)) (defScope (topS 91)) .none kV73 dc73 pm73 an73 cd73 ct73), sl73⟩) (c73 : PySem.W.codeIn K cd73 "_law_own_track" = true) (k73 : PySem.W.keepIn K (.ref f73) = true)
    (a74 : PySem.W.nsIn K mainGlobals "law" = some (some (.ref f74))) (l74 : K.lookup f74 = some ⟨oc74, od74, .func (PySem.W.fnOf "law" "law" (defArgs (topS 92)) (defBody (topS 92)) (defScope (topS 92)) .none kV74 dc74 pm74 an74 (.ref cL) ct74), sl74⟩) (c74 : PySem.W.codeIn K (.ref cL) "law" = true) (k74 : PySem.W.keepIn K (.ref f74) = true)
    (z0 : PySem.W.nsIn K mainGlobals "abs" = some none)
    (z1 : PySem.W.nsIn K mainGlobals "len" = some none)
    (z2 : PySem.W.nsIn K mainGlobals "int" = some none)
    (z3 : PySem.W.nsIn K mainGlobals "str" = some none)
    (z4 : PySem.W.nsIn K mainGlobals "tuple" = some none)
    (z5 : PySem.W.nsIn K mainGlobals "list" = some none)
    (z6 : PySem.W.nsIn K mainGlobals "all" = some none)
    (z7 : PySem.W.nsIn K mainGlobals "any" = some none)
    (z8 : PySem.W.nsIn K mainGlobals "max" = some none)
    (z9 : PySem.W.nsIn K mainGlobals "min" = some none)
    (z10 : PySem.W.nsIn K mainGlobals "isinstance" = some none)
    (z11 : PySem.W.nsIn K mainGlobals "range" = some none)
    (z12 : PySem.W.nsIn K mainGlobals "enumerate" = some none)
    (z13 : PySem.W.nsIn K mainGlobals "zip" = some none)
    (z14 : PySem.W.nsIn K mainGlobals "bool" = some none)
    (z15 : PySem.W.nsIn K mainGlobals "repr" = some none)
    (z16 : PySem.W.nsIn K mainGlobals "sum" = some none)
    (z17 : PySem.W.nsIn K mainGlobals "sorted" = some none)
    {gc1 gc2 ge3 ge4 gc4 : Addr} {go1 go2 go3 go4 go5 : Option Addr} {gs1 gs2 gs3 gs4 gs5 : Array (Option Value)} {gn1 gn2 gn3 gn4 gn5 : Nat} {tk0 tk3 ta1 tb1 ta2 tb2 ta3 tb3 ta4 tb4 : Tok}
    (y0 : PySem.W.nsIn K mainGlobals "MOST_DEGREE" = some (some (.int 24 tk0))) (y1 : PySem.W.nsIn K mainGlobals "ZERO" = some (some (.ref gc1))) (y2 : PySem.W.nsIn K mainGlobals "ONE" = some (some (.ref gc2))) (y3 : PySem.W.nsIn K mainGlobals "MOST_KEYS" = some (some (.int 12 tk3))) (y4 : PySem.W.nsIn K mainGlobals "EASE" = some (some (.ref gc4)))
    (g1 : K.lookup gc1 = some ⟨.type "tuple", go1, .seq #[.int 0 ta1, .int 1 tb1] gn1, gs1⟩) (g2 : K.lookup gc2 = some ⟨.type "tuple", go2, .seq #[.int 1 ta2, .int 1 tb2] gn2, gs2⟩) (g5 : K.lookup gc4 = some ⟨.type "tuple", go5, .seq #[.ref gc1, .ref gc1, .ref ge3, .ref ge4] gn5, gs5⟩)
    (g3 : K.lookup ge3 = some ⟨.type "tuple", go3, .seq #[.int 3 ta3, .int 1 tb3] gn3, gs3⟩) (g4 : K.lookup ge4 = some ⟨.type "tuple", go4, .seq #[.int (-2) ta4, .int 1 tb4] gn4, gs4⟩)
    {CB fI cc cda : Addr} {nm q : Str} {N : Addr} {bs bm : List Value} {sn : List Str} {sub : List Value} {ab : Bool} {col : Option Bool} {dd : Option Addr} {m0 m1 m2 m3 m5 : Option Value}
    {oc : Value} {odI anI : Option Addr} {kV doc pm ct : Value} {osl : Array (Option Value)} {ccl cl : Value} {cdd cld : Option Addr} {cvs : Array Value} {ccs csl : Array (Option Value)} {file : Str} {tf : Tok}
    (b1 : PySem.W.nsIn K mainGlobals "TooLarge" = some (some (.ref CB))) (b2 : PySem.W.nsIn K mainGlobals "super" = some none)
    (b3 : K.lookup CB = some (excClassObj nm q CB N bs bm true sn sub ab col dd m0 m1 m2 m3 m5 "ValueError.__new__")) (b4 : HandSPX.refsVE bm = true)
    (b5 : PySem.W.findIn K (.ref CB) "__setattr__" = some (some (.builtin "object.__setattr__"))) (b6 : PySem.W.findIn K (.ref CB) "__getattribute__" = some (some (.builtin "BaseException.__getattribute__"))) (b7 : PySem.W.findIn K (.ref CB) "__getattr__" = some none)
    (b8 : PySem.W.findIn K (.ref CB) "what" = some none) (b9 : PySem.W.findIn K (.ref CB) "limit" = some none) (b10 : PySem.W.findIn K (.ref CB) "__init__" = some (some (.ref fI))) (b11 : PySem.W.typeIn K (.ref fI) = some (.type "function"))
    (b12 : PySem.W.keepIn K (.ref CB) = true) (b13 : PySem.W.subIn K (.ref CB) (.type "BaseException") = some true) (b14 : PySem.W.typeIn K (.ref CB) = some (.type "type")) (b15 : PySem.W.hasDictIn K CB = true)
    (b16 : PySem.W.isClsIn K CB = true) (b17 : PySem.W.subIn K (.ref CB) (.ref CB) = some true)
    (b18 : K.lookup fI = some ⟨oc, odI, .func (PySem.W.ksFn "__init__" "TooLarge.__init__" (defArgs BT.stI) (defBody BT.stI) (defScope BT.stI) .none kV doc pm anI (.ref cda) ct cc), osl⟩) (b19 : PySem.W.codeIn K (.ref cda) "TooLarge.__init__" = true)
    (b20 : K.lookup cda = some ⟨ccl, cdd, .fields cvs, ccs⟩) (b21 : cvs[2]? = some (.str file tf)) (b22 : ((rowK.prog.main.file : Str) == file) = true)
    (b23 : K.lookup cc = some ⟨cl, cld, .cell (some (.ref CB)), csl⟩) (b24 : PySem.W.mroIn K CB (.ref CB) = some true) (b25 : PySem.W.nsIn K PySem.cStatics "thirdparty.any" = some none)
    (b26 : PySem.W.ks_superIn K CB CB "__init__" = some (some (.builtin "ValueError.__init__"))) (b27 : PySem.W.subIn K (.ref CB) (.type "ValueError") = some true)
    {qe : Value} {qd : Option Addr} {qv : Array Value} {qs : Array (Option Value)}
    (q1 : K.lookup cL = some ⟨qe, qd, .fields qv, qs⟩) (q2 : qv[11]? = some (.ref PT)) (q3 : PySem.W.codeHdIn K cL PT = true) (q4 : K.lookup PT = none)
    {CT C0 fN : Addr} {odN anN : Option Addr} {kVN dcN pmN cdN ctN ocN : Value} {slN : Array (Option Value)} {o0 o1 : Obj} {tn0 tn1 : Tok}
    (e1 : PySem.W.nsIn K mainGlobals "TimeError" = some (some (.ref CT))) (e2 : PySem.W.nsIn K mainGlobals "Nothing" = some (some (.ref C0)))
    (e3 : PySem.W.subIn K (.ref CT) (.type "BaseException") = some true) (e4 : PySem.W.isClsIn K CT = true) (e5 : PySem.W.typeIn K (.ref CT) = some (.type "type")) (e6 : PySem.W.subIn K (.ref C0) (.ref CT) = some true) (e7 : PySem.W.subIn K (.ref CB) (.ref CT) = some true)
    (e8 : PySem.W.keepIn K (.ref C0) = true) (e9 : PySem.W.subIn K (.ref C0) (.type "BaseException") = some true) (e10 : PySem.W.typeIn K (.ref C0) = some (.type "type"))
    (e11 : PySem.W.excIn K C0 [.type "ValueError", .type "Exception", .type "BaseException", .type "object"] "ValueError.__new__" = true)
    (e12 : K.lookup fN = some ⟨ocN, odN, .func (PySem.W.fnOf "class_name" "TimeError.class_name" (defArgs (inClass (topS 1) 0)) (defBody (inClass (topS 1) 0)) (defScope (inClass (topS 1) 0)) .none kVN dcN pmN anN cdN ctN), slN⟩) (e13 : PySem.W.codeIn K cdN "TimeError.class_name" = true) (e14 : PySem.W.keepIn K (.ref fN) = true) (e15 : PySem.W.typeIn K (.ref fN) = some (.type "function"))
    (n1 : PySem.W.findIn K (.ref C0) "__getattribute__" = some (some (.builtin "BaseException.__getattribute__"))) (n2 : PySem.W.findIn K (.ref C0) "__getattr__" = some none) (n3 : PySem.W.findIn K (.ref C0) "class_name" = some (some (.ref fN)))
    (n4 : (PySem.W.clsIn K C0).isSome = true) (n5 : PySem.W.findIn K (.ref C0) "__class__" = some (some (.builtin "object.__class__"))) (n6 : PySem.W.specialIn K (.builtin "object.__class__") "__get__" = some (some (.builtin "getset_descriptor.__get__"))) (n7 : PySem.W.takesIn K (.builtin "object.__class__") = some true)
    (n8 : PySem.W.mroIn K C0 (.type "object") = some true) (n9 : PySem.W.readsIn K C0 (.type "type") = true) (n10 : PySem.W.findCls K (.ref C0) (.type "type") "__name__" = some (.get (.builtin "getset_descriptor.__get__") (.builtin "type.__name__") (.ref C0) (.type "type")))
    (n11 : K.lookup C0 = some o0) (n12 : (o0.slots[2]?).join = some (.str "Nothing" tn0))
    (p3 : PySem.W.findIn K (.ref CB) "class_name" = some (some (.ref fN))) (p4 : (PySem.W.clsIn K CB).isSome = true) (p5 : PySem.W.findIn K (.ref CB) "__class__" = some (some (.builtin "object.__class__")))
    (p8 : PySem.W.mroIn K CB (.type "object") = some true) (p9 : PySem.W.readsIn K CB (.type "type") = true) (p10 : PySem.W.findCls K (.ref CB) (.type "type") "__name__" = some (.get (.builtin "getset_descriptor.__get__") (.builtin "type.__name__") (.ref CB) (.type "type")))
    (p11 : K.lookup CB = some o1) (p12 : (o1.slots[2]?).join = some (.str "TooLarge" tn1))
    : Top K mg fl := by
  have e := hfa.symm.trans (PySem.W.mg_of X G a74)
  cases e
  have rvF : ∀ {a : Addr} {od : Option Addr} {sl : Array (Option Value)} {m : Nat} {i j : Int} {t u : Tok} {B : Option Addr} {F : Hp} {c : Cn}, c.K = K → K.lookup a = some ⟨.type "tuple", od, .seq #[.int i t, .int j u] m, sl⟩ → Rv c B F (.ref a) (.tuple [.int i, .int j]) := fun {a od sl m i j t u B F c} ec e => by
    subst ec
    exact .tup (xs := [.int i, .int j]) (.inr ⟨_, #[.int i t, .int j u], m, e, rfl, rfl, by show 2 ≤ sizeLine; decide, .cons ⟨_, rfl⟩ (.cons ⟨_, rfl⟩ .nil)⟩) (.cons (.int i) (.cons (.int j) .nil))
  refine ⟨⟨K, fun i => ([f0, f1, f2, f3, f4, f5, f6, f7, f8, f9, f10, f11, f12, f13, f14, f15, f16, f17, f18, f19, f20, f21, f22, f23, f24, f25, f26, f27, f28, f29, f30, f31, f32, f33, f34, f35, f36, f37, f38, f39, f40, f41, f42, f43, f44, f45, f46, f47, f48, f49, f50, f51, f52, f53, f54, f55, f56, f57, f58, f59, f60, f61, f62, f63, f64, f65, f66, f67, f68, f69, f70, f71, f72, f73, fl] : List Addr).getD i 0, fun i => if i = 0 then C0 else CB, [(PT, qLam)], fun i => ([.int 24, .ref gc1, .ref gc2, .int 12, .ref gc4] : List V).getD i .non⟩, CT, fN, fI, cc, cda, cL, PT, rfl, rfl, ⟨fun i hi => ?_, fun i hi => ?_, fun x hx => ?_, fun k x hk => ?_, fun k d hk B F => ?_⟩, ?_, ?_, ?_, rfl, q3, q4, _, _, _, _, _, _, l74, rfl, rfl, q1, q2⟩
  · match i, hi with
    | 0, _ => exact ⟨_, fun_mk (st := topS 5) l0 c0 k0⟩
    | 1, _ => exact ⟨_, fun_mk (st := topS 7) l1 c1 k1⟩
    | 2, _ => exact ⟨_, fun_mk (st := topS 8) l2 c2 k2⟩
    | 3, _ => exact ⟨_, fun_mk (st := topS 9) l3 c3 k3⟩
    | 4, _ => exact ⟨_, fun_mk (st := topS 10) l4 c4 k4⟩
    | 5, _ => exact ⟨_, fun_mk (st := topS 11) l5 c5 k5⟩
    | 6, _ => exact ⟨_, fun_mk (st := topS 12) l6 c6 k6⟩
    | 7, _ => exact ⟨_, fun_mk (st := topS 13) l7 c7 k7⟩
    | 8, _ => exact ⟨_, fun_mk (st := topS 14) l8 c8 k8⟩
    | 9, _ => exact ⟨_, fun_mk (st := topS 15) l9 c9 k9⟩
    | 10, _ => exact ⟨_, fun_mk (st := topS 16) l10 c10 k10⟩
    | 11, _ => exact ⟨_, fun_mk (st := topS 17) l11 c11 k11⟩
    | 12, _ => exact ⟨_, fun_mk (st := topS 19) l12 c12 k12⟩
    | 13, _ => exact ⟨_, fun_mk (st := topS 20) l13 c13 k13⟩
    | 14, _ => exact ⟨_, fun_mk (st := topS 21) l14 c14 k14⟩
    | 15, _ => exact ⟨_, fun_mk (st := topS 22) l15 c15 k15⟩
    | 16, _ => exact ⟨_, fun_mk (st := topS 23) l16 c16 k16⟩
    | 17, _ => exact ⟨_, fun_mk (st := topS 24) l17 c17 k17⟩
    | 18, _ => exact ⟨_, fun_mk (st := topS 27) l18 c18 k18⟩
    | 19, _ => exact ⟨_, fun_mk (st := topS 28) l19 c19 k19⟩
    | 20, _ => exact ⟨_, fun_mk (st := topS 29) l20 c20 k20⟩
    | 21, _ => exact ⟨_, fun_mk (st := topS 30) l21 c21 k21⟩
    | 22, _ => exact ⟨_, fun_mk (st := topS 32) l22 c22 k22⟩
    | 23, _ => exact ⟨_, fun_mk (st := topS 33) l23 c23 k23⟩
    | 24, _ => exact ⟨_, fun_mk (st := topS 34) l24 c24 k24⟩
    | 25, _ => exact ⟨_, fun_mk (st := topS 35) l25 c25 k25⟩
    | 26, _ => exact ⟨_, fun_mk (st := topS 36) l26 c26 k26⟩
    | 27, _ => exact ⟨_, fun_mk (st := topS 37) l27 c27 k27⟩
    | 28, _ => exact ⟨_, fun_mk (st := topS 38) l28 c28 k28⟩
    | 29, _ => exact ⟨_, fun_mk (st := topS 44) l29 c29 k29⟩
    | 30, _ => exact ⟨_, fun_mk (st := topS 45) l30 c30 k30⟩
    | 31, _ => exact ⟨_, fun_mk (st := topS 46) l31 c31 k31⟩
    | 32, _ => exact ⟨_, fun_mk (st := topS 47) l32 c32 k32⟩
    | 33, _ => exact ⟨_, fun_mk (st := topS 48) l33 c33 k33⟩
    | 34, _ => exact ⟨_, fun_mk (st := topS 49) l34 c34 k34⟩
    | 35, _ => exact ⟨_, fun_mk (st := topS 50) l35 c35 k35⟩
    | 36, _ => exact ⟨_, fun_mk (st := topS 51) l36 c36 k36⟩
    | 37, _ => exact ⟨_, fun_mk (st := topS 52) l37 c37 k37⟩
    | 38, _ => exact ⟨_, fun_mk (st := topS 53) l38 c38 k38⟩
    | 39, _ => exact ⟨_, fun_mk (st := topS 56) l39 c39 k39⟩
    | 40, _ => exact ⟨_, fun_mk (st := topS 57) l40 c40 k40⟩
    | 41, _ => exact ⟨_, fun_mk (st := topS 58) l41 c41 k41⟩
    | 42, _ => exact ⟨_, fun_mk (st := topS 59) l42 c42 k42⟩
    | 43, _ => exact ⟨_, fun_mk (st := topS 60) l43 c43 k43⟩
    | 44, _ => exact ⟨_, fun_mk (st := topS 61) l44 c44 k44⟩
    | 45, _ => exact ⟨_, fun_mk (st := topS 62) l45 c45 k45⟩
    | 46, _ => exact ⟨_, fun_mk (st := topS 64) l46 c46 k46⟩
    | 47, _ => exact ⟨_, fun_mk (st := topS 65) l47 c47 k47⟩
    | 48, _ => exact ⟨_, fun_mk (st := topS 66) l48 c48 k48⟩
    | 49, _ => exact ⟨_, fun_mk (st := topS 67) l49 c49 k49⟩
    | 50, _ => exact ⟨_, fun_mk (st := topS 68) l50 c50 k50⟩
    | 51, _ => exact ⟨_, fun_mk (st := topS 69) l51 c51 k51⟩
    | 52, _ => exact ⟨_, fun_mk (st := topS 70) l52 c52 k52⟩
    | 53, _ => exact ⟨_, fun_mk (st := topS 71) l53 c53 k53⟩
    | 54, _ => exact ⟨_, fun_mk (st := topS 72) l54 c54 k54⟩
    | 55, _ => exact ⟨_, fun_mk (st := topS 73) l55 c55 k55⟩
    | 56, _ => exact ⟨_, fun_mk (st := topS 74) l56 c56 k56⟩
    | 57, _ => exact ⟨_, fun_mk (st := topS 75) l57 c57 k57⟩
    | 58, _ => exact ⟨_, fun_mk (st := topS 76) l58 c58 k58⟩
    | 59, _ => exact ⟨_, fun_mk (st := topS 77) l59 c59 k59⟩
    | 60, _ => exact ⟨_, fun_mk (st := topS 78) l60 c60 k60⟩
    | 61, _ => exact ⟨_, fun_mk (st := topS 79) l61 c61 k61⟩
    | 62, _ => exact ⟨_, fun_mk (st := topS 80) l62 c62 k62⟩
    | 63, _ => exact ⟨_, fun_mk (st := topS 81) l63 c63 k63⟩
    | 64, _ => exact ⟨_, fun_mk (st := topS 82) l64 c64 k64⟩
    | 65, _ => exact ⟨_, fun_mk (st := topS 83) l65 c65 k65⟩
    | 66, _ => exact ⟨_, fun_mk (st := topS 84) l66 c66 k66⟩
    | 67, _ => exact ⟨_, fun_mk (st := topS 85) l67 c67 k67⟩
    | 68, _ => exact ⟨_, fun_mk (st := topS 86) l68 c68 k68⟩
    | 69, _ => exact ⟨_, fun_mk (st := topS 87) l69 c69 k69⟩
    | 70, _ => exact ⟨_, fun_mk (st := topS 88) l70 c70 k70⟩
    | 71, _ => exact ⟨_, fun_mk (st := topS 89) l71 c71 k71⟩
    | 72, _ => exact ⟨_, fun_mk (st := topS 90) l72 c72 k72⟩
    | 73, _ => exact ⟨_, fun_mk (st := topS 91) l73 c73 k73⟩
    | 74, _ => exact ⟨_, fun_mk (st := topS 92) l74 c74 k74⟩
    | m + 75, h => omega
  · match i, hi with
    | 0, _ => exact PySem.W.mg_of X G a0
    | 1, _ => exact PySem.W.mg_of X G a1
    | 2, _ => exact PySem.W.mg_of X G a2
    | 3, _ => exact PySem.W.mg_of X G a3
    | 4, _ => exact PySem.W.mg_of X G a4
    | 5, _ => exact PySem.W.mg_of X G a5
    | 6, _ => exact PySem.W.mg_of X G a6
    | 7, _ => exact PySem.W.mg_of X G a7
    | 8, _ => exact PySem.W.mg_of X G a8
    | 9, _ => exact PySem.W.mg_of X G a9
    | 10, _ => exact PySem.W.mg_of X G a10
    | 11, _ => exact PySem.W.mg_of X G a11
    | 12, _ => exact PySem.W.mg_of X G a12
    | 13, _ => exact PySem.W.mg_of X G a13
    | 14, _ => exact PySem.W.mg_of X G a14
    | 15, _ => exact PySem.W.mg_of X G a15
    | 16, _ => exact PySem.W.mg_of X G a16
    | 17, _ => exact PySem.W.mg_of X G a17
    | 18, _ => exact PySem.W.mg_of X G a18
    | 19, _ => exact PySem.W.mg_of X G a19
    | 20, _ => exact PySem.W.mg_of X G a20
    | 21, _ => exact PySem.W.mg_of X G a21
    | 22, _ => exact PySem.W.mg_of X G a22
    | 23, _ => exact PySem.W.mg_of X G a23
    | 24, _ => exact PySem.W.mg_of X G a24
    | 25, _ => exact PySem.W.mg_of X G a25
    | 26, _ => exact PySem.W.mg_of X G a26
    | 27, _ => exact PySem.W.mg_of X G a27
    | 28, _ => exact PySem.W.mg_of X G a28
    | 29, _ => exact PySem.W.mg_of X G a29
    | 30, _ => exact PySem.W.mg_of X G a30
    | 31, _ => exact PySem.W.mg_of X G a31
    | 32, _ => exact PySem.W.mg_of X G a32
    | 33, _ => exact PySem.W.mg_of X G a33
    | 34, _ => exact PySem.W.mg_of X G a34
    | 35, _ => exact PySem.W.mg_of X G a35
    | 36, _ => exact PySem.W.mg_of X G a36
    | 37, _ => exact PySem.W.mg_of X G a37
    | 38, _ => exact PySem.W.mg_of X G a38
    | 39, _ => exact PySem.W.mg_of X G a39
    | 40, _ => exact PySem.W.mg_of X G a40
    | 41, _ => exact PySem.W.mg_of X G a41
    | 42, _ => exact PySem.W.mg_of X G a42
    | 43, _ => exact PySem.W.mg_of X G a43
    | 44, _ => exact PySem.W.mg_of X G a44
    | 45, _ => exact PySem.W.mg_of X G a45
    | 46, _ => exact PySem.W.mg_of X G a46
    | 47, _ => exact PySem.W.mg_of X G a47
    | 48, _ => exact PySem.W.mg_of X G a48
    | 49, _ => exact PySem.W.mg_of X G a49
    | 50, _ => exact PySem.W.mg_of X G a50
    | 51, _ => exact PySem.W.mg_of X G a51
    | 52, _ => exact PySem.W.mg_of X G a52
    | 53, _ => exact PySem.W.mg_of X G a53
    | 54, _ => exact PySem.W.mg_of X G a54
    | 55, _ => exact PySem.W.mg_of X G a55
    | 56, _ => exact PySem.W.mg_of X G a56
    | 57, _ => exact PySem.W.mg_of X G a57
    | 58, _ => exact PySem.W.mg_of X G a58
    | 59, _ => exact PySem.W.mg_of X G a59
    | 60, _ => exact PySem.W.mg_of X G a60
    | 61, _ => exact PySem.W.mg_of X G a61
    | 62, _ => exact PySem.W.mg_of X G a62
    | 63, _ => exact PySem.W.mg_of X G a63
    | 64, _ => exact PySem.W.mg_of X G a64
    | 65, _ => exact PySem.W.mg_of X G a65
    | 66, _ => exact PySem.W.mg_of X G a66
    | 67, _ => exact PySem.W.mg_of X G a67
    | 68, _ => exact PySem.W.mg_of X G a68
    | 69, _ => exact PySem.W.mg_of X G a69
    | 70, _ => exact PySem.W.mg_of X G a70
    | 71, _ => exact PySem.W.mg_of X G a71
    | 72, _ => exact PySem.W.mg_of X G a72
    | 73, _ => exact PySem.W.mg_of X G a73
    | 74, _ => exact PySem.W.mg_of X G a74
    | m + 75, h => omega
  · rcases List.mem_cons.mp hx with rfl | hx
    · exact PySem.W.mg_none_of X G z0
    rcases List.mem_cons.mp hx with rfl | hx
    · exact PySem.W.mg_none_of X G z1
    rcases List.mem_cons.mp hx with rfl | hx
    · exact PySem.W.mg_none_of X G z2
    rcases List.mem_cons.mp hx with rfl | hx
    · exact PySem.W.mg_none_of X G z3
    rcases List.mem_cons.mp hx with rfl | hx
    · exact PySem.W.mg_none_of X G z4
    rcases List.mem_cons.mp hx with rfl | hx
    · exact PySem.W.mg_none_of X G z5
    rcases List.mem_cons.mp hx with rfl | hx
    · exact PySem.W.mg_none_of X G z6
    rcases List.mem_cons.mp hx with rfl | hx
    · exact PySem.W.mg_none_of X G z7
    rcases List.mem_cons.mp hx with rfl | hx
    · exact PySem.W.mg_none_of X G z8
    rcases List.mem_cons.mp hx with rfl | hx
    · exact PySem.W.mg_none_of X G z9
    rcases List.mem_cons.mp hx with rfl | hx
    · exact PySem.W.mg_none_of X G z10
    rcases List.mem_cons.mp hx with rfl | hx
    · exact PySem.W.mg_none_of X G z11
    rcases List.mem_cons.mp hx with rfl | hx
    · exact PySem.W.mg_none_of X G z12
    rcases List.mem_cons.mp hx with rfl | hx
    · exact PySem.W.mg_none_of X G z13
    rcases List.mem_cons.mp hx with rfl | hx
    · exact PySem.W.mg_none_of X G z14
    rcases List.mem_cons.mp hx with rfl | hx
    · exact PySem.W.mg_none_of X G z15
    rcases List.mem_cons.mp hx with rfl | hx
    · exact PySem.W.mg_none_of X G z16
    rcases List.mem_cons.mp hx with rfl | hx
    · exact PySem.W.mg_none_of X G z17
    cases hx
  · match k, hk with
    | 0, hk => cases hk; exact ⟨_, PySem.W.mg_of X G y0, ⟨_, rfl⟩⟩
    | 1, hk => cases hk; exact ⟨_, PySem.W.mg_of X G y1, rfl⟩
    | 2, hk => cases hk; exact ⟨_, PySem.W.mg_of X G y2, rfl⟩
    | 3, hk => cases hk; exact ⟨_, PySem.W.mg_of X G y3, ⟨_, rfl⟩⟩
    | 4, hk => cases hk; exact ⟨_, PySem.W.mg_of X G y4, rfl⟩
    | m + 5, hk => cases hk
  · match k, hk with
    | 0, hk => cases hk; exact .int 24
    | 1, hk => cases hk; exact rvF rfl g1
    | 2, hk => cases hk; exact rvF rfl g2
    | 3, hk => cases hk; exact .int 12
    | 4, hk => cases hk; exact .tup (xs := [.ref gc1, .ref gc1, .ref ge3, .ref ge4]) (.inr ⟨_, #[.ref gc1, .ref gc1, .ref ge3, .ref ge4], _, g5, rfl, rfl, by show 4 ≤ sizeLine; decide, .cons rfl (.cons rfl (.cons rfl (.cons rfl .nil)))⟩) (.cons (rvF rfl g1) (.cons (rvF rfl g1) (.cons (rvF rfl g3) (.cons (rvF rfl g4) .nil))))
    | m + 5, hk => cases hk
  · exact { gT := PySem.W.mg_of X G e1, x0 := exm_of e3 e4 e5 e6, x1 := exm_of e3 e4 e5 e7, n0 := ⟨n1, n2, n3, e15, e14, e9, n4, n5, n6, n7, n8, n9, n10, e10, ⟨_, _, n11, n12⟩⟩, n1 := ⟨b6, b7, p3, e15, e14, b13, p4, p5, n6, n7, p8, p9, p10, b14, ⟨_, _, p11, p12⟩⟩, f1 := ⟨b6, b7, b13, b15, b8⟩, cn := ⟨⟨_, fun_mk (st := inClass (topS 1) 0) e12 e13 e14⟩, ⟨rfl, rfl, rfl, by decide +kernel, rfl, by decide +kernel, by decide +kernel⟩, fun _ _ _ _ _ _ us hl => match us, hl with | [_], _ => rfl, ⟨_, _, _, _, _, _, rfl⟩⟩ }
  · exact { gC := PySem.W.mg_of X G b1, gS := PySem.W.mg_none_of X G b2, cls := ⟨nm, q, N, bs, _, sn, sub, ab, col, dd, m0, m1, m2, m3, m5, b3, b4⟩, sa := b5, ga := b6, gg := b7, noL := b8, noC := b9, iC := b10, tC := b11, kC := b12, exC := b13, tyC := b14, hdC := b15, te := exm_of b13 b16 b14 b17, fn := ⟨_, _, _, _, _, _, _, _, b18, b19⟩, code := ⟨_, _, _, _, _, _, b20, b21, b22⟩, cell := ⟨_, _, _, b23⟩, top := by decide +kernel, mro := b24, opq := b25, sup := b26, sub := b27 }
  · exact ⟨PySem.W.mg_of X G e2, ⟨_, _, _, PySem.F.excBase_ValueError, e11⟩, e8, e9, e10⟩
end G

/-! Fractions as rational numbers: sizes, the greatest divisor. -/
namespace Fq
/-- so many bits -/
def Sz (n : Nat) (q : Rat) : Prop := q.num.natAbs < 2 ^ n ∧ q.den < 2 ^ n
theorem Sz.mono {n m : Nat} {q : Rat} (h : Sz n q) (l : n ≤ m) : Sz m q :=
  ⟨Nat.lt_of_lt_of_le h.1 (Nat.pow_le_pow_right (by decide) l), Nat.lt_of_lt_of_le h.2 (Nat.pow_le_pow_right (by decide) l)⟩
theorem den_pos' (q : Rat) : 0 < q.den := Nat.pos_of_ne_zero q.den_nz
theorem num_divInt_le (a : Int) {b : Int} (hb : b ≠ 0) : (Rat.divInt a b).num.natAbs ≤ a.natAbs := by
  rw [Rat.num_divInt, Int.natAbs_ediv_of_dvd, Int.natAbs_mul]
  · have : b.sign.natAbs = 1 := by
      rcases Int.lt_trichotomy b 0 with h | h | h
      · rw [Int.sign_eq_neg_one_of_neg h]; rfl
      · exact absurd h hb
      · rw [Int.sign_eq_one_of_pos h]; rfl
    rw [this, Nat.one_mul]
    exact Nat.div_le_self _ _
  · exact Int.dvd_mul_of_dvd_right (Int.gcd_dvd_right ..)
theorem den_divInt_le (a : Int) {b : Int} (hb : b ≠ 0) : (Rat.divInt a b).den ≤ b.natAbs := by
  rw [Rat.den_divInt, if_neg hb]
  exact Nat.div_le_self _ _
theorem sz_divInt {n : Nat} {a b : Int} (hb : b ≠ 0) (h1 : a.natAbs < 2 ^ n) (h2 : b.natAbs < 2 ^ n) : Sz n (Rat.divInt a b) :=
  ⟨Nat.lt_of_le_of_lt (num_divInt_le a hb) h1, Nat.lt_of_le_of_lt (den_divInt_le a hb) h2⟩
theorem lt_mul2 {a b n m : Nat} (h1 : a < 2 ^ n) (h2 : b < 2 ^ m) : a * b < 2 ^ (n + m) := by
  rw [Nat.pow_add]
  rcases Nat.eq_zero_or_pos b with hb | hb
  · rw [hb, Nat.mul_zero]
    exact Nat.mul_pos (Nat.pow_pos (by decide)) (Nat.pow_pos (by decide))
  · exact Nat.lt_of_lt_of_le (Nat.mul_lt_mul_of_pos_right h1 hb) (Nat.mul_le_mul_left _ (Nat.le_of_lt h2))
theorem add_is (a b : Rat) : a + b = Rat.divInt (a.num * b.den + b.num * a.den) (a.den * b.den) := by
  have h := Rat.divInt_add_divInt a.num b.num (d₁ := a.den) (d₂ := b.den) (by have := a.den_nz; omega) (by have := b.den_nz; omega)
  rw [Rat.num_divInt_den, Rat.num_divInt_den] at h
  exact h
theorem mul_is (a b : Rat) : a * b = Rat.divInt (a.num * b.num) (a.den * b.den) := by
  have h := Rat.divInt_mul_divInt a.num b.num (d₁ := a.den) (d₂ := b.den)
  rw [Rat.num_divInt_den, Rat.num_divInt_den] at h
  exact h
theorem div_is (a b : Rat) (hb : b ≠ 0) : a / b = Rat.divInt (a.num * b.den) (a.den * b.num) := by
  have hn : b.num ≠ 0 := fun h => hb (Rat.num_eq_zero.mp h)
  rw [Rat.div_def, Rat.inv_def]
  have h := Rat.divInt_mul_divInt a.num b.den (d₁ := a.den) (d₂ := b.num)
  rw [Rat.num_divInt_den] at h
  exact h
theorem dens_ne (a b : Rat) : (a.den : Int) * b.den ≠ 0 := Int.mul_ne_zero (by have := a.den_nz; omega) (by have := b.den_nz; omega)
theorem top_add {n m : Nat} {a b : Rat} (ha : Sz n a) (hb : Sz m b) : (a.num * b.den + b.num * a.den).natAbs < 2 ^ (n + m + 1) := by
  have h1 := lt_mul2 ha.1 hb.2
  have h2 := lt_mul2 ha.2 hb.1
  have h3 := Int.natAbs_add_le (a.num * b.den) (b.num * a.den)
  rw [Int.natAbs_mul, Int.natAbs_mul, Int.natAbs_natCast, Int.natAbs_natCast, Nat.mul_comm b.num.natAbs] at h3
  rw [Nat.pow_succ]
  omega
theorem bot_mul {n m : Nat} {a b : Rat} (ha : Sz n a) (hb : Sz m b) : ((a.den : Int) * b.den).natAbs < 2 ^ (n + m) := by
  rw [Int.natAbs_mul, Int.natAbs_natCast, Int.natAbs_natCast]
  exact lt_mul2 ha.2 hb.2
theorem Sz.add {n m : Nat} {a b : Rat} (ha : Sz n a) (hb : Sz m b) : Sz (n + m + 1) (a + b) := by
  rw [add_is]
  exact sz_divInt (dens_ne a b) (top_add ha hb) (Nat.lt_of_lt_of_le (bot_mul ha hb) (Nat.pow_le_pow_right (by decide) (Nat.le_succ _)))
theorem Sz.neg {n : Nat} {a : Rat} (ha : Sz n a) : Sz n (-a) := by
  refine ⟨?_, ?_⟩
  · rw [Rat.neg_num, Int.natAbs_neg]; exact ha.1
  · rw [Rat.neg_den]; exact ha.2
theorem Sz.sub {n m : Nat} {a b : Rat} (ha : Sz n a) (hb : Sz m b) : Sz (n + m + 1) (a - b) := by
  rw [Rat.sub_eq_add_neg]
  exact ha.add hb.neg
theorem Sz.mul {n m : Nat} {a b : Rat} (ha : Sz n a) (hb : Sz m b) : Sz (n + m) (a * b) := by
  rw [mul_is]
  refine sz_divInt (dens_ne a b) ?_ (bot_mul ha hb)
  rw [Int.natAbs_mul]
  exact lt_mul2 ha.1 hb.1
theorem Sz.div {n m : Nat} {a b : Rat} (ha : Sz n a) (hb : Sz m b) : Sz (n + m) (a / b) := by
  by_cases h : b = 0
  · subst h
    rw [Rat.div_def, Rat.inv_zero, Rat.mul_zero]
    exact ⟨by show 0 < 2 ^ (n + m); exact Nat.pow_pos (by decide), by show 1 < 2 ^ (n + m); exact Nat.lt_of_le_of_lt (Nat.one_le_iff_ne_zero.mpr a.den_nz) (Nat.lt_of_lt_of_le ha.2 (Nat.pow_le_pow_right (by decide) (Nat.le_add_right _ _)))⟩
  · rw [div_is a b h]
    have hn : b.num ≠ 0 := fun z => h (Rat.num_eq_zero.mp z)
    refine sz_divInt (Int.mul_ne_zero (by have := a.den_nz; omega) hn) ?_ ?_
    · rw [Int.natAbs_mul, Int.natAbs_natCast]
      exact lt_mul2 ha.1 hb.2
    · rw [Int.natAbs_mul, Int.natAbs_natCast]
      exact lt_mul2 ha.2 hb.1
/-- the size as it is reckoned -/
class SzC (q : Rat) (n : outParam Nat) : Prop where
  h : Sz n q
instance {a b : Rat} {n m : Nat} [x : SzC a n] [y : SzC b m] : SzC (a + b) (n + m + 1) := ⟨x.h.add y.h⟩
instance {a b : Rat} {n m : Nat} [x : SzC a n] [y : SzC b m] : SzC (a - b) (n + m + 1) := ⟨x.h.sub y.h⟩
instance {a b : Rat} {n m : Nat} [x : SzC a n] [y : SzC b m] : SzC (a * b) (n + m) := ⟨x.h.mul y.h⟩
instance {a b : Rat} {n m : Nat} [x : SzC a n] [y : SzC b m] : SzC (a / b) (n + m) := ⟨x.h.div y.h⟩
instance {a : Rat} {n : Nat} [x : SzC a n] : SzC (-a) n := ⟨x.h.neg⟩
instance : SzC 0 1 := ⟨⟨by decide, by decide⟩⟩
instance : SzC 1 1 := ⟨⟨by decide, by decide⟩⟩
instance : SzC 2 2 := ⟨⟨by decide, by decide⟩⟩
instance : SzC 3 2 := ⟨⟨by decide, by decide⟩⟩
theorem sz_le {q : Rat} {n m : Nat} [x : SzC q n] (h : n ≤ m) : Sz m q := x.h.mono h
/-! ### comparing -/
def cmpR (a b : Rat) : Int := if a < b then -1 else if b < a then 1 else 0
theorem cmpR_lt {a b : Rat} : cmpR a b < 0 ↔ a < b := by
  unfold cmpR
  by_cases h : a < b
  · simp [h]
  · by_cases k : b < a <;> simp [h, k]
theorem cmpR_gt {a b : Rat} : 0 < cmpR a b ↔ b < a := by
  unfold cmpR
  by_cases h : a < b
  · have : ¬ b < a := by grind
    simp [h, this]
  · by_cases k : b < a <;> simp [h, k]
theorem cmpR_le {a b : Rat} : cmpR a b ≤ 0 ↔ a ≤ b := by
  have := @cmpR_gt a b
  constructor
  · intro h
    by_cases k : b < a
    · have := this.mpr k; omega
    · grind
  · intro h
    have : ¬ b < a := by grind
    have z := mt cmpR_gt.mp this
    omega
theorem num_pos_iff {q : Rat} : 0 < q.num ↔ 0 < q := by
  rw [Rat.lt_iff]
  simp
theorem num_neg_iff {q : Rat} : q.num < 0 ↔ q < 0 := by
  rw [Rat.lt_iff]
  simp
/-! ### the greatest divisor -/
theorem half_mod {y r : Nat} (h1 : r < y) (h0 : 0 < r) : 2 * (y % r) < y := by
  by_cases h : 2 * r ≤ y
  · have := Nat.mod_lt y h0
    omega
  · have : y % r = y - r := by
      rw [Nat.mod_eq_sub_mod (by omega), Nat.mod_eq_of_lt (by omega)]
    omega
/-- so many steps are enough -/
def steps : Nat → Nat → Nat → Prop
  | 0, _, y => y = 0
  | n + 1, x, y => y = 0 ∨ steps n y (x % y)
theorem steps_of : ∀ (n x y : Nat), y < 2 ^ n → steps (2 * n + 1) x y
  | 0, x, y, h => .inl (by have : (2 : Nat) ^ 0 = 1 := rfl; omega)
  | n + 1, x, y, h => by
    by_cases y0 : y = 0
    · exact .inl y0
    · refine .inr ?_
      by_cases r0 : x % y = 0
      · exact .inl r0
      · refine .inr ?_
        have hl := Nat.mod_lt x (Nat.pos_of_ne_zero y0)
        have hh := half_mod hl (Nat.pos_of_ne_zero r0)
        exact steps_of n (x % y) (y % (x % y)) (by rw [Nat.pow_succ] at h; omega)
theorem steps_up : ∀ {n x y : Nat}, steps n x y → steps (n + 1) x y
  | 0, _, _, h => .inl h
  | _ + 1, _, _, .inl h => .inl h
  | _ + 1, _, _, .inr h => .inr (steps_up h)
theorem steps_le {n m x y : Nat} (h : steps n x y) (l : n ≤ m) : steps m x y := by
  induction l with
  | refl => exact h
  | step _ ih => exact steps_up ih
end Fq

/-! Rules for what a form reckons at a given state; fractions. -/
namespace G
open PySem PySem.Spec PyProof.Rows L2 Fq
section
variable {Fn : Nat → List PD → M PD} {L : Lw} {env env' : EnvD} {g g1 g2 g3 : List PD} {a b e : Ex} {es : Exs} {x y z : PD} {ds xs : List PD}
theorem bnd_ok {β γ : Type} {m : M β} {f : β → M γ} {v : β} {o : Out γ} (h : m g = .ok v g1) (k : f v g1 = o) : bnd m f g = o := by
  show (m g).bnd f = o
  rw [h]
  exact k
theorem bnd_ex {β γ : Type} {m : M β} {f : β → M γ} {x : Xn} (h : m g = .exn x g1) : bnd m f g = .exn x g1 := by
  show (m g).bnd f = _
  rw [h]
  rfl
theorem v_var {i : Nat} (h : env[i]? = some (.d x)) : evE Fn L (.var i) env g = .ok x g := by
  unfold evE
  rw [h]
  rfl
theorem v_lit : evE Fn L (.lit x) env g = .ok x g := rfl
theorem v_glb {n : Nat} (h : L.gD n = some x) : evE Fn L (.glb n) env g = .ok x g := by
  unfold evE
  rw [h]
  rfl
theorem v_op2 {o : Op2} (ha : evE Fn L a env g = .ok x g1) (hb : evE Fn L b env g1 = .ok y g2) (ho : opF o x y = some z) : evE Fn L (.op2 o a b) env g = .ok z g2 := by
  unfold evE
  refine bnd_ok ha (bnd_ok hb ?_)
  rw [ho]
  rfl
theorem v_neg {i : Int} (ha : evE Fn L a env g = .ok (.int i) g1) : evE Fn L (.neg a) env g = .ok (.int (-i)) g1 := by
  unfold evE
  exact bnd_ok ha rfl
theorem v_not {k : Bool} (ha : evE Fn L a env g = .ok (.bool k) g1) : evE Fn L (.notV a) env g = .ok (.bool (!k)) g1 := by
  unfold evE
  exact bnd_ok ha rfl
theorem v_ite {t : Tx} {k : Bool} {o : Out PD} (ht : evT Fn L t env g = .ok k g1) (h : (if k = true then evE Fn L a env else evE Fn L b env) g1 = o) : evE Fn L (.ite t a b) env g = o := by
  unfold evE
  exact bnd_ok ht h
theorem v_tup (h : evA Fn L es env g = .ok ds g1) (l : ds.length ≤ 1000) : evE Fn L (.tup es) env g = .ok (.tuple ds) g1 := by
  unfold evE
  refine bnd_ok h ?_
  rw [if_pos l]
  rfl
theorem v_lst (h : evA Fn L es env g = .ok ds g1) (l : ds.length ≤ 1000) : evE Fn L (.lst es) env g = .ok (.list ds) g1 := by
  unfold evE
  refine bnd_ok h ?_
  rw [if_pos l]
  rfl
theorem v_blt {q : Blt} (h : evE Fn L a env g = .ok x g1) (hq : bltF q x = some z) : evE Fn L (.blt q a) env g = .ok z g1 := by
  unfold evE
  refine bnd_ok h ?_
  rw [hq]
  rfl
theorem v_rev {ds : List PD} (h : evE Fn L a env g = .ok (.tuple ds) g1) : evE Fn L (.rev a) env g = .ok (.tuple ds.reverse) g1 := by
  unfold evE
  exact bnd_ok h rfl
theorem v_max2 {i j : Int} (ha : evE Fn L a env g = .ok (.int i) g1) (hb : evE Fn L b env g1 = .ok (.int j) g2) : evE Fn L (.max2 a b) env g = .ok (.int (if j > i then j else i)) g2 := by
  unfold evE
  exact bnd_ok ha (bnd_ok hb rfl)
theorem v_isi {t : String} (h : evE Fn L a env g = .ok x g1) (hq : isiF t x = some z) : evE Fn L (.isi t a) env g = .ok z g1 := by
  unfold evE
  refine bnd_ok h ?_
  rw [hq]
  rfl
theorem v_call {f : Nat} {o : Out PD} (h : evA Fn L es env g = .ok ds g1) (hf : Fn f ds g1 = o) : evE Fn L (.call f es) env g = o := by
  unfold evE
  exact bnd_ok h hf
theorem v_bget {i n : Nat} (h : env[i]? = some (.d (.dict []))) (hn : g[n]? = some x) : evE Fn L (.bget i n) env g = .ok x g := by
  unfold evE
  rw [h]
  show (match g[n]? with | some d => Out.ok d g | none => .stuck) = _
  rw [hn]
theorem v_oix {i : Nat} {k : Int} (h : env[i]? = some (.own xs)) (hb : evE Fn L b env g = .ok (.int k) g1) (hx : atI xs k = some x) : evE Fn L (.oix i b) env g = .ok x g1 := by
  unfold evE
  rw [h]
  refine bnd_ok (f := fun y => match y with | .int k => ofO (atI xs k) | _ => stk) hb ?_
  show ofO (atI xs k) g1 = _
  rw [hx]
  rfl
theorem v_olen {i : Nat} (h : env[i]? = some (.own xs)) : evE Fn L (.olen i) env g = .ok (.int xs.length) g := by
  unfold evE
  rw [h]
  rfl
theorem v_oem {i : Nat} (h : env[i]? = some (.own xs)) (s : shp (.list xs) = true) : evE Fn L (.oem i) env g = .ok (.bool (!PyData.eqv (.list xs) (.list []))) g := by
  unfold evE
  rw [h]
  show (if shp (.list xs) = true then ret _ else stk) g = _
  rw [if_pos s]
  rfl
theorem v_sl {lo hi : Exs} {l u : Option Int} (h : evE Fn L a env g = .ok x g1) (hl : evO Fn L lo env g1 = .ok l g2) (hh : evO Fn L hi env g2 = .ok u g3) (hs : slF x l u = some z) : evE Fn L (.sl a lo hi) env g = .ok z g3 := by
  unfold evE
  refine bnd_ok h (bnd_ok hl (bnd_ok hh ?_))
  rw [hs]
  rfl
theorem v_on : evO Fn L .nil env g = .ok none g := rfl
theorem v_os {i : Int} (h : evE Fn L a env g = .ok (.int i) g1) : evO Fn L (.cons a es) env g = .ok (some i) g1 := by
  unfold evO
  exact bnd_ok h rfl
theorem v_nil : evA Fn L .nil env g = .ok [] g := rfl
theorem v_cons (h : evE Fn L e env g = .ok x g1) (hs : evA Fn L es env g1 = .ok xs g2) : evA Fn L (.cons e es) env g = .ok (x :: xs) g2 := by
  unfold evA
  exact bnd_ok h (bnd_ok hs rfl)
/-! tests -/
variable {t u : Tx} {k : Bool}
theorem u_val (h : evE Fn L e env g = .ok (.bool k) g1) : evT Fn L (.val e) env g = .ok k g1 := by
  unfold evT
  exact bnd_ok h rfl
theorem u_not (h : evT Fn L t env g = .ok k g1) : evT Fn L (.not t) env g = .ok (!k) g1 := by
  unfold evT
  exact bnd_ok h rfl
theorem u_and {o : Out Bool} (h : evT Fn L t env g = .ok k g1) (h2 : (if k = true then evT Fn L u env else ret false) g1 = o) : evT Fn L (.and t u) env g = o := by
  unfold evT
  exact bnd_ok h h2
theorem u_or {o : Out Bool} (h : evT Fn L t env g = .ok k g1) (h2 : (if k = true then ret true else evT Fn L u env) g1 = o) : evT Fn L (.or t u) env g = o := by
  unfold evT
  exact bnd_ok h h2
/-! statements -/
variable {s : St} {r r2 : Ss} {o : Out Fl}
theorem w_set {i : Nat} (h : evE Fn L e env g = .ok x g1) : evS Fn L (.set i e) env g = .ok (.nx (env.set i (.d x))) g1 := by
  unfold evS
  exact bnd_ok h rfl
theorem w_setO {i : Nat} (h : evE Fn L e env g = .ok (.list ds) g1) (l : i < env.length) : evS Fn L (.setO i e) env g = .ok (.nx (env.set i (.own ds))) g1 := by
  unfold evS
  refine bnd_ok h ?_
  show (if i < env.length then ret (Fl.nx (env.set i (.own ds))) else stk) g1 = _
  rw [if_pos l]
  rfl
theorem w_asg {tg : Tg} (h : evE Fn L e env g = .ok x g1) (ht : tgF tg x env = some env') : evS Fn L (.asg tg e) env g = .ok (.nx env') g1 := by
  unfold evS
  refine bnd_ok h ?_
  rw [ht]
  rfl
theorem w_par {i j : Nat} {oi oj : Bool} {s1 s2 : Sl} (ha : evE Fn L a env g = .ok x g1) (h1 : slOf oi x = some s1) (hb : evE Fn L b env g1 = .ok y g2) (h2 : slOf oj y = some s2) (l : i < env.length ∧ j < env.length ∧ i ≠ j) :
    evS Fn L (.par i j oi oj a b) env g = .ok (.nx ((env.set i s1).set j s2)) g2 := by
  unfold evS
  refine bnd_ok ha ?_
  rw [h1]
  refine bnd_ok hb ?_
  rw [h2]
  show (if i < env.length ∧ j < env.length ∧ i ≠ j then ret (Fl.nx ((env.set i s1).set j s2)) else stk) g2 = _
  rw [if_pos l]
  rfl
theorem w_par3 {i j m : Nat} {oi oj ol : Bool} {s1 s2 s3 : Sl} {c : Ex} (ha : evE Fn L a env g = .ok x g1) (h1 : slOf oi x = some s1) (hb : evE Fn L b env g1 = .ok y g2) (h2 : slOf oj y = some s2) (hc : evE Fn L c env g2 = .ok z g3) (h3 : slOf ol z = some s3)
    (l : i < env.length ∧ j < env.length ∧ m < env.length ∧ i ≠ j ∧ i ≠ m ∧ j ≠ m) : evS Fn L (.par3 i j m oi oj ol a b c) env g = .ok (.nx (((env.set i s1).set j s2).set m s3)) g3 := by
  unfold evS
  refine bnd_ok ha ?_
  rw [h1]
  refine bnd_ok hb ?_
  rw [h2]
  refine bnd_ok hc ?_
  rw [h3]
  show (if i < env.length ∧ j < env.length ∧ m < env.length ∧ i ≠ j ∧ i ≠ m ∧ j ≠ m then ret (Fl.nx (((env.set i s1).set j s2).set m s3)) else stk) g3 = _
  rw [if_pos l]
  rfl
theorem w_bset {i n : Nat} (hb : env[i]? = some (.d (.dict []))) (h : evE Fn L e env g = .ok x g1) (l : n < g1.length) : evS Fn L (.bset i n e) env g = .ok (.nx env) (g1.set n x) := by
  unfold evS
  rw [hb]
  show bnd (evE Fn L e env) (fun d g => if n < g.length then Out.ok (Fl.nx env) (g.set n d) else .stuck) g = _
  refine bnd_ok h ?_
  rw [if_pos l]
theorem w_app {i : Nat} (h : env[i]? = some (.own xs)) (l : xs.length < 1000000) (he : evE Fn L e env g = .ok x g1) : evS Fn L (.app i e) env g = .ok (.nx (env.set i (.own (xs ++ [x])))) g1 := by
  unfold evS
  rw [h]
  show (if xs.length < 1000000 then bnd (evE Fn L e env) fun d => ret (Fl.nx (env.set i (.own (xs ++ [d])))) else stk) g = _
  rw [if_pos l]
  exact bnd_ok he rfl
theorem w_pop {i : Nat} (h : env[i]? = some (.own xs)) (l : xs.length ≠ 0) : evS Fn L (.pop i) env g = .ok (.nx (env.set i (.own xs.dropLast))) g := by
  unfold evS
  rw [h]
  show (if xs.length = 0 then stk else ret (Fl.nx (env.set i (.own xs.dropLast)))) g = _
  rw [if_neg l]
  rfl
theorem w_ext {i : Nat} (h : env[i]? = some (.own xs)) (he : evE Fn L e env g = .ok (.list ds) g1) (l : xs.length + ds.length ≤ 1000000) : evS Fn L (.ext i e) env g = .ok (.nx (env.set i (.own (xs ++ ds)))) g1 := by
  unfold evS
  rw [h]
  refine bnd_ok (f := fun d => match listOf d with | some ys => if xs.length + ys.length ≤ 1000000 then ret (Fl.nx (env.set i (.own (xs ++ ys)))) else stk | none => stk) he ?_
  show (if xs.length + ds.length ≤ 1000000 then ret (Fl.nx (env.set i (.own (xs ++ ds)))) else stk) g1 = _
  rw [if_pos l]
  rfl
theorem w_iset {i : Nat} {m : Int} {j : Nat} (h : env[i]? = some (.own xs)) (he : evE Fn L e env g = .ok x g1) (hb : evE Fn L b env g1 = .ok (.int m) g2) (hj : ixN xs.length m = some j) : evS Fn L (.iset i b e) env g = .ok (.nx (env.set i (.own (xs.set j x)))) g2 := by
  unfold evS
  rw [h]
  refine bnd_ok (f := fun d => bnd (evE Fn L b env) fun n => match n with
    | .int m => match ixN xs.length m with | some j => ret (Fl.nx (env.set i (.own (xs.set j d)))) | none => stk
    | _ => stk) he (bnd_ok hb ?_)
  show (match ixN xs.length m with | some j => ret (Fl.nx (env.set i (.own (xs.set j x)))) | none => stk) g2 = _
  rw [hj]
  rfl
theorem w_ex (h : evE Fn L e env g = .ok x g1) : evS Fn L (.ex e) env g = .ok (.nx env) g1 := by
  unfold evS
  exact bnd_ok h rfl
theorem w_ife (ht : evT Fn L t env g = .ok k g1) (h : (if k = true then evSs Fn L r env else evSs Fn L r2 env) g1 = o) : evS Fn L (.ife t r r2) env g = o := by
  unfold evS
  exact bnd_ok ht h
theorem w_ret (h : evE Fn L e env g = .ok x g1) : evS Fn L (.ret e) env g = .ok (.rt x) g1 := by
  unfold evS
  exact bnd_ok h rfl
theorem w_retX {q : Xn} (h : evE Fn L e env g = .exn q g1) : evS Fn L (.ret e) env g = .exn q g1 := by
  unfold evS
  exact bnd_ex h
theorem w_nx (h : evS Fn L s env g = .ok (.nx env') g1) (h2 : evSs Fn L r env' g1 = o) : evSs Fn L (.cons s r) env g = o := by
  unfold evSs
  exact bnd_ok h h2
theorem w_rt (h : evS Fn L s env g = .ok (.rt x) g1) : evSs Fn L (.cons s r) env g = .ok (.rt x) g1 := by
  unfold evSs
  exact bnd_ok h rfl
theorem w_xn {q : Xn} (h : evS Fn L s env g = .exn q g1) : evSs Fn L (.cons s r) env g = .exn q g1 := by
  unfold evSs
  exact bnd_ex h
theorem w_frz {i : Nat} (h : env[i]? = some (.own xs)) (h2 : evSs Fn L r (env.set i (.d (.list xs))) g = o) : evSs Fn L (.frz i r) env g = o := by
  unfold evSs
  rw [h]
  exact h2
theorem w_nil : evSs Fn L .nil env g = .ok (.nx env) g := rfl
theorem w_F {n : Nat} {b : Ss} (h : evSs Fn L b (ds.map Sl.d ++ List.replicate (n - ds.length) Sl.no) g = .ok (.rt x) g1) : evF Fn L n b ds g = .ok x g1 := by
  unfold evF
  exact bnd_ok h rfl
theorem w_FN {n : Nat} {b : Ss} (h : evSs Fn L b (ds.map Sl.d ++ List.replicate (n - ds.length) Sl.no) g = .ok (.nx env') g1) : evF Fn L n b ds g = .ok .none g1 := by
  unfold evF
  exact bnd_ok h rfl
theorem w_FX {n : Nat} {b : Ss} {q : Xn} (h : evSs Fn L b (ds.map Sl.d ++ List.replicate (n - ds.length) Sl.no) g = .exn q g1) : evF Fn L n b ds g = .exn q g1 := by
  unfold evF
  exact bnd_ex h
theorem w_whl {body : Ss} (h : evWh (fun e => evT Fn L t e) (fun e => evSs Fn L body e) fuel env g = o) : evS Fn L (.whl t body) env g = o := by
  unfold evS
  exact h
theorem w_fr {tg : Tg} {it : Ix} {body : Ss} (hi : evI Fn L it env g = .ok ds g1) (h : evFr tg (fun e => evSs Fn L body e) ds env g1 = o) : evS Fn L (.fr tg it body) env g = o := by
  unfold evS
  exact bnd_ok hi h
theorem fr_nil {tg : Tg} {body : EnvD → M Fl} : evFr tg body [] env g = .ok (.nx env) g := rfl
theorem fr_cons {tg : Tg} {body : EnvD → M Fl} {d : PD} {env1 : EnvD} (ht : tgF tg d env = some env1) (hb : body env1 g = .ok (.nx env') g1) (h : evFr tg body ds env' g1 = o) : evFr tg body (d :: ds) env g = o := by
  unfold evFr
  rw [ht]
  exact bnd_ok hb h
/-! walks -/
theorem i_list (h : evE Fn L e env g = .ok (.list ds) g1) : evI Fn L (.list e) env g = .ok ds g1 := by
  unfold evI
  exact bnd_ok h rfl
theorem i_tup (h : evE Fn L e env g = .ok (.tuple ds) g1) : evI Fn L (.tup e) env g = .ok ds g1 := by
  unfold evI
  exact bnd_ok h rfl
theorem i_range {n : Int} (h : evE Fn L e env g = .ok (.int n) g1) (l : -(2 ^ 62) ≤ n ∧ n < 2 ^ 62) : evI Fn L (.range e) env g = .ok ((List.range n.toNat).map fun k => .int (k : Nat)) g1 := by
  unfold evI
  refine bnd_ok h ?_
  show (if -(2 ^ 62) ≤ n ∧ n < 2 ^ 62 then ret _ else stk) g1 = _
  rw [if_pos l]
  rfl
theorem i_range2 {m n : Int} (ha : evE Fn L a env g = .ok (.int m) g1) (hb : evE Fn L b env g1 = .ok (.int n) g2) (l : -(2 ^ 62) ≤ m ∧ m < 2 ^ 62 ∧ -(2 ^ 62) ≤ n ∧ n < 2 ^ 62) : evI Fn L (.range2 a b) env g = .ok ((List.range (n - m).toNat).map fun k => .int (m + (k : Nat))) g2 := by
  unfold evI
  refine bnd_ok ha (bnd_ok hb ?_)
  show (if -(2 ^ 62) ≤ m ∧ m < 2 ^ 62 ∧ -(2 ^ 62) ≤ n ∧ n < 2 ^ 62 then ret _ else stk) g2 = _
  rw [if_pos l]
  rfl
theorem i_enumL (h : evE Fn L e env g = .ok (.list ds) g1) : evI Fn L (.enumL e) env g = .ok (enumF ds) g1 := by
  unfold evI
  exact bnd_ok h rfl
theorem i_enumT (h : evE Fn L e env g = .ok (.tuple ds) g1) : evI Fn L (.enumT e) env g = .ok (enumF ds) g1 := by
  unfold evI
  exact bnd_ok h rfl
theorem i_zipL (ha : evE Fn L a env g = .ok (.list ds) g1) (hb : evE Fn L b env g1 = .ok (.list xs) g2) : evI Fn L (.zip a b) env g = .ok (zipF ds xs) g2 := by
  unfold evI
  exact bnd_ok ha (bnd_ok hb rfl)
theorem i_zipT (ha : evE Fn L a env g = .ok (.tuple ds) g1) (hb : evE Fn L b env g1 = .ok (.tuple xs) g2) : evI Fn L (.zip a b) env g = .ok (zipF ds xs) g2 := by
  unfold evI
  exact bnd_ok ha (bnd_ok hb rfl)
/-! comprehensions -/
theorem v_lc {elt : Ex} {tg : Tg} {it : Ix} {own : List Nat} {ys : List PD} (hi : evI Fn L it env g = .ok ds g1) (l : ds.length ≤ 1000000 ∧ tgIn tg own = true) (h : mapM' (fun d => match tgF tg d (wipeD env own) with | some env' => evE Fn L elt env' | none => stk) ds g1 = .ok ys g2) : evE Fn L (.lc elt tg it own) env g = .ok (.list ys) g2 := by
  unfold evE
  refine bnd_ok hi ?_
  rw [if_pos l]
  exact bnd_ok h rfl
theorem v_lcX {elt : Ex} {tg : Tg} {it : Ix} {own : List Nat} {q : Xn} (hi : evI Fn L it env g = .ok ds g1) (l : ds.length ≤ 1000000 ∧ tgIn tg own = true) (h : mapM' (fun d => match tgF tg d (wipeD env own) with | some env' => evE Fn L elt env' | none => stk) ds g1 = .exn q g2) : evE Fn L (.lc elt tg it own) env g = .exn q g2 := by
  unfold evE
  refine bnd_ok hi ?_
  rw [if_pos l]
  exact bnd_ex h
theorem v_lcN {elt : Ex} {tg : Tg} {it : Ix} {own : List Nat} {ys : List PD} (hi : evI Fn L it env g = .ok ds g1) (l : ds.length ≤ 1000000 ∧ tgIn tg own = true) (h : mapM' (fun d => match tgF tg d (wipeD env own) with | some env' => noX (evE Fn L elt env') | none => stk) ds g1 = .ok ys g2) : evE Fn L (.lcN elt tg it own) env g = .ok (.list ys) g2 := by
  unfold evE
  refine bnd_ok hi ?_
  rw [if_pos l]
  exact bnd_ok h rfl
theorem v_lcf {elt : Ex} {tg : Tg} {it : Ix} {t : Tx} {own : List Nat} {ys : List PD} (hi : evI Fn L it env g = .ok ds g1) (l : ds.length ≤ 1000000 ∧ tgIn tg own = true)
    (h : mapF (fun d => match tgF tg d (wipeD env own) with | some env' => bnd (evT Fn L t env') fun k => if k = true then bnd (evE Fn L elt env') fun y => ret (some y) else ret none | none => stk) ds g1 = .ok ys g2) : evE Fn L (.lcf elt tg it t own) env g = .ok (.list ys) g2 := by
  unfold evE
  refine bnd_ok hi ?_
  rw [if_pos l]
  exact bnd_ok h rfl
theorem v_lcfN {elt : Ex} {tg : Tg} {it : Ix} {t : Tx} {own : List Nat} {ys : List PD} (hi : evI Fn L it env g = .ok ds g1) (l : ds.length ≤ 1000000 ∧ tgIn tg own = true)
    (h : mapF (fun d => match tgF tg d (wipeD env own) with | some env' => noX (bnd (evT Fn L t env') fun k => if k = true then bnd (evE Fn L elt env') fun y => ret (some y) else ret none) | none => stk) ds g1 = .ok ys g2) : evE Fn L (.lcfN elt tg it t own) env g = .ok (.list ys) g2 := by
  unfold evE
  refine bnd_ok hi ?_
  rw [if_pos l]
  exact bnd_ok h rfl
theorem noX_is {β : Type} {m : M β} {v : β} (h : m g = .ok v g1) : noX m g = .ok v g1 := by
  unfold noX
  rw [h]
theorem mm_nil {β γ : Type} {f : β → M γ} : mapM' f [] g = .ok [] g := rfl
theorem mm_cons {β γ : Type} {f : β → M γ} {d : β} {ds : List β} {y : γ} {ys : List γ} (h : f d g = .ok y g1) (hs : mapM' f ds g1 = .ok ys g2) : mapM' f (d :: ds) g = .ok (y :: ys) g2 := by
  unfold mapM'
  exact bnd_ok h (bnd_ok hs rfl)
theorem mm_exn {β γ : Type} {f : β → M γ} {d : β} {ds : List β} {q : Xn} (h : f d g = .exn q g1) : mapM' f (d :: ds) g = .exn q g1 := by
  unfold mapM'
  exact bnd_ex h
theorem mm_exn2 {β γ : Type} {f : β → M γ} {d : β} {ds : List β} {y : γ} {q : Xn} (h : f d g = .ok y g1) (hs : mapM' f ds g1 = .exn q g2) : mapM' f (d :: ds) g = .exn q g2 := by
  unfold mapM'
  exact bnd_ok h (bnd_ex hs)
/-- all items told without a change of the state -/
theorem mm_pure {β γ : Type} {f : β → M γ} {h : β → γ} : ∀ ds : List β, (∀ d, d ∈ ds → f d g = .ok (h d) g) → mapM' f ds g = .ok (ds.map h) g
  | [], _ => rfl
  | d :: ds, k => mm_cons (k d List.mem_cons_self) (mm_pure ds fun d' hd => k d' (List.mem_cons_of_mem _ hd))
theorem mf_cons {β γ : Type} {f : β → M (Option γ)} {d : β} {ds : List β} {o : Option γ} {ys : List γ} (h : f d g = .ok o g1) (hs : mapF f ds g1 = .ok ys g2) : mapF f (d :: ds) g = .ok (o.toList ++ ys) g2 := by
  unfold mapF
  exact bnd_ok h (bnd_ok hs rfl)
theorem mf_pure {β γ : Type} {f : β → M (Option γ)} {h : β → Option γ} : ∀ ds : List β, (∀ d, d ∈ ds → f d g = .ok (h d) g) → mapF f ds g = .ok (ds.filterMap h) g
  | [], _ => rfl
  | d :: ds, k => by
    unfold mapF
    refine bnd_ok (k d List.mem_cons_self) (bnd_ok (mf_pure ds fun d' hd => k d' (List.mem_cons_of_mem _ hd)) ?_)
    rw [List.filterMap_cons]
    cases h d <;> rfl
end
theorem ifT {β : Type} {a b : M β} {g : List PD} : (if true = true then a else b) g = a g := by rw [if_pos rfl]
theorem ifF {β : Type} {a b : M β} {g : List PD} : (if false = true then a else b) g = b g := by rw [if_neg Bool.false_ne_true]
theorem sem_def {n k N : Nat} {b : Ss} {ds : List PD} (h3 : bodyOf k = some (N, b)) (h1 : ds.length = ar k) (h2 : k ≠ 49) : sem (n + 1) k ds = evF (sem n) lwK N b ds := by
  unfold sem
  rw [if_pos h1, if_neg h2, h3]
/-! ### numbers -/
theorem log_lt {a n : Nat} (h : a < 2 ^ n) (hn : 0 < n) : a.log2 < n := by
  by_cases z : a = 0
  · subst z; rw [Nat.log2_zero]; exact hn
  · exact (Nat.log2_lt z).mpr h
theorem mul_ok {i j : Int} {n m : Nat} (h1 : i.natAbs < 2 ^ n) (h2 : j.natAbs < 2 ^ m) (hn : n ≤ 400000) (hm : m ≤ 400000) : opF .mul (.int i) (.int j) = some (.int (i * j)) := by
  have l1 : i.natAbs.log2 < n + 1 := log_lt (Nat.lt_of_lt_of_le h1 (Nat.pow_le_pow_right (by decide) (Nat.le_succ _))) (Nat.succ_pos _)
  have l2 : j.natAbs.log2 < m + 1 := log_lt (Nat.lt_of_lt_of_le h2 (Nat.pow_le_pow_right (by decide) (Nat.le_succ _))) (Nat.succ_pos _)
  exact if_pos (by omega)
theorem fdv_ok {i j : Int} (h0 : j ≠ 0) (h1 : j.natAbs < 2 ^ 9000) : opF .fdv (.int i) (.int j) = some (.int (i.fdiv j)) := if_pos ⟨h0, log_lt h1 (by decide)⟩
theorem mod_ok {i j : Int} (h : j ≠ 0) : opF .mod (.int i) (.int j) = some (.int (i.fmod j)) := if_pos h
theorem eqI (i j : Int) : opF .eq (.int i) (.int j) = some (.bool (i == j)) := rfl
theorem neI (i j : Int) : opF .ne (.int i) (.int j) = some (.bool (!(i == j))) := rfl
theorem abs_is (i : Int) : bltF .abs (.int i) = some (.int i.natAbs) := by
  show some (PyData.int (if i < 0 then -i else i)) = _
  congr 2
  split <;> omega
/-- a fraction -/
def fr (q : Rat) : PD := .tuple [.int q.num, .int q.den]
theorem fr0 {q : Rat} : opF .ix (fr q) (.int 0) = some (.int q.num) := rfl
theorem fr1 {q : Rat} : opF .ix (fr q) (.int 1) = some (.int q.den) := rfl
end G

/-! Fractions: what the program's and the law's defs reckon. -/
namespace G
open PySem PySem.Spec PyProof.Rows L2 Fq
def tOfW : Ss → Tx | .cons (.whl t _) _ => t | .cons _ r => tOfW r | _ => .val (.lit .none)
def bOfW : Ss → Ss | .cons (.whl _ b) _ => b | .cons _ r => bOfW r | _ => .nil
section
variable {Fn : Nat → List PD → M PD} {g : List PD}
def envG (a b : Int) (x y : Nat) : EnvD := [.d (.int a), .d (.int b), .d (.int x), .d (.int y)]
theorem sub_mod (x y : Nat) : (x : Int) - (x : Int).fdiv y * y = ((x % y : Nat) : Int) := by
  rw [Int.fdiv_eq_ediv_of_nonneg _ (by omega), Int.natCast_emod, Int.emod_def, Int.mul_comm]
theorem wh_step {t : EnvD → M Bool} {body : EnvD → M Fl} {n : Nat} {env env' : EnvD} {g1 g2 : List PD} {o : Out Fl} (ht : t env g = .ok true g1) (hb : body env g1 = .ok (.nx env') g2) (h : evWh t body n env' g2 = o) : evWh t body (n + 1) env g = o := by
  unfold evWh
  exact bnd_ok ht (bnd_ok (m := body env) hb h)
theorem wh_end {t : EnvD → M Bool} {body : EnvD → M Fl} {n : Nat} {env : EnvD} {g1 : List PD} (ht : t env g = .ok false g1) : evWh t body (n + 1) env g = .ok (.nx env) g1 := by
  unfold evWh
  exact bnd_ok ht rfl
theorem gcd_loop {a b : Int} : ∀ (k m x y : Nat), steps k x y → k < m → x < 2 ^ 9000 → y < 2 ^ 9000 → evWh (fun e => evT Fn lwK (tOfW ir1) e) (fun e => evSs Fn lwK (bOfW ir1) e) m (envG a b x y) g = .ok (.nx (envG a b (x.gcd y) 0)) g := by
  intro k
  induction k with
  | zero =>
    intro m x y h hm hx hy
    cases m with
    | zero => omega
    | succ m =>
      have h : y = 0 := h
      subst h
      rw [Nat.gcd_zero_right]
      exact wh_end (u_val (v_op2 (v_var rfl) v_lit (neI _ _)))
  | succ k ih =>
    intro m x y h hm hx hy
    cases m with
    | zero => omega
    | succ m =>
      by_cases y0 : y = 0
      · subst y0
        rw [Nat.gcd_zero_right]
        exact wh_end (u_val (v_op2 (v_var rfl) v_lit (neI _ _)))
      · have h' : steps k y (x % y) := h.resolve_left y0
        have hl := Nat.mod_lt x (Nat.pos_of_ne_zero y0)
        have e : x.gcd y = y.gcd (x % y) := by rw [Nat.gcd_comm x y, Nat.gcd_rec y x, Nat.gcd_comm]
        rw [e]
        have ne : (!((y : Int) == 0)) = true := by simp; omega
        refine wh_step (env' := envG a b y (x % y)) (u_val (v_op2 (v_var rfl) v_lit ((neI _ _).trans (by rw [ne])))) ?_ (ih m y (x % y) h' (by omega) hy (Nat.lt_trans hl hy))
        have q : ((x : Int).fdiv y).natAbs < 2 ^ 9000 := by
          rw [Int.fdiv_eq_ediv_of_nonneg _ (by omega), ← Int.natCast_ediv, Int.natAbs_natCast]
          exact Nat.lt_of_le_of_lt (Nat.div_le_self _ _) hx
        refine w_nx (w_par (x := .int y) (s1 := .d (.int y)) (y := .int ((x % y : Nat) : Int)) (s2 := .d (.int ((x % y : Nat) : Int))) (v_var rfl) rfl ?_ rfl ⟨by show 2 < 4; decide, by show 3 < 4; decide, by decide⟩) w_nil
        refine v_op2 (v_var rfl) (v_op2 (v_op2 (v_var rfl) (v_var rfl) (fdv_ok (by omega) (by rw [Int.natAbs_natCast]; exact hy))) (v_var rfl) (mul_ok q (by rw [Int.natAbs_natCast]; exact hy) (by decide) (by decide))) ?_
        show some (PyData.int ((x : Int) - (x : Int).fdiv y * y)) = _
        rw [sub_mod]
end
section
variable {n : Nat} {g : List PD}
theorem gcd_ok {a b : Int} (ha : a.natAbs < 2 ^ 9000) (hb : b.natAbs < 2 ^ 9000) : sem (n + 1) 1 [.int a, .int b] g = .ok (.int (a.gcd b)) g := by
  rw [sem_def rfl rfl (by decide)]
  refine w_F (w_nx (w_par (x := .int a.natAbs) (s1 := .d (.int a.natAbs)) (y := .int b.natAbs) (s2 := .d (.int b.natAbs)) (v_blt (v_var rfl) (abs_is a)) rfl (v_blt (v_var rfl) (abs_is b)) rfl ⟨by show 2 < 4; decide, by show 3 < 4; decide, by decide⟩) ?_)
  refine w_nx (w_whl (gcd_loop (a := a) (b := b) 18001 fuel a.natAbs b.natAbs (steps_of 9000 _ _ hb) (by decide) ha hb)) ?_
  exact w_rt (w_ret (v_var rfl))
theorem frac_eq {a b : Int} (hb : b ≠ 0) (c : Int) (hc : c = if b < 0 then 0 - (a.gcd b : Int) else a.gcd b) : PyData.tuple [.int (a.fdiv c), .int (b.fdiv c)] = fr (Rat.divInt a b) := by
  have g0 : (a.gcd b : Int) ≠ 0 := by
    have := Int.gcd_ne_zero_right (a := a) hb
    omega
  have da : (a.gcd b : Int) ∣ a := Int.gcd_dvd_left ..
  have db : (a.gcd b : Int) ∣ b := Int.gcd_dvd_right ..
  unfold fr
  rw [Rat.num_divInt, Rat.den_divInt, if_neg hb, Int.gcd_comm b a]
  by_cases n : b < 0
  · rw [if_pos n] at hc
    have ec : c = -(a.gcd b : Int) := by omega
    subst ec
    rw [Int.fdiv_eq_ediv_of_dvd (Int.neg_dvd.mpr da), Int.fdiv_eq_ediv_of_dvd (Int.neg_dvd.mpr db), Int.ediv_neg, Int.ediv_neg, Int.sign_eq_neg_one_of_neg n, Int.neg_one_mul, Int.neg_ediv_of_dvd da]
    congr 3
    rw [Int.natCast_ediv, Int.ofNat_natAbs_of_nonpos (by omega), Int.neg_ediv_of_dvd db]
  · rw [if_neg n] at hc
    subst hc
    rw [Int.fdiv_eq_ediv_of_dvd da, Int.fdiv_eq_ediv_of_dvd db, Int.sign_eq_one_of_pos (by omega), Int.one_mul]
    congr 3
    rw [Int.natCast_ediv, Int.natAbs_of_nonneg (by omega)]
theorem gcd_lt {a b : Int} (hb : b ≠ 0) (h : b.natAbs < 2 ^ 9000) : (a.gcd b) < 2 ^ 9000 := by
  refine Nat.lt_of_le_of_lt (Nat.le_of_dvd (by omega) ?_) h
  have := Int.gcd_dvd_right (a := a) (b := b)
  rw [← Int.natAbs_dvd_natAbs, Int.natAbs_natCast] at this
  exact this
theorem frac_ok {a b : Int} (hb : b ≠ 0) (h1 : a.natAbs < 2 ^ 9000) (h2 : b.natAbs < 2 ^ 9000) : sem (n + 2) 2 [.int a, .int b] g = .ok (fr (Rat.divInt a b)) g := by
  rw [sem_def rfl rfl (by decide)]
  have hg := gcd_lt (a := a) hb h2
  have g0 : (a.gcd b : Int) ≠ 0 := by
    have := Int.gcd_ne_zero_right (a := a) hb
    omega
  have ne : (b == 0) = false := beq_false_of_ne hb
  refine w_F (w_nx (w_ife (k := false) (u_val (v_op2 (v_var rfl) v_lit ((eqI _ _).trans (by rw [ne])))) (ifF.trans w_nil)) ?_)
  refine w_nx (w_set (v_call (v_cons (v_var rfl) (v_cons (v_var rfl) v_nil)) (gcd_ok h1 h2))) ?_
  generalize hc : (if b < 0 then 0 - (a.gcd b : Int) else (a.gcd b : Int)) = c
  have c0 : c ≠ 0 := by rw [← hc]; split <;> omega
  have cl : c.natAbs < 2 ^ 9000 := by
    have : c.natAbs = a.gcd b := by rw [← hc]; split <;> omega
    rw [this]; exact hg
  refine w_nx (w_set (g1 := g) (x := .int c) (v_ite (k := decide (b < 0)) (u_val (v_op2 (v_var rfl) v_lit rfl)) ?_)) ?_
  · by_cases s : b < 0
    · rw [decide_eq_true s]
      refine ifT.trans ?_
      rw [if_pos s] at hc
      rw [← hc]
      exact v_op2 v_lit (v_var rfl) rfl
    · rw [decide_eq_false s]
      refine ifF.trans ?_
      rw [if_neg s] at hc
      rw [← hc]
      exact v_var rfl
  · refine w_rt (w_ret ?_)
    rw [← frac_eq hb c hc.symm]
    exact v_tup (v_cons (v_op2 (v_var rfl) (v_var rfl) (fdv_ok c0 cl)) (v_cons (v_op2 (v_var rfl) (v_var rfl) (fdv_ok c0 cl)) v_nil)) (by show 2 ≤ 1000; decide)
end
/-! ### the law's own -/
section
variable {Fn : Nat → List PD → M PD} {g : List PD} {n : Nat}
def envH (x : Int) (y : Nat) : EnvD := [.d (.int x), .d (.int y)]
theorem lgcd_step {x : Int} {y m : Nat} {o : Out Fl} (y0 : y ≠ 0) (h : evWh (fun e => evT Fn lwK (tOfW ir50) e) (fun e => evSs Fn lwK (bOfW ir50) e) m (envH y (x % y).toNat) g = o) : evWh (fun e => evT Fn lwK (tOfW ir50) e) (fun e => evSs Fn lwK (bOfW ir50) e) (m + 1) (envH x y) g = o := by
  have ne : (!((y : Int) == 0)) = true := by simp; omega
  refine wh_step (env' := envH y (x % y).toNat) (u_val (v_op2 (v_var rfl) v_lit ((neI _ _).trans (by rw [ne])))) ?_ h
  have e : x.fmod y = ((x % y).toNat : Int) := by
    rw [Int.fmod_eq_emod_of_nonneg _ (by omega), Int.toNat_of_nonneg (Int.emod_nonneg _ (by omega))]
  refine w_nx (w_par (x := .int y) (s1 := .d (.int y)) (y := .int ((x % y).toNat : Int)) (s2 := .d (.int ((x % y).toNat : Int))) (v_var rfl) rfl (v_op2 (v_var rfl) (v_var rfl) ((mod_ok (by omega)).trans (by rw [e]))) rfl ⟨by show 0 < 2; decide, by show 1 < 2; decide, by decide⟩) w_nil
theorem lgcd_loop : ∀ (k m x y : Nat), steps k x y → k < m → evWh (fun e => evT Fn lwK (tOfW ir50) e) (fun e => evSs Fn lwK (bOfW ir50) e) m (envH x y) g = .ok (.nx (envH (x.gcd y : Nat) 0)) g := by
  intro k
  induction k with
  | zero =>
    intro m x y h hm
    cases m with
    | zero => omega
    | succ m =>
      have h : y = 0 := h
      subst h
      rw [Nat.gcd_zero_right]
      exact wh_end (u_val (v_op2 (v_var rfl) v_lit (neI _ _)))
  | succ k ih =>
    intro m x y h hm
    cases m with
    | zero => omega
    | succ m =>
      by_cases y0 : y = 0
      · subst y0
        rw [Nat.gcd_zero_right]
        exact wh_end (u_val (v_op2 (v_var rfl) v_lit (neI _ _)))
      · have h' : steps k y (x % y) := h.resolve_left y0
        have e : x.gcd y = y.gcd (x % y) := by rw [Nat.gcd_comm x y, Nat.gcd_rec y x, Nat.gcd_comm]
        rw [e]
        refine lgcd_step y0 ?_
        have e2 : ((x : Int) % y).toNat = x % y := by rw [← Int.natCast_emod, Int.toNat_natCast]
        rw [e2]
        exact ih m y (x % y) h' (by omega)
theorem lgcd_ok {a : Int} {b : Nat} (h0 : b ≠ 0) (hb : b < 2 ^ 9000) : sem (n + 1) 50 [.int a, .int b] g = .ok (.int (a.gcd b)) g := by
  rw [sem_def rfl rfl (by decide)]
  have hl : (a % b).toNat < 2 ^ 9000 := by
    have := Int.emod_lt_of_pos a (show (0 : Int) < b by omega)
    have := Int.emod_nonneg a (show (b : Int) ≠ 0 by omega)
    omega
  have e : (b.gcd (a % b).toNat) = a.gcd b := by
    have h1 : (b : Int).gcd (a % b) = (b : Int).gcd a := by rw [Int.emod_def]; exact Int.gcd_sub_mul_left_right ..
    rw [Int.gcd_comm a, ← h1]
    show b.gcd (a % b).toNat = (b : Int).natAbs.gcd (a % b).natAbs
    rw [Int.natAbs_natCast]
    congr 1
    have := Int.emod_nonneg a (show (b : Int) ≠ 0 by omega)
    omega
  refine w_F (w_nx (w_whl (lgcd_step (m := 99999) h0 (lgcd_loop 18001 99999 b (a % b).toNat (steps_of 9000 _ _ hl) (by decide)))) ?_)
  rw [e]
  refine w_rt (w_ret (v_blt (v_var rfl) ?_))
  rw [abs_is, Int.natAbs_natCast]
theorem lfrac_ok {a b : Int} (hb : b ≠ 0) (h2 : b.natAbs < 2 ^ 9000) : sem (n + 2) 51 [.int a, .int b] g = .ok (fr (Rat.divInt a b)) g := by
  rw [sem_def rfl rfl (by decide)]
  by_cases s : b < 0
  · refine w_F (w_nx (w_ife (k := true) (u_val (v_op2 (v_var rfl) v_lit (show some (PyData.bool (decide (b < 0))) = _ by rw [decide_eq_true s]))) (ifT.trans (w_nx (w_par (x := .int (-a)) (s1 := .d (.int (-a))) (y := .int (-b)) (s2 := .d (.int (-b))) (v_neg (v_var rfl)) rfl (v_neg (v_var rfl)) rfl ⟨by show 0 < 3; decide, by show 1 < 3; decide, by decide⟩) w_nil))) ?_)
    obtain ⟨c, hc⟩ : ∃ c : Nat, -b = c := ⟨(-b).toNat, by omega⟩
    have hq : Rat.divInt a b = Rat.divInt (-a) (-b) := by rw [Rat.divInt_neg', Int.neg_neg]
    rw [hq, hc]
    have c0 : c ≠ 0 := by omega
    have cl : c < 2 ^ 9000 := by omega
    have hg := gcd_lt (a := -a) (b := (c : Int)) (by omega) (by rw [Int.natAbs_natCast]; exact cl)
    have g0 : (((-a).gcd c : Nat) : Int) ≠ 0 := by
      have := Int.gcd_ne_zero_right (a := -a) (b := (c : Int)) (by omega)
      omega
    refine w_nx (w_set (v_call (v_cons (v_var rfl) (v_cons (v_var rfl) v_nil)) (lgcd_ok c0 cl))) (w_rt (w_ret ?_))
    rw [← frac_eq (a := -a) (b := (c : Int)) (by omega) _ (if_neg (by omega)).symm]
    exact v_tup (v_cons (v_op2 (v_var rfl) (v_var rfl) (fdv_ok g0 (by rw [Int.natAbs_natCast]; exact hg))) (v_cons (v_op2 (v_var rfl) (v_var rfl) (fdv_ok g0 (by rw [Int.natAbs_natCast]; exact hg))) v_nil)) (by show 2 ≤ 1000; decide)
  · refine w_F (w_nx (w_ife (k := false) (u_val (v_op2 (v_var rfl) v_lit (show some (PyData.bool (decide (b < 0))) = _ by rw [decide_eq_false s]))) (ifF.trans w_nil)) ?_)
    obtain ⟨c, rfl⟩ : ∃ c : Nat, b = c := ⟨b.toNat, by omega⟩
    have c0 : c ≠ 0 := by omega
    have cl : c < 2 ^ 9000 := by omega
    have hg := gcd_lt (a := a) (b := (c : Int)) (by omega) (by rw [Int.natAbs_natCast]; exact cl)
    have g0 : ((a.gcd c : Nat) : Int) ≠ 0 := by
      have := Int.gcd_ne_zero_right (a := a) (b := (c : Int)) (by omega)
      omega
    refine w_nx (w_set (v_call (v_cons (v_var rfl) (v_cons (v_var rfl) v_nil)) (lgcd_ok c0 cl))) (w_rt (w_ret ?_))
    rw [← frac_eq (a := a) (b := (c : Int)) (by omega) _ (if_neg (by omega)).symm]
    exact v_tup (v_cons (v_op2 (v_var rfl) (v_var rfl) (fdv_ok g0 (by rw [Int.natAbs_natCast]; exact hg))) (v_cons (v_op2 (v_var rfl) (v_var rfl) (fdv_ok g0 (by rw [Int.natAbs_natCast]; exact hg))) v_nil)) (by show 2 ≤ 1000; decide)
end
end G

/-! Sums, products and so on of fractions. -/
namespace G
open PySem PySem.Spec PyProof.Rows L2 Fq
theorem up {a n : Nat} (h : a < 2 ^ n) (l : n ≤ 9000) : a < 2 ^ 9000 := Nat.lt_of_lt_of_le h (Nat.pow_le_pow_right (by decide) l)
section
variable {n n1 n2 : Nat} {g : List PD} {a b : Rat}
theorem num_ok (ha : Sz n1 a) : a.num.natAbs < 2 ^ n1 := ha.1
theorem den_ok (ha : Sz n1 a) : ((a.den : Int)).natAbs < 2 ^ n1 := by rw [Int.natAbs_natCast]; exact ha.2
theorem plus_ok (ha : Sz n1 a) (hb : Sz n2 b) (hn : n1 + n2 + 1 ≤ 9000) : sem (n + 3) 4 [fr a, fr b] g = .ok (fr (a + b)) g := by
  rw [sem_def rfl rfl (by decide)]
  have h := frac_ok (n := n) (g := g) (dens_ne a b) (up (top_add ha hb) hn) (up (bot_mul ha hb) (by omega))
  rw [← add_is] at h
  refine w_F (w_rt (w_ret (v_call (v_cons (v_op2 (v_op2 (v_op2 (v_var rfl) v_lit fr0) (v_op2 (v_var rfl) v_lit fr1) (mul_ok (num_ok ha) (den_ok hb) (by omega) (by omega))) (v_op2 (v_op2 (v_var rfl) v_lit fr0) (v_op2 (v_var rfl) v_lit fr1) (mul_ok (num_ok hb) (den_ok ha) (by omega) (by omega))) rfl)
    (v_cons (v_op2 (v_op2 (v_var rfl) v_lit fr1) (v_op2 (v_var rfl) v_lit fr1) (mul_ok (den_ok ha) (den_ok hb) (by omega) (by omega))) v_nil)) h)))
theorem fr_neg : PyData.tuple [.int (0 - b.num), .int b.den] = fr (-b) := by
  unfold fr
  rw [Rat.neg_num, Rat.neg_den, Int.zero_sub]
theorem neg_ok : sem (n + 1) 5 [fr b] g = .ok (fr (-b)) g := by
  rw [sem_def rfl rfl (by decide)]
  rw [← fr_neg]
  exact w_F (w_rt (w_ret (v_tup (v_cons (v_op2 v_lit (v_op2 (v_var rfl) v_lit fr0) rfl) (v_cons (v_op2 (v_var rfl) v_lit fr1) v_nil)) (by show 2 ≤ 1000; decide))))
theorem less_ok (ha : Sz n1 a) (hb : Sz n2 b) (hn : n1 + n2 + 1 ≤ 9000) : sem (n + 4) 6 [fr a, fr b] g = .ok (fr (a - b)) g := by
  rw [sem_def rfl rfl (by decide), Rat.sub_eq_add_neg]
  exact w_F (w_rt (w_ret (v_call (v_cons (v_var rfl) (v_cons (v_call (v_cons (v_var rfl) v_nil) (neg_ok (n := n + 2))) v_nil)) (plus_ok ha hb.neg hn))))
theorem times_ok (ha : Sz n1 a) (hb : Sz n2 b) (hn : n1 + n2 ≤ 9000) : sem (n + 3) 7 [fr a, fr b] g = .ok (fr (a * b)) g := by
  rw [sem_def rfl rfl (by decide)]
  have ht : (a.num * b.num).natAbs < 2 ^ (n1 + n2) := by rw [Int.natAbs_mul]; exact lt_mul2 ha.1 hb.1
  have h := frac_ok (n := n) (g := g) (dens_ne a b) (up ht hn) (up (bot_mul ha hb) (by omega))
  rw [← mul_is] at h
  exact w_F (w_rt (w_ret (v_call (v_cons (v_op2 (v_op2 (v_var rfl) v_lit fr0) (v_op2 (v_var rfl) v_lit fr0) (mul_ok (num_ok ha) (num_ok hb) (by omega) (by omega)))
    (v_cons (v_op2 (v_op2 (v_var rfl) v_lit fr1) (v_op2 (v_var rfl) v_lit fr1) (mul_ok (den_ok ha) (den_ok hb) (by omega) (by omega))) v_nil)) h)))
theorem over_facts (ha : Sz n1 a) (hb : Sz n2 b) (hb0 : b ≠ 0) : (a.den : Int) * b.num ≠ 0 ∧ (a.num * b.den).natAbs < 2 ^ (n1 + n2) ∧ ((a.den : Int) * b.num).natAbs < 2 ^ (n1 + n2) := by
  have hn : b.num ≠ 0 := fun z => hb0 (Rat.num_eq_zero.mp z)
  refine ⟨Int.mul_ne_zero (by have := a.den_nz; omega) hn, ?_, ?_⟩
  · rw [Int.natAbs_mul, Int.natAbs_natCast]; exact lt_mul2 ha.1 hb.2
  · rw [Int.natAbs_mul, Int.natAbs_natCast]; exact lt_mul2 ha.2 hb.1
theorem over_ok (ha : Sz n1 a) (hb : Sz n2 b) (hb0 : b ≠ 0) (hn : n1 + n2 ≤ 9000) : sem (n + 3) 8 [fr a, fr b] g = .ok (fr (a / b)) g := by
  rw [sem_def rfl rfl (by decide)]
  obtain ⟨h0, h1, h2⟩ := over_facts ha hb hb0
  have h := frac_ok (n := n) (g := g) h0 (up h1 hn) (up h2 hn)
  rw [← div_is a b hb0] at h
  exact w_F (w_rt (w_ret (v_call (v_cons (v_op2 (v_op2 (v_var rfl) v_lit fr0) (v_op2 (v_var rfl) v_lit fr1) (mul_ok (num_ok ha) (den_ok hb) (by omega) (by omega)))
    (v_cons (v_op2 (v_op2 (v_var rfl) v_lit fr1) (v_op2 (v_var rfl) v_lit fr0) (mul_ok (den_ok ha) (num_ok hb) (by omega) (by omega))) v_nil)) h)))
theorem whole_ok {k : Int} : sem (n + 1) 3 [.int k] g = .ok (fr k) g := by
  rw [sem_def rfl rfl (by decide)]
  have e : PyData.tuple [.int k, .int 1] = fr k := by unfold fr; rw [Rat.num_intCast, Rat.den_intCast]; rfl
  rw [← e]
  exact w_F (w_rt (w_ret (v_tup (v_cons (v_var rfl) (v_cons v_lit v_nil)) (by show 2 ≤ 1000; decide))))
/-- the sign -/
theorem sign_eq : HX.bi (decide (0 < a.num)) - HX.bi (decide (a.num < 0)) = cmpR a 0 := by
  unfold HX.bi cmpR
  by_cases h : a < 0
  · have h1 := num_neg_iff.mpr h
    have h2 : ¬ 0 < a.num := by omega
    simp [h, h1, h2]
  · have h1 := mt num_neg_iff.mp h
    by_cases k : 0 < a
    · have k1 := num_pos_iff.mpr k
      simp [h, h1, k, k1]
    · have k1 := mt num_pos_iff.mp k
      simp [h, h1, k, k1]
theorem cmpR_sub : cmpR (a - b) 0 = cmpR a b := by
  unfold cmpR
  have e1 : (a - b < 0) = (a < b) := by apply propext; constructor <;> intro h <;> grind
  have e2 : (0 < a - b) = (b < a) := by apply propext; constructor <;> intro h <;> grind
  simp only [e1, e2]
theorem sign_ok : sem (n + 1) 9 [fr a] g = .ok (.int (cmpR a 0)) g := by
  rw [sem_def rfl rfl (by decide), ← sign_eq]
  exact w_F (w_rt (w_ret (v_op2 (v_op2 (v_op2 (v_var rfl) v_lit fr0) v_lit rfl) (v_op2 (v_op2 (v_var rfl) v_lit fr0) v_lit rfl) rfl)))
theorem comp_ok (ha : Sz n1 a) (hb : Sz n2 b) (hn : n1 + n2 + 1 ≤ 9000) : sem (n + 5) 10 [fr a, fr b] g = .ok (.int (cmpR a b)) g := by
  rw [sem_def rfl rfl (by decide), ← cmpR_sub]
  exact w_F (w_rt (w_ret (v_call (v_cons (v_call (v_cons (v_var rfl) (v_cons (v_var rfl) v_nil)) (less_ok ha hb hn)) v_nil) (sign_ok (n := n + 3)))))
/-! the law's -/
theorem lplus_ok (ha : Sz n1 a) (hb : Sz n2 b) (hn : n1 + n2 + 1 ≤ 9000) : sem (n + 3) 52 [fr a, fr b] g = .ok (fr (a + b)) g := by
  rw [sem_def rfl rfl (by decide)]
  have h := lfrac_ok (n := n) (g := g) (a := a.num * b.den + b.num * a.den) (dens_ne a b) (up (bot_mul ha hb) (by omega))
  rw [← add_is] at h
  refine w_F (w_rt (w_ret (v_call (v_cons (v_op2 (v_op2 (v_op2 (v_var rfl) v_lit fr0) (v_op2 (v_var rfl) v_lit fr1) (mul_ok (num_ok ha) (den_ok hb) (by omega) (by omega))) (v_op2 (v_op2 (v_var rfl) v_lit fr0) (v_op2 (v_var rfl) v_lit fr1) (mul_ok (num_ok hb) (den_ok ha) (by omega) (by omega))) rfl)
    (v_cons (v_op2 (v_op2 (v_var rfl) v_lit fr1) (v_op2 (v_var rfl) v_lit fr1) (mul_ok (den_ok ha) (den_ok hb) (by omega) (by omega))) v_nil)) h)))
theorem ltimes_ok (ha : Sz n1 a) (hb : Sz n2 b) (hn : n1 + n2 ≤ 9000) : sem (n + 3) 53 [fr a, fr b] g = .ok (fr (a * b)) g := by
  rw [sem_def rfl rfl (by decide)]
  have h := lfrac_ok (n := n) (g := g) (a := a.num * b.num) (dens_ne a b) (up (bot_mul ha hb) (by omega))
  rw [← mul_is] at h
  exact w_F (w_rt (w_ret (v_call (v_cons (v_op2 (v_op2 (v_var rfl) v_lit fr0) (v_op2 (v_var rfl) v_lit fr0) (mul_ok (num_ok ha) (num_ok hb) (by omega) (by omega)))
    (v_cons (v_op2 (v_op2 (v_var rfl) v_lit fr1) (v_op2 (v_var rfl) v_lit fr1) (mul_ok (den_ok ha) (den_ok hb) (by omega) (by omega))) v_nil)) h)))
theorem fr_neg' : PyData.tuple [.int (-b.num), .int b.den] = fr (-b) := by
  unfold fr
  rw [Rat.neg_num, Rat.neg_den]
theorem lless_ok (ha : Sz n1 a) (hb : Sz n2 b) (hn : n1 + n2 + 1 ≤ 9000) : sem (n + 4) 54 [fr a, fr b] g = .ok (fr (a - b)) g := by
  rw [sem_def rfl rfl (by decide), Rat.sub_eq_add_neg]
  refine w_F (w_rt (w_ret (v_call (v_cons (v_var rfl) (v_cons (x := fr (-b)) ?_ v_nil)) (lplus_ok ha hb.neg hn))))
  rw [← fr_neg']
  exact v_tup (v_cons (v_neg (v_op2 (v_var rfl) v_lit fr0)) (v_cons (v_op2 (v_var rfl) v_lit fr1) v_nil)) (by show 2 ≤ 1000; decide)
theorem lover_ok (ha : Sz n1 a) (hb : Sz n2 b) (hb0 : b ≠ 0) (hn : n1 + n2 ≤ 9000) : sem (n + 3) 55 [fr a, fr b] g = .ok (fr (a / b)) g := by
  rw [sem_def rfl rfl (by decide)]
  obtain ⟨h0, h1, h2⟩ := over_facts ha hb hb0
  have h := lfrac_ok (n := n) (g := g) (a := a.num * b.den) h0 (up h2 hn)
  rw [← div_is a b hb0] at h
  exact w_F (w_rt (w_ret (v_call (v_cons (v_op2 (v_op2 (v_var rfl) v_lit fr0) (v_op2 (v_var rfl) v_lit fr1) (mul_ok (num_ok ha) (den_ok hb) (by omega) (by omega)))
    (v_cons (v_op2 (v_op2 (v_var rfl) v_lit fr1) (v_op2 (v_var rfl) v_lit fr0) (mul_ok (den_ok ha) (num_ok hb) (by omega) (by omega))) v_nil)) h)))
theorem lcmp_eq : HX.bi (decide (b.num * a.den < a.num * b.den)) - HX.bi (decide (a.num * b.den < b.num * a.den)) = cmpR a b := by
  have h1 := Rat.lt_iff a b
  have h2 := Rat.lt_iff b a
  unfold HX.bi cmpR
  by_cases h : a < b
  · have k := h1.mp h
    have k2 : ¬ b.num * a.den < a.num * b.den := by omega
    simp [h, k, k2]
  · have k := mt h1.mpr h
    by_cases l : b < a
    · have l1 := h2.mp l
      simp [h, k, l, l1]
    · have l1 := mt h2.mpr l
      simp [h, k, l, l1]
theorem lcomp_ok (ha : Sz n1 a) (hb : Sz n2 b) (hn : n1 + n2 + 1 ≤ 9000) : sem (n + 1) 56 [fr a, fr b] g = .ok (.int (cmpR a b)) g := by
  rw [sem_def rfl rfl (by decide), ← lcmp_eq]
  refine w_F (w_nx (w_par (x := .int (a.num * b.den)) (s1 := .d (.int (a.num * b.den))) (y := .int (b.num * a.den)) (s2 := .d (.int (b.num * a.den))) (v_op2 (v_op2 (v_var rfl) v_lit fr0) (v_op2 (v_var rfl) v_lit fr1) (mul_ok (num_ok ha) (den_ok hb) (by omega) (by omega))) rfl
    (v_op2 (v_op2 (v_var rfl) v_lit fr0) (v_op2 (v_var rfl) v_lit fr1) (mul_ok (num_ok hb) (den_ok ha) (by omega) (by omega))) rfl ⟨by show 2 < 4; decide, by show 3 < 4; decide, by decide⟩) ?_)
  exact w_rt (w_ret (v_op2 (v_op2 (v_var rfl) (v_var rfl) rfl) (v_op2 (v_var rfl) (v_var rfl) rfl) rfl))
end
end G

/-! Polynomials as lists of coefficients without zeros at the end. -/
namespace Fq
/-- the coefficient k -/
def co : List Rat → Nat → Rat
  | [], _ => 0
  | x :: _, 0 => x
  | _ :: xs, k + 1 => co xs k
def tr : List Rat → List Rat
  | [] => []
  | x :: xs => match tr xs with
    | [] => if x = 0 then [] else [x]
    | y :: ys => x :: y :: ys
def Tm (l : List Rat) : Prop := tr l = l
theorem co_tr : ∀ (l : List Rat) (k : Nat), co (tr l) k = co l k
  | [], _ => rfl
  | x :: xs, k => by
    have ih := co_tr xs
    unfold tr
    cases e : tr xs with
    | nil =>
      rw [e] at ih
      by_cases h : x = 0
      · rw [if_pos h]
        cases k with
        | zero => exact h.symm
        | succ k => exact ih k
      · rw [if_neg h]
        cases k with
        | zero => rfl
        | succ k => exact ih k
    | cons y ys =>
      rw [e] at ih
      cases k with
      | zero => rfl
      | succ k => exact ih k
theorem tr_nil_of : ∀ (l : List Rat), (∀ k, co l k = 0) → tr l = []
  | [], _ => rfl
  | x :: xs, h => by
    unfold tr
    rw [tr_nil_of xs fun k => h (k + 1)]
    exact if_pos (h 0)
/-- what has the same coefficients -/
theorem tr_ext : ∀ (l m : List Rat), (∀ k, co l k = co m k) → tr l = tr m
  | [], m, h => (tr_nil_of m fun k => (h k).symm).symm
  | x :: xs, [], h => tr_nil_of (x :: xs) h
  | x :: xs, y :: ys, h => by
    have e : x = y := h 0
    subst e
    unfold tr
    rw [tr_ext xs ys fun k => h (k + 1)]
theorem tr_tr (l : List Rat) : tr (tr l) = tr l := tr_ext _ _ (co_tr l)
theorem tm_tr (l : List Rat) : Tm (tr l) := tr_tr l
theorem tm_nil : Tm [] := rfl
theorem tm_ext {l m : List Rat} (h1 : Tm l) (h2 : Tm m) (h : ∀ k, co l k = co m k) : l = m := by rw [← h1, ← h2]; exact tr_ext _ _ h
theorem tr_snoc0 (xs : List Rat) : tr (xs ++ [0]) = tr xs := tr_ext _ _ fun k => by
  induction xs generalizing k with
  | nil => cases k <;> rfl
  | cons x xs ih => cases k with
    | zero => rfl
    | succ k => exact ih k
theorem tr_snoc : ∀ (xs : List Rat) {x : Rat}, x ≠ 0 → tr (xs ++ [x]) = xs ++ [x]
  | [], x, h => by show (if x = 0 then [] else [x]) = [x]; rw [if_neg h]
  | y :: ys, x, h => by
    show tr (y :: (ys ++ [x])) = y :: (ys ++ [x])
    unfold tr
    rw [tr_snoc ys h]
    cases ys <;> rfl
theorem tr_drop : ∀ (l : List Rat) (j : Nat), tr (l.drop j) = (tr l).drop j
  | [], j => by rw [List.drop_nil]; show [] = ([] : List Rat).drop j; rw [List.drop_nil]
  | x :: xs, 0 => rfl
  | x :: xs, j + 1 => by
    show tr (xs.drop j) = (tr (x :: xs)).drop (j + 1)
    rw [tr_drop xs j]
    show _ = (match tr xs with | [] => if x = 0 then [] else [x] | y :: ys => x :: y :: ys).drop (j + 1)
    cases tr xs with
    | nil => by_cases h : x = 0 <;> simp [h]
    | cons y ys => rfl
theorem tr_len : ∀ l : List Rat, (tr l).length ≤ l.length
  | [] => Nat.le_refl _
  | x :: xs => by
    have := tr_len xs
    unfold tr
    cases e : tr xs with
    | nil => by_cases h : x = 0 <;> simp [h]
    | cons y ys => rw [e] at this; simpa using this
theorem co_get {l : List Rat} {k : Nat} (h : k < l.length) : l[k]? = some (co l k) := by
  induction l generalizing k with
  | nil => simp at h
  | cons x xs ih => cases k with
    | zero => rfl
    | succ k =>
      rw [List.getElem?_cons_succ]
      exact ih (by simpa using h)
theorem co_out {l : List Rat} {k : Nat} (h : l.length ≤ k) : co l k = 0 := by
  induction l generalizing k with
  | nil => rfl
  | cons x xs ih => cases k with
    | zero => simp at h
    | succ k => exact ih (by simpa using h)
theorem mem_co {l : List Rat} {x : Rat} (h : x ∈ l) : ∃ k, k < l.length ∧ x = co l k := by
  obtain ⟨k, hk, e⟩ := List.mem_iff_getElem.mp h
  refine ⟨k, hk, ?_⟩
  have := co_get hk
  rw [List.getElem?_eq_getElem hk] at this
  rw [← e]
  exact Option.some.inj this
theorem co_map {f : Rat → Rat} (h0 : f 0 = 0) : ∀ (l : List Rat) (k : Nat), co (l.map f) k = f (co l k)
  | [], k => h0.symm
  | x :: xs, 0 => rfl
  | x :: xs, k + 1 => co_map h0 xs k
theorem co_range {f : Nat → Rat} {n k : Nat} : co ((List.range n).map f) k = if k < n then f k else 0 := by
  by_cases h : k < n
  · rw [if_pos h]
    have := co_get (l := (List.range n).map f) (k := k) (by simpa using h)
    rw [List.getElem?_map, List.getElem?_range h] at this
    exact (Option.some.inj this).symm
  · rw [if_neg h, co_out (by simpa using h)]
/-! sums, multiples, products with a linear -/
def addP (p q : List Rat) : List Rat := tr ((List.range (max p.length q.length)).map fun k => co p k + co q k)
theorem co_addP {p q : List Rat} (k : Nat) : co (addP p q) k = co p k + co q k := by
  unfold addP
  rw [co_tr, co_range]
  by_cases h : k < max p.length q.length
  · rw [if_pos h]
  · rw [if_neg h, co_out (l := p) (by omega), co_out (l := q) (by omega)]
    exact (Rat.add_zero 0).symm
def scP (p : List Rat) (f : Rat) : List Rat := tr (p.map (· * f))
theorem co_scP {p : List Rat} {f : Rat} (k : Nat) : co (scP p f) k = co p k * f := by
  unfold scP
  rw [co_tr, co_map (f := (· * f)) (Rat.zero_mul f)]
/-- p times b + a x -/
def mulC (p : List Rat) (b a : Rat) : Nat → Rat
  | 0 => co p 0 * b
  | k + 1 => co p (k + 1) * b + co p k * a
def mulP (p : List Rat) (b a : Rat) : List Rat := tr ((List.range (p.length + 1)).map (mulC p b a))
theorem co_mulP {p : List Rat} {b a : Rat} (k : Nat) : co (mulP p b a) k = mulC p b a k := by
  unfold mulP
  rw [co_tr, co_range]
  by_cases h : k < p.length + 1
  · rw [if_pos h]
  · rw [if_neg h]
    cases k with
    | zero => omega
    | succ j =>
      show 0 = co p (j + 1) * b + co p j * a
      rw [co_out (l := p) (k := j + 1) (by omega), co_out (l := p) (k := j) (by omega)]
      grind
theorem mulP_nil {b a : Rat} : mulP [] b a = [] := tm_ext (tm_tr _) tm_nil fun k => by
  rw [co_mulP]
  cases k with
  | zero => show (0 : Rat) * b = 0; grind
  | succ k => show (0 : Rat) * b + 0 * a = 0; grind
def ledP (a b : Rat) : List Rat → List Rat
  | [] => []
  | c :: s => addP (mulP (ledP a b s) b a) (tr [c])
/-- its coefficients -/
def cL (a b : Rat) : List Rat → Nat → Rat
  | [], _ => 0
  | c :: s, 0 => cL a b s 0 * b + c
  | c :: s, k + 1 => cL a b s (k + 1) * b + cL a b s k * a
theorem co_ledP {a b : Rat} : ∀ (l : List Rat) (k : Nat), co (ledP a b l) k = cL a b l k
  | [], _ => rfl
  | c :: s, k => by
    show co (addP (mulP (ledP a b s) b a) (tr [c])) k = _
    rw [co_addP, co_mulP, co_tr]
    cases k with
    | zero =>
      unfold mulC
      rw [co_ledP s 0]
      rfl
    | succ k =>
      show co (ledP a b s) (k + 1) * b + co (ledP a b s) k * a + co [c] (k + 1) = _
      rw [co_ledP s (k + 1), co_ledP s k]
      show cL a b s (k + 1) * b + cL a b s k * a + 0 = cL a b s (k + 1) * b + cL a b s k * a
      grind
theorem tm_addP {p q : List Rat} : Tm (addP p q) := tm_tr _
theorem tm_scP {p : List Rat} {f : Rat} : Tm (scP p f) := tm_tr _
theorem tm_ledP {a b : Rat} : ∀ l : List Rat, Tm (ledP a b l)
  | [] => rfl
  | _ :: _ => tm_addP
theorem cL_out {a b : Rat} : ∀ (l : List Rat) (k : Nat), l.length ≤ k → cL a b l k = 0
  | [], _, _ => rfl
  | c :: s, 0, h => by simp at h
  | c :: s, k + 1, h => by
    have h' : s.length ≤ k := by simpa using h
    show cL a b s (k + 1) * b + cL a b s k * a = 0
    rw [cL_out s (k + 1) (by omega), cL_out s k h']
    grind
theorem cL_zero {a b : Rat} : ∀ (l : List Rat), (∀ k, co l k = 0) → ∀ k, cL a b l k = 0
  | [], _, _ => rfl
  | c :: s, h, k => by
    have ih := cL_zero (a := a) (b := b) s fun k => h (k + 1)
    have hc : c = 0 := h 0
    cases k with
    | zero => show cL a b s 0 * b + c = 0; rw [ih, hc]; grind
    | succ k => show cL a b s (k + 1) * b + cL a b s k * a = 0; rw [ih, ih]; grind
theorem cL_ext {a b : Rat} : ∀ (l m : List Rat), (∀ k, co l k = co m k) → ∀ k, cL a b l k = cL a b m k
  | [], m, h, k => (cL_zero m (fun k => (h k).symm) k).symm
  | x :: xs, [], h, k => cL_zero (x :: xs) h k
  | x :: xs, y :: ys, h, k => by
    have e : x = y := h 0
    subst e
    have ih := cL_ext (a := a) (b := b) xs ys fun k => h (k + 1)
    cases k with
    | zero => show cL a b xs 0 * b + x = cL a b ys 0 * b + x; rw [ih]
    | succ k => show cL a b xs (k + 1) * b + cL a b xs k * a = cL a b ys (k + 1) * b + cL a b ys k * a; rw [ih, ih]
theorem ledP_tr {a b : Rat} (l : List Rat) : ledP a b (tr l) = ledP a b l := tm_ext (tm_ledP _) (tm_ledP _) fun k => by rw [co_ledP, co_ledP, cL_ext _ _ (co_tr l)]
/-- Horner -/
def evP (f : Rat) : List Rat → Rat
  | [] => 0
  | c :: s => evP f s * f + c
theorem evP_zero {f : Rat} : ∀ (l : List Rat), (∀ k, co l k = 0) → evP f l = 0
  | [], _ => rfl
  | c :: s, h => by
    have hc : c = 0 := h 0
    show evP f s * f + c = 0
    rw [evP_zero s fun k => h (k + 1), hc]
    grind
theorem evP_ext {f : Rat} : ∀ (l m : List Rat), (∀ k, co l k = co m k) → evP f l = evP f m
  | [], m, h => (evP_zero m fun k => (h k).symm).symm
  | x :: xs, [], h => evP_zero (x :: xs) h
  | x :: xs, y :: ys, h => by
    have e : x = y := h 0
    subst e
    show evP f xs * f + x = evP f ys * f + x
    rw [evP_ext xs ys fun k => h (k + 1)]
theorem evP_tr {f : Rat} (l : List Rat) : evP f (tr l) = evP f l := evP_ext _ _ (co_tr l)
/-- growth -/
def grP (l : List Rat) : List Rat := tr ((List.range (l.length - 1)).map fun k => co l (k + 1) * ((k + 1 : Nat) : Rat))
theorem co_grP {l : List Rat} (k : Nat) : co (grP l) k = co l (k + 1) * ((k + 1 : Nat) : Rat) := by
  unfold grP
  rw [co_tr, co_range]
  by_cases h : k < l.length - 1
  · rw [if_pos h]
  · rw [if_neg h, co_out (l := l) (by omega)]
    exact (Rat.zero_mul _).symm
/-! the stretch between two keys -/
inductive Cv where | hold | line | ease | curve (x y : Rat)
/-- the shape over the stretch's own time -/
def shapeP (t a : Rat) (cv : Cv) (u b : Rat) : List Rat := match cv with
  | .hold => [a]
  | .line => [a, b - a]
  | .ease => [a, 0, 3 * (b - a), -2 * (b - a)]
  | .curve x y => [a, x * (u - t), 3 * (b - a) - (2 * (x * (u - t)) + y * (u - t)), x * (u - t) + y * (u - t) - 2 * (b - a)]
def segP (t a : Rat) (cv : Cv) (u b : Rat) : List Rat := match cv with
  | .hold => tr [a]
  | cv => ledP (1 / (u - t)) (0 - t * (1 / (u - t))) (shapeP t a cv u b)
/-- the program's road to lines and eases -/
theorem seg_line {t a u b : Rat} : addP (tr [a]) (scP (ledP (1 / (u - t)) (0 - t * (1 / (u - t))) [0, 1]) (b - a)) = segP t a .line u b :=
  tm_ext tm_addP (tm_ledP _) fun k => by
    rw [co_addP, co_tr, co_scP, co_ledP, show segP t a .line u b = ledP (1 / (u - t)) (0 - t * (1 / (u - t))) [a, b - a] from rfl, co_ledP]
    match k with
    | 0 => simp only [co, cL]; grind
    | 1 => simp only [co, cL]; grind
    | k + 2 => simp only [co, cL]; grind
theorem seg_ease {t a u b : Rat} : addP (tr [a]) (scP (ledP (1 / (u - t)) (0 - t * (1 / (u - t))) [0, 0, 3, -2]) (b - a)) = segP t a .ease u b :=
  tm_ext tm_addP (tm_ledP _) fun k => by
    rw [co_addP, co_tr, co_scP, co_ledP, show segP t a .ease u b = ledP (1 / (u - t)) (0 - t * (1 / (u - t))) [a, 0, 3 * (b - a), -2 * (b - a)] from rfl, co_ledP]
    generalize 1 / (u - t) = p
    generalize 0 - t * p = q
    match k with
    | 0 => simp only [co, cL]; grind
    | 1 => simp only [co, cL]; grind
    | 2 => simp only [co, cL]; grind
    | 3 => simp only [co, cL]; grind
    | k + 4 => simp only [co, cL]; grind
end Fq

/-! Polynomials: what the defs reckon. -/
namespace G
open PySem PySem.Spec PyProof.Rows L2 Fq
/-! shapes -/
/-- plain data, not deep -/
structure Wk (n : Nat) (d : PD) : Prop where
  no : noD d = true
  lay : d.canLay0 = true
  dep : d.depth ≤ n
theorem Wk.shp {n : Nat} {d : PD} (h : Wk n d) (l : n ≤ 64) : shp d = true := by
  unfold G.shp SeqAt.shaped
  rw [h.no, h.lay, decide_eq_true (Nat.le_trans h.dep l)]
  rfl
theorem Wk.up {n m : Nat} {d : PD} (h : Wk n d) (l : n ≤ m) : Wk m d := ⟨h.no, h.lay, Nat.le_trans h.dep l⟩
theorem wk_int {i : Int} : Wk 0 (.int i) := ⟨rfl, rfl, Nat.le_refl _⟩
theorem wk_bool {i : Bool} : Wk 0 (.bool i) := ⟨rfl, rfl, Nat.le_refl _⟩
theorem wk_none : Wk 0 .none := ⟨rfl, rfl, Nat.le_refl _⟩
theorem wk_all {n : Nat} : ∀ {ds : List PD}, (∀ d ∈ ds, Wk n d) → noDs ds = true ∧ PyData.canLayAll0 ds = true ∧ PyData.depthAll ds ≤ n
  | [], _ => ⟨rfl, rfl, Nat.zero_le _⟩
  | d :: ds, h => by
    obtain ⟨h1, h2, h3⟩ := wk_all fun d' hd => h d' (List.mem_cons_of_mem _ hd)
    have hd := h d List.mem_cons_self
    refine ⟨?_, ?_, ?_⟩
    · show (noD d && noDs ds) = true
      rw [hd.no, h1]; rfl
    · show (d.canLay0 && PyData.canLayAll0 ds) = true
      rw [hd.lay, h2]; rfl
    · show max d.depth (PyData.depthAll ds) ≤ n
      exact Nat.max_le.mpr ⟨hd.dep, h3⟩
theorem wk_tup {n : Nat} {ds : List PD} (h : ∀ d ∈ ds, Wk n d) : Wk (n + 1) (.tuple ds) := by
  obtain ⟨h1, h2, h3⟩ := wk_all h
  exact ⟨h1, h2, by show PyData.depthAll ds + 1 ≤ n + 1; omega⟩
theorem wk_lst {n : Nat} {ds : List PD} (h : ∀ d ∈ ds, Wk n d) : Wk (n + 1) (.list ds) := by
  obtain ⟨h1, h2, h3⟩ := wk_all h
  exact ⟨h1, h2, by show PyData.depthAll ds + 1 ≤ n + 1; omega⟩
theorem wk_fr {q : Rat} : Wk 1 (fr q) := wk_tup fun d hd => by
  rcases List.mem_cons.mp hd with rfl | hd
  · exact wk_int
  · rcases List.mem_cons.mp hd with rfl | hd
    · exact wk_int
    · cases hd
theorem wk_frs {l : List Rat} : ∀ d ∈ l.map fr, Wk 1 d := fun d hd => by
  obtain ⟨q, _, rfl⟩ := List.mem_map.mp hd
  exact wk_fr
/-- a polynomial; a list of fractions -/
def pf (l : List Rat) : PD := .tuple (l.map fr)
def lf (l : List Rat) : PD := .list (l.map fr)
theorem shp_pf {l : List Rat} : shp (pf l) = true := (wk_tup wk_frs).shp (by decide)
theorem shp_lf {l : List Rat} : shp (lf l) = true := (wk_lst wk_frs).shp (by decide)
theorem eqv_nil {ds : List PD} : PyData.eqv (.list ds) (.list []) = ds.isEmpty := by cases ds <;> rfl
theorem eqv_nilT {ds : List PD} : PyData.eqv (.tuple ds) (.tuple []) = ds.isEmpty := by cases ds <;> rfl
theorem ix_pf {l : List Rat} {k : Nat} (h : k < l.length) : opF .ix (pf l) (.int (k : Nat)) = some (fr (co l k)) := atI_nat (by rw [List.getElem?_map, co_get h]; rfl)
theorem ix_lf {l : List Rat} {k : Nat} (h : k < l.length) : opF .ix (lf l) (.int (k : Nat)) = some (fr (co l k)) := atI_nat (by rw [List.getElem?_map, co_get h]; rfl)
theorem at_last {ds : List PD} {d : PD} : atI (ds ++ [d]) (-1) = some d := by
  unfold atI ixN
  have h1 : ¬ (0 : Int) ≤ -1 := by decide
  rw [if_neg h1, if_pos (by rw [List.length_append]; simp; omega)]
  have e : (-1 + ((ds ++ [d]).length : Int)).toNat = ds.length := by rw [List.length_append]; simp; omega
  show (ds ++ [d])[(-1 + ((ds ++ [d]).length : Int)).toNat]? = some d
  rw [e, List.getElem?_append_right (Nat.le_refl _), Nat.sub_self]
  rfl
theorem num0 {q : Rat} : (q.num == 0) = decide (q = 0) := by
  by_cases h : q = 0
  · rw [decide_eq_true h, h]; rfl
  · rw [decide_eq_false h]
    exact beq_false_of_ne fun z => h (Rat.num_eq_zero.mp z)
theorem cmp0 {q : Rat} : (cmpR q 0 == 0) = decide (q = 0) := by
  unfold cmpR
  by_cases h : q < 0
  · have : q ≠ 0 := fun z => by rw [z] at h; exact Rat.lt_irrefl h
    rw [if_pos h, decide_eq_false this]; rfl
  · rw [if_neg h]
    by_cases k : 0 < q
    · have : q ≠ 0 := fun z => by rw [z] at k; exact Rat.lt_irrefl k
      rw [if_pos k, decide_eq_false this]; rfl
    · have : q = 0 := by grind
      rw [if_neg k, decide_eq_true this]; rfl
theorem cut_to {ds : List PD} {m : Nat} : cutP ds none (some (m : Int)) = ds.take m := by
  unfold cutP
  rw [HT.sIx_none, HT.sIx_nat, List.drop_zero, Nat.sub_zero]
  by_cases h : m ≤ ds.length
  · rw [Nat.min_eq_left h]
  · rw [Nat.min_eq_right (by omega), List.take_length, List.take_of_length_le (by omega)]
theorem cut_from {ds : List PD} {m : Nat} : cutP ds (some (m : Int)) none = ds.drop m := by
  unfold cutP
  rw [HT.sIx_none, HT.sIx_nat]
  by_cases h : m ≤ ds.length
  · rw [Nat.min_eq_left h, List.take_of_length_le (by rw [List.length_drop]; exact Nat.le_refl _)]
  · rw [Nat.min_eq_right (by omega), Nat.sub_self, List.take_zero, List.drop_of_length_le (by omega)]
section
variable {n : Nat} {g : List PD}
/-! poly_of -/
theorem take_snoc {l : List Rat} {m : Nat} (h : m < l.length) : l.take (m + 1) = l.take m ++ [co l m] := by
  rw [List.take_add_one, co_get h]
  rfl
theorem pof_loop {Fn : Nat → List PD → M PD} {X : PD} {l : List Rat} (hX : ∀ k, k < l.length → opF .ix X (.int (k : Nat)) = some (fr (co l k))) : ∀ (m f : Nat), m ≤ l.length → m < f →
    ∃ m', m' ≤ m ∧ l.take m' = tr (l.take m) ∧ evWh (fun e => evT Fn lwK (tOfW ir18) e) (fun e => evSs Fn lwK (bOfW ir18) e) f [.d X, .d (.int (m : Nat))] g = .ok (.nx [.d X, .d (.int (m' : Nat))]) g := by
  intro m
  induction m with
  | zero =>
    intro f hm hf
    cases f with
    | zero => omega
    | succ f => exact ⟨0, Nat.le_refl _, rfl, wh_end (u_and (u_val (v_op2 (v_var rfl) v_lit rfl)) ifF)⟩
  | succ m ih =>
    intro f hm hf
    cases f with
    | zero => omega
    | succ f =>
      have hl : m < l.length := hm
      have gt : opF .gt (.int ((m + 1 : Nat) : Int)) (.int 0) = some (.bool true) := by
        show some (PyData.bool (decide ((0 : Int) < ((m + 1 : Nat) : Int)))) = _
        rw [decide_eq_true (by omega)]
      have mi : opF .sub (.int ((m + 1 : Nat) : Int)) (.int 1) = some (.int (m : Nat)) := by
        show some (PyData.int (((m + 1 : Nat) : Int) - 1)) = _
        rw [show ((m + 1 : Nat) : Int) - 1 = (m : Int) by omega]
      have tst : ∀ b, decide (co l m = 0) = b → evT Fn lwK (tOfW ir18) [.d X, .d (.int ((m + 1 : Nat) : Int))] g = .ok b g := fun b hb =>
        u_and (u_val (v_op2 (v_var rfl) v_lit gt)) (ifT.trans (u_val (v_op2 (v_op2 (v_op2 (v_var rfl) (v_op2 (v_var rfl) v_lit mi) (hX m hl)) v_lit fr0) v_lit ((eqI _ _).trans (by rw [num0, hb])))))
      by_cases z : co l m = 0
      · obtain ⟨m', h1, h2, h3⟩ := ih f (by omega) (by omega)
        refine ⟨m', by omega, ?_, wh_step (tst true (decide_eq_true z)) (w_nx (w_set (v_op2 (v_var rfl) v_lit mi)) w_nil) h3⟩
        rw [take_snoc hl, z, tr_snoc0, h2]
      · exact ⟨m + 1, Nat.le_refl _, by rw [take_snoc hl, tr_snoc _ z], wh_end (tst false (decide_eq_false z))⟩
theorem pof_ok {l : List Rat} (hl : l.length ≤ 1000) : sem (n + 1) 18 [pf l] g = .ok (pf (tr l)) g := by
  rw [sem_def rfl rfl (by decide)]
  obtain ⟨m', h1, h2, h3⟩ := pof_loop (Fn := sem n) (g := g) (X := pf l) (l := l) (fun k hk => ix_pf hk) l.length fuel (Nat.le_refl _) (by unfold fuel; omega)
  rw [List.take_length] at h2
  refine w_F (w_nx (w_set (v_blt (v_var rfl) (show bltF .len (pf l) = some (.int (l.length : Nat)) by show some (PyData.int ((l.map fr).length : Nat)) = _; rw [List.length_map]))) (w_nx (w_whl h3) (w_rt (w_ret ?_))))
  refine v_blt (x := pf (tr l)) (v_sl (v_var rfl) v_on (v_os (v_var rfl)) ?_) rfl
  show some (PyData.tuple (cutP (l.map fr) none (some (m' : Int)))) = _
  rw [cut_to, ← List.map_take, h2]
  rfl
theorem pofL_ok {l : List Rat} (hl : l.length ≤ 1000) : sem (n + 1) 18 [lf l] g = .ok (pf (tr l)) g := by
  rw [sem_def rfl rfl (by decide)]
  obtain ⟨m', h1, h2, h3⟩ := pof_loop (Fn := sem n) (g := g) (X := lf l) (l := l) (fun k hk => ix_lf hk) l.length fuel (Nat.le_refl _) (by unfold fuel; omega)
  rw [List.take_length] at h2
  refine w_F (w_nx (w_set (v_blt (v_var rfl) (show bltF .len (lf l) = some (.int (l.length : Nat)) by show some (PyData.int ((l.map fr).length : Nat)) = _; rw [List.length_map]))) (w_nx (w_whl h3) (w_rt (w_ret ?_))))
  refine v_blt (x := lf (tr l)) (v_sl (v_var rfl) v_on (v_os (v_var rfl)) ?_) rfl
  show some (PyData.list (cutP (l.map fr) none (some (m' : Int)))) = _
  rw [cut_to, ← List.map_take, h2]
  rfl
/-! trimmed, _law_poly -/
theorem trm_loop {Fn : Nat → List PD → M PD} {t : Tx} {bd : Ss} {d0 : Sl} (hT : ∀ (l : List Rat) (x : Rat), evT Fn lwK t [d0, .own ((l ++ [x]).map fr)] g = .ok (decide (x = 0)) g) (h0 : evT Fn lwK t [d0, .own []] g = .ok false g)
    (hb : ∀ (l : List Rat) (x : Rat), evSs Fn lwK bd [d0, .own ((l ++ [x]).map fr)] g = .ok (.nx [d0, .own (l.map fr)]) g) : ∀ (k : Nat) (l : List Rat) (f : Nat), l.length = k → k < f →
    evWh (fun e => evT Fn lwK t e) (fun e => evSs Fn lwK bd e) f [d0, .own (l.map fr)] g = .ok (.nx [d0, .own ((tr l).map fr)]) g := by
  intro k
  induction k with
  | zero =>
    intro l f hl hf
    cases f with
    | zero => omega
    | succ f =>
      have e : l = [] := List.length_eq_zero_iff.mp hl
      subst e
      exact wh_end h0
  | succ k ih =>
    intro l f hl hf
    cases f with
    | zero => omega
    | succ f =>
      obtain ⟨xs, x, rfl⟩ : ∃ xs x, l = xs ++ [x] := by
        have ne : l ≠ [] := fun z => by rw [z] at hl; simp at hl
        exact ⟨l.dropLast, l.getLast ne, (List.dropLast_concat_getLast ne).symm⟩
      have hx : xs.length = k := by rw [List.length_append] at hl; simpa using hl
      by_cases z : x = 0
      · subst z
        rw [tr_snoc0]
        exact wh_step (by rw [hT]; rw [decide_eq_true rfl]) (hb xs 0) (ih xs f hx (by omega))
      · rw [tr_snoc _ z]
        exact wh_end (by rw [hT, decide_eq_false z])
theorem oem_t {Fn : Nat → List PD → M PD} {d0 : Sl} {l : List Rat} : evT Fn lwK (.val (.oem 1)) [d0, .own (l.map fr)] g = .ok (!l.isEmpty) g := by
  refine u_val ((v_oem rfl shp_lf).trans ?_)
  rw [eqv_nil]
  cases l <;> rfl
theorem pop_b {Fn : Nat → List PD → M PD} {d0 : Sl} {l : List Rat} {x : Rat} : evSs Fn lwK (.cons (.pop 1) .nil) [d0, .own ((l ++ [x]).map fr)] g = .ok (.nx [d0, .own (l.map fr)]) g := by
  refine w_nx (w_pop rfl (by simp)) ?_
  rw [List.map_append, List.map_cons, List.map_nil, List.dropLast_concat]
  exact w_nil
theorem trm_ok {l : List Rat} (hl : l.length ≤ 1000) : sem (n + 2) 32 [lf l] g = .ok (pf (tr l)) g := by
  rw [sem_def rfl rfl (by decide)]
  refine w_F (w_nx (w_setO (v_blt (z := .list (l.map fr)) (v_var rfl) rfl) (by show 1 < 2; decide)) (w_nx (w_whl (trm_loop (t := tOfW ir32) (bd := bOfW ir32) (d0 := .d (lf l)) (fun l x => ?_) ?_ (fun l x => pop_b) l.length l fuel rfl (by unfold fuel; omega))) (w_frz rfl (w_rt (w_ret (v_blt (v_var rfl) rfl))))))
  · refine u_and oem_t ?_
    rw [show (!(l ++ [x]).isEmpty) = true by simp]
    refine ifT.trans (u_val (v_op2 (v_call (v_cons (v_oix rfl (v_neg v_lit) (by rw [List.map_append]; exact at_last)) v_nil) sign_ok) v_lit ((eqI _ _).trans (by rw [cmp0]))))
  · exact u_and (oem_t (l := [])) ifF
theorem lpoly_ok {l : List Rat} (hl : l.length ≤ 1000) : sem (n + 1) 59 [lf l] g = .ok (pf (tr l)) g := by
  rw [sem_def rfl rfl (by decide)]
  refine w_F (w_nx (w_setO (v_blt (z := .list (l.map fr)) (v_var rfl) rfl) (by show 1 < 2; decide)) (w_nx (w_whl (trm_loop (t := tOfW ir59) (bd := bOfW ir59) (d0 := .d (lf l)) (fun l x => ?_) ?_ (fun l x => pop_b) l.length l fuel rfl (by unfold fuel; omega))) (w_frz rfl (w_rt (w_ret (v_blt (v_var rfl) rfl))))))
  · refine u_and oem_t ?_
    rw [show (!(l ++ [x]).isEmpty) = true by simp]
    refine ifT.trans (u_val (v_op2 (v_op2 (v_oix rfl (v_neg v_lit) (by rw [List.map_append]; exact at_last)) v_lit fr0) v_lit ((eqI _ _).trans (by rw [num0]))))
  · exact u_and (oem_t (l := [])) ifF
/-! constants -/
theorem cpoly_ok {f : Rat} : sem (n + 2) 19 [fr f] g = .ok (pf (tr [f])) g := by
  rw [sem_def rfl rfl (by decide)]
  exact w_F (w_rt (w_ret (v_call (v_cons (v_tup (v_cons (v_var rfl) v_nil) (by show 1 ≤ 1000; decide)) v_nil) (pof_ok (l := [f]) (by show 1 ≤ 1000; decide)))))
theorem const_ok {f : Rat} : sem (n + 2) 29 [fr f] g = .ok (pf (tr [f])) g := by
  rw [sem_def rfl rfl (by decide)]
  refine w_F (w_rt (w_ret (v_ite (k := !decide (f = 0)) (u_val (v_op2 (v_call (v_cons (v_var rfl) v_nil) sign_ok) v_lit ((neI _ _).trans (by rw [cmp0])))) ?_)))
  by_cases z : f = 0
  · rw [decide_eq_true z, show tr [f] = [] from if_pos z]
    exact ifF.trans (v_tup v_nil (by show 0 ≤ 1000; decide))
  · rw [decide_eq_false z, show tr [f] = [f] from if_neg z]
    exact ifT.trans (v_tup (v_cons (v_var rfl) v_nil) (by show 1 ≤ 1000; decide))
end
end G

/-! Values, sums, multiples. -/
namespace G
open PySem PySem.Spec PyProof.Rows L2 Fq
section
variable {Fn : Nat → List PD → M PD} {L : Lw} {env env1 env2 env3 : EnvD} {g g1 g2 : List PD}
theorem fr_snoc {tg : Tg} {body : EnvD → M Fl} {d : PD} : ∀ (ds : List PD) {env : EnvD} {g : List PD}, evFr tg body ds env g = .ok (.nx env1) g1 → tgF tg d env1 = some env2 → body env2 g1 = .ok (.nx env3) g2 → evFr tg body (ds ++ [d]) env g = .ok (.nx env3) g2
  | [], env, g, h, ht, hb => by
    cases h
    exact fr_cons ht hb fr_nil
  | e :: ds, env, g, h, ht, hb => by
    unfold evFr at h
    cases q : tgF tg e env with
    | none => rw [q] at h; cases h
    | some enva =>
      rw [q] at h
      have h' : (body enva g).bnd (fun f => match f with | .nx env' => evFr tg body ds env' | .rt d => ret (.rt d)) = .ok (.nx env1) g1 := h
      cases q2 : body enva g with
      | stuck => rw [q2] at h'; cases h'
      | exn x gg => rw [q2] at h'; cases h'
      | ok f gg =>
        rw [q2] at h'
        cases f with
        | rt d => cases h'
        | nx envb => exact fr_cons q q2 (fr_snoc ds h' ht hb)
theorem v_lc2 {elt : Ex} {tg tg1 : Tg} {it it1 : Ix} {own vs1 : List Nat} {ds : List PD} {yss : List (List PD)} (hi : evI Fn L it env g = .ok ds g1) (l : ds.length ≤ 1000 ∧ (tgIn tg own && tgIn tg1 vs1) = true)
    (h : mapM' (fun d => match tgF tg d (noOw (wipeD env own)) with
      | some env1 => noX (bnd (evI Fn L it1 env1) fun es => if es.length ≤ 1000 then mapM' (fun d1 => match tgF tg1 d1 (wipeD env1 vs1) with | some env2 => evE Fn L elt env2 | none => stk) es else stk)
      | none => stk) ds g1 = .ok yss g2) : evE Fn L (.lc2 elt tg it tg1 it1 own vs1) env g = .ok (.list yss.flatten) g2 := by
  unfold evE
  refine bnd_ok hi ?_
  rw [if_pos l]
  exact bnd_ok h rfl
end
theorem fr_zero : fr 0 = .tuple [.int 0, .int 1] := rfl
theorem fr_one : fr 1 = .tuple [.int 1, .int 1] := rfl
theorem flat_two {α β : Type} {f h : α → β} : ∀ (l : List α) (i : Nat), (l.map fun k => [f k, h k]).flatten[2 * i]? = l[i]?.map f ∧ (l.map fun k => [f k, h k]).flatten[2 * i + 1]? = l[i]?.map h
  | [], i => by simp
  | a :: l, 0 => ⟨rfl, rfl⟩
  | a :: l, i + 1 => by
    have ih := flat_two (f := f) (h := h) l i
    refine ⟨?_, ?_⟩
    · rw [List.map_cons, List.flatten_cons, show 2 * (i + 1) = 2 * i + 1 + 1 by omega]
      exact ih.1
    · rw [List.map_cons, List.flatten_cons, show 2 * (i + 1) + 1 = (2 * i + 1) + 1 + 1 by omega]
      exact ih.2
section
variable {n N W : Nat} {g : List PD}
/-! values -/
theorem ev_loop {Fn : Nat → List PD → M PD} {pl tm : Nat} {f : Rat} {X : Sl} (hf : Sz W f) (hp : ∀ {a b : Rat} {n1 n2 : Nat}, Sz n1 a → Sz n2 b → n1 + n2 + 1 ≤ 9000 → Fn pl [fr a, fr b] g = .ok (fr (a + b)) g)
    (ht : ∀ {a b : Rat} {n1 n2 : Nat}, Sz n1 a → Sz n2 b → n1 + n2 ≤ 9000 → Fn tm [fr a, fr b] g = .ok (fr (a * b)) g) {K : Nat} (hK : N + W + K + 1 ≤ 9000) :
    ∀ (l : List Rat), (∀ c ∈ l, Sz K c) → (∀ j, Sz N (evP f (l.drop j))) → ∃ s3, evFr (.name 3) (fun e => evSs Fn lwK (.cons (.set 2 (.call pl (.cons (.call tm (.cons (.var 2) (.cons (.var 1) .nil))) (.cons (.var 3) .nil)))) .nil) e) (l.map fr).reverse [X, .d (fr f), .d (fr 0), .no] g = .ok (.nx [X, .d (fr f), .d (fr (evP f l)), s3]) g := by
  intro l
  induction l with
  | nil => exact fun _ _ => ⟨.no, fr_nil⟩
  | cons c s ih =>
    intro hc hs
    obtain ⟨s3, h⟩ := ih (fun c hc' => hc c (List.mem_cons_of_mem _ hc')) (fun j => hs (j + 1))
    refine ⟨.d (fr c), ?_⟩
    rw [List.map_cons, List.reverse_cons]
    refine fr_snoc _ h rfl (w_nx (w_set (v_call (v_cons (v_call (v_cons (v_var rfl) (v_cons (v_var rfl) v_nil)) (ht (hs 1) hf (by omega))) (v_cons (v_var rfl) v_nil)) (hp ((hs 1).mul hf) (hc c List.mem_cons_self) (by omega)))) w_nil)
theorem value_ok {l : List Rat} {f : Rat} {K : Nat} (hf : Sz W f) (hc : ∀ c ∈ l, Sz K c) (hs : ∀ j, Sz N (evP f (l.drop j))) (hK : N + W + K + 1 ≤ 9000) : sem (n + 4) 21 [pf l, fr f] g = .ok (fr (evP f l)) g := by
  rw [sem_def rfl rfl (by decide)]
  obtain ⟨s3, h⟩ := ev_loop (Fn := sem (n + 3)) (g := g) (pl := 4) (tm := 7) (X := .d (pf l)) hf (fun h1 h2 h3 => plus_ok h1 h2 h3) (fun h1 h2 h3 => times_ok h1 h2 h3) hK l hc hs
  exact w_F (w_nx (w_set (v_tup (v_cons v_lit (v_cons v_lit v_nil)) (by show 2 ≤ 1000; decide))) (w_nx (w_fr (i_tup (v_rev (v_var rfl))) h) (w_rt (w_ret (v_var rfl)))))
theorem valueof_ok {l : List Rat} {f : Rat} {K : Nat} (hf : Sz W f) (hc : ∀ c ∈ l, Sz K c) (hs : ∀ j, Sz N (evP f (l.drop j))) (hK : N + W + K + 1 ≤ 9000) : sem (n + 4) 37 [pf l, fr f] g = .ok (fr (evP f l)) g := by
  rw [sem_def rfl rfl (by decide)]
  obtain ⟨s3, h⟩ := ev_loop (Fn := sem (n + 3)) (g := g) (pl := 4) (tm := 7) (X := .d (pf l)) hf (fun h1 h2 h3 => plus_ok h1 h2 h3) (fun h1 h2 h3 => times_ok h1 h2 h3) hK l hc hs
  exact w_F (w_nx (w_set (v_glb (x := fr 0) rfl)) (w_nx (w_fr (i_tup (v_rev (v_var rfl))) h) (w_rt (w_ret (v_var rfl)))))
theorem lvalue_ok {l : List Rat} {f : Rat} {K : Nat} (hf : Sz W f) (hc : ∀ c ∈ l, Sz K c) (hs : ∀ j, Sz N (evP f (l.drop j))) (hK : N + W + K + 1 ≤ 9000) : sem (n + 4) 62 [pf l, fr f] g = .ok (fr (evP f l)) g := by
  rw [sem_def rfl rfl (by decide)]
  obtain ⟨s3, h⟩ := ev_loop (Fn := sem (n + 3)) (g := g) (pl := 52) (tm := 53) (X := .d (pf l)) hf (fun h1 h2 h3 => lplus_ok h1 h2 h3) (fun h1 h2 h3 => ltimes_ok h1 h2 h3) hK l hc hs
  exact w_F (w_nx (w_set (v_tup (v_cons v_lit (v_cons v_lit v_nil)) (by show 2 ≤ 1000; decide))) (w_nx (w_fr (i_tup (v_rev (v_var rfl))) h) (w_rt (w_ret (v_var rfl)))))
/-! sums -/
theorem len_pf {l : List Rat} : bltF .len (pf l) = some (.int (l.length : Nat)) := by
  show some (PyData.int ((l.map fr).length : Nat)) = _
  rw [List.length_map]
theorem co_sz {l : List Rat} {K : Nat} (h : ∀ c ∈ l, Sz K c) (hK : 1 ≤ K) (k : Nat) : Sz K (co l k) := by
  by_cases z : k < l.length
  · exact h _ (List.mem_of_getElem? (co_get z))
  · rw [co_out (by omega)]
    exact (SzC.h (q := 0)).mono hK
theorem lt_i {k m : Nat} {x y : Int} (hx : x = (k : Nat)) (hy : y = (m : Nat)) : opF .lt (.int x) (.int y) = some (.bool (decide (k < m))) := by
  subst hx hy
  show some (PyData.bool (decide ((k : Int) < (m : Int)))) = _
  congr 2
  exact decide_eq_decide.mpr (by omega)
theorem small {k : Nat} (h : k < 4000) : ((k : Int)).natAbs < 2 ^ 12 := by rw [Int.natAbs_natCast]; exact Nat.lt_trans h (by decide)
theorem max_is (a b : Nat) : (if ((b : Nat) : Int) > ((a : Nat) : Int) then ((b : Nat) : Int) else ((a : Nat) : Int)) = ((max a b : Nat) : Int) := by
  by_cases h : a < b
  · rw [if_pos (by omega), Nat.max_eq_right (by omega)]
  · rw [if_neg (by omega), Nat.max_eq_left (by omega)]
theorem range_mem {m : Nat} {d : PD} (h : d ∈ (List.range m).map fun k => PyData.int (k : Nat)) : ∃ k, k < m ∧ d = .int (k : Nat) := by
  obtain ⟨k, hk, e⟩ := List.mem_map.mp h
  exact ⟨k, List.mem_range.mp hk, e.symm⟩
theorem mm_range {γ : Type} {f : PD → M γ} {h : Nat → γ} {m : Nat} (k : ∀ j, j < m → f (.int (j : Nat)) g = .ok (h j) g) : mapM' f ((List.range m).map fun k => PyData.int (k : Nat)) g = .ok ((List.range m).map h) g := by
  have key : ∀ l : List Nat, (∀ j ∈ l, f (.int (j : Nat)) g = .ok (h j) g) → mapM' f (l.map fun k => PyData.int (k : Nat)) g = .ok (l.map h) g := by
    intro l
    induction l with
    | nil => exact fun _ => rfl
    | cons j l ih => exact fun hl => mm_cons (hl j List.mem_cons_self) (ih fun i hi => hl i (List.mem_cons_of_mem _ hi))
  exact key _ fun j hj => k j (List.mem_range.mp hj)
theorem add_ok {p q : List Rat} {K J : Nat} (hp : ∀ c ∈ p, Sz K c) (hq : ∀ c ∈ q, Sz J c) (k1 : 1 ≤ K) (j1 : 1 ≤ J) (lp : p.length ≤ 100) (lq : q.length ≤ 100) (hK : K + J + 1 ≤ 9000) : sem (n + 4) 22 [pf p, pf q] g = .ok (pf (addP p q)) g := by
  rw [sem_def rfl rfl (by decide)]
  generalize hm : max p.length q.length = m
  have ml : m ≤ 100 := by omega
  refine w_F (w_nx (w_set (g1 := g) (x := .int (m : Nat)) ?_) ?_)
  · rw [← hm, ← max_is]
    exact v_max2 (v_blt (v_var rfl) len_pf) (v_blt (v_var rfl) len_pf)
  refine w_nx (w_set (g1 := g) (x := .list ((List.range m).map fun k => [fr (co p k), fr (co q k)]).flatten) ?_) ?_
  · refine v_lc2 (i_range (v_var rfl) ⟨by omega, by omega⟩) ⟨by simp; omega, by decide⟩ ?_
    rw [Int.toNat_natCast]
    refine mm_range fun j hj => ?_
    have elt : ∀ (l : List Rat) (env : EnvD), env[4]? = some (.d (.int (j : Nat))) → env[5]? = some (.d (pf l)) → evE (sem (n + 3)) lwK (.ite (.val (.op2 .lt (.var 4) (.blt .len (.var 5)))) (.op2 .ix (.var 5) (.var 4)) (.tup (.cons (.lit (.int 0)) (.cons (.lit (.int 1)) .nil)))) env g = .ok (fr (co l j)) g := fun l env h4 h5 => by
      refine v_ite (u_val (v_op2 (v_var h4) (v_blt (v_var h5) len_pf) (lt_i rfl rfl))) ?_
      by_cases z : j < l.length
      · rw [decide_eq_true z]
        exact ifT.trans (v_op2 (v_var h5) (v_var h4) (ix_pf z))
      · rw [decide_eq_false z, co_out (l := l) (by omega)]
        exact ifF.trans (v_tup (v_cons v_lit (v_cons v_lit v_nil)) (by show 2 ≤ 1000; decide))
    refine noX_is (bnd_ok (i_tup (v_tup (v_cons (v_var rfl) (v_cons (v_var rfl) v_nil)) (by show 2 ≤ 1000; decide))) ?_)
    rw [if_pos (by show 2 ≤ 1000; decide)]
    exact mm_cons (elt p _ rfl rfl) (mm_cons (elt q _ rfl rfl) mm_nil)
  · refine w_rt (w_ret (v_call (v_cons (v_lc (g2 := g) (ys := ((List.range m).map fun k => co p k + co q k).map fr) (i_range (v_var rfl) ⟨by omega, by omega⟩) ⟨by simp; omega, by decide⟩ ?_) v_nil) ?_))
    · rw [Int.toNat_natCast, List.map_map]
      refine mm_range fun j hj => ?_
      have e2 : opF .mul (.int 2) (.int (j : Nat)) = some (.int ((2 * j : Nat) : Int)) := by
        rw [mul_ok (n := 12) (m := 12) (by decide) (small (by omega)) (by decide) (by decide)]
        rfl
      have e3 : opF .add (.int ((2 * j : Nat) : Int)) (.int 1) = some (.int ((2 * j + 1 : Nat) : Int)) := rfl
      have fl := flat_two (f := fun k => fr (co p k)) (h := fun k => fr (co q k)) (List.range m) j
      rw [List.getElem?_range hj] at fl
      exact v_call (v_cons (v_op2 (v_var rfl) (v_op2 v_lit (v_var rfl) e2) (atI_nat fl.1)) (v_cons (v_op2 (v_var rfl) (v_op2 (v_op2 v_lit (v_var rfl) e2) v_lit e3) (atI_nat fl.2)) v_nil)) (plus_ok (co_sz hp k1 j) (co_sz hq j1 j) hK)
    · have e : pf (addP p q) = pf (tr ((List.range m).map fun k => co p k + co q k)) := by unfold addP; rw [hm]
      rw [e]
      exact pofL_ok (n := n + 2) (l := (List.range m).map fun k => co p k + co q k) (by simp; omega)
/-! multiples -/
theorem scaled_ok {p : List Rat} {f : Rat} {K J : Nat} (hp : ∀ c ∈ p, Sz K c) (hf : Sz J f) (lp : p.length ≤ 100) (hK : K + J ≤ 9000) : sem (n + 4) 23 [pf p, fr f] g = .ok (pf (scP p f)) g := by
  rw [sem_def rfl rfl (by decide)]
  refine w_F (w_rt (w_ret (v_call (v_cons (v_lc (g2 := g) (ys := (p.map (· * f)).map fr) (i_tup (v_var rfl)) ⟨by simp; omega, by decide⟩ ?_) v_nil) (pofL_ok (n := n + 2) (l := p.map (· * f)) (by simp; omega)))))
  have key : ∀ l : List Rat, (∀ c ∈ l, Sz K c) → mapM' (fun d => match tgF (.name 2) d (wipeD [.d (pf p), .d (fr f), .no] [2]) with | some env' => evE (sem (n + 3)) lwK (.call 7 (.cons (.var 2) (.cons (.var 1) .nil))) env' | none => stk) (l.map fr) g = .ok ((l.map (· * f)).map fr) g := by
    intro l
    induction l with
    | nil => exact fun _ => rfl
    | cons c s ih => exact fun hl => mm_cons (v_call (v_cons (v_var rfl) (v_cons (v_var rfl) v_nil)) (times_ok (hl c List.mem_cons_self) hf hK)) (ih fun c hc => hl c (List.mem_cons_of_mem _ hc))
  exact key p hp
end
end G

/-! Products with a linear. -/
namespace Fq
theorem co_set : ∀ (F : List Rat) (i : Nat) (v : Rat) (k : Nat), i < F.length → co (F.set i v) k = if k = i then v else co F k
  | x :: xs, 0, v, 0, _ => rfl
  | x :: xs, 0, v, k + 1, _ => rfl
  | x :: xs, i + 1, v, 0, _ => rfl
  | x :: xs, i + 1, v, k + 1, h => by
    have := co_set xs i v k (by simpa using h)
    show co (xs.set i v) k = _
    rw [this]
    by_cases z : k = i
    · rw [if_pos z, if_pos (by omega)]
    · rw [if_neg z, if_neg (by omega)]
      rfl
theorem co_rep (n k : Nat) : co (List.replicate n (0 : Rat)) k = 0 := by
  induction n generalizing k with
  | zero => rfl
  | succ n ih => cases k with
    | zero => rfl
    | succ k => exact ih k
section
variable (b a : Rat)
def rowM (F : List Rat) (i : Nat) (x : Rat) : List Rat := (F.set i (co F i + x * b)).set (i + 1) (co F (i + 1) + x * a)
def mulAcc : List Rat → Nat → List Rat → List Rat
  | [], _, F => F
  | x :: xs, i, F => mulAcc xs (i + 1) (rowM b a F i x)
variable {b a}
theorem co_row {F : List Rat} {i : Nat} {x : Rat} (h : i + 1 < F.length) (k : Nat) : co (rowM b a F i x) k = co F k + (if k = i then x * b else 0) + (if k = i + 1 then x * a else 0) := by
  unfold rowM
  rw [co_set _ _ _ _ (by rw [List.length_set]; exact h), co_set _ _ _ _ (by omega)]
  by_cases z : k = i + 1
  · subst z
    rw [if_pos rfl, if_neg (show ¬ i + 1 = i by omega), if_pos rfl]
    grind
  · rw [if_neg z, if_neg z]
    by_cases y : k = i
    · subst y
      rw [if_pos rfl, if_pos rfl]
      grind
    · rw [if_neg y, if_neg y]
      grind
theorem row_len {F : List Rat} {i : Nat} {x : Rat} : (rowM b a F i x).length = F.length := by
  unfold rowM
  rw [List.length_set, List.length_set]
theorem co_mulAcc : ∀ (p : List Rat) (i : Nat) (F : List Rat), i + p.length < F.length → ∀ k, co (mulAcc b a p i F) k = co F k + (if i ≤ k then co p (k - i) * b else 0) + (if i < k then co p (k - i - 1) * a else 0)
  | [], i, F, _, k => by
    show co F k = co F k + (if i ≤ k then (0 : Rat) * b else 0) + (if i < k then (0 : Rat) * a else 0)
    split <;> split <;> grind
  | x :: xs, i, F, h, k => by
    have h' : i + 1 + xs.length < F.length := by simp at h; omega
    show co (mulAcc b a xs (i + 1) (rowM b a F i x)) k = _
    rw [co_mulAcc xs (i + 1) _ (by rw [row_len]; exact h'), co_row (by omega)]
    by_cases c1 : k < i
    · rw [if_neg (by omega), if_neg (by omega), if_neg (by omega), if_neg (by omega), if_neg (by omega), if_neg (by omega)]
      grind
    · by_cases c2 : k = i
      · subst c2
        rw [if_pos rfl, if_neg (by omega), if_neg (by omega), if_neg (by omega), if_pos (Nat.le_refl _), if_neg (by omega), Nat.sub_self]
        show co F k + x * b + 0 + 0 + 0 = co F k + x * b + 0
        grind
      · by_cases c3 : k = i + 1
        · subst c3
          rw [if_neg (by omega), if_pos rfl, if_pos (Nat.le_refl _), if_neg (by omega), if_pos (by omega), if_pos (by omega)]
          have e1 : i + 1 - (i + 1) = 0 := by omega
          have e2 : i + 1 - i = 1 := by omega
          rw [e1, e2]
          show co F (i + 1) + 0 + x * a + co xs 0 * b + 0 = co F (i + 1) + co xs 0 * b + x * a
          grind
        · obtain ⟨m, rfl⟩ : ∃ m, k = i + 2 + m := ⟨k - i - 2, by omega⟩
          rw [if_neg (by omega), if_neg (by omega), if_pos (by omega), if_pos (by omega), if_pos (by omega), if_pos (by omega)]
          have e1 : i + 2 + m - (i + 1) = m + 1 := by omega
          have e2 : i + 2 + m - i = m + 2 := by omega
          rw [e1, e2]
          show co F (i + 2 + m) + 0 + 0 + co xs (m + 1) * b + co xs m * a = co F (i + 2 + m) + co xs (m + 1) * b + co xs m * a
          grind
theorem mulAcc_P {p : List Rat} {m : Nat} (h : p.length < m) : tr (mulAcc b a p 0 (List.replicate m 0)) = mulP p b a := by
  rw [← show tr (mulP p b a) = mulP p b a from tm_tr _]
  refine tr_ext _ _ fun k => ?_
  rw [co_mulAcc p 0 _ (by simpa using h), co_rep, co_mulP, if_pos (Nat.zero_le _)]
  cases k with
  | zero =>
    rw [if_neg (by omega)]
    show 0 + co p 0 * b + 0 = co p 0 * b
    grind
  | succ k =>
    rw [if_pos (by omega)]
    show 0 + co p (k + 1) * b + co p k * a = co p (k + 1) * b + co p k * a
    grind
theorem mulAcc_len : ∀ (p : List Rat) (i : Nat) (F : List Rat), (mulAcc b a p i F).length = F.length
  | [], _, _ => rfl
  | x :: xs, i, F => by
    show (mulAcc b a xs (i + 1) (rowM b a F i x)).length = _
    rw [mulAcc_len xs, row_len]
end
end Fq
namespace G
open PySem PySem.Spec PyProof.Rows L2 Fq
def enumAt (i : Nat) (ds : List PD) : List PD := (ds.zipIdx i).map fun p => .tuple [.int (p.2 : Nat), p.1]
theorem enumF_at (ds : List PD) : enumF ds = enumAt 0 ds := rfl
theorem enumAt_cons {i : Nat} {d : PD} {ds : List PD} : enumAt i (d :: ds) = .tuple [.int (i : Nat), d] :: enumAt (i + 1) ds := rfl
theorem map_set {F : List Rat} {i : Nat} {v : Rat} : (F.map fr).set i (fr v) = (F.set i v).map fr := by rw [List.map_set]
section
variable {Fn : Nat → List PD → M PD} {g : List PD} {pl tm K J : Nat} {b a : Rat} {X Y : Sl}
def mulIn (pl tm : Nat) : Ss := .cons (.iset 2 (.op2 .add (.var 3) (.var 5)) (.call pl (.cons (.oix 2 (.op2 .add (.var 3) (.var 5))) (.cons (.call tm (.cons (.var 4) (.cons (.var 6) .nil))) .nil)))) .nil
def mulOut (pl tm : Nat) : Ss := .cons (.fr (.tup (.cons (.name 5) (.cons (.name 6) .nil))) (.enumT (.var 1)) (mulIn pl tm)) .nil
def tgE (i j : Nat) : Tg := .tup (.cons (.name i) (.cons (.name j) .nil))
structure Ops (Fn : Nat → List PD → M PD) (g : List PD) (pl tm : Nat) : Prop where
  p : ∀ {a b : Rat} {n1 n2 : Nat}, Sz n1 a → Sz n2 b → n1 + n2 + 1 ≤ 9000 → Fn pl [fr a, fr b] g = .ok (fr (a + b)) g
  t : ∀ {a b : Rat} {n1 n2 : Nat}, Sz n1 a → Sz n2 b → n1 + n2 ≤ 9000 → Fn tm [fr a, fr b] g = .ok (fr (a * b)) g
theorem cell_ok (O : Ops Fn g pl tm) {F : List Rat} {i j : Nat} {x y : Rat} {n1 : Nat} (hl : i + j < F.length) (hF : Sz n1 (co F (i + j))) (hx : Sz K x) (hy : Sz J y) (hK : n1 + (K + J) + 1 ≤ 9000) :
    evSs Fn lwK (mulIn pl tm) [X, Y, .own (F.map fr), .d (.int (i : Nat)), .d (fr x), .d (.int (j : Nat)), .d (fr y)] g = .ok (.nx [X, Y, .own ((F.set (i + j) (co F (i + j) + x * y)).map fr), .d (.int (i : Nat)), .d (fr x), .d (.int (j : Nat)), .d (fr y)]) g := by
  have e : opF .add (.int (i : Nat)) (.int (j : Nat)) = some (.int ((i + j : Nat) : Int)) := rfl
  have hg : (F.map fr)[i + j]? = some (fr (co F (i + j))) := by rw [List.getElem?_map, co_get hl]; rfl
  refine w_nx (w_iset (x := fr (co F (i + j) + x * y)) (j := i + j) rfl (v_call (v_cons (v_oix rfl (v_op2 (v_var rfl) (v_var rfl) e) (atI_nat hg)) (v_cons (v_call (v_cons (v_var rfl) (v_cons (v_var rfl) v_nil)) (O.t hx hy (by omega))) v_nil)) (O.p hF (hx.mul hy) hK)) (v_op2 (v_var rfl) (v_var rfl) e) (Evl.ixN_nat (by rw [List.length_map]; exact hl))) ?_
  rw [← map_set]
  exact w_nil
theorem row_ok (O : Ops Fn g pl tm) {F : List Rat} {i : Nat} {x : Rat} (s5 s6 : Sl) (hl : i + 1 < F.length) (hF : Sz (K + J) (co F i)) (h0 : co F (i + 1) = 0) (hx : Sz K x) (hb : Sz J b) (ha : Sz J a) (k1 : 1 ≤ K + J) (hK : (K + J) + (K + J) + 1 ≤ 9000) :
    ∃ t5 t6, evSs Fn lwK (mulOut pl tm) [X, .d (pf [b, a]), .own (F.map fr), .d (.int (i : Nat)), .d (fr x), s5, s6] g = .ok (.nx [X, .d (pf [b, a]), .own ((rowM b a F i x).map fr), .d (.int (i : Nat)), .d (fr x), t5, t6]) g := by
  refine ⟨.d (.int 1), .d (fr a), w_nx (w_fr (i_enumT (v_var rfl)) (fr_cons (g1 := g) (env' := [X, .d (pf [b, a]), .own ((F.set i (co F i + x * b)).map fr), .d (.int (i : Nat)), .d (fr x), .d (.int 0), .d (fr b)]) rfl ?_ (fr_cons (g1 := g) (env' := [X, .d (pf [b, a]), .own ((rowM b a F i x).map fr), .d (.int (i : Nat)), .d (fr x), .d (.int 1), .d (fr a)]) rfl ?_ fr_nil))) w_nil⟩
  · have h := cell_ok (X := X) (Y := .d (pf [b, a])) (K := K) (J := J) O (F := F) (i := i) (j := 0) (x := x) (y := b) (by omega) hF hx hb hK
    exact h
  · have hF' : co (F.set i (co F i + x * b)) (i + 1) = 0 := by rw [co_set _ _ _ _ (by omega), if_neg (by omega), h0]
    have h := cell_ok (X := X) (Y := .d (pf [b, a])) (K := K) (J := J) O (F := F.set i (co F i + x * b)) (i := i) (j := 1) (x := x) (y := a) (n1 := K + J) (by rw [List.length_set]; exact hl) (by rw [hF']; exact (SzC.h (q := 0)).mono k1) hx ha hK
    rw [hF'] at h
    have e : rowM b a F i x = (F.set i (co F i + x * b)).set (i + 1) (0 + x * a) := by unfold rowM; rw [h0]
    rw [e]
    exact h
theorem mul_loop (O : Ops Fn g pl tm) (hb : Sz J b) (ha : Sz J a) (k1 : 1 ≤ K + J) (hK : (K + J) + (K + J) + 1 ≤ 9000) : ∀ (p : List Rat) (i : Nat) (F : List Rat) (s3 s4 s5 s6 : Sl), (∀ c ∈ p, Sz K c) → i + p.length < F.length → Sz (K + J) (co F i) → (∀ k, i < k → co F k = 0) →
    ∃ t3 t4 t5 t6, evFr (tgE 3 4) (fun e => evSs Fn lwK (mulOut pl tm) e) (enumAt i (p.map fr)) [X, .d (pf [b, a]), .own (F.map fr), s3, s4, s5, s6] g = .ok (.nx [X, .d (pf [b, a]), .own ((mulAcc b a p i F).map fr), t3, t4, t5, t6]) g := by
  intro p
  induction p with
  | nil => exact fun i F s3 s4 s5 s6 _ _ _ _ => ⟨s3, s4, s5, s6, fr_nil⟩
  | cons x xs ih =>
    intro i F s3 s4 s5 s6 hp hl hF h0
    have hl' : i + 1 + xs.length < F.length := by simp at hl; omega
    obtain ⟨t5, t6, h⟩ := row_ok (X := X) O (F := F) (i := i) (x := x) s5 s6 (by omega) hF (h0 _ (Nat.lt_succ_self _)) (hp x List.mem_cons_self) hb ha k1 hK
    have e1 : co (rowM b a F i x) (i + 1) = x * a := by
      rw [co_row (by omega), h0 _ (Nat.lt_succ_self _), if_neg (by omega), if_pos rfl]
      grind
    obtain ⟨u3, u4, u5, u6, h2⟩ := ih (i + 1) (rowM b a F i x) (.d (.int (i : Nat))) (.d (fr x)) t5 t6 (fun c hc => hp c (List.mem_cons_of_mem _ hc)) (by rw [row_len]; exact hl') (by rw [e1]; exact (hp x List.mem_cons_self).mul ha) (fun k hk => by
      rw [co_row (by omega), h0 k (by omega), if_neg (by omega), if_neg (by omega)]
      grind)
    refine ⟨u3, u4, u5, u6, ?_⟩
    rw [List.map_cons, enumAt_cons]
    exact fr_cons rfl h h2
end
theorem rep_fr (m : Nat) : (List.replicate m [fr 0]).flatten = (List.replicate m (0 : Rat)).map fr := by
  induction m with
  | zero => rfl
  | succ m ih => rw [List.replicate_succ, List.flatten_cons, ih, List.replicate_succ, List.map_cons]; rfl
theorem mul_rep {m : Nat} {k : Int} (h : k = (m : Nat)) (l : m ≤ 1000) : opF .mul (.list [fr 0]) (.int k) = some (.list ((List.replicate m (0 : Rat)).map fr)) := by
  subst h
  have c : -(2 ^ 63 : Int) ≤ ((m : Nat) : Int) ∧ ((m : Nat) : Int) < 2 ^ 63 ∧ [fr 0].length * ((m : Nat) : Int).toNat ≤ 1000000 := ⟨by omega, by omega, by show 1 * _ ≤ _; omega⟩
  rw [show opF .mul (.list [fr 0]) (.int (m : Nat)) = (if -(2 ^ 63 : Int) ≤ ((m : Nat) : Int) ∧ ((m : Nat) : Int) < 2 ^ 63 ∧ [fr 0].length * ((m : Nat) : Int).toNat ≤ 1000000 then some (.list (List.replicate ((m : Nat) : Int).toNat [fr 0]).flatten) else none) from rfl, if_pos c, Int.toNat_natCast, rep_fr]
section
variable {n K J : Nat} {g : List PD} {b a : Rat}
theorem ops_p : Ops (sem (n + 3)) g 4 7 := ⟨fun h1 h2 h3 => plus_ok h1 h2 h3, fun h1 h2 h3 => times_ok h1 h2 h3⟩
theorem ops_l : Ops (sem (n + 3)) g 52 53 := ⟨fun h1 h2 h3 => lplus_ok h1 h2 h3, fun h1 h2 h3 => ltimes_ok h1 h2 h3⟩
theorem deg_ok {l : List Rat} : sem (n + 1) 20 [pf l] g = .ok (.int ((l.length : Nat) - 1)) g := by
  rw [sem_def rfl rfl (by decide)]
  exact w_F (w_rt (w_ret (v_op2 (v_blt (v_var rfl) len_pf) v_lit rfl)))
theorem chk_ok {k : Int} (h : k ≤ 24) : sem (n + 1) 24 [.int k] g = .ok .none g := by
  rw [sem_def rfl rfl (by decide)]
  refine w_FN (w_nx (w_ife (k := false) (u_val (v_op2 (v_var rfl) (v_glb (x := .int 24) rfl) ?_)) (ifF.trans w_nil)) w_nil)
  show some (PyData.bool (decide ((24 : Int) < k))) = _
  rw [decide_eq_false (by omega)]
theorem mult_ok {p : List Rat} (hp : ∀ c ∈ p, Sz K c) (hb : Sz J b) (ha : Sz J a) (k1 : 1 ≤ K + J) (hK : (K + J) + (K + J) + 1 ≤ 9000) (lp : p.length ≤ 20) : sem (n + 4) 25 [pf p, pf [b, a]] g = .ok (pf (mulP p b a)) g := by
  rw [sem_def rfl rfl (by decide)]
  have eqs : ∀ l : List Rat, opF .eq (pf l) (.tuple []) = some (.bool l.isEmpty) := fun l => by
    show (if shp (pf l) = true ∧ shp (.tuple []) = true then some (PyData.bool (PyData.eqv (pf l) (.tuple []))) else none) = _
    rw [if_pos ⟨shp_pf, by decide⟩]
    unfold pf
    rw [eqv_nilT]
    cases l <;> rfl
  cases p with
  | nil =>
    rw [mulP_nil]
    exact w_F (w_rt (w_ife (k := true) (u_or (u_val (v_op2 (v_var rfl) (v_tup v_nil (by show 0 ≤ 1000; decide)) (eqs []))) ifT) (ifT.trans (w_rt (w_ret (v_tup v_nil (by show 0 ≤ 1000; decide)))))))
  | cons x xs =>
    generalize hq : x :: xs = p at *
    have ne : p.isEmpty = false := by rw [← hq]; rfl
    have pos : 1 ≤ p.length := by rw [← hq]; simp
    refine w_F (w_nx (w_ife (k := false) (u_or (u_val (v_op2 (v_var rfl) (v_tup v_nil (by show 0 ≤ 1000; decide)) ((eqs p).trans (by rw [ne])))) (ifF.trans (u_val (v_op2 (v_var rfl) (v_tup v_nil (by show 0 ≤ 1000; decide)) (eqs [b, a]))))) (ifF.trans w_nil)) ?_)
    refine w_nx (w_ex (v_call (v_cons (v_op2 (v_call (v_cons (v_var rfl) v_nil) deg_ok) (v_call (v_cons (v_var rfl) v_nil) deg_ok) rfl) v_nil) (chk_ok (n := n + 2) (by show ((p.length : Nat) : Int) - 1 + (2 - 1) ≤ 24; omega)))) ?_
    have e1 : ((p.length : Nat) : Int) + ((2 : Nat) : Int) - 1 = ((p.length + 1 : Nat) : Int) := by omega
    refine w_nx (w_setO (v_op2 (v_lst (v_cons (v_tup (v_cons v_lit (v_cons v_lit v_nil)) (by show 2 ≤ 1000; decide)) v_nil) (by show 1 ≤ 1000; decide)) (v_op2 (v_op2 (v_blt (v_var rfl) len_pf) (v_blt (v_var rfl) len_pf) rfl) v_lit rfl) (mul_rep (m := p.length + 1) e1 (by omega))) (by show 2 < 7; decide)) ?_
    obtain ⟨t3, t4, t5, t6, h⟩ := mul_loop (X := .d (pf p)) (K := K) (J := J) ops_p hb ha k1 hK p 0 (List.replicate (p.length + 1) 0) .no .no .no .no hp (by simp) (by rw [co_rep]; exact (SzC.h (q := 0)).mono k1) (fun k _ => co_rep _ _)
    refine w_nx (w_fr (i_enumT (v_var rfl)) h) (w_frz rfl (w_rt (w_ret (v_call (v_cons (v_var rfl) v_nil) ?_))))
    rw [← mulAcc_P (p := p) (b := b) (a := a) (m := p.length + 1) (by omega)]
    exact pofL_ok (n := n + 2) (by rw [mulAcc_len]; simp; omega)
theorem lmult_ok {p : List Rat} (hp : ∀ c ∈ p, Sz K c) (hb : Sz J b) (ha : Sz J a) (k1 : 1 ≤ K + J) (hK : (K + J) + (K + J) + 1 ≤ 9000) (lp : p.length ≤ 20) : sem (n + 4) 61 [pf p, pf [b, a]] g = .ok (pf (mulP p b a)) g := by
  rw [sem_def rfl rfl (by decide)]
  have e1 : ((p.length : Nat) : Int) + ((2 : Nat) : Int) = ((p.length + 2 : Nat) : Int) := by omega
  refine w_F (w_nx (w_setO (v_op2 (v_lst (v_cons (v_tup (v_cons v_lit (v_cons v_lit v_nil)) (by show 2 ≤ 1000; decide)) v_nil) (by show 1 ≤ 1000; decide)) (v_op2 (v_blt (v_var rfl) len_pf) (v_blt (v_var rfl) len_pf) rfl) (mul_rep (m := p.length + 2) e1 (by omega))) (by show 2 < 7; decide)) ?_)
  obtain ⟨t3, t4, t5, t6, h⟩ := mul_loop (X := .d (pf p)) (K := K) (J := J) ops_l hb ha k1 hK p 0 (List.replicate (p.length + 2) 0) .no .no .no .no hp (by simp) (by rw [co_rep]; exact (SzC.h (q := 0)).mono k1) (fun k _ => co_rep _ _)
  refine w_nx (w_fr (i_enumT (v_var rfl)) h) (w_frz rfl (w_rt (w_ret (v_call (v_cons (v_var rfl) v_nil) ?_))))
  rw [← mulAcc_P (p := p) (b := b) (a := a) (m := p.length + 2) (by omega)]
  exact lpoly_ok (n := n + 2) (by rw [mulAcc_len]; simp; omega)
end
end G

/-! The law's sums; one polynomial led through another; growth. -/
namespace Fq
def gl : Nat → List Rat → List Rat
  | _, [] => []
  | i, c :: s => c * ((i : Nat) : Rat) :: gl (i + 1) s
theorem co_gl : ∀ (l : List Rat) (i k : Nat), co (gl i l) k = co l k * ((i + k : Nat) : Rat)
  | [], i, k => (Rat.zero_mul _).symm
  | c :: s, i, 0 => rfl
  | c :: s, i, k + 1 => by
    show co (gl (i + 1) s) k = co s k * _
    rw [co_gl s (i + 1) k]
    congr 2
    omega
theorem gl_len : ∀ (l : List Rat) (i : Nat), (gl i l).length = l.length
  | [], _ => rfl
  | c :: s, i => by show (gl (i + 1) s).length + 1 = s.length + 1; rw [gl_len s]
theorem co_drop1 : ∀ (l : List Rat) (k : Nat), co (l.drop 1) k = co l (k + 1)
  | [], _ => rfl
  | _ :: _, _ => rfl
theorem gr_gl (l : List Rat) : tr ((gl 0 l).drop 1) = grP l := by
  rw [← show tr (grP l) = grP l from tm_tr _]
  refine tr_ext _ _ fun k => ?_
  rw [co_drop1, co_gl, co_grP]
  congr 2
  omega
theorem gr_range (l : List Rat) : tr ((List.range (l.length - 1)).map fun k => ((1 + k : Nat) : Rat) * co l (1 + k)) = grP l := by
  unfold grP
  congr 1
  refine List.map_congr_left fun k _ => ?_
  rw [Nat.add_comm 1 k, Rat.mul_comm]
theorem sz_nat {k : Nat} (h : k < 16) : Sz 4 ((k : Nat) : Rat) := by
  refine ⟨?_, ?_⟩
  · rw [Rat.num_natCast, Int.natAbs_natCast]; exact h
  · rw [Rat.den_natCast]; decide
end Fq
namespace G
open PySem PySem.Spec PyProof.Rows L2 Fq
section
variable {g : List PD}
/-- a walk over 0, 1, ..: an invariant -/
theorem fr_range {tg : Tg} {body : EnvD → M Fl} {S : Nat → EnvD → Prop} {m : Nat} (h : ∀ j env, j < m → S j env → ∃ e1 e2, tgF tg (.int (j : Nat)) env = some e1 ∧ body e1 g = .ok (.nx e2) g ∧ S (j + 1) e2) {env : EnvD} (h0 : S 0 env) :
    ∃ env', evFr tg body ((List.range m).map fun k => .int (k : Nat)) env g = .ok (.nx env') g ∧ S m env' := by
  have key : ∀ j, j ≤ m → ∃ env', evFr tg body ((List.range j).map fun k => .int (k : Nat)) env g = .ok (.nx env') g ∧ S j env' := by
    intro j
    induction j with
    | zero => exact fun _ => ⟨env, fr_nil, h0⟩
    | succ j ih =>
      intro hj
      obtain ⟨e, h1, h2⟩ := ih (by omega)
      obtain ⟨e1, e2, h3, h4, h5⟩ := h j e hj h2
      refine ⟨e2, ?_, h5⟩
      rw [List.range_succ, List.map_append]
      exact fr_snoc _ h1 h3 h4
  exact key m (Nat.le_refl _)
end
section
variable {n K J N : Nat} {g : List PD}
/-! the law's sums -/
theorem sum0_ok : sem (n + 4) 57 [.list []] g = .ok (fr 0) g := by
  rw [sem_def rfl rfl (by decide)]
  exact w_F (w_nx (w_set (v_tup (v_cons v_lit (v_cons v_lit v_nil)) (by show 2 ≤ 1000; decide))) (w_nx (w_fr (i_list (v_var rfl)) fr_nil) (w_rt (w_ret (v_var rfl)))))
theorem sum1_ok {a : Rat} (ha : Sz K a) (hK : K ≤ 8000) : sem (n + 4) 57 [.list [fr a]] g = .ok (fr a) g := by
  rw [sem_def rfl rfl (by decide)]
  have h := lplus_ok (n := n) (g := g) (SzC.h (q := 0)) ha (by omega)
  rw [Rat.zero_add] at h
  exact w_F (w_nx (w_set (v_tup (v_cons v_lit (v_cons v_lit v_nil)) (by show 2 ≤ 1000; decide))) (w_nx (w_fr (i_list (v_var rfl)) (fr_cons (g1 := g) rfl (w_nx (w_set (v_call (v_cons (v_var rfl) (v_cons (v_var rfl) v_nil)) h)) w_nil) fr_nil)) (w_rt (w_ret (v_var rfl)))))
theorem sum2_ok {a b : Rat} (ha : Sz K a) (hb : Sz J b) (hK : K + J + 1 ≤ 8000) : sem (n + 4) 57 [.list [fr a, fr b]] g = .ok (fr (a + b)) g := by
  rw [sem_def rfl rfl (by decide)]
  have h := lplus_ok (n := n) (g := g) (SzC.h (q := 0)) ha (by omega)
  rw [Rat.zero_add] at h
  exact w_F (w_nx (w_set (v_tup (v_cons v_lit (v_cons v_lit v_nil)) (by show 2 ≤ 1000; decide))) (w_nx (w_fr (i_list (v_var rfl)) (fr_cons (g1 := g) rfl (w_nx (w_set (v_call (v_cons (v_var rfl) (v_cons (v_var rfl) v_nil)) h)) w_nil)
    (fr_cons (g1 := g) rfl (w_nx (w_set (v_call (v_cons (v_var rfl) (v_cons (v_var rfl) v_nil)) (lplus_ok ha hb (by omega)))) w_nil) fr_nil))) (w_rt (w_ret (v_var rfl)))))
theorem ladd_ok {p q : List Rat} (hp : ∀ c ∈ p, Sz K c) (hq : ∀ c ∈ q, Sz J c) (k1 : 1 ≤ K) (j1 : 1 ≤ J) (lp : p.length ≤ 100) (lq : q.length ≤ 100) (hK : K + J + 1 ≤ 8000) : sem (n + 5) 60 [pf p, pf q] g = .ok (pf (addP p q)) g := by
  rw [sem_def rfl rfl (by decide)]
  generalize hm : max p.length q.length = m
  have ml : m ≤ 100 := by omega
  have item : ∀ (j : Nat) (l : List Rat) (env : EnvD), env[3]? = some (.d (.int (j : Nat))) → env[5]? = some (.d (pf l)) → noX (bnd (evT (sem (n + 4)) lwK (.val (.op2 .lt (.var 3) (.blt .len (.var 5)))) env) fun k => if k = true then bnd (evE (sem (n + 4)) lwK (.op2 .ix (.var 5) (.var 3)) env) fun y => ret (some y) else ret none) g = .ok (if j < l.length then some (fr (co l j)) else none) g := fun j l env h3 h5 => by
    refine noX_is (bnd_ok (u_val (v_op2 (v_var h3) (v_blt (v_var h5) len_pf) (lt_i rfl rfl))) ?_)
    by_cases z : j < l.length
    · rw [decide_eq_true z, if_pos z]
      exact ifT.trans (bnd_ok (v_op2 (v_var h5) (v_var h3) (ix_pf z)) rfl)
    · rw [decide_eq_false z, if_neg z]
      exact ifF
  have sums : ∀ j, sem (n + 4) 57 [.list ((if j < p.length then some (fr (co p j)) else none).toList ++ ((if j < q.length then some (fr (co q j)) else none).toList ++ []))] g = .ok (fr (co p j + co q j)) g := fun j => by
    by_cases z : j < p.length
    · by_cases y : j < q.length
      · rw [if_pos z, if_pos y]
        exact sum2_ok (co_sz hp k1 j) (co_sz hq j1 j) hK
      · rw [if_pos z, if_neg y, co_out (l := q) (by omega), Rat.add_zero]
        exact sum1_ok (co_sz hp k1 j) (by omega)
    · by_cases y : j < q.length
      · rw [if_neg z, if_pos y, co_out (l := p) (by omega), Rat.zero_add]
        exact sum1_ok (co_sz hq j1 j) (by omega)
      · rw [if_neg z, if_neg y, co_out (l := p) (by omega), co_out (l := q) (by omega), Rat.add_zero]
        exact sum0_ok
  obtain ⟨env', h1, s3, s4, s5, rfl⟩ := fr_range (g := g) (tg := .name 3) (m := m) (S := fun j env => ∃ s3 s4 s5, env = [.d (pf p), .d (pf q), .own (((List.range j).map fun k => co p k + co q k).map fr), s3, s4, s5])
    (body := fun e => evSs (sem (n + 4)) lwK (.cons (.set 4 (.lcfN (.op2 .ix (.var 5) (.var 3)) (.name 5) (.tup (.tup (.cons (.var 0) (.cons (.var 1) .nil)))) (.val (.op2 .lt (.var 3) (.blt .len (.var 5)))) [5])) (.cons (.app 2 (.call 57 (.cons (.var 4) .nil))) .nil)) e) (fun j env hj hS => by
      obtain ⟨s3, s4, s5, rfl⟩ := hS
      refine ⟨_, _, rfl, w_nx (g1 := g) (w_set (v_lcfN (g2 := g) (i_tup (v_tup (v_cons (v_var rfl) (v_cons (v_var rfl) v_nil)) (by show 2 ≤ 1000; decide))) ⟨by show 2 ≤ 1000000; decide, by decide⟩ (mf_cons (item j p _ rfl rfl) (mf_cons (item j q _ rfl rfl) rfl)))) (w_nx (w_app rfl (by simp; omega) (v_call (v_cons (v_var rfl) v_nil) (sums j))) w_nil), .d (.int (j : Nat)), .d (.list ((if j < p.length then some (fr (co p j)) else none).toList ++ ((if j < q.length then some (fr (co q j)) else none).toList ++ []))), s5, ?_⟩
      rw [List.range_succ, List.map_append, List.map_append]
      rfl) (env := [.d (pf p), .d (pf q), .own [], .no, .no, .no]) ⟨.no, .no, .no, rfl⟩
  refine w_F (w_nx (w_setO (v_lst v_nil (by show 0 ≤ 1000; decide)) (by show 2 < 6; decide)) (w_nx (w_fr (i_range (n := (m : Nat)) ?_ ⟨by omega, by omega⟩) (by rw [Int.toNat_natCast]; exact h1)) (w_frz rfl (w_rt (w_ret (v_call (v_cons (v_var rfl) v_nil) ?_))))))
  · rw [← hm, ← max_is]
    exact v_max2 (v_blt (v_var rfl) len_pf) (v_blt (v_var rfl) len_pf)
  · have e : pf (addP p q) = pf (tr ((List.range m).map fun k => co p k + co q k)) := by unfold addP; rw [hm]
    rw [e]
    exact lpoly_ok (n := n + 3) (l := (List.range m).map fun k => co p k + co q k) (by simp; omega)
/-! one polynomial led through another -/
theorem add_len (p q : List Rat) : (addP p q).length ≤ max p.length q.length := by
  unfold addP
  exact Nat.le_trans (tr_len _) (by simp)
theorem mul_len (p : List Rat) (b a : Rat) : (mulP p b a).length ≤ p.length + 1 := by
  unfold mulP
  exact Nat.le_trans (tr_len _) (by simp)
theorem led_len (a b : Rat) : ∀ l : List Rat, (ledP a b l).length ≤ l.length
  | [] => Nat.le_refl _
  | c :: s => by
    have h1 := led_len a b s
    have h2 := mul_len (ledP a b s) b a
    have h3 := add_len (mulP (ledP a b s) b a) (tr [c])
    have h4 := tr_len [c]
    show (addP (mulP (ledP a b s) b a) (tr [c])).length ≤ s.length + 1
    have : [c].length = 1 := rfl
    omega
theorem mem_sz {l : List Rat} {K : Nat} (h : ∀ k, Sz K (co l k)) : ∀ c ∈ l, Sz K c := fun c hc => by
  obtain ⟨k, _, e⟩ := mem_co hc
  rw [e]
  exact h k
theorem mul_sz {p : List Rat} {a b : Rat} (hp : ∀ k, Sz N (co p k)) (hb : Sz J b) (ha : Sz J a) : ∀ k, Sz (N + J + (N + J) + 1) (co (mulP p b a) k) := fun k => by
  rw [co_mulP]
  cases k with
  | zero => exact ((hp 0).mul hb).mono (by omega)
  | succ k => exact ((hp (k + 1)).mul hb).add ((hp k).mul ha)
theorem tr1_sz {c : Rat} (hc : Sz K c) (k1 : 1 ≤ K) : ∀ x ∈ tr [c], Sz K x := mem_sz fun k => by
  rw [co_tr]
  cases k with
  | zero => exact hc
  | succ k => exact (SzC.h (q := 0)).mono k1
section
variable {a b : Rat} {l : List Rat}
theorem put_loop {X s3 : Sl} (hb : Sz J b) (ha : Sz J a) (j1 : 1 ≤ J) (k1 : 1 ≤ K) (n1 : 1 ≤ N) (hK : N + J + (N + J) + 1 + K + 1 ≤ 8000) : ∀ (l : List Rat), l.length ≤ 20 → (∀ c ∈ l, Sz K c) → (∀ j k, Sz N (co (ledP a b (l.drop j)) k)) →
    ∃ s3', evFr (.name 3) (fun e => evSs (sem (n + 4)) lwK (.cons (.set 2 (.call 22 (.cons (.call 25 (.cons (.var 2) (.cons (.var 1) .nil))) (.cons (.call 19 (.cons (.var 3) .nil)) .nil)))) .nil) e) (l.map fr).reverse [X, .d (pf [b, a]), .d (pf []), s3] g = .ok (.nx [X, .d (pf [b, a]), .d (pf (ledP a b l)), s3']) g := by
  intro l
  induction l with
  | nil => exact fun _ _ _ => ⟨s3, fr_nil⟩
  | cons c s ih =>
    intro hl hc hs
    obtain ⟨s3', h⟩ := ih (by simp at hl; omega) (fun c hc' => hc c (List.mem_cons_of_mem _ hc')) (fun j => hs (j + 1))
    refine ⟨.d (fr c), ?_⟩
    rw [List.map_cons, List.reverse_cons]
    have hled := hs 1
    have ll := led_len a b s
    have ll2 := mul_len (ledP a b s) b a
    have sl : s.length ≤ 19 := by simp at hl; omega
    refine fr_snoc _ h rfl (w_nx (w_set (v_call (v_cons (v_call (v_cons (v_var rfl) (v_cons (v_var rfl) v_nil)) (mult_ok (mem_sz hled) hb ha (by omega) (by omega) (by omega))) (v_cons (v_call (v_cons (v_var rfl) v_nil) (cpoly_ok (n := n + 2))) v_nil)) (add_ok (K := N + J + (N + J) + 1) (J := K) (mem_sz (mul_sz hled hb ha)) (tr1_sz (hc c List.mem_cons_self) k1) (by omega) k1 (by omega) (by have := tr_len [c]; have : [c].length = 1 := rfl; omega) (by omega)))) w_nil)
theorem tr_lin (h : a ≠ 0) : tr [b, a] = [b, a] := by
  unfold tr
  rw [show tr [a] = [a] from if_neg h]
theorem led_ok (hb : Sz J b) (ha : Sz J a) (a0 : a ≠ 0) (j1 : 1 ≤ J) (k1 : 1 ≤ K) (n1 : 1 ≤ N) (hK : N + J + (N + J) + 1 + K + 1 ≤ 8000) (hl : l.length ≤ 20) (hc : ∀ c ∈ l, Sz K c) (hs : ∀ j k, Sz N (co (ledP a b (l.drop j)) k)) :
    sem (n + 6) 27 [pf l, fr a, fr b] g = .ok (pf (ledP a b l)) g := by
  rw [sem_def rfl rfl (by decide)]
  have h1 : sem (n + 5) 18 [.tuple [fr b, fr a]] g = .ok (pf [b, a]) g := by
    have := pof_ok (n := n + 4) (g := g) (l := [b, a]) (by show 2 ≤ 1000; decide)
    rw [tr_lin a0] at this
    exact this
  refine w_F (w_rt (w_ret (v_call (v_cons (v_var rfl) (v_cons (v_call (v_cons (v_tup (v_cons (v_var rfl) (v_cons (v_var rfl) v_nil)) (by show 2 ≤ 1000; decide)) v_nil) h1) v_nil)) ?_)))
  rw [sem_def rfl rfl (by decide)]
  obtain ⟨s3, h⟩ := put_loop (n := n) (g := g) (X := .d (pf l)) (s3 := .no) hb ha j1 k1 n1 hK l hl hc hs
  have gt : ∀ k : Int, opF .gt (.int k) (.int 0) = some (.bool (decide (0 < k))) := fun k => rfl
  refine w_F (w_nx (env' := [.d (pf l), .d (pf [b, a]), .no, .no]) (g1 := g) ?_ (w_nx (w_set (v_tup v_nil (by show 0 ≤ 1000; decide))) (w_nx (w_fr (i_tup (v_rev (v_var rfl))) h) (w_rt (w_ret (v_var rfl))))))
  by_cases z : (0 : Int) < (l.length : Nat) - 1
  · refine w_ife (k := true) (u_and (u_val (v_op2 (v_call (v_cons (v_var rfl) v_nil) deg_ok) v_lit ((gt _).trans (by rw [decide_eq_true z])))) (ifT.trans (u_val (v_op2 (v_call (v_cons (v_var rfl) v_nil) deg_ok) v_lit rfl)))) (ifT.trans (w_nx (w_ex (v_call (v_cons (v_op2 (v_call (v_cons (v_var rfl) v_nil) deg_ok) (v_call (v_cons (v_var rfl) v_nil) deg_ok) (mul_ok (n := 12) (m := 12) ?_ (by show (((2 : Nat) : Int) - 1).natAbs < 2 ^ 12; decide) (by decide) (by decide))) v_nil) (chk_ok (n := n + 3) ?_))) w_nil))
    · omega
    · show (((l.length : Nat) : Int) - 1) * (2 - 1) ≤ 24
      omega
  · exact w_ife (k := false) (u_and (u_val (v_op2 (v_call (v_cons (v_var rfl) v_nil) deg_ok) v_lit ((gt _).trans (by rw [decide_eq_false z])))) ifF) (ifF.trans w_nil)
theorem lput_loop {X Y Z s4 : Sl} (hY : Y = .d (fr a)) (hZ : Z = .d (fr b)) (hb : Sz J b) (ha : Sz J a) (a0 : a ≠ 0) (j1 : 1 ≤ J) (k1 : 1 ≤ K) (n1 : 1 ≤ N) (hK : N + J + (N + J) + 1 + K + 1 ≤ 8000) : ∀ (l : List Rat), l.length ≤ 20 → (∀ c ∈ l, Sz K c) → (∀ j k, Sz N (co (ledP a b (l.drop j)) k)) →
    ∃ s4', evFr (.name 4) (fun e => evSs (sem (n + 5)) lwK (.cons (.set 3 (.call 60 (.cons (.call 61 (.cons (.var 3) (.cons (.call 59 (.cons (.lst (.cons (.var 2) (.cons (.var 1) .nil))) .nil)) .nil))) (.cons (.call 59 (.cons (.lst (.cons (.var 4) .nil)) .nil)) .nil)))) .nil) e) (l.map fr).reverse [X, Y, Z, .d (pf []), s4] g = .ok (.nx [X, Y, Z, .d (pf (ledP a b l)), s4']) g := by
  subst hY hZ
  intro l
  induction l with
  | nil => exact fun _ _ _ => ⟨s4, fr_nil⟩
  | cons c s ih =>
    intro hl hc hs
    obtain ⟨s4', h⟩ := ih (by simp at hl; omega) (fun c hc' => hc c (List.mem_cons_of_mem _ hc')) (fun j => hs (j + 1))
    refine ⟨.d (fr c), ?_⟩
    rw [List.map_cons, List.reverse_cons]
    have hled := hs 1
    have ll := led_len a b s
    have ll2 := mul_len (ledP a b s) b a
    have sl : s.length ≤ 19 := by simp at hl; omega
    have h1 : sem (n + 5) 59 [.list [fr b, fr a]] g = .ok (pf [b, a]) g := by
      have := lpoly_ok (n := n + 4) (g := g) (l := [b, a]) (by show 2 ≤ 1000; decide)
      rw [tr_lin a0] at this
      exact this
    refine fr_snoc _ h rfl (w_nx (w_set (v_call (v_cons (v_call (v_cons (v_var rfl) (v_cons (v_call (v_cons (v_lst (v_cons (v_var rfl) (v_cons (v_var rfl) v_nil)) (by show 2 ≤ 1000; decide)) v_nil) h1) v_nil)) (lmult_ok (n := n + 1) (mem_sz hled) hb ha (by omega) (by omega) (by omega))) (v_cons (v_call (v_cons (v_lst (v_cons (v_var rfl) v_nil) (by show 1 ≤ 1000; decide)) v_nil) (lpoly_ok (n := n + 4) (l := [c]) (by show 1 ≤ 1000; decide))) v_nil)) (ladd_ok (K := N + J + (N + J) + 1) (J := K) (mem_sz (mul_sz hled hb ha)) (tr1_sz (hc c List.mem_cons_self) k1) (by omega) k1 (by omega) (by have := tr_len [c]; have : [c].length = 1 := rfl; omega) (by omega)))) w_nil)
theorem lled_ok (hb : Sz J b) (ha : Sz J a) (a0 : a ≠ 0) (j1 : 1 ≤ J) (k1 : 1 ≤ K) (n1 : 1 ≤ N) (hK : N + J + (N + J) + 1 + K + 1 ≤ 8000) (hl : l.length ≤ 20) (hc : ∀ c ∈ l, Sz K c) (hs : ∀ j k, Sz N (co (ledP a b (l.drop j)) k)) :
    sem (n + 6) 64 [pf l, fr a, fr b] g = .ok (pf (ledP a b l)) g := by
  rw [sem_def rfl rfl (by decide)]
  obtain ⟨s4, h⟩ := lput_loop (n := n) (g := g) (X := .d (pf l)) (s4 := .no) rfl rfl hb ha a0 j1 k1 n1 hK l hl hc hs
  exact w_F (w_nx (w_set (v_tup v_nil (by show 0 ≤ 1000; decide))) (w_nx (w_fr (i_tup (v_rev (v_var rfl))) h) (w_rt (w_ret (v_var rfl)))))
/-! growth -/
theorem growth_ok (hc : ∀ c ∈ l, Sz K c) (hl : l.length ≤ 10) (hK : K + 4 ≤ 9000) : sem (n + 4) 28 [pf l] g = .ok (pf (grP l)) g := by
  rw [sem_def rfl rfl (by decide), ← gr_gl]
  have key : ∀ (s : List Rat) (i : Nat), i + s.length ≤ 10 → (∀ c ∈ s, Sz K c) → mapM' (fun d => match tgF (tgE 1 2) d (wipeD [.d (pf l), .no, .no] [1, 2]) with | some env' => evE (sem (n + 3)) lwK (.call 7 (.cons (.var 2) (.cons (.call 3 (.cons (.var 1) .nil)) .nil))) env' | none => stk) (enumAt i (s.map fr)) g = .ok ((gl i s).map fr) g := by
    intro s
    induction s with
    | nil => exact fun _ _ _ => rfl
    | cons c s ih =>
      intro i hi hs
      rw [List.map_cons, enumAt_cons]
      have w : sem (n + 3) 3 [.int (i : Nat)] g = .ok (fr ((i : Nat) : Rat)) g := by
        have := whole_ok (n := n + 2) (g := g) (k := (i : Nat))
        rw [Rat.intCast_natCast] at this
        exact this
      exact mm_cons (v_call (v_cons (v_var rfl) (v_cons (v_call (v_cons (v_var rfl) v_nil) w) v_nil)) (times_ok (hs c List.mem_cons_self) (sz_nat (by simp at hi; omega)) hK)) (ih (i + 1) (by simp at hi; omega) fun c hc => hs c (List.mem_cons_of_mem _ hc))
  refine w_F (w_rt (w_ret (v_call (v_cons (v_sl (x := .list ((gl 0 l).map fr)) (z := lf ((gl 0 l).drop 1)) (g2 := g) (v_lc (g2 := g) (i_enumT (v_var rfl)) ⟨by show ((l.map fr).zipIdx.map _).length ≤ _; simp; omega, by decide⟩ (key l 0 (by omega) hc)) (v_os v_lit) v_on ?_) v_nil) (pofL_ok (n := n + 2) (by simp [gl_len]; omega)))))
  show some (PyData.list (cutP ((gl 0 l).map fr) (some ((1 : Nat) : Int)) none)) = _
  rw [cut_from, ← List.map_drop]
  rfl
theorem lgrowth_ok (hc : ∀ c ∈ l, Sz K c) (hl : l.length ≤ 10) (k1 : 1 ≤ K) (hK : K + 4 ≤ 9000) : sem (n + 4) 63 [pf l] g = .ok (pf (grP l)) g := by
  rw [sem_def rfl rfl (by decide), ← gr_range]
  have key : ∀ (s : List Nat), (∀ i ∈ s, 1 + i < l.length) → mapM' (fun d => match tgF (.name 1) d (wipeD [.d (pf l), .no] [1]) with | some env' => evE (sem (n + 3)) lwK (.call 53 (.cons (.tup (.cons (.var 1) (.cons (.lit (.int 1)) .nil))) (.cons (.op2 .ix (.var 0) (.var 1)) .nil))) env' | none => stk) (s.map fun k => .int (1 + (k : Nat))) g = .ok ((s.map fun k => ((1 + k : Nat) : Rat) * co l (1 + k)).map fr) g := by
    intro s
    induction s with
    | nil => exact fun _ => rfl
    | cons i s ih =>
      intro hs
      have hi := hs i List.mem_cons_self
      have e : PyData.tuple [.int (1 + (i : Nat)), .int 1] = fr ((1 + i : Nat) : Rat) := by
        unfold fr
        rw [Rat.num_natCast, Rat.den_natCast]
        rfl
      have ix : opF .ix (pf l) (.int (1 + (i : Nat))) = some (fr (co l (1 + i))) := ix_pf (k := 1 + i) hi
      refine mm_cons (v_call (v_cons (x := fr ((1 + i : Nat) : Rat)) ?_ (v_cons (v_op2 (v_var rfl) (v_var rfl) ix) v_nil)) (ltimes_ok (sz_nat (by omega)) (co_sz hc k1 _) (by omega))) (ih fun i hi => hs i (List.mem_cons_of_mem _ hi))
      rw [← e]
      exact v_tup (v_cons (v_var rfl) (v_cons v_lit v_nil)) (by show 2 ≤ 1000; decide)
  have hrange : (((l.length : Nat) : Int) - 1).toNat = l.length - 1 := by omega
  refine w_F (w_rt (w_ret (v_call (v_cons (v_lc (g2 := g) (ys := (((List.range (l.length - 1)).map fun k => ((1 + k : Nat) : Rat) * co l (1 + k)).map fr)) (i_range2 v_lit (v_blt (v_var rfl) len_pf) ⟨by decide, by decide, by omega, by omega⟩) ⟨by simp; omega, by decide⟩ ?_) v_nil) (lpoly_ok (n := n + 2) (by simp; omega)))))
  rw [hrange]
  exact key _ fun i hi => by have := List.mem_range.mp hi; omega
end
end
end G

/-! The sizes of a stretch's polynomial, its values, its growth's values. -/
namespace Fq
/-- what is asked of the numbers of a key -/
def CvSz (n : Nat) : Cv → Prop
  | .curve x y => Sz n x ∧ Sz n y
  | _ => True
/-- the four coefficients of the shape -/
def shape4 (t a : Rat) (cv : Cv) (u b : Rat) : Rat × Rat × Rat × Rat := match cv with
  | .hold => (a, 0, 0, 0)
  | .line => (a, b - a, 0, 0)
  | .ease => (a, 0, 3 * (b - a), -2 * (b - a))
  | .curve x y => (a, x * (u - t), 3 * (b - a) - (2 * (x * (u - t)) + y * (u - t)), x * (u - t) + y * (u - t) - 2 * (b - a))
instance {a : Rat} {n : Nat} [x : SzC a n] : SzC (-2 * a) (2 + n) := ⟨Sz.mul (Sz.neg (SzC.h (q := 2))) x.h⟩
theorem shape4_sz {t a u b : Rat} {cv : Cv} (ht : Sz 20 t) (ha : Sz 20 a) (hu : Sz 20 u) (hb : Sz 20 b) (hc : CvSz 20 cv) :
    Sz 170 (shape4 t a cv u b).1 ∧ Sz 170 (shape4 t a cv u b).2.1 ∧ Sz 170 (shape4 t a cv u b).2.2.1 ∧ Sz 170 (shape4 t a cv u b).2.2.2 := by
  haveI : SzC t 20 := ⟨ht⟩
  haveI : SzC a 20 := ⟨ha⟩
  haveI : SzC u 20 := ⟨hu⟩
  haveI : SzC b 20 := ⟨hb⟩
  cases cv with
  | hold =>
    show Sz 170 a ∧ Sz 170 (0 : Rat) ∧ Sz 170 (0 : Rat) ∧ Sz 170 (0 : Rat)
    exact ⟨sz_le (by decide), sz_le (by decide), sz_le (by decide), sz_le (by decide)⟩
  | line =>
    show Sz 170 a ∧ Sz 170 (b - a) ∧ Sz 170 (0 : Rat) ∧ Sz 170 (0 : Rat)
    exact ⟨sz_le (by decide), sz_le (by decide), sz_le (by decide), sz_le (by decide)⟩
  | ease =>
    show Sz 170 a ∧ Sz 170 (0 : Rat) ∧ Sz 170 (3 * (b - a)) ∧ Sz 170 (-2 * (b - a))
    exact ⟨sz_le (by decide), sz_le (by decide), sz_le (by decide), sz_le (by decide)⟩
  | curve x y =>
    haveI : SzC x 20 := ⟨hc.1⟩
    haveI : SzC y 20 := ⟨hc.2⟩
    show Sz 170 a ∧ Sz 170 (x * (u - t)) ∧ Sz 170 (3 * (b - a) - (2 * (x * (u - t)) + y * (u - t))) ∧ Sz 170 (x * (u - t) + y * (u - t) - 2 * (b - a))
    exact ⟨sz_le (by decide), sz_le (by decide), sz_le (by decide), sz_le (by decide)⟩
theorem shape_co {t a u b : Rat} {cv : Cv} (k : Nat) : co (shapeP t a cv u b) k = co [(shape4 t a cv u b).1, (shape4 t a cv u b).2.1, (shape4 t a cv u b).2.2.1, (shape4 t a cv u b).2.2.2] k := by
  cases cv <;> (match k with | 0 => rfl | 1 => rfl | 2 => rfl | 3 => rfl | k + 4 => rfl)
theorem co4 {c0 c1 c2 c3 : Rat} {k : Nat} (h : 4 ≤ k) : co [c0, c1, c2, c3] k = 0 := co_out h
/-- led through a x + b: in full -/
theorem led4 {a b c0 c1 c2 c3 : Rat} (k : Nat) : co (ledP a b [c0, c1, c2, c3]) k = co [((c3 * b + c2) * b + c1) * b + c0, (c1 + b * (2 * c2 + 3 * c3 * b)) * a, a * a * (c2 + 3 * c3 * b), c3 * (a * (a * a))] k := by
  rw [co_ledP]
  match k with
  | 0 => simp only [co, cL]; grind
  | 1 => simp only [co, cL]; grind
  | 2 => simp only [co, cL]; grind
  | 3 => simp only [co, cL]; grind
  | k + 4 => simp only [co, cL]; grind
theorem ev4 {f : Rat} {l : List Rat} {c0 c1 c2 c3 : Rat} (h : ∀ k, co l k = co [c0, c1, c2, c3] k) : evP f l = ((c3 * f + c2) * f + c1) * f + c0 := by
  rw [evP_ext l [c0, c1, c2, c3] h]
  show ((((0 * f + c3) * f + c2) * f + c1) * f + c0) = _
  rw [Rat.zero_mul, Rat.zero_add]
theorem drop_co : ∀ (l : List Rat) (j k : Nat), co (l.drop j) k = co l (j + k)
  | [], j, k => by rw [List.drop_nil]; rfl
  | x :: xs, 0, k => by rw [Nat.zero_add]; rfl
  | x :: xs, j + 1, k => by
    show co (xs.drop j) k = co (x :: xs) (j + 1 + k)
    rw [drop_co xs j k, show j + 1 + k = (j + k) + 1 by omega]
    rfl
/-- what comes of four coefficients of these sizes -/
structure Four (l : List Rat) (n0 n1 n2 n3 : Nat) : Prop where
  c0 : Sz n0 (co l 0)
  c1 : Sz n1 (co l 1)
  c2 : Sz n2 (co l 2)
  c3 : Sz n3 (co l 3)
  out : ∀ k, 4 ≤ k → co l k = 0
theorem Four.all {l : List Rat} {n0 n1 n2 n3 m : Nat} (h : Four l n0 n1 n2 n3) (h0 : n0 ≤ m) (h1 : n1 ≤ m) (h2 : n2 ≤ m) (h3 : n3 ≤ m) (hm : 1 ≤ m) : ∀ k, Sz m (co l k)
  | 0 => h.c0.mono h0
  | 1 => h.c1.mono h1
  | 2 => h.c2.mono h2
  | 3 => h.c3.mono h3
  | k + 4 => by rw [h.out _ (by omega)]; exact (SzC.h (q := 0)).mono hm
/-- Horner's steps -/
theorem Four.ev {l : List Rat} {n0 n1 n2 n3 w m : Nat} {f : Rat} (h : Four l n0 n1 n2 n3) (hf : Sz w f) (hm : n3 + w + n2 + 1 + w + n1 + 1 + w + n0 + 1 ≤ m) : ∀ j, Sz m (evP f (l.drop j)) := by
  intro j
  haveI : SzC f w := ⟨hf⟩
  haveI : SzC (co l 0) n0 := ⟨h.c0⟩
  haveI : SzC (co l 1) n1 := ⟨h.c1⟩
  haveI : SzC (co l 2) n2 := ⟨h.c2⟩
  haveI : SzC (co l 3) n3 := ⟨h.c3⟩
  have z : ∀ k, 4 ≤ k → co l k = 0 := h.out
  match j with
  | 0 =>
    rw [ev4 (l := l.drop 0) (c0 := co l 0) (c1 := co l 1) (c2 := co l 2) (c3 := co l 3) fun k => by
      rw [drop_co]
      match k with | 0 => rfl | 1 => rfl | 2 => rfl | 3 => rfl | k + 4 => exact z _ (by omega)]
    exact sz_le (by omega)
  | 1 =>
    rw [evP_ext (l.drop 1) [co l 1, co l 2, co l 3] fun k => by
      rw [drop_co]
      match k with | 0 => rfl | 1 => rfl | 2 => rfl | k + 3 => exact z _ (by omega)]
    have e : evP f [co l 1, co l 2, co l 3] = (co l 3 * f + co l 2) * f + co l 1 := by
      show ((0 * f + co l 3) * f + co l 2) * f + co l 1 = _
      rw [Rat.zero_mul, Rat.zero_add]
    rw [e]
    exact sz_le (by omega)
  | 2 =>
    rw [evP_ext (l.drop 2) [co l 2, co l 3] fun k => by
      rw [drop_co]
      match k with | 0 => rfl | 1 => rfl | k + 2 => exact z _ (by omega)]
    have e : evP f [co l 2, co l 3] = co l 3 * f + co l 2 := by
      show (0 * f + co l 3) * f + co l 2 = _
      rw [Rat.zero_mul, Rat.zero_add]
    rw [e]
    exact sz_le (by omega)
  | 3 =>
    rw [evP_ext (l.drop 3) [co l 3] fun k => by
      rw [drop_co]
      match k with | 0 => rfl | k + 1 => exact z _ (by omega)]
    have e : evP f [co l 3] = co l 3 := by
      show 0 * f + co l 3 = _
      rw [Rat.zero_mul, Rat.zero_add]
    rw [e]
    exact sz_le (by omega)
  | j + 4 =>
    rw [evP_zero _ fun k => by rw [drop_co]; exact z _ (by omega)]
    exact sz_le (by omega)
theorem ev_short (c0 c1 c2 c3 p q f : Rat) : (((c3 * (p * (p * p))) * f + p * p * (c2 + 3 * c3 * q)) * f + (c1 + q * (2 * c2 + 3 * c3 * q)) * p) * f + (((c3 * q + c2) * q + c1) * q + c0) = ((c3 * (p * f + q) + c2) * (p * f + q) + c1) * (p * f + q) + c0 := by grind
theorem gr_short (c1 c2 c3 p q f : Rat) : ((0 * f + c3 * (p * (p * p)) * 3) * f + p * p * (c2 + 3 * c3 * q) * 2) * f + (c1 + q * (2 * c2 + 3 * c3 * q)) * p * 1 = (c1 + (2 * c2 + 3 * c3 * (p * f + q)) * (p * f + q)) * p := by grind
theorem s_short (t u f : Rat) : 1 / (u - t) * f + (0 - t * (1 / (u - t))) = (f - t) / (u - t) := by
  rw [Rat.div_def, Rat.div_def]
  generalize (u - t)⁻¹ = p
  grind
section
variable {t u c0 c1 c2 c3 : Rat} (ht : Sz 20 t) (hu : Sz 20 u) (z0 : Sz 170 c0) (z1 : Sz 170 c1) (z2 : Sz 170 c2) (z3 : Sz 170 c3)
include ht hu z0 z1 z2 z3
theorem four_led : Four (ledP (1 / (u - t)) (0 - t * (1 / (u - t))) [c0, c1, c2, c3]) 875 686 491 296 := by
  haveI : SzC t 20 := ⟨ht⟩
  haveI : SzC u 20 := ⟨hu⟩
  haveI : SzC c0 170 := ⟨z0⟩
  haveI : SzC c1 170 := ⟨z1⟩
  haveI : SzC c2 170 := ⟨z2⟩
  haveI : SzC c3 170 := ⟨z3⟩
  refine ⟨?_, ?_, ?_, ?_, fun k hk => ?_⟩
  · rw [led4]
    show Sz 875 (((c3 * (0 - t * (1 / (u - t))) + c2) * (0 - t * (1 / (u - t))) + c1) * (0 - t * (1 / (u - t))) + c0)
    exact sz_le (by decide)
  · rw [led4]
    show Sz 686 ((c1 + (0 - t * (1 / (u - t))) * (2 * c2 + 3 * c3 * (0 - t * (1 / (u - t))))) * (1 / (u - t)))
    exact sz_le (by decide)
  · rw [led4]
    show Sz 491 ((1 / (u - t)) * (1 / (u - t)) * (c2 + 3 * c3 * (0 - t * (1 / (u - t)))))
    exact sz_le (by decide)
  · rw [led4]
    show Sz 296 (c3 * ((1 / (u - t)) * ((1 / (u - t)) * (1 / (u - t)))))
    exact sz_le (by decide)
  · rw [led4]; exact co4 hk
theorem val_led {f : Rat} (hf : Sz 20 f) : Sz 1000 (evP f (ledP (1 / (u - t)) (0 - t * (1 / (u - t))) [c0, c1, c2, c3])) := by
  haveI : SzC t 20 := ⟨ht⟩
  haveI : SzC u 20 := ⟨hu⟩
  haveI : SzC f 20 := ⟨hf⟩
  haveI : SzC c0 170 := ⟨z0⟩
  haveI : SzC c1 170 := ⟨z1⟩
  haveI : SzC c2 170 := ⟨z2⟩
  haveI : SzC c3 170 := ⟨z3⟩
  rw [ev4 led4, ev_short, s_short]
  exact sz_le (by decide)
theorem gr_led (k : Nat) : co (grP (ledP (1 / (u - t)) (0 - t * (1 / (u - t))) [c0, c1, c2, c3])) k = co [(c1 + (0 - t * (1 / (u - t))) * (2 * c2 + 3 * c3 * (0 - t * (1 / (u - t))))) * (1 / (u - t)) * 1, (1 / (u - t)) * (1 / (u - t)) * (c2 + 3 * c3 * (0 - t * (1 / (u - t)))) * 2, c3 * ((1 / (u - t)) * ((1 / (u - t)) * (1 / (u - t)))) * 3, 0] k := by
  rw [co_grP, led4]
  match k with
  | 0 => rfl
  | 1 => rfl
  | 2 => rfl
  | 3 => exact Rat.zero_mul _
  | k + 4 => rw [co4 (by omega), co4 (by omega), Rat.zero_mul]
theorem val_gr {f : Rat} (hf : Sz 20 f) : Sz 1000 (evP f (grP (ledP (1 / (u - t)) (0 - t * (1 / (u - t))) [c0, c1, c2, c3]))) := by
  haveI : SzC t 20 := ⟨ht⟩
  haveI : SzC u 20 := ⟨hu⟩
  haveI : SzC f 20 := ⟨hf⟩
  haveI : SzC c1 170 := ⟨z1⟩
  haveI : SzC c2 170 := ⟨z2⟩
  haveI : SzC c3 170 := ⟨z3⟩
  rw [ev4 (gr_led ht hu z0 z1 z2 z3), gr_short, s_short]
  exact sz_le (by decide)
theorem four_gr : Four (grP (ledP (1 / (u - t)) (0 - t * (1 / (u - t))) [c0, c1, c2, c3])) 688 493 298 1 := by
  have F := four_led ht hu z0 z1 z2 z3
  refine ⟨?_, ?_, ?_, ?_, fun k hk => ?_⟩
  · rw [co_grP]; exact (F.c1.mul (SzC.h (q := 1))).mono (by decide)
  · rw [co_grP]; exact (F.c2.mul (SzC.h (q := 2))).mono (by decide)
  · rw [co_grP]; exact (F.c3.mul (SzC.h (q := 3))).mono (by decide)
  · rw [co_grP, F.out _ (by decide), Rat.zero_mul]; exact SzC.h
  · rw [co_grP, F.out _ (by omega), Rat.zero_mul]
end
theorem led_ext {p q : Rat} {l m : List Rat} (h : ∀ k, co l k = co m k) : ledP p q l = ledP p q m := by rw [← ledP_tr l, tr_ext _ _ h, ledP_tr]
theorem led_shape {p q t a u b : Rat} {cv : Cv} : ledP p q (shapeP t a cv u b) = ledP p q [(shape4 t a cv u b).1, (shape4 t a cv u b).2.1, (shape4 t a cv u b).2.2.1, (shape4 t a cv u b).2.2.2] := led_ext fun k => shape_co k
section
variable {t a u b : Rat} {cv : Cv} (ht : Sz 20 t) (ha : Sz 20 a) (hu : Sz 20 u) (hb : Sz 20 b) (hc : CvSz 20 cv)
include ht hu
theorem by_sz : Sz 64 (1 / (u - t)) ∧ Sz 64 (0 - t * (1 / (u - t))) := by
  haveI : SzC t 20 := ⟨ht⟩
  haveI : SzC u 20 := ⟨hu⟩
  have h1 : Sz 64 (1 / (u - t)) := sz_le (by decide)
  have h2 : Sz 64 (0 - t * (1 / (u - t))) := by
    rw [show (0 : Rat) - t * (1 / (u - t)) = - (t * (1 / (u - t))) by grind]
    exact sz_le (by decide)
  exact ⟨h1, h2⟩
include ha hb hc
theorem seg_four : Four (ledP (1 / (u - t)) (0 - t * (1 / (u - t))) (shapeP t a cv u b)) 875 686 491 296 := by
  obtain ⟨s0, s1, s2, s3⟩ := shape4_sz (cv := cv) ht ha hu hb hc
  rw [led_shape]
  exact four_led ht hu s0 s1 s2 s3
theorem seg_val {f : Rat} (hf : Sz 20 f) : Sz 1000 (evP f (ledP (1 / (u - t)) (0 - t * (1 / (u - t))) (shapeP t a cv u b))) := by
  obtain ⟨s0, s1, s2, s3⟩ := shape4_sz (cv := cv) ht ha hu hb hc
  rw [led_shape]
  exact val_led ht hu s0 s1 s2 s3 hf
theorem gr_four : Four (grP (ledP (1 / (u - t)) (0 - t * (1 / (u - t))) (shapeP t a cv u b))) 688 493 298 1 := by
  obtain ⟨s0, s1, s2, s3⟩ := shape4_sz (cv := cv) ht ha hu hb hc
  rw [led_shape]
  exact four_gr ht hu s0 s1 s2 s3
theorem gr_val {f : Rat} (hf : Sz 20 f) : Sz 1000 (evP f (grP (ledP (1 / (u - t)) (0 - t * (1 / (u - t))) (shapeP t a cv u b)))) := by
  obtain ⟨s0, s1, s2, s3⟩ := shape4_sz (cv := cv) ht ha hu hb hc
  rw [led_shape]
  exact val_gr ht hu s0 s1 s2 s3 hf
theorem led_steps (j k : Nat) : Sz 2800 (co (ledP (1 / (u - t)) (0 - t * (1 / (u - t))) ((shapeP t a cv u b).drop j)) k) := by
  obtain ⟨s0, s1, s2, s3⟩ := shape4_sz (cv := cv) ht ha hu hb hc
  have four : ∀ c0 c1 c2 c3 : Rat, Sz 170 c0 → Sz 170 c1 → Sz 170 c2 → Sz 170 c3 → (∀ k, co ((shapeP t a cv u b).drop j) k = co [c0, c1, c2, c3] k) → Sz 2800 (co (ledP (1 / (u - t)) (0 - t * (1 / (u - t))) ((shapeP t a cv u b).drop j)) k) := by
    intro c0 c1 c2 c3 z0 z1 z2 z3 h
    rw [led_ext h]
    exact (four_led ht hu z0 z1 z2 z3).all (by decide) (by decide) (by decide) (by decide) (by decide) k
  have z : Sz 170 (0 : Rat) := (SzC.h (q := 0)).mono (by decide)
  have sh := fun k => shape_co (t := t) (a := a) (cv := cv) (u := u) (b := b) k
  match j with
  | 0 => exact four _ _ _ _ s0 s1 s2 s3 fun k => sh k
  | 1 =>
    exact four _ _ _ 0 s1 s2 s3 z fun k => by
      rw [drop_co, sh]
      match k with | 0 => rfl | 1 => rfl | 2 => rfl | 3 => rfl | k + 4 => rw [co4 (by omega), co4 (by omega)]
  | 2 =>
    exact four _ _ 0 0 s2 s3 z z fun k => by
      rw [drop_co, sh]
      match k with | 0 => rfl | 1 => rfl | 2 => rfl | 3 => rfl | k + 4 => rw [co4 (by omega), co4 (by omega)]
  | 3 =>
    exact four _ 0 0 0 s3 z z z fun k => by
      rw [drop_co, sh]
      match k with | 0 => rfl | 1 => rfl | 2 => rfl | 3 => rfl | k + 4 => rw [co4 (by omega), co4 (by omega)]
  | j + 4 =>
    exact four 0 0 0 0 z z z z fun k => by
      rw [drop_co, sh, co4 (by omega)]
      match k with | 0 => rfl | 1 => rfl | 2 => rfl | 3 => rfl | k + 4 => rw [co4 (by omega)]
end
end Fq

/-! The stretch between two keys: both roads to its polynomial. -/
namespace Fq
/-- a key -/
structure Ky where
  t : Rat
  v : Rat
  c : Cv
/-- of these sizes -/
structure Ky.ok (A : Ky) : Prop where
  t : Sz 20 A.t
  v : Sz 20 A.v
  c : CvSz 20 A.c
/-- all steps of the leading of four -/
theorem steps4 {t u c0 c1 c2 c3 : Rat} (ht : Sz 20 t) (hu : Sz 20 u) (z0 : Sz 170 c0) (z1 : Sz 170 c1) (z2 : Sz 170 c2) (z3 : Sz 170 c3) {l : List Rat} (sh : ∀ k, co l k = co [c0, c1, c2, c3] k) (j k : Nat) : Sz 2800 (co (ledP (1 / (u - t)) (0 - t * (1 / (u - t))) (l.drop j)) k) := by
  have four : ∀ c0 c1 c2 c3 : Rat, Sz 170 c0 → Sz 170 c1 → Sz 170 c2 → Sz 170 c3 → (∀ k, co (l.drop j) k = co [c0, c1, c2, c3] k) → Sz 2800 (co (ledP (1 / (u - t)) (0 - t * (1 / (u - t))) (l.drop j)) k) := by
    intro c0 c1 c2 c3 z0 z1 z2 z3 h
    rw [led_ext h]
    exact (four_led ht hu z0 z1 z2 z3).all (by decide) (by decide) (by decide) (by decide) (by decide) k
  have z : Sz 170 (0 : Rat) := (SzC.h (q := 0)).mono (by decide)
  match j with
  | 0 => exact four _ _ _ _ z0 z1 z2 z3 fun k => sh k
  | 1 =>
    exact four _ _ _ 0 z1 z2 z3 z fun k => by
      rw [drop_co, sh]
      match k with | 0 => rfl | 1 => rfl | 2 => rfl | 3 => rfl | k + 4 => rw [co4 (by omega), co4 (by omega)]
  | 2 =>
    exact four _ _ 0 0 z2 z3 z z fun k => by
      rw [drop_co, sh]
      match k with | 0 => rfl | 1 => rfl | 2 => rfl | 3 => rfl | k + 4 => rw [co4 (by omega), co4 (by omega)]
  | 3 =>
    exact four _ 0 0 0 z3 z z z fun k => by
      rw [drop_co, sh]
      match k with | 0 => rfl | 1 => rfl | 2 => rfl | 3 => rfl | k + 4 => rw [co4 (by omega), co4 (by omega)]
  | j + 4 =>
    exact four 0 0 0 0 z z z z fun k => by
      rw [drop_co, sh, co4 (by omega)]
      match k with | 0 => rfl | 1 => rfl | 2 => rfl | 3 => rfl | k + 4 => rw [co4 (by omega)]
theorem co4_sz {m : Nat} {c0 c1 c2 c3 : Rat} (z0 : Sz m c0) (z1 : Sz m c1) (z2 : Sz m c2) (z3 : Sz m c3) (hm : 1 ≤ m) : ∀ k, Sz m (co [c0, c1, c2, c3] k)
  | 0 => z0
  | 1 => z1
  | 2 => z2
  | 3 => z3
  | k + 4 => by rw [co4 (by omega)]; exact (SzC.h (q := 0)).mono hm
theorem inv_ne {t u : Rat} (h : t ≠ u) : 1 / (u - t) ≠ 0 := by
  intro z
  have h2 : u - t ≠ 0 := by grind
  have : (1 : Rat) = 0 * (u - t) := by rw [← z, Rat.div_mul_cancel h2]
  rw [Rat.zero_mul] at this
  exact absurd this (by decide)
theorem over_neg {t p : Rat} (h : p ≠ 0) : (0 - t) / p = 0 - t * (1 / p) := by
  rw [Rat.div_def, Rat.div_def]
  grind
end Fq
namespace G
open PySem PySem.Spec PyProof.Rows L2 Fq
/-! data -/
def sHold : PD := .str ⟨#[104, 111, 108, 100]⟩
def sLine : PD := .str ⟨#[108, 105, 110, 101]⟩
def sEase : PD := .str ⟨#[101, 97, 115, 101]⟩
def sCurve : PD := .str ⟨#[99, 117, 114, 118, 101]⟩
def cvD : Cv → PD
  | .hold => .tuple [sHold]
  | .line => .tuple [sLine]
  | .ease => .tuple [sEase]
  | .curve x y => .tuple [sCurve, fr x, fr y]
def kyD (A : Ky) : PD := .tuple [fr A.t, fr A.v, cvD A.c]
/-- a track: keys and mode -/
def trD (ks : List Ky) (m : PD) : PD := .tuple [.tuple (ks.map kyD), m]
section
variable {n : Nat} {g : List PD}
theorem led_tr_ok {l : List Rat} {a b : Rat} {J K N : Nat} (hb : Sz J b) (ha : Sz J a) (a0 : a ≠ 0) (j1 : 1 ≤ J) (k1 : 1 ≤ K) (n1 : 1 ≤ N) (hK : N + J + (N + J) + 1 + K + 1 ≤ 8000) (hl : l.length ≤ 20) (hc : ∀ k, Sz K (co l k)) (hs : ∀ j k, Sz N (co (ledP a b (l.drop j)) k)) :
    sem (n + 6) 27 [pf (tr l), fr a, fr b] g = .ok (pf (ledP a b l)) g := by
  rw [← ledP_tr l]
  exact led_ok hb ha a0 j1 k1 n1 hK (Nat.le_trans (tr_len l) hl) (mem_sz fun k => by rw [co_tr]; exact hc k) fun j k => by rw [← tr_drop, ledP_tr]; exact hs j k
theorem lled_tr_ok {l : List Rat} {a b : Rat} {J K N : Nat} (hb : Sz J b) (ha : Sz J a) (a0 : a ≠ 0) (j1 : 1 ≤ J) (k1 : 1 ≤ K) (n1 : 1 ≤ N) (hK : N + J + (N + J) + 1 + K + 1 ≤ 8000) (hl : l.length ≤ 20) (hc : ∀ k, Sz K (co l k)) (hs : ∀ j k, Sz N (co (ledP a b (l.drop j)) k)) :
    sem (n + 6) 64 [pf (tr l), fr a, fr b] g = .ok (pf (ledP a b l)) g := by
  rw [← ledP_tr l]
  exact lled_ok hb ha a0 j1 k1 n1 hK (Nat.le_trans (tr_len l) hl) (mem_sz fun k => by rw [co_tr]; exact hc k) fun j k => by rw [← tr_drop, ledP_tr]; exact hs j k
theorem share_ok {A B : Ky} (ha : A.ok) (hb : B.ok) (ne : A.t ≠ B.t) : sem (n + 5) 30 [kyD A, kyD B] g = .ok (.tuple [fr (1 / (B.t - A.t)), fr (0 - A.t * (1 / (B.t - A.t)))]) g := by
  have d0 : B.t - A.t ≠ 0 := by grind
  rw [sem_def rfl rfl (by decide), ← over_neg d0]
  have hd := hb.t.sub ha.t
  have e1 : sem (n + 4) 8 [fr 1, fr (B.t - A.t)] g = .ok (fr (1 / (B.t - A.t))) g := over_ok (n := n + 1) (SzC.h (q := 1)) hd d0 (by decide)
  have e2 : sem (n + 4) 6 [fr 0, fr A.t] g = .ok (fr (0 - A.t)) g := less_ok (SzC.h (q := 0)) ha.t (by decide)
  have e3 : sem (n + 4) 8 [fr (0 - A.t), fr (B.t - A.t)] g = .ok (fr ((0 - A.t) / (B.t - A.t))) g := over_ok (n := n + 1) ((SzC.h (q := 0)).sub ha.t) hd d0 (by decide)
  exact w_F (w_nx (w_set (v_call (v_cons (v_op2 (v_var rfl) v_lit rfl) (v_cons (v_op2 (v_var rfl) v_lit rfl) v_nil)) (less_ok hb.t ha.t (by decide)))) (w_rt (w_ret (v_tup (v_cons (v_call (v_cons (v_glb rfl) (v_cons (v_var rfl) v_nil)) e1) (v_cons (v_call (v_cons (v_call (v_cons (v_glb rfl) (v_cons (v_op2 (v_var rfl) v_lit rfl) v_nil)) e2) (v_cons (v_var rfl) v_nil)) e3) v_nil)) (by show 2 ≤ 1000; decide)))))
theorem curve_ok {A B : Ky} {x y : Rat} (ha : A.ok) (hb : B.ok) (hx : Sz 20 x) (hy : Sz 20 y) : sem (n + 5) 31 [kyD A, kyD B, fr x, fr y] g = .ok (lf (shapeP A.t A.v (.curve x y) B.t B.v)) g := by
  rw [sem_def rfl rfl (by decide)]
  have hd := hb.t.sub ha.t
  have hv := hb.v.sub ha.v
  have h3 : Sz 2 (3 : Rat) := SzC.h
  have h2 : Sz 2 (2 : Rat) := SzC.h
  have e1 : sem (n + 4) 7 [fr 3, fr (B.v - A.v)] g = .ok (fr (3 * (B.v - A.v))) g := times_ok (n := n + 1) h3 hv (by decide)
  have e2 : sem (n + 4) 7 [fr 2, fr (x * (B.t - A.t))] g = .ok (fr (2 * (x * (B.t - A.t)))) g := times_ok (n := n + 1) h2 (hx.mul hd) (by decide)
  have e3 : sem (n + 4) 7 [fr 2, fr (B.v - A.v)] g = .ok (fr (2 * (B.v - A.v))) g := times_ok (n := n + 1) h2 hv (by decide)
  have t3 : ∀ {env : EnvD}, evE (sem (n + 4)) lwK (.tup (.cons (.lit (.int 3)) (.cons (.lit (.int 1)) .nil))) env g = .ok (fr 3) g := v_tup (v_cons v_lit (v_cons v_lit v_nil)) (by show 2 ≤ 1000; decide)
  have t2 : ∀ {env : EnvD}, evE (sem (n + 4)) lwK (.tup (.cons (.lit (.int 2)) (.cons (.lit (.int 1)) .nil))) env g = .ok (fr 2) g := v_tup (v_cons v_lit (v_cons v_lit v_nil)) (by show 2 ≤ 1000; decide)
  refine w_F (w_nx (w_par (v_call (v_cons (v_op2 (v_var rfl) v_lit rfl) (v_cons (v_op2 (v_var rfl) v_lit rfl) v_nil)) (less_ok hb.t ha.t (by decide))) rfl (v_call (v_cons (v_op2 (v_var rfl) v_lit rfl) (v_cons (v_op2 (v_var rfl) v_lit rfl) v_nil)) (less_ok hb.v ha.v (by decide))) rfl ⟨by show 4 < 10; decide, by show 5 < 10; decide, by decide⟩) ?_)
  refine w_nx (w_par (v_call (v_cons (v_var rfl) (v_cons (v_var rfl) v_nil)) (times_ok (n := n + 1) hx hd (by decide))) rfl (v_call (v_cons (v_var rfl) (v_cons (v_var rfl) v_nil)) (times_ok (n := n + 1) hy hd (by decide))) rfl ⟨by show 6 < 10; decide, by show 7 < 10; decide, by decide⟩) ?_
  refine w_nx (w_set (v_call (v_cons (v_call (v_cons t3 (v_cons (v_var rfl) v_nil)) e1) (v_cons (v_call (v_cons (v_call (v_cons t2 (v_cons (v_var rfl) v_nil)) e2) (v_cons (v_var rfl) v_nil)) (plus_ok (n := n + 1) (h2.mul (hx.mul hd)) (hy.mul hd) (by decide))) v_nil)) (less_ok (h3.mul hv) ((h2.mul (hx.mul hd)).add (hy.mul hd)) (by decide)))) ?_
  refine w_nx (w_set (v_call (v_cons (v_call (v_cons (v_var rfl) (v_cons (v_var rfl) v_nil)) (plus_ok (n := n + 1) (hx.mul hd) (hy.mul hd) (by decide))) (v_cons (v_call (v_cons t2 (v_cons (v_var rfl) v_nil)) e3) v_nil)) (less_ok ((hx.mul hd).add (hy.mul hd)) (h2.mul hv) (by decide)))) ?_
  exact w_rt (w_ret (v_lst (v_cons (v_op2 (v_var rfl) v_lit rfl) (v_cons (v_var rfl) (v_cons (v_var rfl) (v_cons (v_var rfl) v_nil)))) (by show 4 ≤ 1000; decide)))
end
end G

/-! The polynomial between two keys: the program's and the law's. -/
namespace G
open PySem PySem.Spec PyProof.Rows L2 Fq
section
variable {n : Nat} {g : List PD}
theorem eqS {a b : Str} {k : Bool} (h : (a == b) = k) (h1 : shp (.str a) = true) (h2 : shp (.str b) = true) : opF .eq (.str a) (.str b) = some (.bool k) := by
  show (if shp (.str a) = true ∧ shp (.str b) = true then some (PyData.bool (PyData.eqv (.str a) (.str b))) else none) = _
  rw [if_pos ⟨h1, h2⟩, ← h]
  rfl
theorem s170 {q : Rat} {m : Nat} (h : Sz m q) (l : m ≤ 170) : Sz 170 q := h.mono l
theorem between_ok {A B : Ky} (ha : A.ok) (hb : B.ok) (ne : A.t ≠ B.t) : sem (n + 7) 33 [kyD A, kyD B] g = .ok (pf (segP A.t A.v A.c B.t B.v)) g := by
  obtain ⟨ta, va, ca⟩ := A
  obtain ⟨tb, vb, cb⟩ := B
  have sh := share_ok (n := n + 1) (g := g) ha hb ne
  obtain ⟨p1, p2⟩ := by_sz ha.t hb.t
  have p0 := inv_ne ne
  have hv : Sz 41 (vb - va) := hb.v.sub ha.v
  have o1 : Sz 170 (1 : Rat) := (SzC.h (q := 1)).mono (by decide)
  have o0 : Sz 170 (0 : Rat) := (SzC.h (q := 0)).mono (by decide)
  have o3 : Sz 170 (3 : Rat) := (SzC.h (q := 3)).mono (by decide)
  have o2 : Sz 170 (-2 : Rat) := (Sz.neg (SzC.h (q := 2))).mono (by decide)
  rw [sem_def rfl rfl (by decide)]
  have fin : ∀ {l : List Rat} {c1 c2 c3 : Rat}, Sz 170 c1 → Sz 170 c2 → Sz 170 c3 → l.length ≤ 20 → (∀ k, co l k = co [0, c1, c2, c3] k) →
      sem (n + 6) 27 [pf l, fr (1 / (tb - ta)), fr (0 - ta * (1 / (tb - ta)))] g = .ok (pf (ledP (1 / (tb - ta)) (0 - ta * (1 / (tb - ta))) l)) g ∧
      sem (n + 6) 23 [pf (ledP (1 / (tb - ta)) (0 - ta * (1 / (tb - ta))) l), fr (vb - va)] g = .ok (pf (scP (ledP (1 / (tb - ta)) (0 - ta * (1 / (tb - ta))) l) (vb - va))) g ∧
      sem (n + 6) 22 [pf (tr [va]), pf (scP (ledP (1 / (tb - ta)) (0 - ta * (1 / (tb - ta))) l) (vb - va))] g = .ok (pf (addP (tr [va]) (scP (ledP (1 / (tb - ta)) (0 - ta * (1 / (tb - ta))) l) (vb - va)))) g := by
    intro l c1 c2 c3 z1 z2 z3 hl h
    have cs : ∀ k, Sz 170 (co l k) := fun k => by rw [h]; exact co4_sz o0 z1 z2 z3 (by decide) k
    have st := steps4 ha.t hb.t o0 z1 z2 z3 h
    have ls : ∀ k, Sz 2800 (co (ledP (1 / (tb - ta)) (0 - ta * (1 / (tb - ta))) l) k) := fun k => st 0 k
    have ll := led_len (1 / (tb - ta)) (0 - ta * (1 / (tb - ta))) l
    have sl : (scP (ledP (1 / (tb - ta)) (0 - ta * (1 / (tb - ta))) l) (vb - va)).length ≤ 20 := Nat.le_trans (tr_len _) (by rw [List.length_map]; omega)
    refine ⟨led_ok (J := 64) (K := 170) (N := 2800) p2 p1 p0 (by decide) (by decide) (by decide) (by decide) hl (mem_sz cs) st, scaled_ok (n := n + 2) (K := 2800) (J := 41) (mem_sz ls) hv (by omega) (by decide), add_ok (n := n + 2) (K := 20) (J := 2841) (tr1_sz ha.v (by decide)) (mem_sz fun k => by rw [co_scP]; exact (ls k).mul hv) (by decide) (by decide) (Nat.le_trans (tr_len _) (by show 1 ≤ 100; decide)) (by omega) (by decide)⟩
  have asg : tgF (.tup (.cons (.name 3) (.cons (.name 4) .nil))) (.tuple [fr (1 / (tb - ta)), fr (0 - ta * (1 / (tb - ta)))]) = fun env => some ((env.set 3 (.d (fr (1 / (tb - ta))))).set 4 (.d (fr (0 - ta * (1 / (tb - ta)))))) := rfl
  have hd : ∀ {env : EnvD} {A : Ky}, env[0]? = some (.d (kyD A)) → evE (sem (n + 6)) lwK (.op2 .ix (.op2 .ix (.var 0) (.lit (.int 2))) (.lit (.int 0))) env g = .ok (match cvD A.c with | .tuple (x :: _) => x | _ => .none) g := fun {env} {A} h => by
    refine v_op2 (v_op2 (v_var h) v_lit rfl) v_lit ?_
    cases A.c <;> rfl
  refine w_F (w_nx (w_set (hd rfl)) ?_)
  cases ca with
  | hold =>
    exact w_rt (w_ife (k := true) (u_val (v_op2 (v_var rfl) v_lit (eqS (by decide) (by decide +kernel) (by decide +kernel)))) (ifT.trans (w_rt (w_ret (v_call (v_cons (v_op2 (v_var rfl) v_lit rfl) v_nil) (const_ok (n := n + 4)))))))
  | line =>
    obtain ⟨f1, f2, f3⟩ := fin (l := [0, 1]) o1 o0 o0 (by show 2 ≤ 20; decide) (fun k => by
      match k with | 0 => rfl | 1 => rfl | 2 => rfl | 3 => rfl | k + 4 => rfl)
    rw [seg_line] at f3
    refine w_nx (w_ife (k := false) (u_val (v_op2 (v_var rfl) v_lit (eqS (by decide) (by decide +kernel) (by decide +kernel)))) (ifF.trans w_nil)) ?_
    refine w_nx (w_asg (v_call (v_cons (v_var rfl) (v_cons (v_var rfl) v_nil)) sh) rfl) ?_
    refine w_nx (w_ife (k := false) (u_val (v_op2 (v_var rfl) v_lit (eqS (by decide) (by decide +kernel) (by decide +kernel)))) (ifF.trans w_nil)) ?_
    refine w_nx (w_set (v_call (v_cons (v_op2 (v_var rfl) v_lit rfl) (v_cons (v_op2 (v_var rfl) v_lit rfl) v_nil)) (less_ok (n := n + 2) hb.v ha.v (by decide)))) ?_
    refine w_nx (w_set (v_ite (k := false) (u_val (v_op2 (v_var rfl) v_lit (eqS (by decide) (by decide +kernel) (by decide +kernel)))) (ifF.trans (v_tup (v_cons (v_glb rfl) (v_cons (v_glb rfl) v_nil)) (by show 2 ≤ 1000; decide))))) ?_
    exact w_rt (w_ret (v_call (v_cons (v_call (v_cons (v_op2 (v_var rfl) v_lit rfl) v_nil) (const_ok (n := n + 4))) (v_cons (v_call (v_cons (v_call (v_cons (v_var rfl) (v_cons (v_var rfl) (v_cons (v_var rfl) v_nil))) f1) (v_cons (v_var rfl) v_nil)) f2) v_nil)) f3))
  | ease =>
    obtain ⟨f1, f2, f3⟩ := fin (l := [0, 0, 3, -2]) o0 o3 o2 (by show 4 ≤ 20; decide) (fun k => rfl)
    rw [seg_ease] at f3
    refine w_nx (w_ife (k := false) (u_val (v_op2 (v_var rfl) v_lit (eqS (by decide) (by decide +kernel) (by decide +kernel)))) (ifF.trans w_nil)) ?_
    refine w_nx (w_asg (v_call (v_cons (v_var rfl) (v_cons (v_var rfl) v_nil)) sh) rfl) ?_
    refine w_nx (w_ife (k := false) (u_val (v_op2 (v_var rfl) v_lit (eqS (by decide) (by decide +kernel) (by decide +kernel)))) (ifF.trans w_nil)) ?_
    refine w_nx (w_set (v_call (v_cons (v_op2 (v_var rfl) v_lit rfl) (v_cons (v_op2 (v_var rfl) v_lit rfl) v_nil)) (less_ok (n := n + 2) hb.v ha.v (by decide)))) ?_
    refine w_nx (w_set (v_ite (k := true) (u_val (v_op2 (v_var rfl) v_lit (eqS (by decide) (by decide +kernel) (by decide +kernel)))) (ifT.trans (v_glb rfl)))) ?_
    exact w_rt (w_ret (v_call (v_cons (v_call (v_cons (v_op2 (v_var rfl) v_lit rfl) v_nil) (const_ok (n := n + 4))) (v_cons (v_call (v_cons (v_call (v_cons (v_var rfl) (v_cons (v_var rfl) (v_cons (v_var rfl) v_nil))) f1) (v_cons (v_var rfl) v_nil)) f2) v_nil)) f3))
  | curve x y =>
    have hx : Sz 20 x := ha.c.1
    have hy : Sz 20 y := ha.c.2
    obtain ⟨s0, s1, s2, s3⟩ := shape4_sz (cv := .curve x y) ha.t ha.v hb.t hb.v ⟨hx, hy⟩
    have hl : (shapeP ta va (.curve x y) tb vb).length = 4 := rfl
    have f1 : sem (n + 6) 27 [pf (tr (shapeP ta va (.curve x y) tb vb)), fr (1 / (tb - ta)), fr (0 - ta * (1 / (tb - ta)))] g = .ok (pf (segP ta va (.curve x y) tb vb)) g :=
      led_tr_ok (J := 64) (K := 170) (N := 2800) p2 p1 p0 (by decide) (by decide) (by decide) (by decide) (by rw [hl]; decide) (fun k => by rw [shape_co]; exact co4_sz s0 s1 s2 s3 (by decide) k) (steps4 ha.t hb.t s0 s1 s2 s3 fun k => shape_co k)
    refine w_nx (w_ife (k := false) (u_val (v_op2 (v_var rfl) v_lit (eqS (by decide) (by decide +kernel) (by decide +kernel)))) (ifF.trans w_nil)) ?_
    refine w_nx (w_asg (v_call (v_cons (v_var rfl) (v_cons (v_var rfl) v_nil)) sh) rfl) ?_
    refine w_rt (w_ife (k := true) (u_val (v_op2 (v_var rfl) v_lit (eqS (by decide) (by decide +kernel) (by decide +kernel)))) (ifT.trans (w_rt (w_ret ?_))))
    exact v_call (v_cons (v_call (v_cons (v_call (v_cons (v_var rfl) (v_cons (v_var rfl) (v_cons (v_op2 (v_op2 (v_var rfl) v_lit rfl) v_lit rfl) (v_cons (v_op2 (v_op2 (v_var rfl) v_lit rfl) v_lit rfl) v_nil)))) (curve_ok (n := n + 1) ha hb hx hy)) v_nil) (trm_ok (n := n + 4) (by rw [hl]; decide))) (v_cons (v_var rfl) (v_cons (v_var rfl) v_nil))) f1
end
end G

/-! A track's stretch: the program's and the law's. -/
namespace G
open PySem PySem.Spec PyProof.Rows L2 Fq
section
variable {Fn : Nat → List PD → M PD} {L : Lw} {env : EnvD} {g g1 g2 g3 : List PD}
theorem v_chain {o o' : Op2} {a b k : Ex} {x y z r : PD} (ha : evE Fn L a env g = .ok x g1) (hb : evE Fn L b env g1 = .ok y g2) (h1 : opF o x y = some (.bool true)) (hk : evE Fn L k env g2 = .ok z g3) (h2 : opF o' y z = some r) : evE Fn L (.chain o o' a b k) env g = .ok r g3 := by
  unfold evE
  refine bnd_ok ha (bnd_ok hb ?_)
  rw [h1]
  refine bnd_ok hk ?_
  rw [h2]
  rfl
theorem v_chainF {o o' : Op2} {a b k : Ex} {x y : PD} (ha : evE Fn L a env g = .ok x g1) (hb : evE Fn L b env g1 = .ok y g2) (h1 : opF o x y = some (.bool false)) : evE Fn L (.chain o o' a b k) env g = .ok (.bool false) g2 := by
  unfold evE
  refine bnd_ok ha (bnd_ok hb ?_)
  rw [h1]
  rfl
theorem v_andV {a b : Ex} {o : Out PD} (ha : evE Fn L a env g = .ok (.bool true) g1) (hb : evE Fn L b env g1 = o) : evE Fn L (.andV a b) env g = o := by
  unfold evE
  exact bnd_ok ha hb
end
section
variable {n : Nat} {g : List PD}
theorem isint_ok {k : Int} : sem (n + 1) 0 [.int k] g = .ok (.bool true) g := by
  rw [sem_def rfl rfl (by decide)]
  exact w_F (w_rt (w_ret (v_andV (v_isi (v_var rfl) rfl) (v_not (k := false) (v_isi (v_var rfl) rfl)))))
theorem atK {ks : List Ky} {k : Nat} {A : Ky} (h : ks[k]? = some A) : opF .ix (.tuple (ks.map kyD)) (.int (k : Nat)) = some (kyD A) := atI_nat (by rw [List.getElem?_map, h]; rfl)
/-- the keys of a track -/
def TrOk (ks : List Ky) : Prop := (∀ A ∈ ks, A.ok) ∧ ks.Pairwise (fun A B => A.t < B.t)
theorem TrOk.at {ks : List Ky} (h : TrOk ks) {k : Nat} {A : Ky} (e : ks[k]? = some A) : A.ok := h.1 A (List.mem_of_getElem? e)
theorem TrOk.lt {ks : List Ky} (h : TrOk ks) {i j : Nat} {A B : Ky} (e : ks[i]? = some A) (f : ks[j]? = some B) (l : i < j) : A.t < B.t := by
  obtain ⟨h1, h2⟩ := List.getElem?_eq_some_iff.mp e
  obtain ⟨h3, h4⟩ := List.getElem?_eq_some_iff.mp f
  rw [← h2, ← h4]
  exact List.pairwise_iff_getElem.mp h.2 i j h1 h3 l
theorem rat_ne_of_lt {a b : Rat} (h : a < b) : a ≠ b := by grind
theorem segment_ok {ks : List Ky} {m : PD} (ht : TrOk ks) {k : Nat} {A B : Ky} (ea : ks[k]? = some A) (eb : ks[k + 1]? = some B) : sem (n + 8) 34 [trD ks m, .int (k : Nat)] g = .ok (pf (segP A.t A.v A.c B.t B.v)) g := by
  rw [sem_def rfl rfl (by decide)]
  have hk : k + 1 < ks.length := (List.getElem?_eq_some_iff.mp eb).1
  have g0 : opF .le (.int 0) (.int (k : Nat)) = some (.bool true) := by
    show some (PyData.bool (decide ((0 : Int) ≤ (k : Nat)))) = _
    rw [decide_eq_true (by omega)]
  have ln : bltF .len (.tuple (ks.map kyD)) = some (.int (ks.length : Nat)) := by
    show some (PyData.int ((ks.map kyD).length : Nat)) = _
    rw [List.length_map]
  have sb : opF .sub (.int (ks.length : Nat)) (.int 1) = some (.int ((ks.length : Nat) - 1)) := rfl
  have g1 : opF .lt (.int (k : Nat)) (.int ((ks.length : Nat) - 1)) = some (.bool true) := by
    show some (PyData.bool (decide (((k : Nat) : Int) < (ks.length : Nat) - 1))) = _
    rw [decide_eq_true (by omega)]
  have ad : opF .add (.int (k : Nat)) (.int 1) = some (.int ((k + 1 : Nat) : Int)) := rfl
  refine w_F (w_nx (w_set (v_op2 (v_var rfl) v_lit rfl)) (w_nx (w_ife (k := false) (u_or (k := false) (u_not (k := true) (u_val (v_call (v_cons (v_var rfl) v_nil) isint_ok))) (ifF.trans (u_not (k := true) (u_val (v_chain v_lit (v_var rfl) g0 (v_op2 (v_blt (v_var rfl) ln) v_lit sb) g1))))) (ifF.trans w_nil)) (w_rt (w_ret ?_))))
  exact v_call (v_cons (v_op2 (v_var rfl) (v_var rfl) (atK ea)) (v_cons (v_op2 (v_var rfl) (v_op2 (v_var rfl) v_lit ad) (atK eb)) v_nil)) (between_ok (ht.at ea) (ht.at eb) (rat_ne_of_lt (ht.lt ea eb (Nat.lt_succ_self k))))
theorem lsegment_ok {ks : List Ky} {m : PD} (ht : TrOk ks) {k : Nat} {A B : Ky} (ea : ks[k]? = some A) (eb : ks[k + 1]? = some B) : sem (n + 7) 65 [trD ks m, .int (k : Nat)] g = .ok (pf (segP A.t A.v A.c B.t B.v)) g := by
  have ne := rat_ne_of_lt (ht.lt ea eb (Nat.lt_succ_self k))
  have ha := ht.at ea
  have hb := ht.at eb
  have ad : opF .add (.int (k : Nat)) (.int 1) = some (.int ((k + 1 : Nat) : Int)) := rfl
  rw [sem_def rfl rfl (by decide)]
  obtain ⟨p1, p2⟩ := by_sz ha.t hb.t
  have p0 := inv_ne ne
  have d0 : B.t - A.t ≠ 0 := by grind
  have hd : Sz 41 (B.t - A.t) := hb.t.sub ha.t
  have hv : Sz 41 (B.v - A.v) := hb.v.sub ha.v
  obtain ⟨s0, s1, s2, s3⟩ := shape4_sz (cv := A.c) ha.t ha.v hb.t hb.v ha.c
  have sl : (shapeP A.t A.v A.c B.t B.v).length ≤ 4 := by cases A.c <;> simp [shapeP]
  have f1 : sem (n + 6) 64 [pf (tr (shapeP A.t A.v A.c B.t B.v)), fr (1 / (B.t - A.t)), fr (0 - A.t * (1 / (B.t - A.t)))] g = .ok (pf (ledP (1 / (B.t - A.t)) (0 - A.t * (1 / (B.t - A.t))) (shapeP A.t A.v A.c B.t B.v))) g :=
    lled_tr_ok (J := 64) (K := 170) (N := 2800) p2 p1 p0 (by decide) (by decide) (by decide) (by decide) (by omega) (fun k => by rw [shape_co]; exact co4_sz s0 s1 s2 s3 (by decide) k) (steps4 ha.t hb.t s0 s1 s2 s3 fun k => shape_co k)
  obtain ⟨ta, va, ca⟩ := A
  obtain ⟨tb, vb, cb⟩ := B
  have h1 : Sz 1 (1 : Rat) := SzC.h
  have h0 : Sz 1 (0 : Rat) := SzC.h
  have h2 : Sz 2 (2 : Rat) := SzC.h
  have h3 : Sz 2 (3 : Rat) := SzC.h
  have tl : ∀ {env : EnvD} {i j : Int}, evE (sem (n + 6)) lwK (.tup (.cons (.lit (.int i)) (.cons (.lit (.int j)) .nil))) env g = .ok (.tuple [.int i, .int j]) g := v_tup (v_cons v_lit (v_cons v_lit v_nil)) (by show 2 ≤ 1000; decide)
  -- the ends
  refine w_F (w_nx (w_asg (v_tup (v_cons (v_op2 (v_op2 (v_var rfl) v_lit rfl) (v_var rfl) (atK ea)) (v_cons (v_op2 (v_op2 (v_var rfl) v_lit rfl) (v_op2 (v_var rfl) v_lit ad) (atK eb)) v_nil)) (by show 2 ≤ 1000; decide)) rfl) ?_)
  refine w_nx (w_par (v_call (v_cons (v_var rfl) (v_cons (v_var rfl) v_nil)) (lless_ok (n := n + 2) hb.t ha.t (by decide))) rfl (v_call (v_cons (v_var rfl) (v_cons (v_var rfl) v_nil)) (lless_ok (n := n + 2) hb.v ha.v (by decide))) rfl ⟨by show 8 < 16; decide, by show 9 < 16; decide, by decide⟩) ?_
  show evSs (sem (n + 6)) lwK _ [.d (trD ks m), .d (.int (k : Nat)), .d (fr ta), .d (fr va), .d (cvD ca), .d (fr tb), .d (fr vb), .d (cvD cb), .d (fr (tb - ta)), .d (fr (vb - va)), .no, .no, .no, .no, .no, .no] g = _
  have e1 : sem (n + 6) 55 [fr 1, fr (tb - ta)] g = .ok (fr (1 / (tb - ta))) g := lover_ok (n := n + 3) h1 hd d0 (by decide)
  have e2 : sem (n + 6) 53 [fr ta, fr (1 / (tb - ta))] g = .ok (fr (ta * (1 / (tb - ta)))) g := ltimes_ok (n := n + 3) ha.t p1 (by decide)
  have e3 : sem (n + 6) 54 [fr 0, fr (ta * (1 / (tb - ta)))] g = .ok (fr (0 - ta * (1 / (tb - ta)))) g := lless_ok (n := n + 2) h0 (ha.t.mul p1) (by decide)
  have e4 : sem (n + 6) 53 [fr 3, fr (vb - va)] g = .ok (fr (3 * (vb - va))) g := ltimes_ok (n := n + 3) h3 hv (by decide)
  cases ca with
  | hold =>
    exact w_rt (w_ife (k := true) (u_val (v_op2 (v_op2 (v_var rfl) v_lit rfl) v_lit (eqS (by decide) (by decide +kernel) (by decide +kernel)))) (ifT.trans (w_rt (w_ret (v_call (v_cons (v_lst (v_cons (v_var rfl) v_nil) (by show 1 ≤ 1000; decide)) v_nil) (lpoly_ok (n := n + 5) (l := [va]) (by show 1 ≤ 1000; decide)))))))
  | line =>
    refine w_nx (w_ife (k := false) (u_val (v_op2 (v_op2 (v_var rfl) v_lit rfl) v_lit (eqS (by decide) (by decide +kernel) (by decide +kernel)))) (ifF.trans w_nil)) ?_
    refine w_nx (w_ife (k := true) (u_val (v_op2 (v_op2 (v_var rfl) v_lit rfl) v_lit (eqS (by decide) (by decide +kernel) (by decide +kernel)))) (ifT.trans (w_nx (w_set (v_call (v_cons (v_lst (v_cons (v_var rfl) (v_cons (v_var rfl) v_nil)) (by show 2 ≤ 1000; decide)) v_nil) (lpoly_ok (n := n + 5) (l := [va, vb - va]) (by show 2 ≤ 1000; decide)))) w_nil))) ?_
    refine w_nx (w_set (v_call (v_cons tl (v_cons (v_var rfl) v_nil)) e1)) ?_
    exact w_rt (w_ret (v_call (v_cons (v_var rfl) (v_cons (v_var rfl) (v_cons (v_call (v_cons tl (v_cons (v_call (v_cons (v_var rfl) (v_cons (v_var rfl) v_nil)) e2) v_nil)) e3) v_nil))) f1))
  | ease =>
    have e5 : sem (n + 6) 53 [fr (-2), fr (vb - va)] g = .ok (fr (-2 * (vb - va))) g := ltimes_ok (n := n + 3) h2.neg hv (by decide)
    have tm : ∀ {env : EnvD}, evE (sem (n + 6)) lwK (.tup (.cons (.neg (.lit (.int 2))) (.cons (.lit (.int 1)) .nil))) env g = .ok (fr (-2)) g := v_tup (v_cons (v_neg v_lit) (v_cons v_lit v_nil)) (by show 2 ≤ 1000; decide)
    refine w_nx (w_ife (k := false) (u_val (v_op2 (v_op2 (v_var rfl) v_lit rfl) v_lit (eqS (by decide) (by decide +kernel) (by decide +kernel)))) (ifF.trans w_nil)) ?_
    refine w_nx (w_ife (k := false) (u_val (v_op2 (v_op2 (v_var rfl) v_lit rfl) v_lit (eqS (by decide) (by decide +kernel) (by decide +kernel)))) (ifF.trans (w_nx (w_ife (k := true) (u_val (v_op2 (v_op2 (v_var rfl) v_lit rfl) v_lit (eqS (by decide) (by decide +kernel) (by decide +kernel)))) (ifT.trans (w_nx (w_set (v_call (v_cons (v_lst (v_cons (v_var rfl) (v_cons tl (v_cons (v_call (v_cons tl (v_cons (v_var rfl) v_nil)) e4) (v_cons (v_call (v_cons tm (v_cons (v_var rfl) v_nil)) e5) v_nil)))) (by show 4 ≤ 1000; decide)) v_nil) (lpoly_ok (n := n + 5) (l := [va, 0, 3 * (vb - va), -2 * (vb - va)]) (by show 4 ≤ 1000; decide)))) w_nil))) w_nil))) ?_
    refine w_nx (w_set (v_call (v_cons tl (v_cons (v_var rfl) v_nil)) e1)) ?_
    exact w_rt (w_ret (v_call (v_cons (v_var rfl) (v_cons (v_var rfl) (v_cons (v_call (v_cons tl (v_cons (v_call (v_cons (v_var rfl) (v_cons (v_var rfl) v_nil)) e2) v_nil)) e3) v_nil))) f1))
  | curve x y =>
    have hx : Sz 20 x := ha.c.1
    have hy : Sz 20 y := ha.c.2
    have q2 : sem (n + 6) 53 [fr 2, fr (x * (tb - ta))] g = .ok (fr (2 * (x * (tb - ta)))) g := ltimes_ok (n := n + 3) h2 (hx.mul hd) (by decide)
    have q3 : sem (n + 6) 53 [fr 2, fr (vb - va)] g = .ok (fr (2 * (vb - va))) g := ltimes_ok (n := n + 3) h2 hv (by decide)
    refine w_nx (w_ife (k := false) (u_val (v_op2 (v_op2 (v_var rfl) v_lit rfl) v_lit (eqS (by decide) (by decide +kernel) (by decide +kernel)))) (ifF.trans w_nil)) ?_
    refine w_nx (w_ife (k := false) (u_val (v_op2 (v_op2 (v_var rfl) v_lit rfl) v_lit (eqS (by decide) (by decide +kernel) (by decide +kernel)))) (ifF.trans (w_nx (w_ife (k := false) (u_val (v_op2 (v_op2 (v_var rfl) v_lit rfl) v_lit (eqS (by decide) (by decide +kernel) (by decide +kernel)))) (ifF.trans (w_nx (w_par (v_call (v_cons (v_op2 (v_var rfl) v_lit rfl) (v_cons (v_var rfl) v_nil)) (ltimes_ok (n := n + 3) hx hd (by decide))) rfl (v_call (v_cons (v_op2 (v_var rfl) v_lit rfl) (v_cons (v_var rfl) v_nil)) (ltimes_ok (n := n + 3) hy hd (by decide))) rfl ⟨by show 13 < 16; decide, by show 14 < 16; decide, by decide⟩) (w_nx (w_set (v_call (v_cons (v_call (v_cons tl (v_cons (v_var rfl) v_nil)) e4) (v_cons (v_call (v_cons (v_call (v_cons tl (v_cons (v_var rfl) v_nil)) q2) (v_cons (v_var rfl) v_nil)) (lplus_ok (n := n + 3) (h2.mul (hx.mul hd)) (hy.mul hd) (by decide))) v_nil)) (lless_ok (n := n + 2) (h3.mul hv) ((h2.mul (hx.mul hd)).add (hy.mul hd)) (by decide)))) (w_nx (w_set (v_call (v_cons (v_call (v_cons (v_var rfl) (v_cons (v_var rfl) v_nil)) (lplus_ok (n := n + 3) (hx.mul hd) (hy.mul hd) (by decide))) (v_cons (v_call (v_cons tl (v_cons (v_var rfl) v_nil)) q3) v_nil)) (lless_ok (n := n + 2) ((hx.mul hd).add (hy.mul hd)) (h2.mul hv) (by decide)))) (w_nx (w_set (v_call (v_cons (v_lst (v_cons (v_var rfl) (v_cons (v_var rfl) (v_cons (v_var rfl) (v_cons (v_var rfl) v_nil)))) (by show 4 ≤ 1000; decide)) v_nil) (lpoly_ok (n := n + 5) (l := shapeP ta va (.curve x y) tb vb) (by show 4 ≤ 1000; decide)))) w_nil)))))) w_nil))) ?_
    show evSs (sem (n + 6)) lwK _ [.d (trD ks m), .d (.int (k : Nat)), .d (fr ta), .d (fr va), .d (cvD (.curve x y)), .d (fr tb), .d (fr vb), .d (cvD cb), .d (fr (tb - ta)), .d (fr (vb - va)), .d (pf (tr (shapeP ta va (.curve x y) tb vb))), .d (fr (3 * (vb - va) - (2 * (x * (tb - ta)) + y * (tb - ta)))), .d (fr (x * (tb - ta) + y * (tb - ta) - 2 * (vb - va))), .d (fr (x * (tb - ta))), .d (fr (y * (tb - ta))), .no] g = _
    refine w_nx (w_set (v_call (v_cons tl (v_cons (v_var rfl) v_nil)) e1)) ?_
    exact w_rt (w_ret (v_call (v_cons (v_var rfl) (v_cons (v_var rfl) (v_cons (v_call (v_cons tl (v_cons (v_call (v_cons (v_var rfl) (v_cons (v_var rfl) v_nil)) e2) v_nil)) e3) v_nil))) f1))
end
end G

/-! Clocks: how fast they grow. -/
namespace Fq
abbrev Pt := Rat × Rat
def pairsW {α β : Type} (h : α → α → β) : List α → List β
  | a :: b :: s => h a b :: pairsW h (b :: s)
  | _ => []
theorem pairsW_map {α β γ : Type} (h : α → α → β) (k : β → γ) : ∀ l : List α, pairsW (fun a b => k (h a b)) l = (pairsW h l).map k
  | [] => rfl
  | [_] => rfl
  | a :: b :: s => by
    show k (h a b) :: pairsW (fun a b => k (h a b)) (b :: s) = _
    rw [pairsW_map h k (b :: s)]
    rfl
theorem pairsW_len {α β : Type} (h : α → α → β) : ∀ l : List α, (pairsW h l).length = l.length - 1
  | [] => rfl
  | [_] => rfl
  | a :: b :: s => by
    show (pairsW h (b :: s)).length + 1 = _
    rw [pairsW_len h (b :: s)]
    simp
theorem pairsW_at {α β : Type} (h : α → α → β) : ∀ (l : List α) (i : Nat) (a b : α), l[i]? = some a → l[i + 1]? = some b → (pairsW h l)[i]? = some (h a b)
  | [], i, a, b, e, _ => by simp at e
  | [x], i, a, b, _, f => by simp at f
  | x :: y :: s, 0, a, b, e, f => by
    have e1 : x = a := by simpa using e
    have f1 : y = b := by simpa using f
    subst e1 f1
    rfl
  | x :: y :: s, i + 1, a, b, e, f => by
    show (pairsW h (y :: s))[i]? = _
    exact pairsW_at h (y :: s) i a b (by simpa using e) (by simpa using f)
def slP (ps : List Pt) : List Rat := pairsW (fun p q => (q.2 - p.2) / (q.1 - p.1)) ps
/-- a clock's points -/
structure PsOk (ps : List Pt) : Prop where
  ne : ps ≠ []
  len : ps.length ≤ 20
  sz1 : ∀ p ∈ ps, Sz 20 p.1
  sz2 : ∀ p ∈ ps, Sz 20 p.2
  up1 : ps.Pairwise fun p q => p.1 < q.1
  up2 : ps.Pairwise fun p q => p.2 < q.2
theorem up_at {α : Type} {f : α → Rat} {l : List α} (h : l.Pairwise fun p q => f p < f q) {i j : Nat} {a b : α} (e : l[i]? = some a) (k : l[j]? = some b) (lt : i < j) : f a < f b := by
  obtain ⟨h1, h2⟩ := List.getElem?_eq_some_iff.mp e
  obtain ⟨h3, h4⟩ := List.getElem?_eq_some_iff.mp k
  rw [← h2, ← h4]
  exact List.pairwise_iff_getElem.mp h i j h1 h3 lt
end Fq
namespace G
open PySem PySem.Spec PyProof.Rows L2 Fq
def ptD (p : Pt) : PD := .tuple [fr p.1, fr p.2]
def clD (ps : List Pt) (r : Rat) : PD := .tuple [.tuple (ps.map ptD), fr r]
section
variable {n : Nat} {g : List PD}
theorem mm_pairs {α γ : Type} {f : PD → M γ} {h : α → α → γ} {D : α → PD} : ∀ l : List α, (∀ i a b, l[i]? = some a → l[i + 1]? = some b → f (.tuple [D a, D b]) g = .ok (h a b) g) → mapM' f (zipF (l.map D) ((l.map D).drop 1)) g = .ok (pairsW h l) g
  | [], _ => rfl
  | [_], _ => rfl
  | a :: b :: s, k => by
    have ih := mm_pairs (f := f) (h := h) (b :: s) fun i x y hx hy => k (i + 1) x y (by simpa using hx) (by simpa using hy)
    exact mm_cons (d := .tuple [D a, D b]) (k 0 a b rfl rfl) ih
theorem zipF_len (xs ys : List PD) : (zipF xs ys).length ≤ xs.length := by
  unfold zipF
  rw [List.length_map, List.length_zip]
  exact Nat.min_le_left _ _
theorem sl_1 {ds : List PD} : slF (.tuple ds) (some 1) none = some (.tuple (ds.drop 1)) := by
  show some (PyData.tuple (cutP ds (some ((1 : Nat) : Int)) none)) = _
  rw [cut_from]
theorem add_LL {as bs : List PD} (h : as.length + bs.length ≤ 2 ^ 24) : opF .add (.list as) (.list bs) = some (.list (as ++ bs)) := if_pos h
theorem sl_fact {ps : List Pt} (hp : PsOk ps) {i : Nat} {a b : Pt} (e : ps[i]? = some a) (f : ps[i + 1]? = some b) : Sz 41 (b.2 - a.2) ∧ Sz 41 (b.1 - a.1) ∧ b.1 - a.1 ≠ 0 ∧ 0 < b.1 - a.1 ∧ 0 < b.2 - a.2 := by
  have l1 := up_at hp.up1 e f (Nat.lt_succ_self i)
  have l2 := up_at hp.up2 e f (Nat.lt_succ_self i)
  exact ⟨(hp.sz2 b (List.mem_of_getElem? f)).sub (hp.sz2 a (List.mem_of_getElem? e)), (hp.sz1 b (List.mem_of_getElem? f)).sub (hp.sz1 a (List.mem_of_getElem? e)), by grind, by grind, by grind⟩
theorem slopes_ok {ps : List Pt} {r : Rat} (hp : PsOk ps) : sem (n + 5) 12 [clD ps r] g = .ok (lf (slP ps ++ [r])) g := by
  rw [sem_def rfl rfl (by decide)]
  have hl : (ps.map ptD).length ≤ 20 := by rw [List.length_map]; exact hp.len
  have fin : opF .add (.list ((slP ps).map fr)) (.list [fr r]) = some (lf (slP ps ++ [r])) := by
    rw [add_LL (by rw [List.length_map]; unfold slP; rw [pairsW_len]; show _ + 1 ≤ _; have := hp.len; omega)]
    unfold lf
    rw [List.map_append]
    rfl
  refine w_F (w_nx (w_asg (v_var rfl) rfl) (w_nx (w_set (v_lcN (ys := (slP ps).map fr) (g2 := g) (i_zipT (v_var rfl) (v_sl (v_var rfl) (v_os v_lit) v_on sl_1)) ⟨Nat.le_trans (zipF_len _ _) (by omega), by decide⟩ ?_)) (w_rt (w_ret (v_op2 (v_var rfl) (v_lst (v_cons (v_var rfl) v_nil) (by show 1 ≤ 1000; decide)) fin)))))
  unfold slP
  rw [← pairsW_map]
  refine mm_pairs ps fun i a b ha hb => ?_
  obtain ⟨s2, s1, z, _⟩ := sl_fact hp ha hb
  exact noX_is (v_call (v_cons (v_call (v_cons (v_op2 (v_var rfl) v_lit rfl) (v_cons (v_op2 (v_var rfl) v_lit rfl) v_nil)) (less_ok (hp.sz2 b (List.mem_of_getElem? hb)) (hp.sz2 a (List.mem_of_getElem? ha)) (by decide))) (v_cons (v_call (v_cons (v_op2 (v_var rfl) v_lit rfl) (v_cons (v_op2 (v_var rfl) v_lit rfl) v_nil)) (less_ok (hp.sz1 b (List.mem_of_getElem? hb)) (hp.sz1 a (List.mem_of_getElem? ha)) (by decide))) v_nil)) (over_ok (n := n + 1) s2 s1 z (by decide)))
theorem lslopes_ok {ps : List Pt} {r : Rat} (hp : PsOk ps) : sem (n + 5) 69 [clD ps r] g = .ok (lf (slP ps ++ [r])) g := by
  rw [sem_def rfl rfl (by decide)]
  have hl : (ps.map ptD).length ≤ 20 := by rw [List.length_map]; exact hp.len
  have fin : opF .add (.list ((slP ps).map fr)) (.list [fr r]) = some (lf (slP ps ++ [r])) := by
    rw [add_LL (by rw [List.length_map]; unfold slP; rw [pairsW_len]; show _ + 1 ≤ _; have := hp.len; omega)]
    unfold lf
    rw [List.map_append]
    rfl
  refine w_F (w_rt (w_ret (v_op2 (v_lc (ys := (slP ps).map fr) (g2 := g) (i_zipT (v_op2 (v_var rfl) v_lit rfl) (v_sl (v_op2 (v_var rfl) v_lit rfl) (v_os v_lit) v_on sl_1)) ⟨Nat.le_trans (zipF_len _ _) (by omega), by decide⟩ ?_) (v_lst (v_cons (v_op2 (v_var rfl) v_lit rfl) v_nil) (by show 1 ≤ 1000; decide)) fin)))
  unfold slP
  rw [← pairsW_map]
  refine mm_pairs ps fun i a b ha hb => ?_
  obtain ⟨s2, s1, z, _⟩ := sl_fact hp ha hb
  exact v_call (v_cons (v_call (v_cons (v_var rfl) (v_cons (v_var rfl) v_nil)) (lless_ok (hp.sz2 b (List.mem_of_getElem? hb)) (hp.sz2 a (List.mem_of_getElem? ha)) (by decide))) (v_cons (v_call (v_cons (v_var rfl) (v_cons (v_var rfl) v_nil)) (lless_ok (hp.sz1 b (List.mem_of_getElem? hb)) (hp.sz1 a (List.mem_of_getElem? ha)) (by decide))) v_nil)) (lover_ok (n := n + 1) s2 s1 z (by decide))
end
end G

/-! Clocks: the piece at a time, or at what is shown. -/
namespace Fq
def cntLe : List Rat → Rat → Nat
  | [], _ => 0
  | x :: s, f => if x ≤ f then cntLe s f + 1 else 0
theorem cntLe_len : ∀ (l : List Rat) (f : Rat), cntLe l f ≤ l.length
  | [], _ => Nat.le_refl _
  | x :: s, f => by
    unfold cntLe
    have := cntLe_len s f
    split
    · show _ ≤ s.length + 1; omega
    · exact Nat.zero_le _
/-- time (false), what is shown (true) -/
def sel : Bool → Pt → Rat
  | false, p => p.1
  | true, p => p.2
def selI : Bool → Int
  | false => 0
  | true => 1
def pcA (w : Bool) (ps : List Pt) (f : Rat) : Nat := cntLe ((ps.drop 1).map (sel w)) f
theorem PsOk.szs {ps : List Pt} (h : PsOk ps) {w : Bool} {p : Pt} (m : p ∈ ps) : Sz 20 (sel w p) := by
  cases w
  · exact h.sz1 p m
  · exact h.sz2 p m
theorem PsOk.ups {ps : List Pt} (h : PsOk ps) (w : Bool) : ps.Pairwise fun p q => sel w p < sel w q := by
  cases w
  · exact h.up1
  · exact h.up2
theorem pcA_lt {w : Bool} {ps : List Pt} {f : Rat} (h : PsOk ps) : pcA w ps f < ps.length := by
  have h1 := cntLe_len ((ps.drop 1).map (sel w)) f
  rw [List.length_map, List.length_drop] at h1
  have h2 : 0 < ps.length := List.length_pos_iff.mpr h.ne
  unfold pcA
  omega
end Fq
namespace G
open PySem PySem.Spec PyProof.Rows L2 Fq
section
variable {n : Nat} {g : List PD}
theorem ix_sel {w : Bool} {p : Pt} : opF .ix (ptD p) (.int (selI w)) = some (fr (sel w p)) := by cases w <;> rfl
theorem atP {ps : List Pt} {k : Nat} {p : Pt} (h : ps[k]? = some p) : opF .ix (.tuple (ps.map ptD)) (.int (k : Nat)) = some (ptD p) := atI_nat (by rw [List.getElem?_map, h]; rfl)
theorem len_P {ps : List Pt} : bltF .len (.tuple (ps.map ptD)) = some (.int (ps.length : Nat)) := by
  show some (PyData.int ((ps.map ptD).length : Nat)) = _
  rw [List.length_map]
theorem le_cmp {a b : Rat} : opF .le (.int (cmpR a b)) (.int 0) = some (.bool (decide (a ≤ b))) := by
  show some (PyData.bool (decide (cmpR a b ≤ 0))) = _
  congr 2
  exact decide_eq_decide.mpr cmpR_le
theorem lt_cmp {a b : Rat} : opF .lt (.int (cmpR a b)) (.int 0) = some (.bool (decide (a < b))) := by
  show some (PyData.bool (decide (cmpR a b < 0))) = _
  congr 2
  exact decide_eq_decide.mpr cmpR_lt
theorem piece_loop {ps : List Pt} {r f : Rat} {w : Bool} {W : Nat} (hp : PsOk ps) (hf : Sz W f) (hW : W ≤ 8000) : ∀ (s : List Pt) (i m : Nat), ps.drop (i + 1) = s → i < ps.length → s.length < m →
    evWh (fun e => evT (sem (n + 5)) lwK (tOfW ir13) e) (fun e => evSs (sem (n + 5)) lwK (bOfW ir13) e) m [.d (clD ps r), .d (fr f), .d (.int (selI w)), .d (.int (i : Nat))] g = .ok (.nx [.d (clD ps r), .d (fr f), .d (.int (selI w)), .d (.int ((i + cntLe (s.map (sel w)) f : Nat) : Int))]) g := by
  intro s
  induction s with
  | nil =>
    intro i m hs hi hm
    cases m with
    | zero => omega
    | succ m =>
      have : ps.length ≤ i + 1 := List.drop_eq_nil_iff.mp hs
      refine wh_end (u_and (u_val (v_op2 (v_op2 (v_var rfl) v_lit rfl) (v_blt (v_op2 (v_var rfl) v_lit rfl) len_P) ((lt_i (k := i + 1) (m := ps.length) rfl rfl).trans (by rw [decide_eq_false (by omega)])))) ifF)
  | cons p s ih =>
    intro i m hs hi hm
    cases m with
    | zero => omega
    | succ m =>
      have hl : i + 1 < ps.length := by
        rcases Nat.lt_or_ge (i + 1) ps.length with h | h
        · exact h
        · rw [List.drop_eq_nil_of_le h] at hs; cases hs
      have e : ps[i + 1]? = some p := by
        have : (ps.drop (i + 1))[0]? = some p := by rw [hs]; rfl
        rw [List.getElem?_drop] at this
        simpa using this
      have hd : ps.drop (i + 1 + 1) = s := by
        have : (ps.drop (i + 1)).drop 1 = s := by rw [hs]; rfl
        rw [List.drop_drop] at this
        exact this
      have ad : opF .add (.int (i : Nat)) (.int 1) = some (.int ((i + 1 : Nat) : Int)) := rfl
      have tst : evT (sem (n + 5)) lwK (tOfW ir13) [.d (clD ps r), .d (fr f), .d (.int (selI w)), .d (.int (i : Nat))] g = .ok (decide (sel w p ≤ f)) g :=
        u_and (u_val (v_op2 (v_op2 (v_var rfl) v_lit ad) (v_blt (v_op2 (v_var rfl) v_lit rfl) len_P) ((lt_i (k := i + 1) (m := ps.length) rfl rfl).trans (by rw [decide_eq_true hl])))) (ifT.trans (u_val (v_op2 (v_call (v_cons (v_op2 (v_op2 (v_op2 (v_var rfl) v_lit rfl) (v_op2 (v_var rfl) v_lit ad) (atP e)) (v_var rfl) ix_sel) (v_cons (v_var rfl) v_nil)) (comp_ok (n := n) (hp.szs (List.mem_of_getElem? e)) hf (by omega))) v_lit le_cmp)))
      by_cases z : sel w p ≤ f
      · rw [decide_eq_true z] at tst
        have h := ih (i + 1) m hd hl (by simp at hm; omega)
        have ee : i + cntLe ((p :: s).map (sel w)) f = i + 1 + cntLe (s.map (sel w)) f := by
          show i + (if sel w p ≤ f then cntLe (s.map (sel w)) f + 1 else 0) = _
          rw [if_pos z]
          omega
        rw [ee]
        exact wh_step tst (w_nx (w_set (v_op2 (v_var rfl) v_lit ad)) w_nil) h
      · rw [decide_eq_false z] at tst
        have ee : i + cntLe ((p :: s).map (sel w)) f = i := by
          show i + (if sel w p ≤ f then cntLe (s.map (sel w)) f + 1 else 0) = _
          rw [if_neg z]
          rfl
        rw [ee]
        exact wh_end tst
theorem piece_ok {ps : List Pt} {r f : Rat} {w : Bool} {W : Nat} (hp : PsOk ps) (hf : Sz W f) (hW : W ≤ 8000) : sem (n + 6) 13 [clD ps r, fr f, .int (selI w)] g = .ok (.int (pcA w ps f : Nat)) g := by
  rw [sem_def rfl rfl (by decide)]
  have h := piece_loop (n := n) (g := g) (r := r) (w := w) hp hf hW (ps.drop 1) 0 fuel rfl (List.length_pos_iff.mpr hp.ne) (by rw [List.length_drop]; have := hp.len; unfold fuel; omega)
  rw [Nat.zero_add] at h
  exact w_F (w_nx (w_set v_lit) (w_nx (w_whl h) (w_rt (w_ret (v_var rfl)))))
/-! the law's: the greatest number -/
def nD (k : Nat) : PD := .int (k : Nat)
theorem ints_nat : ∀ l : List Nat, intsOf (l.map nD) = some (l.map fun (k : Nat) => (k : Int))
  | [] => rfl
  | x :: s => by
    show (intsOf (s.map nD)).map ((x : Int) :: ·) = _
    rw [ints_nat s]
    rfl
theorem maxL_range : ∀ (c i : Nat), maxL (i : Nat) ((List.range' (i + 1) c).map fun (k : Nat) => (k : Int)) = ((i + c : Nat) : Int)
  | 0, i => rfl
  | c + 1, i => by
    rw [List.range'_succ, List.map_cons]
    show maxL (if ((i + 1 : Nat) : Int) > (i : Nat) then ((i + 1 : Nat) : Int) else (i : Nat)) _ = _
    rw [if_pos (by omega), maxL_range c (i + 1)]
    congr 1
    omega
theorem max_range {c : Nat} : bltF .max1 (.list (nD 0 :: (List.range' 1 c).map nD)) = some (.int (c : Nat)) := by
  have h := ints_nat (0 :: List.range' 1 c)
  show (match intsOf ((0 :: List.range' 1 c).map nD) with | some (n :: ns) => some (PyData.int (maxL n ns)) | _ => none) = _
  rw [h]
  show some (PyData.int (maxL ((0 : Nat) : Int) ((List.range' (0 + 1) c).map fun (k : Nat) => (k : Int)))) = _
  rw [maxL_range, Nat.zero_add]
theorem mf_up {f : PD → M (Option PD)} {w : Bool} {x : Rat} : ∀ (s : List Pt) (i : Nat), (∀ (i : Nat) (p : Pt), p ∈ s → f (.tuple [.int (i : Nat), ptD p]) g = .ok (if i = 0 ∨ sel w p ≤ x then some (nD i) else none) g) → 0 < i → (s.Pairwise fun p q => sel w p < sel w q) →
    mapF f (enumAt i (s.map ptD)) g = .ok ((List.range' i (cntLe (s.map (sel w)) x)).map nD) g
  | [], _, _, _, _ => rfl
  | p :: s, i, hx, hi, up => by
    have ih := mf_up s (i + 1) (fun i q hq => hx i q (List.mem_cons_of_mem _ hq)) (Nat.succ_pos _) (List.pairwise_cons.mp up).2
    have h := hx i p List.mem_cons_self
    rw [List.map_cons, enumAt_cons]
    show mapF f (.tuple [.int (i : Nat), ptD p] :: enumAt (i + 1) (s.map ptD)) g = .ok ((List.range' i (if sel w p ≤ x then cntLe (s.map (sel w)) x + 1 else 0)).map nD) g
    by_cases z : sel w p ≤ x
    · rw [if_pos (Or.inr z)] at h
      rw [if_pos z, List.range'_succ]
      exact mf_cons h ih
    · have nz : ¬ (i = 0 ∨ sel w p ≤ x) := fun k => k.elim (by omega) z
      rw [if_neg nz] at h
      have e0 : cntLe (s.map (sel w)) x = 0 := by
        cases s with
        | nil => rfl
        | cons q s =>
          have := (List.pairwise_cons.mp up).1 q List.mem_cons_self
          show (if sel w q ≤ x then _ else 0) = 0
          rw [if_neg (by grind)]
      rw [e0] at ih
      rw [if_neg z]
      exact mf_cons h ih
theorem mf_max {f : PD → M (Option PD)} {w : Bool} {x : Rat} {ps : List Pt} (hp : PsOk ps) (hx : ∀ (i : Nat) (p : Pt), p ∈ ps → f (.tuple [.int (i : Nat), ptD p]) g = .ok (if i = 0 ∨ sel w p ≤ x then some (nD i) else none) g) :
    mapF f (enumF (ps.map ptD)) g = .ok (nD 0 :: (List.range' 1 (pcA w ps x)).map nD) g := by
  have up := hp.ups w
  cases ps with
  | nil => exact absurd rfl hp.ne
  | cons p s =>
    have h := hx 0 p List.mem_cons_self
    rw [if_pos (Or.inl rfl)] at h
    rw [enumF_at, List.map_cons, enumAt_cons]
    exact mf_cons h (mf_up s 1 (fun i q hq => hx i q (List.mem_cons_of_mem _ hq)) (by decide) (List.pairwise_cons.mp up).2)
/-! the time at which something is shown -/
/-- how fast a clock grows behind its points -/
def slA (ps : List Pt) (r : Rat) (k : Nat) : Rat := co (slP ps ++ [r]) k
def ptA (ps : List Pt) (k : Nat) : Pt := ps.getD k (0, 0)
def tmA (ps : List Pt) (r u : Rat) : Rat := (ptA ps (pcA true ps u)).1 + (u - (ptA ps (pcA true ps u)).2) / slA ps r (pcA true ps u)
theorem ptA_at {ps : List Pt} {k : Nat} (h : k < ps.length) : ps[k]? = some (ptA ps k) := by
  unfold ptA
  rw [List.getD_eq_getElem?_getD, List.getElem?_eq_getElem h]
  rfl
theorem sl_len {ps : List Pt} {r : Rat} (hp : PsOk ps) : (slP ps ++ [r]).length = ps.length := by
  have h2 : 0 < ps.length := List.length_pos_iff.mpr hp.ne
  rw [List.length_append]
  unfold slP
  rw [pairsW_len]
  show ps.length - 1 + 1 = _
  omega
/-- slopes: sizes, positive -/
theorem slA_fact {ps : List Pt} {r : Rat} (hp : PsOk ps) (hr : Sz 20 r) (r0 : 0 < r) {k : Nat} (hk : k < ps.length) : Sz 82 (slA ps r k) ∧ 0 < slA ps r k := by
  unfold slA
  have hl : (slP ps).length = ps.length - 1 := by unfold slP; rw [pairsW_len]
  by_cases h : k + 1 < ps.length
  · have ea := ptA_at hk
    have eb := ptA_at h
    obtain ⟨s2, s1, z, p1, p2⟩ := sl_fact hp ea eb
    have e := pairsW_at (fun (p q : Pt) => (q.2 - p.2) / (q.1 - p.1)) ps k _ _ ea eb
    have e2 : (slP ps ++ [r])[k]? = some (((ptA ps (k + 1)).2 - (ptA ps k).2) / ((ptA ps (k + 1)).1 - (ptA ps k).1)) := by
      rw [List.getElem?_append_left (by omega)]
      exact e
    have e3 : co (slP ps ++ [r]) k = ((ptA ps (k + 1)).2 - (ptA ps k).2) / ((ptA ps (k + 1)).1 - (ptA ps k).1) := by
      have := co_get (l := slP ps ++ [r]) (k := k) (by rw [sl_len hp]; exact hk)
      rw [e2] at this
      exact (Option.some.inj this).symm
    rw [e3]
    refine ⟨s2.div s1, ?_⟩
    rw [Rat.div_def]
    exact Rat.mul_pos p2 (Rat.inv_pos.mpr p1)
  · have e3 : co (slP ps ++ [r]) k = r := by
      have := co_get (l := slP ps ++ [r]) (k := k) (by rw [sl_len hp]; exact hk)
      rw [List.getElem?_append_right (by omega), show k - (slP ps).length = 0 by omega] at this
      exact (Option.some.inj this).symm
    rw [e3]
    exact ⟨hr.mono (by decide), r0⟩
end
end G

/-! Clocks: the time at which something is shown, both roads; how fast there. -/
namespace Fq
theorem cnt_all : ∀ (l : List Rat) (f : Rat) (j : Nat) (x : Rat), j < cntLe l f → l[j]? = some x → x ≤ f
  | [], f, j, x, h, e => by simp at e
  | y :: s, f, j, x, h, e => by
    unfold cntLe at h
    by_cases z : y ≤ f
    · rw [if_pos z] at h
      cases j with
      | zero =>
        have : y = x := by simpa using e
        exact this ▸ z
      | succ j => exact cnt_all s f j x (by omega) (by simpa using e)
    · rw [if_neg z] at h; omega
theorem cnt_stop : ∀ (l : List Rat) (f : Rat) (x : Rat), l[cntLe l f]? = some x → ¬ x ≤ f
  | [], f, x, e => by simp at e
  | y :: s, f, x, e => by
    unfold cntLe at e
    by_cases z : y ≤ f
    · rw [if_pos z] at e
      exact cnt_stop s f x (by simpa using e)
    · rw [if_neg z] at e
      have : y = x := by simpa using e
      exact this ▸ z
theorem cnt_eq : ∀ (l : List Rat) (f : Rat) (c : Nat), c ≤ l.length → (∀ j x, j < c → l[j]? = some x → x ≤ f) → (∀ x, l[c]? = some x → ¬ x ≤ f) → cntLe l f = c
  | [], f, c, h, _, _ => by simp at h; exact h.symm
  | y :: s, f, 0, h, _, h2 => by
    unfold cntLe
    rw [if_neg (h2 y rfl)]
  | y :: s, f, c + 1, h, h1, h2 => by
    unfold cntLe
    rw [if_pos (h1 0 y (Nat.succ_pos _) rfl), cnt_eq s f c (by simpa using h) (fun j x hj e => h1 (j + 1) x (by omega) (by simpa using e)) (fun x e => h2 x (by simpa using e))]
end Fq
namespace G
open PySem PySem.Spec PyProof.Rows L2 Fq
section
theorem pc_at {w : Bool} {ps : List Pt} {j : Nat} (h : j + 1 < ps.length) : ((ps.drop 1).map (sel w))[j]? = some (sel w (ptA ps (j + 1))) := by
  rw [List.getElem?_map, List.getElem?_drop, Nat.add_comm 1 j, ptA_at h]
  rfl
theorem pc_le {w : Bool} {ps : List Pt} {f : Rat} (hp : PsOk ps) {j : Nat} (h : j < pcA w ps f) : sel w (ptA ps (j + 1)) ≤ f := cnt_all _ f j _ h (pc_at (by have := pcA_lt (w := w) (f := f) hp; omega))
theorem pc_gt {w : Bool} {ps : List Pt} {f : Rat} (h : pcA w ps f + 1 < ps.length) : f < sel w (ptA ps (pcA w ps f + 1)) := by
  have : ¬ sel w (ptA ps (pcA w ps f + 1)) ≤ f := cnt_stop _ f _ (pc_at (w := w) h)
  grind
theorem pc_eq {w : Bool} {ps : List Pt} {f : Rat} (hp : PsOk ps) {k : Nat} (hk : k < ps.length) (h1 : k ≠ 0 → sel w (ptA ps k) ≤ f) (h2 : k + 1 < ps.length → f < sel w (ptA ps (k + 1))) : pcA w ps f = k := by
  refine cnt_eq _ f k (by rw [List.length_map, List.length_drop]; omega) (fun j x hj e => ?_) fun x e => ?_
  · rw [pc_at (by omega)] at e
    have e1 := Option.some.inj e
    rw [← e1]
    have hk' := h1 (by omega)
    rcases Nat.lt_or_ge (j + 1) k with z | z
    · have := up_at (hp.ups w) (ptA_at (ps := ps) (k := j + 1) (by omega)) (ptA_at (ps := ps) (k := k) hk) z
      grind
    · rw [show j + 1 = k by omega]; exact hk'
  · have hl : k + 1 < ps.length := by
      have := (List.getElem?_eq_some_iff.mp e).1
      rw [List.length_map, List.length_drop] at this
      omega
    rw [pc_at hl] at e
    have := h2 hl
    rw [Option.some.inj e] at this
    grind
theorem mul_inv_lt {a b s : Rat} (h : a < b) (hs : 0 < s) : a / s < b / s := by
  have hi : 0 < s⁻¹ := Rat.inv_pos.mpr hs
  rw [Rat.div_def, Rat.div_def]
  exact Rat.mul_lt_mul_of_pos_right h hi
theorem mul_inv_le {a b s : Rat} (h : a ≤ b) (hs : 0 < s) : a / s ≤ b / s := by
  by_cases e : a = b
  · rw [e]; grind
  · have := mul_inv_lt (show a < b by grind) hs
    grind
variable {ps : List Pt} {r u : Rat}
theorem slA_is (hp : PsOk ps) {k : Nat} (h : k + 1 < ps.length) : slA ps r k = ((ptA ps (k + 1)).2 - (ptA ps k).2) / ((ptA ps (k + 1)).1 - (ptA ps k).1) := by
  have hl : (slP ps).length = ps.length - 1 := by unfold slP; rw [pairsW_len]
  have hk : k < ps.length := by omega
  have e := pairsW_at (fun (p q : Pt) => (q.2 - p.2) / (q.1 - p.1)) ps k _ _ (ptA_at hk) (ptA_at h)
  have this := co_get (l := slP ps ++ [r]) (k := k) (by rw [sl_len hp]; exact hk)
  rw [List.getElem?_append_left (by omega)] at this
  unfold slP at this
  rw [e] at this
  exact (Option.some.inj this).symm
/-- the piece at the time at which something is shown -/
theorem pc_tm (hp : PsOk ps) (hr : Sz 20 r) (r0 : 0 < r) : pcA false ps (tmA ps r u) = pcA true ps u := by
  have hk := pcA_lt (w := true) (f := u) hp
  obtain ⟨_, pos⟩ := slA_fact hp hr r0 hk
  refine pc_eq hp hk (fun z => ?_) fun z => ?_
  · have h : sel true (ptA ps (pcA true ps u)) ≤ u := by
      have := pc_le (w := true) (f := u) hp (j := pcA true ps u - 1) (by omega)
      rw [show pcA true ps u - 1 + 1 = pcA true ps u by omega] at this
      exact this
    have h' : (ptA ps (pcA true ps u)).2 ≤ u := h
    have h2 := mul_inv_le (a := 0) (b := u - (ptA ps (pcA true ps u)).2) (by grind) pos
    have h3 : (0 : Rat) / slA ps r (pcA true ps u) = 0 := by rw [Rat.div_def]; grind
    rw [h3] at h2
    show (ptA ps (pcA true ps u)).1 ≤ (ptA ps (pcA true ps u)).1 + (u - (ptA ps (pcA true ps u)).2) / slA ps r (pcA true ps u)
    grind
  · have h : u < (ptA ps (pcA true ps u + 1)).2 := pc_gt (w := true) z
    have h2 := mul_inv_lt (a := u - (ptA ps (pcA true ps u)).2) (b := (ptA ps (pcA true ps u + 1)).2 - (ptA ps (pcA true ps u)).2) (by grind) pos
    obtain ⟨s2, s1, nz, p1, p2⟩ := sl_fact hp (ptA_at hk) (ptA_at z)
    have h3 : ((ptA ps (pcA true ps u + 1)).2 - (ptA ps (pcA true ps u)).2) / slA ps r (pcA true ps u) = (ptA ps (pcA true ps u + 1)).1 - (ptA ps (pcA true ps u)).1 := by
      rw [slA_is hp z]
      generalize (ptA ps (pcA true ps u + 1)).1 - (ptA ps (pcA true ps u)).1 = a at *
      have q2 : (ptA ps (pcA true ps u + 1)).2 - (ptA ps (pcA true ps u)).2 ≠ 0 := by grind
      generalize (ptA ps (pcA true ps u + 1)).2 - (ptA ps (pcA true ps u)).2 = b at *
      grind
    rw [h3] at h2
    show (ptA ps (pcA true ps u)).1 + (u - (ptA ps (pcA true ps u)).2) / slA ps r (pcA true ps u) < (ptA ps (pcA true ps u + 1)).1
    grind
theorem tm_sz (hp : PsOk ps) (hr : Sz 20 r) (r0 : 0 < r) (hu : Sz 20 u) : Sz 144 (tmA ps r u) := by
  have hk := pcA_lt (w := true) (f := u) hp
  have m := List.mem_of_getElem? (ptA_at hk)
  exact (Sz.add (hp.sz1 _ m) (Sz.div (Sz.sub hu (hp.sz2 _ m)) (slA_fact hp hr r0 hk).1)).mono (by decide)
end
section
variable {n : Nat} {g : List PD} {ps : List Pt} {r u : Rat}
theorem ix_sl {k : Nat} (hp : PsOk ps) (hk : k < ps.length) : opF .ix (lf (slP ps ++ [r])) (.int (k : Nat)) = some (fr (slA ps r k)) := ix_lf (by rw [sl_len hp]; exact hk)
theorem time_ok (hp : PsOk ps) (hr : Sz 20 r) (r0 : 0 < r) (hu : Sz 20 u) : sem (n + 7) 14 [clD ps r, fr u] g = .ok (fr (tmA ps r u)) g := by
  have hk := pcA_lt (w := true) (f := u) hp
  have m := List.mem_of_getElem? (ptA_at hk)
  obtain ⟨ss, pos⟩ := slA_fact hp hr r0 hk
  have h13 : sem (n + 6) 13 [clD ps r, fr u, .int 1] g = .ok (.int (pcA true ps u : Nat)) g := piece_ok (w := true) hp hu (by decide)
  have d := Sz.sub hu (hp.sz2 _ m)
  rw [sem_def rfl rfl (by decide)]
  exact w_F (w_nx (w_set (v_call (v_cons (v_var rfl) (v_cons (v_var rfl) (v_cons v_lit v_nil))) h13)) (w_nx (w_asg (v_op2 (v_op2 (v_var rfl) v_lit rfl) (v_var rfl) (atP (ptA_at hk))) rfl) (w_rt (w_ret (v_call (v_cons (v_var rfl) (v_cons (v_call (v_cons (v_call (v_cons (v_var rfl) (v_cons (v_var rfl) v_nil)) (less_ok (n := n + 2) hu (hp.sz2 _ m) (by decide))) (v_cons (v_op2 (v_call (v_cons (v_var rfl) v_nil) (slopes_ok (n := n + 1) hp)) (v_var rfl) (ix_sl hp hk)) v_nil)) (over_ok (n := n + 3) d ss (by grind) (by decide))) v_nil)) (plus_ok (n := n + 3) (hp.sz1 _ m) (d.div ss) (by decide)))))))
theorem slopeat_ok (hp : PsOk ps) (hr : Sz 20 r) (r0 : 0 < r) (hu : Sz 20 u) : sem (n + 7) 15 [clD ps r, fr (tmA ps r u)] g = .ok (fr (slA ps r (pcA true ps u))) g := by
  have h13 : sem (n + 6) 13 [clD ps r, fr (tmA ps r u), .int 0] g = .ok (.int (pcA true ps u : Nat)) g := by
    have := piece_ok (n := n) (g := g) (r := r) (w := false) hp (tm_sz hp hr r0 hu) (by decide)
    rw [pc_tm hp hr r0] at this
    exact this
  rw [sem_def rfl rfl (by decide)]
  exact w_F (w_rt (w_ret (v_op2 (v_call (v_cons (v_var rfl) v_nil) (slopes_ok (n := n + 1) hp)) (v_call (v_cons (v_var rfl) (v_cons (v_var rfl) (v_cons v_lit v_nil))) h13) (ix_sl hp (pcA_lt hp)))))
end
section
variable {Fn : Nat → List PD → M PD} {L : Lw} {g : List PD}
theorem lcf_one {t : Tx} {elt : Ex} {env : EnvD} {k : Bool} {y : PD} (ht : evT Fn L t env g = .ok k g) (he : evE Fn L elt env g = .ok y g) : (bnd (evT Fn L t env) fun k => if k = true then bnd (evE Fn L elt env) fun y => ret (some y) else ret none) g = .ok (if k = true then some y else none) g := by
  refine bnd_ok ht ?_
  cases k
  · rfl
  · exact bnd_ok he rfl
end
end G

/-! Clocks: the law's time, the least clock of both. -/
namespace G
open PySem PySem.Spec PyProof.Rows L2 Fq
theorem fr_inj {a b : Rat} (h1 : a.num = b.num) (h2 : (a.den : Int) = b.den) : a = b := by
  apply Rat.ext h1
  exact Int.ofNat.inj h2
theorem eqv_fr {a b : Rat} : PyData.eqv (fr a) (fr b) = decide (a = b) := by
  show ((a.num == b.num) && (((a.den : Int) == b.den) && true)) = _
  by_cases h : a = b
  · subst h; simp
  · rw [decide_eq_false h]
    by_cases h1 : a.num = b.num
    · have h2 : ¬ (a.den : Int) = b.den := fun k => h (fr_inj h1 k)
      simp [h1, beq_eq_false_iff_ne.mpr h2]
    · simp [h1]
theorem eq_fr {a b : Rat} : opF .eq (fr a) (fr b) = some (.bool (decide (a = b))) := by
  show (if shp (fr a) = true ∧ shp (fr b) = true then some (PyData.bool (PyData.eqv (fr a) (fr b))) else none) = _
  rw [if_pos ⟨wk_fr.shp (by decide), wk_fr.shp (by decide)⟩, eqv_fr]
theorem ne_fr {a b : Rat} : opF .ne (fr a) (fr b) = some (.bool (decide (a ≠ b))) := by
  show (if shp (fr a) = true ∧ shp (fr b) = true then some (PyData.bool (!PyData.eqv (fr a) (fr b))) else none) = _
  rw [if_pos ⟨wk_fr.shp (by decide), wk_fr.shp (by decide)⟩, eqv_fr]
  congr 2
  by_cases h : a = b <;> simp [h]
section
variable {n : Nat} {g : List PD} {ps : List Pt} {r u : Rat}
theorem is0 {k : Nat} : opF .eq (.int (k : Nat)) (.int 0) = some (.bool (decide (k = 0))) := by
  rw [eqI]
  congr 2
  by_cases h : k = 0
  · subst h; rfl
  · rw [decide_eq_false h]
    exact beq_eq_false_iff_ne.mpr (by omega)
/-- the law's test -/
theorem or_test {Fn : Nat → List PD → M PD} {env : EnvD} {t1 t2 : Tx} {k : Nat} {q : Prop} [Decidable q] (h1 : evT Fn lwK t1 env g = .ok (decide (k = 0)) g) (h2 : k ≠ 0 → evT Fn lwK t2 env g = .ok (decide q) g) : evT Fn lwK (.or t1 t2) env g = .ok (decide (k = 0 ∨ q)) g := by
  refine u_or h1 ?_
  by_cases z : k = 0
  · rw [if_pos (decide_eq_true z), decide_eq_true (Or.inl z)]
    rfl
  · rw [if_neg (by simp [z]), h2 z]
    congr 1
    by_cases y : q <;> simp [z, y]
theorem ifD {q : Prop} [Decidable q] {α : Type} {a b : α} : (if decide q = true then a else b) = if q then a else b := by
  by_cases h : q <;> simp [h]
theorem lshows_ok (hp : PsOk ps) (hr : Sz 20 r) (r0 : 0 < r) (hu : Sz 20 u) : sem (n + 7) 70 [clD ps r, fr u, .int 1] g = .ok (fr (tmA ps r u)) g := by
  have hk := pcA_lt (w := true) (f := u) hp
  have m := List.mem_of_getElem? (ptA_at hk)
  obtain ⟨ss, pos⟩ := slA_fact hp hr r0 hk
  have d := Sz.sub hu (hp.sz2 _ m)
  have ln : (enumF (ps.map ptD)).length ≤ 1000000 := by
    have := hp.len
    unfold enumF
    simp
    omega
  rw [sem_def rfl rfl (by decide)]
  refine w_F (w_nx (w_set (v_blt (v_lcf (g2 := g) (i_enumT (v_op2 (v_var rfl) v_lit rfl)) ⟨ln, by decide⟩ (mf_max (w := true) (x := u) hp fun i p hm => ?_)) max_range)) ?_)
  · refine (lcf_one (k := decide (i = 0 ∨ sel true p ≤ u)) (y := nD i) (or_test (u_val (v_op2 (v_var rfl) v_lit is0)) fun _ => u_val (v_op2 (v_call (v_cons (v_op2 (v_var rfl) (v_var rfl) (ix_sel (w := true))) (v_cons (v_var rfl) v_nil)) (lcomp_ok (n := n + 5) (hp.szs hm) hu (by decide))) v_lit le_cmp)) (v_var rfl)).trans ?_
    rw [ifD]
  · refine w_nx (w_set (v_op2 (v_call (v_cons (v_var rfl) v_nil) (lslopes_ok (n := n + 1) hp)) (v_var rfl) (ix_sl hp hk))) (w_nx (w_set (v_call (v_cons (v_var rfl) (v_cons (v_op2 (v_op2 (v_op2 (v_var rfl) v_lit rfl) (v_var rfl) (atP (ptA_at hk))) (v_var rfl) (ix_sel (w := true))) v_nil)) (lless_ok (n := n + 2) hu (hp.sz2 _ m) (by decide)))) (w_rt (w_ret (v_call (v_cons (v_op2 (v_op2 (v_op2 (v_var rfl) v_lit rfl) (v_var rfl) (atP (ptA_at hk))) (v_op2 v_lit (v_var rfl) rfl) (ix_sel (w := false))) (v_cons (v_ite (k := false) (u_val (v_op2 (v_var rfl) v_lit rfl)) (ifF.trans (v_call (v_cons (v_var rfl) (v_cons (v_var rfl) v_nil)) (lover_ok (n := n + 3) d ss (by grind) (by decide))))) v_nil)) (lplus_ok (n := n + 3) (hp.sz1 _ m) (d.div ss) (by decide))))))
/-! the least clock -/
def keepA (ps : List Pt) (r : Rat) (k : Nat) : Prop := k = 0 ∨ slA ps r (k - 1) ≠ slA ps r k
instance {k : Nat} : Decidable (keepA ps r k) := by unfold keepA; infer_instance
def lsP (ps : List Pt) (r : Rat) : List Pt := (List.range ps.length).filterMap fun k => if keepA ps r k then some (ptA ps k) else none
theorem mf_list {α γ : Type} {f : PD → M (Option γ)} {c : α → PD} {h : α → Option γ} : ∀ l : List α, (∀ k ∈ l, f (c k) g = .ok (h k) g) → mapF f (l.map c) g = .ok (l.filterMap h) g
  | [], _ => rfl
  | k :: l, p => by
    rw [List.map_cons, List.filterMap_cons]
    have ih := mf_list l fun j hj => p j (List.mem_cons_of_mem _ hj)
    have := mf_cons (p k List.mem_cons_self) ih
    rw [this]
    cases h k <;> rfl
theorem enum_range : enumF (ps.map ptD) = (List.range ps.length).map fun k => .tuple [.int (k : Nat), ptD (ptA ps k)] := by
  apply List.ext_getElem?
  intro i
  unfold enumF
  rw [List.getElem?_map, List.getElem?_map, List.getElem?_zipIdx, List.getElem?_map]
  by_cases h : i < ps.length
  · rw [ptA_at h, List.getElem?_range h]
    show some (PyData.tuple [.int ((0 + i : Nat) : Int), ptD (ptA ps i)]) = some (.tuple [.int (i : Nat), ptD (ptA ps i)])
    rw [Nat.zero_add]
  · rw [List.getElem?_eq_none (by omega), List.getElem?_eq_none (by rw [List.length_range]; omega)]
    rfl
theorem lsP_map : (List.range ps.length).filterMap (fun k => if keepA ps r k then some (ptD (ptA ps k)) else none) = (lsP ps r).map ptD := by
  unfold lsP
  rw [List.map_filterMap]
  congr 1
  funext k
  by_cases h : keepA ps r k
  · rw [if_pos h, if_pos h]; rfl
  · rw [if_neg h, if_neg h]; rfl
theorem keep_test {Fn : Nat → List PD → M PD} {env : EnvD} {k : Nat} {t1 : Tx} {i j : Nat} (hp : PsOk ps) (hk : k < ps.length) (h1 : evT Fn lwK t1 env g = .ok (decide (k = 0)) g) (hi : env[i]? = some (.d (lf (slP ps ++ [r])))) (hj : env[j]? = some (.d (.int (k : Nat)))) :
    evT Fn lwK (.or t1 (.val (.op2 .ne (.op2 .ix (.var i) (.op2 .sub (.var j) (.lit (.int 1)))) (.op2 .ix (.var i) (.var j))))) env g = .ok (decide (keepA ps r k)) g := by
  refine or_test h1 fun z => ?_
  have sb : opF .sub (.int (k : Nat)) (.int 1) = some (.int ((k - 1 : Nat) : Int)) := by
    show some (PyData.int (((k : Nat) : Int) - 1)) = _
    rw [show ((k : Nat) : Int) - 1 = ((k - 1 : Nat) : Int) by omega]
  exact u_val (v_op2 (v_op2 (v_var hi) (v_op2 (v_var hj) v_lit sb) (ix_sl hp (by omega))) (v_op2 (v_var hi) (v_var hj) (ix_sl hp hk)) ne_fr)
theorem lsP_len : (lsP ps r).length ≤ ps.length := by
  have := List.length_filterMap_le (fun k => if keepA ps r k then some (ptA ps k) else none) (List.range ps.length)
  rw [List.length_range] at this
  exact this
theorem least_ok (hp : PsOk ps) : sem (n + 6) 16 [clD ps r] g = .ok (clD (lsP ps r) r) g := by
  rw [sem_def rfl rfl (by decide)]
  have hl := hp.len
  refine w_F (w_nx (w_asg (v_tup (v_cons (v_call (v_cons (v_var rfl) v_nil) (slopes_ok hp)) (v_cons (v_op2 (v_var rfl) v_lit rfl) v_nil)) (by show 2 ≤ 1000; decide)) rfl) (w_nx (w_set (v_lcfN (ys := (lsP ps r).map ptD) (g2 := g) (i_range (v_blt (v_var rfl) len_P) ⟨by omega, by omega⟩) ⟨by rw [Int.toNat_natCast, List.length_map, List.length_range]; omega, by decide⟩ ?_)) (w_rt (w_ret (v_tup (v_cons (v_blt (v_var rfl) rfl) (v_cons (v_op2 (v_var rfl) v_lit rfl) v_nil)) (by show 2 ≤ 1000; decide))))))
  rw [Int.toNat_natCast, ← lsP_map]
  refine mf_list _ fun k hk => ?_
  have hk' := List.mem_range.mp hk
  refine noX_is ((lcf_one (k := decide (keepA ps r k)) (y := ptD (ptA ps k)) (keep_test hp hk' (u_val (v_op2 (v_var rfl) v_lit is0)) rfl rfl) (v_op2 (v_var rfl) (v_var rfl) (atP (ptA_at hk')))).trans ?_)
  rw [ifD]
theorem lleast_ok (hp : PsOk ps) : sem (n + 6) 71 [clD ps r] g = .ok (clD (lsP ps r) r) g := by
  rw [sem_def rfl rfl (by decide)]
  have ln : (enumF (ps.map ptD)).length ≤ 1000000 := by
    have := hp.len
    unfold enumF
    simp
    omega
  refine w_F (w_nx (w_set (v_call (v_cons (v_var rfl) v_nil) (lslopes_ok hp))) (w_rt (w_ret (v_tup (v_cons (v_blt (z := .tuple ((lsP ps r).map ptD)) (v_lcf (ys := (lsP ps r).map ptD) (g2 := g) (i_enumT (v_op2 (v_var rfl) v_lit rfl)) ⟨ln, by decide⟩ ?_) rfl) (v_cons (v_op2 (v_var rfl) v_lit rfl) v_nil)) (by show 2 ≤ 1000; decide)))))
  rw [enum_range, ← lsP_map]
  refine mf_list _ fun k hk => ?_
  have hk' := List.mem_range.mp hk
  refine (lcf_one (k := decide (keepA ps r k)) (y := ptD (ptA ps k)) (keep_test hp hk' (u_val (v_op2 (v_var rfl) v_lit is0)) rfl rfl) (v_var rfl)).trans ?_
  rw [ifD]
theorem straight_ok (hp : PsOk ps) : sem (n + 7) 17 [clD ps r] g = .ok (.bool (((lsP ps r).length : Int) == 1)) g := by
  rw [sem_def rfl rfl (by decide)]
  exact w_F (w_rt (w_ret (v_op2 (v_blt (v_op2 (v_call (v_cons (v_var rfl) v_nil) (least_ok hp)) v_lit rfl) len_P) v_lit (eqI _ _))))
end
end G

/-! Retimed tracks: marks, curves, the last key (the program's). -/
namespace G
open PySem PySem.Spec PyProof.Rows L2 Fq
section
variable {ps : List Pt} {r : Rat}
theorem lsP_sub : (lsP ps r).Sublist ps := by
  have e : ps = (List.range ps.length).map (ptA ps) := by
    apply List.ext_getElem?
    intro i
    rw [List.getElem?_map]
    by_cases h : i < ps.length
    · rw [List.getElem?_range h, ptA_at h]; rfl
    · rw [List.getElem?_eq_none (by omega), List.getElem?_eq_none (by rw [List.length_range]; omega)]; rfl
  have f : lsP ps r = ((List.range ps.length).filter fun k => decide (keepA ps r k)).map (ptA ps) := by
    unfold lsP
    generalize List.range ps.length = l
    induction l with
    | nil => rfl
    | cons k l ih =>
      rw [List.filterMap_cons, List.filter_cons]
      by_cases h : keepA ps r k
      · rw [if_pos h, if_pos (decide_eq_true h), List.map_cons, ← ih]
      · rw [if_neg h, if_neg (by simp [h]), ih]
  rw [f]
  conv => rhs; rw [e]
  exact List.Sublist.map _ List.filter_sublist
theorem lsP_ok (hp : PsOk ps) : PsOk (lsP ps r) := by
  have h := lsP_sub (ps := ps) (r := r)
  refine ⟨fun z => ?_, Nat.le_trans h.length_le hp.len, fun p m => hp.sz1 p (h.subset m), fun p m => hp.sz2 p (h.subset m), hp.up1.sublist h, hp.up2.sublist h⟩
  have h0 : 0 < ps.length := List.length_pos_iff.mpr hp.ne
  have m : ptA ps 0 ∈ lsP ps r := by
    unfold lsP
    refine List.mem_filterMap.mpr ⟨0, List.mem_range.mpr h0, ?_⟩
    exact if_pos (Or.inl rfl)
  rw [z] at m
  cases m
/-- what is shown at points strictly between two times -/
def mksA (ps : List Pt) (t u : Rat) : List Rat := ((ps.drop 1).map (·.2)).filter fun x => decide (t < x) && decide (x < u)
/-- the curve between two that are shown -/
def crvA (ps : List Pt) (r : Rat) (P : List Rat) (low high : Rat) : Cv := .curve (evP low (grP P) * slA ps r (pcA true ps low)) (evP high (grP P) * slA ps r (pcA true ps low))
def curA (ps : List Pt) (r : Rat) (c : Cv) (P : List Rat) (mk : List Rat) (low high : Rat) : Cv := match c with
  | .hold => .hold
  | .line => .line
  | .ease => if mk = [] then .ease else crvA ps r P low high
  | .curve _ _ => crvA ps r P low high
def lastA (ps : List Pt) (r : Rat) (A : Ky) : Ky := ⟨tmA ps r A.t, A.v, match A.c with | .curve x y => .curve (x * slA ps r (pcA true ps A.t)) (y * slA ps r (pcA true ps A.t)) | c => c⟩
end
section
variable {n : Nat} {g : List PD} {ps : List Pt} {r : Rat}
theorem mm_list {α γ : Type} {f : PD → M γ} {c : α → PD} {h : α → γ} : ∀ l : List α, (∀ k ∈ l, f (c k) g = .ok (h k) g) → mapM' f (l.map c) g = .ok (l.map h) g
  | [], _ => rfl
  | k :: l, p => mm_cons (p k List.mem_cons_self) (mm_list l fun j hj => p j (List.mem_cons_of_mem _ hj))
theorem filt_map {q : Rat → Bool} : ∀ l : List Rat, (l.filterMap fun x => if q x = true then some (fr x) else none) = (l.filter q).map fr
  | [] => rfl
  | x :: s => by
    rw [List.filterMap_cons, List.filter_cons]
    by_cases h : q x = true
    · rw [if_pos h, if_pos h, List.map_cons, filt_map s]
    · rw [if_neg h, if_neg h, filt_map s]
theorem mk_sz (hp : PsOk ps) {t u x : Rat} (h : x ∈ mksA ps t u) : Sz 20 x ∧ t < x ∧ x < u := by
  obtain ⟨h1, h2⟩ := List.mem_filter.mp h
  obtain ⟨p, m, rfl⟩ := List.mem_map.mp h1
  have h3 : t < p.2 ∧ p.2 < u := by simpa using h2
  exact ⟨hp.sz2 p (List.mem_of_mem_drop m), h3.1, h3.2⟩
theorem u_and2 {Fn : Nat → List PD → M PD} {env : EnvD} {t1 t2 : Tx} {a b : Bool} (h1 : evT Fn lwK t1 env g = .ok a g) (h2 : evT Fn lwK t2 env g = .ok b g) : evT Fn lwK (.and t1 t2) env g = .ok (a && b) g := by
  refine u_and h1 ?_
  cases a
  · rfl
  · exact h2
theorem marks_ok (hp : PsOk ps) {A B : Ky} (ha : A.ok) (hb : B.ok) : sem (n + 6) 39 [clD ps r, kyD A, kyD B] g = .ok (lf (mksA ps A.t B.t)) g := by
  rw [sem_def rfl rfl (by decide)]
  have hl := hp.len
  refine w_F (w_nx (w_set (v_lcN (ys := (ps.drop 1).map fun p => fr p.2) (g2 := g) (i_tup (v_sl (v_op2 (v_var rfl) v_lit rfl) (v_os v_lit) v_on sl_1)) ⟨by rw [List.length_drop, List.length_map]; omega, by decide⟩ ?_)) (w_rt (w_ret (v_lcf (ys := (mksA ps A.t B.t).map fr) (g2 := g) (i_list (v_var rfl)) ⟨by rw [List.length_map, List.length_drop]; omega, by decide⟩ ?_))))
  · rw [← List.map_drop]
    exact mm_list _ fun p hp' => noX_is (v_op2 (v_var rfl) v_lit rfl)
  · have e : ((ps.drop 1).map fun p => fr p.2) = ((ps.drop 1).map (·.2)).map fr := by rw [List.map_map]; rfl
    rw [e]
    unfold mksA
    rw [← filt_map]
    refine mf_list _ fun x hx => ?_
    obtain ⟨p, m, rfl⟩ := List.mem_map.mp hx
    have sp := hp.sz2 p (List.mem_of_mem_drop m)
    exact lcf_one (u_and2 (u_val (v_op2 (v_call (v_cons (v_op2 (v_var rfl) v_lit rfl) (v_cons (v_var rfl) v_nil)) (comp_ok (n := n) ha.t sp (by decide))) v_lit lt_cmp)) (u_val (v_op2 (v_call (v_cons (v_var rfl) (v_cons (v_op2 (v_var rfl) v_lit rfl) v_nil)) (comp_ok (n := n) sp hb.t (by decide))) v_lit lt_cmp))) (v_var rfl)
/-! the polynomial's values -/
theorem seg_led {A B : Ky} (h : A.c ≠ .hold) : segP A.t A.v A.c B.t B.v = ledP (1 / (B.t - A.t)) (0 - A.t * (1 / (B.t - A.t))) (shapeP A.t A.v A.c B.t B.v) := by
  obtain ⟨t, v, c⟩ := A
  cases c with
  | hold => exact absurd rfl h
  | line => rfl
  | ease => rfl
  | curve x y => rfl
theorem seg_len {A B : Ky} : (segP A.t A.v A.c B.t B.v).length ≤ 4 := by
  obtain ⟨t, v, c⟩ := A
  cases c with
  | hold => exact Nat.le_trans (tr_len _) (by show 1 ≤ 4; decide)
  | line => exact Nat.le_trans (led_len _ _ _) (by show 2 ≤ 4; decide)
  | ease => exact Nat.le_trans (led_len _ _ _) (by show 4 ≤ 4; decide)
  | curve x y => exact Nat.le_trans (led_len _ _ _) (by show 4 ≤ 4; decide)
/-- of these sizes: coefficients, Horner's steps, values; growth alike -/
structure PolyOk (P : List Rat) : Prop where
  len : P.length ≤ 4
  co : ∀ c ∈ P, Sz 875 c
  gco : ∀ c ∈ grP P, Sz 875 c
  ev : ∀ f, Sz 20 f → ∀ j, Sz 2800 (evP f (P.drop j))
  gev : ∀ f, Sz 20 f → ∀ j, Sz 2800 (evP f ((grP P).drop j))
  val : ∀ f, Sz 20 f → Sz 1000 (evP f P)
  gval : ∀ f, Sz 20 f → Sz 1000 (evP f (grP P))
theorem poly_ok {A B : Ky} (ha : A.ok) (hb : B.ok) (h : A.c ≠ .hold) : PolyOk (segP A.t A.v A.c B.t B.v) := by
  have F := seg_four (cv := A.c) ha.t ha.v hb.t hb.v ha.c
  have G := gr_four (cv := A.c) ha.t ha.v hb.t hb.v ha.c
  have e := seg_led (A := A) (B := B) h
  refine ⟨seg_len, ?_, ?_, ?_, ?_, ?_, ?_⟩
  · rw [e]; exact mem_sz (F.all (by decide) (by decide) (by decide) (by decide) (by decide))
  · rw [e]; exact mem_sz (G.all (by decide) (by decide) (by decide) (by decide) (by decide))
  · rw [e]; exact fun f hf => F.ev hf (by decide)
  · rw [e]; exact fun f hf => G.ev hf (by decide)
  · rw [e]; exact fun f hf => seg_val ha.t ha.v hb.t hb.v ha.c hf
  · rw [e]; exact fun f hf => gr_val ha.t ha.v hb.t hb.v ha.c hf
theorem slopesb_ok (hp : PsOk ps) (hr : Sz 20 r) (r0 : 0 < r) {P : List Rat} (hP : PolyOk P) {low high : Rat} (hl : Sz 20 low) (hh : Sz 20 high) : sem (n + 8) 40 [clD ps r, pf P, fr low, fr high] g = .ok (cvD (crvA ps r P low high)) g := by
  rw [sem_def rfl rfl (by decide)]
  have ss := (slA_fact hp hr r0 (pcA_lt (w := true) (f := low) hp)).1
  have len := hP.len
  refine w_F (w_nx (w_set (v_call (v_cons (v_var rfl) (v_cons (v_call (v_cons (v_var rfl) (v_cons (v_var rfl) v_nil)) (time_ok hp hr r0 hl)) v_nil)) (slopeat_ok hp hr r0 hl))) (w_nx (w_set (v_call (v_cons (v_var rfl) v_nil) (growth_ok (n := n + 3) hP.co (by omega) (by decide)))) (w_rt (w_ret (v_tup (v_cons v_lit (v_cons (v_call (v_cons (v_call (v_cons (v_var rfl) (v_cons (v_var rfl) v_nil)) (value_ok (n := n + 3) hl hP.gco (hP.gev low hl) (by decide))) (v_cons (v_var rfl) v_nil)) (times_ok (n := n + 4) (hP.gval low hl) ss (by decide))) (v_cons (v_call (v_cons (v_call (v_cons (v_var rfl) (v_cons (v_var rfl) v_nil)) (value_ok (n := n + 3) hh hP.gco (hP.gev high hh) (by decide))) (v_cons (v_var rfl) v_nil)) (times_ok (n := n + 4) (hP.gval high hh) ss (by decide))) v_nil))) (by show 3 ≤ 1000; decide))))))
theorem nil_lf {l : List Rat} : opF .eq (lf l) (.list []) = some (.bool l.isEmpty) := by
  show (if shp (lf l) = true ∧ shp (.list []) = true then some (PyData.bool (PyData.eqv (lf l) (.list []))) else none) = _
  rw [if_pos ⟨shp_lf, rfl⟩]
  unfold lf
  rw [eqv_nil, List.isEmpty_map]
end
end G

/-! Retimed tracks: a stretch's curve, the last key, values of tracks played once (the program's). -/
namespace G
open PySem PySem.Spec PyProof.Rows L2 Fq
def hdC : Cv → PD
  | .hold => sHold
  | .line => sLine
  | .ease => sEase
  | .curve _ _ => sCurve
theorem ix_hd {c : Cv} : opF .ix (cvD c) (.int 0) = some (hdC c) := by cases c <;> rfl
def sOnce : PD := .str ⟨#[111, 110, 99, 101]⟩
def sLoop : PD := .str ⟨#[108, 111, 111, 112]⟩
theorem inn_hl {c : Cv} {k : Bool} (h : k = match c with | .hold => true | .line => true | _ => false) : opF .inn (hdC c) (.tuple [sHold, sLine]) = some (.bool k) := by
  subst h
  cases c <;> rfl
section
variable {Fn : Nat → List PD → M PD} {env env1 env' : EnvD} {g g1 : List PD} {ds : List PD}
theorem fr_rt {tg : Tg} {body : EnvD → M Fl} {d x : PD} (ht : tgF tg d env = some env1) (hb : body env1 g = .ok (.rt x) g1) : evFr tg body (d :: ds) env g = .ok (.rt x) g1 := by
  unfold evFr
  rw [ht]
  exact bnd_ok hb rfl
end
section
variable {n : Nat} {g : List PD} {ps : List Pt} {r : Rat}
theorem curveb_ok (hp : PsOk ps) (hr : Sz 20 r) (r0 : 0 < r) {A : Ky} {P mk : List Rat} (hP : A.c ≠ .hold → PolyOk P) {low high : Rat} (hl : Sz 20 low) (hh : Sz 20 high) :
    sem (n + 9) 41 [clD ps r, kyD A, pf P, lf mk, fr low, fr high] g = .ok (cvD (curA ps r A.c P mk low high)) g := by
  obtain ⟨t, v, c⟩ := A
  rw [sem_def rfl rfl (by decide)]
  have hd : ∀ {env : EnvD}, env[1]? = some (.d (kyD ⟨t, v, c⟩)) → evE (sem (n + 8)) lwK (.op2 .ix (.op2 .ix (.var 1) (.lit (.int 2))) (.lit (.int 0))) env g = .ok (hdC c) g := fun h => v_op2 (v_op2 (v_var h) v_lit rfl) v_lit ix_hd
  have two : ∀ {env : EnvD}, evE (sem (n + 8)) lwK (.tup (.cons (.lit sHold) (.cons (.lit sLine) .nil))) env g = .ok (.tuple [sHold, sLine]) g := v_tup (v_cons v_lit (v_cons v_lit v_nil)) (by show 2 ≤ 1000; decide)
  have nl : ∀ {env : EnvD}, evE (sem (n + 8)) lwK (.lst .nil) env g = .ok (.list []) g := v_lst v_nil (by show 0 ≤ 1000; decide)
  cases c with
  | hold => exact w_F (w_rt (w_ife (k := true) (u_or (k := true) (u_val (v_op2 (hd rfl) two (inn_hl rfl))) ifT) (ifT.trans (w_rt (w_ret (v_op2 (v_var rfl) v_lit rfl))))))
  | line => exact w_F (w_rt (w_ife (k := true) (u_or (k := true) (u_val (v_op2 (hd rfl) two (inn_hl rfl))) ifT) (ifT.trans (w_rt (w_ret (v_op2 (v_var rfl) v_lit rfl))))))
  | ease =>
    by_cases z : mk = []
    · subst z
      have e : curA ps r .ease P [] low high = .ease := by
        show (if ([] : List Rat) = [] then Cv.ease else crvA ps r P low high) = _
        exact if_pos rfl
      rw [e]
      exact w_F (w_rt (w_ife (k := true) (u_or (k := false) (u_val (v_op2 (hd rfl) two (inn_hl rfl))) (ifF.trans (u_and (k := true) (u_val (v_op2 (hd rfl) v_lit (eqS (by decide) (by decide +kernel) (by decide +kernel)))) (ifT.trans (u_val (v_op2 (v_var rfl) nl nil_lf)))))) (ifT.trans (w_rt (w_ret (v_op2 (v_var rfl) v_lit rfl))))))
    · have e : curA ps r .ease P mk low high = crvA ps r P low high := by
        show (if mk = [] then Cv.ease else crvA ps r P low high) = _
        exact if_neg z
      rw [e]
      have ne : mk.isEmpty = false := by cases mk with | nil => exact absurd rfl z | cons _ _ => rfl
      exact w_F (w_nx (w_ife (k := false) (u_or (k := false) (u_val (v_op2 (hd rfl) two (inn_hl rfl))) (ifF.trans (u_and (k := true) (u_val (v_op2 (hd rfl) v_lit (eqS (by decide) (by decide +kernel) (by decide +kernel)))) (ifT.trans (u_val (v_op2 (v_var rfl) nl (nil_lf.trans (by rw [ne])))))))) (ifF.trans w_nil)) (w_rt (w_ret (v_call (v_cons (v_var rfl) (v_cons (v_var rfl) (v_cons (v_var rfl) (v_cons (v_var rfl) v_nil)))) (slopesb_ok hp hr r0 (hP (by intro h; cases h)) hl hh)))))
  | curve x y =>
    exact w_F (w_nx (w_ife (k := false) (u_or (k := false) (u_val (v_op2 (hd rfl) two (inn_hl rfl))) (ifF.trans (u_and (k := false) (u_val (v_op2 (hd rfl) v_lit (eqS (by decide) (by decide +kernel) (by decide +kernel)))) ifF))) (ifF.trans w_nil)) (w_rt (w_ret (v_call (v_cons (v_var rfl) (v_cons (v_var rfl) (v_cons (v_var rfl) (v_cons (v_var rfl) v_nil)))) (slopesb_ok hp hr r0 (hP (by intro h; cases h)) hl hh)))))
theorem last_ok (hp : PsOk ps) (hr : Sz 20 r) (r0 : 0 < r) {A : Ky} (ha : A.ok) : sem (n + 9) 43 [clD ps r, kyD A] g = .ok (kyD (lastA ps r A)) g := by
  obtain ⟨t, v, c⟩ := A
  have ss := (slA_fact hp hr r0 (pcA_lt (w := true) (f := t) hp)).1
  have tm := time_ok (n := n + 1) (g := g) hp hr r0 ha.t
  rw [sem_def rfl rfl (by decide)]
  have hd : ∀ {env : EnvD}, env[1]? = some (.d (kyD ⟨t, v, c⟩)) → evE (sem (n + 8)) lwK (.op2 .ix (.op2 .ix (.var 1) (.lit (.int 2))) (.lit (.int 0))) env g = .ok (hdC c) g := fun h => v_op2 (v_op2 (v_var h) v_lit rfl) v_lit ix_hd
  have neS : ∀ {a b : Str} {k : Bool}, (a == b) = k → shp (.str a) = true → shp (.str b) = true → opF .ne (.str a) (.str b) = some (.bool (!k)) := by
    intro a b k h h1 h2
    show (if shp (.str a) = true ∧ shp (.str b) = true then some (PyData.bool (!PyData.eqv (.str a) (.str b))) else none) = _
    rw [if_pos ⟨h1, h2⟩, ← h]
    rfl
  have e1 : ∀ {env : EnvD}, env[0]? = some (.d (clD ps r)) → env[1]? = some (.d (kyD ⟨t, v, c⟩)) → evE (sem (n + 8)) lwK (.call 14 (.cons (.var 0) (.cons (.op2 .ix (.var 1) (.lit (.int 0))) .nil))) env g = .ok (fr (tmA ps r t)) g := fun h1 h2 => v_call (v_cons (v_var h1) (v_cons (v_op2 (v_var h2) v_lit rfl) v_nil)) tm
  cases c with
  | hold => exact w_F (w_rt (w_ife (k := !false) (u_val (v_op2 (hd rfl) v_lit (neS (by decide) (by decide +kernel) (by decide +kernel)))) (ifT.trans (w_rt (w_ret (v_tup (v_cons (e1 rfl rfl) (v_cons (v_op2 (v_var rfl) v_lit rfl) (v_cons (v_op2 (v_var rfl) v_lit rfl) v_nil))) (by show 3 ≤ 1000; decide)))))))
  | line => exact w_F (w_rt (w_ife (k := !false) (u_val (v_op2 (hd rfl) v_lit (neS (by decide) (by decide +kernel) (by decide +kernel)))) (ifT.trans (w_rt (w_ret (v_tup (v_cons (e1 rfl rfl) (v_cons (v_op2 (v_var rfl) v_lit rfl) (v_cons (v_op2 (v_var rfl) v_lit rfl) v_nil))) (by show 3 ≤ 1000; decide)))))))
  | ease => exact w_F (w_rt (w_ife (k := !false) (u_val (v_op2 (hd rfl) v_lit (neS (by decide) (by decide +kernel) (by decide +kernel)))) (ifT.trans (w_rt (w_ret (v_tup (v_cons (e1 rfl rfl) (v_cons (v_op2 (v_var rfl) v_lit rfl) (v_cons (v_op2 (v_var rfl) v_lit rfl) v_nil))) (by show 3 ≤ 1000; decide)))))))
  | curve x y =>
    have hx : Sz 20 x := ha.c.1
    have hy : Sz 20 y := ha.c.2
    refine w_F (w_nx (w_ife (k := !true) (u_val (v_op2 (hd rfl) v_lit (neS (by decide) (by decide +kernel) (by decide +kernel)))) (ifF.trans w_nil)) (w_nx (w_set (v_call (v_cons (v_var rfl) (v_cons (e1 rfl rfl) v_nil)) (slopeat_ok (n := n + 1) hp hr r0 ha.t))) (w_rt (w_ret (v_tup (v_cons (e1 rfl rfl) (v_cons (v_op2 (v_var rfl) v_lit rfl) (v_cons (v_tup (v_cons v_lit (v_cons (v_call (v_cons (v_op2 (v_op2 (v_var rfl) v_lit rfl) v_lit rfl) (v_cons (v_var rfl) v_nil)) (times_ok (n := n + 5) hx ss (by decide))) (v_cons (v_call (v_cons (v_op2 (v_op2 (v_var rfl) v_lit rfl) v_lit rfl) (v_cons (v_var rfl) v_nil)) (times_ok (n := n + 5) hy ss (by decide))) v_nil))) (by show 3 ≤ 1000; decide)) v_nil))) (by show 3 ≤ 1000; decide))))))
end
end G

/-! Retimed tracks: values of tracks played once, the keys of a stretch (the program's). -/
namespace G
open PySem PySem.Spec PyProof.Rows L2 Fq
def bOfF : Ss → Ss | .cons (.fr _ _ b) _ => b | .cons _ r => bOfF r | _ => .nil
def tgOfF : Ss → Tg | .cons (.fr t _ _) _ => t | .cons _ r => tgOfF r | _ => .name 0
section
variable {n : Nat} {g : List PD} {ps : List Pt} {r : Rat}
theorem round_ok {ks : List Ky} : sem (n + 1) 35 [trD ks sOnce] g = .ok .none g := by
  rw [sem_def rfl rfl (by decide)]
  exact w_F (w_rt (w_ret (v_ite (k := false) (u_val (v_op2 (v_op2 (v_var rfl) v_lit rfl) v_lit (eqS (by decide) (by decide +kernel) (by decide +kernel)))) (ifF.trans v_lit))))
theorem folded_ok {ks : List Ky} {A : Ky} {d : PD} (h : ks[0]? = some A) : sem (n + 2) 36 [trD ks sOnce, d] g = .ok d g := by
  rw [sem_def rfl rfl (by decide)]
  have e : opF .ix (.tuple (ks.map kyD)) (.int 0) = some (kyD A) := atK (k := 0) h
  exact w_F (w_nx (w_par (v_op2 (v_op2 (v_op2 (v_var rfl) v_lit rfl) v_lit e) v_lit rfl) rfl (v_call (v_cons (v_var rfl) v_nil) round_ok) rfl ⟨by show 2 < 4; decide, by show 3 < 4; decide, by decide⟩) (w_rt (w_ife (k := true) (u_or (k := true) (u_val (v_op2 (v_var rfl) v_lit rfl)) ifT) (ifT.trans (w_rt (w_ret (v_var rfl)))))))
theorem gt_cmp {a b : Rat} : opF .gt (.int (cmpR a b)) (.int 0) = some (.bool (decide (b < a))) := by
  show some (PyData.bool (decide (0 < cmpR a b))) = _
  congr 2
  exact decide_eq_decide.mpr cmpR_gt
theorem val_loop {T K : Sl} {f : Rat} {A B : Ky} {v : PD} {P : List Rat} (hf : Sz 20 f) (h1 : A.t < f) (h2 : f < B.t) (h33 : sem (n + 7) 33 [kyD A, kyD B] g = .ok (pf P) g) (h37 : sem (n + 7) 37 [pf P, fr f] g = .ok v g) :
    ∀ (k : Nat) (l : List Ky) (s3 s4 : Sl), l[k]? = some A → l[k + 1]? = some B → (∀ C ∈ l, C.ok) → (∀ j C, 0 < j → j ≤ k → l[j]? = some C → C.t < f) →
    evFr (tgOfF ir38) (fun e => evSs (sem (n + 7)) lwK (bOfF ir38) e) (zipF (l.map kyD) ((l.map kyD).drop 1)) [T, .d (fr f), K, s3, s4] g = .ok (.rt v) g := by
  intro k
  induction k with
  | zero =>
    intro l s3 s4 e1 e2 hk _
    match l, e1, e2, hk with
    | C :: D :: s, e1, e2, hk =>
      have z1 : C = A := by simpa using e1
      have z2 : D = B := by simpa using e2
      subst z1 z2
      have ha := hk C List.mem_cons_self
      have hb := hk D (List.mem_cons_of_mem _ List.mem_cons_self)
      exact fr_rt (d := .tuple [kyD C, kyD D]) (env1 := [T, .d (fr f), K, .d (kyD C), .d (kyD D)]) rfl (w_rt (w_ife (k := true) (u_val (v_op2 (v_call (v_cons (v_var rfl) (v_cons (v_op2 (v_var rfl) v_lit rfl) v_nil)) (comp_ok (n := n + 2) hf hb.t (by decide))) v_lit (lt_cmp.trans (by rw [decide_eq_true h2])))) (ifT.trans (w_rt (w_ret (v_ite (k := true) (u_val (v_op2 (v_call (v_cons (v_var rfl) (v_cons (v_op2 (v_var rfl) v_lit rfl) v_nil)) (comp_ok (n := n + 2) hf ha.t (by decide))) v_lit (gt_cmp.trans (by rw [decide_eq_true h1])))) (ifT.trans (v_call (v_cons (v_call (v_cons (v_var rfl) (v_cons (v_var rfl) v_nil)) h33) (v_cons (v_var rfl) v_nil)) h37))))))))
  | succ k ih =>
    intro l s3 s4 e1 e2 hk hj
    match l, e1, e2, hk, hj with
    | C :: D :: s, e1, e2, hk, hj =>
      have hb := hk D (List.mem_cons_of_mem _ List.mem_cons_self)
      have lt : D.t < f := hj 1 D (by decide) (by omega) rfl
      have h := ih (D :: s) (.d (kyD C)) (.d (kyD D)) (by simpa using e1) (by simpa using e2) (fun X hX => hk X (List.mem_cons_of_mem _ hX)) fun j X h0 hle e => hj (j + 1) X (by omega) (by omega) (by simpa using e)
      have nl : ¬ f < D.t := by grind
      exact fr_cons (d := .tuple [kyD C, kyD D]) (env1 := [T, .d (fr f), K, .d (kyD C), .d (kyD D)]) rfl (w_nx (w_ife (k := false) (u_val (v_op2 (v_call (v_cons (v_var rfl) (v_cons (v_op2 (v_var rfl) v_lit rfl) v_nil)) (comp_ok (n := n + 2) hf hb.t (by decide))) v_lit (lt_cmp.trans (by rw [decide_eq_false nl])))) (ifF.trans w_nil)) w_nil) h
    | [C], e1, e2, hk, hj => simp at e1
    | [], e1, e2, hk, hj => simp at e1
theorem trackval_ok {ks : List Ky} (ht : TrOk ks) {k : Nat} {A B : Ky} (ea : ks[k]? = some A) (eb : ks[k + 1]? = some B) {f : Rat} (hf : Sz 20 f) (h1 : A.t < f) (h2 : f < B.t) (hc : A.c ≠ .hold) : sem (n + 8) 38 [trD ks sOnce, fr f] g = .ok (fr (evP f (segP A.t A.v A.c B.t B.v))) g := by
  have hl : 0 < ks.length := by have := (List.getElem?_eq_some_iff.mp ea).1; omega
  have e0 : ks[0]? = some ks[0] := List.getElem?_eq_getElem hl
  have P := poly_ok (ht.at ea) (ht.at eb) hc
  have h33 := between_ok (n := n) (g := g) (ht.at ea) (ht.at eb) (rat_ne_of_lt (ht.lt ea eb (Nat.lt_succ_self k)))
  have h37 := valueof_ok (n := n + 3) (g := g) hf P.co (P.ev f hf) (by decide)
  have low : ∀ j C, j ≤ k → ks[j]? = some C → C.t < f := fun j C hj e => by
    rcases Nat.lt_or_ge j k with z | z
    · have := ht.lt e ea z
      grind
    · have : j = k := by omega
      subst this
      rw [e] at ea
      rw [Option.some.inj ea]
      exact h1
  have l0 := low 0 _ (Nat.zero_le _) e0
  have nl : ¬ f ≤ (ks[0]).t := by grind
  have ix0 : opF .ix (.tuple (ks.map kyD)) (.int 0) = some (kyD ks[0]) := atK (k := 0) e0
  have lp := val_loop (n := n) (g := g) (T := .d (trD ks sOnce)) (K := .d (.tuple (ks.map kyD))) hf h1 h2 h33 h37 k ks .no .no ea eb ht.1 fun j C _ hj e => low j C hj e
  rw [sem_def rfl rfl (by decide)]
  refine w_F (w_nx (w_par (v_op2 (v_var rfl) v_lit rfl) rfl (v_call (v_cons (v_var rfl) (v_cons (v_var rfl) v_nil)) (folded_ok (n := n + 5) e0)) rfl ⟨by show 2 < 5; decide, by show 1 < 5; decide, by decide⟩) (w_nx (w_ife (k := false) (u_val (v_op2 (v_call (v_cons (v_var rfl) (v_cons (v_op2 (v_op2 (v_var rfl) v_lit ix0) v_lit rfl) v_nil)) (comp_ok (n := n + 2) hf (ht.at e0).t (by decide))) v_lit (le_cmp.trans (by rw [decide_eq_false nl])))) (ifF.trans w_nil)) (w_rt (w_fr (i_zipT (v_var rfl) (v_sl (v_var rfl) (v_os v_lit) v_on sl_1)) lp))))
/-! the keys of a stretch -/
def mkA (ps : List Pt) (A B : Ky) : List Rat := match A.c with | .hold => [] | _ => mksA ps A.t B.t
def keyA (ps : List Pt) (r : Rat) (A B : Ky) (low high : Rat) : Ky := ⟨tmA ps r low, if low = A.t then A.v else evP low (segP A.t A.v A.c B.t B.v), curA ps r A.c (segP A.t A.v A.c B.t B.v) (mkA ps A B) low high⟩
def endsA (ps : List Pt) (A B : Ky) : List Rat := [A.t] ++ mkA ps A B ++ [B.t]
def keysA (ps : List Pt) (r : Rat) (A B : Ky) : List Ky := pairsW (keyA ps r A B) (endsA ps A B)
theorem keys_loop {C T K X Y M P E : Sl} {A : Ky} {h : Rat → Rat → Ky} (hX : X = .d (kyD A)) :
    ∀ (l : List Rat) (acc : List Ky) (s9 s10 s11 : Sl), acc.length + l.length ≤ 1000 →
    (∀ i a b, l[i]? = some a → l[i + 1]? = some b → ∀ s10 s11 F, evE (sem (n + 9)) lwK (.ite (.val (.op2 .eq (.var 9) (.op2 .ix (.var 3) (.lit (.int 0))))) (.op2 .ix (.var 3) (.lit (.int 1))) (.call 38 (.cons (.var 1) (.cons (.var 9) .nil)))) [C, T, K, X, Y, M, P, E, F, .d (fr a), s10, s11] g = .ok (fr (h a b).v) g) →
    (∀ i a b, l[i]? = some a → l[i + 1]? = some b → ∀ s11 F, evE (sem (n + 9)) lwK (.call 14 (.cons (.var 0) (.cons (.var 9) .nil))) [C, T, K, X, Y, M, P, E, F, .d (fr a), .d (fr b), s11] g = .ok (fr (h a b).t) g) →
    (∀ i a b, l[i]? = some a → l[i + 1]? = some b → ∀ s11 F, evE (sem (n + 9)) lwK (.call 41 (.cons (.var 0) (.cons (.var 3) (.cons (.var 6) (.cons (.var 5) (.cons (.var 9) (.cons (.var 10) .nil))))))) [C, T, K, X, Y, M, P, E, F, .d (fr a), .d (fr b), s11] g = .ok (cvD (h a b).c) g) →
    ∃ t9 t10 t11, evFr (tgOfF ir42) (fun e => evSs (sem (n + 9)) lwK (bOfF ir42) e) (zipF (l.map fr) ((l.map fr).drop 1)) [C, T, K, X, Y, M, P, E, .own (acc.map kyD), s9, s10, s11] g = .ok (.nx [C, T, K, X, Y, M, P, E, .own ((acc ++ pairsW h l).map kyD), t9, t10, t11]) g
  | [], acc, s9, s10, s11, _, _, _, _ => ⟨s9, s10, s11, by rw [show pairsW h [] = [] from rfl, List.append_nil]; exact fr_nil⟩
  | [a], acc, s9, s10, s11, _, _, _, _ => ⟨s9, s10, s11, by rw [show pairsW h [a] = [] from rfl, List.append_nil]; exact fr_nil⟩
  | a :: b :: s, acc, s9, s10, s11, hl, hv, ht, hc => by
    obtain ⟨t9, t10, t11, ih⟩ := keys_loop hX (b :: s) (acc ++ [h a b]) (.d (fr a)) (.d (fr b)) (.d (fr (h a b).v)) (by simp at hl ⊢; omega) (fun i x y hx hy => hv (i + 1) x y (by simpa using hx) (by simpa using hy)) (fun i x y hx hy => ht (i + 1) x y (by simpa using hx) (by simpa using hy)) (fun i x y hx hy => hc (i + 1) x y (by simpa using hx) (by simpa using hy))
    refine ⟨t9, t10, t11, ?_⟩
    have e : acc ++ pairsW h (a :: b :: s) = acc ++ [h a b] ++ pairsW h (b :: s) := by
      show acc ++ (h a b :: pairsW h (b :: s)) = _
      rw [List.append_assoc]
      rfl
    rw [e]
    have v1 := hv 0 a b rfl rfl (.d (fr b)) s11 (.own (acc.map kyD))
    have v2 := ht 0 a b rfl rfl (.d (fr (h a b).v)) (.own (acc.map kyD))
    have v3 := hc 0 a b rfl rfl (.d (fr (h a b).v)) (.own (acc.map kyD))
    refine fr_cons (d := .tuple [fr a, fr b]) (env1 := [C, T, K, X, Y, M, P, E, .own (acc.map kyD), .d (fr a), .d (fr b), s11]) (env' := [C, T, K, X, Y, M, P, E, .own ((acc ++ [h a b]).map kyD), .d (fr a), .d (fr b), .d (fr (h a b).v)]) rfl (w_nx (w_set v1) (w_nx (w_app rfl (by rw [List.length_map]; simp at hl; omega) (v_tup (v_cons v2 (v_cons (v_var rfl) (v_cons v3 v_nil))) (by show 3 ≤ 1000; decide))) ?_)) ih
    rw [List.map_append]
    exact w_nil
end
end G

/-! Retimed tracks: the keys of a stretch (the program's). -/
namespace G
open PySem PySem.Spec PyProof.Rows L2 Fq
section
variable {n : Nat} {g : List PD} {ps : List Pt} {r : Rat}
theorem sl_1L {ds : List PD} : slF (.list ds) (some 1) none = some (.list (ds.drop 1)) := by
  show some (PyData.list (cutP ds (some ((1 : Nat) : Int)) none)) = _
  rw [cut_from]
theorem mkA_mem (hp : PsOk ps) {A B : Ky} {x : Rat} (h : x ∈ mkA ps A B) : Sz 20 x ∧ A.t < x ∧ x < B.t ∧ A.c ≠ .hold := by
  unfold mkA at h
  cases e : A.c with
  | hold => rw [e] at h; cases h
  | line => rw [e] at h; obtain ⟨h1, h2, h3⟩ := mk_sz hp h; exact ⟨h1, h2, h3, fun z => by cases z⟩
  | ease => rw [e] at h; obtain ⟨h1, h2, h3⟩ := mk_sz hp h; exact ⟨h1, h2, h3, fun z => by cases z⟩
  | curve x y => rw [e] at h; obtain ⟨h1, h2, h3⟩ := mk_sz hp h; exact ⟨h1, h2, h3, fun z => by cases z⟩
/-- the ends: which they are -/
theorem ends_mem (hp : PsOk ps) {A B : Ky} (ha : A.ok) (hb : B.ok) (lt : A.t < B.t) {x : Rat} (h : x ∈ endsA ps A B) : Sz 20 x := by
  unfold endsA at h
  rcases List.mem_append.mp h with h | h
  · rcases List.mem_append.mp h with h | h
    · rw [List.mem_singleton.mp h]; exact ha.t
    · exact (mkA_mem hp h).1
  · rw [List.mem_singleton.mp h]; exact hb.t
/-- a low end other than the first is a mark -/
theorem low_mark {A B : Ky} {i : Nat} {a b : Rat} (e : (endsA ps A B)[i]? = some a) (f : (endsA ps A B)[i + 1]? = some b) : a = A.t ∨ a ∈ mkA ps A B := by
  unfold endsA at e f
  have hl := (List.getElem?_eq_some_iff.mp f).1
  rw [List.length_append] at hl
  have hl' : i < ([A.t] ++ mkA ps A B).length := by simp at hl ⊢; omega
  rw [List.getElem?_append_left hl'] at e
  have := List.mem_of_getElem? e
  rcases List.mem_append.mp this with h | h
  · exact Or.inl (List.mem_singleton.mp h)
  · exact Or.inr h
theorem mkA_len (hp : PsOk ps) {A B : Ky} : (mkA ps A B).length ≤ 20 := by
  have h : (mksA ps A.t B.t).length ≤ 20 := by
    unfold mksA
    refine Nat.le_trans (List.length_filter_le _ _) ?_
    rw [List.length_map, List.length_drop]
    have := hp.len
    omega
  unfold mkA
  cases A.c with
  | hold => exact Nat.zero_le _
  | line => exact h
  | ease => exact h
  | curve x y => exact h
theorem ends_len (hp : PsOk ps) {A B : Ky} : (endsA ps A B).length ≤ 22 := by
  have := mkA_len hp (A := A) (B := B)
  unfold endsA
  rw [List.length_append, List.length_append]
  show 1 + _ + 1 ≤ 22
  omega
theorem keysb_ok (hp : PsOk ps) (hr : Sz 20 r) (r0 : 0 < r) {ks : List Ky} {m : PD} (ht : TrOk ks) (hm : m = sOnce ∨ ps.length = 1) {k : Nat} {A B : Ky} (ea : ks[k]? = some A) (eb : ks[k + 1]? = some B) :
    sem (n + 10) 42 [clD ps r, trD ks m, .int (k : Nat)] g = .ok (.list ((keysA ps r A B).map kyD)) g := by
  have ha := ht.at ea
  have hb := ht.at eb
  have lt := ht.lt ea eb (Nat.lt_succ_self k)
  have hP : A.c ≠ .hold → PolyOk (segP A.t A.v A.c B.t B.v) := poly_ok ha hb
  have ad : opF .add (.int (k : Nat)) (.int 1) = some (.int ((k + 1 : Nat) : Int)) := rfl
  have seg := segment_ok (n := n + 1) (g := g) (m := m) ht ea eb
  have mk : sem (n + 9) 39 [clD ps r, kyD A, kyD B] g = .ok (lf (mksA ps A.t B.t)) g := marks_ok (n := n + 3) hp ha hb
  -- the three parts of a key
  have hv : ∀ i a b, (endsA ps A B)[i]? = some a → (endsA ps A B)[i + 1]? = some b → ∀ s10 s11 F, evE (sem (n + 9)) lwK (.ite (.val (.op2 .eq (.var 9) (.op2 .ix (.var 3) (.lit (.int 0))))) (.op2 .ix (.var 3) (.lit (.int 1))) (.call 38 (.cons (.var 1) (.cons (.var 9) .nil)))) [.d (clD ps r), .d (trD ks m), .d (.int (k : Nat)), .d (kyD A), .d (kyD B), .d (lf (mkA ps A B)), .d (pf (segP A.t A.v A.c B.t B.v)), .d (lf (endsA ps A B)), F, .d (fr a), s10, s11] g = .ok (fr (keyA ps r A B a b).v) g := by
    intro i a b e f s10 s11 F
    have te : opF .eq (fr a) (fr A.t) = some (.bool (decide (a = A.t))) := eq_fr
    show _ = Out.ok (fr (if a = A.t then A.v else evP a (segP A.t A.v A.c B.t B.v))) g
    by_cases z : a = A.t
    · rw [if_pos z]
      exact v_ite (k := true) (u_val (v_op2 (v_var rfl) (v_op2 (v_var rfl) v_lit rfl) (te.trans (by rw [decide_eq_true z])))) (ifT.trans (v_op2 (v_var rfl) v_lit rfl))
    · rw [if_neg z]
      have mm := (low_mark e f).resolve_left z
      obtain ⟨q1, q2, q3, q4⟩ := mkA_mem hp mm
      have hm' : m = sOnce := hm.resolve_right fun l1 => by
        have : ps.drop 1 = [] := List.drop_eq_nil_of_le (by omega)
        unfold mkA mksA at mm
        rw [this] at mm
        cases e : A.c <;> (rw [e] at mm; cases mm)
      subst hm'
      exact v_ite (k := false) (u_val (v_op2 (v_var rfl) (v_op2 (v_var rfl) v_lit rfl) (te.trans (by rw [decide_eq_false z])))) (ifF.trans (v_call (v_cons (v_var rfl) (v_cons (v_var rfl) v_nil)) (trackval_ok (n := n + 1) ht ea eb q1 q2 q3 q4)))
  have htm : ∀ i a b, (endsA ps A B)[i]? = some a → (endsA ps A B)[i + 1]? = some b → ∀ s11 F, evE (sem (n + 9)) lwK (.call 14 (.cons (.var 0) (.cons (.var 9) .nil))) [.d (clD ps r), .d (trD ks m), .d (.int (k : Nat)), .d (kyD A), .d (kyD B), .d (lf (mkA ps A B)), .d (pf (segP A.t A.v A.c B.t B.v)), .d (lf (endsA ps A B)), F, .d (fr a), .d (fr b), s11] g = .ok (fr (keyA ps r A B a b).t) g := fun i a b e f s11 F =>
    v_call (v_cons (v_var rfl) (v_cons (v_var rfl) v_nil)) (time_ok (n := n + 2) hp hr r0 (ends_mem hp ha hb lt (List.mem_of_getElem? e)))
  have hcv : ∀ i a b, (endsA ps A B)[i]? = some a → (endsA ps A B)[i + 1]? = some b → ∀ s11 F, evE (sem (n + 9)) lwK (.call 41 (.cons (.var 0) (.cons (.var 3) (.cons (.var 6) (.cons (.var 5) (.cons (.var 9) (.cons (.var 10) .nil))))))) [.d (clD ps r), .d (trD ks m), .d (.int (k : Nat)), .d (kyD A), .d (kyD B), .d (lf (mkA ps A B)), .d (pf (segP A.t A.v A.c B.t B.v)), .d (lf (endsA ps A B)), F, .d (fr a), .d (fr b), s11] g = .ok (cvD (keyA ps r A B a b).c) g := fun i a b e f s11 F =>
    v_call (v_cons (v_var rfl) (v_cons (v_var rfl) (v_cons (v_var rfl) (v_cons (v_var rfl) (v_cons (v_var rfl) (v_cons (v_var rfl) v_nil)))))) (curveb_ok hp hr r0 hP (ends_mem hp ha hb lt (List.mem_of_getElem? e)) (ends_mem hp ha hb lt (List.mem_of_getElem? f)))
  obtain ⟨t9, t10, t11, lp⟩ := keys_loop (n := n) (g := g) (C := .d (clD ps r)) (T := .d (trD ks m)) (K := .d (.int (k : Nat))) (X := .d (kyD A)) (Y := .d (kyD B)) (M := .d (lf (mkA ps A B))) (P := .d (pf (segP A.t A.v A.c B.t B.v))) (E := .d (lf (endsA ps A B))) (A := A) (h := keyA ps r A B) rfl (endsA ps A B) [] .no .no .no (by have := ends_len hp (A := A) (B := B); show 0 + _ ≤ 1000; omega) hv htm hcv
  rw [sem_def rfl rfl (by decide)]
  refine w_F (w_nx (w_par (v_op2 (v_op2 (v_var rfl) v_lit rfl) (v_var rfl) (atK ea)) rfl (v_op2 (v_op2 (v_var rfl) v_lit rfl) (v_op2 (v_var rfl) v_lit ad) (atK eb)) rfl ⟨by show 3 < 12; decide, by show 4 < 12; decide, by decide⟩) ?_)
  have five : evE (sem (n + 9)) lwK (.ite (.val (.op2 .eq (.op2 .ix (.op2 .ix (.var 3) (.lit (.int 2))) (.lit (.int 0))) (.lit sHold))) (.lst .nil) (.call 39 (.cons (.var 0) (.cons (.var 3) (.cons (.var 4) .nil))))) [.d (clD ps r), .d (trD ks m), .d (.int (k : Nat)), .d (kyD A), .d (kyD B), .no, .no, .no, .no, .no, .no, .no] g = .ok (lf (mkA ps A B)) g := by
    have hd : opF .ix (cvD A.c) (.int 0) = some (hdC A.c) := ix_hd
    have c39 : evE (sem (n + 9)) lwK (.call 39 (.cons (.var 0) (.cons (.var 3) (.cons (.var 4) .nil)))) [.d (clD ps r), .d (trD ks m), .d (.int (k : Nat)), .d (kyD A), .d (kyD B), .no, .no, .no, .no, .no, .no, .no] g = .ok (lf (mksA ps A.t B.t)) g := v_call (v_cons (v_var rfl) (v_cons (v_var rfl) (v_cons (v_var rfl) v_nil))) mk
    unfold mkA
    cases e : A.c with
    | hold =>
      rw [e] at hd
      exact v_ite (k := true) (u_val (v_op2 (v_op2 (v_op2 (v_var rfl) v_lit rfl) v_lit ((by rw [e]; exact hd))) v_lit (eqS (by decide) (by decide +kernel) (by decide +kernel)))) (ifT.trans (v_lst v_nil (by show 0 ≤ 1000; decide)))
    | line =>
      rw [e] at hd
      exact v_ite (k := false) (u_val (v_op2 (v_op2 (v_op2 (v_var rfl) v_lit rfl) v_lit ((by rw [e]; exact hd))) v_lit (eqS (by decide) (by decide +kernel) (by decide +kernel)))) (ifF.trans c39)
    | ease =>
      rw [e] at hd
      exact v_ite (k := false) (u_val (v_op2 (v_op2 (v_op2 (v_var rfl) v_lit rfl) v_lit ((by rw [e]; exact hd))) v_lit (eqS (by decide) (by decide +kernel) (by decide +kernel)))) (ifF.trans c39)
    | curve x y =>
      rw [e] at hd
      exact v_ite (k := false) (u_val (v_op2 (v_op2 (v_op2 (v_var rfl) v_lit rfl) v_lit ((by rw [e]; exact hd))) v_lit (eqS (by decide) (by decide +kernel) (by decide +kernel)))) (ifF.trans c39)
  have ml := mkA_len hp (A := A) (B := B)
  have add1 : opF .add (.list [fr A.t]) (lf (mkA ps A B)) = some (.list (fr A.t :: (mkA ps A B).map fr)) := add_LL (by rw [List.length_map]; show 1 + _ ≤ _; omega)
  have add2 : opF .add (.list (fr A.t :: (mkA ps A B).map fr)) (.list [fr B.t]) = some (lf (endsA ps A B)) := by
    rw [add_LL (by rw [List.length_cons, List.length_map]; show _ + 1 + 1 ≤ _; omega)]
    unfold endsA lf
    rw [List.map_append, List.map_append]
    rfl
  show evSs (sem (n + 9)) lwK _ [.d (clD ps r), .d (trD ks m), .d (.int (k : Nat)), .d (kyD A), .d (kyD B), .no, .no, .no, .no, .no, .no, .no] g = _
  refine w_nx (w_set five) ?_
  show evSs (sem (n + 9)) lwK _ [.d (clD ps r), .d (trD ks m), .d (.int (k : Nat)), .d (kyD A), .d (kyD B), .d (lf (mkA ps A B)), .no, .no, .no, .no, .no, .no] g = _
  refine w_nx (w_par3 (v_call (v_cons (v_var rfl) (v_cons (v_var rfl) v_nil)) seg) rfl (v_op2 (v_op2 (v_lst (v_cons (v_op2 (v_var rfl) v_lit rfl) v_nil) (by show 1 ≤ 1000; decide)) (v_var rfl) add1) (v_lst (v_cons (v_op2 (v_var rfl) v_lit rfl) v_nil) (by show 1 ≤ 1000; decide)) add2) rfl (v_lst v_nil (by show 0 ≤ 1000; decide)) rfl ⟨by show 6 < 12; decide, by show 7 < 12; decide, by show 8 < 12; decide, by decide, by decide, by decide⟩) ?_
  show evSs (sem (n + 9)) lwK _ [.d (clD ps r), .d (trD ks m), .d (.int (k : Nat)), .d (kyD A), .d (kyD B), .d (lf (mkA ps A B)), .d (pf (segP A.t A.v A.c B.t B.v)), .d (lf (endsA ps A B)), .own [], .no, .no, .no] g = _
  exact w_nx (w_fr (i_zipL (v_var rfl) (v_sl (v_var rfl) (v_os v_lit) v_on sl_1L)) lp) (w_frz rfl (w_rt (w_ret (v_var rfl))))
end
end G

/-! Retimed tracks (the program's). -/
namespace G
open PySem PySem.Spec PyProof.Rows L2 Fq
def kA (ks : List Ky) (i : Nat) : Ky := ks.getD i ⟨0, 0, .hold⟩
theorem kA_at {ks : List Ky} {k : Nat} (h : k < ks.length) : ks[k]? = some (kA ks k) := by
  unfold kA
  rw [List.getD_eq_getElem?_getD, List.getElem?_eq_getElem h]
  rfl
/-- the keys of the first stretches -/
def preA (ps : List Pt) (r : Rat) (ks : List Ky) (j : Nat) : List Ky := ((List.range j).map fun i => keysA ps r (kA ks i) (kA ks (i + 1))).flatten
theorem preA_succ {ps : List Pt} {r : Rat} {ks : List Ky} {j : Nat} : preA ps r ks (j + 1) = preA ps r ks j ++ keysA ps r (kA ks j) (kA ks (j + 1)) := by
  unfold preA
  rw [List.range_succ, List.map_append, List.flatten_append]
  simp
def trackA (ps : List Pt) (r : Rat) (ks : List Ky) : List Ky := preA ps r ks (ks.length - 1) ++ [lastA ps r (kA ks (ks.length - 1))]
theorem keysA_len {ps : List Pt} {r : Rat} (hp : PsOk ps) {A B : Ky} : (keysA ps r A B).length ≤ 22 := by
  unfold keysA
  rw [pairsW_len]
  have := ends_len hp (A := A) (B := B)
  omega
theorem preA_len {ps : List Pt} {r : Rat} (hp : PsOk ps) {ks : List Ky} : ∀ j, (preA ps r ks j).length ≤ 22 * j
  | 0 => Nat.le_refl _
  | j + 1 => by
    rw [preA_succ, List.length_append]
    have h1 := preA_len hp (r := r) (ks := ks) j
    have h2 := keysA_len hp (r := r) (A := kA ks j) (B := kA ks (j + 1))
    omega
section
variable {n : Nat} {g : List PD} {ps : List Pt} {r : Rat}
theorem ls_one (hp : PsOk ps) (h : ps.length = 1) : (lsP ps r).length = 1 := by
  have h1 := lsP_len (ps := ps) (r := r)
  have h2 : 0 < (lsP ps r).length := List.length_pos_iff.mpr (lsP_ok hp).ne
  omega
theorem lastix {ks : List Ky} (h : ks ≠ []) : opF .ix (.tuple (ks.map kyD)) (.int (-1)) = some (kyD (kA ks (ks.length - 1))) := by
  have e : ks = ks.dropLast ++ [ks.getLast h] := (List.dropLast_concat_getLast h).symm
  have hl : 0 < ks.length := List.length_pos_iff.mpr h
  have e2 : kA ks (ks.length - 1) = ks.getLast h := by
    have := kA_at (ks := ks) (k := ks.length - 1) (by omega)
    rw [List.getElem?_eq_getElem (by omega)] at this
    rw [← Option.some.inj this, List.getLast_eq_getElem]
  rw [e2]
  show atI (ks.map kyD) (-1) = _
  conv => lhs; rw [e]
  rw [List.map_append]
  exact at_last
/-- what the walk over the stretches gathers -/
theorem stretches (hp : PsOk ps) (hr : Sz 20 r) (r0 : 0 < r) {ks : List Ky} {m : PD} (ht : TrOk ks) (hk : ks.length ≤ 20) (hm : m = sOnce ∨ ps.length = 1) :
    ∃ s, evFr (.name 3) (fun e => evSs (sem (n + 10)) lwK (bOfF ir44) e) ((List.range (ks.length - 1)).map fun k => .int (k : Nat)) [.d (trD ks m), .d (clD ps r), .own [], .no] g = .ok (.nx [.d (trD ks m), .d (clD ps r), .own ((preA ps r ks (ks.length - 1)).map kyD), s]) g := by
  obtain ⟨env', h1, s, h2⟩ := fr_range (g := g) (tg := .name 3) (body := fun e => evSs (sem (n + 10)) lwK (bOfF ir44) e) (S := fun j env => ∃ s, env = [.d (trD ks m), .d (clD ps r), .own ((preA ps r ks j).map kyD), s]) (m := ks.length - 1) (fun j env hj hS => by
    obtain ⟨s, rfl⟩ := hS
    have kb := keysb_ok (n := n) (g := g) hp hr r0 ht hm (kA_at (ks := ks) (k := j) (by omega)) (kA_at (ks := ks) (k := j + 1) (by omega))
    have l1 := preA_len hp (r := r) (ks := ks) j
    have l2 := keysA_len hp (r := r) (A := kA ks j) (B := kA ks (j + 1))
    refine ⟨[.d (trD ks m), .d (clD ps r), .own ((preA ps r ks j).map kyD), .d (.int (j : Nat))], [.d (trD ks m), .d (clD ps r), .own ((preA ps r ks (j + 1)).map kyD), .d (.int (j : Nat))], rfl, ?_, _, rfl⟩
    refine w_nx (w_ext rfl (v_call (v_cons (v_var rfl) (v_cons (v_var rfl) (v_cons (v_var rfl) v_nil))) kb) (by rw [List.length_map, List.length_map]; omega)) ?_
    rw [preA_succ, List.map_append]
    exact w_nil) (env := [.d (trD ks m), .d (clD ps r), .own [], .no]) ⟨.no, rfl⟩
  exact ⟨s, by rw [h1, h2]⟩
theorem refuse_not (hp : PsOk ps) {ks : List Ky} {m : PD} (hm : m = sOnce ∨ (m = sLoop ∧ ps.length = 1)) {s2 s3 : Sl} {x : St} {rest : Ss} :
    evS (sem (n + 10)) lwK (.ife (.and (.val (.op2 .eq (.op2 .ix (.var 0) (.lit (.int 1))) (.lit sLoop))) (.not (.val (.call 17 (.cons (.var 1) .nil))))) (.cons x .nil) .nil) [.d (trD ks m), .d (clD ps r), s2, s3] g = .ok (.nx [.d (trD ks m), .d (clD ps r), s2, s3]) g := by
  rcases hm with rfl | ⟨rfl, h1⟩
  · exact w_ife (k := false) (u_and (k := false) (u_val (v_op2 (v_op2 (v_var rfl) v_lit rfl) v_lit (eqS (by decide) (by decide +kernel) (by decide +kernel)))) ifF) (ifF.trans w_nil)
  · have st := straight_ok (n := n + 3) (g := g) (r := r) hp
    rw [ls_one hp h1] at st
    exact w_ife (k := false) (u_and (k := true) (u_val (v_op2 (v_op2 (v_var rfl) v_lit rfl) v_lit (eqS (by decide) (by decide +kernel) (by decide +kernel)))) (ifT.trans (u_not (k := true) (u_val (v_call (v_cons (v_var rfl) v_nil) st))))) (ifF.trans w_nil)
theorem rtrack_ok (hp : PsOk ps) (hr : Sz 20 r) (r0 : 0 < r) {ks : List Ky} {m : PD} (ht : TrOk ks) (hk : ks.length ≤ 20) (h0 : ks ≠ []) (hm : m = sOnce ∨ (m = sLoop ∧ ps.length = 1)) (hl : (trackA ps r ks).length ≤ 12) : sem (n + 11) 44 [trD ks m, clD ps r] g = .ok (trD (trackA ps r ks) m) g := by
  have hm' : m = sOnce ∨ ps.length = 1 := hm.imp id fun h => h.2
  obtain ⟨s, lp⟩ := stretches (n := n) (g := g) hp hr r0 ht hk hm'
  have h0' : 0 < ks.length := List.length_pos_iff.mpr h0
  have lst := last_ok (n := n + 1) (g := g) hp hr r0 (ht.at (kA_at (ks := ks) (k := ks.length - 1) (by omega)))
  have ln : bltF .len (.tuple (ks.map kyD)) = some (.int (ks.length : Nat)) := by
    show some (PyData.int ((ks.map kyD).length : Nat)) = _
    rw [List.length_map]
  have hrange : (((ks.length : Nat) : Int) - 1).toNat = ks.length - 1 := by omega
  have pl := preA_len hp (r := r) (ks := ks) (ks.length - 1)
  have fin : ((preA ps r ks (ks.length - 1)).map kyD) ++ [kyD (lastA ps r (kA ks (ks.length - 1)))] = (trackA ps r ks).map kyD := by unfold trackA; rw [List.map_append]; rfl
  have gt : opF .gt (.int (((trackA ps r ks).map kyD).length : Nat)) (.int 12) = some (.bool false) := by
    show some (PyData.bool (decide ((12 : Int) < _))) = _
    rw [List.length_map, decide_eq_false (by omega)]
  rw [sem_def rfl rfl (by decide)]
  refine w_F (w_nx (refuse_not (n := n) (g := g) (x := .rse0 0) (rest := .nil) hp hm) ?_)
  refine w_nx (w_setO (v_lst v_nil (by show 0 ≤ 1000; decide)) (by show 2 < 4; decide)) ?_
  refine w_nx (w_fr (i_range (v_op2 (v_blt (v_op2 (v_var rfl) v_lit rfl) ln) v_lit rfl) ⟨by omega, by omega⟩) ((congrArg (fun l => evFr (.name 3) (fun e => evSs (sem (n + 10)) lwK (bOfF ir44) e) ((List.range l).map fun k => PyData.int (k : Nat)) _ g) hrange).trans lp)) ?_
  refine w_nx (w_app rfl (by rw [List.length_map]; omega) (v_call (v_cons (v_var rfl) (v_cons (v_op2 (v_op2 (v_var rfl) v_lit rfl) (v_neg v_lit) (lastix h0)) v_nil)) lst)) ?_
  rw [fin]
  show evSs (sem (n + 10)) lwK _ [.d (trD ks m), .d (clD ps r), .own ((trackA ps r ks).map kyD), s] g = _
  refine w_nx (w_ife (k := false) (u_val (v_op2 (v_olen rfl) (v_glb rfl) gt)) (ifF.trans w_nil)) ?_
  exact w_frz rfl (w_rt (w_ret (v_tup (v_cons (v_blt (v_var rfl) rfl) (v_cons (v_op2 (v_var rfl) v_lit rfl) v_nil)) (by show 2 ≤ 1000; decide))))
end
end G

/-! The law's own track: one key of a stretch. -/
namespace G
open PySem PySem.Spec PyProof.Rows L2 Fq
def crvQ (c : Cv) (mk : List Rat) : Bool := match c with
  | .curve _ _ => true
  | .ease => !mk.isEmpty
  | _ => false
theorem curA_if {ps : List Pt} {r : Rat} {c : Cv} {P mk : List Rat} {a b : Rat} : curA ps r c P mk a b = if crvQ c mk = true then crvA ps r P a b else c := by
  cases c with
  | hold => rfl
  | line => rfl
  | ease => cases mk <;> rfl
  | curve x y => rfl
section
variable {n : Nat} {g : List PD} {ps : List Pt} {r : Rat}
theorem nnil_lf {l : List Rat} : opF .ne (lf l) (.list []) = some (.bool (!l.isEmpty)) := by
  show (if shp (lf l) = true ∧ shp (.list []) = true then some (PyData.bool (!PyData.eqv (lf l) (.list []))) else none) = _
  rw [if_pos ⟨shp_lf, rfl⟩]
  unfold lf
  rw [eqv_nil, List.isEmpty_map]
theorem hd_at {Fn : Nat → List PD → M PD} {env : EnvD} {c : Cv} {i : Nat} (h : env[i]? = some (.d (cvD c))) : evE Fn lwK (.op2 .ix (.var i) (.lit (.int 0))) env g = .ok (hdC c) g := v_op2 (v_var h) v_lit ix_hd
theorem cond_ok {Fn : Nat → List PD → M PD} {env : EnvD} {c : Cv} {mk : List Rat} (h14 : env[14]? = some (.d (cvD c))) (h6 : env[6]? = some (.d (lf mk))) :
    evT Fn lwK (.or (.val (.op2 .eq (.op2 .ix (.var 14) (.lit (.int 0))) (.lit sCurve))) (.and (.val (.op2 .eq (.op2 .ix (.var 14) (.lit (.int 0))) (.lit sEase))) (.val (.op2 .ne (.var 6) (.lst .nil))))) env g = .ok (crvQ c mk) g := by
  have nl : evE Fn lwK (.lst .nil) env g = .ok (.list []) g := v_lst v_nil (by show 0 ≤ 1000; decide)
  have hd := hd_at (Fn := Fn) (g := g) h14
  cases c with
  | hold => exact u_or (k := false) (u_val (v_op2 hd v_lit (eqS (by decide) (by decide +kernel) (by decide +kernel)))) (ifF.trans (u_and (k := false) (u_val (v_op2 hd v_lit (eqS (by decide) (by decide +kernel) (by decide +kernel)))) ifF))
  | line => exact u_or (k := false) (u_val (v_op2 hd v_lit (eqS (by decide) (by decide +kernel) (by decide +kernel)))) (ifF.trans (u_and (k := false) (u_val (v_op2 hd v_lit (eqS (by decide) (by decide +kernel) (by decide +kernel)))) ifF))
  | ease => exact u_or (k := false) (u_val (v_op2 hd v_lit (eqS (by decide) (by decide +kernel) (by decide +kernel)))) (ifF.trans (u_and (k := true) (u_val (v_op2 hd v_lit (eqS (by decide) (by decide +kernel) (by decide +kernel)))) (ifT.trans (u_val (v_op2 (v_var h6) nl nnil_lf)))))
  | curve x y => exact u_or (k := true) (u_val (v_op2 hd v_lit (eqS (by decide) (by decide +kernel) (by decide +kernel)))) ifT
/-- the greatest number of a point shown at most at a time: slot i -/
theorem max_ok {env : EnvD} {x : Rat} {j : Nat} (hp : PsOk ps) (hx : Sz 20 x) (h1 : env[1]? = some (.d (clD ps r)))
    (hw : ∀ d p, ∃ e, tgF (.tup (.cons (.name 21) (.cons (.name 22) .nil))) (.tuple [d, ptD p]) (wipeD env [21, 22]) = some e ∧ e[21]? = some (.d d) ∧ e[22]? = some (.d (ptD p)) ∧ e[j]? = some (.d (fr x))) :
    evE (sem (n + 7)) lwK (.blt .max1 (.lcf (.var 21) (.tup (.cons (.name 21) (.cons (.name 22) .nil))) (.enumT (.op2 .ix (.var 1) (.lit (.int 0)))) (.or (.val (.op2 .eq (.var 21) (.lit (.int 0)))) (.val (.op2 .le (.call 56 (.cons (.op2 .ix (.var 22) (.lit (.int 1))) (.cons (.var j) .nil))) (.lit (.int 0))))) [21, 22])) env g = .ok (.int (pcA true ps x : Nat)) g := by
  have ln : (enumF (ps.map ptD)).length ≤ 1000000 := by
    have := hp.len
    unfold enumF
    simp
    omega
  refine v_blt (v_lcf (g2 := g) (i_enumT (v_op2 (v_var h1) v_lit rfl)) ⟨ln, by decide⟩ (mf_max (w := true) (x := x) hp fun i p hm => ?_)) max_range
  obtain ⟨e, he, e21, e22, ej⟩ := hw (.int (i : Nat)) p
  rw [he]
  refine (lcf_one (k := decide (i = 0 ∨ sel true p ≤ x)) (y := nD i) (or_test (u_val (v_op2 (v_var e21) v_lit is0)) fun _ => u_val (v_op2 (v_call (v_cons (v_op2 (v_var e22) v_lit (ix_sel (w := true))) (v_cons (v_var ej) v_nil)) (lcomp_ok (n := n + 6) (hp.szs hm) hx (by decide))) v_lit le_cmp)) (v_var e21)).trans ?_
  rw [ifD]
/-- the law's slots -/
def EL (T C K F S s5 s6 s7 s8 s9 s10 s11 s12 s13 s14 s15 s16 s17 s18 : Sl) : EnvD := [T, C, K, F, S, s5, s6, s7, s8, s9, s10, s11, s12, s13, s14, s15, s16, s17, s18, .no, .no, .no, .no, .no]
def lbody : Ss := bOfF (bOfF ir73)
theorem lkey_ok (hp : PsOk ps) (hr : Sz 20 r) (r0 : 0 < r) {A B : Ky} {T K s5 s8 s15 s16 s17 s18 s11 : Sl} {acc : List Ky} {a b : Rat} (hA : acc.length < 1000) (ha : A.ok) (hb : B.ok) (sa : Sz 20 a) (sb : Sz 20 b) (hP : A.c ≠ .hold → PolyOk (segP A.t A.v A.c B.t B.v)) (hv : a = A.t ∨ A.c ≠ .hold) :
    ∃ t11 t18, evSs (sem (n + 7)) lwK lbody (EL T (.d (clD ps r)) K (.own (acc.map kyD)) (.d (lf (slP ps ++ [r]))) s5 (.d (lf (mkA ps A B))) (.d (pf (segP A.t A.v A.c B.t B.v))) s8 (.d (fr a)) (.d (fr b)) s11 (.d (fr A.t)) (.d (fr A.v)) (.d (cvD A.c)) s15 s16 s17 s18) g
      = .ok (.nx (EL T (.d (clD ps r)) K (.own ((acc ++ [keyA ps r A B a b]).map kyD)) (.d (lf (slP ps ++ [r]))) s5 (.d (lf (mkA ps A B))) (.d (pf (segP A.t A.v A.c B.t B.v))) s8 (.d (fr a)) (.d (fr b)) t11 (.d (fr A.t)) (.d (fr A.v)) (.d (cvD A.c)) s15 s16 s17 t18)) g := by
  have hk := pcA_lt (w := true) (f := a) hp
  have ss := (slA_fact hp hr r0 hk).1
  have tm := lshows_ok (n := n) (g := g) hp hr r0 sa
  -- the end of the step
  have fin : ∀ (c : Cv) (t18 : Sl), c = curA ps r A.c (segP A.t A.v A.c B.t B.v) (mkA ps A B) a b →
      evSs (sem (n + 7)) lwK (match lbody with | .cons _ (.cons _ r) => r | _ => .nil) (EL T (.d (clD ps r)) K (.own (acc.map kyD)) (.d (lf (slP ps ++ [r]))) s5 (.d (lf (mkA ps A B))) (.d (pf (segP A.t A.v A.c B.t B.v))) s8 (.d (fr a)) (.d (fr b)) (.d (cvD c)) (.d (fr A.t)) (.d (fr A.v)) (.d (cvD A.c)) s15 s16 s17 t18) g
      = .ok (.nx (EL T (.d (clD ps r)) K (.own ((acc ++ [keyA ps r A B a b]).map kyD)) (.d (lf (slP ps ++ [r]))) s5 (.d (lf (mkA ps A B))) (.d (pf (segP A.t A.v A.c B.t B.v))) s8 (.d (fr a)) (.d (fr b)) (.d (cvD c)) (.d (fr A.t)) (.d (fr A.v)) (.d (cvD A.c)) s15 s16 s17 t18)) g := by
    intro c t18 hc
    have val : ∀ {F : Sl}, evE (sem (n + 7)) lwK (.ite (.val (.op2 .eq (.var 9) (.var 12))) (.var 13) (.call 62 (.cons (.var 7) (.cons (.var 9) .nil)))) (EL T (.d (clD ps r)) K F (.d (lf (slP ps ++ [r]))) s5 (.d (lf (mkA ps A B))) (.d (pf (segP A.t A.v A.c B.t B.v))) s8 (.d (fr a)) (.d (fr b)) (.d (cvD c)) (.d (fr A.t)) (.d (fr A.v)) (.d (cvD A.c)) s15 s16 s17 t18) g = .ok (fr (keyA ps r A B a b).v) g := by
      intro F
      show _ = Out.ok (fr (if a = A.t then A.v else evP a (segP A.t A.v A.c B.t B.v))) g
      by_cases z : a = A.t
      · rw [if_pos z]
        exact v_ite (k := true) (u_val (v_op2 (v_var rfl) (v_var rfl) (eq_fr.trans (by rw [decide_eq_true z])))) (ifT.trans (v_var rfl))
      · rw [if_neg z]
        have P := hP (hv.resolve_left z)
        exact v_ite (k := false) (u_val (v_op2 (v_var rfl) (v_var rfl) (eq_fr.trans (by rw [decide_eq_false z])))) (ifF.trans (v_call (v_cons (v_var rfl) (v_cons (v_var rfl) v_nil)) (lvalue_ok (n := n + 3) sa P.co (P.ev a sa) (by decide))))
    have e : (acc.map kyD) ++ [.tuple [fr (tmA ps r a), fr (keyA ps r A B a b).v, cvD c]] = (acc ++ [keyA ps r A B a b]).map kyD := by
      rw [List.map_append, hc]
      rfl
    rw [← e]
    exact w_nx (w_app rfl (by rw [List.length_map]; omega) (v_tup (v_cons (v_call (v_cons (v_var rfl) (v_cons (v_var rfl) (v_cons v_lit v_nil))) tm) (v_cons val (v_cons (v_var rfl) v_nil))) (by show 3 ≤ 1000; decide))) w_nil
  have cnd := cond_ok (Fn := sem (n + 7)) (g := g) (c := A.c) (mk := mkA ps A B) (env := EL T (.d (clD ps r)) K (.own (acc.map kyD)) (.d (lf (slP ps ++ [r]))) s5 (.d (lf (mkA ps A B))) (.d (pf (segP A.t A.v A.c B.t B.v))) s8 (.d (fr a)) (.d (fr b)) (.d (cvD A.c)) (.d (fr A.t)) (.d (fr A.v)) (.d (cvD A.c)) s15 s16 s17 s18) rfl rfl
  by_cases q : crvQ A.c (mkA ps A B) = true
  · rw [q] at cnd
    have nh : A.c ≠ .hold := fun h => by rw [h] at q; cases q
    have P := hP nh
    have ec : crvA ps r (segP A.t A.v A.c B.t B.v) a b = curA ps r A.c (segP A.t A.v A.c B.t B.v) (mkA ps A B) a b := by rw [curA_if, if_pos q]
    have mx := max_ok (n := n) (g := g) (r := r) (j := 9) (env := EL T (.d (clD ps r)) K (.own (acc.map kyD)) (.d (lf (slP ps ++ [r]))) s5 (.d (lf (mkA ps A B))) (.d (pf (segP A.t A.v A.c B.t B.v))) s8 (.d (fr a)) (.d (fr b)) (.d (cvD A.c)) (.d (fr A.t)) (.d (fr A.v)) (.d (cvD A.c)) s15 s16 s17 s18) hp sa rfl fun d p => ⟨_, rfl, rfl, rfl, rfl⟩
    have gr := lgrowth_ok (n := n + 3) (g := g) P.co (Nat.le_trans P.len (by decide)) (by decide) (by decide)
    have l3 := P.len
    have row : ∀ {f : Rat} (hf : Sz 20 f) {env : EnvD}, env[7]? = some (.d (pf (segP A.t A.v A.c B.t B.v))) → env[23]? = some (.d (fr f)) → env[4]? = some (.d (lf (slP ps ++ [r]))) → env[18]? = some (.d (.int (pcA true ps a : Nat))) →
        evE (sem (n + 7)) lwK (.call 53 (.cons (.call 62 (.cons (.call 63 (.cons (.var 7) .nil)) (.cons (.var 23) .nil))) (.cons (.op2 .ix (.var 4) (.var 18)) .nil))) env g = .ok (fr (evP f (grP (segP A.t A.v A.c B.t B.v)) * slA ps r (pcA true ps a))) g := fun {f} hf {env} h7 h23 h4 h18 =>
      v_call (v_cons (v_call (v_cons (v_call (v_cons (v_var h7) v_nil) gr) (v_cons (v_var h23) v_nil)) (lvalue_ok (n := n + 3) hf P.gco (P.gev f hf) (by decide))) (v_cons (v_op2 (v_var h4) (v_var h18) (ix_sl hp hk)) v_nil)) (ltimes_ok (n := n + 4) (P.gval f hf) ss (by decide))
    refine ⟨.d (cvD (crvA ps r (segP A.t A.v A.c B.t B.v) a b)), .d (.int (pcA true ps a : Nat)), ?_⟩
    refine w_nx (w_set (v_var rfl)) ?_
    refine w_nx (w_ife (k := true) cnd (ifT.trans (w_nx (w_set mx) (w_nx (w_set (v_op2 (z := cvD (crvA ps r (segP A.t A.v A.c B.t B.v) a b)) (v_tup (v_cons v_lit v_nil) (by show 1 ≤ 1000; decide)) (v_blt (v_lc (g2 := g) (i_tup (v_tup (v_cons (v_var rfl) (v_cons (v_var rfl) v_nil)) (by show 2 ≤ 1000; decide))) ⟨by show 2 ≤ 1000000; decide, by decide⟩ (mm_cons (row sa rfl rfl rfl rfl) (mm_cons (row sb rfl rfl rfl rfl) mm_nil))) rfl) rfl)) w_nil)))) ?_
    exact fin _ (.d (.int (pcA true ps a : Nat))) ec
  · have q' : crvQ A.c (mkA ps A B) = false := by simpa using q
    rw [q'] at cnd
    have ec : A.c = curA ps r A.c (segP A.t A.v A.c B.t B.v) (mkA ps A B) a b := by rw [curA_if, if_neg q]
    refine ⟨.d (cvD A.c), s18, ?_⟩
    refine w_nx (w_set (v_var rfl)) ?_
    refine w_nx (w_ife (k := false) cnd (ifF.trans w_nil)) ?_
    exact fin _ s18 ec
end
end G

/-! The law's own track: a stretch. -/
namespace G
open PySem PySem.Spec PyProof.Rows L2 Fq
section
variable {n : Nat} {g : List PD} {ps : List Pt} {r : Rat}
theorem lkeys_loop (hp : PsOk ps) (hr : Sz 20 r) (r0 : 0 < r) {A B : Ky} {T K s5 s8 s15 s16 s17 : Sl} (ha : A.ok) (hb : B.ok) (hP : A.c ≠ .hold → PolyOk (segP A.t A.v A.c B.t B.v)) :
    ∀ (l : List Rat) (acc : List Ky) (s9 s10 s11 s18 : Sl), acc.length + l.length ≤ 1000 → (∀ x ∈ l, Sz 20 x) → (∀ i a b, l[i]? = some a → l[i + 1]? = some b → a = A.t ∨ A.c ≠ .hold) →
    ∃ t9 t10 t11 t18, evFr (tgOfF (bOfF ir73)) (fun e => evSs (sem (n + 7)) lwK lbody e) (zipF (l.map fr) ((l.map fr).drop 1)) (EL T (.d (clD ps r)) K (.own (acc.map kyD)) (.d (lf (slP ps ++ [r]))) s5 (.d (lf (mkA ps A B))) (.d (pf (segP A.t A.v A.c B.t B.v))) s8 s9 s10 s11 (.d (fr A.t)) (.d (fr A.v)) (.d (cvD A.c)) s15 s16 s17 s18) g
      = .ok (.nx (EL T (.d (clD ps r)) K (.own ((acc ++ pairsW (keyA ps r A B) l).map kyD)) (.d (lf (slP ps ++ [r]))) s5 (.d (lf (mkA ps A B))) (.d (pf (segP A.t A.v A.c B.t B.v))) s8 t9 t10 t11 (.d (fr A.t)) (.d (fr A.v)) (.d (cvD A.c)) s15 s16 s17 t18)) g
  | [], acc, s9, s10, s11, s18, _, _, _ => ⟨s9, s10, s11, s18, by rw [show pairsW (keyA ps r A B) [] = [] from rfl, List.append_nil]; exact fr_nil⟩
  | [a], acc, s9, s10, s11, s18, _, _, _ => ⟨s9, s10, s11, s18, by rw [show pairsW (keyA ps r A B) [a] = [] from rfl, List.append_nil]; exact fr_nil⟩
  | a :: b :: s, acc, s9, s10, s11, s18, hl, hs, hv => by
    obtain ⟨u11, u18, st⟩ := lkey_ok (n := n) (g := g) (T := T) (K := K) (s5 := s5) (s8 := s8) (s15 := s15) (s16 := s16) (s17 := s17) (s18 := s18) (s11 := s11) (acc := acc) hp hr r0 (by simp at hl; omega) ha hb (hs a List.mem_cons_self) (hs b (List.mem_cons_of_mem _ List.mem_cons_self)) hP (hv 0 a b rfl rfl)
    obtain ⟨t9, t10, t11, t18, ih⟩ := lkeys_loop hp hr r0 ha hb hP (b :: s) (acc ++ [keyA ps r A B a b]) (.d (fr a)) (.d (fr b)) u11 u18 (by simp at hl ⊢; omega) (fun x hx => hs x (List.mem_cons_of_mem _ hx)) (fun i x y hx hy => hv (i + 1) x y (by simpa using hx) (by simpa using hy))
    refine ⟨t9, t10, t11, t18, ?_⟩
    have e : acc ++ pairsW (keyA ps r A B) (a :: b :: s) = acc ++ [keyA ps r A B a b] ++ pairsW (keyA ps r A B) (b :: s) := by
      show acc ++ (keyA ps r A B a b :: pairsW (keyA ps r A B) (b :: s)) = _
      rw [List.append_assoc]
      rfl
    rw [e]
    exact fr_cons (d := .tuple [fr a, fr b]) (env1 := EL T (.d (clD ps r)) K (.own (acc.map kyD)) (.d (lf (slP ps ++ [r]))) s5 (.d (lf (mkA ps A B))) (.d (pf (segP A.t A.v A.c B.t B.v))) s8 (.d (fr a)) (.d (fr b)) s11 (.d (fr A.t)) (.d (fr A.v)) (.d (cvD A.c)) s15 s16 s17 s18) rfl st ih
theorem neS {a b : Str} {k : Bool} (h : (a == b) = k) (h1 : shp (.str a) = true) (h2 : shp (.str b) = true) : opF .ne (.str a) (.str b) = some (.bool (!k)) := by
  show (if shp (.str a) = true ∧ shp (.str b) = true then some (PyData.bool (!PyData.eqv (.str a) (.str b))) else none) = _
  rw [if_pos ⟨h1, h2⟩, ← h]
  rfl
def isHold : Cv → Bool
  | .hold => true
  | _ => false
theorem ne_hold {c : Cv} : opF .ne (hdC c) sHold = some (.bool (!isHold c)) := by
  cases c with
  | hold => exact neS (k := true) (by decide) (by decide +kernel) (by decide +kernel)
  | line => exact neS (k := false) (by decide) (by decide +kernel) (by decide +kernel)
  | ease => exact neS (k := false) (by decide) (by decide +kernel) (by decide +kernel)
  | curve x y => exact neS (k := false) (by decide) (by decide +kernel) (by decide +kernel)
theorem mkA_filter {A B : Ky} : ((ps.drop 1).filterMap fun p => if (!isHold A.c && (decide (A.t < p.2) && decide (p.2 < B.t))) = true then some (fr p.2) else none) = (mkA ps A B).map fr := by
  unfold mkA
  have nz : ∀ l : List Pt, (l.filterMap fun p => if (true && (decide (A.t < p.2) && decide (p.2 < B.t))) = true then some (fr p.2) else none) = ((l.map (·.2)).filter fun x => decide (A.t < x) && decide (x < B.t)).map fr := by
    intro l
    rw [← filt_map, List.filterMap_map]
    rfl
  cases e : A.c with
  | hold =>
    have : ∀ l : List Pt, (l.filterMap fun p => if (!isHold Cv.hold && (decide (A.t < p.2) && decide (p.2 < B.t))) = true then some (fr p.2) else none) = [] := by
      intro l
      induction l with
      | nil => rfl
      | cons p l ih => rw [List.filterMap_cons]; exact ih
    exact this _
  | line => exact nz _
  | ease => exact nz _
  | curve x y => exact nz _
theorem lmarks_ok (hp : PsOk ps) {A B : Ky} (ha : A.ok) (hb : B.ok) {env : EnvD} (h1 : env[1]? = some (.d (clD ps r)))
    (hw : ∀ p, ∃ e, tgF (.tup (.cons (.name 19) (.cons (.name 20) .nil))) (ptD p) (wipeD env [19, 20]) = some e ∧ e[20]? = some (.d (fr p.2)) ∧ e[12]? = some (.d (fr A.t)) ∧ e[15]? = some (.d (fr B.t)) ∧ e[14]? = some (.d (cvD A.c))) :
    evE (sem (n + 7)) lwK (.lcfN (.var 20) (.tup (.cons (.name 19) (.cons (.name 20) .nil))) (.tup (.sl (.op2 .ix (.var 1) (.lit (.int 0))) (.cons (.lit (.int 1)) .nil) .nil)) (.and (.val (.op2 .ne (.op2 .ix (.var 14) (.lit (.int 0))) (.lit sHold))) (.and (.val (.op2 .lt (.call 56 (.cons (.var 12) (.cons (.var 20) .nil))) (.lit (.int 0)))) (.val (.op2 .lt (.call 56 (.cons (.var 20) (.cons (.var 15) .nil))) (.lit (.int 0)))))) [19, 20]) env g = .ok (lf (mkA ps A B)) g := by
  have hl := hp.len
  refine v_lcfN (g2 := g) (i_tup (v_sl (v_op2 (v_var h1) v_lit rfl) (v_os v_lit) v_on sl_1)) ⟨by rw [List.length_drop, List.length_map]; omega, by decide⟩ ?_
  rw [← mkA_filter, ← List.map_drop]
  refine mf_list _ fun p hm => ?_
  obtain ⟨e, he, e20, e12, e15, e14⟩ := hw p
  rw [he]
  have sp := hp.sz2 p (List.mem_of_mem_drop hm)
  exact noX_is (lcf_one (u_and2 (u_val (v_op2 (hd_at e14) v_lit ne_hold)) (u_and2 (u_val (v_op2 (v_call (v_cons (v_var e12) (v_cons (v_var e20) v_nil)) (lcomp_ok (n := n + 6) ha.t sp (by decide))) v_lit lt_cmp)) (u_val (v_op2 (v_call (v_cons (v_var e20) (v_cons (v_var e15) v_nil)) (lcomp_ok (n := n + 6) sp hb.t (by decide))) v_lit lt_cmp)))) (v_var e20))
theorem lstretch_ok (hp : PsOk ps) (hr : Sz 20 r) (r0 : 0 < r) {ks : List Ky} {m : PD} (ht : TrOk ks) {k : Nat} {A B : Ky} (ea : ks[k]? = some A) (eb : ks[k + 1]? = some B) {acc : List Ky} (hA : acc.length ≤ 900) {s6 s7 s8 s9 s10 s11 s12 s13 s14 s15 s16 s17 s18 : Sl} :
    ∃ t6 t7 t8 t9 t10 t11 t12 t13 t14 t15 t16 t17 t18, evSs (sem (n + 7)) lwK (bOfF ir73) (EL (.d (trD ks m)) (.d (clD ps r)) (.d (.tuple (ks.map kyD))) (.own (acc.map kyD)) (.d (lf (slP ps ++ [r]))) (.d (.int (k : Nat))) s6 s7 s8 s9 s10 s11 s12 s13 s14 s15 s16 s17 s18) g
      = .ok (.nx (EL (.d (trD ks m)) (.d (clD ps r)) (.d (.tuple (ks.map kyD))) (.own ((acc ++ keysA ps r A B).map kyD)) (.d (lf (slP ps ++ [r]))) (.d (.int (k : Nat))) t6 t7 t8 t9 t10 t11 t12 t13 t14 t15 t16 t17 t18)) g := by
  have ha := ht.at ea
  have hb := ht.at eb
  have lt := ht.lt ea eb (Nat.lt_succ_self k)
  have hP : A.c ≠ .hold → PolyOk (segP A.t A.v A.c B.t B.v) := poly_ok ha hb
  have ad : opF .add (.int (k : Nat)) (.int 1) = some (.int ((k + 1 : Nat) : Int)) := rfl
  have seg := lsegment_ok (n := n) (g := g) (m := m) ht ea eb
  have seg' : sem (n + 7) 65 [trD ks m, .int (k : Nat)] g = .ok (pf (segP A.t A.v A.c B.t B.v)) g := seg
  have ml := mkA_len hp (A := A) (B := B)
  have add1 : opF .add (.list [fr A.t]) (lf (mkA ps A B)) = some (.list (fr A.t :: (mkA ps A B).map fr)) := add_LL (by rw [List.length_map]; show 1 + _ ≤ _; omega)
  have add2 : opF .add (.list (fr A.t :: (mkA ps A B).map fr)) (.list [fr B.t]) = some (lf (endsA ps A B)) := by
    rw [add_LL (by rw [List.length_cons, List.length_map]; show _ + 1 + 1 ≤ _; omega)]
    unfold endsA lf
    rw [List.map_append, List.map_append]
    rfl
  obtain ⟨t9, t10, t11, t18, lp⟩ := lkeys_loop (n := n) (g := g) (T := .d (trD ks m)) (K := .d (.tuple (ks.map kyD))) (s5 := .d (.int (k : Nat))) (s8 := .d (lf (endsA ps A B))) (s15 := .d (fr B.t)) (s16 := .d (fr B.v)) (s17 := .d (cvD B.c)) hp hr r0 ha hb hP (endsA ps A B) acc s9 s10 s11 s18 (by have := ends_len hp (A := A) (B := B); omega) (fun x hx => ends_mem hp ha hb lt hx) fun i a b e f => (low_mark e f).imp id fun h => (mkA_mem hp h).2.2.2
  refine ⟨.d (lf (mkA ps A B)), .d (pf (segP A.t A.v A.c B.t B.v)), .d (lf (endsA ps A B)), t9, t10, t11, .d (fr A.t), .d (fr A.v), .d (cvD A.c), .d (fr B.t), .d (fr B.v), .d (cvD B.c), t18, ?_⟩
  refine w_nx (w_asg (v_tup (v_cons (v_op2 (v_var rfl) (v_var rfl) (atK ea)) (v_cons (v_op2 (v_var rfl) (v_op2 (v_var rfl) v_lit ad) (atK eb)) v_nil)) (by show 2 ≤ 1000; decide)) rfl) ?_
  show evSs (sem (n + 7)) lwK _ (EL (.d (trD ks m)) (.d (clD ps r)) (.d (.tuple (ks.map kyD))) (.own (acc.map kyD)) (.d (lf (slP ps ++ [r]))) (.d (.int (k : Nat))) s6 s7 s8 s9 s10 s11 (.d (fr A.t)) (.d (fr A.v)) (.d (cvD A.c)) (.d (fr B.t)) (.d (fr B.v)) (.d (cvD B.c)) s18) g = _
  refine w_nx (w_set (lmarks_ok (n := n) (r := r) hp ha hb rfl fun p => ⟨_, rfl, rfl, rfl, rfl, rfl⟩)) ?_
  show evSs (sem (n + 7)) lwK _ (EL (.d (trD ks m)) (.d (clD ps r)) (.d (.tuple (ks.map kyD))) (.own (acc.map kyD)) (.d (lf (slP ps ++ [r]))) (.d (.int (k : Nat))) (.d (lf (mkA ps A B))) s7 s8 s9 s10 s11 (.d (fr A.t)) (.d (fr A.v)) (.d (cvD A.c)) (.d (fr B.t)) (.d (fr B.v)) (.d (cvD B.c)) s18) g = _
  refine w_nx (w_asg (v_tup (v_cons (v_call (v_cons (v_var rfl) (v_cons (v_var rfl) v_nil)) seg') (v_cons (v_op2 (v_op2 (v_lst (v_cons (v_var rfl) v_nil) (by show 1 ≤ 1000; decide)) (v_var rfl) add1) (v_lst (v_cons (v_var rfl) v_nil) (by show 1 ≤ 1000; decide)) add2) v_nil)) (by show 2 ≤ 1000; decide)) rfl) ?_
  show evSs (sem (n + 7)) lwK _ (EL (.d (trD ks m)) (.d (clD ps r)) (.d (.tuple (ks.map kyD))) (.own (acc.map kyD)) (.d (lf (slP ps ++ [r]))) (.d (.int (k : Nat))) (.d (lf (mkA ps A B))) (.d (pf (segP A.t A.v A.c B.t B.v))) (.d (lf (endsA ps A B))) s9 s10 s11 (.d (fr A.t)) (.d (fr A.v)) (.d (cvD A.c)) (.d (fr B.t)) (.d (fr B.v)) (.d (cvD B.c)) s18) g = _
  exact w_nx (w_fr (i_zipL (v_var rfl) (v_sl (v_var rfl) (v_os v_lit) v_on sl_1L)) lp) w_nil
end
end G

/-! The law's own track. -/
namespace G
open PySem PySem.Spec PyProof.Rows L2 Fq
section
variable {n : Nat} {g : List PD} {ps : List Pt} {r : Rat}
def ESt (T C K F S : Sl) (e : EnvD) : Prop := ∃ s5 s6 s7 s8 s9 s10 s11 s12 s13 s14 s15 s16 s17 s18, e = EL T C K F S s5 s6 s7 s8 s9 s10 s11 s12 s13 s14 s15 s16 s17 s18
theorem lstretches (hp : PsOk ps) (hr : Sz 20 r) (r0 : 0 < r) {ks : List Ky} {m : PD} (ht : TrOk ks) (hk : ks.length ≤ 20) {env : EnvD} (h0 : ESt (.d (trD ks m)) (.d (clD ps r)) (.d (.tuple (ks.map kyD))) (.own []) (.d (lf (slP ps ++ [r]))) env) :
    ∃ env', evFr (.name 5) (fun e => evSs (sem (n + 7)) lwK (bOfF ir73) e) ((List.range (ks.length - 1)).map fun k => .int (k : Nat)) env g = .ok (.nx env') g ∧ ESt (.d (trD ks m)) (.d (clD ps r)) (.d (.tuple (ks.map kyD))) (.own ((preA ps r ks (ks.length - 1)).map kyD)) (.d (lf (slP ps ++ [r]))) env' := by
  refine fr_range (g := g) (tg := .name 5) (body := fun e => evSs (sem (n + 7)) lwK (bOfF ir73) e) (S := fun j e => ESt (.d (trD ks m)) (.d (clD ps r)) (.d (.tuple (ks.map kyD))) (.own ((preA ps r ks j).map kyD)) (.d (lf (slP ps ++ [r]))) e) (m := ks.length - 1) (fun j env hj hS => ?_) h0
  obtain ⟨s5, s6, s7, s8, s9, s10, s11, s12, s13, s14, s15, s16, s17, s18, rfl⟩ := hS
  have pl := preA_len hp (r := r) (ks := ks) j
  obtain ⟨t6, t7, t8, t9, t10, t11, t12, t13, t14, t15, t16, t17, t18, st⟩ := lstretch_ok (n := n) (g := g) (m := m) hp hr r0 ht (kA_at (ks := ks) (k := j) (by omega)) (kA_at (ks := ks) (k := j + 1) (by omega)) (acc := preA ps r ks j) (by omega) (s6 := s6) (s7 := s7) (s8 := s8) (s9 := s9) (s10 := s10) (s11 := s11) (s12 := s12) (s13 := s13) (s14 := s14) (s15 := s15) (s16 := s16) (s17 := s17) (s18 := s18)
  rw [← preA_succ] at st
  exact ⟨_, _, rfl, st, _, _, _, _, _, _, _, _, _, _, _, _, _, _, rfl⟩
def isCrv : Cv → Bool
  | .curve _ _ => true
  | _ => false
theorem eq_crv {c : Cv} : opF .eq (hdC c) sCurve = some (.bool (isCrv c)) := by
  cases c with
  | hold => exact eqS (k := false) (by decide) (by decide +kernel) (by decide +kernel)
  | line => exact eqS (k := false) (by decide) (by decide +kernel) (by decide +kernel)
  | ease => exact eqS (k := false) (by decide) (by decide +kernel) (by decide +kernel)
  | curve x y => exact eqS (k := true) (by decide) (by decide +kernel) (by decide +kernel)
theorem lown_ok (hp0 : PsOk ps) (hr : Sz 20 r) (r0 : 0 < r) {ks : List Ky} {m : PD} (ht : TrOk ks) (hk : ks.length ≤ 20) (h0 : ks ≠ []) : sem (n + 8) 73 [trD ks m, clD ps r] g = .ok (trD (trackA (lsP ps r) r ks) m) g := by
  have hp := lsP_ok (r := r) hp0
  have e71 := lleast_ok (n := n + 1) (g := g) (r := r) hp0
  generalize lsP ps r = qs at *
  have h0' : 0 < ks.length := List.length_pos_iff.mpr h0
  have ln : bltF .len (.tuple (ks.map kyD)) = some (.int (ks.length : Nat)) := by
    show some (PyData.int ((ks.map kyD).length : Nat)) = _
    rw [List.length_map]
  have hrange : (((ks.length : Nat) : Int) - 1).toNat = ks.length - 1 := by omega
  have pl := preA_len hp (r := r) (ks := ks) (ks.length - 1)
  have haL := ht.at (kA_at (ks := ks) (k := ks.length - 1) (by omega))
  have lx := lastix h0
  obtain ⟨env', lp, hS⟩ := lstretches (n := n) (g := g) (m := m) hp hr r0 ht hk (env := EL (.d (trD ks m)) (.d (clD qs r)) (.d (.tuple (ks.map kyD))) (.own []) (.d (lf (slP qs ++ [r]))) .no .no .no .no .no .no .no .no .no .no .no .no .no .no) ⟨_, _, _, _, _, _, _, _, _, _, _, _, _, _, rfl⟩
  obtain ⟨s5, s6, s7, s8, s9, s10, s11, s12, s13, s14, s15, s16, s17, s18, rfl⟩ := hS
  have fin : ((preA qs r ks (ks.length - 1)).map kyD) ++ [kyD (lastA qs r (kA ks (ks.length - 1)))] = (trackA qs r ks).map kyD := by unfold trackA; rw [List.map_append]; rfl
  generalize kA ks (ks.length - 1) = A at *
  have hk2 := pcA_lt (w := true) (f := A.t) hp
  have ss := (slA_fact hp hr r0 hk2).1
  have tm := lshows_ok (n := n) (g := g) hp hr r0 haL.t
  rw [sem_def rfl rfl (by decide)]
  refine w_F (w_nx (w_set (v_call (v_cons (v_var rfl) v_nil) e71)) ?_)
  refine w_nx (w_par (v_op2 (v_var rfl) v_lit rfl) rfl (v_lst v_nil (by show 0 ≤ 1000; decide)) rfl ⟨by show 2 < 24; decide, by show 3 < 24; decide, by decide⟩) ?_
  refine w_nx (w_set (v_call (v_cons (v_var rfl) v_nil) (lslopes_ok (n := n + 2) hp))) ?_
  show evSs (sem (n + 7)) lwK _ (EL (.d (trD ks m)) (.d (clD qs r)) (.d (.tuple (ks.map kyD))) (.own []) (.d (lf (slP qs ++ [r]))) .no .no .no .no .no .no .no .no .no .no .no .no .no .no) g = _
  refine w_nx (w_fr (i_range (v_op2 (v_blt (v_var rfl) ln) v_lit rfl) ⟨by omega, by omega⟩) ((congrArg (fun l => evFr (.name 5) (fun e => evSs (sem (n + 7)) lwK (bOfF ir73) e) ((List.range l).map fun k => PyData.int (k : Nat)) _ g) hrange).trans lp)) ?_
  refine w_nx (w_asg (v_op2 (v_var rfl) (v_neg v_lit) lx) rfl) ?_
  show evSs (sem (n + 7)) lwK _ (EL (.d (trD ks m)) (.d (clD qs r)) (.d (.tuple (ks.map kyD))) (.own ((preA qs r ks (ks.length - 1)).map kyD)) (.d (lf (slP qs ++ [r]))) s5 s6 s7 s8 s9 s10 s11 (.d (fr A.t)) (.d (fr A.v)) (.d (cvD A.c)) s15 s16 s17 s18) g = _
  have last : ∀ (c : Cv) (t18 : Sl), c = (lastA qs r A).c → evSs (sem (n + 7)) lwK (.frz 3 (.cons (.ret (.tup (.cons (.blt .tup (.op2 .add (.var 3) (.lst (.cons (.tup (.cons (.call 70 (.cons (.var 1) (.cons (.var 12) (.cons (.lit (.int 1)) .nil)))) (.cons (.var 13) (.cons (.var 14) .nil)))) .nil)))) (.cons (.op2 .ix (.var 0) (.lit (.int 1))) .nil)))) .nil)) (EL (.d (trD ks m)) (.d (clD qs r)) (.d (.tuple (ks.map kyD))) (.own ((preA qs r ks (ks.length - 1)).map kyD)) (.d (lf (slP qs ++ [r]))) s5 s6 s7 s8 s9 s10 s11 (.d (fr A.t)) (.d (fr A.v)) (.d (cvD c)) s15 s16 s17 t18) g = .ok (.rt (trD (trackA qs r ks) m)) g := by
    intro c t18 hc
    have add : opF .add (.list ((preA qs r ks (ks.length - 1)).map kyD)) (.list [.tuple [fr (tmA qs r A.t), fr A.v, cvD c]]) = some (.list ((trackA qs r ks).map kyD)) := by
      rw [add_LL (by rw [List.length_map]; show _ + 1 ≤ _; omega), ← fin, hc]
      rfl
    exact w_frz rfl (w_rt (w_ret (v_tup (v_cons (v_blt (v_op2 (v_var rfl) (v_lst (v_cons (v_tup (v_cons (v_call (v_cons (v_var rfl) (v_cons (v_var rfl) (v_cons v_lit v_nil))) tm) (v_cons (v_var rfl) (v_cons (v_var rfl) v_nil))) (by show 3 ≤ 1000; decide)) v_nil) (by show 1 ≤ 1000; decide)) add) rfl) (v_cons (v_op2 (v_var rfl) v_lit rfl) v_nil)) (by show 2 ≤ 1000; decide))))
  have cnd : evT (sem (n + 7)) lwK (.val (.op2 .eq (.op2 .ix (.var 14) (.lit (.int 0))) (.lit sCurve))) (EL (.d (trD ks m)) (.d (clD qs r)) (.d (.tuple (ks.map kyD))) (.own ((preA qs r ks (ks.length - 1)).map kyD)) (.d (lf (slP qs ++ [r]))) s5 s6 s7 s8 s9 s10 s11 (.d (fr A.t)) (.d (fr A.v)) (.d (cvD A.c)) s15 s16 s17 s18) g = .ok (isCrv A.c) g := u_val (v_op2 (hd_at (c := A.c) rfl) v_lit eq_crv)
  have mx := max_ok (n := n) (g := g) (r := r) (j := 12) (env := (EL (.d (trD ks m)) (.d (clD qs r)) (.d (.tuple (ks.map kyD))) (.own ((preA qs r ks (ks.length - 1)).map kyD)) (.d (lf (slP qs ++ [r]))) s5 s6 s7 s8 s9 s10 s11 (.d (fr A.t)) (.d (fr A.v)) (.d (cvD A.c)) s15 s16 s17 s18)) hp haL.t rfl fun d p => ⟨_, rfl, rfl, rfl, rfl⟩
  by_cases q : isCrv A.c = true
  · rw [q] at cnd
    obtain ⟨t, v, c⟩ := A
    cases c with
    | hold => cases q
    | line => cases q
    | ease => cases q
    | curve x y =>
      have hx : Sz 20 x := haL.c.1
      have hy : Sz 20 y := haL.c.2
      refine w_nx (w_ife (k := true) cnd (ifT.trans (w_nx (w_set mx) (w_nx (w_set (v_tup (v_cons v_lit (v_cons (v_call (v_cons (v_op2 (v_var rfl) v_lit rfl) (v_cons (v_op2 (v_var rfl) (v_var rfl) (ix_sl hp hk2)) v_nil)) (ltimes_ok (n := n + 4) hx ss (by decide))) (v_cons (v_call (v_cons (v_op2 (v_var rfl) v_lit rfl) (v_cons (v_op2 (v_var rfl) (v_var rfl) (ix_sl hp hk2)) v_nil)) (ltimes_ok (n := n + 4) hy ss (by decide))) v_nil))) (by show 3 ≤ 1000; decide))) w_nil)))) ?_
      show evSs (sem (n + 7)) lwK _ (EL (.d (trD ks m)) (.d (clD qs r)) (.d (.tuple (ks.map kyD))) (.own ((preA qs r ks (ks.length - 1)).map kyD)) (.d (lf (slP qs ++ [r]))) s5 s6 s7 s8 s9 s10 s11 (.d (fr t)) (.d (fr v)) (.d (cvD (.curve (x * slA qs r (pcA true qs t)) (y * slA qs r (pcA true qs t))))) s15 s16 s17 (.d (.int (pcA true qs t : Nat)))) g = _
      exact last (.curve (x * slA qs r (pcA true qs t)) (y * slA qs r (pcA true qs t))) (.d (.int (pcA true qs t : Nat))) rfl
  · have q' : isCrv A.c = false := by simpa using q
    rw [q'] at cnd
    refine w_nx (w_ife (k := false) cnd (ifF.trans w_nil)) (last A.c s18 ?_)
    cases e : A.c with
    | curve x y => rw [e] at q'; cases q'
    | _ => unfold lastA; rw [e]
end
end G

/-! Retimed tracks of too many keys (the program's). -/
namespace G
open PySem PySem.Spec PyProof.Rows L2 Fq
section
variable {Fn : Nat → List PD → M PD} {L : Lw} {env : EnvD} {g g1 g2 : List PD} {x y : PD}
theorem w_rse2 {c : Nat} {n1 n2 : Str} {a b : Ex} (ha : evE Fn L a env g = .ok x g1) (hb : evE Fn L b env g1 = .ok y g2) (h : isFl x = true ∧ isFl y = true) : evS Fn L (.rse2 c n1 n2 a b) env g = .exn ⟨c, [(n1, x), (n2, y)]⟩ g2 := by
  unfold evS
  refine bnd_ok ha (bnd_ok hb ?_)
  rw [if_pos h]
theorem w_rse0 {c : Nat} : evS Fn L (.rse0 c) env g = .exn ⟨c, []⟩ g := rfl
theorem w_ifeX {t : Tx} {k : Bool} {r r2 : Ss} {q : Xn} (ht : evT Fn L t env g = .ok k g1) (h : evSs Fn L (if k = true then r else r2) env g1 = .exn q g2) : evS Fn L (.ife t r r2) env g = .exn q g2 := by
  refine w_ife ht ?_
  cases k
  · exact h
  · exact h
end
section
variable {n : Nat} {g : List PD} {ps : List Pt} {r : Rat}
theorem rtrack_big (hp : PsOk ps) (hr : Sz 20 r) (r0 : 0 < r) {ks : List Ky} {m : PD} (ht : TrOk ks) (hk : ks.length ≤ 20) (h0 : ks ≠ []) (hm : m = sOnce ∨ (m = sLoop ∧ ps.length = 1)) (hl : 12 < (trackA ps r ks).length) : sem (n + 11) 44 [trD ks m, clD ps r] g = .exn ⟨1, [(⟨#[119, 104, 97, 116]⟩, .str ⟨#[107, 101, 121, 115]⟩), (⟨#[108, 105, 109, 105, 116]⟩, .int 12)]⟩ g := by
  have hm' : m = sOnce ∨ ps.length = 1 := hm.imp id fun h => h.2
  obtain ⟨s, lp⟩ := stretches (n := n) (g := g) hp hr r0 ht hk hm'
  have h0' : 0 < ks.length := List.length_pos_iff.mpr h0
  have lst := last_ok (n := n + 1) (g := g) hp hr r0 (ht.at (kA_at (ks := ks) (k := ks.length - 1) (by omega)))
  have ln : bltF .len (.tuple (ks.map kyD)) = some (.int (ks.length : Nat)) := by
    show some (PyData.int ((ks.map kyD).length : Nat)) = _
    rw [List.length_map]
  have hrange : (((ks.length : Nat) : Int) - 1).toNat = ks.length - 1 := by omega
  have pl := preA_len hp (r := r) (ks := ks) (ks.length - 1)
  have fin : ((preA ps r ks (ks.length - 1)).map kyD) ++ [kyD (lastA ps r (kA ks (ks.length - 1)))] = (trackA ps r ks).map kyD := by unfold trackA; rw [List.map_append]; rfl
  have gt : opF .gt (.int (((trackA ps r ks).map kyD).length : Nat)) (.int 12) = some (.bool true) := by
    show some (PyData.bool (decide ((12 : Int) < _))) = _
    rw [List.length_map, decide_eq_true (by omega)]
  rw [sem_def rfl rfl (by decide)]
  refine w_FX (w_nx (refuse_not (n := n) (g := g) (x := .rse0 0) (rest := .nil) hp hm) ?_)
  refine w_nx (w_setO (v_lst v_nil (by show 0 ≤ 1000; decide)) (by show 2 < 4; decide)) ?_
  refine w_nx (w_fr (i_range (v_op2 (v_blt (v_op2 (v_var rfl) v_lit rfl) ln) v_lit rfl) ⟨by omega, by omega⟩) ((congrArg (fun l => evFr (.name 3) (fun e => evSs (sem (n + 10)) lwK (bOfF ir44) e) ((List.range l).map fun k => PyData.int (k : Nat)) _ g) hrange).trans lp)) ?_
  refine w_nx (w_app rfl (by rw [List.length_map]; omega) (v_call (v_cons (v_var rfl) (v_cons (v_op2 (v_op2 (v_var rfl) v_lit rfl) (v_neg v_lit) (lastix h0)) v_nil)) lst)) ?_
  rw [fin]
  show evSs (sem (n + 10)) lwK _ [.d (trD ks m), .d (clD ps r), .own ((trackA ps r ks).map kyD), s] g = _
  exact w_xn (w_ifeX (k := true) (u_val (v_op2 (v_olen rfl) (v_glb rfl) gt)) (w_xn (w_rse2 v_lit (v_glb rfl) ⟨rfl, rfl⟩)))
end
end G

/-! Scenes retimed (the program's): what is told. -/
namespace G
open PySem PySem.Spec PyProof.Rows L2 Fq
/-- a track: keys, does it loop -/
structure Tk where
  ks : List Ky
  loop : Bool
def Tk.m (t : Tk) : PD := if t.loop then sLoop else sOnce
def Tk.d (t : Tk) : PD := trD t.ks t.m
/-- a part: what stands ahead of its tracks -/
structure Pa where
  h : List PD
  ts : List Tk
def Pa.d (p : Pa) : PD := .tuple (p.h ++ p.ts.map Tk.d)
def scD (s : List Pa) : PD := .tuple (s.map Pa.d)
structure Tk.ok (t : Tk) : Prop where
  tr : TrOk t.ks
  len : t.ks.length ≤ 20
  ne : t.ks ≠ []
structure Pa.ok (p : Pa) : Prop where
  h : p.h.length = 3
  ts : ∀ t ∈ p.ts, t.ok
  len : p.ts.length ≤ 20
section
variable {n : Nat} {g : List PD} {ps : List Pt} {r : Rat}
theorem drop3 {p : Pa} (h : p.ok) : slF p.d (some 3) none = some (.tuple (p.ts.map Tk.d)) := by
  show some (PyData.tuple (cutP (p.h ++ p.ts.map Tk.d) (some ((3 : Nat) : Int)) none)) = _
  rw [cut_from, List.drop_append_of_le_length (by rw [h.h]; decide), ← h.h, List.drop_length, List.nil_append]
theorem take3 {p : Pa} (h : p.ok) : slF p.d none (some 3) = some (.tuple p.h) := by
  show some (PyData.tuple (cutP (p.h ++ p.ts.map Tk.d) none (some ((3 : Nat) : Int)))) = _
  rw [cut_to, List.take_append_of_le_length (by rw [h.h]; decide), ← h.h, List.take_length]
theorem loop_eq {t : Tk} : opF .eq t.m sLoop = some (.bool t.loop) := by
  unfold Tk.m
  cases t.loop
  · exact eqS (k := false) (by decide) (by decide +kernel) (by decide +kernel)
  · exact eqS (k := true) (by decide) (by decide +kernel) (by decide +kernel)
/-- a part retimed -/
def Pa.re (ps : List Pt) (r : Rat) (p : Pa) : Pa := ⟨p.h, p.ts.map fun t => ⟨trackA ps r t.ks, t.loop⟩⟩
theorem add_TT {as bs : List PD} (h : as.length + bs.length ≤ 2 ^ 24) : opF .add (.tuple as) (.tuple bs) = some (.tuple (as ++ bs)) := if_pos h
theorem any_bools : ∀ l : List Bool, bltF .any (.list (l.map .bool)) = some (.bool (l.any id)) := by
  intro l
  have e : boolsOf (l.map .bool) = some l := by
    induction l with
    | nil => rfl
    | cons b l ih =>
      show (boolsOf (l.map .bool)).map (b :: ·) = _
      rw [ih]
      rfl
  show (boolsOf (l.map .bool)).map (fun bs => PyData.bool (bs.any id)) = _
  rw [e]
  rfl
/-- the parts' tracks retimed, all of them small -/
theorem parts_ok (hp : PsOk ps) (hr : Sz 20 r) (r0 : 0 < r) {s : List Pa} (hs : ∀ p ∈ s, p.ok) (hl : ∀ p ∈ s, ∀ t ∈ p.ts, (trackA ps r t.ks).length ≤ 12) (hm : ∀ p ∈ s, ∀ t ∈ p.ts, t.loop = true → ps.length = 1) {S C X4 X5 : Sl} :
    mapM' (fun d => match tgF (.name 3) d (wipeD [S, C, .d (clD ps r), .no, X4] [3]) with
      | some env' => evE (sem (n + 11)) lwK (.op2 .add (.sl (.var 3) .nil (.cons (.lit (.int 3)) .nil)) (.blt .tup (.lc (.call 44 (.cons (.var 4) (.cons (.var 2) .nil))) (.name 4) (.tup (.sl (.var 3) (.cons (.lit (.int 3)) .nil) .nil)) [4]))) env'
      | none => stk) (s.map Pa.d) g = .ok (s.map fun p => (p.re ps r).d) g := by
  refine mm_list s fun p hp' => ?_
  have ok := hs p hp'
  have inner : mapM' (fun d => match tgF (.name 4) d (wipeD [S, C, .d (clD ps r), .d p.d, X4] [4]) with
      | some env' => evE (sem (n + 11)) lwK (.call 44 (.cons (.var 4) (.cons (.var 2) .nil))) env'
      | none => stk) (p.ts.map Tk.d) g = .ok (p.ts.map fun t => (⟨trackA ps r t.ks, t.loop⟩ : Tk).d) g := by
    refine mm_list p.ts fun t ht => ?_
    have tk := ok.ts t ht
    have hm' : t.m = sOnce ∨ (t.m = sLoop ∧ ps.length = 1) := by
      unfold Tk.m
      cases e : t.loop
      · exact Or.inl rfl
      · exact Or.inr ⟨rfl, hm p hp' t ht e⟩
    exact v_call (v_cons (v_var rfl) (v_cons (v_var rfl) v_nil)) (rtrack_ok (n := n) hp hr r0 tk.tr tk.len tk.ne hm' (hl p hp' t ht))
  have ln := ok.len
  have e : (p.re ps r).d = .tuple (p.h ++ p.ts.map fun t => (⟨trackA ps r t.ks, t.loop⟩ : Tk).d) := by
    unfold Pa.re Pa.d
    rw [List.map_map]
    rfl
  rw [e]
  exact v_op2 (v_sl (v_var rfl) v_on (v_os v_lit) (take3 ok)) (v_blt (v_lc (g2 := g) (i_tup (v_sl (v_var rfl) (v_os v_lit) v_on (drop3 ok))) ⟨by rw [List.length_map]; omega, by decide⟩ inner) rfl) (add_TT (by rw [List.length_map, ok.h]; omega))
end
end G

/-! Scenes retimed (the program's). -/
namespace G
open PySem PySem.Spec PyProof.Rows L2 Fq
section
variable {n : Nat} {g : List PD} {ps : List Pt} {r : Rat}
def loops (s : List Pa) : List PyData := (s.map fun p => p.ts.map fun t => PyData.bool t.loop).flatten
def anyLoop (s : List Pa) : Bool := ((s.map fun p => p.ts.map Tk.loop).flatten).any id
theorem loops_is {s : List Pa} : bltF .any (.list (loops s)) = some (.bool (anyLoop s)) := by
  have e : loops s = ((s.map fun p => p.ts.map Tk.loop).flatten).map .bool := by
    unfold loops
    rw [List.map_flatten, List.map_map]
    congr 1
    refine List.map_congr_left fun p _ => ?_
    show _ = (p.ts.map Tk.loop).map PyData.bool
    rw [List.map_map]
    rfl
  rw [e]
  exact any_bools _
theorem anyl_ok {s : List Pa} (hs : ∀ p ∈ s, p.ok) (hl : s.length ≤ 20) {C D : PD} :
    evE (sem (n + 11)) lwK (.blt .any (.lc2 (.op2 .eq (.op2 .ix (.var 4) (.lit (.int 1))) (.lit sLoop)) (.name 3) (.tup (.var 0)) (.name 4) (.tup (.sl (.var 3) (.cons (.lit (.int 3)) .nil) .nil)) [3, 4] [4])) [.d (scD s), .d C, .d D, .no, .no] g = .ok (.bool (anyLoop s)) g := by
  have li : bltF .any (.list (s.map fun p : Pa => p.ts.map fun t : Tk => PyData.bool t.loop).flatten) = some (.bool (anyLoop s)) := loops_is
  refine v_blt (x := .list (s.map fun p : Pa => p.ts.map fun t : Tk => PyData.bool t.loop).flatten) (v_lc2 (yss := s.map fun p : Pa => p.ts.map fun t : Tk => PyData.bool t.loop) (g2 := g) (i_tup (v_var rfl)) ⟨by rw [List.length_map]; omega, by decide⟩ ?_) li
  refine mm_list s fun p hp => ?_
  have ok := hs p hp
  have ln := ok.len
  refine noX_is (bnd_ok (i_tup (v_sl (v_var rfl) (v_os v_lit) v_on (drop3 ok))) ?_)
  rw [if_pos (by rw [List.length_map]; omega)]
  exact mm_list p.ts fun t ht => v_op2 (v_op2 (v_var rfl) v_lit rfl) v_lit loop_eq
theorem retimed_no (hp : PsOk ps) {s : List Pa} (hs : ∀ p ∈ s, p.ok) (hl : s.length ≤ 20) (h1 : (lsP ps r).length ≠ 1) (h2 : anyLoop s = true) : sem (n + 12) 45 [scD s, clD ps r] g = .exn ⟨0, []⟩ g := by
  rw [sem_def rfl rfl (by decide)]
  have st := straight_ok (n := n + 4) (g := g) (r := r) hp
  have ne : (((lsP ps r).length : Int) == 1) = false := beq_eq_false_iff_ne.mpr (by omega)
  rw [ne] at st
  have al := anyl_ok (n := n) (g := g) (C := clD ps r) (D := clD (lsP ps r) r) hs hl
  rw [h2] at al
  exact w_FX (w_nx (w_set (v_call (v_cons (v_var rfl) v_nil) (least_ok (n := n + 5) hp))) (w_xn (w_ifeX (k := true) (u_and (k := true) (u_not (k := false) (u_val (v_call (v_cons (v_var rfl) v_nil) st))) (ifT.trans (u_val al))) (w_xn w_rse0))))
theorem retimed_ok (hp : PsOk ps) (hr : Sz 20 r) (r0 : 0 < r) {s : List Pa} (hs : ∀ p ∈ s, p.ok) (hl : s.length ≤ 20) (h1 : (lsP ps r).length = 1 ∨ anyLoop s = false) (h12 : ∀ p ∈ s, ∀ t ∈ p.ts, (trackA (lsP ps r) r t.ks).length ≤ 12) (hm : ∀ p ∈ s, ∀ t ∈ p.ts, t.loop = true → (lsP ps r).length = 1) :
    sem (n + 12) 45 [scD s, clD ps r] g = .ok (scD (s.map (Pa.re (lsP ps r) r))) g := by
  rw [sem_def rfl rfl (by decide)]
  have st := straight_ok (n := n + 4) (g := g) (r := r) hp
  have al := anyl_ok (n := n) (g := g) (C := clD ps r) (D := clD (lsP ps r) r) hs hl
  have tst : evT (sem (n + 11)) lwK (.and (.not (.val (.call 17 (.cons (.var 1) .nil)))) (.val (.blt .any (.lc2 (.op2 .eq (.op2 .ix (.var 4) (.lit (.int 1))) (.lit sLoop)) (.name 3) (.tup (.var 0)) (.name 4) (.tup (.sl (.var 3) (.cons (.lit (.int 3)) .nil) .nil)) [3, 4] [4])))) [.d (scD s), .d (clD ps r), .d (clD (lsP ps r) r), .no, .no] g = .ok false g := by
    rcases h1 with h1 | h1
    · rw [h1] at st
      exact u_and (k := false) (u_not (k := true) (u_val (v_call (v_cons (v_var rfl) v_nil) st))) ifF
    · rw [h1] at al
      have c17 : evE (sem (n + 11)) lwK (.call 17 (.cons (.var 1) .nil)) [.d (scD s), .d (clD ps r), .d (clD (lsP ps r) r), .no, .no] g = .ok (.bool (((lsP ps r).length : Int) == 1)) g := v_call (v_cons (v_var rfl) v_nil) st
      have := u_and2 (u_not (u_val c17)) (u_val al)
      rw [Bool.and_false] at this
      exact this
  have pm := parts_ok (n := n) (g := g) (lsP_ok (r := r) hp) hr r0 hs h12 hm (S := .d (scD s)) (C := .d (clD ps r)) (X4 := .no) (X5 := .no)
  have e : scD (s.map (Pa.re (lsP ps r) r)) = .tuple (s.map fun p => (p.re (lsP ps r) r).d) := by
    unfold scD
    rw [List.map_map]
    rfl
  rw [e]
  exact w_F (w_nx (w_set (v_call (v_cons (v_var rfl) v_nil) (least_ok (n := n + 5) hp))) (w_nx (w_ife (k := false) tst (ifF.trans w_nil)) (w_rt (w_ret (v_blt (v_lc (g2 := g) (i_tup (v_var rfl)) ⟨by rw [List.length_map]; omega, by decide⟩ pm) rfl)))))
end
end G

/-! Scenes retimed (the program's): too many keys in the second track of the one part. -/
namespace G
open PySem PySem.Spec PyProof.Rows L2 Fq
section
variable {Fn : Nat → List PD → M PD} {L : Lw} {env : EnvD} {g g1 g2 : List PD} {x : PD} {q : Xn}
theorem v_bltX {b : Blt} {a : Ex} (h : evE Fn L a env g = .exn q g1) : evE Fn L (.blt b a) env g = .exn q g1 := by
  unfold evE
  exact bnd_ex h
theorem v_op2X {o : Op2} {a b : Ex} (ha : evE Fn L a env g = .ok x g1) (hb : evE Fn L b env g1 = .exn q g2) : evE Fn L (.op2 o a b) env g = .exn q g2 := by
  unfold evE
  exact bnd_ok ha (bnd_ex hb)
end
section
variable {n : Nat} {g : List PD} {ps : List Pt} {r : Rat}
def xBig : Xn := ⟨1, [(⟨#[119, 104, 97, 116]⟩, .str ⟨#[107, 101, 121, 115]⟩), (⟨#[108, 105, 109, 105, 116]⟩, .int 12)]⟩
theorem retimed_big (hp : PsOk ps) (hr : Sz 20 r) (r0 : 0 < r) {h : List PD} {t0 t1 : Tk} {ts : List Tk} (ok : (⟨h, t0 :: t1 :: ts⟩ : Pa).ok) (h1 : anyLoop [⟨h, t0 :: t1 :: ts⟩] = false) (l0 : t0.loop = false) (l1 : t1.loop = false) (s0 : (trackA (lsP ps r) r t0.ks).length ≤ 12) (s1 : 12 < (trackA (lsP ps r) r t1.ks).length) :
    sem (n + 12) 45 [scD [⟨h, t0 :: t1 :: ts⟩], clD ps r] g = .exn xBig g := by
  rw [sem_def rfl rfl (by decide)]
  have hq := lsP_ok (r := r) hp
  have st := straight_ok (n := n + 4) (g := g) (r := r) hp
  have al := anyl_ok (n := n) (g := g) (s := [⟨h, t0 :: t1 :: ts⟩]) (C := clD ps r) (D := clD (lsP ps r) r) (fun p hp => by rw [List.mem_singleton.mp hp]; exact ok) (by show 1 ≤ 20; decide)
  rw [h1] at al
  have k0 := ok.ts t0 List.mem_cons_self
  have k1 := ok.ts t1 (List.mem_cons_of_mem _ List.mem_cons_self)
  have m0 : t0.m = sOnce := by unfold Tk.m; rw [l0]; rfl
  have m1 : t1.m = sOnce := by unfold Tk.m; rw [l1]; rfl
  have c17 : evE (sem (n + 11)) lwK (.call 17 (.cons (.var 1) .nil)) [.d (scD [⟨h, t0 :: t1 :: ts⟩]), .d (clD ps r), .d (clD (lsP ps r) r), .no, .no] g = .ok (.bool (((lsP ps r).length : Int) == 1)) g := v_call (v_cons (v_var rfl) v_nil) st
  have tst := u_and2 (u_not (u_val c17)) (u_val al)
  rw [Bool.and_false] at tst
  have a0 := rtrack_ok (n := n) (g := g) hq hr r0 k0.tr k0.len k0.ne (Or.inl m0) s0
  have a1 := rtrack_big (n := n) (g := g) hq hr r0 k1.tr k1.len k1.ne (Or.inl m1) s1
  have ln := ok.len
  exact w_FX (w_nx (w_set (v_call (v_cons (v_var rfl) v_nil) (least_ok (n := n + 5) hp))) (w_nx (w_ife (k := false) tst (ifF.trans w_nil)) (w_xn (w_retX (v_bltX (v_lcX (i_tup (v_var rfl)) ⟨by show 1 ≤ 1000000; decide, by decide⟩
    (mm_exn (v_op2X (v_sl (v_var rfl) v_on (v_os v_lit) (take3 ok)) (v_bltX (v_lcX (i_tup (v_sl (v_var rfl) (v_os v_lit) v_on (drop3 ok))) ⟨by rw [List.length_map]; omega, by decide⟩
      (mm_exn2 (v_call (v_cons (v_var rfl) (v_cons (v_var rfl) v_nil)) a0) (mm_exn (v_call (v_cons (v_var rfl) (v_cons (v_var rfl) v_nil)) a1)))))))))))))
end
end G

/-! The draw: any number below the bound, the bag stays a bag. -/
namespace G
open PySem PySem.Spec PyProof.Rows L2 Fq
/-- the bag behind k cells -/
def Bg (k : Nat) (g : List PD) : Prop := ∃ (a b c : Int) (cells : List Int), g = [.int a, .int b, .int c, .list (cells.map PyData.int)] ∧ 0 ≤ a ∧ 0 ≤ b ∧ b < 2147483647 ∧ (∀ x ∈ cells, 0 ≤ x) ∧ cells.length ≤ 1000 ∧ 0 ≤ c ∧ c ≤ k
theorem Bg.up {k j : Nat} {g : List PD} (h : Bg k g) (l : k ≤ j) : Bg j g := by
  obtain ⟨a, b, c, cells, e, h1, h2, h3, h4, h5, h6, h7⟩ := h
  exact ⟨a, b, c, cells, e, h1, h2, h3, h4, h5, h6, by omega⟩
theorem cell_at (cells : List Int) (c : Int) : ∃ x : Int, atI (((cells.map PyData.int).drop (HT.sIx (cells.map PyData.int).length 0 (some c))).take (HT.sIx (cells.map PyData.int).length (cells.map PyData.int).length none - HT.sIx (cells.map PyData.int).length 0 (some c)) ++ [PyData.int 0]) 0 = some (.int x) ∧ (x = 0 ∨ x ∈ cells) := by
  generalize hy : ((cells.map PyData.int).drop (HT.sIx (cells.map PyData.int).length 0 (some c))).take (HT.sIx (cells.map PyData.int).length (cells.map PyData.int).length none - HT.sIx (cells.map PyData.int).length 0 (some c)) = ys
  have mem : ∀ y ∈ ys, ∃ x ∈ cells, y = PyData.int x := fun y h => by
    rw [← hy] at h
    have h2 := List.mem_of_mem_drop (List.mem_of_mem_take h)
    obtain ⟨x, hx, e⟩ := List.mem_map.mp h2
    exact ⟨x, hx, e.symm⟩
  cases ys with
  | nil => exact ⟨0, rfl, .inl rfl⟩
  | cons y ys =>
    obtain ⟨x, hx, rfl⟩ := mem y List.mem_cons_self
    exact ⟨x, atI_nat (j := 0) rfl, .inr hx⟩
theorem mulI_ok {i j : Int} (h : i.natAbs < 2 ^ 64 ∧ j.natAbs < 2 ^ 64) : opF .mul (.int i) (.int j) = some (.int (i * j)) := mul_ok (n := 64) (m := 64) h.1 h.2 (by decide) (by decide)
theorem modI_ok {i j : Int} (h : j ≠ 0) : opF .mod (.int i) (.int j) = some (.int (i.fmod j)) := if_pos h
theorem divI_ok {i j : Int} (h : j ≠ 0 ∧ j.natAbs < 1073741824) : opF .fdv (.int i) (.int j) = some (.int (i.fdiv j)) := fdv_ok h.1 (Nat.lt_of_lt_of_le h.2 (by decide +kernel))
theorem geI_is (i j : Int) : opF .ge (.int i) (.int j) = some (.bool (decide (j ≤ i))) := rfl
theorem gtI_is (i j : Int) : opF .gt (.int i) (.int j) = some (.bool (decide (j < i))) := rfl
theorem intI_is (i : Int) : bltF .int (.int i) = some (.int i) := rfl
theorem fm_lt {i j : Int} (h : 0 < j) : 0 ≤ i.fmod j ∧ i.fmod j < j := ⟨Int.fmod_nonneg_of_pos i h, Int.fmod_lt_of_pos i h⟩
def tk1 : St := match ir47 with | .cons s _ => s | _ => .retN
def tk2 : Ss := match ir47 with | .cons _ r => r | _ => .nil
theorem ir47_is : ir47 = .cons tk1 tk2 := rfl
def eT (m : Int) (s2 s3 : Sl) : EnvD := [.d dBag, .d (.int m), s2, s3, .no, .no, .no]
section
variable {Fn : Nat → List PD → M PD}
theorem w_rt' {env : EnvD} {g g1 : List PD} {s : St} {r : Ss} {x : PD} (h : evS Fn lwK s env g = .ok (.rt x) g1) : evSs Fn lwK (.cons s r) env g = .ok (.rt x) g1 := w_rt h
/-- the part that takes a cell -/
theorem tk1_ok {m : Int} {g : List PD} {k : Nat} (kk : k < 2 ^ 60) (h : Bg k g) : ∃ s2 s3 g', evS Fn lwK tk1 (eT m .no .no) g = .ok (.nx (eT m s2 s3)) g' ∧ Bg (k + 1) g' := by
  obtain ⟨a, b, c, cells, rfl, ha, hb, hb2, hc, hl, c0, ck⟩ := h
  by_cases a0 : a = 0
  · subst a0
    obtain ⟨x, hx, hm⟩ := cell_at cells c
    have x0 : 0 ≤ x := hm.elim (fun e => by omega) (hc x)
    have cat : opF .add (.list (((cells.map PyData.int).drop (HT.sIx (cells.map PyData.int).length 0 (some c))).take (HT.sIx (cells.map PyData.int).length (cells.map PyData.int).length none - HT.sIx (cells.map PyData.int).length 0 (some c)))) (.list [.int 0]) =
        some (.list (((cells.map PyData.int).drop (HT.sIx (cells.map PyData.int).length 0 (some c))).take (HT.sIx (cells.map PyData.int).length (cells.map PyData.int).length none - HT.sIx (cells.map PyData.int).length 0 (some c)) ++ [.int 0])) := by
      have len : (((cells.map PyData.int).drop (HT.sIx (cells.map PyData.int).length 0 (some c))).take (HT.sIx (cells.map PyData.int).length (cells.map PyData.int).length none - HT.sIx (cells.map PyData.int).length 0 (some c))).length ≤ 1000 := by
        rw [List.length_take, List.length_drop]
        have := List.length_map PyData.int (as := cells)
        omega
      exact if_pos (Nat.le_trans (Nat.add_le_add_right len 1) (by decide))
    -- the state behind the branch that keeps a great cell
    have fin : ∀ (a' : Int) (s2 : Sl), s2 = .d (.int x) → 0 ≤ a' → ∃ s3 g', evSs Fn lwK (match tk1 with | .ife _ (.cons _ (.cons _ (.cons _ r))) _ => r | _ => .nil) (eT m s2 .no) [.int a', .int b, .int (c + 1), .list (cells.map PyData.int)] = .ok (.nx (eT m s2 s3)) g' ∧ Bg (k + 1) g' := by
      intro a' s2 e2 ha'
      subst e2
      refine ⟨.d (.int (b * 48271 + x.fmod 2147483647 + 7919 * (c + 1))), [.int a', .int ((b * 48271 + x.fmod 2147483647 + 7919 * (c + 1)).fmod 2147483647), .int (c + 1), .list (cells.map PyData.int)], ?_, a', _, c + 1, cells, rfl, ha', (fm_lt (by decide)).1, (fm_lt (by decide)).2, hc, hl, by omega, by omega⟩
      refine w_nx (w_set (x := .int (b * 48271 + x.fmod 2147483647 + 7919 * (c + 1))) (v_op2 (x := .int (b * 48271 + x.fmod 2147483647)) (v_op2 (v_op2 (v_bget rfl rfl) v_lit (mulI_ok ⟨by omega, by omega⟩)) (v_op2 (v_blt (v_var rfl) (intI_is x)) v_lit (modI_ok (by decide))) rfl) (v_op2 v_lit (v_bget rfl rfl) (mulI_ok ⟨by decide, by omega⟩)) rfl)) ?_
      refine w_nx (w_bset rfl (v_op2 (v_blt (v_var rfl) (intI_is _)) v_lit (modI_ok (by decide))) (by show 1 < 4; decide)) ?_
      exact w_nil
    by_cases big : (1000000000000000000 : Int) ≤ x
    · obtain ⟨s3, g', e, B⟩ := fin x (.d (.int x)) rfl x0
      refine ⟨.d (.int x), s3, g', w_ife (u_val (v_op2 (v_bget rfl rfl) v_lit (eqI 0 0))) ?_, B⟩
      refine ifT.trans (w_nx (w_set (v_op2 (v_op2 (v_sl (v_bget rfl rfl) (v_os (v_bget rfl rfl)) v_on rfl) (v_lst (v_cons v_lit v_nil) (by decide)) cat) v_lit hx)) ?_)
      refine w_nx (w_bset rfl (v_op2 (v_bget rfl rfl) v_lit rfl) (by show 2 < 4; decide)) ?_
      refine w_nx (w_ife (u_val (v_op2 (v_var rfl) v_lit ((geI_is x _).trans (by rw [decide_eq_true big])))) (ifT.trans (w_nx (w_bset rfl (v_var rfl) (by show 0 < 4; decide)) w_nil))) ?_
      exact e
    · obtain ⟨s3, g', e, B⟩ := fin 0 (.d (.int x)) rfl (by decide)
      refine ⟨.d (.int x), s3, g', w_ife (u_val (v_op2 (v_bget rfl rfl) v_lit (eqI 0 0))) ?_, B⟩
      refine ifT.trans (w_nx (w_set (v_op2 (v_op2 (v_sl (v_bget rfl rfl) (v_os (v_bget rfl rfl)) v_on rfl) (v_lst (v_cons v_lit v_nil) (by decide)) cat) v_lit hx)) ?_)
      refine w_nx (w_bset rfl (v_op2 (v_bget rfl rfl) v_lit rfl) (by show 2 < 4; decide)) ?_
      refine w_nx (w_ife (u_val (v_op2 (v_var rfl) v_lit ((geI_is x _).trans (by rw [decide_eq_false big])))) (ifF.trans w_nil)) ?_
      exact e
  · refine ⟨.no, .no, _, w_ife (u_val (v_op2 (v_bget rfl rfl) v_lit ((eqI a 0).trans (by rw [beq_false_of_ne a0])))) (ifF.trans w_nil), a, b, c, cells, rfl, ha, hb, hb2, hc, hl, by omega, by omega⟩
theorem tk2_ok {m : Int} (h1 : 1 ≤ m) (h2 : m < 1073741824) {s2 s3 : Sl} {g : List PD} {k : Nat} (h : Bg k g) : ∃ r g', evSs Fn lwK tk2 (eT m s2 s3) g = .ok (.rt (.int r)) g' ∧ 0 ≤ r ∧ r < m ∧ Bg k g' := by
  obtain ⟨a, b, c, cells, rfl, ha, hb, hb2, hc, hl, c0, ck⟩ := h
  have m0 : m ≠ 0 := by omega
  have md : m ≠ 0 ∧ m.natAbs < 1073741824 := ⟨m0, by omega⟩
  by_cases a0 : 0 < a
  · refine ⟨a.fmod m, [.int (a.fdiv m), .int b, .int c, .list (cells.map PyData.int)], w_rt' ?_, (fm_lt (by omega)).1, (fm_lt (by omega)).2, a.fdiv m, b, c, cells, rfl, ?_, hb, hb2, hc, hl, by omega, by omega⟩
    · refine w_ife (u_val (v_op2 (v_bget rfl rfl) v_lit ((gtI_is a 0).trans (by rw [decide_eq_true a0])))) (ifT.trans ?_)
      refine w_nx (w_set (v_op2 (v_blt (v_bget rfl rfl) (intI_is a)) (v_var rfl) (modI_ok m0))) ?_
      refine w_nx (w_bset rfl (v_op2 (v_blt (v_bget rfl rfl) (intI_is a)) (v_var rfl) (divI_ok md)) (by show 0 < 4; decide)) ?_
      exact w_rt (w_ret (v_var rfl))
    · exact Int.fdiv_nonneg ha (by omega)
  · have q1 := fm_lt (i := (b + 1) * 39373) (j := 1000000007) (by decide)
    generalize hbe : ((b + 1) * 39373).fmod 1000000007 = be at q1
    have q2 := fm_lt (i := be * be) (j := 998244353) (by decide)
    generalize hse : (be * be).fmod 998244353 = se at q2
    refine ⟨(((se * 30011).fmod 998244353).fdiv 7).fmod m, _, w_nx (w_ife (u_val (v_op2 (v_bget rfl rfl) v_lit ((gtI_is a 0).trans (by rw [decide_eq_false a0])))) (ifF.trans w_nil)) ?_, (fm_lt (by omega)).1, (fm_lt (by omega)).2, a, b, c, cells, rfl, ha, hb, hb2, hc, hl, by omega, by omega⟩
    refine w_nx (w_set (x := .int be) (v_op2 (v_blt (v_op2 (v_op2 (v_bget rfl rfl) v_lit rfl) v_lit (mulI_ok ⟨by omega, by omega⟩)) (intI_is _)) v_lit ((modI_ok (by decide)).trans (by rw [hbe])))) ?_
    refine w_nx (w_set (x := .int ((se * 30011).fmod 998244353)) (v_op2 (v_blt (v_op2 (x := .int se) (v_op2 (v_blt (v_op2 (v_var rfl) (v_var rfl) (mulI_ok ⟨by omega, by omega⟩)) (intI_is _)) v_lit ((modI_ok (by decide)).trans (by rw [hse]))) v_lit (mulI_ok ⟨by omega, by omega⟩)) (intI_is _)) v_lit (modI_ok (by decide)))) ?_
    exact w_rt (w_ret (v_op2 (v_blt (v_op2 (v_var rfl) v_lit (divI_ok ⟨by decide, by decide⟩)) (intI_is _)) (v_var rfl) (modI_ok m0)))
/-- _law_take -/
theorem take_ok {n : Nat} {m : Int} (h1 : 1 ≤ m) (h2 : m < 1073741824) {g : List PD} {k : Nat} (kk : k < 2 ^ 60) (h : Bg k g) : ∃ r g', sem (n + 1) 47 [dBag, .int m] g = .ok (.int r) g' ∧ 0 ≤ r ∧ r < m ∧ Bg (k + 1) g' := by
  obtain ⟨s2, s3, g1, e1, b1⟩ := tk1_ok (Fn := sem n) (m := m) kk h
  obtain ⟨r, g2, e2, r1, r2, b2⟩ := tk2_ok (Fn := sem n) h1 h2 (s2 := s2) (s3 := s3) b1
  refine ⟨r, g2, ?_, r1, r2, b2⟩
  rw [sem_def (b := ir47) (N := 7) rfl rfl (by decide)]
  rw [ir47_is]
  exact w_F (w_nx e1 e2)
end
end G

/-! One of some; some fraction. -/
namespace G
open PySem PySem.Spec PyProof.Rows L2 Fq
section
variable {n k : Nat} {g : List PD}
theorem some_ok {ds : List PD} (h1 : 1 ≤ ds.length) (h2 : ds.length ≤ 1000) (kk : k < 2 ^ 60) (h : Bg k g) : ∃ d g', sem (n + 2) 48 [dBag, .list ds] g = .ok d g' ∧ d ∈ ds ∧ Bg (k + 1) g' := by
  obtain ⟨r, g', e, r0, r1, b⟩ := take_ok (n := n) (m := (ds.length : Nat)) (by omega) (by omega) kk h
  obtain ⟨j, rfl⟩ : ∃ j : Nat, r = (j : Nat) := ⟨r.toNat, by omega⟩
  have hj : j < ds.length := by omega
  refine ⟨ds[j], g', ?_, List.getElem_mem hj, b⟩
  rw [sem_def rfl rfl (by decide)]
  exact w_F (w_rt (w_ret (v_op2 (v_var rfl) (v_call (v_cons (v_var rfl) (v_cons (v_blt (z := .int (ds.length : Nat)) (v_var rfl) rfl) v_nil)) e) (atI_nat (List.getElem?_eq_getElem hj)))))
theorem somefr_ok {m : Nat} (hm : m ≤ 100) (kk : k + 2 < 2 ^ 60) (h : Bg k g) : ∃ q g', sem (n + 3) 58 [dBag, .int (m : Nat)] g = .ok (fr q) g' ∧ Sz 8 q ∧ Bg (k + 2) g' := by
  have mu : opF .mul (.int 2) (.int (m : Nat)) = some (.int (2 * (m : Nat))) := mulI_ok ⟨by decide, by omega⟩
  obtain ⟨r, g1, e1, r0, r1, b1⟩ := take_ok (n := n + 1) (m := 2 * (m : Nat) + 1) (by omega) (by omega) (by omega) h
  obtain ⟨d, g2, e2, hd, b2⟩ := some_ok (n := n) (ds := [.int 1, .int 1, .int 2, .int 2, .int 3, .int 4]) (by decide) (by decide) (by omega) b1
  obtain ⟨b, rfl, hb1, hb2⟩ : ∃ b : Int, d = .int b ∧ 1 ≤ b ∧ b ≤ 4 := by
    simp at hd
    rcases hd with rfl | rfl | rfl | rfl
    · exact ⟨_, rfl, by decide, by decide⟩
    · exact ⟨_, rfl, by decide, by decide⟩
    · exact ⟨_, rfl, by decide, by decide⟩
    · exact ⟨_, rfl, by decide, by decide⟩
  have s1 : (r - (m : Nat)).natAbs < 2 ^ 8 := by omega
  have s2 : b.natAbs < 2 ^ 8 := by omega
  refine ⟨Rat.divInt (r - (m : Nat)) b, g2, ?_, sz_divInt (by omega) s1 s2, b2⟩
  rw [sem_def rfl rfl (by decide)]
  exact w_F (w_rt (w_ret (v_call (v_cons (v_op2 (v_call (v_cons (v_var rfl) (v_cons (v_op2 (v_op2 v_lit (v_var rfl) mu) v_lit rfl) v_nil)) e1) (v_var rfl) rfl) (v_cons (v_call (v_cons (v_var rfl) (v_cons (v_lst (v_cons v_lit (v_cons v_lit (v_cons v_lit (v_cons v_lit (v_cons v_lit (v_cons v_lit v_nil)))))) (by show 6 ≤ 1000; decide)) v_nil)) e2) v_nil)) (lfrac_ok (n := n) (by omega) (Nat.lt_of_lt_of_le s2 (Nat.pow_le_pow_right (by decide) (by decide)))))))
end
end G

/-! Still tracks. -/
namespace G
open PySem PySem.Spec PyProof.Rows L2 Fq
section
variable {n : Nat} {g : List PD}
theorem still_ok {q : Rat} : sem (n + 1) 67 [fr q] g = .ok (trD [⟨0, q, .hold⟩] sOnce) g := by
  rw [sem_def rfl rfl (by decide)]
  exact w_F (w_rt (w_ret (v_tup (v_cons (v_tup (v_cons (v_tup (v_cons (v_tup (v_cons v_lit (v_cons v_lit v_nil)) (by show 2 ≤ 1000; decide)) (v_cons (v_var rfl) (v_cons (v_tup (v_cons v_lit v_nil) (by show 1 ≤ 1000; decide)) v_nil))) (by show 3 ≤ 1000; decide)) v_nil) (by show 1 ≤ 1000; decide)) (v_cons v_lit v_nil)) (by show 2 ≤ 1000; decide))))
theorem trOk_one {A : Ky} (h : A.ok) : TrOk [A] := ⟨fun B hB => by rw [List.mem_singleton.mp hB]; exact h, List.pairwise_singleton _ _⟩
end
end G

/-! A walk over 0, 1, ..: an invariant of slots and cells. -/
namespace G
open PySem PySem.Spec PyProof.Rows L2 Fq
theorem fr_app {tg : Tg} {body : EnvD → M Fl} {d : PD} : ∀ (ds : List PD) {env env1 env2 env3 : EnvD} {g g1 g2 : List PD}, evFr tg body ds env g = .ok (.nx env1) g1 → tgF tg d env1 = some env2 → body env2 g1 = .ok (.nx env3) g2 → evFr tg body (ds ++ [d]) env g = .ok (.nx env3) g2 := fun ds {_ _ _ _ _ _ _} h ht hb => fr_snoc ds h ht hb
theorem fr_rangeG {tg : Tg} {body : EnvD → M Fl} {S : Nat → EnvD → List PD → Prop} {m : Nat} (h : ∀ j env g, j < m → S j env g → ∃ e1 e2 g2, tgF tg (.int (j : Nat)) env = some e1 ∧ body e1 g = .ok (.nx e2) g2 ∧ S (j + 1) e2 g2) {env : EnvD} {g : List PD} (h0 : S 0 env g) :
    ∃ env' g', evFr tg body ((List.range m).map fun k => .int (k : Nat)) env g = .ok (.nx env') g' ∧ S m env' g' := by
  have key : ∀ j, j ≤ m → ∃ env' g', evFr tg body ((List.range j).map fun k => .int (k : Nat)) env g = .ok (.nx env') g' ∧ S j env' g' := by
    intro j
    induction j with
    | zero => exact fun _ => ⟨env, g, fr_nil, h0⟩
    | succ j ih =>
      intro hj
      obtain ⟨e, g1, h1, h2⟩ := ih (by omega)
      obtain ⟨e1, e2, g2, h3, h4, h5⟩ := h j e g1 hj h2
      refine ⟨e2, g2, ?_, h5⟩
      rw [List.range_succ, List.map_append]
      exact fr_snoc _ h1 h3 h4
  exact key m (Nat.le_refl _)
end G

/-! Drawn clocks. -/
namespace G
open PySem PySem.Spec PyProof.Rows L2 Fq
section
variable {n k : Nat} {g : List PD}
/-- one of some fractions -/
theorem someq_ok {l : List Rat} (h1 : 1 ≤ l.length) (h2 : l.length ≤ 1000) (kk : k < 2 ^ 60) (h : Bg k g) : ∃ q g', sem (n + 2) 48 [dBag, lf l] g = .ok (fr q) g' ∧ q ∈ l ∧ Bg (k + 1) g' := by
  obtain ⟨d, g', e, hd, b⟩ := some_ok (n := n) (ds := l.map fr) (by rw [List.length_map]; exact h1) (by rw [List.length_map]; exact h2) kk h
  obtain ⟨q, hq, rfl⟩ := List.mem_map.mp hd
  exact ⟨q, g', e, hq, b⟩
theorem psOk_snoc {ps : List Pt} {p q : Pt} (h : PsOk (ps ++ [p])) (hl : (ps ++ [p]).length < 20) (s1 : Sz 20 q.1) (s2 : Sz 20 q.2) (l1 : p.1 < q.1) (l2 : p.2 < q.2) : PsOk (ps ++ [p] ++ [q]) := by
  have up : ∀ f : Pt → Rat, ((ps ++ [p]).Pairwise fun a b => f a < f b) → f p < f q → (ps ++ [p] ++ [q]).Pairwise fun a b => f a < f b := by
    intro f hu hpq
    refine List.pairwise_append.mpr ⟨hu, List.pairwise_singleton _ _, fun a ha b hb => ?_⟩
    rw [List.mem_singleton.mp hb]
    rcases List.mem_append.mp ha with m | m
    · have := (List.pairwise_append.mp hu).2.2 a m p List.mem_cons_self
      grind
    · rw [List.mem_singleton.mp m]; exact hpq
  refine ⟨by simp, by rw [List.length_append]; show _ + 1 ≤ 20; omega, fun a ha => ?_, fun a ha => ?_, up (·.1) h.up1 l1, up (·.2) h.up2 l2⟩
  · rcases List.mem_append.mp ha with m | m
    · exact h.sz1 a m
    · rw [List.mem_singleton.mp m]; exact s1
  · rcases List.mem_append.mp ha with m | m
    · exact h.sz2 a m
    · rw [List.mem_singleton.mp m]; exact s2
end
end G

/-! Drawn clocks. -/
namespace G
open PySem PySem.Spec PyProof.Rows L2 Fq
section
variable {n k : Nat} {g : List PD}
def stepsL : List Rat := [1, 1 / 2, 2]
def ratesL : List Rat := [1, 1 / 2, 2, 3, 3 / 2]
theorem stepsL_ok {q : Rat} (h : q ∈ stepsL) : Sz 2 q ∧ 0 < q := by
  unfold stepsL at h
  simp at h
  rcases h with rfl | rfl | rfl <;> exact ⟨⟨by decide +kernel, by decide +kernel⟩, by decide +kernel⟩
theorem ratesL_ok {q : Rat} (h : q ∈ ratesL) : Sz 2 q ∧ 0 < q := by
  unfold ratesL at h
  simp at h
  rcases h with rfl | rfl | rfl | rfl | rfl <;> exact ⟨⟨by decide +kernel, by decide +kernel⟩, by decide +kernel⟩
def SC (k : Nat) (j : Nat) (env : EnvD) (g : List PD) : Prop := ∃ ps p s3 s4 s5 s6, env = [.d dBag, .own ((ps ++ [p]).map ptD), .d (lf ratesL), s3, s4, s5, s6] ∧ PsOk (ps ++ [p]) ∧ (ps ++ [p]).length = j + 1 ∧ Sz (4 * j + 1) p.1 ∧ Sz (8 * j + 1) p.2 ∧ Bg (k + 1 + 2 * j) g
theorem clock_step {j : Nat} {env : EnvD} (hj : j < 2) (kk : k + 10 < 2 ^ 60) (h : SC k j env g) : ∃ e1 e2 g2, tgF (.name 3) (.int (j : Nat)) env = some e1 ∧ (fun e => evSs (sem (n + 4)) lwK (bOfF ir68) e) e1 g = .ok (.nx e2) g2 ∧ SC k (j + 1) e2 g2 := by
  obtain ⟨ps, p, s3, s4, s5, s6, rfl, hp, hl, z1, z2, b⟩ := h
  obtain ⟨q, g1, e1, hq, b1⟩ := someq_ok (n := n + 2) (l := stepsL) (by decide) (by decide) (by omega) b
  obtain ⟨r, g2, e2, hr, b2⟩ := someq_ok (n := n + 2) (l := ratesL) (by decide) (by decide) (by omega) b1
  obtain ⟨sq, q0⟩ := stepsL_ok hq
  obtain ⟨sr, r0⟩ := ratesL_ok hr
  have qr0 : 0 < q * r := Rat.mul_pos q0 r0
  have lastp : atI ((ps ++ [p]).map ptD) (-1) = some (ptD p) := by rw [List.map_append]; exact at_last
  have lt : ∀ {env : EnvD} {g : List PD}, evE (sem (n + 4)) lwK (.lst (.cons (.tup (.cons (.lit (.int 1)) (.cons (.lit (.int 1)) .nil))) (.cons (.tup (.cons (.lit (.int 1)) (.cons (.lit (.int 2)) .nil))) (.cons (.tup (.cons (.lit (.int 2)) (.cons (.lit (.int 1)) .nil))) .nil)))) env g = .ok (lf stepsL) g := fun {env g} => by
    have h2 : fr (1 / 2) = .tuple [.int 1, .int 2] := by
      unfold fr
      rw [show ((1 : Rat) / 2).num = 1 by decide +kernel, show ((1 : Rat) / 2).den = 2 by decide +kernel]
      rfl
    have e : lf stepsL = .list [.tuple [.int 1, .int 1], .tuple [.int 1, .int 2], .tuple [.int 2, .int 1]] := by
      rw [← h2]
      rfl
    rw [e]
    exact v_lst (v_cons (v_tup (v_cons v_lit (v_cons v_lit v_nil)) (by show 2 ≤ 1000; decide)) (v_cons (v_tup (v_cons v_lit (v_cons v_lit v_nil)) (by show 2 ≤ 1000; decide)) (v_cons (v_tup (v_cons v_lit (v_cons v_lit v_nil)) (by show 2 ≤ 1000; decide)) v_nil))) (by show 3 ≤ 1000; decide)
  have sqr : Sz 4 (q * r) := sq.mul sr
  refine ⟨[.d dBag, .own ((ps ++ [p]).map ptD), .d (lf ratesL), .d (.int (j : Nat)), s4, s5, s6], [.d dBag, .own ((ps ++ [p] ++ [(p.1 + q, p.2 + q * r)]).map ptD), .d (lf ratesL), .d (.int (j : Nat)), .d (fr q), .d (fr p.1), .d (fr p.2)], g2, rfl, ?_, ps ++ [p], (p.1 + q, p.2 + q * r), _, _, _, _, rfl, psOk_snoc hp (by omega) ((z1.add sq).mono (by omega)) ((z2.add sqr).mono (by omega)) (by show p.1 < p.1 + q; grind) (by show p.2 < p.2 + q * r; grind), by rw [List.length_append, hl]; rfl, (z1.add sq).mono (by omega), (z2.add sqr).mono (by omega), b2.up (by omega)⟩
  refine w_nx (w_asg (v_oix rfl (v_neg v_lit) lastp) rfl) (w_nx (w_set (v_call (v_cons (v_var rfl) (v_cons lt v_nil)) e1)) ?_)
  rw [List.map_append (l₁ := ps ++ [p])]
  exact w_nx (w_app rfl (by rw [List.length_map, hl]; omega) (v_tup (v_cons (v_call (v_cons (v_var rfl) (v_cons (v_var rfl) v_nil)) (lplus_ok (n := n + 1) z1 sq (by omega))) (v_cons (v_call (v_cons (v_var rfl) (v_cons (v_call (v_cons (v_var rfl) (v_cons (v_call (v_cons (v_var rfl) (v_cons (v_var rfl) v_nil)) e2) v_nil)) (ltimes_ok (n := n + 1) sq sr (by decide))) v_nil)) (lplus_ok (n := n + 1) z2 sqr (by omega))) v_nil)) (by show 2 ≤ 1000; decide))) w_nil
end
end G

/-! Drawn clocks: all. -/
namespace G
open PySem PySem.Spec PyProof.Rows L2 Fq
section
variable {n k : Nat} {g : List PD}
theorem clock_ok (kk : k + 10 < 2 ^ 60) (h : Bg k g) : ∃ ps r g', sem (n + 5) 68 [dBag] g = .ok (clD ps r) g' ∧ PsOk ps ∧ ps.length ≤ 3 ∧ Sz 20 r ∧ 0 < r ∧ Bg (k + 8) g' := by
  obtain ⟨m, g1, e1, m0, m1, b1⟩ := take_ok (n := n + 3) (m := 3) (by decide) (by decide) (by omega) h
  obtain ⟨c, rfl⟩ : ∃ c : Nat, m = (c : Nat) := ⟨m.toNat, by omega⟩
  have h2 : fr (1 / 2) = .tuple [.int 1, .int 2] := by
    unfold fr
    rw [show ((1 : Rat) / 2).num = 1 by decide +kernel, show ((1 : Rat) / 2).den = 2 by decide +kernel]
    rfl
  have h3 : fr (3 / 2) = .tuple [.int 3, .int 2] := by
    unfold fr
    rw [show ((3 : Rat) / 2).num = 3 by decide +kernel, show ((3 : Rat) / 2).den = 2 by decide +kernel]
    rfl
  have e : lf ratesL = .list [.tuple [.int 1, .int 1], .tuple [.int 1, .int 2], .tuple [.int 2, .int 1], .tuple [.int 3, .int 1], .tuple [.int 3, .int 2]] := by
    rw [← h2, ← h3]
    rfl
  have z1 : Sz 1 (0 : Rat) := SzC.h
  have p0 : PsOk [((0 : Rat), (0 : Rat))] := ⟨by simp, by decide, fun a ha => by rw [List.mem_singleton.mp ha]; exact z1.mono (by decide), fun a ha => by rw [List.mem_singleton.mp ha]; exact z1.mono (by decide), List.pairwise_singleton _ _, List.pairwise_singleton _ _⟩
  obtain ⟨env', g2, lp, ps, p, s3, s4, s5, s6, rfl, hp, hl, _, _, b2⟩ := fr_rangeG (S := SC k) (tg := .name 3) (body := fun e => evSs (sem (n + 4)) lwK (bOfF ir68) e) (m := c) (fun j env g hj hS => clock_step (n := n) (by omega) kk hS) (env := [.d dBag, .own [ptD (0, 0)], .d (lf ratesL), .no, .no, .no, .no]) (g := g1) ⟨[], (0, 0), _, _, _, _, rfl, p0, rfl, z1, z1, b1.up (by omega)⟩
  obtain ⟨r, g3, e3, hr, b3⟩ := someq_ok (n := n + 2) (l := ratesL) (by decide) (by decide) (by omega) b2
  obtain ⟨sr, r0⟩ := ratesL_ok hr
  refine ⟨ps ++ [p], r, g3, ?_, hp, by omega, sr.mono (by decide), r0, b3.up (by omega)⟩
  rw [sem_def rfl rfl (by decide)]
  have two : ∀ {i j : Int} {env : EnvD} {g : List PD}, evE (sem (n + 4)) lwK (.tup (.cons (.lit (.int i)) (.cons (.lit (.int j)) .nil))) env g = .ok (.tuple [.int i, .int j]) g := v_tup (v_cons v_lit (v_cons v_lit v_nil)) (by show 2 ≤ 1000; decide)
  refine w_F (w_nx (w_par (x := .list [ptD (0, 0)]) (y := lf ratesL) (v_lst (v_cons (v_tup (v_cons two (v_cons two v_nil)) (by show 2 ≤ 1000; decide)) v_nil) (by show 1 ≤ 1000; decide)) rfl (by rw [e]; exact v_lst (v_cons two (v_cons two (v_cons two (v_cons two (v_cons two v_nil))))) (by show 5 ≤ 1000; decide)) rfl ⟨by show 1 < 7; decide, by show 2 < 7; decide, by decide⟩) ?_)
  refine w_nx (w_fr (i_range (v_call (v_cons (v_var rfl) (v_cons v_lit v_nil)) e1) ⟨by omega, by omega⟩) lp) ?_
  exact w_frz rfl (w_rt (w_ret (v_tup (v_cons (v_blt (v_var rfl) rfl) (v_cons (v_call (v_cons (v_var rfl) (v_cons (v_var rfl) v_nil)) e3) v_nil)) (by show 2 ≤ 1000; decide))))
end
end G

/-! Drawn tracks: the invariant of the walk. -/
namespace G
open PySem PySem.Spec PyProof.Rows L2 Fq
theorem trOk_snoc {ks : List Ky} {A : Ky} (h : TrOk ks) (ha : A.ok) (lt : ∀ B ∈ ks, B.t < A.t) : TrOk (ks ++ [A]) := by
  refine ⟨fun B hB => ?_, List.pairwise_append.mpr ⟨h.2, List.pairwise_singleton _ _, fun a m b hb => ?_⟩⟩
  · rcases List.mem_append.mp hB with m | m
    · exact h.1 B m
    · rw [List.mem_singleton.mp m]; exact ha
  · rw [List.mem_singleton.mp hb]; exact lt a m
/-- the walk of def 66: keys so far, the next time -/
def ST (k : Nat) (c : Int) (j : Nat) (env : EnvD) (g : List PD) : Prop := ∃ ks t s7 s8 s9, env = [.d dBag, .d (.int 4), .d (.int 3), .d (.int 0), .d (.int c), .d (fr t), .own (ks.map kyD), s7, s8, s9] ∧ TrOk ks ∧ ks.length = j ∧ Sz (3 * j + 3) t ∧ (∀ A ∈ ks, A.t < t) ∧ Bg (k + 2 + 9 * j) g
end G

/-! Drawn tracks: a step of the walk. -/
namespace G
open PySem PySem.Spec PyProof.Rows L2 Fq
section
variable {n k : Nat} {g : List PD}
theorem is00 : opF .eq (.int 0) (.int 0) = some (.bool true) := rfl
/-- a curve that is drawn -/
theorem crv_ok (kk : k < 2 ^ 60) (h : Bg k g) : ∃ c g', sem (n + 2) 48 [dBag, .list [cvD .hold, cvD .line, cvD .line, cvD .ease]] g = .ok (cvD c) g' ∧ CvSz 20 c ∧ Bg (k + 1) g' := by
  obtain ⟨d, g', e, hd, b⟩ := some_ok (n := n) (ds := [cvD .hold, cvD .line, cvD .line, cvD .ease]) (by decide) (by decide) kk h
  have : ∃ c, d = cvD c ∧ CvSz 20 c := by
    rcases List.mem_cons.mp hd with rfl | hd
    · exact ⟨.hold, rfl, trivial⟩
    rcases List.mem_cons.mp hd with rfl | hd
    · exact ⟨.line, rfl, trivial⟩
    rcases List.mem_cons.mp hd with rfl | hd
    · exact ⟨.line, rfl, trivial⟩
    rcases List.mem_cons.mp hd with rfl | hd
    · exact ⟨.ease, rfl, trivial⟩
    cases hd
  obtain ⟨c, rfl, hc⟩ := this
  exact ⟨c, g', e, hc, b⟩
theorem one_tup {Fn : Nat → List PD → M PD} {L : Lw} {env : EnvD} {g : List PD} {x : PD} : evE Fn L (.tup (.cons (.lit x) .nil)) env g = .ok (.tuple [x]) g := v_tup (v_cons v_lit v_nil) (by show 1 ≤ 1000; decide)
theorem two_tup {Fn : Nat → List PD → M PD} {L : Lw} {env : EnvD} {g : List PD} {x y : PD} : evE Fn L (.tup (.cons (.lit x) (.cons (.lit y) .nil))) env g = .ok (.tuple [x, y]) g := v_tup (v_cons v_lit (v_cons v_lit v_nil)) (by show 2 ≤ 1000; decide)
theorem fr_half : fr (1 / 2) = .tuple [.int 1, .int 2] := by
  unfold fr
  rw [show ((1 : Rat) / 2).num = 1 by decide +kernel, show ((1 : Rat) / 2).den = 2 by decide +kernel]
  rfl
theorem steps_lst {Fn : Nat → List PD → M PD} {L : Lw} {env : EnvD} {g : List PD} : evE Fn L (.lst (.cons (.tup (.cons (.lit (.int 1)) (.cons (.lit (.int 1)) .nil))) (.cons (.tup (.cons (.lit (.int 1)) (.cons (.lit (.int 2)) .nil))) (.cons (.tup (.cons (.lit (.int 2)) (.cons (.lit (.int 1)) .nil))) .nil)))) env g = .ok (lf stepsL) g := by
  have e : lf stepsL = .list [.tuple [.int 1, .int 1], .tuple [.int 1, .int 2], .tuple [.int 2, .int 1]] := by
    rw [← fr_half]
    rfl
  rw [e]
  exact v_lst (v_cons two_tup (v_cons two_tup (v_cons two_tup v_nil))) (by show 3 ≤ 1000; decide)
theorem crv_lst {Fn : Nat → List PD → M PD} {L : Lw} {env : EnvD} {g : List PD} : evE Fn L (.lst (.cons (.tup (.cons (.lit sHold) .nil)) (.cons (.tup (.cons (.lit sLine) .nil)) (.cons (.tup (.cons (.lit sLine) .nil)) (.cons (.tup (.cons (.lit sEase) .nil)) .nil))))) env g = .ok (.list [cvD .hold, cvD .line, cvD .line, cvD .ease]) g :=
  v_lst (v_cons one_tup (v_cons one_tup (v_cons one_tup (v_cons one_tup v_nil)))) (by show 4 ≤ 1000; decide)
/-- the curve of a key: the two statements -/
theorem crv2_ok (kk : k + 10 < 2 ^ 60) (h : Bg k g) {c t K s7 s8 s9 : Sl} : ∃ cv g', CvSz 20 cv ∧ Bg (k + 6) g' ∧ ∀ (r : Ss) (o : Out Fl), evSs (sem (n + 4)) lwK r [.d dBag, .d (.int 4), .d (.int 3), .d (.int 0), c, t, K, s7, .d (cvD cv), s9] g' = o →
    evSs (sem (n + 4)) lwK (match bOfF ir66 with | .cons a (.cons b _) => .cons a (.cons b r) | _ => .nil) [.d dBag, .d (.int 4), .d (.int 3), .d (.int 0), c, t, K, s7, s8, s9] g = o := by
  obtain ⟨c1, g1, e1, z1, b1⟩ := crv_ok (n := n + 2) (by omega) h
  obtain ⟨m, g2, e2, _, _, b2⟩ := take_ok (n := n + 3) (m := 4) (by decide) (by decide) (by omega) b1
  have set8 : evS (sem (n + 4)) lwK (match bOfF ir66 with | .cons a _ => a | _ => .retN) [.d dBag, .d (.int 4), .d (.int 3), .d (.int 0), c, t, K, s7, s8, s9] g = .ok (.nx [.d dBag, .d (.int 4), .d (.int 3), .d (.int 0), c, t, K, s7, .d (cvD c1), s9]) g1 :=
    w_set (v_call (v_cons (v_var rfl) (v_cons (v_ite (k := true) (u_val (v_op2 (v_var rfl) v_lit is00)) (ifT.trans crv_lst)) v_nil)) e1)
  have tst : ∀ {q : Bool}, opF .eq (.int m) (.int 0) = some (.bool q) → evT (sem (n + 4)) lwK (.and (.val (.op2 .eq (.var 3) (.lit (.int 0)))) (.val (.op2 .eq (.call 47 (.cons (.var 0) (.cons (.lit (.int 4)) .nil))) (.lit (.int 0))))) [.d dBag, .d (.int 4), .d (.int 3), .d (.int 0), c, t, K, s7, .d (cvD c1), s9] g1 = .ok q g2 := fun {q} hq =>
    u_and (k := true) (u_val (v_op2 (v_var rfl) v_lit is00)) (ifT.trans (u_val (v_op2 (v_call (v_cons (v_var rfl) (v_cons v_lit v_nil)) e2) v_lit hq)))
  by_cases z : m = 0
  · obtain ⟨x, g3, e3, sx, b3⟩ := somefr_ok (n := n + 1) (m := 2) (by decide) (by omega) b2
    obtain ⟨y, g4, e4, sy, b4⟩ := somefr_ok (n := n + 1) (m := 2) (by decide) (by omega) b3
    refine ⟨.curve x y, g4, ⟨sx.mono (by decide), sy.mono (by decide)⟩, b4.up (by omega), fun r o ho => ?_⟩
    subst z
    refine w_nx set8 (w_nx (w_ife (k := true) (tst rfl) (ifT.trans (w_nx (w_set (v_tup (v_cons v_lit (v_cons (v_call (v_cons (v_var rfl) (v_cons v_lit v_nil)) e3) (v_cons (v_call (v_cons (v_var rfl) (v_cons v_lit v_nil)) e4) v_nil))) (by show 3 ≤ 1000; decide))) w_nil))) ho)
  · refine ⟨c1, g2, z1, b2.up (by omega), fun r o ho => ?_⟩
    exact w_nx set8 (w_nx (w_ife (k := false) (tst ((eqI _ _).trans (by rw [beq_eq_false_iff_ne.mpr z]))) (ifF.trans w_nil)) ho)
theorem track_step {c : Int} {j : Nat} {env : EnvD} (hj : j < 4) (kk : k + 50 < 2 ^ 60) (h : ST k c j env g) : ∃ e1 e2 g2, tgF (.name 7) (.int (j : Nat)) env = some e1 ∧ (fun e => evSs (sem (n + 4)) lwK (bOfF ir66) e) e1 g = .ok (.nx e2) g2 ∧ ST k c (j + 1) e2 g2 := by
  obtain ⟨ks, t, s7, s8, s9, rfl, ht, hl, z, low, b⟩ := h
  obtain ⟨cv, g1, hc, b1, run⟩ := crv2_ok (n := n) (c := .d (.int c)) (t := .d (fr t)) (K := .own (ks.map kyD)) (s7 := .d (.int (j : Nat))) (s8 := s8) (s9 := s9) (by omega) b
  obtain ⟨q, g2, e2, sq, b2⟩ := somefr_ok (n := n + 1) (m := 3) (by decide) (by omega) b1
  obtain ⟨d, g3, e3, hd, b3⟩ := someq_ok (n := n + 2) (l := stepsL) (by decide) (by decide) (by omega) b2
  obtain ⟨sd, d0⟩ := stepsL_ok hd
  refine ⟨[.d dBag, .d (.int 4), .d (.int 3), .d (.int 0), .d (.int c), .d (fr t), .own (ks.map kyD), .d (.int (j : Nat)), s8, s9], [.d dBag, .d (.int 4), .d (.int 3), .d (.int 0), .d (.int c), .d (fr (t + d)), .own ((ks ++ [(⟨t, q, cv⟩ : Ky)]).map kyD), .d (.int (j : Nat)), .d (cvD cv), .d (fr q)], g3, rfl, ?_, ks ++ [⟨t, q, cv⟩], t + d, _, _, _, rfl, trOk_snoc (A := ⟨t, q, cv⟩) ht ⟨z.mono (by omega), sq.mono (by decide), hc⟩ low, by rw [List.length_append, hl]; rfl, (z.add sd).mono (by omega), fun A hA => ?_, b3.up (by omega)⟩
  · refine run _ _ ?_
    refine w_nx (w_set (v_call (v_cons (v_var rfl) (v_cons (v_var rfl) v_nil)) e2)) ?_
    refine w_nx (w_set (v_ite (k := true) (u_val (v_op2 (v_var rfl) v_lit is00)) (ifT.trans (v_var rfl)))) ?_
    rw [List.map_append (l₁ := ks)]
    exact w_nx (w_app rfl (by rw [List.length_map, hl]; omega) (v_tup (v_cons (v_var rfl) (v_cons (v_var rfl) (v_cons (v_var rfl) v_nil))) (by show 3 ≤ 1000; decide))) (w_nx (w_set (v_call (v_cons (v_var rfl) (v_cons (v_call (v_cons (v_var rfl) (v_cons steps_lst v_nil)) e3) v_nil)) (lplus_ok (n := n + 1) z sd (by omega)))) w_nil)
  · rcases List.mem_append.mp hA with m | m
    · have := low A m
      grind
    · rw [List.mem_singleton.mp m]
      show t < t + d
      grind
end
end G

/-! Drawn tracks: all. -/
namespace G
open PySem PySem.Spec PyProof.Rows L2 Fq
section
variable {n k : Nat} {g : List PD}
theorem word_ok {c : Nat} {env : EnvD} (h0 : env[0]? = some (.d dBag)) (h4 : env[4]? = some (.d (.int ((c + 1 : Nat) : Int)))) (kk : k + 60 < 2 ^ 60) (h : Bg k g) : ∃ (b : Bool) (g' : List PD), evE (sem (n + 4)) lwK (.ite (.val (.op2 .gt (.var 4) (.lit (.int 1)))) (.call 48 (.cons (.var 0) (.cons (.lst (.cons (.lit sOnce) (.cons (.lit sOnce) (.cons (.lit sLoop) .nil)))) .nil))) (.lit sOnce)) env g = .ok (if b = true then sLoop else sOnce) g' ∧ Bg (k + 1) g' := by
  by_cases z : c = 0
  · subst z
    exact ⟨false, g, v_ite (k := false) (u_val (v_op2 (v_var h4) v_lit rfl)) (ifF.trans v_lit), h.up (by omega)⟩
  · obtain ⟨d, g', e, hd, b⟩ := some_ok (n := n + 2) (ds := [sOnce, sOnce, sLoop]) (by decide) (by decide) (by omega) h
    have gt : opF .gt (.int ((c + 1 : Nat) : Int)) (.int 1) = some (.bool true) := by
      show some (PyData.bool (decide ((1 : Int) < _))) = _
      rw [decide_eq_true (by omega)]
    have run : evE (sem (n + 4)) lwK (.ite (.val (.op2 .gt (.var 4) (.lit (.int 1)))) (.call 48 (.cons (.var 0) (.cons (.lst (.cons (.lit sOnce) (.cons (.lit sOnce) (.cons (.lit sLoop) .nil)))) .nil))) (.lit sOnce)) env g = .ok d g' :=
      v_ite (k := true) (u_val (v_op2 (v_var h4) v_lit gt)) (ifT.trans (v_call (v_cons (v_var h0) (v_cons (v_lst (v_cons v_lit (v_cons v_lit (v_cons v_lit v_nil))) (by show 3 ≤ 1000; decide)) v_nil)) e))
    rcases List.mem_cons.mp hd with rfl | hd
    · exact ⟨false, g', run, b⟩
    rcases List.mem_cons.mp hd with rfl | hd
    · exact ⟨false, g', run, b⟩
    rcases List.mem_cons.mp hd with rfl | hd
    · exact ⟨true, g', run, b⟩
    cases hd
theorem track_ok (kk : k + 120 < 2 ^ 60) (h : Bg k g) : ∃ (t : Tk) (g' : List PD), sem (n + 5) 66 [dBag, .int 4, .int 3, .int 0] g = .ok t.d g' ∧ t.ok ∧ t.ks.length ≤ 4 ∧ Bg (k + 39) g' := by
  obtain ⟨m, g1, e1, m0, m1, b1⟩ := take_ok (n := n + 3) (m := 4) (by decide) (by decide) (by omega) h
  obtain ⟨a, g2, e2, a0, a1, b2⟩ := take_ok (n := n + 3) (m := 4) (by decide) (by decide) (by omega) b1
  obtain ⟨c, rfl⟩ : ∃ c : Nat, m = (c : Nat) := ⟨m.toNat, by omega⟩
  have at0 : sem (n + 4) 51 [.int (a - 1), .int 2] g2 = .ok (fr (Rat.divInt (a - 1) 2)) g2 := lfrac_ok (n := n + 2) (by decide) (Nat.lt_of_lt_of_le (show (2 : Int).natAbs < 2 ^ 8 by decide) (Nat.pow_le_pow_right (by decide) (by decide)))
  have s0 : Sz 3 (Rat.divInt (a - 1) 2) := sz_divInt (by decide) (by omega) (by decide)
  have n1 : opF .add (.int 1) (.int (c : Nat)) = some (.int ((c + 1 : Nat) : Int)) := by
    show some (PyData.int (1 + ((c : Nat) : Int))) = _
    rw [show (1 : Int) + ((c : Nat) : Int) = ((c + 1 : Nat) : Int) by omega]
  obtain ⟨env', g3, lp, ks, t, s7, s8, s9, rfl, ht, hl, _, _, b3⟩ := fr_rangeG (S := ST k ((c + 1 : Nat) : Int)) (tg := .name 7) (body := fun e => evSs (sem (n + 4)) lwK (bOfF ir66) e) (m := c + 1) (fun j env g hj hS => track_step (n := n) (by omega) (by omega) hS) (env := [.d dBag, .d (.int 4), .d (.int 3), .d (.int 0), .d (.int ((c + 1 : Nat) : Int)), .d (fr (Rat.divInt (a - 1) 2)), .own [], .no, .no, .no]) (g := g2) ⟨[], _, _, _, _, rfl, ⟨fun A hA => (by cases hA), List.Pairwise.nil⟩, rfl, s0, fun A hA => (by cases hA), b2⟩
  obtain ⟨w, g4, e4, b4⟩ := word_ok (n := n) (c := c) (env := [.d dBag, .d (.int 4), .d (.int 3), .d (.int 0), .d (.int ((c + 1 : Nat) : Int)), .d (fr t), .d (.list (ks.map kyD)), s7, s8, s9]) rfl rfl (by omega) b3
  have ne : ks ≠ [] := fun z => by rw [z] at hl; cases hl
  refine ⟨⟨ks, w⟩, g4, ?_, ⟨ht, by show ks.length ≤ 20; omega, ne⟩, by show ks.length ≤ 4; omega, b4.up (by omega)⟩
  rw [sem_def rfl rfl (by decide)]
  refine w_F (w_nx (w_par3 (v_op2 v_lit (v_call (v_cons (v_var rfl) (v_cons (v_var rfl) v_nil)) e1) n1) rfl (v_call (v_cons (v_op2 (v_call (v_cons (v_var rfl) (v_cons v_lit v_nil)) e2) v_lit rfl) (v_cons v_lit v_nil)) at0) rfl (v_lst v_nil (by show 0 ≤ 1000; decide)) rfl ⟨by show 4 < 10; decide, by show 5 < 10; decide, by show 6 < 10; decide, by decide, by decide, by decide⟩) ?_)
  show evSs (sem (n + 4)) lwK _ [.d dBag, .d (.int 4), .d (.int 3), .d (.int 0), .d (.int ((c + 1 : Nat) : Int)), .d (fr (Rat.divInt (a - 1) 2)), .own [], .no, .no, .no] g2 = _
  refine w_nx (w_fr (i_range (v_var rfl) ⟨by omega, by omega⟩) lp) ?_
  exact w_frz rfl (w_rt (w_ret (v_tup (v_cons (v_blt (v_var rfl) rfl) (v_cons e4 v_nil)) (by show 2 ≤ 1000; decide))))
end
end G

/-! How large shown data are. -/
namespace G
open PySem PySem.Spec PyProof.Rows L2 Fq
structure Sh (d : PD) (n w : Nat) : Prop where
  nd : noD d = true
  cl : PyData.canLay0 d = true
  sw : PyData.showable d = true
  hd : PyData.hasDict d = false
  dp : PyData.depth d ≤ n
  wt : PyData.weight d ≤ w
structure Shs (ds : List PD) (n w : Nat) : Prop where
  nd : noDs ds = true
  cl : PyData.canLayAll0 ds = true
  sw : PyData.showableAll ds = true
  hd : PyData.hasDictAll ds = false
  dp : PyData.depthAll ds ≤ n
  wt : PyData.weightAll ds ≤ w
theorem Sh.mono {d : PD} {n w n' w' : Nat} (h : Sh d n w) (hn : n ≤ n') (hw : w ≤ w') : Sh d n' w' := ⟨h.nd, h.cl, h.sw, h.hd, Nat.le_trans h.dp hn, Nat.le_trans h.wt hw⟩
theorem Shs.mono {d : List PD} {n w n' w' : Nat} (h : Shs d n w) (hn : n ≤ n') (hw : w ≤ w') : Shs d n' w' := ⟨h.nd, h.cl, h.sw, h.hd, Nat.le_trans h.dp hn, Nat.le_trans h.wt hw⟩
theorem Sh.show {d : PD} {n w : Nat} (h : Sh d n w) (hn : n ≤ 64) (hw : w ≤ 2 ^ 20) : showOk d = true := by
  unfold showOk PyData.layable0 G.shp SeqAt.shaped
  rw [h.nd, h.sw, h.hd, h.cl, decide_eq_true (Nat.le_trans h.dp hn), decide_eq_true (Nat.le_trans h.wt hw)]
  rfl
theorem Shs.nil {n : Nat} : Shs [] n 0 := ⟨rfl, rfl, rfl, rfl, Nat.zero_le _, Nat.zero_le _⟩
theorem Shs.cons {d : PD} {ds : List PD} {n w v : Nat} (h : Sh d n w) (hs : Shs ds n v) : Shs (d :: ds) n (w + 1 + v) := by
  refine ⟨?_, ?_, ?_, ?_, ?_, ?_⟩
  · show (noD d && noDs ds) = true
    rw [h.nd, hs.nd]; rfl
  · simp only [PyData.canLayAll0, h.cl, hs.cl, Bool.and_self]
  · simp only [PyData.showableAll, h.sw, hs.sw, Bool.and_self]
  · simp only [PyData.hasDictAll, h.hd, hs.hd, Bool.or_self]
  · simp only [PyData.depthAll]
    exact Nat.max_le.mpr ⟨h.dp, hs.dp⟩
  · simp only [PyData.weightAll]
    have a := h.wt
    have b := hs.wt
    omega
theorem Shs.all {n w : Nat} : ∀ {ds : List PD}, (∀ d ∈ ds, Sh d n w) → Shs ds n (ds.length * (w + 1))
  | [], _ => Shs.nil.mono (Nat.le_refl _) (Nat.zero_le _)
  | d :: ds, h => by
    have q := Shs.cons (h d List.mem_cons_self) (Shs.all fun x hx => h x (List.mem_cons_of_mem _ hx))
    have e : (d :: ds).length * (w + 1) = w + 1 + ds.length * (w + 1) := by
      rw [List.length_cons, Nat.add_one_mul]
      omega
    rw [e]
    exact q
theorem Shs.app {n w v : Nat} : ∀ {ds es : List PD}, Shs ds n w → Shs es n v → Shs (ds ++ es) n (w + v)
  | [], es, _, h => h.mono (Nat.le_refl _) (Nat.le_add_left _ _)
  | d :: ds, es, h1, h2 => by
    have a := Bool.and_eq_true_iff.mp (show (noD d && noDs ds) = true from h1.nd)
    have b : PyData.canLay0 d = true ∧ PyData.canLayAll0 ds = true := by simpa only [PyData.canLayAll0, Bool.and_eq_true] using h1.cl
    have c : PyData.showable d = true ∧ PyData.showableAll ds = true := by simpa only [PyData.showableAll, Bool.and_eq_true] using h1.sw
    have e : PyData.hasDict d = false ∧ PyData.hasDictAll ds = false := by simpa only [PyData.hasDictAll, Bool.or_eq_false_iff] using h1.hd
    have f : PyData.depth d ≤ n ∧ PyData.depthAll ds ≤ n := by
      have := h1.dp
      simp only [PyData.depthAll] at this
      exact Nat.max_le.mp this
    have g := h1.wt
    simp only [PyData.weightAll] at g
    have ih := Shs.app (ds := ds) (es := es) (w := w - (PyData.weight d + 1)) (v := v) ⟨a.2, b.2, c.2, e.2, f.2, by omega⟩ h2
    exact (Shs.cons (d := d) (w := PyData.weight d) ⟨a.1, b.1, c.1, e.1, f.1, Nat.le_refl _⟩ ih).mono (Nat.le_refl _) (by omega)
theorem Sh.tup {ds : List PD} {n w : Nat} (h : Shs ds n w) : Sh (.tuple ds) (n + 1) w := by
  refine ⟨h.nd, ?_, ?_, ?_, ?_, ?_⟩
  · simp only [PyData.canLay0, h.cl]
  · simp only [PyData.showable, h.sw]
  · simp only [PyData.hasDict, h.hd]
  · have a := h.dp
    simp only [PyData.depth]
    omega
  · simp only [PyData.weight]
    exact h.wt
theorem sh_int {i : Int} {m n : Nat} (h : i.natAbs < 2 ^ m) (hm : m ≤ 1920) (h0 : 0 < m) : Sh (.int i) n m := by
  have l : i.natAbs.log2 < m := log_lt h h0
  refine ⟨rfl, rfl, ?_, rfl, Nat.zero_le _, ?_⟩
  · simp only [PyData.showable]
    exact decide_eq_true (by omega)
  · simp only [PyData.weight]
    split <;> omega
theorem sh_fr {q : Rat} {m n : Nat} (h : Sz m q) (hm : m ≤ 1920) (h0 : 0 < m) : Sh (fr q) (n + 1) (2 * m + 2) :=
  (Sh.tup (Shs.cons (sh_int (n := n) h.1 hm h0) (Shs.cons (sh_int (i := (q.den : Int)) (n := n) (by rw [Int.natAbs_natCast]; exact h.2) hm h0) .nil))).mono (Nat.le_refl _) (by show m + 1 + (m + 1 + 0) ≤ _; omega)
def shB (d : PD) (n w : Nat) : Bool := noD d && (PyData.canLay0 d && (PyData.showable d && (!PyData.hasDict d && (decide (PyData.depth d ≤ n) && decide (PyData.weight d ≤ w)))))
theorem Sh.ofB {d : PD} {n w : Nat} (h : shB d n w = true) : Sh d n w := by
  unfold shB at h
  simp only [Bool.and_eq_true, Bool.not_eq_true', decide_eq_true_eq] at h
  exact ⟨h.1, h.2.1, h.2.2.1, h.2.2.2.1, h.2.2.2.2.1, h.2.2.2.2.2⟩
/-- a key whose numbers can be shown -/
structure KySh (A : Ky) : Prop where
  t : Sz 1900 A.t
  v : Sz 1900 A.v
  c : CvSz 1900 A.c
theorem sh_cv {c : Cv} (h : CvSz 1900 c) : Sh (cvD c) 2 7620 := by
  cases c with
  | hold => exact Sh.ofB (by decide +kernel)
  | line => exact Sh.ofB (by decide +kernel)
  | ease => exact Sh.ofB (by decide +kernel)
  | curve x y =>
    have s : Sh sCurve 1 5 := Sh.ofB (by decide +kernel)
    exact (Sh.tup (Shs.cons s (Shs.cons (sh_fr (n := 0) h.1 (by decide) (by decide)) (Shs.cons (sh_fr (n := 0) h.2 (by decide) (by decide)) .nil)))).mono (by decide) (by decide)
theorem sh_ky {A : Ky} (h : KySh A) : Sh (kyD A) 3 15300 :=
  (Sh.tup (Shs.cons (sh_fr (n := 1) h.t (by decide) (by decide)) (Shs.cons (sh_fr (n := 1) h.v (by decide) (by decide)) (Shs.cons (sh_cv h.c) .nil)))).mono (by decide) (by decide)
theorem sh_tk {t : Tk} (h : ∀ A ∈ t.ks, KySh A) (hl : t.ks.length ≤ 12) : Sh t.d 5 184000 := by
  have m : Sh t.m 4 4 := by
    unfold Tk.m
    cases t.loop
    · exact Sh.ofB (by decide +kernel)
    · exact Sh.ofB (by decide +kernel)
  have k : Shs (t.ks.map kyD) 3 183612 := (Shs.all (w := 15300) fun d hd => by
    obtain ⟨A, hA, rfl⟩ := List.mem_map.mp hd
    exact sh_ky (h A hA)).mono (Nat.le_refl _) (by rw [List.length_map]; omega)
  exact (Sh.tup (Shs.cons (Sh.tup k) (Shs.cons m .nil))).mono (by decide) (by decide)
theorem sh_pa {p : Pa} (h : Shs p.h 5 200) (ht : ∀ t ∈ p.ts, (∀ A ∈ t.ks, KySh A) ∧ t.ks.length ≤ 12) (hl : p.ts.length ≤ 3) : Sh p.d 6 553000 := by
  have k : Shs (p.ts.map Tk.d) 5 552003 := (Shs.all (w := 184000) fun d hd => by
    obtain ⟨t, hT, rfl⟩ := List.mem_map.mp hd
    exact sh_tk (ht t hT).1 (ht t hT).2).mono (Nat.le_refl _) (by rw [List.length_map]; omega)
  exact (Sh.tup (h.app k)).mono (by decide) (by decide)
def sTold : PD := .str ⟨#[116, 111, 108, 100]⟩
theorem sh_told {p : Pa} (h : Shs p.h 5 200) (ht : ∀ t ∈ p.ts, (∀ A ∈ t.ks, KySh A) ∧ t.ks.length ≤ 12) (hl : p.ts.length ≤ 3) : showOk (.tuple [sTold, scD [p]]) = true := by
  have s : Sh sTold 7 4 := Sh.ofB (by decide +kernel)
  exact (Sh.tup (Shs.cons s (Shs.cons (Sh.tup (Shs.cons (sh_pa h ht hl) .nil)) .nil))).show (by decide) (by decide)
end G

/-! Retimed keys can be shown. -/
namespace G
open PySem PySem.Spec PyProof.Rows L2 Fq
theorem pairsW_mem {α β : Type} (h : α → α → β) : ∀ (l : List α) (x : β), x ∈ pairsW h l → ∃ i a b, l[i]? = some a ∧ l[i + 1]? = some b ∧ x = h a b
  | [], x, m => by cases m
  | [_], x, m => by cases m
  | a :: b :: s, x, m => by
    have m' : x ∈ h a b :: pairsW h (b :: s) := m
    rcases List.mem_cons.mp m' with e | m'
    · exact ⟨0, a, b, rfl, rfl, e⟩
    · obtain ⟨i, c, d, e1, e2, e3⟩ := pairsW_mem h (b :: s) x m'
      exact ⟨i + 1, c, d, by simpa using e1, by simpa using e2, e3⟩
section
variable {ps : List Pt} {r : Rat}
theorem crv_sz (hp : PsOk ps) (hr : Sz 20 r) (r0 : 0 < r) {A B : Ky} (ha : A.ok) (hb : B.ok) (h : A.c ≠ .hold) {a b : Rat} (sa : Sz 20 a) (sb : Sz 20 b) : CvSz 1900 (crvA ps r (segP A.t A.v A.c B.t B.v) a b) := by
  have ss := (slA_fact hp hr r0 (pcA_lt (w := true) (f := a) hp)).1
  rw [seg_led h]
  exact ⟨(Sz.mul (gr_val ha.t ha.v hb.t hb.v ha.c sa) ss).mono (by decide), (Sz.mul (gr_val ha.t ha.v hb.t hb.v ha.c sb) ss).mono (by decide)⟩
theorem cvsz_up {c : Cv} {n m : Nat} (h : CvSz n c) (l : n ≤ m) : CvSz m c := by
  cases c with
  | hold => trivial
  | line => trivial
  | ease => trivial
  | curve x y => exact ⟨h.1.mono l, h.2.mono l⟩
theorem key_sz (hp : PsOk ps) (hr : Sz 20 r) (r0 : 0 < r) {A B : Ky} (ha : A.ok) (hb : B.ok) {a b : Rat} (sa : Sz 20 a) (sb : Sz 20 b) (hv : a = A.t ∨ A.c ≠ .hold) : KySh (keyA ps r A B a b) := by
  refine ⟨(tm_sz hp hr r0 sa).mono (by decide), ?_, ?_⟩
  · show Sz 1900 (if a = A.t then A.v else evP a (segP A.t A.v A.c B.t B.v))
    by_cases z : a = A.t
    · rw [if_pos z]; exact ha.v.mono (by decide)
    · rw [if_neg z, seg_led (hv.resolve_left z)]
      exact (seg_val ha.t ha.v hb.t hb.v ha.c sa).mono (by decide)
  · show CvSz 1900 (curA ps r A.c (segP A.t A.v A.c B.t B.v) (mkA ps A B) a b)
    rw [curA_if]
    by_cases z : crvQ A.c (mkA ps A B) = true
    · rw [if_pos z]
      exact crv_sz hp hr r0 ha hb (fun e => by rw [e] at z; cases z) sa sb
    · rw [if_neg z]; exact cvsz_up ha.c (by decide)
theorem last_sz (hp : PsOk ps) (hr : Sz 20 r) (r0 : 0 < r) {A : Ky} (ha : A.ok) : KySh (lastA ps r A) := by
  obtain ⟨t, v, c⟩ := A
  have ss := (slA_fact hp hr r0 (pcA_lt (w := true) (f := t) hp)).1
  refine ⟨(tm_sz hp hr r0 ha.t).mono (by decide), ha.v.mono (by decide), ?_⟩
  cases c with
  | hold => trivial
  | line => trivial
  | ease => trivial
  | curve x y => exact ⟨(Sz.mul ha.c.1 ss).mono (by decide), (Sz.mul ha.c.2 ss).mono (by decide)⟩
theorem track_sz (hp : PsOk ps) (hr : Sz 20 r) (r0 : 0 < r) {ks : List Ky} (ht : TrOk ks) (h0 : ks ≠ []) : ∀ K ∈ trackA ps r ks, KySh K := by
  intro K hK
  have hl : 0 < ks.length := List.length_pos_iff.mpr h0
  unfold trackA at hK
  rcases List.mem_append.mp hK with m | m
  · unfold preA at m
    obtain ⟨l, hl1, m1⟩ := List.mem_flatten.mp m
    obtain ⟨i, hi, rfl⟩ := List.mem_map.mp hl1
    have hi' := List.mem_range.mp hi
    have ea := kA_at (ks := ks) (k := i) (by omega)
    have eb := kA_at (ks := ks) (k := i + 1) (by omega)
    have ha := ht.at ea
    have hb := ht.at eb
    have lt := ht.lt ea eb (Nat.lt_succ_self i)
    obtain ⟨j, a, b, e1, e2, rfl⟩ := pairsW_mem _ _ _ m1
    refine key_sz hp hr r0 ha hb (ends_mem hp ha hb lt (List.mem_of_getElem? e1)) (ends_mem hp ha hb lt (List.mem_of_getElem? e2)) ?_
    rcases low_mark e1 e2 with z | z
    · exact Or.inl z
    · exact Or.inr (mkA_mem hp z).2.2.2
  · rw [List.mem_singleton.mp m]
    exact last_sz hp hr r0 (ht.at (kA_at (by omega)))
/-- how many keys come -/
theorem keys_few (hp : PsOk ps) {A B : Ky} : (keysA ps r A B).length ≤ ps.length := by
  unfold keysA
  rw [pairsW_len]
  have h : (mksA ps A.t B.t).length ≤ ps.length - 1 := by
    unfold mksA
    refine Nat.le_trans (List.length_filter_le _ _) ?_
    rw [List.length_map, List.length_drop]
    exact Nat.le_refl _
  have m : (mkA ps A B).length ≤ ps.length - 1 := by
    unfold mkA
    cases A.c with
    | hold => exact Nat.zero_le _
    | line => exact h
    | ease => exact h
    | curve x y => exact h
  unfold endsA
  rw [List.length_append, List.length_append]
  show 1 + _ + 1 - 1 ≤ _
  have := List.length_pos_iff.mpr hp.ne
  omega
theorem pre_few (hp : PsOk ps) {ks : List Ky} : ∀ j, (preA ps r ks j).length ≤ ps.length * j
  | 0 => Nat.zero_le _
  | j + 1 => by
    rw [preA_succ, List.length_append, Nat.mul_succ]
    have h1 := pre_few hp (ks := ks) j
    have h2 := keys_few (ps := ps) (r := r) hp (A := kA ks j) (B := kA ks (j + 1))
    omega
theorem track_few (hp : PsOk ps) {ks : List Ky} (h1 : ps.length ≤ 3) (h2 : ks.length ≤ 4) : (trackA ps r ks).length ≤ 12 := by
  unfold trackA
  rw [List.length_append]
  have h := pre_few (r := r) hp (ks := ks) (ks.length - 1)
  have : ps.length * (ks.length - 1) ≤ 3 * 3 := Nat.mul_le_mul h1 (by omega)
  show _ + 1 ≤ 12
  omega
theorem track_one {A : Ky} : trackA ps r [A] = [lastA ps r A] := rfl
end
end G

/-! The lap: what is drawn. -/
namespace G
open PySem PySem.Spec PyProof.Rows L2 Fq
def EQ (s2 s3 s4 s5 s6 s7 s8 s9 s10 s11 s12 s13 s14 s15 : Sl) : EnvD := [.no, .d dBag, s2, s3, s4, s5, s6, s7, s8, s9, s10, s11, s12, s13, s14, s15, .no, .no, .no, .no, .no, .no]
def lapB : Ss := bOfF ir74
def stA : Ss → Nat → St
  | .cons s _, 0 => s
  | .cons _ r, k + 1 => stA r k
  | _, _ => .retN
/-- the same, played once -/
def Tk.once (t : Tk) : Tk := ⟨t.ks, false⟩
theorem Tk.once_ok {t : Tk} (h : t.ok) : t.once.ok := ⟨h.tr, h.len, h.ne⟩
section
variable {k : Nat} {g : List PD} {s2 s3 s4 s5 s6 s7 s8 s9 s10 s11 s12 s13 s14 s15 : Sl}
theorem lap0 (kk : k + 300 < 2 ^ 60) (h : Bg k g) : ∃ (t0 t1 : Tk) (g' : List PD), evS (sem 20) lwK (stA lapB 0) (EQ s2 s3 s4 s5 s6 s7 s8 s9 s10 s11 s12 s13 s14 s15) g = .ok (.nx (EQ s2 (.d (.list [t0.d, t1.d])) s4 s5 s6 s7 s8 s9 s10 s11 s12 s13 s14 s15)) g' ∧ t0.ok ∧ t1.ok ∧ t0.ks.length ≤ 4 ∧ t1.ks.length ≤ 4 ∧ Bg (k + 78) g' := by
  obtain ⟨t0, g1, e1, o1, l1, b1⟩ := track_ok (n := 15) (by omega) h
  obtain ⟨t1, g2, e2, o2, l2, b2⟩ := track_ok (n := 15) (by omega) b1
  refine ⟨t0, t1, g2, ?_, o1, o2, l1, l2, b2.up (by omega)⟩
  have it : evI (sem 20) lwK (.range (.lit (.int 2))) (EQ s2 s3 s4 s5 s6 s7 s8 s9 s10 s11 s12 s13 s14 s15) g = .ok [.int 0, .int 1] g := i_range v_lit ⟨by decide, by decide⟩
  have lc : evE (sem 20) lwK (.lcN (.call 66 (.cons (.var 1) (.cons (.lit (.int 4)) (.cons (.lit (.int 3)) (.cons (.lit (.int 0)) .nil))))) (.name 16) (.range (.lit (.int 2))) [16]) (EQ s2 s3 s4 s5 s6 s7 s8 s9 s10 s11 s12 s13 s14 s15) g = .ok (.list [t0.d, t1.d]) g2 :=
    v_lcN it ⟨by decide, by decide⟩ (mm_cons (noX_is (v_call (v_cons (v_var rfl) (v_cons v_lit (v_cons v_lit (v_cons v_lit v_nil)))) e1)) (mm_cons (noX_is (v_call (v_cons (v_var rfl) (v_cons v_lit (v_cons v_lit (v_cons v_lit v_nil)))) e2)) mm_nil))
  exact w_set lc
theorem lap1 {t0 t1 : Tk} (o0 : t0.ok) (o1 : t1.ok) (l0 : t0.ks.length ≤ 4) (l1 : t1.ks.length ≤ 4) (kk : k + 300 < 2 ^ 60) (h : Bg k g) : ∃ (u0 u1 : Tk) (g' : List PD), evS (sem 20) lwK (stA lapB 1) (EQ s2 (.d (.list [t0.d, t1.d])) s4 s5 s6 s7 s8 s9 s10 s11 s12 s13 s14 s15) g = .ok (.nx (EQ s2 (.d (.list [u0.d, u1.d])) s4 s5 s6 s7 s8 s9 s10 s11 s12 s13 s14 s15)) g' ∧ u0.ok ∧ u1.ok ∧ u0.ks.length ≤ 4 ∧ u1.ks.length ≤ 4 ∧ Bg (k + 1) g' := by
  obtain ⟨m, g1, e1, _, _, b1⟩ := take_ok (n := 19) (m := 2) (by decide) (by decide) (by omega) h
  have tst : ∀ {q : Bool}, opF .eq (.int m) (.int 0) = some (.bool q) → evT (sem 20) lwK (.val (.op2 .eq (.call 47 (.cons (.var 1) (.cons (.lit (.int 2)) .nil))) (.lit (.int 0)))) (EQ s2 (.d (.list [t0.d, t1.d])) s4 s5 s6 s7 s8 s9 s10 s11 s12 s13 s14 s15) g = .ok q g1 := fun {q} hq =>
    u_val (v_op2 (v_call (v_cons (v_var rfl) (v_cons v_lit v_nil)) e1) v_lit hq)
  by_cases z : m = 0
  · refine ⟨t0.once, t1.once, g1, ?_, Tk.once_ok o0, Tk.once_ok o1, l0, l1, b1⟩
    subst z
    have lc : evE (sem 20) lwK (.lcN (.tup (.cons (.var 9) (.cons (.lit sOnce) .nil))) (.tup (.cons (.name 9) (.cons (.name 18) .nil))) (.list (.var 3)) [9, 18]) (EQ s2 (.d (.list [t0.d, t1.d])) s4 s5 s6 s7 s8 s9 s10 s11 s12 s13 s14 s15) g1 = .ok (.list [t0.once.d, t1.once.d]) g1 :=
      v_lcN (i_list (v_var rfl)) ⟨by show 2 ≤ 1000000; decide, by decide⟩ (mm_cons (noX_is (v_tup (v_cons (v_var rfl) (v_cons v_lit v_nil)) (by show 2 ≤ 1000; decide))) (mm_cons (noX_is (v_tup (v_cons (v_var rfl) (v_cons v_lit v_nil)) (by show 2 ≤ 1000; decide))) mm_nil))
    exact w_ife (k := true) (tst rfl) (ifT.trans (w_nx (w_set lc) w_nil))
  · refine ⟨t0, t1, g1, ?_, o0, o1, l0, l1, b1⟩
    exact w_ife (k := false) (tst ((eqI _ _).trans (by rw [beq_eq_false_iff_ne.mpr z]))) (ifF.trans w_nil)
def oneL : List Rat := [2, 1 / 3]
theorem fr_third : fr (1 / 3) = .tuple [.int 1, .int 3] := by
  unfold fr
  rw [show ((1 : Rat) / 3).num = 1 by decide +kernel, show ((1 : Rat) / 3).den = 3 by decide +kernel]
  rfl
theorem psOk_one : PsOk [((0 : Rat), (0 : Rat))] := by
  have z1 : Sz 1 (0 : Rat) := SzC.h
  exact ⟨by simp, by decide, fun a ha => by rw [List.mem_singleton.mp ha]; exact z1.mono (by decide), fun a ha => by rw [List.mem_singleton.mp ha]; exact z1.mono (by decide), List.pairwise_singleton _ _, List.pairwise_singleton _ _⟩
theorem lap2 {T : Sl} (kk : k + 300 < 2 ^ 60) (h : Bg k g) : ∃ (ps : List Pt) (r : Rat) (g' : List PD), evS (sem 20) lwK (stA lapB 2) (EQ s2 T s4 s5 s6 s7 s8 s9 s10 s11 s12 s13 s14 s15) g = .ok (.nx (EQ s2 T (.d (clD ps r)) s5 s6 s7 s8 s9 s10 s11 s12 s13 s14 s15)) g' ∧ PsOk ps ∧ ps.length ≤ 3 ∧ Sz 20 r ∧ 0 < r ∧ Bg (k + 9) g' := by
  obtain ⟨m, g1, e1, _, _, b1⟩ := take_ok (n := 19) (m := 3) (by decide) (by decide) (by omega) h
  have tst : ∀ {q : Bool}, opF .gt (.int m) (.int 0) = some (.bool q) → evT (sem 20) lwK (.val (.op2 .gt (.call 47 (.cons (.var 1) (.cons (.lit (.int 3)) .nil))) (.lit (.int 0)))) (EQ s2 T s4 s5 s6 s7 s8 s9 s10 s11 s12 s13 s14 s15) g = .ok q g1 := fun {q} hq =>
    u_val (v_op2 (v_call (v_cons (v_var rfl) (v_cons v_lit v_nil)) e1) v_lit hq)
  by_cases z : 0 < m
  · obtain ⟨ps, r, g2, e2, hp, h3, hr, r0, b2⟩ := clock_ok (n := 15) (by omega) b1
    refine ⟨ps, r, g2, ?_, hp, h3, hr, r0, b2.up (by omega)⟩
    exact w_set (v_ite (k := true) (tst (by show some (PyData.bool (decide (0 < m))) = _; rw [decide_eq_true z])) (ifT.trans (v_call (v_cons (v_var rfl) v_nil) e2)))
  · obtain ⟨r, g2, e2, hr, b2⟩ := someq_ok (n := 18) (l := oneL) (by decide) (by decide) (by omega) b1
    have hr' : Sz 20 r ∧ 0 < r := by
      unfold oneL at hr
      simp at hr
      rcases hr with rfl | rfl <;> exact ⟨⟨by decide +kernel, by decide +kernel⟩, by decide +kernel⟩
    refine ⟨[(0, 0)], r, g2, ?_, psOk_one, by decide, hr'.1, hr'.2, b2.up (by omega)⟩
    have e : lf oneL = .list [.tuple [.int 2, .int 1], .tuple [.int 1, .int 3]] := by
      rw [← fr_third]
      rfl
    have el : ∀ {env : EnvD} {g : List PD}, evE (sem 20) lwK (.lst (.cons (.tup (.cons (.lit (.int 2)) (.cons (.lit (.int 1)) .nil))) (.cons (.tup (.cons (.lit (.int 1)) (.cons (.lit (.int 3)) .nil))) .nil))) env g = .ok (lf oneL) g := fun {env g} => by
      rw [e]
      exact v_lst (v_cons two_tup (v_cons two_tup v_nil)) (by show 2 ≤ 1000; decide)
    exact w_set (v_ite (k := false) (tst (by show some (PyData.bool (decide (0 < m))) = _; rw [decide_eq_false z])) (ifF.trans (v_tup (v_cons (v_tup (v_cons (v_tup (v_cons two_tup (v_cons two_tup v_nil)) (by show 2 ≤ 1000; decide)) v_nil) (by show 1 ≤ 1000; decide)) (v_cons (v_call (v_cons (v_var rfl) (v_cons el v_nil)) e2) v_nil)) (by show 2 ≤ 1000; decide))))
end
end G

/-! The lap: the drawn scene. -/
namespace G
open PySem PySem.Spec PyProof.Rows L2 Fq
def stillT (q : Rat) : Tk := ⟨[⟨0, q, .hold⟩], false⟩
def hA : List PD := [.str ⟨#[97]⟩, .none, .tuple [.str ⟨#[100, 105, 115, 99]⟩, .tuple [.int 1, .int 1]]]
def paA (t0 t1 : Tk) : Pa := ⟨hA, [t0, t1, stillT 1]⟩
theorem still_tk {q : Rat} (h : Sz 20 q) : (stillT q).ok := ⟨trOk_one ⟨(SzC.h (q := 0)).mono (by decide), h, trivial⟩, by show 1 ≤ 20; decide, fun z => by cases z⟩
theorem paA_ok {t0 t1 : Tk} (o0 : t0.ok) (o1 : t1.ok) : (paA t0 t1).ok := by
  refine ⟨rfl, fun t ht => ?_, by show 3 ≤ 20; decide⟩
  rcases List.mem_cons.mp ht with rfl | ht
  · exact o0
  rcases List.mem_cons.mp ht with rfl | ht
  · exact o1
  rw [List.mem_singleton.mp ht]
  exact still_tk ((SzC.h (q := 1)).mono (by decide))
section
variable {g : List PD} {s2 s5 s6 s7 s8 s9 s10 s11 s12 s13 s14 s15 : Sl} {t0 t1 : Tk} {ps : List Pt} {r : Rat}
theorem still20 {q : Rat} {x : PD} (e : x = fr q) : sem 20 67 [x] g = .ok (stillT q).d g := by
  subst e
  exact still_ok (n := 19)
theorem lap3 {C : Sl} : evS (sem 20) lwK (stA lapB 3) (EQ s2 (.d (.list [t0.d, t1.d])) C s5 s6 s7 s8 s9 s10 s11 s12 s13 s14 s15) g = .ok (.nx (EQ s2 (.d (.list [t0.d, t1.d])) C (.d (scD [paA t0 t1])) s6 s7 s8 s9 s10 s11 s12 s13 s14 s15)) g := by
  have c67 : ∀ {env : EnvD}, evE (sem 20) lwK (.call 67 (.cons (.tup (.cons (.lit (.int 1)) (.cons (.lit (.int 1)) .nil))) .nil)) env g = .ok (stillT 1).d g := v_call (v_cons two_tup v_nil) (still20 rfl)
  have i0 : opF .ix (.list [t0.d, t1.d]) (.int 0) = some t0.d := rfl
  have i1 : opF .ix (.list [t0.d, t1.d]) (.int 1) = some t1.d := rfl
  exact w_set (x := scD [paA t0 t1]) (v_tup (v_cons (v_tup (v_cons v_lit (v_cons v_lit (v_cons (v_tup (v_cons v_lit (v_cons two_tup v_nil)) (by show 2 ≤ 1000; decide)) (v_cons (v_op2 (v_var rfl) v_lit i0) (v_cons (v_op2 (v_var rfl) v_lit i1) (v_cons c67 v_nil)))))) (by show 6 ≤ 1000; decide)) v_nil) (by show 1 ≤ 1000; decide))
def stB (ps : List Pt) (r : Rat) : Bool := ((lsP ps r).length : Int) == 1
theorem lap4 (hp : PsOk ps) {T S : Sl} : evS (sem 20) lwK (stA lapB 4) (EQ s2 T (.d (clD ps r)) S s6 s7 s8 s9 s10 s11 s12 s13 s14 s15) g = .ok (.nx (EQ s2 T (.d (clD ps r)) S (.d (.bool (stB ps r))) s7 s8 s9 s10 s11 s12 s13 s14 s15)) g :=
  w_set (v_op2 (v_blt (v_op2 (v_call (v_cons (v_var rfl) v_nil) (lleast_ok (n := 14) hp)) v_lit rfl) len_P) v_lit (eqI _ _))
theorem loopw {t : Tk} {env : EnvD} (h : env[18]? = some (.d t.m)) : evT (sem 20) lwK (.val (.op2 .eq (.var 18) (.lit sLoop))) env g = .ok t.loop g := u_val (v_op2 (v_var h) v_lit loop_eq)
theorem shp_ws {l : List Tk} : shp (.list (l.map Tk.m)) = true := (wk_lst (n := 0) fun d hd => by
  obtain ⟨t, _, rfl⟩ := List.mem_map.mp hd
  unfold Tk.m
  cases t.loop
  · exact ⟨rfl, by decide +kernel, Nat.le_refl _⟩
  · exact ⟨rfl, by decide +kernel, Nat.le_refl _⟩).shp (by decide)
theorem lap5 {C S A : Sl} : evS (sem 20) lwK (stA lapB 5) (EQ s2 (.d (.list [t0.d, t1.d])) C S A s7 s8 s9 s10 s11 s12 s13 s14 s15) g = .ok (.nx (EQ s2 (.d (.list [t0.d, t1.d])) C S A (.d (.bool (t0.loop || t1.loop))) s8 s9 s10 s11 s12 s13 s14 s15)) g := by
  have lc : evE (sem 20) lwK (.lcf (.var 18) (.tup (.cons (.name 9) (.cons (.name 18) .nil))) (.list (.var 3)) (.val (.op2 .eq (.var 18) (.lit sLoop))) [9, 18]) (EQ s2 (.d (.list [t0.d, t1.d])) C S A s7 s8 s9 s10 s11 s12 s13 s14 s15) g = .ok (.list ((if t0.loop = true then some t0.m else none).toList ++ ((if t1.loop = true then some t1.m else none).toList ++ []))) g :=
    v_lcf (i_list (v_var rfl)) ⟨by show 2 ≤ 1000000; decide, by decide⟩ (mf_cons (lcf_one (loopw (t := t0) rfl) (v_var rfl)) (mf_cons (lcf_one (loopw (t := t1) rfl) (v_var rfl)) rfl))
  have nl : evE (sem 20) lwK (.lst .nil) (EQ s2 (.d (.list [t0.d, t1.d])) C S A s7 s8 s9 s10 s11 s12 s13 s14 s15) g = .ok (.list []) g := v_lst v_nil (by show 0 ≤ 1000; decide)
  have ne : opF .ne (.list ((if t0.loop = true then some t0.m else none).toList ++ ((if t1.loop = true then some t1.m else none).toList ++ []))) (.list []) = some (.bool (t0.loop || t1.loop)) := by
    show (if shp _ = true ∧ shp (.list []) = true then some (PyData.bool (!PyData.eqv _ (.list []))) else none) = _
    have s : shp (.list ((if t0.loop = true then some t0.m else none).toList ++ ((if t1.loop = true then some t1.m else none).toList ++ []))) = true := by
      cases t0.loop <;> cases t1.loop
      · rfl
      · exact shp_ws (l := [t1])
      · exact shp_ws (l := [t0])
      · exact shp_ws (l := [t0, t1])
    rw [if_pos ⟨s, rfl⟩, eqv_nil]
    cases t0.loop <;> cases t1.loop <;> rfl
  exact w_set (v_op2 lc nl ne)
theorem lap6 (hp : PsOk ps) (hr : Sz 20 r) (r0 : 0 < r) (o0 : t0.ok) (o1 : t1.ok) {T A B : Sl} : evS (sem 20) lwK (stA lapB 6) (EQ s2 T (.d (clD ps r)) (.d (scD [paA t0 t1])) A B s8 s9 s10 s11 s12 s13 s14 s15) g = .ok (.nx (EQ s2 T (.d (clD ps r)) (.d (scD [paA t0 t1])) A B (.d (scD [(paA t0 t1).re (lsP ps r) r])) s9 s10 s11 s12 s13 s14 s15)) g := by
  have ok := paA_ok o0 o1
  have inner : mapM' (fun d => match tgF (.name 21) d (wipeD ((wipeD (EQ s2 T (.d (clD ps r)) (.d (scD [paA t0 t1])) A B s8 s9 s10 s11 s12 s13 s14 s15) [17]).set 17 (.d (paA t0 t1).d)) [21]) with
      | some env' => evE (sem 20) lwK (.call 73 (.cons (.var 21) (.cons (.var 4) .nil))) env'
      | none => stk) ((paA t0 t1).ts.map Tk.d) g = .ok ((paA t0 t1).ts.map fun t => (⟨trackA (lsP ps r) r t.ks, t.loop⟩ : Tk).d) g := by
    refine mm_list _ fun t ht => ?_
    have tk := ok.ts t ht
    exact v_call (v_cons (v_var rfl) (v_cons (v_var rfl) v_nil)) (lown_ok (n := 12) hp hr r0 tk.tr tk.len tk.ne)
  have e : ((paA t0 t1).re (lsP ps r) r).d = .tuple ((paA t0 t1).h ++ (paA t0 t1).ts.map fun t => (⟨trackA (lsP ps r) r t.ks, t.loop⟩ : Tk).d) := by
    unfold Pa.re Pa.d
    rw [List.map_map]
    rfl
  have one : evE (sem 20) lwK (.op2 .add (.sl (.var 17) .nil (.cons (.lit (.int 3)) .nil)) (.blt .tup (.lc (.call 73 (.cons (.var 21) (.cons (.var 4) .nil))) (.name 21) (.tup (.sl (.var 17) (.cons (.lit (.int 3)) .nil) .nil)) [21]))) ((wipeD (EQ s2 T (.d (clD ps r)) (.d (scD [paA t0 t1])) A B s8 s9 s10 s11 s12 s13 s14 s15) [17]).set 17 (.d (paA t0 t1).d)) g = .ok ((paA t0 t1).re (lsP ps r) r).d g := by
    rw [e]
    exact v_op2 (v_sl (v_var rfl) v_on (v_os v_lit) (take3 ok)) (v_blt (v_lc (g2 := g) (i_tup (v_sl (v_var rfl) (v_os v_lit) v_on (drop3 ok))) ⟨by show 3 ≤ 1000000; decide, by decide⟩ inner) rfl) (add_TT (by show 3 + 3 ≤ _; decide))
  exact w_set (v_blt (v_lc (i_tup (v_var rfl)) ⟨by show 1 ≤ 1000000; decide, by decide⟩ (mm_cons one mm_nil)) rfl)
end
end G

/-! What is heard; what is alike. -/
namespace G
open PySem PySem.Spec PyProof.Rows L2 Fq
mutual
theorem sameD_refl : ∀ d : PD, noD d = true → sameD d d = true
  | .none, _ => rfl
  | .bool b, _ => by show (b == b) = true; exact beq_self_eq_true b
  | .int b, _ => by show (b == b) = true; exact beq_self_eq_true b
  | .str b, _ => by show (b == b) = true; exact beq_self_eq_true b
  | .list ds, h => sameDs_refl ds h
  | .tuple ds, h => sameDs_refl ds h
  | .dict _, h => by cases h
theorem sameDs_refl : ∀ ds : List PD, noDs ds = true → sameDs ds ds = true
  | [], _ => rfl
  | d :: ds, h => by
    have q := Bool.and_eq_true_iff.mp (show (noD d && noDs ds) = true from h)
    show (sameD d d && sameDs ds ds) = true
    rw [sameD_refl d q.1, sameDs_refl ds q.2]
    rfl
end
theorem showOk_noD {a : PD} (h : showOk a = true) : noD a = true := by
  unfold showOk at h
  simp only [Bool.and_eq_true] at h
  have q := h.1
  unfold shp at q
  exact (Bool.and_eq_true_iff.mp q).1
def sRef : PD := .str ⟨#[114, 101, 102, 117, 115, 101, 100]⟩
def sNoth : PD := .str ⟨#[78, 111, 116, 104, 105, 110, 103]⟩
def sBig : PD := .str ⟨#[84, 111, 111, 76, 97, 114, 103, 101]⟩
def sKeys : PD := .str ⟨#[107, 101, 121, 115]⟩
def dNoth : PD := .tuple [sRef, sNoth, .none]
def dBig : PD := .tuple [sRef, sBig, sKeys]
theorem show_noth : showOk dNoth = true := by decide +kernel
theorem show_big : showOk dBig = true := by decide +kernel
section
variable {n : Nat} {g g1 g2 : List PD} {env : EnvD}
theorem alike_ok {a : PD} (h : showOk a = true) (hi : (items a).isSome = true) : sem (n + 1) 49 [a, a] g = .ok (.bool true) g := by
  unfold sem
  rw [if_pos (show [a, a].length = ar 49 from rfl)]
  show (if showOk a = true ∧ sameD a a = true ∧ (items a).isSome = true then ret (.bool true) else stk : M PD) g = _
  rw [if_pos ⟨h, sameD_refl a (showOk_noD h), hi⟩]
  rfl
theorem v_heard {Fn : Nat → List PD → M PD} {e : Ex} {d : PD} (h : evE Fn lwK e env g = .ok d g1) : evE Fn lwK (.heard e) env g = .ok (.tuple [sTold, d]) g1 := by
  unfold evE
  rw [h]
  rfl
theorem v_heardX {Fn : Nat → List PD → M PD} {e : Ex} {x : Xn} {d : PD} (h : evE Fn lwK e env g = .exn x g1) (hx : hearF x = some d) : evE Fn lwK (.heard e) env g = .ok d g1 := by
  unfold evE
  rw [h]
  show (match hearF x with | some d => Out.ok d g1 | none => .stuck) = _
  rw [hx]
theorem hear0 : hearF ⟨0, []⟩ = some dNoth := rfl
theorem hearB : hearF xBig = some dBig := by
  show (if (⟨#[119, 104, 97, 116]⟩ : Str) = "what" ∧ (⟨#[108, 105, 109, 105, 116]⟩ : Str) = "limit" ∧ isFl (.str ⟨#[107, 101, 121, 115]⟩) = true then some (PyData.tuple [.str "refused", .str "TooLarge", .str ⟨#[107, 101, 121, 115]⟩]) else none) = _
  rw [if_pos ⟨by decide +kernel, by decide +kernel, rfl⟩]
  rfl
theorem w_alike {a b : Ex} {d : PD} (ha : evE (sem (n + 1)) lwK a env g = .ok d g1) (hb : evE (sem (n + 1)) lwK b env g1 = .ok d g2) (h : showOk d = true) (hi : (items d).isSome = true) {r : Ss} : evS (sem (n + 1)) lwK (.ife (.not (.val (.call 49 (.cons a (.cons b .nil))))) r .nil) env g = .ok (.nx env) g2 :=
  w_ife (k := false) (u_not (k := true) (u_val (v_call (v_cons ha (v_cons hb v_nil)) (alike_ok h hi)))) (ifF.trans w_nil)
end
section
variable {g : List PD} {s2 s9 s10 s11 s12 s13 s14 s15 : Sl} {t0 t1 : Tk} {ps : List Pt} {r : Rat}
theorem paA_all {p : Pa} (h : p.ok) : ∀ q ∈ [p], q.ok := fun q hq => by rw [List.mem_singleton.mp hq]; exact h
theorem lap7 (hp : PsOk ps) (h3 : ps.length ≤ 3) (hr : Sz 20 r) (r0 : 0 < r) (o0 : t0.ok) (o1 : t1.ok) (l0 : t0.ks.length ≤ 4) (l1 : t1.ks.length ≤ 4) {T : Sl} : evS (sem 20) lwK (stA lapB 7) (EQ s2 T (.d (clD ps r)) (.d (scD [paA t0 t1])) (.d (.bool (stB ps r))) (.d (.bool (t0.loop || t1.loop))) (.d (scD [(paA t0 t1).re (lsP ps r) r])) s9 s10 s11 s12 s13 s14 s15) g = .ok (.nx (EQ s2 T (.d (clD ps r)) (.d (scD [paA t0 t1])) (.d (.bool (stB ps r))) (.d (.bool (t0.loop || t1.loop))) (.d (scD [(paA t0 t1).re (lsP ps r) r])) s9 s10 s11 s12 s13 s14 s15)) g := by
  have ok := paA_ok o0 o1
  have al : anyLoop [paA t0 t1] = (t0.loop || t1.loop) := by
    show (t0.loop || (t1.loop || (false || false))) = _
    cases t0.loop <;> cases t1.loop <;> rfl
  have hq := lsP_ok (r := r) hp
  have h3' : (lsP ps r).length ≤ 3 := Nat.le_trans lsP_len h3
  by_cases z : (t0.loop || t1.loop) = true ∧ stB ps r = false
  · have n1 : (lsP ps r).length ≠ 1 := fun e => by
      have := z.2
      unfold stB at this
      rw [e] at this
      cases this
    have c45 : evE (sem 20) lwK (.call 45 (.cons (.var 5) (.cons (.var 4) .nil))) (EQ s2 T (.d (clD ps r)) (.d (scD [paA t0 t1])) (.d (.bool (stB ps r))) (.d (.bool (t0.loop || t1.loop))) (.d (scD [(paA t0 t1).re (lsP ps r) r])) s9 s10 s11 s12 s13 s14 s15) g = .exn ⟨0, []⟩ g :=
      v_call (v_cons (v_var rfl) (v_cons (v_var rfl) v_nil)) (retimed_no (n := 8) hp (paA_all ok) (by show 1 ≤ 20; decide) n1 (al.trans z.1))
    refine w_alike (n := 19) (d := dNoth) (v_heardX c45 hear0) (v_ite (k := true) ?_ (ifT.trans (v_tup (v_cons v_lit (v_cons v_lit (v_cons v_lit v_nil))) (by show 3 ≤ 1000; decide)))) show_noth rfl
    exact u_and (k := true) (u_val (v_var (by rw [z.1]; rfl))) (ifT.trans (u_not (k := false) (u_val (v_var (by rw [z.2]; rfl)))))
  · have h1 : (lsP ps r).length = 1 ∨ anyLoop [paA t0 t1] = false := by
      rw [al]
      by_cases y : (lsP ps r).length = 1
      · exact Or.inl y
      · refine Or.inr ?_
        have : stB ps r = false := beq_eq_false_iff_ne.mpr (by omega)
        cases e : (t0.loop || t1.loop)
        · rfl
        · exact absurd ⟨e, this⟩ z
    have few : ∀ t ∈ [t0, t1, stillT 1], t.ok ∧ t.ks.length ≤ 4 := fun t ht => by
      rcases List.mem_cons.mp ht with rfl | ht
      · exact ⟨o0, l0⟩
      rcases List.mem_cons.mp ht with rfl | ht
      · exact ⟨o1, l1⟩
      rw [List.mem_singleton.mp ht]
      exact ⟨still_tk ((SzC.h (q := 1)).mono (by decide)), by decide⟩
    have c45 : evE (sem 20) lwK (.call 45 (.cons (.var 5) (.cons (.var 4) .nil))) (EQ s2 T (.d (clD ps r)) (.d (scD [paA t0 t1])) (.d (.bool (stB ps r))) (.d (.bool (t0.loop || t1.loop))) (.d (scD [(paA t0 t1).re (lsP ps r) r])) s9 s10 s11 s12 s13 s14 s15) g = .ok (scD [(paA t0 t1).re (lsP ps r) r]) g := by
      refine v_call (v_cons (v_var rfl) (v_cons (v_var rfl) v_nil)) (retimed_ok (n := 8) hp hr r0 (paA_all ok) (by show 1 ≤ 20; decide) h1 (fun p hp' t ht => ?_) fun p hp' t ht hl => ?_)
      · rw [List.mem_singleton.mp hp'] at ht
        exact track_few hq h3' (few t ht).2
      · rw [List.mem_singleton.mp hp'] at ht
        rcases h1 with h1 | h1
        · exact h1
        · exfalso
          have : anyLoop [paA t0 t1] = true := by
            unfold anyLoop
            refine List.any_eq_true.mpr ⟨true, List.mem_flatten.mpr ⟨(paA t0 t1).ts.map Tk.loop, List.mem_cons_self, ?_⟩, rfl⟩
            exact hl ▸ List.mem_map_of_mem ht
          rw [this] at h1
          cases h1
    have sh : showOk (.tuple [sTold, scD [(paA t0 t1).re (lsP ps r) r]]) = true := by
      refine sh_told (p := (paA t0 t1).re (lsP ps r) r) ?_ (fun t ht => ?_) (by show 3 ≤ 3; decide)
      · exact Shs.cons (w := 1) (v := 198) (Sh.ofB (by decide +kernel)) (Shs.cons (w := 0) (v := 197) (Sh.ofB (by decide +kernel)) (Shs.cons (w := 196) (v := 0) (Sh.ofB (by decide +kernel)) .nil))
      · obtain ⟨u, hu, rfl⟩ := List.mem_map.mp ht
        have f := few u hu
        exact ⟨track_sz hq hr r0 f.1.tr f.1.ne, track_few hq h3' f.2⟩
    refine w_alike (n := 19) (v_heard c45) (v_ite (k := false) ?_ (ifF.trans (v_tup (v_cons v_lit (v_cons (v_var rfl) v_nil)) (by show 2 ≤ 1000; decide)))) sh rfl
    have a : evT (sem 20) lwK (.val (.var 7)) (EQ s2 T (.d (clD ps r)) (.d (scD [paA t0 t1])) (.d (.bool (stB ps r))) (.d (.bool (t0.loop || t1.loop))) (.d (scD [(paA t0 t1).re (lsP ps r) r])) s9 s10 s11 s12 s13 s14 s15) g = .ok (t0.loop || t1.loop) g := u_val (v_var rfl)
    have b : evT (sem 20) lwK (.val (.var 6)) (EQ s2 T (.d (clD ps r)) (.d (scD [paA t0 t1])) (.d (.bool (stB ps r))) (.d (.bool (t0.loop || t1.loop))) (.d (scD [(paA t0 t1).re (lsP ps r) r])) s9 s10 s11 s12 s13 s14 s15) g = .ok (stB ps r) g := u_val (v_var rfl)
    have c := u_and2 a (u_not b)
    have e : ((t0.loop || t1.loop) && !stB ps r) = false := by
      cases x : (t0.loop || t1.loop)
      · rfl
      · cases y : stB ps r
        · exact absurd ⟨x, y⟩ z
        · rfl
    rw [e] at c
    exact c
end
end G

/-! The lap: the bent clock, the keys of the long scene. -/
namespace G
open PySem PySem.Spec PyProof.Rows L2 Fq
instance {n : Nat} {q : Rat} : Decidable (Sz n q) := by unfold Sz; infer_instance
theorem fr_i {i : Int} : fr (i : Rat) = .tuple [.int i, .int 1] := by
  unfold fr
  rw [Rat.num_intCast, Rat.den_intCast]
  rfl
def topI (k : Nat) : Int := 3 * (k : Nat) + (k : Nat) * (k : Nat) + (if decide ((0 : Int) < (k : Nat)) = true then 1 else 0)
def bentP : List Pt := (List.range 5).map fun k => (((2 * (k : Nat) : Int) : Rat), Rat.divInt (topI k) 2)
def ptI (k : Nat) : PD := .tuple [.tuple [.int (2 * (k : Nat)), .int 1], .tuple [.int (topI k), .int 2]]
theorem bent_ok : PsOk bentP where
  ne := by decide +kernel
  len := by decide +kernel
  sz1 := by decide +kernel
  sz2 := by decide +kernel
  up1 := by decide +kernel
  up2 := by decide +kernel
theorem bent_len : (lsP bentP 5).length ≠ 1 := by decide +kernel
theorem bent_tm : tmA (lsP bentP 5) 5 0 = 0 := by decide +kernel
theorem five_ok : Sz 20 (5 : Rat) ∧ (0 : Rat) < 5 := by decide +kernel
theorem bent_still {q : Rat} : trackA (lsP bentP 5) 5 (stillT q).ks = (stillT q).ks := by
  show [(⟨tmA (lsP bentP 5) 5 0, q, .hold⟩ : Ky)] = _
  rw [bent_tm]
  rfl
section
variable {γ : Type} {g g1 g2 : List PD}
theorem mm_snoc {f : PD → M γ} {x : PD} {y : γ} : ∀ {xs : List PD} {ys : List γ} {g g1 g2 : List PD}, mapM' f xs g = .ok ys g1 → f x g1 = .ok y g2 → mapM' f (xs ++ [x]) g = .ok (ys ++ [y]) g2
  | [], ys, g, g1, g2, h, hx => by
    cases h
    exact mm_cons hx mm_nil
  | a :: xs, ys, g, g1, g2, h, hx => by
    have h' : (f a g).bnd (fun y => bnd (mapM' f xs) fun ys => ret (y :: ys)) = .ok ys g1 := h
    cases e : f a g with
    | stuck => rw [e] at h'; cases h'
    | exn x g3 => rw [e] at h'; cases h'
    | ok b g3 =>
      rw [e] at h'
      have h2 : (mapM' f xs g3).bnd (fun ys => ret (b :: ys)) = .ok ys g1 := h'
      cases e2 : mapM' f xs g3 with
      | stuck => rw [e2] at h2; cases h2
      | exn x g4 => rw [e2] at h2; cases h2
      | ok bs g4 =>
        rw [e2] at h2
        cases h2
        exact mm_cons e (mm_snoc e2 hx)
theorem mm_rangeG {f : PD → M γ} {S : Nat → List γ → List PD → Prop} {m : Nat} (h : ∀ j l g, j < m → S j l g → ∃ y g2, f (.int (j : Nat)) g = .ok y g2 ∧ S (j + 1) (l ++ [y]) g2) {g : List PD} (h0 : S 0 [] g) :
    ∃ l g', mapM' f ((List.range m).map fun k => .int (k : Nat)) g = .ok l g' ∧ S m l g' := by
  have key : ∀ j, j ≤ m → ∃ l g', mapM' f ((List.range j).map fun k => .int (k : Nat)) g = .ok l g' ∧ S j l g' := by
    intro j
    induction j with
    | zero => exact fun _ => ⟨[], g, rfl, h0⟩
    | succ j ih =>
      intro hj
      obtain ⟨l, g1, h1, h2⟩ := ih (by omega)
      obtain ⟨y, g2, h3, h4⟩ := h j l g1 hj h2
      refine ⟨l ++ [y], g2, ?_, h4⟩
      rw [List.range_succ, List.map_append]
      exact mm_snoc h1 h3
  exact key m (Nat.le_refl _)
end
section
variable {k : Nat} {g : List PD} {s2 s3 s4 s5 s6 s7 s8 s9 s10 s11 s12 s13 s14 s15 : Sl}
theorem crv3_ok (kk : k < 2 ^ 60) (h : Bg k g) : ∃ c g', sem 20 48 [dBag, .list [cvD .line, cvD .hold, cvD .ease]] g = .ok (cvD c) g' ∧ CvSz 20 c ∧ Bg (k + 1) g' := by
  obtain ⟨d, g', e, hd, b⟩ := some_ok (n := 18) (ds := [cvD .line, cvD .hold, cvD .ease]) (by decide) (by decide) kk h
  have : ∃ c, d = cvD c ∧ CvSz 20 c := by
    rcases List.mem_cons.mp hd with rfl | hd
    · exact ⟨.line, rfl, trivial⟩
    rcases List.mem_cons.mp hd with rfl | hd
    · exact ⟨.hold, rfl, trivial⟩
    rcases List.mem_cons.mp hd with rfl | hd
    · exact ⟨.ease, rfl, trivial⟩
    cases hd
  obtain ⟨c, rfl, hc⟩ := this
  exact ⟨c, g', e, hc, b⟩
def SK (k : Nat) (j : Nat) (l : List PD) (g : List PD) : Prop := ∃ ks : List Ky, l = ks.map kyD ∧ TrOk ks ∧ ks.length = j ∧ (∀ A ∈ ks, A.t < ((j : Int) : Rat)) ∧ Bg (k + j) g
theorem lap8 (kk : k + 300 < 2 ^ 60) (h : Bg k g) : ∃ (ks : List Ky) (g' : List PD), evS (sem 20) lwK (stA lapB 8) (EQ s2 s3 s4 s5 s6 s7 s8 s9 s10 s11 s12 s13 s14 s15) g = .ok (.nx (EQ s2 s3 s4 s5 s6 s7 s8 (.d (.tuple (ks.map kyD))) s10 s11 s12 s13 s14 s15)) g' ∧ TrOk ks ∧ 9 ≤ ks.length ∧ ks.length ≤ 12 ∧ Bg (k + 13) g' := by
  obtain ⟨m, g1, e1, m0, m1, b1⟩ := take_ok (n := 19) (m := 4) (by decide) (by decide) (by omega) h
  obtain ⟨c, rfl⟩ : ∃ c : Nat, m = (c : Nat) := ⟨m.toNat, by omega⟩
  have add9 : opF .add (.int 9) (.int (c : Nat)) = some (.int ((c + 9 : Nat) : Int)) := by
    show some (PyData.int (9 + ((c : Nat) : Int))) = _
    rw [show (9 : Int) + ((c : Nat) : Int) = ((c + 9 : Nat) : Int) by omega]
  obtain ⟨l, g2, e2, ks, rfl, ht, hl, _, b2⟩ := mm_rangeG (g := g1) (m := c + 9) (S := SK (k + 1)) (f := fun d => match tgF (.name 16) d (wipeD (EQ s2 s3 s4 s5 s6 s7 s8 s9 s10 s11 s12 s13 s14 s15) [16]) with
      | some env' => evE (sem 20) lwK (.tup (.cons (.tup (.cons (.var 16) (.cons (.lit (.int 1)) .nil))) (.cons (.tup (.cons (.op2 .mod (.var 16) (.lit (.int 3))) (.cons (.lit (.int 1)) .nil))) (.cons (.call 48 (.cons (.var 1) (.cons (.lst (.cons (.tup (.cons (.lit sLine) .nil)) (.cons (.tup (.cons (.lit sHold) .nil)) (.cons (.tup (.cons (.lit sEase) .nil)) .nil)))) .nil))) .nil)))) env'
      | none => stk) (fun j l g hj hS => by
        obtain ⟨ks, rfl, ht, hl, low, b⟩ := hS
        obtain ⟨cv, g3, e3, hc, b3⟩ := crv3_ok (by omega) b
        have md : opF .mod (.int (j : Nat)) (.int 3) = some (.int (Int.fmod (j : Nat) 3)) := modI_ok (by decide)
        have fm := fm_lt (i := ((j : Nat) : Int)) (j := 3) (by decide)
        have st : Sz 20 (((j : Nat) : Int) : Rat) := by
          refine ⟨?_, ?_⟩
          · rw [Rat.num_intCast]; omega
          · rw [Rat.den_intCast]; decide
        have sv : Sz 20 ((Int.fmod ((j : Nat) : Int) 3 : Int) : Rat) := by
          refine ⟨?_, ?_⟩
          · rw [Rat.num_intCast]; omega
          · rw [Rat.den_intCast]; decide
        refine ⟨kyD ⟨(((j : Nat) : Int) : Rat), ((Int.fmod ((j : Nat) : Int) 3 : Int) : Rat), cv⟩, g3, ?_, ks ++ [⟨(((j : Nat) : Int) : Rat), ((Int.fmod ((j : Nat) : Int) 3 : Int) : Rat), cv⟩], by rw [List.map_append]; rfl, trOk_snoc ht ⟨st, sv, hc⟩ low, by rw [List.length_append, hl]; rfl, fun A hA => ?_, b3.up (by omega)⟩
        · unfold kyD
          rw [fr_i, fr_i]
          exact v_tup (v_cons (v_tup (v_cons (v_var rfl) (v_cons v_lit v_nil)) (by show 2 ≤ 1000; decide)) (v_cons (v_tup (v_cons (v_op2 (v_var rfl) v_lit md) (v_cons v_lit v_nil)) (by show 2 ≤ 1000; decide)) (v_cons (v_call (v_cons (v_var rfl) (v_cons (v_lst (v_cons one_tup (v_cons one_tup (v_cons one_tup v_nil))) (by show 3 ≤ 1000; decide)) v_nil)) e3) v_nil))) (by show 3 ≤ 1000; decide)
        · have up : (((j : Nat) : Int) : Rat) < (((j + 1 : Nat) : Int) : Rat) := Rat.intCast_lt_intCast.mpr (by omega)
          rcases List.mem_append.mp hA with m | m
          · have := low A m
            grind
          · rw [List.mem_singleton.mp m]; exact up) ⟨[], rfl, ⟨fun A hA => (by cases hA), List.Pairwise.nil⟩, rfl, fun A hA => (by cases hA), b1⟩
  refine ⟨ks, g2, ?_, ht, by omega, by omega, b2.up (by omega)⟩
  exact w_set (v_blt (v_lc (i_range (v_op2 v_lit (v_call (v_cons (v_var rfl) (v_cons v_lit v_nil)) e1) add9) ⟨by omega, by omega⟩) ⟨by rw [List.length_map, List.length_range]; show c + 9 ≤ _; omega, by decide⟩ e2) rfl)
theorem lap9 : evS (sem 20) lwK (stA lapB 9) (EQ s2 s3 s4 s5 s6 s7 s8 s9 s10 s11 s12 s13 s14 s15) g = .ok (.nx (EQ s2 s3 s4 s5 s6 s7 s8 s9 (.d (.tuple ((List.range 5).map ptI))) s11 s12 s13 s14 s15)) g := by
  have it : evI (sem 20) lwK (.range (.lit (.int 5))) (EQ s2 s3 s4 s5 s6 s7 s8 s9 s10 s11 s12 s13 s14 s15) g = .ok ((List.range 5).map fun k => .int (k : Nat)) g := i_range v_lit ⟨by decide, by decide⟩
  refine w_set (v_blt (v_lc (ys := (List.range 5).map ptI) (g2 := g) it ⟨by decide, by decide⟩ (mm_list _ fun j hj => ?_)) rfl)
  have hj' := List.mem_range.mp hj
  have m1 : opF .mul (.int 2) (.int (j : Nat)) = some (.int (2 * (j : Nat))) := mulI_ok ⟨by decide, by omega⟩
  have m2 : opF .mul (.int 3) (.int (j : Nat)) = some (.int (3 * (j : Nat))) := mulI_ok ⟨by decide, by omega⟩
  have m3 : opF .mul (.int (j : Nat)) (.int (j : Nat)) = some (.int ((j : Nat) * (j : Nat))) := mulI_ok ⟨by omega, by omega⟩
  exact v_tup (v_cons (v_tup (v_cons (v_op2 v_lit (v_var rfl) m1) (v_cons v_lit v_nil)) (by show 2 ≤ 1000; decide)) (v_cons (v_tup (v_cons (v_op2 (v_op2 (v_op2 v_lit (v_var rfl) m2) (v_op2 (v_var rfl) (v_var rfl) m3) rfl) (v_blt (v_op2 (v_var rfl) v_lit (gtI_is _ _)) rfl) rfl) (v_cons v_lit v_nil)) (by show 2 ≤ 1000; decide)) v_nil)) (by show 2 ≤ 1000; decide)
theorem lap10 : evS (sem 20) lwK (stA lapB 10) (EQ s2 s3 s4 s5 s6 s7 s8 s9 (.d (.tuple ((List.range 5).map ptI))) s11 s12 s13 s14 s15) g = .ok (.nx (EQ s2 s3 s4 s5 s6 s7 s8 s9 (.d (.tuple ((List.range 5).map ptI))) (.d (clD bentP 5)) s12 s13 s14 s15)) g := by
  have lc : evE (sem 20) lwK (.lc (.tup (.cons (.var 19) (.cons (.call 51 (.cons (.op2 .ix (.var 20) (.lit (.int 0))) (.cons (.op2 .ix (.var 20) (.lit (.int 1))) .nil))) .nil))) (.tup (.cons (.name 19) (.cons (.name 20) .nil))) (.tup (.var 10)) [19, 20]) (EQ s2 s3 s4 s5 s6 s7 s8 s9 (.d (.tuple ((List.range 5).map ptI))) s11 s12 s13 s14 s15) g = .ok (.list (bentP.map ptD)) g := by
    unfold bentP
    rw [List.map_map]
    refine v_lc (g2 := g) (i_tup (v_var rfl)) ⟨by decide, by decide⟩ (mm_list _ fun j hj => ?_)
    have e : sem 20 51 [.int (topI j), .int 2] g = .ok (fr (Rat.divInt (topI j) 2)) g := lfrac_ok (n := 18) (by decide) (Nat.lt_of_lt_of_le (show (2 : Int).natAbs < 2 ^ 8 by decide) (Nat.pow_le_pow_right (by decide) (by decide)))
    show _ = Out.ok (PyData.tuple [fr ((2 * (j : Nat) : Int) : Rat), fr (Rat.divInt (topI j) 2)]) g
    rw [fr_i]
    exact v_tup (v_cons (v_var rfl) (v_cons (v_call (v_cons (v_op2 (v_var rfl) v_lit rfl) (v_cons (v_op2 (v_var rfl) v_lit rfl) v_nil)) e) v_nil)) (by show 2 ≤ 1000; decide)
  exact w_set (v_tup (v_cons (v_blt lc rfl) (v_cons two_tup v_nil)) (by show 2 ≤ 1000; decide))
end
end G

/-! The lap: the long scene by the bent clock. -/
namespace G
open PySem PySem.Spec PyProof.Rows L2 Fq
def hB : List PD := [.str ⟨#[98]⟩, .none, .tuple [.str ⟨#[112, 111, 105, 110, 116]⟩]]
def hC : List PD := [.str ⟨#[99]⟩, .none, .tuple [.str ⟨#[112, 111, 105, 110, 116]⟩]]
def paB (ks : List Ky) : Pa := ⟨hB, [stillT 0, ⟨ks, false⟩, stillT 1]⟩
def paC (ks : List Ky) : Pa := ⟨hC, [⟨ks.take 2, true⟩, stillT 0, stillT 1]⟩
theorem st0 : (stillT 0).ok := still_tk ((SzC.h (q := 0)).mono (by decide))
theorem st1 : (stillT 1).ok := still_tk ((SzC.h (q := 1)).mono (by decide))
section
variable {g : List PD} {s2 s3 s4 s5 s6 s7 s8 s10 s12 s13 s14 s15 : Sl} {ks : List Ky}
theorem tkB (ht : TrOk ks) (h9 : 9 ≤ ks.length) (h12 : ks.length ≤ 12) : (⟨ks, false⟩ : Tk).ok := ⟨ht, by show ks.length ≤ 20; omega, fun z => by
  have z' : ks = [] := z
  rw [z'] at h9
  cases h9⟩
theorem tkC (ht : TrOk ks) (h9 : 9 ≤ ks.length) : (⟨ks.take 2, true⟩ : Tk).ok := by
  refine ⟨⟨fun A hA => ht.1 A (List.mem_of_mem_take hA), ht.2.sublist (List.take_sublist _ _)⟩, ?_, fun z => ?_⟩
  · show (ks.take 2).length ≤ 20
    rw [List.length_take]; omega
  · have z' : ks.take 2 = [] := z
    have := congrArg List.length z'
    rw [List.length_take, List.length_nil] at this
    omega
theorem paB_ok (ht : TrOk ks) (h9 : 9 ≤ ks.length) (h12 : ks.length ≤ 12) : (paB ks).ok := by
  refine ⟨rfl, fun t hT => ?_, by show 3 ≤ 20; decide⟩
  rcases List.mem_cons.mp hT with rfl | hT
  · exact st0
  rcases List.mem_cons.mp hT with rfl | hT
  · exact tkB ht h9 h12
  rw [List.mem_singleton.mp hT]
  exact st1
theorem paC_ok (ht : TrOk ks) (h9 : 9 ≤ ks.length) : (paC ks).ok := by
  refine ⟨rfl, fun t hT => ?_, by show 3 ≤ 20; decide⟩
  rcases List.mem_cons.mp hT with rfl | hT
  · exact tkC ht h9
  rcases List.mem_cons.mp hT with rfl | hT
  · exact st0
  rw [List.mem_singleton.mp hT]
  exact st1
theorem st_call {q : Rat} {i j : Int} (e : PyData.tuple [.int i, .int j] = fr q) {env : EnvD} : evE (sem 20) lwK (.call 67 (.cons (.tup (.cons (.lit (.int i)) (.cons (.lit (.int j)) .nil))) .nil)) env g = .ok (stillT q).d g := v_call (v_cons two_tup v_nil) (still20 e)
theorem lap11 {C : Sl} : evS (sem 20) lwK (stA lapB 11) (EQ s2 s3 s4 s5 s6 s7 s8 (.d (.tuple (ks.map kyD))) s10 C s12 s13 s14 s15) g = .ok (.nx (EQ s2 s3 s4 s5 s6 s7 s8 (.d (.tuple (ks.map kyD))) s10 C (.d (scD [paB ks])) s13 s14 s15)) g :=
  w_set (x := scD [paB ks]) (v_tup (v_cons (v_tup (v_cons v_lit (v_cons v_lit (v_cons one_tup (v_cons (st_call (q := 0) rfl) (v_cons (v_tup (v_cons (v_var rfl) (v_cons v_lit v_nil)) (by show 2 ≤ 1000; decide)) (v_cons (st_call (q := 1) rfl) v_nil)))))) (by show 6 ≤ 1000; decide)) v_nil) (by show 1 ≤ 1000; decide))
def ownK (ks : List Ky) : List Ky := trackA (lsP bentP 5) 5 ks
theorem lap12 (ht : TrOk ks) (h9 : 9 ≤ ks.length) (h12 : ks.length ≤ 12) : evS (sem 20) lwK (stA lapB 12) (EQ s2 s3 s4 s5 s6 s7 s8 (.d (.tuple (ks.map kyD))) s10 (.d (clD bentP 5)) s12 s13 s14 s15) g = .ok (.nx (EQ s2 s3 s4 s5 s6 s7 s8 (.d (.tuple (ks.map kyD))) s10 (.d (clD bentP 5)) s12 (.d (trD (ownK ks) sOnce)) s14 s15)) g := by
  have tk := tkB ht h9 h12
  exact w_set (v_call (v_cons (v_tup (v_cons (v_var rfl) (v_cons v_lit v_nil)) (by show 2 ≤ 1000; decide)) (v_cons (v_var rfl) v_nil)) (lown_ok (n := 12) bent_ok five_ok.1 five_ok.2 tk.tr tk.len tk.ne))
def heardB (ks : List Ky) : PD := if (ownK ks).length ≤ 12 then .tuple [sTold, scD [(paB ks).re (lsP bentP 5) 5]] else dBig
theorem few_still {q : Rat} : (trackA (lsP bentP 5) 5 (stillT q).ks).length ≤ 12 := by
  rw [bent_still]
  show 1 ≤ 12
  decide
theorem lap13 (ht : TrOk ks) (h9 : 9 ≤ ks.length) (h12 : ks.length ≤ 12) {O : Sl} : evS (sem 20) lwK (stA lapB 13) (EQ s2 s3 s4 s5 s6 s7 s8 (.d (.tuple (ks.map kyD))) s10 (.d (clD bentP 5)) (.d (scD [paB ks])) O s14 s15) g = .ok (.nx (EQ s2 s3 s4 s5 s6 s7 s8 (.d (.tuple (ks.map kyD))) s10 (.d (clD bentP 5)) (.d (scD [paB ks])) O (.d (heardB ks)) s15)) g := by
  have ok := paB_ok ht h9 h12
  by_cases z : (ownK ks).length ≤ 12
  · have e : heardB ks = .tuple [sTold, scD [(paB ks).re (lsP bentP 5) 5]] := if_pos z
    rw [e]
    refine w_set (v_heard (v_call (v_cons (v_var rfl) (v_cons (v_var rfl) v_nil)) (retimed_ok (n := 8) bent_ok five_ok.1 five_ok.2 (s := [paB ks]) (paA_all ok) (by show 1 ≤ 20; decide) (Or.inr rfl) (fun p hp t hT => ?_) fun p hp t hT hl => ?_)))
    · rw [List.mem_singleton.mp hp] at hT
      rcases List.mem_cons.mp hT with rfl | hT
      · exact few_still
      rcases List.mem_cons.mp hT with rfl | hT
      · exact z
      rw [List.mem_singleton.mp hT]
      exact few_still
    · rw [List.mem_singleton.mp hp] at hT
      exfalso
      rcases List.mem_cons.mp hT with rfl | hT
      · cases hl
      rcases List.mem_cons.mp hT with rfl | hT
      · cases hl
      rw [List.mem_singleton.mp hT] at hl
      cases hl
  · have e : heardB ks = dBig := if_neg z
    rw [e]
    exact w_set (v_heardX (v_call (v_cons (v_var rfl) (v_cons (v_var rfl) v_nil)) (retimed_big (n := 8) bent_ok five_ok.1 five_ok.2 (h := hB) (t0 := stillT 0) (t1 := ⟨ks, false⟩) (ts := [stillT 1]) ok rfl rfl rfl few_still (by show 12 < (ownK ks).length; omega))) hearB)
theorem re_B : ((paB ks).re (lsP bentP 5) 5).d = .tuple [.str ⟨#[98]⟩, .none, .tuple [.str ⟨#[112, 111, 105, 110, 116]⟩], (stillT 0).d, trD (ownK ks) sOnce, (stillT 1).d] := by
  show PyData.tuple [_, _, _, (⟨trackA (lsP bentP 5) 5 (stillT 0).ks, false⟩ : Tk).d, (⟨trackA (lsP bentP 5) 5 ks, false⟩ : Tk).d, (⟨trackA (lsP bentP 5) 5 (stillT 1).ks, false⟩ : Tk).d] = _
  rw [bent_still, bent_still]
  rfl
theorem show_B (ht : TrOk ks) (h9 : 9 ≤ ks.length) (h12 : ks.length ≤ 12) (z : (ownK ks).length ≤ 12) : showOk (.tuple [sTold, scD [(paB ks).re (lsP bentP 5) 5]]) = true := by
  have ok := paB_ok ht h9 h12
  refine sh_told (p := (paB ks).re (lsP bentP 5) 5) ?_ (fun t hT => ?_) (by show 3 ≤ 3; decide)
  · exact Shs.cons (w := 1) (v := 198) (Sh.ofB (by decide +kernel)) (Shs.cons (w := 0) (v := 197) (Sh.ofB (by decide +kernel)) (Shs.cons (w := 196) (v := 0) (Sh.ofB (by decide +kernel)) .nil))
  · obtain ⟨u, hu, rfl⟩ := List.mem_map.mp hT
    have f := ok.ts u hu
    refine ⟨track_sz (lsP_ok bent_ok) five_ok.1 five_ok.2 f.tr f.ne, ?_⟩
    show (trackA (lsP bentP 5) 5 u.ks).length ≤ 12
    rcases List.mem_cons.mp hu with rfl | hu
    · exact few_still
    rcases List.mem_cons.mp hu with rfl | hu
    · exact z
    rw [List.mem_singleton.mp hu]
    exact few_still
theorem lap14 (ht : TrOk ks) (h9 : 9 ≤ ks.length) (h12 : ks.length ≤ 12) {C : Sl} : evS (sem 20) lwK (stA lapB 14) (EQ s2 s3 s4 s5 s6 s7 s8 (.d (.tuple (ks.map kyD))) s10 C (.d (scD [paB ks])) (.d (trD (ownK ks) sOnce)) (.d (heardB ks)) s15) g = .ok (.nx (EQ s2 s3 s4 s5 s6 s7 s8 (.d (.tuple (ks.map kyD))) s10 C (.d (scD [paB ks])) (.d (trD (ownK ks) sOnce)) (.d (heardB ks)) s15)) g := by
  have ln : bltF .len (.tuple ((ownK ks).map kyD)) = some (.int ((ownK ks).length : Nat)) := by
    show some (PyData.int (((ownK ks).map kyD).length : Nat)) = _
    rw [List.length_map]
  have le : ∀ {q : Bool}, decide ((ownK ks).length ≤ 12) = q → opF .le (.int ((ownK ks).length : Nat)) (.int 12) = some (.bool q) := fun {q} h => by
    show some (PyData.bool (decide ((((ownK ks).length : Nat) : Int) ≤ 12))) = _
    rw [← h]
    congr 2
    exact decide_eq_decide.mpr (by omega)
  have tst : ∀ {q : Bool}, decide ((ownK ks).length ≤ 12) = q → evT (sem 20) lwK (.val (.op2 .le (.blt .len (.op2 .ix (.var 13) (.lit (.int 0)))) (.lit (.int 12)))) (EQ s2 s3 s4 s5 s6 s7 s8 (.d (.tuple (ks.map kyD))) s10 C (.d (scD [paB ks])) (.d (trD (ownK ks) sOnce)) (.d (heardB ks)) s15) g = .ok q g := fun {q} h =>
    u_val (v_op2 (v_blt (v_op2 (v_var rfl) v_lit rfl) ln) v_lit (le h))
  by_cases z : (ownK ks).length ≤ 12
  · have e : heardB ks = .tuple [sTold, scD [(paB ks).re (lsP bentP 5) 5]] := if_pos z
    have e2 : scD [(paB ks).re (lsP bentP 5) 5] = .tuple [((paB ks).re (lsP bentP 5) 5).d] := rfl
    have i0 : opF .ix (scD [paB ks]) (.int 0) = some (paB ks).d := rfl
    have i5 : opF .ix (paB ks).d (.int 5) = some (stillT 1).d := rfl
    have c4 : slF (paB ks).d none (some 4) = some (.tuple [.str ⟨#[98]⟩, .none, .tuple [.str ⟨#[112, 111, 105, 110, 116]⟩], (stillT 0).d]) := by
      show some (PyData.tuple (cutP _ none (some ((4 : Nat) : Int)))) = _
      rw [cut_to]
      rfl
    refine w_alike (n := 19) (d := heardB ks) (v_var rfl) (v_ite (k := true) (tst (decide_eq_true z)) (ifT.trans ?_)) (by rw [e]; exact show_B ht h9 h12 z) (by rw [e]; rfl)
    rw [e, e2, re_B]
    exact v_tup (v_cons v_lit (v_cons (v_tup (v_cons (v_op2 (v_sl (v_op2 (v_var rfl) v_lit i0) v_on (v_os v_lit) c4) (v_tup (v_cons (v_var rfl) (v_cons (v_op2 (v_op2 (v_var rfl) v_lit i0) v_lit i5) v_nil)) (by show 2 ≤ 1000; decide)) (add_TT (by show 4 + 2 ≤ _; decide))) v_nil) (by show 1 ≤ 1000; decide)) v_nil)) (by show 2 ≤ 1000; decide)
  · have e : heardB ks = dBig := if_neg z
    refine w_alike (n := 19) (d := heardB ks) (v_var rfl) (v_ite (k := false) (tst (decide_eq_false z)) (ifF.trans ?_)) (by rw [e]; exact show_big) (by rw [e]; rfl)
    rw [e]
    exact v_tup (v_cons v_lit (v_cons v_lit (v_cons v_lit v_nil))) (by show 3 ≤ 1000; decide)
theorem lap15 {C O H : Sl} : evS (sem 20) lwK (stA lapB 15) (EQ s2 s3 s4 s5 s6 s7 s8 (.d (.tuple (ks.map kyD))) s10 C (.d (scD [paB ks])) O H s15) g = .ok (.nx (EQ s2 s3 s4 s5 s6 s7 s8 (.d (.tuple (ks.map kyD))) s10 C (.d (scD [paB ks])) O H (.d (scD [paB ks, paC ks])))) g := by
  have c2 : slF (.tuple (ks.map kyD)) none (some 2) = some (.tuple ((ks.take 2).map kyD)) := by
    show some (PyData.tuple (cutP (ks.map kyD) none (some ((2 : Nat) : Int)))) = _
    rw [cut_to, List.map_take]
  exact w_set (x := scD [paB ks, paC ks]) (v_op2 (v_var rfl) (v_tup (v_cons (v_tup (v_cons v_lit (v_cons v_lit (v_cons one_tup (v_cons (v_tup (v_cons (v_sl (v_var rfl) v_on (v_os v_lit) c2) (v_cons v_lit v_nil)) (by show 2 ≤ 1000; decide)) (v_cons (st_call (q := 0) rfl) (v_cons (st_call (q := 1) rfl) v_nil)))))) (by show 6 ≤ 1000; decide)) v_nil) (by show 1 ≤ 1000; decide)) (add_TT (as := [(paB ks).d]) (bs := [(paC ks).d]) (by show 1 + 1 ≤ _; decide)))
theorem lap16 (ht : TrOk ks) (h9 : 9 ≤ ks.length) (h12 : ks.length ≤ 12) {K L O H : Sl} : evS (sem 20) lwK (stA lapB 16) (EQ s2 s3 s4 s5 s6 s7 s8 K s10 (.d (clD bentP 5)) L O H (.d (scD [paB ks, paC ks]))) g = .ok (.nx (EQ s2 s3 s4 s5 s6 s7 s8 K s10 (.d (clD bentP 5)) L O H (.d (scD [paB ks, paC ks])))) g := by
  refine w_alike (n := 19) (d := dNoth) (v_heardX (v_call (v_cons (v_var rfl) (v_cons (v_var rfl) v_nil)) (retimed_no (n := 8) bent_ok (s := [paB ks, paC ks]) (fun p hp => ?_) (by show 2 ≤ 20; decide) bent_len rfl)) hear0) (v_tup (v_cons v_lit (v_cons v_lit (v_cons v_lit v_nil))) (by show 3 ≤ 1000; decide)) show_noth rfl
  rcases List.mem_cons.mp hp with rfl | hp
  · exact paB_ok ht h9 h12
  rw [List.mem_singleton.mp hp]
  exact paC_ok ht h9
end
end G

/-! The plain law: five laps. -/
namespace G
open PySem PySem.Spec PyProof.Rows L2 Fq
def SL (j : Nat) (env : EnvD) (g : List PD) : Prop := (∃ s2 s3 s4 s5 s6 s7 s8 s9 s10 s11 s12 s13 s14 s15, env = EQ s2 s3 s4 s5 s6 s7 s8 s9 s10 s11 s12 s13 s14 s15) ∧ Bg (1000 * j) g
theorem lap_all {j : Nat} {env : EnvD} {g : List PD} (hj : j < 5) (h : SL j env g) : ∃ e1 e2 g2, tgF (.name 2) (.int (j : Nat)) env = some e1 ∧ (fun e => evSs (sem 20) lwK lapB e) e1 g = .ok (.nx e2) g2 ∧ SL (j + 1) e2 g2 := by
  obtain ⟨⟨s2, s3, s4, s5, s6, s7, s8, s9, s10, s11, s12, s13, s14, s15, rfl⟩, b⟩ := h
  obtain ⟨t0, t1, g1, e0, o0, o1, l0, l1, b1⟩ := lap0 (s2 := .d (.int (j : Nat))) (s3 := s3) (s4 := s4) (s5 := s5) (s6 := s6) (s7 := s7) (s8 := s8) (s9 := s9) (s10 := s10) (s11 := s11) (s12 := s12) (s13 := s13) (s14 := s14) (s15 := s15) (by omega) b
  obtain ⟨u0, u1, g2, e1, p0, p1, m0, m1, b2⟩ := lap1 (s2 := .d (.int (j : Nat))) (s4 := s4) (s5 := s5) (s6 := s6) (s7 := s7) (s8 := s8) (s9 := s9) (s10 := s10) (s11 := s11) (s12 := s12) (s13 := s13) (s14 := s14) (s15 := s15) o0 o1 l0 l1 (by omega) b1
  obtain ⟨ps, r, g3, e2, hp, h3, hr, r0, b3⟩ := lap2 (s2 := .d (.int (j : Nat))) (T := .d (.list [u0.d, u1.d])) (s4 := s4) (s5 := s5) (s6 := s6) (s7 := s7) (s8 := s8) (s9 := s9) (s10 := s10) (s11 := s11) (s12 := s12) (s13 := s13) (s14 := s14) (s15 := s15) (by omega) b2
  obtain ⟨ks, g4, e8, ht, h9, h12, b4⟩ := lap8 (s2 := .d (.int (j : Nat))) (s3 := .d (.list [u0.d, u1.d])) (s4 := .d (clD ps r)) (s5 := .d (scD [paA u0 u1])) (s6 := .d (.bool (stB ps r))) (s7 := .d (.bool (u0.loop || u1.loop))) (s8 := .d (scD [(paA u0 u1).re (lsP ps r) r])) (s9 := s9) (s10 := s10) (s11 := s11) (s12 := s12) (s13 := s13) (s14 := s14) (s15 := s15) (by omega) b3
  refine ⟨EQ (.d (.int (j : Nat))) s3 s4 s5 s6 s7 s8 s9 s10 s11 s12 s13 s14 s15, EQ (.d (.int (j : Nat))) (.d (.list [u0.d, u1.d])) (.d (clD ps r)) (.d (scD [paA u0 u1])) (.d (.bool (stB ps r))) (.d (.bool (u0.loop || u1.loop))) (.d (scD [(paA u0 u1).re (lsP ps r) r])) (.d (.tuple (ks.map kyD))) (.d (.tuple ((List.range 5).map ptI))) (.d (clD bentP 5)) (.d (scD [paB ks])) (.d (trD (ownK ks) sOnce)) (.d (heardB ks)) (.d (scD [paB ks, paC ks])), g4, rfl, ?_, ⟨_, _, _, _, _, _, _, _, _, _, _, _, _, _, rfl⟩, b4.up (by omega)⟩
  exact w_nx e0 (w_nx e1 (w_nx e2 (w_nx lap3 (w_nx (lap4 hp) (w_nx lap5 (w_nx (lap6 hp hr r0 p0 p1) (w_nx (lap7 hp h3 hr r0 p0 p1 m0 m1) (w_nx e8 (w_nx lap9 (w_nx lap10 (w_nx lap11 (w_nx (lap12 ht h9 h12) (w_nx (lap13 ht h9 h12) (w_nx (lap14 ht h9 h12) (w_nx lap15 (w_nx (lap16 ht h9 h12) w_nil))))))))))))))))
theorem bg0 (ns : List Int) : Bg 0 (bag0 ns) := by
  refine ⟨0, 1234567891, 0, (ns.take 63).map absI, ?_, by decide, by decide, by decide, fun x hx => ?_, ?_, by decide, by decide⟩
  · unfold bag0
    rw [List.map_map]
    rfl
  · obtain ⟨i, _, rfl⟩ := List.mem_map.mp hx
    unfold absI
    split <;> omega
  · rw [List.length_map, List.length_take]
    omega
theorem plain_all (ns : List Int) : Plain ns := by
  obtain ⟨env', g', lp, ⟨s2, s3, s4, s5, s6, s7, s8, s9, s10, s11, s12, s13, s14, s15, rfl⟩, _⟩ := fr_rangeG (S := SL) (tg := .name 2) (body := fun e => evSs (sem 20) lwK lapB e) (m := 5) (fun j env g hj hS => lap_all hj hS) (env := EQ .no .no .no .no .no .no .no .no .no .no .no .no .no .no) (g := bag0 ns) ⟨⟨_, _, _, _, _, _, _, _, _, _, _, _, _, _, rfl⟩, bg0 ns⟩
  refine ⟨g', ?_⟩
  have it : evI (sem 20) lwK (.range (.lit (.int 5))) envL (bag0 ns) = .ok ((List.range 5).map fun k => .int (k : Nat)) (bag0 ns) := i_range v_lit ⟨by decide, by decide⟩
  exact w_nx (w_fr it lp) (w_rt (w_ret v_lit))
end G

set_option maxHeartbeats 0
open PySem PySem.W PyProof.Rows
theorem PySem.Challenge.cw_alltimes_k24_keys_of_scenes_by_other_clo_holds : PySem.Challenge.rw_alltimes_k24_keys_of_scenes_by_other_clo.Holds := by
  w_on; o_law; k_head; (case hw => w_witness2)
  k_fill
  refine G.walk_G rfl (by first | rfl | decide +kernel) (fun w h Y => PySem.W.km_in_of Y) ?F G.plain_all
  case F =>
    intro w mg fl h KX GG hmg
    refine' G.all_mk KX GG hmg ?a0 ?l0 ?c0 ?k0 ?a1 ?l1 ?c1 ?k1 ?a2 ?l2 ?c2 ?k2 ?a3 ?l3 ?c3 ?k3 ?a4 ?l4 ?c4 ?k4 ?a5 ?l5 ?c5 ?k5 ?a6 ?l6 ?c6 ?k6 ?a7 ?l7 ?c7 ?k7 ?a8 ?l8 ?c8 ?k8 ?a9 ?l9 ?c9 ?k9 ?a10 ?l10 ?c10 ?k10 ?a11 ?l11 ?c11 ?k11 ?a12 ?l12 ?c12 ?k12 ?a13 ?l13 ?c13 ?k13 ?a14 ?l14 ?c14 ?k14 ?a15 ?l15 ?c15 ?k15 ?a16 ?l16 ?c16 ?k16 ?a17 ?l17 ?c17 ?k17 ?a18 ?l18 ?c18 ?k18 ?a19 ?l19 ?c19 ?k19 ?a20 ?l20 ?c20 ?k20 ?a21 ?l21 ?c21 ?k21 ?a22 ?l22 ?c22 ?k22 ?a23 ?l23 ?c23 ?k23 ?a24 ?l24 ?c24 ?k24 ?a25 ?l25 ?c25 ?k25 ?a26 ?l26 ?c26 ?k26 ?a27 ?l27 ?c27 ?k27 ?a28 ?l28 ?c28 ?k28 ?a29 ?l29 ?c29 ?k29 ?a30 ?l30 ?c30 ?k30 ?a31 ?l31 ?c31 ?k31 ?a32 ?l32 ?c32 ?k32 ?a33 ?l33 ?c33 ?k33 ?a34 ?l34 ?c34 ?k34 ?a35 ?l35 ?c35 ?k35 ?a36 ?l36 ?c36 ?k36 ?a37 ?l37 ?c37 ?k37 ?a38 ?l38 ?c38 ?k38 ?a39 ?l39 ?c39 ?k39 ?a40 ?l40 ?c40 ?k40 ?a41 ?l41 ?c41 ?k41 ?a42 ?l42 ?c42 ?k42 ?a43 ?l43 ?c43 ?k43 ?a44 ?l44 ?c44 ?k44 ?a45 ?l45 ?c45 ?k45 ?a46 ?l46 ?c46 ?k46 ?a47 ?l47 ?c47 ?k47 ?a48 ?l48 ?c48 ?k48 ?a49 ?l49 ?c49 ?k49 ?a50 ?l50 ?c50 ?k50 ?a51 ?l51 ?c51 ?k51 ?a52 ?l52 ?c52 ?k52 ?a53 ?l53 ?c53 ?k53 ?a54 ?l54 ?c54 ?k54 ?a55 ?l55 ?c55 ?k55 ?a56 ?l56 ?c56 ?k56 ?a57 ?l57 ?c57 ?k57 ?a58 ?l58 ?c58 ?k58 ?a59 ?l59 ?c59 ?k59 ?a60 ?l60 ?c60 ?k60 ?a61 ?l61 ?c61 ?k61 ?a62 ?l62 ?c62 ?k62 ?a63 ?l63 ?c63 ?k63 ?a64 ?l64 ?c64 ?k64 ?a65 ?l65 ?c65 ?k65 ?a66 ?l66 ?c66 ?k66 ?a67 ?l67 ?c67 ?k67 ?a68 ?l68 ?c68 ?k68 ?a69 ?l69 ?c69 ?k69 ?a70 ?l70 ?c70 ?k70 ?a71 ?l71 ?c71 ?k71 ?a72 ?l72 ?c72 ?k72 ?a73 ?l73 ?c73 ?k73 ?a74 ?l74 ?c74 ?k74 ?z0 ?z1 ?z2 ?z3 ?z4 ?z5 ?z6 ?z7 ?z8 ?z9 ?z10 ?z11 ?z12 ?z13 ?z14 ?z15 ?z16 ?z17 ?y0 ?y1 ?y2 ?y3 ?y4 ?g1 ?g2 ?g5 ?g3 ?g4 ?b1 ?b2 ?b3 ?b4 ?b5 ?b6 ?b7 ?b8 ?b9 ?b10 ?b11 ?b12 ?b13 ?b14 ?b15 ?b16 ?b17 ?b18 ?b19 ?b20 ?b21 ?b22 ?b23 ?b24 ?b25 ?b26 ?b27 ?q1 ?q2 ?q3 ?q4 ?e1 ?e2 ?e3 ?e4 ?e5 ?e6 ?e7 ?e8 ?e9 ?e10 ?e11 ?e12 ?e13 ?e14 ?e15 ?n1 ?n2 ?n3 ?n4 ?n5 ?n6 ?n7 ?n8 ?n9 ?n10 ?n11 ?n12 ?p3 ?p4 ?p5 ?p8 ?p9 ?p10 ?p11 ?p12
    (case a0 => k_is)
    (case l0 => k_is)
    (case c0 => k_is)
    (case k0 => k_is)
    (case a1 => k_is)
    (case l1 => k_is)
    (case c1 => k_is)
    (case k1 => k_is)
    (case a2 => k_is)
    (case l2 => k_is)
    (case c2 => k_is)
    (case k2 => k_is)
    (case a3 => k_is)
    (case l3 => k_is)
    (case c3 => k_is)
    (case k3 => k_is)
    (case a4 => k_is)
    (case l4 => k_is)
    (case c4 => k_is)
    (case k4 => k_is)
    (case a5 => k_is)
    (case l5 => k_is)
    (case c5 => k_is)
    (case k5 => k_is)
    (case a6 => k_is)
    (case l6 => k_is)
    (case c6 => k_is)
    (case k6 => k_is)
    (case a7 => k_is)
    (case l7 => k_is)
    (case c7 => k_is)
    (case k7 => k_is)
    (case a8 => k_is)
    (case l8 => k_is)
    (case c8 => k_is)
    (case k8 => k_is)
    (case a9 => k_is)
    (case l9 => k_is)
    (case c9 => k_is)
    (case k9 => k_is)
    (case a10 => k_is)
    (case l10 => k_is)
    (case c10 => k_is)
    (case k10 => k_is)
    (case a11 => k_is)
    (case l11 => k_is)
    (case c11 => k_is)
    (case k11 => k_is)
    (case a12 => k_is)
    (case l12 => k_is)
    (case c12 => k_is)
    (case k12 => k_is)
    (case a13 => k_is)
    (case l13 => k_is)
    (case c13 => k_is)
    (case k13 => k_is)
    (case a14 => k_is)
    (case l14 => k_is)
    (case c14 => k_is)
    (case k14 => k_is)
    (case a15 => k_is)
    (case l15 => k_is)
    (case c15 => k_is)
    (case k15 => k_is)
    (case a16 => k_is)
    (case l16 => k_is)
    (case c16 => k_is)
    (case k16 => k_is)
    (case a17 => k_is)
    (case l17 => k_is)
    (case c17 => k_is)
    (case k17 => k_is)
    (case a18 => k_is)
    (case l18 => k_is)
    (case c18 => k_is)
    (case k18 => k_is)
    (case a19 => k_is)
    (case l19 => k_is)
    (case c19 => k_is)
    (case k19 => k_is)
    (case a20 => k_is)
    (case l20 => k_is)
    (case c20 => k_is)
    (case k20 => k_is)
    (case a21 => k_is)
    (case l21 => k_is)
    (case c21 => k_is)
    (case k21 => k_is)
    (case a22 => k_is)
    (case l22 => k_is)
    (case c22 => k_is)
    (case k22 => k_is)
    (case a23 => k_is)
    (case l23 => k_is)
    (case c23 => k_is)
    (case k23 => k_is)
    (case a24 => k_is)
    (case l24 => k_is)
    (case c24 => k_is)
    (case k24 => k_is)
    (case a25 => k_is)
    (case l25 => k_is)
    (case c25 => k_is)
    (case k25 => k_is)
    (case a26 => k_is)
    (case l26 => k_is)
    (case c26 => k_is)
    (case k26 => k_is)
    (case a27 => k_is)
    (case l27 => k_is)
    (case c27 => k_is)
    (case k27 => k_is)
    (case a28 => k_is)
    (case l28 => k_is)
    (case c28 => k_is)
    (case k28 => k_is)
    (case a29 => k_is)
    (case l29 => k_is)
    (case c29 => k_is)
    (case k29 => k_is)
    (case a30 => k_is)
    (case l30 => k_is)
    (case c30 => k_is)
    (case k30 => k_is)
    (case a31 => k_is)
    (case l31 => k_is)
    (case c31 => k_is)
    (case k31 => k_is)
    (case a32 => k_is)
    (case l32 => k_is)
    (case c32 => k_is)
    (case k32 => k_is)
    (case a33 => k_is)
    (case l33 => k_is)
    (case c33 => k_is)
    (case k33 => k_is)
    (case a34 => k_is)
    (case l34 => k_is)
    (case c34 => k_is)
    (case k34 => k_is)
    (case a35 => k_is)
    (case l35 => k_is)
    (case c35 => k_is)
    (case k35 => k_is)
    (case a36 => k_is)
    (case l36 => k_is)
    (case c36 => k_is)
    (case k36 => k_is)
    (case a37 => k_is)
    (case l37 => k_is)
    (case c37 => k_is)
    (case k37 => k_is)
    (case a38 => k_is)
    (case l38 => k_is)
    (case c38 => k_is)
    (case k38 => k_is)
    (case a39 => k_is)
    (case l39 => k_is)
    (case c39 => k_is)
    (case k39 => k_is)
    (case a40 => k_is)
    (case l40 => k_is)
    (case c40 => k_is)
    (case k40 => k_is)
    (case a41 => k_is)
    (case l41 => k_is)
    (case c41 => k_is)
    (case k41 => k_is)
    (case a42 => k_is)
    (case l42 => k_is)
    (case c42 => k_is)
    (case k42 => k_is)
    (case a43 => k_is)
    (case l43 => k_is)
    (case c43 => k_is)
    (case k43 => k_is)
    (case a44 => k_is)
    (case l44 => k_is)
    (case c44 => k_is)
    (case k44 => k_is)
    (case a45 => k_is)
    (case l45 => k_is)
    (case c45 => k_is)
    (case k45 => k_is)
    (case a46 => k_is)
    (case l46 => k_is)
    (case c46 => k_is)
    (case k46 => k_is)
    (case a47 => k_is)
    (case l47 => k_is)
    (case c47 => k_is)
    (case k47 => k_is)
    (case a48 => k_is)
    (case l48 => k_is)
    (case c48 => k_is)
    (case k48 => k_is)
    (case a49 => k_is)
    (case l49 => k_is)
    (case c49 => k_is)
    (case k49 => k_is)
    (case a50 => k_is)
    (case l50 => k_is)
    (case c50 => k_is)
    (case k50 => k_is)
    (case a51 => k_is)
    (case l51 => k_is)
    (case c51 => k_is)
    (case k51 => k_is)
    (case a52 => k_is)
    (case l52 => k_is)
    (case c52 => k_is)
    (case k52 => k_is)
    (case a53 => k_is)
    (case l53 => k_is)
    (case c53 => k_is)
    (case k53 => k_is)
    (case a54 => k_is)
    (case l54 => k_is)
    (case c54 => k_is)
    (case k54 => k_is)
    (case a55 => k_is)
    (case l55 => k_is)
    (case c55 => k_is)
    (case k55 => k_is)
    (case a56 => k_is)
    (case l56 => k_is)
    (case c56 => k_is)
    (case k56 => k_is)
    (case a57 => k_is)
    (case l57 => k_is)
    (case c57 => k_is)
    (case k57 => k_is)
    (case a58 => k_is)
    (case l58 => k_is)
    (case c58 => k_is)
    (case k58 => k_is)
    (case a59 => k_is)
    (case l59 => k_is)
    (case c59 => k_is)
    (case k59 => k_is)
    (case a60 => k_is)
    (case l60 => k_is)
    (case c60 => k_is)
    (case k60 => k_is)
    (case a61 => k_is)
    (case l61 => k_is)
    (case c61 => k_is)
    (case k61 => k_is)
    (case a62 => k_is)
    (case l62 => k_is)
    (case c62 => k_is)
    (case k62 => k_is)
    (case a63 => k_is)
    (case l63 => k_is)
    (case c63 => k_is)
    (case k63 => k_is)
    (case a64 => k_is)
    (case l64 => k_is)
    (case c64 => k_is)
    (case k64 => k_is)
    (case a65 => k_is)
    (case l65 => k_is)
    (case c65 => k_is)
    (case k65 => k_is)
    (case a66 => k_is)
    (case l66 => k_is)
    (case c66 => k_is)
    (case k66 => k_is)
    (case a67 => k_is)
    (case l67 => k_is)
    (case c67 => k_is)
    (case k67 => k_is)
    (case a68 => k_is)
    (case l68 => k_is)
    (case c68 => k_is)
    (case k68 => k_is)
    (case a69 => k_is)
    (case l69 => k_is)
    (case c69 => k_is)
    (case k69 => k_is)
    (case a70 => k_is)
    (case l70 => k_is)
    (case c70 => k_is)
    (case k70 => k_is)
    (case a71 => k_is)
    (case l71 => k_is)
    (case c71 => k_is)
    (case k71 => k_is)
    (case a72 => k_is)
    (case l72 => k_is)
    (case c72 => k_is)
    (case k72 => k_is)
    (case a73 => k_is)
    (case l73 => k_is)
    (case c73 => k_is)
    (case k73 => k_is)
    (case a74 => k_is)
    (case l74 => k_is)
    (case c74 => k_is)
    (case k74 => k_is)
    (case z0 => k_is)
    (case z1 => k_is)
    (case z2 => k_is)
    (case z3 => k_is)
    (case z4 => k_is)
    (case z5 => k_is)
    (case z6 => k_is)
    (case z7 => k_is)
    (case z8 => k_is)
    (case z9 => k_is)
    (case z10 => k_is)
    (case z11 => k_is)
    (case z12 => k_is)
    (case z13 => k_is)
    (case z14 => k_is)
    (case z15 => k_is)
    (case z16 => k_is)
    (case z17 => k_is)
    (case y0 => k_is)
    (case y1 => k_is)
    (case y2 => k_is)
    (case y3 => k_is)
    (case y4 => k_is)
    (case g1 => k_is)
    (case g2 => k_is)
    (case g5 => k_is)
    (case g3 => k_is)
    (case g4 => k_is)
    (case b1 => k_is)
    (case b2 => k_is)
    (case b3 => first | k_exc | k_is)
    (case b4 => first | decide +kernel | rfl)
    (case b5 => k_is)
    (case b6 => k_is)
    (case b7 => k_is)
    (case b8 => k_is)
    (case b9 => k_is)
    (case b10 => k_is)
    (case b11 => k_is)
    (case b12 => k_is)
    (case b13 => k_is)
    (case b14 => k_is)
    (case b15 => k_is)
    (case b16 => k_is)
    (case b17 => first | rfl | k_is)
    (case b18 => k_is)
    (case b19 => k_is)
    (case b20 => k_is)
    (case b21 => rfl)
    (case b22 => first | rfl | decide +kernel)
    (case b23 => k_is)
    (case b24 => first | k_is | rfl)
    (case b25 => k_is)
    (case b26 => ks_is)
    (case b27 => k_is)
    (case q1 => k_is)
    (case q2 => rfl)
    (case q3 => first | k_is | rfl | decide +kernel)
    (case q4 => first | rfl | k_is | decide +kernel)
    (case e1 => first | k_is | rfl)
    (case e2 => first | k_is | rfl)
    (case e3 => first | k_is | rfl)
    (case e4 => first | k_is | rfl)
    (case e5 => first | k_is | rfl)
    (case e6 => first | k_is | rfl)
    (case e7 => first | k_is | rfl)
    (case e8 => first | k_is | rfl)
    (case e9 => first | k_is | rfl)
    (case e10 => first | k_is | rfl)
    (case e11 => k_exc)
    (case n1 => first | k_is | rfl | decide +kernel)
    (case n2 => first | k_is | rfl | decide +kernel)
    (case n3 => first | k_is | rfl | decide +kernel)
    (case n4 => first | k_is | rfl | decide +kernel)
    (case n5 => first | k_is | rfl | decide +kernel)
    (case n6 => first | k_is | rfl | decide +kernel)
    (case n7 => first | k_is | rfl | decide +kernel)
    (case n8 => first | k_is | rfl | decide +kernel)
    (case n9 => first | k_is | rfl | decide +kernel)
    (case n10 => first | k_is | rfl | decide +kernel)
    (case n11 => first | k_is | rfl | decide +kernel)
    (case p3 => first | k_is | rfl | decide +kernel)
    (case p4 => first | k_is | rfl | decide +kernel)
    (case p5 => first | k_is | rfl | decide +kernel)
    (case p8 => first | k_is | rfl | decide +kernel)
    (case p9 => first | k_is | rfl | decide +kernel)
    (case p10 => first | k_is | rfl | decide +kernel)
    (case p11 => first | k_is | rfl | decide +kernel)
    (case e12 => first | k_is | rfl)
    (case e13 => first | k_is | rfl)
    (case e14 => first | k_is | rfl)
    (case e15 => first | k_is | rfl)
    (case n12 => first | k_is | rfl | decide +kernel)
    (case p12 => first | k_is | rfl | decide +kernel)
