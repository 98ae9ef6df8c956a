import PyProof.Rows.All
import Wide.All
import OpenK.AllK
import Wide.FinOn
import KE.OsHead
import HandS.ForMost
import HandS.ForExc
import HandS.Deep
import HandS.IsInst
import HandS.StrMore
import HandS.CallLocal
import HandS.Zip
import HandS.ReplaceLit
import HandS.Evl
import KE.KExcSuper
import HandS.ExcInit
import HandS.CallSlots
import HandS.Text
import PySem.Challenge.RW_alltimes_k21_texts_of_spans_clocks_and_e
set_option Elab.async false
set_option linter.all false
set_option maxRecDepth 100000
set_option maxHeartbeats 8000000
/-! Values as data, heaps that grow, outcomes. -/
namespace G
open PySem PySem.Spec PyProof.Rows L2

abbrev PD := PyData
/-- a def of the text as a value; the bag -/
abbrev dFn (k : Nat) : PD := .dict [(.int k, .none)]
abbrev dBag : PD := .dict []

structure Cn where
  K : PySem.W.Frag
  fa : Nat → Addr
  CB : Addr

def Sub (F F' : Hp) : Prop := ∀ a o, F a = some o → F' a = some o
theorem Sub.refl (F : Hp) : Sub F F := fun _ _ h => h
theorem Sub.trans {F F1 F2 : Hp} (a : Sub F F1) (b : Sub F1 F2) : Sub F F2 := fun x o h => b x o (a x o h)
theorem Sub.rd {F F' : Hp} (s : Sub F F') {a : Addr} {u : HO} (h : Rd F a u) : Rd F' a u := by
  rcases h with h | ⟨o, h⟩
  · exact .inl (s _ _ h)
  · exact .inr ⟨o, s _ _ h⟩
theorem Sub.sl {K : PySem.W.Frag} {F F' : Hp} (s : Sub F F') {a : Addr} {xs : List V} (h : SqL K F a xs) : SqL K F' a xs := h.elim (fun h => .inl (s.rd h)) .inr
theorem Sub.st {K : PySem.W.Frag} {F F' : Hp} (s : Sub F F') {a : Addr} {xs : List V} (h : SqT K F a xs) : SqT K F' a xs := h.elim (fun h => .inl (s.rd h)) .inr

mutual
inductive Rv (c : Cn) (B : Option Addr) (F : Hp) : V → PD → Prop
  | non : Rv c B F .non .none
  | bl (b : Bool) : Rv c B F (.bl b) (.bool b)
  | int (i : Int) : Rv c B F (.int i) (.int i)
  | str (x : Str) : Rv c B F (.str x) (.str x)
  | lst {a : Addr} {xs : List V} {ds : List PD} : F a = some (.lst xs) → RvA c B F xs ds → Rv c B F (.ref a) (.list ds)
  | tup {a : Addr} {xs : List V} {ds : List PD} : SqT c.K F a xs → RvA c B F xs ds → Rv c B F (.ref a) (.tuple ds)
  | fn (k : Nat) : Rv c B F (.ref (c.fa k)) (.dict [(.int k, .none)])
  | bag {a : Addr} : B = some a → Rv c B F (.ref a) (.dict [])
inductive RvA (c : Cn) (B : Option Addr) (F : Hp) : List V → List PD → Prop
  | nil : RvA c B F [] []
  | cons {v : V} {vs : List V} {d : PD} {ds : List PD} : Rv c B F v d → RvA c B F vs ds → RvA c B F (v :: vs) (d :: ds)
end
section
variable {c : Cn} {B : Option Addr} {F F' H : Hp}
mutual
theorem Rv.mono (s : Sub F F') : ∀ (d : PD) (v : V), Rv c B F v d → Rv c B F' v d
  | .none, _, h => by cases h; exact .non
  | .bool b, _, h => by cases h; exact .bl b
  | .int i, _, h => by cases h; exact .int i
  | .str x, _, h => by cases h; exact .str x
  | .list ds, _, h => by
    cases h with
    | lst hs ha => exact .lst (s _ _ hs) (RvA.mono s ds _ ha)
  | .tuple ds, _, h => by
    cases h with
    | tup hs ha => exact .tup (s.st hs) (RvA.mono s ds _ ha)
  | .dict kvs, _, h => by
    cases h with
    | fn k => exact .fn k
    | bag e => exact .bag e
theorem RvA.mono (s : Sub F F') : ∀ (ds : List PD) (vs : List V), RvA c B F vs ds → RvA c B F' vs ds
  | [], _, h => by cases h; exact .nil
  | d :: ds, _, h => by
    cases h with
    | cons h1 h2 => exact .cons (Rv.mono s d _ h1) (RvA.mono s ds _ h2)
end
mutual
/-- no dict within -/
def noD : PD → Bool
  | .list ds => noDs ds
  | .tuple ds => noDs ds
  | .dict _ => false
  | _ => true
def noDs : List PD → Bool
  | [] => true
  | d :: ds => noD d && noDs ds
end
mutual
theorem Rv.dp : ∀ (d : PD) (v : V), noD d = true → Rv c B F v d → Dp c.K F v d
  | .none, _, _, h => by cases h; exact .non
  | .bool b, _, _, h => by cases h; exact .bl b
  | .int i, _, _, h => by cases h; exact .int i
  | .str x, _, _, h => by cases h; exact .str x
  | .list ds, _, n, h => by
    cases h with
    | lst hs ha => exact .lst (.inl (.inl hs)) (RvA.dp ds _ n ha)
  | .tuple ds, _, n, h => by
    cases h with
    | tup hs ha => exact .tup hs (RvA.dp ds _ n ha)
  | .dict kvs, _, n, h => by cases n
theorem RvA.dp : ∀ (ds : List PD) (vs : List V), noDs ds = true → RvA c B F vs ds → DpAll c.K F vs ds
  | [], _, _, h => by cases h; exact .nil
  | d :: ds, _, n, h => by
    cases h with
    | cons h1 h2 =>
      have n' : noD d = true ∧ noDs ds = true := by
        have q : (noD d && noDs ds) = true := n
        simpa using q
      exact .cons (Rv.dp d _ n'.1 h1) (RvA.dp ds _ n'.2 h2)
end
theorem RvA.length : ∀ {vs : List V} {ds : List PD}, RvA c B F vs ds → vs.length = ds.length
  | [], [], _ => rfl
  | _ :: _, _ :: _, .cons _ h => congrArg (· + 1) (RvA.length h)
theorem RvA.get : ∀ {vs : List V} {ds : List PD}, RvA c B F vs ds → ∀ {i : Nat} {d : PD}, ds[i]? = some d → ∃ v, vs[i]? = some v ∧ Rv c B F v d
  | [], [], _, i, d, e => by simp at e
  | v :: vs, _ :: ds, .cons h _, 0, d, e => by
    have e' := Option.some.inj (show some _ = some d from e)
    subst e'
    exact ⟨v, rfl, h⟩
  | v :: vs, _ :: ds, .cons _ h, i + 1, d, e => by
    obtain ⟨w, h1, h2⟩ := RvA.get h (i := i) (d := d) (by simpa using e)
    exact ⟨w, by simpa using h1, h2⟩
theorem RvA.getV : ∀ {vs : List V} {ds : List PD}, RvA c B F vs ds → ∀ {i : Nat} {v : V}, vs[i]? = some v → ∃ d, ds[i]? = some d ∧ Rv c B F v d
  | [], [], _, i, d, e => by simp at e
  | v :: vs, dd :: ds, .cons h _, 0, w, e => by
    have e' := Option.some.inj (show some _ = some w from e)
    subst e'
    exact ⟨dd, rfl, h⟩
  | v :: vs, _ :: ds, .cons _ h, i + 1, d, e => by
    obtain ⟨w, h1, h2⟩ := RvA.getV h (i := i) (v := d) (by simpa using e)
    exact ⟨w, by simpa using h1, h2⟩
theorem RvA.app : ∀ {vs ws : List V} {ds es : List PD}, RvA c B F vs ds → RvA c B F ws es → RvA c B F (vs ++ ws) (ds ++ es)
  | [], _, [], _, _, h => h
  | _ :: _, _, _ :: _, _, .cons h1 h2, h => .cons h1 (RvA.app h2 h)
theorem RvA.take : ∀ (n : Nat) {vs : List V} {ds : List PD}, RvA c B F vs ds → RvA c B F (vs.take n) (ds.take n)
  | 0, _, _, _ => .nil
  | n + 1, [], [], _ => .nil
  | n + 1, _ :: _, _ :: _, .cons h1 h2 => .cons h1 (RvA.take n h2)
theorem RvA.drop : ∀ (n : Nat) {vs : List V} {ds : List PD}, RvA c B F vs ds → RvA c B F (vs.drop n) (ds.drop n)
  | 0, _, _, h => h
  | n + 1, [], [], _ => .nil
  | n + 1, _ :: _, _ :: _, .cons h1 h2 => RvA.drop n h2
theorem RvA.strs : ∀ (xs : List Str), RvA c B F (xs.map V.str) (xs.map PyData.str)
  | [] => .nil
  | x :: xs => .cons (.str x) (RvA.strs xs)

/-- F: what never changes; H: all that is tracked. From (F, H) to (F', H') -/
structure Gr (B : Option Addr) (F H F' H' : Hp) : Prop where
  sub : Sub F F'
  inn : Sub F' H'
  keep : ∀ b o, H b = some o → some b ≠ B → H' b = some o
  there : ∀ b o, H b = some o → ∃ o', H' b = some o'
  new : ∀ b o, H b = some o → F b = none → F' b = none
theorem Gr.refl (s : Sub F H) : Gr B F H F H := ⟨.refl F, s, fun _ _ h _ => h, fun _ o h => ⟨o, h⟩, fun _ _ _ h => h⟩
theorem Gr.trans {F1 H1 F2 H2 : Hp} (a : Gr B F H F1 H1) (b : Gr B F1 H1 F2 H2) : Gr B F H F2 H2 where
  sub := a.sub.trans b.sub
  inn := b.inn
  keep := fun x o h n => b.keep x o (a.keep x o h n) n
  there := fun x o h => by
    obtain ⟨o1, h1⟩ := a.there x o h
    exact b.there x o1 h1
  new := fun x o h n => by
    obtain ⟨o1, h1⟩ := a.there x o h
    exact b.new x o1 h1 (a.new x o h n)
/-- a new object that stays as it is -/
theorem Gr.fresh (s : Sub F H) {p : Addr} {o : HO} (hp : H p = none) : Gr B F H (upd F p o) (upd H p o) where
  sub := fun a u h => by
    have n : a ≠ p := fun e => by rw [e] at h; rw [s _ _ h] at hp; cases hp
    rw [upd_ne n]; exact h
  inn := fun a u h => by
    by_cases e : a = p
    · subst e; rw [upd_same] at h ⊢; exact h
    · rw [upd_ne e] at h ⊢; exact s _ _ h
  keep := fun b u h _ => by rw [upd_ne (ne_of_none h hp)]; exact h
  there := fun b u h => ⟨u, by rw [upd_ne (ne_of_none h hp)]; exact h⟩
  new := fun b u h n => by rw [upd_ne (ne_of_none h hp)]; exact n
/-- a new object that may change -/
theorem Gr.freshM (s : Sub F H) {p : Addr} {o : HO} (hp : H p = none) : Gr B F H F (upd H p o) where
  sub := .refl F
  inn := fun a u h => by rw [upd_ne (ne_of_none (s _ _ h) hp)]; exact s _ _ h
  keep := fun b u h _ => by rw [upd_ne (ne_of_none h hp)]; exact h
  there := fun b u h => ⟨u, by rw [upd_ne (ne_of_none h hp)]; exact h⟩
  new := fun b u h n => n
/-- the bag's list -/
def BagR (c : Cn) (B : Option Addr) (F H : Hp) (g : List PD) : Prop := ∀ a, B = some a → F a = none ∧ ∃ vs, H a = some (.lst vs) ∧ RvA c B F vs g
theorem BagR.fresh {g : List PD} (h : BagR c B F H g) (s : Sub F H) {p : Addr} {o : HO} (hp : H p = none) : BagR c B (upd F p o) (upd H p o) g := fun a e => by
  obtain ⟨h1, vs, h2, h3⟩ := h a e
  have n := ne_of_none h2 hp
  exact ⟨by rw [upd_ne n]; exact h1, vs, by rw [upd_ne n]; exact h2, RvA.mono (Gr.fresh (B := B) s hp).sub _ _ h3⟩
theorem BagR.freshM {g : List PD} (h : BagR c B F H g) {p : Addr} {o : HO} (hp : H p = none) : BagR c B F (upd H p o) g := fun a e => by
  obtain ⟨h1, vs, h2, h3⟩ := h a e
  exact ⟨h1, vs, by rw [upd_ne (ne_of_none h2 hp)]; exact h2, h3⟩
end

/-! ### outcomes -/
inductive Out (β : Type) where
  | stuck
  | ok (b : β) (g : List PD)
  | exn (l k : Int) (g : List PD)
abbrev M (β : Type) := List PD → Out β
def ret {β : Type} (b : β) : M β := fun g => .ok b g
def Out.bnd {β γ : Type} (o : Out β) (f : β → M γ) : Out γ := match o with | .stuck => .stuck | .ok b g => f b g | .exn l k g => .exn l k g
def bnd {β γ : Type} (m : M β) (f : β → M γ) : M γ := fun g => (m g).bnd f
def stk {β : Type} : M β := fun _ => .stuck
def ofO {β : Type} : Option β → M β
  | some b => ret b
  | none => stk

/-- an exception's own dict -/
def xdB (l k : Int) : HO := .xd [(("line" : Str), .int l), (("column" : Str), .int k)]
def ExnP (c : Cn) (B : Option Addr) (E : XK) (F H : Hp) (l k : Int) (g : List PD) : Prop := ∀ F' H' dd, Gr B F H F' H' → BagR c B F' H' g → H dd = none → H' dd = some (xdB l k) → E (.ref c.CB) (some dd) H'
def Post (c : Cn) (B : Option Addr) (E : XK) (F H : Hp) {β : Type} (o : Out β) (k : β → List PD → Hp → Hp → Prop) : Prop := match o with
  | .stuck => False
  | .ok b g => ∀ F' H', Gr B F H F' H' → BagR c B F' H' g → k b g F' H'
  | .exn l j g => ExnP c B E F H l j g
section
variable {c : Cn} {B : Option Addr} {E : XK} {F H F1 H1 : Hp} {β γ : Type}
theorem ExnP.grow {l k : Int} {g : List PD} (h : ExnP c B E F H l k g) (a : Gr B F H F1 H1) : ExnP c B E F1 H1 l k g := fun F' H' dd gr bg hn hd =>
  h F' H' dd (a.trans gr) bg (by
    cases e : H dd with
    | none => rfl
    | some o =>
      obtain ⟨o', q⟩ := a.there dd o e
      rw [q] at hn; cases hn) hd
theorem Post.grow {o : Out β} {k : β → List PD → Hp → Hp → Prop} (h : Post c B E F H o k) (a : Gr B F H F1 H1) : Post c B E F1 H1 o k := by
  cases o with
  | stuck => exact h
  | ok b g => exact fun F' H' gr bg => h F' H' (a.trans gr) bg
  | exn l j g => exact ExnP.grow h a
theorem Post.bind {o : Out β} {f : β → M γ} {k : γ → List PD → Hp → Hp → Prop} (h : Post c B E F H (o.bnd f) k) : Post c B E F H o fun b g F1 H1 => Post c B E F1 H1 (f b g) k := by
  cases o with
  | stuck => exact h
  | ok b g => exact fun F1 H1 gr bg => Post.grow (o := f b g) (k := k) h gr
  | exn l j g => exact h
theorem Post.imp {o : Out β} {k k' : β → List PD → Hp → Hp → Prop} (h : Post c B E F H o k) (i : ∀ b g F' H', Gr B F H F' H' → BagR c B F' H' g → k b g F' H' → k' b g F' H') : Post c B E F H o k' := by
  cases o with
  | stuck => exact h
  | ok b g => exact fun F' H' gr bg => i b g F' H' gr bg (h F' H' gr bg)
  | exn l j g => exact h
theorem Post.now {b : β} {g : List PD} {k : β → List PD → Hp → Hp → Prop} (h : Post c B E F H (.ok b g) k) (s : Sub F H) (bg : BagR c B F H g) : k b g F H := h F H (.refl s) bg
end
end G

/-! The forms, what they reckon, how they read in the hand layer. -/
namespace G
open PySem PySem.Spec PyProof.Rows L2

inductive Op2 where
  | addI | subI | mulI | divI | modI | addS | catL | eqD | neD | ltI | leI | gtI | geI | isN | ntN | inSg | inFl | niFl | inTd | inLd | ixL | ixT | ixS
inductive Sk where | str | lst | tup
inductive Blt where | abs | lenQ | lenS | intI | intB | intS | strI | tupL | allB
mutual
inductive Tg where | name (i : Nat) | tup (ts : Tgs)
inductive Tgs where | nil | cons (t : Tg) (ts : Tgs)
end
mutual
inductive Ex where
  | var (i : Nat)
  | lit (d : PD)
  | op2 (o : Op2) (a b : Ex)
  | neg (a : Ex)
  | chain (o o' : Op2) (a b k : Ex)
  | ite (t : Tx) (a b : Ex)
  | andV (a b : Ex)
  | orV (a b : Ex)
  | notV (a : Ex)
  | tup (es : Exs)
  | lst (es : Exs)
  | lc (elt : Ex) (tg : Tg) (it : Ix) (own : List Nat)
  | sl (o : Sk) (a : Ex) (lo hi : Exs)
  | blt (b : Blt) (a : Ex)
  | isi (t : String) (a : Ex)
  | call (f : Nat) (es : Exs)
  | callv (i : Nat) (es : Exs)
  | split (a b : Ex)
  | join (a b : Ex)
  | find (a b : Ex)
  | find3 (a b k : Ex)
  | repl (a : Ex) (y z : Str)
  | fnv (k : Nat)
  | bget (i n : Nat)
inductive Exs where | nil | cons (e : Ex) (es : Exs)
inductive Tx where
  | val (e : Ex)
  | and (a b : Tx)
  | or (a b : Tx)
  | not (a : Tx)
inductive Ix where
  | list (e : Ex)
  | tup (e : Ex)
  | str (e : Ex)
  | range (e : Ex)
  | enum (e : Ex)
  | zip (a b : Ex)
end

/-! ### what the operations reckon -/
def isFl : PD → Bool | .none => true | .bool _ => true | .int _ => true | .str _ => true | _ => false
def toV : PD → V | .none => .non | .bool b => .bl b | .int i => .int i | .str x => .str x | _ => .non
def shp (d : PD) : Bool := noD d && SeqAt.shaped d
def items : PD → Option (List PD) | .list ds => some ds | .tuple ds => some ds | _ => none
def isNo : PD → Bool | .none => true | _ => false
def opF : Op2 → PD → PD → Option PD
  | .addI, .int i, .int j => some (.int (i + j))
  | .subI, .int i, .int j => some (.int (i - j))
  | .mulI, .int i, .int j => if -(2 ^ 64) < i ∧ i < 2 ^ 64 then some (.int (i * j)) else none
  | .divI, .int i, .int j => if j ≠ 0 ∧ j.natAbs < 1073741824 then some (.int (i.fdiv j)) else none
  | .modI, .int i, .int j => if j ≠ 0 then some (.int (i.fmod j)) else none
  | .addS, .str x, .str y => if x.length + y.length ≤ sizeLine then some (.str (x ++ y)) else none
  | .catL, .list xs, .list ys => if xs.length + ys.length ≤ sizeLine then some (.list (xs ++ ys)) else none
  | .eqD, a, b => if shp a = true ∧ shp b = true then some (.bool (PyData.eqv a b)) else none
  | .neD, a, b => if shp a = true ∧ shp b = true then some (.bool (!PyData.eqv a b)) else none
  | .ltI, .int i, .int j => some (.bool (decide (i < j)))
  | .leI, .int i, .int j => some (.bool (decide (i ≤ j)))
  | .gtI, .int i, .int j => some (.bool (decide (j < i)))
  | .geI, .int i, .int j => some (.bool (decide (j ≤ i)))
  | .isN, a, .none => some (.bool (isNo a))
  | .ntN, a, .none => some (.bool (!isNo a))
  | .inSg, .str x, .str z => if x.cps.size = 1 then some (.bool (decide (x.cps.getD 0 0 ∈ z.cps.toList))) else none
  | .inFl, a, b => match items b with
    | some ds => if isFl a = true ∧ ds.all isFl = true then some (.bool (inV (toV a) (ds.map toV))) else none
    | none => none
  | .niFl, a, b => match items b with
    | some ds => if isFl a = true ∧ ds.all isFl = true then some (.bool (!inV (toV a) (ds.map toV))) else none
    | none => none
  | .inTd, a, .tuple ds => if shp a = true ∧ shp (.tuple ds) = true then some (.bool (ds.any fun z => PyData.eqv z a)) else none
  | .inLd, a, .list ds => if shp a = true ∧ shp (.list ds) = true then some (.bool (ds.any fun z => PyData.eqv z a)) else none
  | .ixL, .list ds, .int i => atI ds i
  | .ixT, .tuple ds, .int i => atI ds i
  | .ixS, .str z, .int i => if z.length ≤ sizeLine then (atI z.cps.toList i).map fun k => .str ⟨#[k]⟩ else none
  | _, _, _ => none
def slF : Sk → PD → Option Int → Option Int → Option PD
  | .str, .str z, lo, hi => if z.length ≤ sizeLine then some (.str (cutS z lo hi)) else none
  | .lst, .list ds, lo, hi => some (.list ((ds.drop (HT.sIx ds.length 0 lo)).take (HT.sIx ds.length ds.length hi - HT.sIx ds.length 0 lo)))
  | _, _, _, _ => none
def boolsOf : List PD → Option (List Bool)
  | [] => some []
  | .bool b :: ds => (boolsOf ds).map (b :: ·)
  | _ :: _ => none
def strsOf : List PD → Option (List Str)
  | [] => some []
  | .str b :: ds => (strsOf ds).map (b :: ·)
  | _ :: _ => none
def bltF : Blt → PD → Option PD
  | .abs, .int i => some (.int (if i < 0 then -i else i))
  | .lenQ, .list ds => some (.int ds.length)
  | .lenQ, .tuple ds => some (.int ds.length)
  | .lenS, .str z => if z.length ≤ sizeLine then some (.int z.length) else none
  | .intI, .int i => some (.int i)
  | .intB, .bool b => some (.int (if b = true then 1 else 0))
  | .intS, .str z => if z.length ≤ 640 then (intText? z).map .int else none
  | .strI, .int i => if i.natAbs.log2 < 1920 then some (.str (Str.ofString (toString i))) else none
  | .tupL, .list ds => some (.tuple ds)
  | .allB, .list ds => (boolsOf ds).map fun bs => .bool (bs.all id)
  | _, _ => none
def tyOf : PD → String
  | .none => "NoneType" | .bool _ => "bool" | .int _ => "int" | .str _ => "str" | .list _ => "list" | .tuple _ => "tuple" | .dict _ => "dict"
def isiF (t : String) (d : PD) : Option PD := match d with
  | .dict _ => none
  | _ => if t = "int" then some (.bool (tyOf d == "int" || tyOf d == "bool")) else if t = "bool" then some (.bool (tyOf d == "bool")) else if t = "tuple" then some (.bool (tyOf d == "tuple")) else none
def splitF : PD → PD → Option PD
  | .str a, .str b => if b.length ≠ 0 ∧ a.length + 2 ≤ sizeLine then some (.list ((Txt.split a b).map .str)) else none
  | _, _ => none
def joinF : PD → PD → Option PD
  | .str a, .list ds => match strsOf ds with
    | some ys => if (ys.map (·.length)).sum + ys.length * a.length ≤ 16777216 then some (.str (Txt.join a ys)) else none
    | none => none
  | _, _ => none
def findF : PD → PD → Option PD
  | .str a, .str b => some (.int (Txt.find a b))
  | _, _ => none
def find3F : PD → PD → PD → Option PD
  | .str a, .str b, .int i => some (.int (Txt.find3 a b i))
  | _, _, _ => none

/-! ### slots -/
inductive Sl where
  | no
  | d (x : PD)
  | own (xs : List PD)
abbrev EnvD := List Sl
def fnOf : Sl → Option Nat
  | .d (.dict [(.int (.ofNat k), .none)]) => some k
  | _ => none
theorem fnOf_eq {s : Sl} {k : Nat} (h : fnOf s = some k) : s = .d (.dict [(.int k, .none)]) := by
  unfold fnOf at h
  split at h
  · cases h; rfl
  · cases h
def bagOf : Sl → Option Unit
  | .d (.dict []) => some ()
  | _ => none
theorem bagOf_eq {s : Sl} {u : Unit} (h : bagOf s = some u) : s = .d (.dict []) := by
  unfold bagOf at h
  split at h
  · rfl
  · cases h
def wipeD (env : EnvD) : List Nat → EnvD
  | [] => env
  | v :: vs => (wipeD env vs).set v .no
mutual
/-- a target takes a value -/
def tgF : Tg → PD → EnvD → Option EnvD
  | .name i, d, env => some (env.set i (.d d))
  | .tup ts, .tuple ds, env => tgsF ts ds env
  | .tup _, _, _ => none
def tgsF : Tgs → List PD → EnvD → Option EnvD
  | .nil, [], env => some env
  | .cons t ts, d :: ds, env => (tgF t d env).bind fun e => tgsF ts ds e
  | _, _, _ => none
end
def noX {β : Type} (m : M β) : M β := fun g => match m g with | .exn _ _ _ => .stuck | o => o
mutual
def tgIn : Tg → List Nat → Bool
  | .name i, own => own.contains i
  | .tup ts, own => tgsIn ts own
def tgsIn : Tgs → List Nat → Bool
  | .nil, _ => true
  | .cons t ts, own => tgIn t own && tgsIn ts own
end
def Tgs.len : Tgs → Nat
  | .nil => 0
  | .cons _ ts => ts.len + 1
def mapM' {β γ : Type} (f : β → M γ) : List β → M (List γ)
  | [] => ret []
  | x :: xs => bnd (f x) fun y => bnd (mapM' f xs) fun ys => ret (y :: ys)
def enumF (ds : List PD) : List PD := ds.zipIdx.map fun p => .tuple [.int (p.2 : Nat), p.1]
def zipF (xs ys : List PD) : List PD := (xs.zip ys).map fun p => .tuple [p.1, p.2]

section
variable (Fn : Nat → List PD → M PD) (vk : List Nat)
mutual
def evE : Ex → EnvD → M PD
  | .var i, env => match env[i]? with | some (.d x) => ret x | _ => stk
  | .lit d, _ => ret d
  | .op2 o a b, env => bnd (evE a env) fun x => bnd (evE b env) fun y => ofO (opF o x y)
  | .neg a, env => bnd (evE a env) fun x => match x with | .int i => ret (.int (-i)) | _ => stk
  | .chain o o' a b k, env => bnd (evE a env) fun x => bnd (evE b env) fun y => match opF o x y with
    | some (.bool true) => bnd (evE k env) fun z => ofO (opF o' y z)
    | some (.bool false) => ret (.bool false)
    | _ => stk
  | .ite t a b, env => bnd (evT t env) fun k => if k = true then evE a env else evE b env
  | .andV a b, env => bnd (evE a env) fun x => match x with | .bool true => evE b env | .bool false => ret (.bool false) | _ => stk
  | .orV a b, env => bnd (evE a env) fun x => match x with | .bool false => evE b env | .bool true => ret (.bool true) | _ => stk
  | .notV a, env => bnd (evE a env) fun x => match x with | .bool k => ret (.bool (!k)) | _ => stk
  | .tup es, env => bnd (evA es env) fun ds => if ds.length ≤ 1000 then ret (.tuple ds) else stk
  | .lst es, env => bnd (evA es env) fun ds => if ds.length ≤ 1000 then ret (.list ds) else stk
  | .lc elt tg it own, env => bnd (evI it env) fun ds => if ds.length ≤ 1000000 ∧ tgIn tg own = true then bnd (mapM' (fun d => match tgF tg d (wipeD env own) with | some env' => noX (evE elt env') | none => stk) ds) fun ys => ret (.list ys) else stk
  | .sl o a lo hi, env => bnd (evE a env) fun x => bnd (evO lo env) fun l => bnd (evO hi env) fun h => ofO (slF o x l h)
  | .blt b a, env => bnd (evE a env) fun x => ofO (bltF b x)
  | .isi t a, env => bnd (evE a env) fun x => ofO (isiF t x)
  | .call f es, env => bnd (evA es env) fun ds => Fn f ds
  | .callv i es, env => match (env[i]?).bind fnOf with
    | some k => if k ∈ vk then bnd (evA es env) fun ds => noX (Fn k ds) else stk
    | none => stk
  | .split a b, env => bnd (evE a env) fun x => match x with | .str z => bnd (evE b env) fun y => ofO (splitF (.str z) y) | _ => stk
  | .join a b, env => bnd (evE a env) fun x => match x with | .str z => bnd (evE b env) fun y => ofO (joinF (.str z) y) | _ => stk
  | .find a b, env => bnd (evE a env) fun x => match x with | .str z => bnd (evE b env) fun y => ofO (findF (.str z) y) | _ => stk
  | .find3 a b k, env => bnd (evE a env) fun x => match x with | .str w => bnd (evE b env) fun y => bnd (evE k env) fun z => ofO (find3F (.str w) y z) | _ => stk
  | .repl a y z, env => bnd (evE a env) fun x => match x with | .str w => if w.length + (w.length + 1) * z.length ≤ 16777216 then ret (.str (Txt.replace w y z)) else stk | _ => stk
  | .fnv k, _ => ret (dFn k)
  | .bget i n, env => match (env[i]?).bind bagOf with | some _ => (fun g => match g[n]? with | some d => .ok d g | none => .stuck) | none => stk
def evA : Exs → EnvD → M (List PD)
  | .nil, _ => ret []
  | .cons e es, env => bnd (evE e env) fun x => bnd (evA es env) fun xs => ret (x :: xs)
/-- a slice's end -/
def evO : Exs → EnvD → M (Option Int)
  | .nil, _ => ret none
  | .cons e _, env => bnd (evE e env) fun x => match x with | .int i => ret (some i) | _ => stk
def evT : Tx → EnvD → M Bool
  | .val e, env => bnd (evE e env) fun x => match x with | .bool k => ret k | _ => stk
  | .and a b, env => bnd (evT a env) fun k => if k = true then evT b env else ret false
  | .or a b, env => bnd (evT a env) fun k => if k = true then ret true else evT b env
  | .not a, env => bnd (evT a env) fun k => ret (!k)
/-- what is walked -/
def evI : Ix → EnvD → M (List PD)
  | .list e, env => bnd (evE e env) fun x => match x with | .list ds => ret ds | _ => stk
  | .tup e, env => bnd (evE e env) fun x => match x with | .tuple ds => ret ds | _ => stk
  | .str e, env => bnd (evE e env) fun x => match x with | .str z => ret (z.cps.toList.map fun k => .str ⟨#[k]⟩) | _ => stk
  | .range e, env => bnd (evE e env) fun x => match x with | .int n => if -(2 ^ 62) ≤ n ∧ n < 2 ^ 62 then ret ((List.range n.toNat).map fun k => .int (k : Nat)) else stk | _ => stk
  | .enum e, env => bnd (evE e env) fun x => match x with | .list ds => ret (enumF ds) | _ => stk
  | .zip a b, env => bnd (evE a env) fun x => bnd (evE b env) fun y => match x, y with | .tuple xs, .list ys => ret (zipF xs ys) | _, _ => stk
end
end
end G

/-! The operations' rules and that they reckon what GenB says. -/
namespace G
open PySem PySem.Spec PyProof.Rows L2

def rTd (K : PySem.W.Frag) : R2 := fun x y H Q => ∃ d ds, Dp K H x d ∧ Dp K H y (.tuple ds) ∧ SeqAt.shaped d = true ∧ SeqAt.shaped (.tuple ds) = true ∧ Q (.bl (ds.any fun z => PyData.eqv z d)) H
theorem op_inTd {X : Cx} (hu : X.A.units + 65 < cLine) : OpR X (compareOp .In) (rTd X.K) := by
  intro pins s σ H x y v u Q I rx ry h
  obtain ⟨d, ds, hd, he, sd, se, q⟩ := h
  obtain ⟨as, r1⟩ := Dp.reads I d x v hd rx
  obtain ⟨bs, r2⟩ := Dp.reads I (.tuple ds) y u he ry
  have c1 := SeqAt.canLay_of_shaped sd
  have c2 : PyData.canLayAll0 ds = true := SeqAt.canLay_of_shaped se
  have dd : d.depth ≤ 64 := SeqAt.depth_of_shaped sd
  have room : X.A.units + 1 + min (PyData.depthAll ds) d.depth < cLine := by
    have m := Nat.min_le_right (PyData.depthAll ds) d.depth
    omega
  exact SeqAt.in_tuple_reads r2 r1 c2 c1 room ⟨.bl _, H, I, rfl, q⟩

def opR (K : PySem.W.Frag) : Op2 → R2
  | .addI => rI0 fun i j => .int (i + j)
  | .subI => rI0 fun i j => .int (i - j)
  | .mulI => rI CMul fun i j => .int (i * j)
  | .divI => rI CDivN fun i j => .int (i.fdiv j)
  | .modI => rI (fun _ j => j ≠ 0) fun i j => .int (i.fmod j)
  | .addS => fun x y H Q => ∃ i j, x = .str i ∧ y = .str j ∧ i.length + j.length ≤ sizeLine ∧ Q (.str (i ++ j)) H
  | .catL => rCat
  | .eqD => rEqD K
  | .neD => rNeD K
  | .ltI => rI0 fun i j => .bl (decide (i < j))
  | .leI => rI0 fun i j => .bl (decide (i ≤ j))
  | .gtI => rI0 fun i j => .bl (decide (j < i))
  | .geI => rI0 fun i j => .bl (decide (j ≤ i))
  | .isN => fun x y H Q => y = .non ∧ Q (.bl (decide (x = .non))) H
  | .ntN => fun x y H Q => y = .non ∧ Q (.bl (!decide (x = .non))) H
  | .inSg => fun x y H Q => ∃ k z, x = .str { cps := #[k] } ∧ y = .str z ∧ Q (.bl (decide (k ∈ z.cps.toList))) H
  | .inFl => rIn K false
  | .niFl => rIn K true
  | .inTd => rTd K
  | .inLd => rInD K
  | .ixL => rIxL K
  | .ixT => rIxT K
  | .ixS => rIxS

section
variable {c : Cn} {B : Option Addr} {F H : Hp} {g : List PD} {x y : V} {dx dy dz : PD} {Q : VK}
theorem rv_toV : ∀ {d : PD} {v : V}, isFl d = true → Rv c B F v d → v = toV d ∧ flatV v = true
  | .none, _, _, h => by cases h; exact ⟨rfl, rfl⟩
  | .bool b, _, _, h => by cases h; exact ⟨rfl, rfl⟩
  | .int i, _, _, h => by cases h; exact ⟨rfl, rfl⟩
  | .str s, _, _, h => by cases h; exact ⟨rfl, rfl⟩
  | .list _, _, n, _ => by cases n
  | .tuple _, _, n, _ => by cases n
  | .dict _, _, n, _ => by cases n
theorem rva_toV : ∀ {ds : List PD} {vs : List V}, ds.all isFl = true → RvA c B F vs ds → vs = ds.map toV ∧ vs.all flatV = true
  | [], _, _, h => by cases h; exact ⟨rfl, rfl⟩
  | d :: ds, _, n, h => by
    cases h with
    | cons h1 h2 =>
      rw [List.all_cons, Bool.and_eq_true] at n
      obtain ⟨e1, f1⟩ := rv_toV n.1 h1
      obtain ⟨e2, f2⟩ := rva_toV n.2 h2
      exact ⟨by rw [e1, e2]; rfl, by rw [List.all_cons, f1, f2]; rfl⟩
theorem sq_items {b : PD} {ds : List PD} {v : V} (e : items b = some ds) (h : Rv c B F v b) : ∃ p xs, v = .ref p ∧ (SqL c.K F p xs ∨ SqT c.K F p xs) ∧ RvA c B F xs ds := by
  cases b with
  | list es =>
    have e' := Option.some.inj (show some es = some ds from e)
    subst e'
    cases h with
    | lst hs ha => exact ⟨_, _, rfl, .inl (.inl (.inl hs)), ha⟩
  | tuple es =>
    have e' := Option.some.inj (show some es = some ds from e)
    subst e'
    cases h with
    | tup hs ha => exact ⟨_, _, rfl, .inr hs, ha⟩
  | _ => cases e
theorem shp_of {d : PD} (h : shp d = true) : noD d = true ∧ SeqAt.shaped d = true := by
  have q : (noD d && SeqAt.shaped d) = true := h
  simpa using q
theorem shp_dp {d : PD} {v : V} (s : Sub F H) (h : shp d = true) (r : Rv c B F v d) : Dp c.K H v d ∧ SeqAt.shaped d = true :=
  ⟨Rv.dp d v (shp_of h).1 (Rv.mono s d v r), (shp_of h).2⟩
theorem dec_non {d : PD} {v : V} (r : Rv c B F v d) : decide (v = V.non) = isNo d := by
  cases r <;> simp [isNo]
theorem rv_list {a : Addr} {ds : List PD} (h : Rv c B F (.ref a) (.list ds)) : ∃ xs, F a = some (.lst xs) ∧ RvA c B F xs ds := by
  cases h with
  | lst hs ha => exact ⟨_, hs, ha⟩
/-- a made list is one that H has as a list -/
theorem ixN_len {vs : List V} {ds : List PD} (h : RvA c B F vs ds) {i : Int} {d : PD} (e : atI ds i = some d) : ∃ v, atI vs i = some v ∧ Rv c B F v d := by
  unfold atI at e ⊢
  rw [h.length]
  cases q : ixN ds.length i with
  | none => rw [q] at e; cases e
  | some j =>
    rw [q] at e
    exact RvA.get h (i := j) (d := d) e

theorem rv_bl (b : Bool) : Rv c B F (.bl b) (.bool b) := .bl b
theorem some_of {α : Type} {p : Prop} [Decidable p] {a b : α} (h : (if p then some a else none) = some b) : p ∧ a = b := by
  by_cases q : p
  · rw [if_pos q] at h; exact ⟨q, Option.some.inj h⟩
  · rw [if_neg q] at h; cases h
/-- an operation does what opF says -/
theorem op_ok (o : Op2) (s : Sub F H) (bg : BagR c B F H g) (rx : Rv c B F x dx) (ry : Rv c B F y dy) (h : opF o dx dy = some dz)
    (q : ∀ F' H' v, Gr B F H F' H' → BagR c B F' H' g → Rv c B F' v dz → Q v H') : opR c.K o x y H Q := by
  have now : ∀ v, Rv c B F v dz → Q v H := fun v r => q F H v (.refl s) bg r
  cases o with
  | addI =>
    cases dx <;> try (first | (cases h; done) | (simp [opF] at h; done))
    cases dy <;> try (first | (cases h; done) | (simp [opF] at h; done))
    cases rx; cases ry
    have e := Option.some.inj h
    exact ⟨_, _, rfl, rfl, now _ (e ▸ .int _)⟩
  | subI =>
    cases dx <;> try (first | (cases h; done) | (simp [opF] at h; done))
    cases dy <;> try (first | (cases h; done) | (simp [opF] at h; done))
    cases rx; cases ry
    have e := Option.some.inj h
    exact ⟨_, _, rfl, rfl, now _ (e ▸ .int _)⟩
  | mulI =>
    cases dx <;> try (first | (cases h; done) | (simp [opF] at h; done))
    cases dy <;> try (first | (cases h; done) | (simp [opF] at h; done))
    cases rx; cases ry
    obtain ⟨l, e⟩ := some_of h
    exact ⟨_, _, rfl, rfl, .inl l, now _ (e ▸ .int _)⟩
  | divI =>
    cases dx <;> try (first | (cases h; done) | (simp [opF] at h; done))
    cases dy <;> try (first | (cases h; done) | (simp [opF] at h; done))
    cases rx; cases ry
    obtain ⟨l, e⟩ := some_of h
    exact ⟨_, _, rfl, rfl, l, now _ (e ▸ .int _)⟩
  | modI =>
    cases dx <;> try (first | (cases h; done) | (simp [opF] at h; done))
    cases dy <;> try (first | (cases h; done) | (simp [opF] at h; done))
    cases rx; cases ry
    obtain ⟨l, e⟩ := some_of h
    exact ⟨_, _, rfl, rfl, l, now _ (e ▸ .int _)⟩
  | addS =>
    cases dx <;> try (first | (cases h; done) | (simp [opF] at h; done))
    cases dy <;> try (first | (cases h; done) | (simp [opF] at h; done))
    cases rx; cases ry
    obtain ⟨l, e⟩ := some_of h
    exact ⟨_, _, rfl, rfl, l, now _ (e ▸ .str _)⟩
  | catL =>
    cases dx <;> try (first | (cases h; done) | (simp [opF] at h; done))
    cases dy <;> try (first | (cases h; done) | (simp [opF] at h; done))
    cases rx with
    | lst hx ax =>
      cases ry with
      | lst hy ay =>
        obtain ⟨l, e⟩ := some_of h
        subst e
        refine ⟨_, _, _, _, rfl, rfl, s _ _ hx, s _ _ hy, by rw [ax.length, ay.length]; exact l, fun p hp => ?_⟩
        exact q _ _ _ (.fresh s hp) (bg.fresh s hp) (.lst upd_same (RvA.mono (Gr.fresh (B := B) s hp).sub _ _ (ax.app ay)))
  | eqD =>
    have h' : (if shp dx = true ∧ shp dy = true then some (PyData.bool (PyData.eqv dx dy)) else none) = some dz := by cases dx <;> exact h
    obtain ⟨l, e⟩ := some_of h'
    obtain ⟨p1, s1⟩ := shp_dp s l.1 rx
    obtain ⟨p2, s2⟩ := shp_dp s l.2 ry
    exact ⟨_, _, p1, p2, s1, s2, now _ (e ▸ .bl _)⟩
  | neD =>
    have h' : (if shp dx = true ∧ shp dy = true then some (PyData.bool (!PyData.eqv dx dy)) else none) = some dz := by cases dx <;> exact h
    obtain ⟨l, e⟩ := some_of h'
    obtain ⟨p1, s1⟩ := shp_dp s l.1 rx
    obtain ⟨p2, s2⟩ := shp_dp s l.2 ry
    exact ⟨_, _, p1, p2, s1, s2, now _ (e ▸ .bl _)⟩
  | ltI =>
    cases dx <;> try (first | (cases h; done) | (simp [opF] at h; done))
    cases dy <;> try (first | (cases h; done) | (simp [opF] at h; done))
    cases rx; cases ry
    have e := Option.some.inj h
    exact ⟨_, _, rfl, rfl, now _ (e ▸ .bl _)⟩
  | leI =>
    cases dx <;> try (first | (cases h; done) | (simp [opF] at h; done))
    cases dy <;> try (first | (cases h; done) | (simp [opF] at h; done))
    cases rx; cases ry
    have e := Option.some.inj h
    exact ⟨_, _, rfl, rfl, now _ (e ▸ .bl _)⟩
  | gtI =>
    cases dx <;> try (first | (cases h; done) | (simp [opF] at h; done))
    cases dy <;> try (first | (cases h; done) | (simp [opF] at h; done))
    cases rx; cases ry
    have e := Option.some.inj h
    exact ⟨_, _, rfl, rfl, now _ (e ▸ .bl _)⟩
  | geI =>
    cases dx <;> try (first | (cases h; done) | (simp [opF] at h; done))
    cases dy <;> try (first | (cases h; done) | (simp [opF] at h; done))
    cases rx; cases ry
    have e := Option.some.inj h
    exact ⟨_, _, rfl, rfl, now _ (e ▸ .bl _)⟩
  | isN =>
    cases dy <;> try (cases dx <;> first | (cases h; done) | (simp [opF] at h; done))
    cases ry
    have h' : some (PyData.bool (isNo dx)) = some dz := by cases dx <;> exact h
    have e := Option.some.inj h'
    refine ⟨rfl, ?_⟩
    rw [dec_non rx]
    exact now _ (e ▸ .bl _)
  | ntN =>
    cases dy <;> try (cases dx <;> first | (cases h; done) | (simp [opF] at h; done))
    cases ry
    have h' : some (PyData.bool (!isNo dx)) = some dz := by cases dx <;> exact h
    have e := Option.some.inj h'
    refine ⟨rfl, ?_⟩
    rw [dec_non rx]
    exact now _ (e ▸ .bl _)
  | inSg =>
    cases dx <;> try (first | (cases h; done) | (simp [opF] at h; done))
    cases dy <;> try (first | (cases h; done) | (simp [opF] at h; done))
    rename_i z w
    cases rx; cases ry
    obtain ⟨l, e⟩ := some_of h
    refine ⟨z.cps.getD 0 0, w, ?_, rfl, now _ (e ▸ .bl _)⟩
    have e1 : z.cps = #[z.cps.getD 0 0] := by
      apply Array.ext
      · rw [l]; rfl
      · intro i h1 h2
        have i0 : i = 0 := by rw [l] at h1; omega
        subst i0
        rw [Array.getD_eq_getD_getElem?, Array.getElem?_eq_getElem h1]
        rfl
    show V.str z = V.str { cps := #[z.cps.getD 0 0] }
    rw [← e1]
  | inFl =>
    have h' : (match items dy with | some ds => if isFl dx = true ∧ ds.all isFl = true then some (PyData.bool (inV (toV dx) (ds.map toV))) else none | none => none) = some dz := by cases dx <;> exact h
    cases e : items dy with
    | none => rw [e] at h'; cases h'
    | some ds =>
      rw [e] at h'
      obtain ⟨l, e2⟩ := some_of h'
      obtain ⟨p, xs, rfl, hq, ha⟩ := sq_items e ry
      obtain ⟨e3, f3⟩ := rv_toV l.1 rx
      obtain ⟨e4, f4⟩ := rva_toV l.2 ha
      refine ⟨p, xs, rfl, hq.elim (fun k => .inl (s.sl k)) (fun k => .inr (s.st k)), f3, f4, ?_⟩
      rw [e3, e4]
      exact now _ (e2 ▸ .bl _)
  | niFl =>
    have h' : (match items dy with | some ds => if isFl dx = true ∧ ds.all isFl = true then some (PyData.bool (!inV (toV dx) (ds.map toV))) else none | none => none) = some dz := by cases dx <;> exact h
    cases e : items dy with
    | none => rw [e] at h'; cases h'
    | some ds =>
      rw [e] at h'
      obtain ⟨l, e2⟩ := some_of h'
      obtain ⟨p, xs, rfl, hq, ha⟩ := sq_items e ry
      obtain ⟨e3, f3⟩ := rv_toV l.1 rx
      obtain ⟨e4, f4⟩ := rva_toV l.2 ha
      refine ⟨p, xs, rfl, hq.elim (fun k => .inl (s.sl k)) (fun k => .inr (s.st k)), f3, f4, ?_⟩
      rw [e3, e4]
      exact now _ (e2 ▸ .bl _)
  | inTd =>
    cases dy <;> try (cases dx <;> first | (cases h; done) | (simp [opF] at h; done))
    rename_i ds
    have h' : (if shp dx = true ∧ shp (.tuple ds) = true then some (PyData.bool (ds.any fun z => PyData.eqv z dx)) else none) = some dz := by cases dx <;> exact h
    obtain ⟨l, e⟩ := some_of h'
    obtain ⟨p1, s1⟩ := shp_dp s l.1 rx
    obtain ⟨p2, s2⟩ := shp_dp s l.2 ry
    exact ⟨_, _, p1, p2, s1, s2, now _ (e ▸ .bl _)⟩
  | inLd =>
    cases dy <;> try (cases dx <;> first | (cases h; done) | (simp [opF] at h; done))
    rename_i ds
    have h' : (if shp dx = true ∧ shp (.list ds) = true then some (PyData.bool (ds.any fun z => PyData.eqv z dx)) else none) = some dz := by cases dx <;> exact h
    obtain ⟨l, e⟩ := some_of h'
    obtain ⟨p1, s1⟩ := shp_dp s l.1 rx
    obtain ⟨p2, s2⟩ := shp_dp s l.2 ry
    exact ⟨_, _, p1, p2, s1, s2, now _ (e ▸ .bl _)⟩
  | ixL =>
    cases dx <;> try (first | (cases h; done) | (simp [opF] at h; done))
    cases dy <;> try (first | (cases h; done) | (simp [opF] at h; done))
    cases ry
    cases rx with
    | lst hx ax =>
      obtain ⟨v, e, r⟩ := ixN_len ax (show atI _ _ = some dz from h)
      exact ⟨_, _, _, v, rfl, rfl, .inl (.inl (s _ _ hx)), e, now _ r⟩
  | ixT =>
    cases dx <;> try (first | (cases h; done) | (simp [opF] at h; done))
    cases dy <;> try (first | (cases h; done) | (simp [opF] at h; done))
    cases ry
    cases rx with
    | tup hx ax =>
      obtain ⟨v, e, r⟩ := ixN_len ax (show atI _ _ = some dz from h)
      exact ⟨_, _, _, v, rfl, rfl, s.st hx, e, now _ r⟩
  | ixS =>
    cases dx <;> try (first | (cases h; done) | (simp [opF] at h; done))
    cases dy <;> try (first | (cases h; done) | (simp [opF] at h; done))
    rename_i z i
    cases rx; cases ry
    have h' : (if z.length ≤ sizeLine then (atI z.cps.toList i).map fun k => PyData.str ⟨#[k]⟩ else none) = some dz := h
    by_cases l : z.length ≤ sizeLine
    · rw [if_pos l] at h'
      obtain ⟨k, e1, e2⟩ := Option.map_eq_some_iff.mp h'
      exact ⟨_, _, k, rfl, rfl, l, e1, now _ (e2 ▸ .str _)⟩
    · rw [if_neg l] at h'; cases h'
end
end G

/-! The forms as readings of the hand layer, and that these hold where the forms reckon. -/
namespace G
open PySem PySem.Spec PyProof.Rows L2

/-! ### slots -/
def SlR (c : Cn) (B : Option Addr) (F H : Hp) (o : Option V) : Sl → Prop
  | .no => True
  | .d x => ∃ v, o = some v ∧ Rv c B F v x
  | .own xs => ∃ a vs, o = some (.ref a) ∧ H a = some (.lst vs) ∧ F a = none ∧ some a ≠ B ∧ RvA c B F vs xs
structure MEnv (c : Cn) (B : Option Addr) (F H : Hp) (σ : L2.St) (env : EnvD) : Prop where
  len : σ.length = env.length
  sl : ∀ (i : Nat) (s : Sl), env[i]? = some s → ∃ o, σ[i]? = some o ∧ SlR c B F H o s
  ap : ∀ (i j : Nat) (a : Addr) (xs ys : List PD), env[i]? = some (.own xs) → env[j]? = some (.own ys) → σ[i]? = some (some (.ref a)) → σ[j]? = some (some (.ref a)) → i = j
section
variable {c : Cn} {B : Option Addr} {F H F' H' : Hp} {σ : L2.St} {env : EnvD}
theorem SlR.grow {o : Option V} {s : Sl} (h : SlR c B F H o s) (g : Gr B F H F' H') : SlR c B F' H' o s := by
  cases s with
  | no => exact h
  | d x =>
    obtain ⟨v, e, r⟩ := h
    exact ⟨v, e, Rv.mono g.sub _ _ r⟩
  | own xs =>
    obtain ⟨a, vs, e, ha, hf, nb, r⟩ := h
    exact ⟨a, vs, e, g.keep _ _ ha nb, g.new _ _ ha hf, nb, RvA.mono g.sub _ _ r⟩
theorem MEnv.grow (h : MEnv c B F H σ env) (g : Gr B F H F' H') : MEnv c B F' H' σ env :=
  ⟨h.len, fun i s e => by
    obtain ⟨o, h1, h2⟩ := h.sl i s e
    exact ⟨o, h1, h2.grow g⟩, h.ap⟩
theorem MEnv.get (h : MEnv c B F H σ env) {i : Nat} {x : PD} (e : env[i]? = some (.d x)) : ∃ v, σ[i]? = some (some v) ∧ Rv c B F v x := by
  obtain ⟨o, h1, v, h2, h3⟩ := h.sl i _ e
  subst h2
  exact ⟨v, h1, h3⟩
/-- a slot gets a value (or nothing is known of it any more) -/
theorem MEnv.set (h : MEnv c B F H σ env) (i : Nat) {o : Option V} {s : Sl} (r : SlR c B F H o s) (n : ∀ xs, s ≠ .own xs) : MEnv c B F H (σ.set i o) (env.set i s) := by
  refine ⟨by rw [List.length_set, List.length_set]; exact h.len, fun j t e => ?_, fun j k a xs ys e1 e2 f1 f2 => ?_⟩
  · by_cases q : i = j
    · subst q
      by_cases l : i < env.length
      · rw [List.getElem?_set_self l] at e
        cases e
        exact ⟨o, List.getElem?_set_self (by rw [h.len]; exact l), r⟩
      · rw [List.getElem?_eq_none (by rw [List.length_set]; omega)] at e
        cases e
    · rw [List.getElem?_set_ne q] at e ⊢
      exact h.sl j t e
  · have ne : ∀ m zs, (env.set i s)[m]? = some (.own zs) → i ≠ m := fun m zs e q => by
      subst q
      by_cases l : i < env.length
      · rw [List.getElem?_set_self l] at e
        exact n zs (Option.some.inj e)
      · rw [List.getElem?_eq_none (by rw [List.length_set]; omega)] at e
        cases e
    have n1 := ne j xs e1
    have n2 := ne k ys e2
    rw [List.getElem?_set_ne n1] at e1 f1
    rw [List.getElem?_set_ne n2] at e2 f2
    exact h.ap j k a xs ys e1 e2 f1 f2
theorem MEnv.wipe (h : MEnv c B F H σ env) : ∀ own : List Nat, MEnv c B F H (wipe σ own) (wipeD env own)
  | [] => h
  | v :: vs => (MEnv.wipe h vs).set v (o := none) (s := .no) trivial (fun _ q => nomatch q)
theorem wipe_set (σ : L2.St) (i : Nat) (o : Option V) : ∀ own : List Nat, own.contains i = true → L2.wipe (σ.set i o) own = L2.wipe σ own
  | [], h => by cases h
  | v :: vs, h => by
    show (L2.wipe (σ.set i o) vs).set v none = (L2.wipe σ vs).set v none
    by_cases q : vs.contains i = true
    · rw [wipe_set σ i o vs q]
    · have e : v = i := by
        rw [List.contains_cons] at h
        have q' : vs.contains i = false := by simpa using q
        rw [q', Bool.or_false] at h
        exact (beq_iff_eq.mp h).symm
      subst e
      have key : ∀ ws : List Nat, ws.contains v = false → L2.wipe (σ.set v o) ws = (L2.wipe σ ws).set v o := by
        intro ws
        induction ws with
        | nil => intro _; rfl
        | cons w ws ih =>
          intro hw
          rw [List.contains_cons, Bool.or_eq_false_iff] at hw
          show (L2.wipe (σ.set v o) ws).set w none = ((L2.wipe σ ws).set w none).set v o
          rw [ih hw.2, List.set_comm _ _ (fun q => by rw [q] at hw; simp at hw)]
      rw [key vs (by simpa using q), List.set_set]
end

/-! ### targets -/
mutual
def dG (K : PySem.W.Frag) : Tg → TG
  | .name i => gName i
  | .tup ts => gTup K ts.len (dGs K ts)
def dGs (K : PySem.W.Frag) : Tgs → TGs
  | .nil => gNil
  | .cons t ts => gCons (dG K t) (dGs K ts)
end
section
variable {c : Cn} {B : Option Addr} {F H : Hp}
theorem tgs_len : ∀ (ts : Tgs) (ds : List PD) (env env' : EnvD), tgsF ts ds env = some env' → ds.length = ts.len
  | .nil, [], _, _, _ => rfl
  | .nil, _ :: _, _, _, h => by simp [tgsF] at h
  | .cons t ts, [], _, _, h => by simp [tgsF] at h
  | .cons t ts, d :: ds, env, env', h => by
    unfold tgsF at h
    cases e : tgF t d env with
    | none => rw [e] at h; cases h
    | some e1 =>
      rw [e] at h
      show ds.length + 1 = ts.len + 1
      rw [tgs_len ts ds e1 env' h]
mutual
theorem tg_ok (s : Sub F H) : ∀ (t : Tg) (d : PD) (env env' : EnvD) (σ : L2.St) (v : V) (Q : L2.St → Hp → Prop), tgF t d env = some env' → MEnv c B F H σ env → Rv c B F v d →
    (∀ σ', MEnv c B F H σ' env' → (∀ own, tgIn t own = true → L2.wipe σ' own = L2.wipe σ own) → Q σ' H) → dG c.K t v σ H Q
  | .name i, d, env, env', σ, v, Q, h, me, r, q => by
    have e : env.set i (.d d) = env' := Option.some.inj (show some (env.set i (.d d)) = some env' from h)
    subst e
    exact q _ (me.set i ⟨v, rfl, r⟩ (fun _ z => nomatch z)) fun own ho => wipe_set σ i _ own ho
  | .tup ts, .tuple ds, env, env', σ, v, Q, h, me, r, q => by
    cases r with
    | tup hs ha => exact ⟨_, _, rfl, s.st hs, by rw [ha.length]; exact tgs_len ts ds env env' h, tgs_ok s ts ds env env' σ _ Q h me ha q⟩
  | .tup ts, .none, _, _, _, _, _, h, _, _, _ => by cases h
  | .tup ts, .bool _, _, _, _, _, _, h, _, _, _ => by cases h
  | .tup ts, .int _, _, _, _, _, _, h, _, _, _ => by cases h
  | .tup ts, .str _, _, _, _, _, _, h, _, _, _ => by cases h
  | .tup ts, .list _, _, _, _, _, _, h, _, _, _ => by cases h
  | .tup ts, .dict _, _, _, _, _, _, h, _, _, _ => by cases h
theorem tgs_ok (s : Sub F H) : ∀ (ts : Tgs) (ds : List PD) (env env' : EnvD) (σ : L2.St) (vs : List V) (Q : L2.St → Hp → Prop), tgsF ts ds env = some env' → MEnv c B F H σ env → RvA c B F vs ds →
    (∀ σ', MEnv c B F H σ' env' → (∀ own, tgsIn ts own = true → L2.wipe σ' own = L2.wipe σ own) → Q σ' H) → dGs c.K ts vs σ H Q
  | .nil, [], env, env', σ, vs, Q, h, me, r, q => by
    cases r
    have e : env = env' := Option.some.inj (show some env = some env' from h)
    subst e
    exact ⟨rfl, q σ me fun _ _ => rfl⟩
  | .nil, _ :: _, _, _, _, _, _, h, _, _, _ => by simp [tgsF] at h
  | .cons t ts, [], _, _, _, _, _, h, _, _, _ => by simp [tgsF] at h
  | .cons t ts, d :: ds, env, env', σ, vs, Q, h, me, r, q => by
    cases r with
    | cons r1 r2 =>
      unfold tgsF at h
      cases e : tgF t d env with
      | none => rw [e] at h; cases h
      | some e1 =>
        rw [e] at h
        refine ⟨_, _, rfl, tg_ok s t d env e1 σ _ _ e me r1 fun σ1 me1 w1 => ?_⟩
        refine tgs_ok s ts ds e1 env' σ1 _ Q h me1 r2 fun σ2 me2 w2 => q σ2 me2 fun own ho => ?_
        have ho' : tgIn t own = true ∧ tgsIn ts own = true := by
          have z : (tgIn t own && tgsIn ts own) = true := ho
          simpa using z
        rw [w2 own ho'.2, w1 own ho'.1]
end
end
/-! ### what is walked -/
structure Walks (c : Cn) (B : Option Addr) (J : It) (F0 : Hp) (ds : List PD) : Prop where
  go : ∀ i F H, Sub F0 F → Sub F H → i < ds.length → J.go i H
  stop : ∀ i F H, Sub F0 F → Sub F H → ds.length ≤ i → J.stop i H
  yld : ∀ (i : Nat) (F H : Hp) (x : V) (H' : Hp) (d : PD), Sub F0 F → Sub F H → ds[i]? = some d → J.yld i H x H' → ∃ F', Gr B F H F' H' ∧ Rv c B F' x d ∧ ∀ g, BagR c B F H g → BagR c B F' H' g
section
variable {c : Cn} {B : Option Addr} {F H : Hp}
theorem walks_l {a : Addr} {xs : List V} {ds : List PD} (hs : F a = some (.lst xs)) (ha : RvA c B F xs ds) : Walks c B (Itl c.K a) F ds where
  go := fun i F1 H1 gs gi l => by
    have e := List.getElem?_eq_getElem (show i < xs.length by rw [ha.length]; exact l)
    exact ⟨xs, _, .inl (.inl (gi _ _ (gs _ _ hs))), e⟩
  stop := fun i F1 H1 gs gi l => ⟨xs, .inl (.inl (gi _ _ (gs _ _ hs))), by rw [ha.length]; exact l⟩
  yld := fun i F1 H1 x H' d gs gi e ⟨eh, hx⟩ => by
    subst eh
    have e1 := hx xs (.inl (.inl (gi _ _ (gs _ _ hs))))
    obtain ⟨v, h1, r⟩ := ha.get e
    rw [e1] at h1
    cases h1
    exact ⟨F1, .refl gi, Rv.mono gs _ _ r, fun _ h => h⟩
theorem walks_t {a : Addr} {xs : List V} {ds : List PD} (hs : SqT c.K F a xs) (ha : RvA c B F xs ds) : Walks c B (Itt c.K a) F ds where
  go := fun i F1 H1 gs gi l => by
    have e := List.getElem?_eq_getElem (show i < xs.length by rw [ha.length]; exact l)
    exact ⟨xs, _, gi.st (gs.st hs), e⟩
  stop := fun i F1 H1 gs gi l => ⟨xs, gi.st (gs.st hs), by rw [ha.length]; exact l⟩
  yld := fun i F1 H1 x H' d gs gi e ⟨eh, hx⟩ => by
    subst eh
    have e1 := hx xs (gi.st (gs.st hs))
    obtain ⟨v, h1, r⟩ := ha.get e
    rw [e1] at h1
    cases h1
    exact ⟨F1, .refl gi, Rv.mono gs _ _ r, fun _ h => h⟩
theorem walks_r {n : Nat} : Walks c B (Itr 0 n) F ((List.range n).map fun k => .int (k : Nat)) where
  go := fun i F1 H1 gs gi l => by
    have l' : i < n := by simpa using l
    exact l'
  stop := fun i F1 H1 gs gi l => by
    have l' : n ≤ i := by simpa using l
    exact l'
  yld := fun i F1 H1 x H' d gs gi e ⟨eh, hx⟩ => by
    subst eh
    subst hx
    rw [List.getElem?_map] at e
    obtain ⟨k, e1, e2⟩ := Option.map_eq_some_iff.mp e
    have e3 : k = i := by
      by_cases l : i < n
      · rw [List.getElem?_range l] at e1
        exact (Option.some.inj e1).symm
      · rw [List.getElem?_eq_none (by simpa using l)] at e1
        cases e1
    subst e3
    subst e2
    rw [Int.zero_add]
    exact ⟨F1, .refl gi, .int _, fun _ h => h⟩
theorem walks_s {z : Str} : Walks c B (Its z) F (z.cps.toList.map fun k => .str ⟨#[k]⟩) where
  go := fun i F1 H1 gs gi l => by
    have l' : i < z.cps.size := by simpa using l
    exact l'
  stop := fun i F1 H1 gs gi l => by
    have l' : z.cps.size ≤ i := by simpa using l
    exact l'
  yld := fun i F1 H1 x H' d gs gi e ⟨eh, k, hk, hx⟩ => by
    subst eh
    subst hx
    rw [List.getElem?_map] at e
    obtain ⟨k', e1, e2⟩ := Option.map_eq_some_iff.mp e
    rw [Array.getElem?_toList, hk] at e1
    cases e1
    subst e2
    exact ⟨F1, .refl gi, .str _, fun _ h => h⟩
theorem walks_e {a : Addr} {xs : List V} {ds : List PD} (hs : F a = some (.lst xs)) (ha : RvA c B F xs ds) : Walks c B (Ite c.K a) F (enumF ds) where
  go := fun i F1 H1 gs gi l => by
    have l' : i < ds.length := by simpa [enumF] using l
    have e := List.getElem?_eq_getElem (show i < xs.length by rw [ha.length]; exact l')
    exact ⟨xs, _, .inl (.inl (gi _ _ (gs _ _ hs))), e⟩
  stop := fun i F1 H1 gs gi l => ⟨xs, .inl (.inl (gi _ _ (gs _ _ hs))), by
    have l' : ds.length ≤ i := by simpa [enumF] using l
    rw [ha.length]; exact l'⟩
  yld := fun i F1 H1 x H' d gs gi e ⟨T, y, ex, hT, eh, hx⟩ => by
    subst ex
    subst eh
    have e1 := hx xs (.inl (.inl (gi _ _ (gs _ _ hs))))
    unfold enumF at e
    rw [List.getElem?_map] at e
    obtain ⟨p, e2, e3⟩ := Option.map_eq_some_iff.mp e
    rw [List.getElem?_zipIdx] at e2
    obtain ⟨dd, e4, e5⟩ := Option.map_eq_some_iff.mp e2
    subst e5
    subst e3
    obtain ⟨v, h1, r⟩ := ha.get e4
    rw [e1] at h1
    cases h1
    have gf := Gr.fresh (B := B) (o := HO.tup [V.int (i : Nat), y]) gi hT
    refine ⟨_, gf, ?_, fun gg hb => hb.fresh gi hT⟩
    refine .tup (.inl (.inl upd_same)) (.cons ?_ (.cons (Rv.mono (gs.trans gf.sub) _ _ r) .nil))
    show Rv c B _ (.int ((i : Nat) : Int)) (.int ((0 + i : Nat) : Int))
    rw [Nat.zero_add]
    exact .int _
end
end G

/-! The expressions. -/
namespace G
open PySem PySem.Spec PyProof.Rows L2

/-- a def's promise by what it reckons -/
def SpOf (c : Cn) (n : Nat) (f : List PD → M PD) : Sp := fun vs H Q E => ∃ (B : Option Addr) (F : Hp) (g ds : List PD), Sub F H ∧ BagR c B F H g ∧ RvA c B F vs ds ∧ ds.length = n ∧
  Post c B E F H (f ds g) fun d _ F' H' => ∀ v, Rv c B F' v d → Q v H'
structure Th where
  c : Cn
  sp : Nat → Sp
  spv : Addr → Sp → Prop
/-- a tuple and a list walked together -/
def ItzX (K : PySem.W.Frag) (a b : Addr) : It :=
  ⟨fun i H => ∃ xs ys x y, SqT K H a xs ∧ SqL K H b ys ∧ xs[i]? = some x ∧ ys[i]? = some y,
   fun i H v H' => ∃ T x y, v = V.ref T ∧ H T = none ∧ H' = upd H T (HO.tup [x, y]) ∧ (∀ xs, SqT K H a xs → xs[i]? = some x) ∧ ∀ ys, SqL K H b ys → ys[i]? = some y,
   fun i H => ∃ xs ys, SqT K H a xs ∧ SqL K H b ys ∧ (xs.length ≤ i ∨ ys.length ≤ i)⟩
def iZipX (K : PySem.W.Frag) (ta : TA) : TI := fun σ H R => ta σ H fun vs H1 => ∃ a b xs ys, vs = [.ref a, .ref b] ∧ SqT K H1 a xs ∧ SqL K H1 b ys ∧ R (ItzX K a b) H1
def skR (K : PySem.W.Frag) : Sk → V → Option Int → Option Int → Hp → VK → Prop
  | .str => rSlS
  | .lst => rSlL K
  | .tup => fun _ _ _ _ _ => False
def bltR (K : PySem.W.Frag) : Blt → List V → Hp → VK → Prop
  | .abs => fun xs H Q => ∃ i, xs = [V.int i] ∧ Q (V.int (if i < 0 then -i else i)) H
  | .lenQ => fun xs H Q => ∃ p ys, xs = [V.ref p] ∧ (SqL K H p ys ∨ SqT K H p ys) ∧ Q (V.int ys.length) H
  | .lenS => fun xs H Q => ∃ z, xs = [V.str z] ∧ z.length ≤ sizeLine ∧ Q (V.int z.length) H
  | .intI => fun xs H Q => (∃ i, xs = [V.int i] ∧ Q (V.int i) H) ∨ ∃ k, xs = [V.bl k] ∧ Q (V.int (if k = true then 1 else 0)) H
  | .intB => fun xs H Q => (∃ i, xs = [V.int i] ∧ Q (V.int i) H) ∨ ∃ k, xs = [V.bl k] ∧ Q (V.int (if k = true then 1 else 0)) H
  | .intS => fun xs H Q => ∃ a n, xs = [V.str a] ∧ intText? a = some n ∧ a.length ≤ 640 ∧ Q (V.int n) H
  | .strI => fun xs H Q => ∃ i, xs = [V.int i] ∧ i.natAbs.log2 < 1920 ∧ Q (V.str (Str.ofString (toString i))) H
  | .tupL => fun xs H Q => ∃ p ys, xs = [V.ref p] ∧ ((SqL K H p ys ∧ ∀ (l : Addr), H l = none → Q (V.ref l) (upd H l (HO.tup ys))) ∨ SqT K H p ys ∧ Q (V.ref p) H)
  | .allB => rAll K
def rSpl : V → List V → Hp → VK → Prop := fun x xs H Q => ∃ a b, x = V.str a ∧ xs = [V.str b] ∧ (b.length == 0) = false ∧ a.length + 2 ≤ sizeLine ∧ rNewStrs (Txt.split a b) H Q
def rJoi (K : PySem.W.Frag) : V → List V → Hp → VK → Prop := fun x xs H Q => ∃ a p ys, x = V.str a ∧ xs = [V.ref p] ∧ (SqL K H p (List.map V.str ys) ∨ SqT K H p (List.map V.str ys)) ∧
  (List.map (fun x => x.length) ys).sum + ys.length * a.length ≤ 16777216 ∧ Q (V.str (Txt.join a ys)) H
def rFi2 : V → List V → Hp → VK → Prop := fun x xs H Q => ∃ a b, x = V.str a ∧ xs = [V.str b] ∧ Q (V.int (Txt.find a b)) H
def rFi3 : V → List V → Hp → VK → Prop := fun x xs H Q => ∃ a b i, x = V.str a ∧ xs = [V.str b, V.int i] ∧ Q (V.int (Txt.find3 a b i)) H

/-- a call of a local name: the promise goes with the address -/
def tCallV (i : Nat) (S : Addr → Sp → Prop) (t : TA) : TE := fun σ H Q => ∃ f sp, σ[i]? = some (some (.ref f)) ∧ S f sp ∧ t σ H fun vs H1 => sp vs H1 Q (fun _ _ _ => False)
theorem pe_callV {X : Cx} {k i : Nat} {x : Str} {p pos : Pos} {e : Expr} {es : List Expr} {t : TA} {S : Addr → Sp → Prop} (A : ∀ f sp, S f sp → Held X.prog X.w X.K X.mg X.base k f sp) (hr : Room k X.A) (hN : X.N[i]? = some x) (hv : Vis X.env.scope x) (ha : PA X (e :: es) t)
    (hdb : (x == ("__debug__" : Str)) = false := by decide) (hcd : (x == ("__classdict__" : Str)) = false := by decide)
    (he : starEach (e :: es) X.env = (false, eval e X.env) :: starEach es X.env := by rfl) (hpl : (backTo pos (starEach es X.env)).any (·.1) = false := by rfl) : PE X (.Call (.Name x p) (e :: es) [] pos) (tCallV i S t) := by
  refine ⟨fun pins s σ H Q I h => ?_⟩
  obtain ⟨f, sp, hs, hS, ht⟩ := h
  refine (pe_callA (S := fun a => if a = f then some sp else none) (fun f' sp' e' => ?_) hr hN hv ha hdb hcd he hpl).run pins s σ H Q I ⟨f, sp, hs, if_pos rfl, ht⟩
  by_cases q : f' = f
  · rw [if_pos q] at e'
    cases e'
    subst q
    exact A _ _ hS
  · rw [if_neg q] at e'
    cases e'
/-- nothing is let out -/
def E00 : XK := fun _ _ _ => False
section
variable (Θ : Th)
mutual
def dE (E : XK) : Ex → TE
  | .var i => tVar i
  | .lit d => tC (toV d)
  | .op2 o a b => tOp (opR Θ.c.K o) (dE E a) (dE E b)
  | .neg a => tUn (rU fun i => V.int (-i)) (dE E a)
  | .chain o o' a b k => tChain (opR Θ.c.K o) (opR Θ.c.K o') (dE E a) (dE E b) (dE E k)
  | .ite t a b => tIf (dT E t) (dE E a) (dE E b)
  | .andV a b => tAndV (dE E a) (dE E b)
  | .orV a b => tOrV (dE E a) (dE E b)
  | .notV a => tNotV (dE E a)
  | .tup es => tTup (dA E es)
  | .lst es => tLst (dA E es)
  | .lc elt tg it own => tLc (dI E it) (dG Θ.c.K tg) tYes (dE E00 elt) own
  | .sl o a lo hi => tSl (skR Θ.c.K o) (dE E a) (dO E lo) (dO E hi)
  | .blt b a => tCB (bltR Θ.c.K b) (tCons (dE E a) tNil)
  | .isi t a => tCB (rIsi Θ.c.K) (tCons (dE E a) (tCons (tC (V.ty t)) tNil))
  | .call f es => tCall (Θ.sp f) [] E (dA E es)
  | .callv i es => tCallV i Θ.spv (dA E es)
  | .split a b => tM1 rSpl (dE E a) (dE E b)
  | .join a b => tM1 (rJoi Θ.c.K) (dE E a) (dE E b)
  | .find a b => tBM Θ.c.K "str" rFi2 (dE E a) (tCons (dE E b) tNil)
  | .find3 a b k => tBM Θ.c.K "str" rFi3 (dE E a) (tCons (dE E b) (tCons (dE E k) tNil))
  | .repl a y z => CwR.tReplC (dE E a) y z
  | .fnv k => tC (.ref (Θ.c.fa k))
  | .bget i n => tOp (rIxL Θ.c.K) (tVar i) (tC (.int n))
def dA (E : XK) : Exs → TA
  | .nil => tNil
  | .cons e es => tCons (dE E e) (dA E es)
def dO (E : XK) : Exs → TO
  | .nil => tNoPart
  | .cons e _ => tPart (dE E e)
def dT (E : XK) : Tx → TT
  | .val e => tTest (dE E e)
  | .and a b => tAnd (dT E a) (dT E b)
  | .or a b => tOr (dT E a) (dT E b)
  | .not a => tNot (dT E a)
def dI (E : XK) : Ix → TI
  | .list e => iList Θ.c.K (dE E e)
  | .tup e => iTup Θ.c.K (dE E e)
  | .str e => iStr (dE E e)
  | .range e => iRng1 (tCons (dE E e) tNil)
  | .enum e => iEnum Θ.c.K (tCons (dE E e) tNil)
  | .zip a b => iZipX Θ.c.K (tCons (dE E a) (tCons (dE E b) tNil))
end
end

/-! ### the built-ins do what they say -/
section
variable {c : Cn} {B : Option Addr} {F H : Hp} {g : List PD} {x y : V} {dx dy dz : PD} {Q : VK}
theorem ofO_post {E : XK} {o : Option PD} {k : PD → List PD → Hp → Hp → Prop} (h : Post c B E F H (ofO o g) k) : ∃ z, o = some z ∧ Post c B E F H (.ok z g) k := by
  cases o with
  | none => exact False.elim h
  | some z => exact ⟨z, rfl, h⟩
theorem bools_of : ∀ {ds : List PD} {bs : List Bool} {vs : List V}, boolsOf ds = some bs → RvA c B F vs ds → vs = bs.map V.bl
  | [], bs, _, h, r => by
    cases r
    have e := Option.some.inj (show some [] = some bs from h)
    subst e; rfl
  | d :: ds, bs, _, h, r => by
    cases d <;> try (cases h; done)
    rename_i b
    have h' : (boolsOf ds).map (b :: ·) = some bs := h
    obtain ⟨t, e1, e2⟩ := Option.map_eq_some_iff.mp h'
    subst e2
    cases r with
    | cons r1 r2 =>
      cases r1
      rw [bools_of e1 r2]; rfl
theorem strs_of : ∀ {ds : List PD} {bs : List Str} {vs : List V}, strsOf ds = some bs → RvA c B F vs ds → vs = bs.map V.str
  | [], bs, _, h, r => by
    cases r
    have e := Option.some.inj (show some [] = some bs from h)
    subst e; rfl
  | d :: ds, bs, _, h, r => by
    cases d <;> try (cases h; done)
    rename_i b
    have h' : (strsOf ds).map (b :: ·) = some bs := h
    obtain ⟨t, e1, e2⟩ := Option.map_eq_some_iff.mp h'
    subst e2
    cases r with
    | cons r1 r2 =>
      cases r1
      rw [strs_of e1 r2]; rfl
theorem blt_ok (b : Blt) (s : Sub F H) (bg : BagR c B F H g) (rx : Rv c B F x dx) (h : bltF b dx = some dz)
    (q : ∀ F' H' v, Gr B F H F' H' → BagR c B F' H' g → Rv c B F' v dz → Q v H') : bltR c.K b [x] H Q := by
  have now : ∀ v, Rv c B F v dz → Q v H := fun v r => q F H v (.refl s) bg r
  cases b with
  | abs =>
    cases dx <;> try (first | (cases h; done) | (simp [bltF] at h; done))
    cases rx
    exact ⟨_, rfl, now _ (Option.some.inj h ▸ .int _)⟩
  | lenQ =>
    cases dx <;> try (first | (cases h; done) | (simp [bltF] at h; done))
    · cases rx with
      | lst hs ha => exact ⟨_, _, rfl, .inl (.inl (.inl (s _ _ hs))), by rw [ha.length]; exact now _ (Option.some.inj h ▸ .int _)⟩
    · cases rx with
      | tup hs ha => exact ⟨_, _, rfl, .inr (s.st hs), by rw [ha.length]; exact now _ (Option.some.inj h ▸ .int _)⟩
  | lenS =>
    cases dx <;> try (first | (cases h; done) | (simp [bltF] at h; done))
    cases rx
    obtain ⟨l, e⟩ := some_of h
    exact ⟨_, rfl, l, now _ (e ▸ .int _)⟩
  | intI =>
    cases dx <;> try (first | (cases h; done) | (simp [bltF] at h; done))
    cases rx
    exact .inl ⟨_, rfl, now _ (Option.some.inj h ▸ .int _)⟩
  | intB =>
    cases dx <;> try (first | (cases h; done) | (simp [bltF] at h; done))
    cases rx
    exact .inr ⟨_, rfl, now _ (Option.some.inj h ▸ .int _)⟩
  | intS =>
    cases dx <;> try (first | (cases h; done) | (simp [bltF] at h; done))
    rename_i z
    cases rx
    have h' : (if z.length ≤ 640 then (intText? z).map PyData.int else none) = some dz := h
    by_cases l : z.length ≤ 640
    · rw [if_pos l] at h'
      obtain ⟨n, e1, e2⟩ := Option.map_eq_some_iff.mp h'
      exact ⟨_, n, rfl, e1, l, now _ (e2 ▸ .int _)⟩
    · rw [if_neg l] at h'; cases h'
  | strI =>
    cases dx <;> try (first | (cases h; done) | (simp [bltF] at h; done))
    cases rx
    obtain ⟨l, e⟩ := some_of h
    exact ⟨_, rfl, l, now _ (e ▸ .str _)⟩
  | tupL =>
    cases dx <;> try (first | (cases h; done) | (simp [bltF] at h; done))
    cases rx with
    | lst hs ha =>
      have e := Option.some.inj h
      subst e
      exact ⟨_, _, rfl, .inl ⟨.inl (.inl (s _ _ hs)), fun l hl => q _ _ _ (.fresh s hl) (bg.fresh s hl) (.tup (.inl (.inl upd_same)) (RvA.mono (Gr.fresh (B := B) s hl).sub _ _ ha))⟩⟩
  | allB =>
    cases dx <;> try (first | (cases h; done) | (simp [bltF] at h; done))
    rename_i ds
    have h' : (boolsOf ds).map (fun bs => PyData.bool (bs.all id)) = some dz := h
    obtain ⟨bs, e1, e2⟩ := Option.map_eq_some_iff.mp h'
    cases rx with
    | lst hs ha =>
      have e3 := bools_of e1 ha
      subst e3
      exact ⟨_, bs, rfl, .inl (.inl (s _ _ hs)), now _ (e2 ▸ .bl _)⟩
theorem ty_ok (s : Sub F H) (r : Rv c B F x dx) (n : ∀ kvs, dx ≠ .dict kvs) : TyX c.K H x (.type (tyOf dx)) := by
  cases r with
  | non => exact .base .non
  | bl b => exact .base (.bl b)
  | int i => exact .base (.int i)
  | str z => exact .base (.str z)
  | lst hs ha => exact .base (.lst (s _ _ hs))
  | tup hs ha =>
    rcases hs with (h | ⟨o, h⟩) | ⟨o, its, k, h1, h2, _⟩
    · exact .base (.tup (s _ _ h))
    · exact .fTuple (s _ _ h)
    · exact .kTuple h1 h2
  | fn k => exact absurd rfl (n _)
  | bag e => exact absurd rfl (n _)
theorem kit_int {K : PySem.W.Frag} : ∀ (d : PD), (∀ kvs, d ≠ .dict kvs) → PySem.W.kitOne K (.type (tyOf d)) (.type "int") = some (tyOf d == "int" || tyOf d == "bool")
  | .none, _ => by
    show PySem.W.kitOne K (.type "NoneType") (.type "int") = some ("NoneType" == "int" || "NoneType" == "bool")
    rw [show ("NoneType" == "int" || "NoneType" == "bool") = false by decide]
    exact kit_ty (by decide +kernel)
  | .bool b, _ => by
    show PySem.W.kitOne K (.type "bool") (.type "int") = some ("bool" == "int" || "bool" == "bool")
    rw [show ("bool" == "int" || "bool" == "bool") = true by decide]
    exact kit_ty (by decide +kernel)
  | .int i, _ => by
    show PySem.W.kitOne K (.type "int") (.type "int") = some ("int" == "int" || "int" == "bool")
    rw [show ("int" == "int" || "int" == "bool") = true by decide]
    exact kit_ty (by decide +kernel)
  | .str z, _ => by
    show PySem.W.kitOne K (.type "str") (.type "int") = some ("str" == "int" || "str" == "bool")
    rw [show ("str" == "int" || "str" == "bool") = false by decide]
    exact kit_ty (by decide +kernel)
  | .list l, _ => by
    show PySem.W.kitOne K (.type "list") (.type "int") = some ("list" == "int" || "list" == "bool")
    rw [show ("list" == "int" || "list" == "bool") = false by decide]
    exact kit_ty (by decide +kernel)
  | .tuple l, _ => by
    show PySem.W.kitOne K (.type "tuple") (.type "int") = some ("tuple" == "int" || "tuple" == "bool")
    rw [show ("tuple" == "int" || "tuple" == "bool") = false by decide]
    exact kit_ty (by decide +kernel)
  | .dict k, n => absurd rfl (n k)
theorem kit_bool {K : PySem.W.Frag} : ∀ (d : PD), (∀ kvs, d ≠ .dict kvs) → PySem.W.kitOne K (.type (tyOf d)) (.type "bool") = some (tyOf d == "bool")
  | .none, _ => by
    show PySem.W.kitOne K (.type "NoneType") (.type "bool") = some ("NoneType" == "bool")
    rw [show ("NoneType" == "bool") = false by decide]
    exact kit_ty (by decide +kernel)
  | .bool b, _ => by
    show PySem.W.kitOne K (.type "bool") (.type "bool") = some ("bool" == "bool")
    rw [show ("bool" == "bool") = true by decide]
    exact kit_ty (by decide +kernel)
  | .int i, _ => by
    show PySem.W.kitOne K (.type "int") (.type "bool") = some ("int" == "bool")
    rw [show ("int" == "bool") = false by decide]
    exact kit_ty (by decide +kernel)
  | .str z, _ => by
    show PySem.W.kitOne K (.type "str") (.type "bool") = some ("str" == "bool")
    rw [show ("str" == "bool") = false by decide]
    exact kit_ty (by decide +kernel)
  | .list l, _ => by
    show PySem.W.kitOne K (.type "list") (.type "bool") = some ("list" == "bool")
    rw [show ("list" == "bool") = false by decide]
    exact kit_ty (by decide +kernel)
  | .tuple l, _ => by
    show PySem.W.kitOne K (.type "tuple") (.type "bool") = some ("tuple" == "bool")
    rw [show ("tuple" == "bool") = false by decide]
    exact kit_ty (by decide +kernel)
  | .dict k, n => absurd rfl (n k)
theorem kit_tuple {K : PySem.W.Frag} : ∀ (d : PD), (∀ kvs, d ≠ .dict kvs) → PySem.W.kitOne K (.type (tyOf d)) (.type "tuple") = some (tyOf d == "tuple")
  | .none, _ => by
    show PySem.W.kitOne K (.type "NoneType") (.type "tuple") = some ("NoneType" == "tuple")
    rw [show ("NoneType" == "tuple") = false by decide]
    exact kit_ty (by decide +kernel)
  | .bool b, _ => by
    show PySem.W.kitOne K (.type "bool") (.type "tuple") = some ("bool" == "tuple")
    rw [show ("bool" == "tuple") = false by decide]
    exact kit_ty (by decide +kernel)
  | .int i, _ => by
    show PySem.W.kitOne K (.type "int") (.type "tuple") = some ("int" == "tuple")
    rw [show ("int" == "tuple") = false by decide]
    exact kit_ty (by decide +kernel)
  | .str z, _ => by
    show PySem.W.kitOne K (.type "str") (.type "tuple") = some ("str" == "tuple")
    rw [show ("str" == "tuple") = false by decide]
    exact kit_ty (by decide +kernel)
  | .list l, _ => by
    show PySem.W.kitOne K (.type "list") (.type "tuple") = some ("list" == "tuple")
    rw [show ("list" == "tuple") = false by decide]
    exact kit_ty (by decide +kernel)
  | .tuple l, _ => by
    show PySem.W.kitOne K (.type "tuple") (.type "tuple") = some ("tuple" == "tuple")
    rw [show ("tuple" == "tuple") = true by decide]
    exact kit_ty (by decide +kernel)
  | .dict k, n => absurd rfl (n k)
theorem isi_ok {t : String} (s : Sub F H) (bg : BagR c B F H g) (rx : Rv c B F x dx) (h : isiF t dx = some dz)
    (q : ∀ F' H' v, Gr B F H F' H' → BagR c B F' H' g → Rv c B F' v dz → Q v H') : rIsi c.K [x, .ty t] H Q := by
  have now : ∀ v, Rv c B F v dz → Q v H := fun v r => q F H v (.refl s) bg r
  have nd : ∀ kvs, dx ≠ .dict kvs := fun kvs e => by subst e; cases h
  have ty := ty_ok s rx nd
  have h' : (if t = "int" then some (PyData.bool (tyOf dx == "int" || tyOf dx == "bool")) else if t = "bool" then some (PyData.bool (tyOf dx == "bool")) else if t = "tuple" then some (PyData.bool (tyOf dx == "tuple")) else none) = some dz := by
    cases dx <;> first | exact h | exact absurd rfl (nd _)
  by_cases t1 : t = "int"
  · subst t1
    rw [if_pos rfl] at h'
    exact ⟨x, .ty "int", _, _, (tyOf dx == "int" || tyOf dx == "bool"), rfl, .ty _, ty, kit_int dx nd, now _ (Option.some.inj h' ▸ .bl _)⟩
  · rw [if_neg t1] at h'
    by_cases t2 : t = "bool"
    · subst t2
      rw [if_pos rfl] at h'
      exact ⟨x, .ty "bool", _, _, (tyOf dx == "bool"), rfl, .ty _, ty, kit_bool dx nd, now _ (Option.some.inj h' ▸ .bl _)⟩
    · rw [if_neg t2] at h'
      by_cases t3 : t = "tuple"
      · subst t3
        rw [if_pos rfl] at h'
        exact ⟨x, .ty "tuple", _, _, (tyOf dx == "tuple"), rfl, .ty _, ty, kit_tuple dx nd, now _ (Option.some.inj h' ▸ .bl _)⟩
      · rw [if_neg t3] at h'; cases h'
theorem sk_ok (o : Sk) {lo hi : Option Int} (s : Sub F H) (bg : BagR c B F H g) (rx : Rv c B F x dx) (h : slF o dx lo hi = some dz)
    (q : ∀ F' H' v, Gr B F H F' H' → BagR c B F' H' g → Rv c B F' v dz → Q v H') : skR c.K o x lo hi H Q := by
  cases o with
  | str =>
    cases dx <;> try (first | (cases h; done) | (simp [slF] at h; done))
    cases rx
    obtain ⟨l, e⟩ := some_of h
    exact ⟨_, rfl, l, q F H _ (.refl s) bg (e ▸ .str _)⟩
  | lst =>
    cases dx <;> try (first | (cases h; done) | (simp [slF] at h; done))
    cases rx with
    | lst hs ha =>
      have e := Option.some.inj h
      subst e
      refine ⟨_, _, rfl, .inl (.inl (s _ _ hs)), fun p hp => q _ _ _ (.fresh s hp) (bg.fresh s hp) (.lst upd_same (RvA.mono (Gr.fresh (B := B) s hp).sub _ _ ?_))⟩
      unfold cutV
      rw [ha.length]
      exact (ha.drop _).take _
  | tup => cases dx <;> (simp [slF] at h; done)
end
end G

/-! That the readings of expressions hold. -/
namespace G
open PySem PySem.Spec PyProof.Rows L2

section
variable {c : Cn} {B : Option Addr} {F H F1 H1 F2 H2 : Hp} {D : Addr}
theorem Gr.mut {o : HO} (a : Gr B F1 H1 F2 H2) (n1 : H1 D = none) (n2 : F2 D = none) : Gr B F1 H1 F2 (upd H2 D o) where
  sub := a.sub
  inn := fun x u h => by
    have e : x ≠ D := fun e => by rw [e, n2] at h; cases h
    rw [upd_ne e]; exact a.inn _ _ h
  keep := fun b u h nb => by rw [upd_ne (ne_of_none h n1)]; exact a.keep _ _ h nb
  there := fun b u h => by
    obtain ⟨o', q⟩ := a.there _ _ h
    exact ⟨o', by rw [upd_ne (ne_of_none h n1)]; exact q⟩
  new := a.new
theorem Gr.freeze {o : HO} (a : Gr B F1 H1 F2 H2) (n1 : H1 D = none) (n2 : F2 D = none) (h2 : H2 D = some o) : Gr B F1 H1 (upd F2 D o) H2 where
  sub := fun x u h => by
    have h' := a.sub _ _ h
    have e : x ≠ D := fun e => by rw [e, n2] at h'; cases h'
    rw [upd_ne e]; exact h'
  inn := fun x u h => by
    by_cases e : x = D
    · subst e; rw [upd_same] at h; rw [← h]; exact h2
    · rw [upd_ne e] at h; exact a.inn _ _ h
  keep := a.keep
  there := a.there
  new := fun b u h n => by rw [upd_ne (ne_of_none h n1)]; exact a.new _ _ h n
theorem BagR.ne {g : List PD} (b : BagR c B F H g) {a : Addr} (e : B = some a) (n : H D = none) : a ≠ D := by
  obtain ⟨_, vs, h, _⟩ := b a e
  exact ne_of_none h n
theorem BagR.mut {g g' : List PD} {o : HO} (b : BagR c B F2 H2 g) (b1 : BagR c B F1 H1 g') (n : H1 D = none) : BagR c B F2 (upd H2 D o) g := fun a e => by
  obtain ⟨h1, vs, h2, h3⟩ := b a e
  exact ⟨h1, vs, by rw [upd_ne (b1.ne e n)]; exact h2, h3⟩
theorem BagR.freeze {g g' : List PD} {o : HO} (b : BagR c B F2 H2 g) (b1 : BagR c B F1 H1 g') (n : H1 D = none) (s : Sub F2 (upd F2 D o)) : BagR c B (upd F2 D o) H2 g := fun a e => by
  obtain ⟨h1, vs, h2, h3⟩ := b a e
  exact ⟨by rw [upd_ne (b1.ne e n)]; exact h1, vs, h2, RvA.mono s _ _ h3⟩
theorem sub_upd {o : HO} (n : F D = none) : Sub F (upd F D o) := fun x u h => by
  have e : x ≠ D := fun e => by rw [e, n] at h; cases h
  rw [upd_ne e]; exact h
end

theorem noX_ok {β : Type} {m : M β} {g g1 : List PD} {y : β} (h : noX m g = .ok y g1) : m g = .ok y g1 := by
  unfold noX at h
  cases e : m g with
  | stuck => rw [e] at h; cases h
  | ok b k => rw [e] at h; exact h
  | exn l j k => rw [e] at h; cases h
theorem noX_exn {β : Type} {m : M β} {g g1 : List PD} {l k : Int} (h : noX m g = .exn l k g1) : False := by
  unfold noX at h
  cases e : m g with
  | stuck => rw [e] at h; cases h
  | ok b k => rw [e] at h; cases h
  | exn l j k => rw [e] at h; cases h

/-- a list comprehension -/
theorem lc_ok {c : Cn} {B : Option Addr} {E : XK} {F1 H1 : Hp} {g : List PD} {J : It} {ds : List PD} {f : PD → M PD} {tg : TG} {te : TE} {own : List Nat} {σ : L2.St} {Q : VK}
    (bg : BagR c B F1 H1 g) (s1 : Sub F1 H1) (W : Walks c B J F1 ds) (hl : ds.length ≤ 1000000)
    (hx : ∀ d g l k g', f d g = .exn l k g' → False)
    (helt : ∀ F H x d gb y g1 (Q' : VK), Gr B F1 H1 F H → BagR c B F H gb → Rv c B F x d → f d gb = .ok y g1 → (∀ F' H' v, Gr B F H F' H' → BagR c B F' H' g1 → Rv c B F' v y → Q' v H') →
      tg x (wipe σ own) H fun σ2 H2 => wipe σ2 own = wipe σ own ∧ te σ2 H2 Q')
    (h : Post c B E F1 H1 (mapM' f ds g) fun ys _ F' H' => ∀ a vs, H' a = some (.lst vs) → F' a = none → H1 a = none → RvA c B F' vs ys → Q (.ref a) H') :
    ∀ D, H1 D = none → ∃ W : Nat → Nat → Hp → Prop, (∃ m, W 0 m (upd H1 D (.lst []))) ∧ ∀ i m H, W i m H →
      (J.stop i H ∧ Q (.ref D) H) ∨ (J.go i H ∧ ∃ Nx : Hp → Prop, (∀ H', Nx H' → ∃ m', m' < m ∧ W (i + 1) m' H') ∧ ∀ x H', J.yld i H x H' → tg x (wipe σ own) H' fun σ2 H2 => wipe σ2 own = wipe σ own ∧
        tYes σ2 H2 fun b H3 => if b = true then te σ2 H3 fun y H4 => ∃ acc, H4 D = some (.lst acc) ∧ acc.length < sizeLine ∧ Nx (upd H4 D (.lst (acc ++ [y]))) else Nx H3) := by
  intro D hD
  have fD : F1 D = none := by
    cases e : F1 D with
    | none => rfl
    | some o => rw [s1 _ _ e] at hD; cases hD
  refine ⟨fun i m H => m = ds.length - i ∧ i ≤ ds.length ∧ ∃ F acc vs gb, Gr B F1 H1 F H ∧ BagR c B F H gb ∧ H D = some (.lst vs) ∧ F D = none ∧ RvA c B F vs acc ∧ vs.length = i ∧
    Post c B E F1 H1 (mapM' f (ds.drop i) gb) (fun ys _ F' H' => ∀ a vs, H' a = some (.lst vs) → F' a = none → H1 a = none → RvA c B F' vs (acc ++ ys) → Q (.ref a) H'),
    ⟨_, rfl, Nat.zero_le _, F1, [], [], g, .freshM s1 hD, bg.freshM hD, upd_same, fD, .nil, rfl, h⟩, ?_⟩
  rintro i m H ⟨rfl, il, F, acc, vs, gb, gr, bb, hv, nD, ra, vl, hp⟩
  by_cases q : i = ds.length
  · left
    have e0 : ds.drop i = [] := by rw [q]; exact List.drop_length
    rw [e0] at hp
    refine ⟨W.stop i F H gr.sub gr.inn (by omega), ?_⟩
    refine hp F H gr bb D vs hv nD hD ?_
    rw [List.append_nil]
    exact ra
  · right
    have il' : i < ds.length := by omega
    have e0 : ds.drop i = ds[i] :: ds.drop (i + 1) := List.drop_eq_getElem_cons il'
    have e1 : ds[i]? = some ds[i] := List.getElem?_eq_getElem il'
    rw [e0] at hp
    refine ⟨W.go i F H gr.sub gr.inn il', fun H'' => ∃ m', m' < ds.length - i ∧ (m' = ds.length - (i + 1) ∧ i + 1 ≤ ds.length ∧ ∃ F acc vs gb, Gr B F1 H1 F H'' ∧ BagR c B F H'' gb ∧ H'' D = some (.lst vs) ∧ F D = none ∧ RvA c B F vs acc ∧ vs.length = i + 1 ∧
      Post c B E F1 H1 (mapM' f (ds.drop (i + 1)) gb) (fun ys _ F' H' => ∀ a vs, H' a = some (.lst vs) → F' a = none → H1 a = none → RvA c B F' vs (acc ++ ys) → Q (.ref a) H')), fun H' hN => hN, fun x H' hy => ?_⟩
    obtain ⟨F2, gr2, rx, bag2⟩ := W.yld i F H x H' _ gr.sub gr.inn e1 hy
    cases ef : f ds[i] gb with
    | stuck =>
      exfalso
      have hp' : Post c B E F1 H1 ((f ds[i] gb).bnd fun y => bnd (mapM' f (ds.drop (i + 1))) fun ys => ret (y :: ys)) _ := hp
      rw [ef] at hp'
      exact hp'
    | exn l k g' => exact (hx _ _ _ _ _ ef).elim
    | ok y g1 =>
      have hp' : Post c B E F1 H1 ((f ds[i] gb).bnd fun y => bnd (mapM' f (ds.drop (i + 1))) fun ys => ret (y :: ys)) _ := hp
      rw [ef] at hp'
      have hp2 : Post c B E F1 H1 (mapM' f (ds.drop (i + 1)) g1) (fun ys _ F' H' => ∀ a vs, H' a = some (.lst vs) → F' a = none → H1 a = none → RvA c B F' vs (acc ++ [y] ++ ys) → Q (.ref a) H') := by
        have hp3 : Post c B E F1 H1 ((mapM' f (ds.drop (i + 1)) g1).bnd fun ys => ret (y :: ys)) _ := hp'
        refine (Post.bind hp3).imp fun ys g2 F' H' gr3 bg3 hk a ws e1 e2 e3 rv => ?_
        have hk' := hk F' H' (.refl gr3.inn) bg3 a ws e1 e2 e3
        rw [List.append_assoc] at rv
        exact hk' rv
      refine helt F2 H' x ds[i] gb y g1 _ (gr.trans gr2) (bag2 _ bb) rx ef fun F3 H3 v gr3 bg3 rv => ?_
      have nB : some D ≠ B := fun e => (bg.ne e.symm hD) rfl
      have hv3 : H3 D = some (.lst vs) := gr3.keep _ _ (gr2.keep _ _ hv nB) nB
      have n3 : F3 D = none := gr3.new _ _ (gr2.keep _ _ hv nB) (gr2.new _ _ hv nD)
      refine ⟨vs, hv3, Nat.lt_of_lt_of_le (show vs.length < 1000001 by omega) (by decide), ds.length - (i + 1), by omega, rfl, il', F3, acc ++ [y], vs ++ [v], g1, ((gr.trans gr2).trans gr3).mut hD n3, bg3.mut bg hD, upd_same, n3,
        (RvA.mono (gr2.trans gr3).sub _ _ ra).app (.cons rv .nil), by rw [List.length_append, vl]; rfl, hp2⟩
/-- a list that is the def's own may be left as it is -/
theorem Post.own {c : Cn} {B : Option Addr} {E : XK} {F H : Hp} {g0 : List PD} {o : Out PD} {Q : VK} (bg0 : BagR c B F H g0) (h : Post c B E F H o fun d _ F' H' => ∀ v, Rv c B F' v d → Q v H') :
    Post c B E F H o fun d _ F' H' => ∀ ds a vs, d = .list ds → H' a = some (.lst vs) → F' a = none → H a = none → RvA c B F' vs ds → Q (.ref a) H' := by
  cases o with
  | stuck => exact h
  | exn l j g => exact h
  | ok d g =>
    intro F' H' gr bg ds a vs e h1 h2 h3 ra
    subst e
    have sb := sub_upd (o := HO.lst vs) h2
    exact h (upd F' a (.lst vs)) H' (gr.freeze h3 h2 h1) (bg.freeze bg0 h3 sb) _ (.lst upd_same (RvA.mono sb _ _ ra))
theorem Gr.back {B : Option Addr} {F H F' H' : Hp} (g : Gr B F H F' H') {a : Addr} (n : H' a = none) : H a = none := by
  cases e : H a with
  | none => rfl
  | some o =>
    obtain ⟨o', q⟩ := g.there _ _ e
    rw [q] at n; cases n
end G

/-! zip of a tuple and a list: turned from the library's two-tuples case. -/
namespace ZX
open PySem PySem.Spec PyProof.Rows L2 G
section
variable {prog : Program} {w : World} {A : Around} {E : Value → Shared → Prop} {s : Shared}
theorem zipX_item {zz Ti To j1 j2 t1 q2 : Addr} {k1 k2 : Nat} {us ws : Array Value} {x y a b : Value} {Q : Value → Shared → Prop} (D : ZipApart zz Ti To j1 j2 t1 q2)
    (kz : IsZip s.heap zz Ti To .none) (kTi : IsPair s.heap Ti (.ref j1) (.ref j2)) (kTo : IsPair s.heap To a b)
    (w1 : s.heap.IsTupleIter j1 t1 k1) (w2 : s.heap.IsListIter j2 q2 k2) (kt : s.heap.IsTuple t1 us) (kq : s.heap.IsList q2 ws) (gx : us[k1]? = some x) (gy : ws[k2]? = some y)
    (kQ : ∀ h', IsZip h' zz Ti To (rawInt s.heap.objs.size) → IsPair h' To x y → h'.IsTupleIter j1 t1 (k1 + 1) → h'.IsListIter j2 q2 (k2 + 1) → IsPair h' s.heap.objs.size x y → h'.objs.size = s.heap.objs.size + 1 →
      (∀ c o, c ≠ zz → c ≠ To → c ≠ j1 → c ≠ j2 → s.heap.get? c = some o → h'.get? c = some o) → Q (.ref s.heap.objs.size) { s with heap := h' }) :
    wpAny (model prog w) A (Builtin.«zip.__next__» ⟨[.ref zz], []⟩) (fun fin s' => ∃ v, fin = .done (.ret v) ∧ Q v s') E s := by
  show wpAny _ _ (field (.ref zz) 2 >>= _) _ _ _
  refine wpAny_bind (wpAny_field kz rfl (x := .bool false) rfl ?_)
  show wpAny _ _ (field (.ref zz) 3 >>= _) _ _ _
  refine wpAny_bind (wpAny_field kz rfl (x := .ref Ti) rfl ?_)
  refine wpAny_bind (wpAny_seqItems kTi rfl ?_)
  show wpAny _ _ (Builtin.SmallTypes.ownedTupleIsFree (.ref zz) >>= _) _ _ _
  refine wpAny_bind ?_
  unfold Builtin.SmallTypes.ownedTupleIsFree
  refine wpAny_bind (wpAny_field kz rfl (x := .none) rfl (wpAny_pure ?_))
  simp only [if_true]
  refine wpAny_bind (wpAny_rule ?_)
  refine wpAny_bind (wpAny_field kz rfl (x := .ref To) rfl ?_)
  refine wpAny_bind (wpAny_setField_rec kz (by simp) fun n₁ kz₁ m₁ => ?_)
  replace kz₁ : IsZip n₁ zz Ti To .ellipsis := kz₁
  refine wpAny_bind ?_
  simp only [List.zipIdx_cons, List.zipIdx_nil, List.forIn_cons, List.forIn_nil]

  refine wpAny_bind (wpAny_bind (wpAny_onRaise ?_))
  show wpAny _ _ (Builtin.SmallTypes.nextOf (.ref j1) >>= _) _ _ _
  refine wpAny_bind (RZ.nextOf_tuple_item (w1.extBut m₁.extBut D.i1z) (kt.extBut m₁.extBut D.l1z) gx fun n₂ w1₂ m₂ => wpAny_pure ?_)
  have kTo₂ : IsPair n₂ To a b := m₂.extBut _ _ D.TOi1 (m₁.extBut _ _ D.TOz kTo)
  refine wpAny_bind (wpAny_seqItems kTo₂ rfl ?_)
  refine wpAny_bind (wpAny_updateSeq_pair kTo₂ fun n₃ kTo₃ m₃ => ?_)
  replace kTo₃ : IsPair n₃ To x b := kTo₃
  refine wpAny_bind (wpAny_letGo (wpAny_pure ?_))

  refine wpAny_bind (wpAny_bind (wpAny_onRaise ?_))
  show wpAny _ _ (Builtin.SmallTypes.nextOf (.ref j2) >>= _) _ _ _
  refine wpAny_bind (wpAny_nextOf_list_item (((w2.extBut m₁.extBut D.i2z).extBut m₂.extBut D.i12.symm).extBut m₃.extBut D.TOi2.symm)
    (((kq.extBut m₁.extBut D.l2z).extBut m₂.extBut D.l2i1).extBut m₃.extBut D.l2TO) gy fun n₄ w2₄ m₄ => wpAny_pure ?_)
  have kTo₄ : IsPair n₄ To x b := m₄.extBut _ _ D.TOi2 kTo₃
  refine wpAny_bind (wpAny_seqItems kTo₄ rfl ?_)
  refine wpAny_bind (wpAny_updateSeq_pair kTo₄ fun n₅ kTo₅ m₅ => ?_)
  replace kTo₅ : IsPair n₅ To x y := kTo₅
  refine wpAny_bind (wpAny_letGo (wpAny_pure (wpAny_pure ?_)))

  refine wpAny_bind (wpAny_seqItems kTo₅ rfl ?_)
  refine wpAny_bind (wpAny_newTuple ?_)
  have ksz : n₅.objs.size = s.heap.objs.size := by rw [m₅.1, m₄.1, m₃.1, m₂.1, m₁.1]
  have kz₅ : IsZip n₅ zz Ti To .ellipsis := m₅.extBut _ _ D.TOz.symm (m₄.extBut _ _ D.i2z.symm (m₃.extBut _ _ D.TOz.symm (m₂.extBut _ _ D.i1z.symm kz₁)))
  have kk₅ : ∀ c o, c ≠ zz → c ≠ To → c ≠ j1 → c ≠ j2 → s.heap.get? c = some o → n₅.get? c = some o := fun c o c1 c2 c3 c4 e =>
    m₅.extBut _ _ c2 (m₄.extBut _ _ c4 (m₃.extBut _ _ c2 (m₂.extBut _ _ c3 (m₁.extBut _ _ c1 e))))
  have w1₅ : n₅.IsTupleIter j1 t1 (k1 + 1) := ((w1₂.extBut m₃.extBut D.TOi1.symm).extBut m₄.extBut D.i12).extBut m₅.extBut D.TOi1.symm
  have w2₅ : n₅.IsListIter j2 q2 (k2 + 1) := w2₄.extBut m₅.extBut D.TOi2.symm
  have kzlt : zz < n₅.objs.size := Heap.lt_size kz₅
  have kTolt : To < n₅.objs.size := Heap.lt_size kTo₅
  have ki1 : j1 < n₅.objs.size := by obtain ⟨_, e, _⟩ := w1₅; exact Heap.lt_size e
  have ki2 : j2 < n₅.objs.size := by obtain ⟨_, e, _⟩ := w2₅; exact Heap.lt_size e
  show wpAny _ _ (Builtin.SmallTypes.ownedTupleHandOut (.ref zz) (.ref n₅.objs.size) >>= _) _ _ _
  refine wpAny_bind ?_
  unfold Builtin.SmallTypes.ownedTupleHandOut
  have kz₆ : IsZip (n₅.push { cls := .type "tuple", data := .seq #[x, y] }) zz Ti To .ellipsis := Heap.get?_push_of_some _ kz₅
  refine wpAny_bind (wpAny_setField_rec kz₆ (by simp) fun n₇ kz₇ m₇ => ?_)
  replace kz₇ : IsZip n₇ zz Ti To (rawInt n₅.objs.size) := kz₇
  refine wpAny_setField_rec kz₇ (by simp) fun n₈ kz₈ m₈ => ?_
  replace kz₈ : IsZip n₈ zz Ti To (rawInt n₅.objs.size) := kz₈
  have up : ∀ c o, c ≠ zz → n₅.get? c = some o → n₈.get? c = some o := fun c o c1 e => m₈.extBut _ _ c1 (m₇.extBut _ _ c1 (Heap.get?_push_of_some _ e))
  have kT₈ : IsPair n₈ n₅.objs.size x y := m₈.extBut _ _ (Nat.ne_of_gt kzlt) (m₇.extBut _ _ (Nat.ne_of_gt kzlt) (Heap.get?_push_size _ rfl))
  have kz8 : n₈.objs.size = n₅.objs.size + 1 := by rw [m₈.1, m₇.1, Heap.size_push]
  rw [ksz] at kz₈ kT₈ kz8
  refine wpAny_pure ⟨_, rfl, ?_⟩
  show Q (.ref n₅.objs.size) _
  rw [ksz]
  exact kQ n₈ kz₈ (up _ _ D.TOz kTo₅) (w1₅.at fun o e => up _ o D.i1z e) (w2₅.at fun o e => up _ o D.i2z e) kT₈ kz8 fun c o c1 c2 c3 c4 e => up c o c1 (kk₅ c o c1 c2 c3 c4 e)


theorem zipX_end {zz Ti To j1 j2 t1 q2 : Addr} {k1 k2 : Nat} {us ws : Array Value} {a b : Value} {Q : Fin → Shared → Prop} (khh : A.handled = none) (D : ZipApart zz Ti To j1 j2 t1 q2)
    (kz : IsZip s.heap zz Ti To .none) (kTi : IsPair s.heap Ti (.ref j1) (.ref j2)) (kTo : IsPair s.heap To a b)
    (w1 : s.heap.IsTupleIter j1 t1 k1) (w2 : s.heap.IsListIter j2 q2 k2) (kt : s.heap.IsTuple t1 us) (kq : s.heap.IsList q2 ws) (kend : us[k1]? = none ∨ ws[k2]? = none)
    (kE : ∀ h' e, (∀ c o, c ≠ zz → c ≠ To → c ≠ j1 → c ≠ j2 → s.heap.get? c = some o → h'.get? c = some o) → (∃ o, h'.get? e = some o ∧ o.cls = .type "StopIteration") → E (.ref e) { s with heap := h' }) :
    wpAny (model prog w) A (Builtin.«zip.__next__» ⟨[.ref zz], []⟩) Q E s := by
  show wpAny _ _ (field (.ref zz) 2 >>= _) _ _ _
  refine wpAny_bind (wpAny_field kz rfl (x := .bool false) rfl ?_)
  show wpAny _ _ (field (.ref zz) 3 >>= _) _ _ _
  refine wpAny_bind (wpAny_field kz rfl (x := .ref Ti) rfl ?_)
  refine wpAny_bind (wpAny_seqItems kTi rfl ?_)
  show wpAny _ _ (Builtin.SmallTypes.ownedTupleIsFree (.ref zz) >>= _) _ _ _
  refine wpAny_bind ?_
  unfold Builtin.SmallTypes.ownedTupleIsFree
  refine wpAny_bind (wpAny_field kz rfl (x := .none) rfl (wpAny_pure ?_))
  simp only [if_true]
  refine wpAny_bind (wpAny_rule ?_)
  refine wpAny_bind (wpAny_field kz rfl (x := .ref To) rfl ?_)
  refine wpAny_bind (wpAny_setField_rec kz (by simp) fun n₁ kz₁ m₁ => ?_)
  replace kz₁ : IsZip n₁ zz Ti To .ellipsis := kz₁
  refine wpAny_bind ?_
  simp only [List.zipIdx_cons, List.zipIdx_nil, List.forIn_cons, List.forIn_nil]
  refine wpAny_bind (wpAny_bind (wpAny_onRaise ?_))
  show wpAny _ _ (Builtin.SmallTypes.nextOf (.ref j1) >>= _) _ _ _
  cases gx : us[k1]? with
  | none =>
    refine wpAny_bind (RZ.nextOf_tuple_end khh (w1.extBut m₁.extBut D.i1z) (kt.extBut m₁.extBut D.l1z) gx fun n₂ e m₂ kb => ?_)
    obtain ⟨ob, kob, kce⟩ := kb
    have kz₂ : IsZip n₂ zz Ti To .ellipsis := m₂ _ _ D.i1z.symm kz₁
    have kez : e ≠ zz := fun x => by subst x; rw [kz₂] at kob; cases kob; simp at kce
    refine wpAny_setField_rec kz₂ (by simp) fun n₃ _ m₃ => kE n₃ e (fun c o c1 _ c3 _ x => m₃.extBut _ _ c1 (m₂ _ _ c3 (m₁.extBut _ _ c1 x))) ⟨ob, m₃.extBut _ _ kez kob, kce⟩
  | some x =>
    have gy : ws[k2]? = none := by rcases kend with h | h; rw [gx] at h; cases h; exact h
    refine wpAny_bind (RZ.nextOf_tuple_item (w1.extBut m₁.extBut D.i1z) (kt.extBut m₁.extBut D.l1z) gx fun n₂ w1₂ m₂ => wpAny_pure ?_)
    have kTo₂ : IsPair n₂ To a b := m₂.extBut _ _ D.TOi1 (m₁.extBut _ _ D.TOz kTo)
    refine wpAny_bind (wpAny_seqItems kTo₂ rfl ?_)
    refine wpAny_bind (wpAny_updateSeq_pair kTo₂ fun n₃ kTo₃ m₃ => ?_)
    refine wpAny_bind (wpAny_letGo (wpAny_pure ?_))
    refine wpAny_bind (wpAny_bind (wpAny_onRaise ?_))
    show wpAny _ _ (Builtin.SmallTypes.nextOf (.ref j2) >>= _) _ _ _
    refine wpAny_bind (wpAny_nextOf_list_end khh (((w2.extBut m₁.extBut D.i2z).extBut m₂.extBut D.i12.symm).extBut m₃.extBut D.TOi2.symm)
      (((kq.extBut m₁.extBut D.l2z).extBut m₂.extBut D.l2i1).extBut m₃.extBut D.l2TO) gy fun n₄ e m₄ kb => ?_)
    obtain ⟨ob, kob, kce⟩ := kb
    have kz₄ : IsZip n₄ zz Ti To .ellipsis := m₄ _ _ D.i2z.symm (m₃.extBut _ _ D.TOz.symm (m₂.extBut _ _ D.i1z.symm kz₁))
    have kez : e ≠ zz := fun x => by subst x; rw [kz₄] at kob; cases kob; simp at kce
    refine wpAny_setField_rec kz₄ (by simp) fun n₅ _ m₅ => kE n₅ e (fun c o c1 c2 c3 c4 x => m₅.extBut _ _ c1 (m₄ _ _ c4 (m₃.extBut _ _ c2 (m₂.extBut _ _ c3 (m₁.extBut _ _ c1 x))))) ⟨ob, m₅.extBut _ _ kez kob, kce⟩


theorem nextX_item {zz Ti To j1 j2 t1 q2 : Addr} {k1 k2 : Nat} {us ws : Array Value} {x y a b : Value} {Q : Option Value → Shared → Prop} (D : ZipApart zz Ti To j1 j2 t1 q2)
    (kz : IsZip s.heap zz Ti To .none) (kTi : IsPair s.heap Ti (.ref j1) (.ref j2)) (kTo : IsPair s.heap To a b)
    (w1 : s.heap.IsTupleIter j1 t1 k1) (w2 : s.heap.IsListIter j2 q2 k2) (kt : s.heap.IsTuple t1 us) (kq : s.heap.IsList q2 ws) (gx : us[k1]? = some x) (gy : ws[k2]? = some y)
    (kQ : ∀ h', IsZip h' zz Ti To (rawInt s.heap.objs.size) → IsPair h' To x y → h'.IsTupleIter j1 t1 (k1 + 1) → h'.IsListIter j2 q2 (k2 + 1) → IsPair h' s.heap.objs.size x y → h'.objs.size = s.heap.objs.size + 1 →
      (∀ c o, c ≠ zz → c ≠ To → c ≠ j1 → c ≠ j2 → s.heap.get? c = some o → h'.get? c = some o) → Q (some (.ref s.heap.objs.size)) { s with heap := h' }) :
    wpAny (model prog w) A (pyNext (.ref zz)) Q E s := by
  have hT : s.TypeIs (.ref zz) "zip" := ⟨_, kz, rfl⟩
  unfold pyNext
  exact wpAny_bind (wpAny_attempt (wpAny_callSpecial?_slot (name := Str.ofString "__next__") hT F.slot_zip_next
    (wpAny_call_entry F.slot_zip_next hT F.entry_zip_next
      (zipX_item D kz kTi kTo w1 w2 kt kq gx gy fun h' a1 a2 a3 a4 a5 a6 a7 => wpAny_pure (kQ h' a1 a2 a3 a4 a5 a6 a7)) (F.args_zip_next_1 _))))


theorem nextX_end {zz Ti To j1 j2 t1 q2 : Addr} {k1 k2 : Nat} {us ws : Array Value} {a b : Value} {Q : Option Value → Shared → Prop} (khh : A.handled = none) (D : ZipApart zz Ti To j1 j2 t1 q2)
    (kz : IsZip s.heap zz Ti To .none) (kTi : IsPair s.heap Ti (.ref j1) (.ref j2)) (kTo : IsPair s.heap To a b)
    (w1 : s.heap.IsTupleIter j1 t1 k1) (w2 : s.heap.IsListIter j2 q2 k2) (kt : s.heap.IsTuple t1 us) (kq : s.heap.IsList q2 ws) (kend : us[k1]? = none ∨ ws[k2]? = none)
    (kQ : ∀ h', (∀ c o, c ≠ zz → c ≠ To → c ≠ j1 → c ≠ j2 → s.heap.get? c = some o → h'.get? c = some o) → Q none { s with heap := h' }) : wpAny (model prog w) A (pyNext (.ref zz)) Q E s := by
  have hT : s.TypeIs (.ref zz) "zip" := ⟨_, kz, rfl⟩
  unfold pyNext
  refine wpAny_bind (wpAny_attempt (wpAny_callSpecial?_slot (name := Str.ofString "__next__") hT F.slot_zip_next
    (wpAny_call_entry F.slot_zip_next hT F.entry_zip_next (zipX_end khh D kz kTi kTo w1 w2 kt kq kend fun h' e hk kb => ?_) (F.args_zip_next_1 _))))
  obtain ⟨o, ho, hc⟩ := kb
  refine wpAny_bind (wpAny_isInstance (T := "StopIteration") (b := true) ⟨o, ho, hc⟩ isSubtype_stop ?_)
  exact wpAny_pure (kQ _ hk)

end
abbrev zx1 (h : Heap) (t1 : Addr) : Heap := h.push { cls := .type "tuple_iterator", data := .fields #[.ref t1, .int 0 0] }
abbrev zx2 (h : Heap) (t1 q2 : Addr) : Heap := (zx1 h t1).push { cls := .type "list_iterator", data := .fields #[.ref q2, .int 0 0] }
abbrev zx3 (h : Heap) (t1 q2 : Addr) : Heap := (zx2 h t1 q2).push { cls := .type "tuple", data := .seq #[.ref h.objs.size, .ref (zx1 h t1).objs.size] }
abbrev zx4 (h : Heap) (t1 q2 : Addr) : Heap := (zx3 h t1 q2).push { cls := .type "tuple", data := .seq #[.none, .none] }
abbrev zx5 (h : Heap) (t1 q2 : Addr) : Heap := (zx4 h t1 q2).push { cls := .type "zip", data := .fields #[.none, .bool false, .bool false, .ref (zx2 h t1 q2).objs.size, .ref (zx3 h t1 q2).objs.size] }


theorem meets_zipX (t1 q2 : Addr) (us ws : Array Value) :
    Meets (Builtin.«zip.__new__» ⟨[.type "zip", .ref t1, .ref q2], []⟩) (fun _ R s => s.heap.IsTuple t1 us ∧ s.heap.IsList q2 ws ∧
      R (.ok (.ret (.ref (zx4 s.heap t1 q2).objs.size))) { s with heap := zx5 s.heap t1 q2 }) :=
  .of_wp fun prog w A R s h => by
    obtain ⟨hp, g, d, tk, os⟩ := s; obtain ⟨kt, kq, h⟩ := h
    have ksub := sub_zip
    have kL1 : Heap.IsTuple (Shared.heap ⟨hp, g, d, tk, os⟩) t1 us := kt
    have kL2 : Heap.IsList (Shared.heap ⟨hp.push { cls := .type "tuple_iterator", data := .fields #[.ref t1, .int 0 0] }, g, d, tk, os⟩) q2 ws := Heap.IsList.push kq _
    wp_walk using wpAny_pyIter_tuple kL1, wpAny_pyIter_list kL2
    exact ⟨_, rfl, h⟩

section
variable {prog : Program} {w : World} {A : Around} {E : Value → Shared → Prop} {s : Shared}
theorem call_zipX {t1 q2 : Addr} {us ws : Array Value} {Q : Value → Shared → Prop} (kt : s.heap.IsTuple t1 us) (kq : s.heap.IsList q2 ws)
    (h : ∀ h', IsZip h' (s.heap.objs.size + 4) (s.heap.objs.size + 2) (s.heap.objs.size + 3) .none → IsPair h' (s.heap.objs.size + 2) (.ref s.heap.objs.size) (.ref (s.heap.objs.size + 1)) →
      IsPair h' (s.heap.objs.size + 3) .none .none → h'.IsTupleIter s.heap.objs.size t1 0 → h'.IsListIter (s.heap.objs.size + 1) q2 0 → h'.objs.size = s.heap.objs.size + 5 →
      (∀ c o, s.heap.get? c = some o → h'.get? c = some o) → Q (.ref (s.heap.objs.size + 4)) { s with heap := h' }) :
    wpAny (model prog w) A (call (.type "zip") [.ref t1, .ref q2]) Q E s := by
  refine callType_new F.called_zip (by decide) (F.typeCall_zip_2 _ _) (F.newCall_zip_2 _ _) (fun obj => F.args_object_init_3 obj _ _) F.entry_zip_new
    (meets_zipX t1 q2 us ws) ⟨kt, kq, ?_⟩
  have z1 : (zx1 s.heap t1).objs.size = s.heap.objs.size + 1 := Heap.size_push ..
  have z2 : (zx2 s.heap t1 q2).objs.size = s.heap.objs.size + 2 := by rw [Heap.size_push, z1]
  have z3 : (zx3 s.heap t1 q2).objs.size = s.heap.objs.size + 3 := by rw [Heap.size_push, z2]
  have z4 : (zx4 s.heap t1 q2).objs.size = s.heap.objs.size + 4 := by rw [Heap.size_push, z3]
  have z5 : (zx5 s.heap t1 q2).objs.size = s.heap.objs.size + 5 := by rw [Heap.size_push, z4]
  have y5 : (zx5 s.heap t1 q2).get? (zx4 s.heap t1 q2).objs.size = some _ := Heap.get?_push_size _ rfl
  have y4 : (zx5 s.heap t1 q2).get? (zx3 s.heap t1 q2).objs.size = some _ := Heap.get?_push_of_some _ (Heap.get?_push_size _ rfl)
  have y3 : (zx5 s.heap t1 q2).get? (zx2 s.heap t1 q2).objs.size = some _ := Heap.get?_push_of_some _ (Heap.get?_push_of_some _ (Heap.get?_push_size _ rfl))
  have y2 : (zx5 s.heap t1 q2).get? (zx1 s.heap t1).objs.size = some _ := Heap.get?_push_of_some _ (Heap.get?_push_of_some _ (Heap.get?_push_of_some _ (Heap.get?_push_size _ rfl)))
  have y1 : (zx5 s.heap t1 q2).get? s.heap.objs.size = some _ := Heap.get?_push_of_some _ (Heap.get?_push_of_some _ (Heap.get?_push_of_some _ (Heap.get?_push_of_some _ (Heap.get?_push_size _ rfl))))
  show _ ∧ _
  rw [z2, z3, z4] at y5
  rw [z1, z2] at y3
  rw [z3] at y4
  rw [z1] at y2
  rw [z4]
  exact ⟨⟨_, y5, rfl⟩, h _ y5 y3 y4 ⟨_, y1, rfl, rfl⟩ ⟨_, y2, rfl, rfl⟩ z5 fun c o x =>
    Heap.get?_push_of_some _ (Heap.get?_push_of_some _ (Heap.get?_push_of_some _ (Heap.get?_push_of_some _ (Heap.get?_push_of_some _ x))))⟩

end
theorem turn_zipX {P : Program} {w : World} {K : PySem.W.Frag} {els : List Expr} {kk : Nat} {tpos : Pos} {a b zz Ti To j1 j2 : Addr} (D : ZipApart zz Ti To j1 j2 a b) :
    Turn P w K (.Tuple els kk tpos) (ItzX K a b) [zz, Ti, To, j1, j2] zz (fun i h => IsZip h zz Ti To .none ∧ IsPair h Ti (.ref j1) (.ref j2) ∧ (∃ x y, IsPair h To x y) ∧ h.IsTupleIter j1 a i ∧ h.IsListIter j2 b i) where
  mem := by simp
  obj := fun i h stt c hc => by
    obtain ⟨kz, kTi, ⟨x, y, kTo⟩, ⟨o1, e1, _, d1⟩, ⟨o2, e2, _, d2⟩⟩ := stt
    have e' : c = zz ∨ c = Ti ∨ c = To ∨ c = j1 ∨ c = j2 := by simpa using hc
    rcases e' with q | q | q | q | q
    · rw [q]; exact ⟨_, kz, fun v q => nomatch q⟩
    · rw [q]; exact ⟨_, kTi, fun v q => nomatch q⟩
    · rw [q]; exact ⟨_, kTo, fun v q => nomatch q⟩
    · rw [q]; exact ⟨o1, e1, fun v q => by rw [d1] at q; cases q⟩
    · rw [q]; exact ⟨o2, e2, fun v q => by rw [d2] at q; cases q⟩
  keep := fun i h h' stt k => by
    obtain ⟨kz, kTi, ⟨x, y, kTo⟩, w1, w2⟩ := stt
    exact ⟨k zz (by simp) _ kz, k Ti (by simp) _ kTi, ⟨x, y, k To (by simp) _ kTo⟩, w1.at fun o q => k j1 (by simp) o q, w2.at fun o q => k j2 (by simp) o q⟩
  item := by
    intro X hP hw hK hc i pins s σ H E I kf stt kg
    subst hP hw hK
    obtain ⟨kz, kTi, ⟨x0, y0, kTo⟩, w1, w2⟩ := stt
    obtain ⟨xs, ys, x, y, kqx, kqy, gx, gy⟩ := kg
    obtain ⟨vs1, rv1, pp, _⟩ := I.tuple kqx
    obtain ⟨vs2, rv2, pp2, _⟩ := I.list kqy
    obtain ⟨v1, gu, ru1⟩ := rv1.get gx
    obtain ⟨v2, gu2, ru2⟩ := rv2.get gy
    have kzl : zz < s.heap.objs.size := Heap.lt_size kz
    refine nextX_item D kz kTi kTo w1 w2 pp pp2.isList (x := v1) (y := v2) (by simpa using gu) (by simpa using gu2) fun h' z' TO' h1' h2' hT ksz hk => ?_
    refine ⟨_, rfl, wpAny_letOwnedTupleGo_zip (s := { s with heap := h' }) z' fun h'' z'' sbb => ?_⟩
    have kT2 : h''.get? s.heap.objs.size = some { cls := .type "tuple", data := .seq #[v1, v2] } := (sbb.2 _ (Nat.ne_of_gt kzl)).trans hT
    have newO : ObjOk X.prog X.w (upd H s.heap.objs.size (.tup [x, y])) h'' s.heap.objs.size (.tup [x, y]) :=
      ⟨by show 2 ≤ sizeLine; decide, [v1, v2], .cons ru1 (.cons ru2 .nil), ⟨_, kT2, rfl, _, rfl⟩⟩
    have J1 : Inv X pins σ (upd H s.heap.objs.size (.tup [x, y])) { s with heap := h'' } :=
      I.turnedNew (t' := s.toks) (ch := [zz, Ti, To, j1, j2]) (fun c o hb q => (sbb.2 c (fun q' => hb (by simp [q']))).trans (hk c o (fun q' => hb (by simp [q'])) (fun q' => hb (by simp [q'])) (fun q' => hb (by simp [q'])) (fun q' => hb (by simp [q'])) q)) kf (Nat.le_refl _) newO
    refine ⟨.ref s.heap.objs.size, _, J1, rfl, ⟨_, x, y, rfl, I.hok.fresh (Nat.le_refl _), rfl, fun l hl => by rw [I.tuple_inj hl kqx]; exact gx, fun l hl => by rw [I.list_inj hl kqy]; exact gy⟩, ⟨z'', ?_, ⟨v1, v2, ?_⟩, ?_, ?_⟩, fun c kcm => ?_⟩
    · exact (sbb.2 _ D.TIz).trans (hk _ _ D.TIz D.TITO D.TIi1 D.TIi2 kTi)
    · exact (sbb.2 _ D.TOz).trans TO'
    · exact h1'.at fun o q => (sbb.2 _ D.i1z).trans q
    · exact h2'.at fun o q => (sbb.2 _ D.i2z).trans q
    · have klt : c < s.heap.objs.size := by
        have e' : c = zz ∨ c = Ti ∨ c = To ∨ c = j1 ∨ c = j2 := by simpa using kcm
        rcases e' with q | q | q | q | q
        · rw [q]; exact kzl
        · rw [q]; exact Heap.lt_size kTi
        · rw [q]; exact Heap.lt_size kTo
        · rw [q]; obtain ⟨_, e1, _⟩ := w1; exact Heap.lt_size e1
        · rw [q]; obtain ⟨_, e2, _⟩ := w2; exact Heap.lt_size e2
      rw [upd_ne (Nat.ne_of_lt klt)]
      exact (kf c kcm).1
  done := by
    intro X hP hw hK hc i pins s σ H E I kf stt kg
    subst hP hw hK
    obtain ⟨kz, kTi, ⟨x0, y0, kTo⟩, w1, w2⟩ := stt
    obtain ⟨xs, ys, kqx, kqy, kend⟩ := kg
    obtain ⟨vs1, rv1, pp, _⟩ := I.tuple kqx
    obtain ⟨vs2, rv2, pp2, _⟩ := I.list kqy
    have l1 := rv1.length
    have l2 := rv2.length
    have he : vs1.toArray[i]? = none ∨ vs2.toArray[i]? = none := by
      rcases kend with q | q
      · exact .inl (by simp; omega)
      · exact .inr (by simp; omega)
    exact nextX_end (I.ok.hd hc) D kz kTi kTo w1 w2 pp pp2.isList he fun h' hk => ⟨rfl, I.turnedL (t' := s.toks) (ch := [zz, Ti, To, j1, j2]) (fun c o hb q =>
      hk c o (fun q' => hb (by simp [q'])) (fun q' => hb (by simp [q'])) (fun q' => hb (by simp [q'])) (fun q' => hb (by simp [q'])) q) kf⟩
  self := fun A i s Q E stt h => wpAny_pyIter_zip stt.1 h


/-- for .. in zip(a tuple, a list) -/
theorem pi_zipX {X : Cx} {e f : Expr} {ta : TA} {pn pc tp : Pos} {els : List Expr} {kk : Nat} (hg : Gl X "zip") (hm : X.mg "zip" = none) (ha : PA X [e, f] ta)
    (he : starEach [e, f] X.env = (false, eval e X.env) :: starEach [f] X.env) (hf : (backTo pc (starEach [f] X.env)).any (·.1) = false) : PI X (.Tuple els kk tp) (.Call (.Name "zip" pn) [e, f] [] pc) (iZipX X.K ta) := by
  refine ⟨fun pins s σ H R I h => Call_ (ld_blt I hg hm PyProof.Rows.boot_zip (PyProof.Rows.callWith_type1 (thn (ha.run pc pins s σ H _ I h) fun us s1 hv => ?_) he hf))⟩
  obtain ⟨vs, H1, I1, r1, a, b, xs, ys, rfl, hqx, hqy, q⟩ := hv
  obtain ⟨rfl⟩ : us = [.ref a, .ref b] := by
    cases r1 with
    | cons r rr =>
      cases rr with
      | cons r' rr =>
        cases rr
        cases r
        cases r'
        rfl
  obtain ⟨its, rv, p1, _⟩ := I1.tuple hqx
  obtain ⟨its2, rv2, p2, _⟩ := I1.list hqy
  obtain ⟨oa, hoa, _⟩ := id p1
  have new5 : ∀ c, c ∈ [s1.heap.objs.size + 4, s1.heap.objs.size + 2, s1.heap.objs.size + 3, s1.heap.objs.size, s1.heap.objs.size + 1] → FpOk X pins H1 c := fun c hc => by
    have le : s1.heap.objs.size ≤ c := by
      simp only [List.mem_cons, List.not_mem_nil, or_false] at hc
      omega
    exact I1.fpOk le (I1.hok.fresh le)
  refine call_zipX (show s1.heap.IsTuple a its.toArray from p1) p2.isList fun h' kz kTi kTo w1 w2 _ kp => wpAny_pyIter_zip kz ?_
  exact ⟨_, _, _, _, H1, rfl, I1.kept (t' := s1.toks) kp, turn_zipX (PySem.W.ktu_apart s1.heap.objs.size a b (Heap.lt_size hoa) p2.lt), ⟨kz, kTi, ⟨_, _, kTo⟩, w1, w2⟩, new5, q⟩
end ZX

/-! The theorem of expressions. -/
namespace G
open PySem PySem.Spec PyProof.Rows L2
variable (Θ : Th) (Fn : Nat → List PD → M PD) (vk : List Nat) (ar : Nat → Nat)
/-- what the table says -/
structure Tab : Prop where
  sp : ∀ f, Θ.sp f = SpOf Θ.c (ar f) (Fn f)
  spv : ∀ k, k ∈ vk → Θ.spv (Θ.c.fa k) (fun vs H Q _ => SpOf Θ.c (ar k) (Fn k) vs H Q E00)
variable {Θ Fn vk ar}
variable (T : Tab Θ Fn vk ar)
def argN : Exs → Nat
  | .nil => 0
  | .cons _ es => argN es + 1
mutual
/-- each call has as many arguments as the def takes -/
def okE (ar : Nat → Nat) (vk : List Nat) : Ex → Bool
  | .var _ => true
  | .lit d => isFl d
  | .op2 _ a b => okE ar vk a && okE ar vk b
  | .neg a => okE ar vk a
  | .chain _ _ a b k => okE ar vk a && (okE ar vk b && okE ar vk k)
  | .ite t a b => okT ar vk t && (okE ar vk a && okE ar vk b)
  | .andV a b => okE ar vk a && okE ar vk b
  | .orV a b => okE ar vk a && okE ar vk b
  | .notV a => okE ar vk a
  | .tup es => okA ar vk es
  | .lst es => okA ar vk es
  | .lc elt _ it _ => okE ar vk elt && okI ar vk it
  | .sl _ a lo hi => okE ar vk a && (okA ar vk lo && okA ar vk hi)
  | .blt _ a => okE ar vk a
  | .isi _ a => okE ar vk a
  | .call f es => decide (argN es = ar f) && okA ar vk es
  | .callv _ es => (vk.all fun k => decide (argN es = ar k)) && okA ar vk es
  | .split a b => okE ar vk a && okE ar vk b
  | .join a b => okE ar vk a && okE ar vk b
  | .find a b => okE ar vk a && okE ar vk b
  | .find3 a b k => okE ar vk a && (okE ar vk b && okE ar vk k)
  | .repl a _ _ => okE ar vk a
  | .fnv _ => true
  | .bget _ _ => true
def okA (ar : Nat → Nat) (vk : List Nat) : Exs → Bool
  | .nil => true
  | .cons e es => okE ar vk e && okA ar vk es
def okT (ar : Nat → Nat) (vk : List Nat) : Tx → Bool
  | .val e => okE ar vk e
  | .and a b => okT ar vk a && okT ar vk b
  | .or a b => okT ar vk a && okT ar vk b
  | .not a => okT ar vk a
def okI (ar : Nat → Nat) (vk : List Nat) : Ix → Bool
  | .list e => okE ar vk e
  | .tup e => okE ar vk e
  | .str e => okE ar vk e
  | .range e => okE ar vk e
  | .enum e => okE ar vk e
  | .zip a b => okE ar vk a && okE ar vk b
end
theorem and_of {a b : Bool} (h : (a && b) = true) : a = true ∧ b = true := by simpa using h
theorem lit_rv {c : Cn} {B : Option Addr} {F : Hp} : ∀ {d : PD}, isFl d = true → Rv c B F (toV d) d
  | .none, _ => .non
  | .bool b, _ => .bl b
  | .int i, _ => .int i
  | .str x, _ => .str x
  | .list _, h => by cases h
  | .tuple _, h => by cases h
  | .dict _, h => by cases h
theorem walks_z {c : Cn} {B : Option Addr} {F : Hp} {a b : Addr} {xs ys : List V} {ds es : List PD} (h1 : SqT c.K F a xs) (h2 : SqL c.K F b ys) (r1 : RvA c B F xs ds) (r2 : RvA c B F ys es) : Walks c B (ItzX c.K a b) F (zipF ds es) := by
  have mv : ∀ {F1 H1 : Hp}, Sub F F1 → Sub F1 H1 → SqT c.K H1 a xs := fun gs gi => gi.st (gs.st h1)
  have mw : ∀ {F1 H1 : Hp}, Sub F F1 → Sub F1 H1 → SqL c.K H1 b ys := fun gs gi => gi.sl (gs.sl h2)
  have len : (zipF ds es).length = min ds.length es.length := by unfold zipF; rw [List.length_map, List.length_zip]
  refine ⟨fun i F1 H1 gs gi l => ?_, fun i F1 H1 gs gi l => ?_, fun i F1 H1 x H' d gs gi e => ?_⟩
  · rw [len] at l
    have l1 : i < xs.length := by rw [r1.length]; omega
    have l2 : i < ys.length := by rw [r2.length]; omega
    exact ⟨xs, ys, _, _, mv gs gi, mw gs gi, List.getElem?_eq_getElem l1, List.getElem?_eq_getElem l2⟩
  · rw [len] at l
    exact ⟨xs, ys, mv gs gi, mw gs gi, by rw [r1.length, r2.length]; omega⟩
  · rintro ⟨T, x1, x2, ex, hT, eh, f1, f2⟩
    subst ex
    subst eh
    have e1 := f1 xs (mv gs gi)
    have e2 := f2 ys (mw gs gi)
    unfold zipF at e
    rw [List.getElem?_map] at e
    obtain ⟨p, e3, e4⟩ := Option.map_eq_some_iff.mp e
    subst e4
    obtain ⟨e5, e6⟩ := List.getElem?_zip_eq_some.mp e3
    obtain ⟨v1, g1, q1⟩ := r1.get e5
    obtain ⟨v2, g2, q2⟩ := r2.get e6
    rw [e1] at g1
    rw [e2] at g2
    cases g1
    cases g2
    have gf := Gr.fresh (B := B) (o := HO.tup [x1, x2]) gi hT
    exact ⟨_, gf, .tup (.inl (.inl upd_same)) (.cons (Rv.mono (gs.trans gf.sub) _ _ q1) (.cons (Rv.mono (gs.trans gf.sub) _ _ q2) .nil)), fun gg hb => hb.fresh gi hT⟩
theorem wipe_sub (σ : L2.St) (own : List Nat) : ∀ vs : List Nat, (∀ v, v ∈ vs → own.contains v = true) → L2.wipe (L2.wipe σ vs) own = L2.wipe σ own
  | [], _ => rfl
  | v :: vs, h => by
    show L2.wipe ((L2.wipe σ vs).set v none) own = L2.wipe σ own
    rw [wipe_set _ v none own (h v List.mem_cons_self), wipe_sub σ own vs fun w hw => h w (List.mem_cons_of_mem _ hw)]
theorem wipe_idem (σ : L2.St) (own : List Nat) : L2.wipe (L2.wipe σ own) own = L2.wipe σ own := wipe_sub σ own own fun v hv => by simpa using hv
theorem Post.bindL {c : Cn} {B : Option Addr} {E : XK} {F H : Hp} {β γ : Type} {o : Out β} {f : β → M γ} {k : γ → List PD → Hp → Hp → Prop} {P : β → Prop} (h : Post c B E F H (o.bnd f) k) (hl : ∀ b g, o = .ok b g → P b) :
    Post c B E F H o fun b g F1 H1 => P b ∧ Post c B E F1 H1 (f b g) k := by
  cases o with
  | stuck => exact h
  | ok b g => exact fun F1 H1 gr bg => ⟨hl b g rfl, Post.grow (o := f b g) (k := k) h gr⟩
  | exn l j g => exact h
theorem evA_len (Fn : Nat → List PD → M PD) (vk : List Nat) : ∀ (es : Exs) (env : EnvD) (g : List PD) (ds : List PD) (g' : List PD), evA Fn vk es env g = .ok ds g' → ds.length = argN es
  | .nil, env, g, ds, g', h => by
    unfold evA at h
    cases h
    rfl
  | .cons e es, env, g, ds, g', h => by
    unfold evA at h
    have h' : (evE Fn vk e env g).bnd (fun x => bnd (evA Fn vk es env) fun xs => ret (x :: xs)) = .ok ds g' := h
    cases q : evE Fn vk e env g with
    | stuck => rw [q] at h'; cases h'
    | exn l k gg => rw [q] at h'; cases h'
    | ok x g1 =>
      rw [q] at h'
      have h2 : (evA Fn vk es env g1).bnd (fun xs => ret (x :: xs)) = .ok ds g' := h'
      cases q2 : evA Fn vk es env g1 with
      | stuck => rw [q2] at h2; cases h2
      | exn l k gg => rw [q2] at h2; cases h2
      | ok xs g2 =>
        rw [q2] at h2
        cases h2
        show xs.length + 1 = argN es + 1
        rw [evA_len Fn vk es env g1 xs _ q2]

theorem lcP {c : Cn} {B : Option Addr} {E : XK} {F H : Hp} {g : List PD} {m : M (List PD)} {Q : VK} (bg : BagR c B F H g) (h : Post c B E F H ((m g).bnd fun ys => ret (.list ys)) fun d _ F' H' => ∀ v, Rv c B F' v d → Q v H') :
    Post c B E F H (m g) fun ys _ F' H' => ∀ a vs, H' a = some (.lst vs) → F' a = none → H a = none → RvA c B F' vs ys → Q (.ref a) H' := by
  have h' := Post.own bg h
  cases e : m g with
  | stuck => rw [e] at h'; exact h'
  | exn l j g1 => rw [e] at h'; exact h'
  | ok ys g1 =>
    rw [e] at h'
    exact fun F' H' gr bg' a vs h1 h2 h3 ra => h' F' H' gr bg' ys a vs rfl h1 h2 h3 ra
include T
mutual
theorem evE_ok : ∀ (e : Ex) (E : XK) (B : Option Addr) (F H : Hp) (σ : L2.St) (env : EnvD) (g : List PD) (Q : VK), okE ar vk e = true → Sub F H → BagR Θ.c B F H g → MEnv Θ.c B F H σ env →
    Post Θ.c B E F H (evE Fn vk e env g) (fun d _ F' H' => ∀ v, Rv Θ.c B F' v d → Q v H') → dE Θ E e σ H Q
  | .var i, E, B, F, H, σ, env, g, Q, ok, s, bg, me, h => by
    unfold evE at h
    cases e : env[i]? with
    | none => rw [e] at h; exact False.elim h
    | some sl =>
      cases sl with
      | no => rw [e] at h; exact False.elim h
      | own xs => rw [e] at h; exact False.elim h
      | d x =>
        rw [e] at h
        obtain ⟨v, h1, r⟩ := me.get e
        exact ⟨v, h1, h F H (.refl s) bg v r⟩
  | .lit d, E, B, F, H, σ, env, g, Q, ok, s, bg, me, h => h F H (.refl s) bg _ (lit_rv ok)
  | .op2 o a b, E, B, F, H, σ, env, g, Q, ok, s, bg, me, h => by
    obtain ⟨ok1, ok2⟩ := and_of ok
    unfold evE at h
    refine evE_ok a E B F H σ env g _ ok1 s bg me ((Post.bind h).imp fun x g1 F1 H1 gr1 bg1 h1 v1 r1 => ?_)
    refine evE_ok b E B F1 H1 σ env g1 _ ok2 gr1.inn bg1 (me.grow gr1) ((Post.bind h1).imp fun y g2 F2 H2 gr2 bg2 h2 v2 r2 => ?_)
    obtain ⟨z, e, h3⟩ := ofO_post h2
    exact op_ok o gr2.inn bg2 (Rv.mono gr2.sub _ _ r1) r2 e fun F' H' v gr bg' rv => h3 F' H' gr bg' v rv
  | .neg a, E, B, F, H, σ, env, g, Q, ok, s, bg, me, h => by
    unfold evE at h
    refine evE_ok a E B F H σ env g _ ok s bg me ((Post.bind h).imp fun x g1 F1 H1 gr1 bg1 h1 v1 r1 => ?_)
    cases x <;> try exact False.elim h1
    cases r1
    exact ⟨_, rfl, h1 F1 H1 (.refl gr1.inn) bg1 _ (.int _)⟩
  | .chain o o' a b k, E, B, F, H, σ, env, g, Q, ok, s, bg, me, h => by
    obtain ⟨ok1, ok2⟩ := and_of ok
    obtain ⟨ok2, ok3⟩ := and_of ok2
    unfold evE at h
    refine evE_ok a E B F H σ env g _ ok1 s bg me ((Post.bind h).imp fun x g1 F1 H1 gr1 bg1 h1 v1 r1 => ?_)
    refine evE_ok b E B F1 H1 σ env g1 _ ok2 gr1.inn bg1 (me.grow gr1) ((Post.bind h1).imp fun y g2 F2 H2 gr2 bg2 h2 v2 r2 => ?_)
    cases e : opF o x y with
    | none => rw [e] at h2; exact False.elim h2
    | some z =>
      rw [e] at h2
      refine op_ok o gr2.inn bg2 (Rv.mono gr2.sub _ _ r1) r2 e fun F3 H3 v gr3 bg3 rv => ?_
      cases z <;> try exact False.elim h2
      rename_i kb
      cases rv
      cases kb with
      | false => exact ⟨false, rfl, h2 F3 H3 gr3 bg3 _ (.bl false)⟩
      | true =>
        refine ⟨true, rfl, ?_⟩
        show dE Θ E k σ H3 _
        refine evE_ok k E B F3 H3 σ env g2 _ ok3 gr3.inn bg3 (me.grow ((gr1.trans gr2).trans gr3)) ((Post.bind (Post.grow h2 gr3)).imp fun w g4 F4 H4 gr4 bg4 h4 v4 r4 => ?_)
        obtain ⟨z2, e2, h5⟩ := ofO_post h4
        exact op_ok o' gr4.inn bg4 (Rv.mono (gr3.trans gr4).sub _ _ r2) r4 e2 fun F' H' v gr bg' rv => h5 F' H' gr bg' v rv
  | .ite t a b, E, B, F, H, σ, env, g, Q, ok, s, bg, me, h => by
    obtain ⟨ok1, ok2⟩ := and_of ok
    obtain ⟨ok2, ok3⟩ := and_of ok2
    unfold evE at h
    refine evT_ok t E B F H σ env g _ ok1 s bg me ((Post.bind h).imp fun x g1 F1 H1 gr1 bg1 h1 => ?_)
    cases x with
    | true => exact evE_ok a E B F1 H1 σ env g1 _ ok2 gr1.inn bg1 (me.grow gr1) h1
    | false => exact evE_ok b E B F1 H1 σ env g1 _ ok3 gr1.inn bg1 (me.grow gr1) h1
  | .andV a b, E, B, F, H, σ, env, g, Q, ok, s, bg, me, h => by
    obtain ⟨ok1, ok2⟩ := and_of ok
    unfold evE at h
    refine evE_ok a E B F H σ env g _ ok1 s bg me ((Post.bind h).imp fun x g1 F1 H1 gr1 bg1 h1 v1 r1 => ?_)
    cases x <;> try exact False.elim h1
    rename_i kb
    cases r1
    cases kb with
    | false => exact ⟨false, rfl, h1 F1 H1 (.refl gr1.inn) bg1 _ (.bl false)⟩
    | true => exact ⟨true, rfl, evE_ok b E B F1 H1 σ env g1 _ ok2 gr1.inn bg1 (me.grow gr1) h1⟩
  | .orV a b, E, B, F, H, σ, env, g, Q, ok, s, bg, me, h => by
    obtain ⟨ok1, ok2⟩ := and_of ok
    unfold evE at h
    refine evE_ok a E B F H σ env g _ ok1 s bg me ((Post.bind h).imp fun x g1 F1 H1 gr1 bg1 h1 v1 r1 => ?_)
    cases x <;> try exact False.elim h1
    rename_i kb
    cases r1
    cases kb with
    | true => exact ⟨true, rfl, h1 F1 H1 (.refl gr1.inn) bg1 _ (.bl true)⟩
    | false => exact ⟨false, rfl, evE_ok b E B F1 H1 σ env g1 _ ok2 gr1.inn bg1 (me.grow gr1) h1⟩
  | .notV a, E, B, F, H, σ, env, g, Q, ok, s, bg, me, h => by
    unfold evE at h
    refine evE_ok a E B F H σ env g _ ok s bg me ((Post.bind h).imp fun x g1 F1 H1 gr1 bg1 h1 v1 r1 => ?_)
    cases x <;> try exact False.elim h1
    cases r1
    exact ⟨_, rfl, h1 F1 H1 (.refl gr1.inn) bg1 _ (.bl _)⟩
  | .tup es, E, B, F, H, σ, env, g, Q, ok, s, bg, me, h => by
    unfold evE at h
    refine evA_ok es E B F H σ env g _ ok s bg me ((Post.bind h).imp fun ds g1 F1 H1 gr1 bg1 h1 vs rs => ?_)
    by_cases l : ds.length ≤ 1000
    · rw [if_pos l] at h1
      refine ⟨Nat.le_trans (by rw [rs.length]; exact l) (by decide), fun p hp => ?_⟩
      exact h1 _ _ (.fresh gr1.inn hp) (bg1.fresh gr1.inn hp) _ (.tup (.inl (.inl upd_same)) (RvA.mono (Gr.fresh (B := B) gr1.inn hp).sub _ _ rs))
    · rw [if_neg l] at h1; exact False.elim h1
  | .lst es, E, B, F, H, σ, env, g, Q, ok, s, bg, me, h => by
    unfold evE at h
    refine evA_ok es E B F H σ env g _ ok s bg me ((Post.bind h).imp fun ds g1 F1 H1 gr1 bg1 h1 vs rs => ?_)
    by_cases l : ds.length ≤ 1000
    · rw [if_pos l] at h1
      refine ⟨Nat.le_trans (by rw [rs.length]; exact l) (by decide), fun p hp => ?_⟩
      exact h1 _ _ (.fresh gr1.inn hp) (bg1.fresh gr1.inn hp) _ (.lst upd_same (RvA.mono (Gr.fresh (B := B) gr1.inn hp).sub _ _ rs))
    · rw [if_neg l] at h1; exact False.elim h1
  | .lc elt tg it own, E, B, F, H, σ, env, g, Q, ok, s, bg, me, h => by
    obtain ⟨ok1, ok2⟩ := and_of ok
    unfold evE at h
    refine evI_ok it E B F H σ env g _ ok2 s bg me ((Post.bind h).imp fun ds g1 F1 H1 gr1 bg1 h1 J W => ?_)
    by_cases l : ds.length ≤ 1000000 ∧ tgIn tg own = true
    · rw [if_pos l] at h1
      refine lc_ok bg1 gr1.inn W l.1 (f := fun d => match tgF tg d (wipeD env own) with | some env' => noX (evE Fn vk elt env') | none => stk) (fun d g l k g' ef => ?_) (fun F2 H2 x d gb y g2 Q' gr2 bg2 rx ef k => ?_) (lcP bg1 h1)
      · cases e : tgF tg d (wipeD env own) with
        | none => rw [e] at ef; cases ef
        | some env' => rw [e] at ef; exact noX_exn ef
      · cases e : tgF tg d (wipeD env own) with
        | none => rw [e] at ef; cases ef
        | some env' =>
          rw [e] at ef
          have ef' := noX_ok ef
          refine tg_ok gr2.inn tg d _ env' _ x _ e ((me.grow (gr1.trans gr2)).wipe own) rx fun σ' me' hw => ⟨by rw [hw own l.2]; exact wipe_idem σ own, ?_⟩
          refine evE_ok elt E00 B F2 H2 σ' env' gb _ ok1 gr2.inn bg2 me' ?_
          rw [ef']
          exact fun F' H' gr bg' v rv => k F' H' v gr bg' rv
    · rw [if_neg l] at h1; exact False.elim h1
  | .sl o a lo hi, E, B, F, H, σ, env, g, Q, ok, s, bg, me, h => by
    obtain ⟨ok1, ok2⟩ := and_of ok
    obtain ⟨ok2, ok3⟩ := and_of ok2
    unfold evE at h
    refine evE_ok a E B F H σ env g _ ok1 s bg me ((Post.bind h).imp fun x g1 F1 H1 gr1 bg1 h1 v1 r1 => ?_)
    refine evO_ok lo E B F1 H1 σ env g1 _ ok2 gr1.inn bg1 (me.grow gr1) ((Post.bind h1).imp fun l g2 F2 H2 gr2 bg2 h2 => ?_)
    refine evO_ok hi E B F2 H2 σ env g2 _ ok3 gr2.inn bg2 (me.grow (gr1.trans gr2)) ((Post.bind h2).imp fun u g3 F3 H3 gr3 bg3 h3 => ?_)
    obtain ⟨z, e, h4⟩ := ofO_post h3
    exact sk_ok o gr3.inn bg3 (Rv.mono (gr2.trans gr3).sub _ _ r1) e fun F' H' v gr bg' rv => h4 F' H' gr bg' v rv
  | .blt b a, E, B, F, H, σ, env, g, Q, ok, s, bg, me, h => by
    unfold evE at h
    refine evE_ok a E B F H σ env g _ ok s bg me ((Post.bind h).imp fun x g1 F1 H1 gr1 bg1 h1 v1 r1 => ?_)
    obtain ⟨z, e, h4⟩ := ofO_post h1
    exact blt_ok b gr1.inn bg1 r1 e fun F' H' v gr bg' rv => h4 F' H' gr bg' v rv
  | .isi t a, E, B, F, H, σ, env, g, Q, ok, s, bg, me, h => by
    unfold evE at h
    refine evE_ok a E B F H σ env g _ ok s bg me ((Post.bind h).imp fun x g1 F1 H1 gr1 bg1 h1 v1 r1 => ?_)
    obtain ⟨z, e, h4⟩ := ofO_post h1
    exact isi_ok gr1.inn bg1 r1 e fun F' H' v gr bg' rv => h4 F' H' gr bg' v rv
  | .call f es, E, B, F, H, σ, env, g, Q, ok, s, bg, me, h => by
    obtain ⟨ok1, ok2⟩ := and_of ok
    have ok1 := of_decide_eq_true ok1
    unfold evE at h
    refine evA_ok es E B F H σ env g _ ok2 s bg me ?_
    refine (Post.bindL h (evA_len Fn vk es env g)).imp fun ds g1 F1 H1 gr1 bg1 h1 vs rs => ?_
    rw [T.sp f]
    exact ⟨B, F1, g1, ds, gr1.inn, bg1, by rw [List.append_nil]; exact rs, h1.1.trans ok1, h1.2⟩
  | .callv i es, E, B, F, H, σ, env, g, Q, ok, s, bg, me, h => by
    obtain ⟨ok1, ok2⟩ := and_of ok
    unfold evE at h
    cases e0 : (env[i]?).bind fnOf with
    | none => rw [e0] at h; exact False.elim h
    | some k =>
      rw [e0] at h
      obtain ⟨sl, e1, e2⟩ := Option.bind_eq_some_iff.mp e0
      have e3 := fnOf_eq e2
      subst e3
      have h' : Post Θ.c B E F H ((if k ∈ vk then bnd (evA Fn vk es env) fun ds => noX (Fn k ds) else stk) g) _ := h
      by_cases hk : k ∈ vk
      · rw [if_pos hk] at h'
        obtain ⟨v, h1, r⟩ := me.get e1
        have ek : v = .ref (Θ.c.fa k) := by
          cases r with
          | fn k' => rfl
        subst ek
        refine ⟨_, _, h1, T.spv k hk, ?_⟩
        refine evA_ok es E B F H σ env g _ ok2 s bg me ?_
        refine (Post.bindL h' (evA_len Fn vk es env g)).imp fun ds g1 F1 H1 gr1 bg1 h1 vs rs => ?_
        have okk := of_decide_eq_true (List.all_eq_true.mp ok1 k hk)
        refine ⟨B, F1, g1, ds, gr1.inn, bg1, rs, h1.1.trans okk, ?_⟩
        have h2 := h1.2
        unfold noX at h2
        cases ef : Fn k ds g1 with
        | stuck => rw [ef] at h2; exact False.elim h2
        | ok y g2 => rw [ef] at h2; exact h2
        | exn l j g2 => rw [ef] at h2; exact False.elim h2
      · rw [if_neg hk] at h'; exact False.elim h'
  | .split a b, E, B, F, H, σ, env, g, Q, ok, s, bg, me, h => by
    obtain ⟨ok1, ok2⟩ := and_of ok
    unfold evE at h
    refine evE_ok a E B F H σ env g _ ok1 s bg me ((Post.bind h).imp fun x g1 F1 H1 gr1 bg1 h1 v1 r1 => ?_)
    cases x <;> try exact False.elim h1
    cases r1
    refine ⟨⟨_, rfl⟩, evE_ok b E B F1 H1 σ env g1 _ ok2 gr1.inn bg1 (me.grow gr1) ((Post.bind h1).imp fun y g2 F2 H2 gr2 bg2 h2 v2 r2 => ?_)⟩
    obtain ⟨z, e, h3⟩ := ofO_post h2
    cases y <;> try (cases e; done)
    cases r2
    obtain ⟨l, e'⟩ := some_of e
    subst e'
    refine ⟨_, _, rfl, rfl, beq_eq_false_iff_ne.mpr l.1, l.2, fun p hp => ?_⟩
    exact h3 _ _ (.fresh gr2.inn hp) (bg2.fresh gr2.inn hp) _ (.lst upd_same (RvA.strs _))
  | .join a b, E, B, F, H, σ, env, g, Q, ok, s, bg, me, h => by
    obtain ⟨ok1, ok2⟩ := and_of ok
    unfold evE at h
    refine evE_ok a E B F H σ env g _ ok1 s bg me ((Post.bind h).imp fun x g1 F1 H1 gr1 bg1 h1 v1 r1 => ?_)
    cases x <;> try exact False.elim h1
    rename_i a'
    cases r1
    refine ⟨⟨_, rfl⟩, evE_ok b E B F1 H1 σ env g1 _ ok2 gr1.inn bg1 (me.grow gr1) ((Post.bind h1).imp fun y g2 F2 H2 gr2 bg2 h2 v2 r2 => ?_)⟩
    obtain ⟨z, e, h3⟩ := ofO_post h2
    cases y <;> try (cases e; done)
    rename_i ds
    have e1 : (match strsOf ds with | some ys => if (ys.map (·.length)).sum + ys.length * a'.length ≤ 16777216 then some (PyData.str (Txt.join a' ys)) else none | none => none) = some z := e
    cases es : strsOf ds with
    | none => rw [es] at e1; cases e1
    | some ys =>
      rw [es] at e1
      obtain ⟨l, e'⟩ := some_of e1
      subst e'
      cases r2 with
      | lst hs ha =>
        have e3 := strs_of es ha
        subst e3
        exact ⟨_, _, ys, rfl, rfl, .inl (.inl (.inl (gr2.inn _ _ hs))), l, h3 F2 H2 (.refl gr2.inn) bg2 _ (.str _)⟩
  | .find a b, E, B, F, H, σ, env, g, Q, ok, s, bg, me, h => by
    obtain ⟨ok1, ok2⟩ := and_of ok
    unfold evE at h
    refine evE_ok a E B F H σ env g _ ok1 s bg me ((Post.bind h).imp fun x g1 F1 H1 gr1 bg1 h1 v1 r1 => ?_)
    cases x <;> try exact False.elim h1
    cases r1
    refine ⟨rfl, evE_ok b E B F1 H1 σ env g1 _ ok2 gr1.inn bg1 (me.grow gr1) ((Post.bind h1).imp fun y g2 F2 H2 gr2 bg2 h2 v2 r2 => ?_)⟩
    obtain ⟨z, e, h3⟩ := ofO_post h2
    cases y <;> try (cases e; done)
    cases r2
    have e' := Option.some.inj e
    subst e'
    exact ⟨_, _, rfl, rfl, h3 F2 H2 (.refl gr2.inn) bg2 _ (.int _)⟩
  | .find3 a b k, E, B, F, H, σ, env, g, Q, ok, s, bg, me, h => by
    obtain ⟨ok1, ok2⟩ := and_of ok
    obtain ⟨ok2, ok3⟩ := and_of ok2
    unfold evE at h
    refine evE_ok a E B F H σ env g _ ok1 s bg me ((Post.bind h).imp fun x g1 F1 H1 gr1 bg1 h1 v1 r1 => ?_)
    cases x <;> try exact False.elim h1
    cases r1
    refine ⟨rfl, evE_ok b E B F1 H1 σ env g1 _ ok2 gr1.inn bg1 (me.grow gr1) ((Post.bind h1).imp fun y g2 F2 H2 gr2 bg2 h2 v2 r2 => ?_)⟩
    refine evE_ok k E B F2 H2 σ env g2 _ ok3 gr2.inn bg2 (me.grow (gr1.trans gr2)) ((Post.bind h2).imp fun w g3 F3 H3 gr3 bg3 h3 v3 r3 => ?_)
    obtain ⟨z, e, h4⟩ := ofO_post h3
    cases y <;> try (cases e; done)
    cases w <;> try (cases e; done)
    cases r2
    cases r3
    have e' := Option.some.inj e
    subst e'
    exact ⟨_, _, _, rfl, rfl, h4 F3 H3 (.refl gr3.inn) bg3 _ (.int _)⟩
  | .repl a y z, E, B, F, H, σ, env, g, Q, ok, s, bg, me, h => by
    unfold evE at h
    refine evE_ok a E B F H σ env g _ ok s bg me ((Post.bind h).imp fun x g1 F1 H1 gr1 bg1 h1 v1 r1 => ?_)
    cases x <;> try exact False.elim h1
    rename_i w
    cases r1
    have h1' : Post Θ.c B E F1 H1 ((if w.length + (w.length + 1) * z.length ≤ 16777216 then ret (.str (Txt.replace w y z)) else stk : M PD) g1) (fun d _ F' H' => ∀ v, Rv Θ.c B F' v d → Q v H') := h1
    by_cases l : w.length + (w.length + 1) * z.length ≤ 16777216
    · rw [if_pos l] at h1'
      exact ⟨w, rfl, l, h1' F1 H1 (.refl gr1.inn) bg1 _ (.str _)⟩
    · rw [if_neg l] at h1'
      exact False.elim h1'
  | .fnv k, E, B, F, H, σ, env, g, Q, ok, s, bg, me, h => h F H (.refl s) bg _ (.fn k)
  | .bget i n, E, B, F, H, σ, env, g, Q, ok, s, bg, me, h => by
    unfold evE at h
    cases e0 : (env[i]?).bind bagOf with
    | none => rw [e0] at h; exact False.elim h
    | some u =>
      rw [e0] at h
      obtain ⟨sl, e1, e2⟩ := Option.bind_eq_some_iff.mp e0
      have e3 := bagOf_eq e2
      subst e3
      obtain ⟨v, h1, r⟩ := me.get e1
      cases r with
      | bag eB =>
        obtain ⟨nF, vs, hv, ra⟩ := bg _ eB
        have h' : Post Θ.c B E F H (match g[n]? with | some d => Out.ok d g | none => .stuck) _ := h
        cases e4 : g[n]? with
        | none => rw [e4] at h'; exact False.elim h'
        | some d =>
          rw [e4] at h'
          obtain ⟨w, h2, r2⟩ := ra.get e4
          have hl : n < vs.length := (List.getElem?_eq_some_iff.mp h2).1
          refine ⟨_, h1, _, vs, n, w, rfl, rfl, .inl (.inl hv), ?_, h' F H (.refl s) bg w r2⟩
          exact atI_nat h2
theorem evA_ok : ∀ (es : Exs) (E : XK) (B : Option Addr) (F H : Hp) (σ : L2.St) (env : EnvD) (g : List PD) (Q : List V → Hp → Prop), okA ar vk es = true → Sub F H → BagR Θ.c B F H g → MEnv Θ.c B F H σ env →
    Post Θ.c B E F H (evA Fn vk es env g) (fun ds _ F' H' => ∀ vs, RvA Θ.c B F' vs ds → Q vs H') → dA Θ E es σ H Q
  | .nil, E, B, F, H, σ, env, g, Q, ok, s, bg, me, h => h F H (.refl s) bg _ .nil
  | .cons e es, E, B, F, H, σ, env, g, Q, ok, s, bg, me, h => by
    obtain ⟨ok1, ok2⟩ := and_of ok
    unfold evA at h
    refine evE_ok e E B F H σ env g _ ok1 s bg me ((Post.bind h).imp fun x g1 F1 H1 gr1 bg1 h1 v1 r1 => ?_)
    refine evA_ok es E B F1 H1 σ env g1 _ ok2 gr1.inn bg1 (me.grow gr1) ((Post.bind h1).imp fun xs g2 F2 H2 gr2 bg2 h2 vs rs => ?_)
    exact h2 F2 H2 (.refl gr2.inn) bg2 _ (.cons (Rv.mono gr2.sub _ _ r1) rs)
theorem evO_ok : ∀ (es : Exs) (E : XK) (B : Option Addr) (F H : Hp) (σ : L2.St) (env : EnvD) (g : List PD) (Q : Option Int → Hp → Prop), okA ar vk es = true → Sub F H → BagR Θ.c B F H g → MEnv Θ.c B F H σ env →
    Post Θ.c B E F H (evO Fn vk es env g) (fun l _ _ H' => Q l H') → dO Θ E es σ H Q
  | .nil, E, B, F, H, σ, env, g, Q, ok, s, bg, me, h => h F H (.refl s) bg
  | .cons e es, E, B, F, H, σ, env, g, Q, ok, s, bg, me, h => by
    obtain ⟨ok1, ok2⟩ := and_of ok
    unfold evO at h
    refine evE_ok e E B F H σ env g _ ok1 s bg me ((Post.bind h).imp fun x g1 F1 H1 gr1 bg1 h1 v1 r1 => ?_)
    cases x <;> try exact False.elim h1
    cases r1
    exact ⟨_, rfl, h1 F1 H1 (.refl gr1.inn) bg1⟩
theorem evT_ok : ∀ (t : Tx) (E : XK) (B : Option Addr) (F H : Hp) (σ : L2.St) (env : EnvD) (g : List PD) (Q : Bool → Hp → Prop), okT ar vk t = true → Sub F H → BagR Θ.c B F H g → MEnv Θ.c B F H σ env →
    Post Θ.c B E F H (evT Fn vk t env g) (fun k _ _ H' => Q k H') → dT Θ E t σ H Q
  | .val e, E, B, F, H, σ, env, g, Q, ok, s, bg, me, h => by
    unfold evT at h
    refine evE_ok e E B F H σ env g _ ok s bg me ((Post.bind h).imp fun x g1 F1 H1 gr1 bg1 h1 v1 r1 => ?_)
    cases x <;> try exact False.elim h1
    cases r1
    exact ⟨_, rfl, h1 F1 H1 (.refl gr1.inn) bg1⟩
  | .and a b, E, B, F, H, σ, env, g, Q, ok, s, bg, me, h => by
    obtain ⟨ok1, ok2⟩ := and_of ok
    unfold evT at h
    refine evT_ok a E B F H σ env g _ ok1 s bg me ((Post.bind h).imp fun x g1 F1 H1 gr1 bg1 h1 => ?_)
    cases x with
    | true => exact evT_ok b E B F1 H1 σ env g1 _ ok2 gr1.inn bg1 (me.grow gr1) h1
    | false => exact h1 F1 H1 (.refl gr1.inn) bg1
  | .or a b, E, B, F, H, σ, env, g, Q, ok, s, bg, me, h => by
    obtain ⟨ok1, ok2⟩ := and_of ok
    unfold evT at h
    refine evT_ok a E B F H σ env g _ ok1 s bg me ((Post.bind h).imp fun x g1 F1 H1 gr1 bg1 h1 => ?_)
    cases x with
    | true => exact h1 F1 H1 (.refl gr1.inn) bg1
    | false => exact evT_ok b E B F1 H1 σ env g1 _ ok2 gr1.inn bg1 (me.grow gr1) h1
  | .not a, E, B, F, H, σ, env, g, Q, ok, s, bg, me, h => by
    unfold evT at h
    refine evT_ok a E B F H σ env g _ ok s bg me ((Post.bind h).imp fun x g1 F1 H1 gr1 bg1 h1 => ?_)
    exact h1 F1 H1 (.refl gr1.inn) bg1
theorem evI_ok : ∀ (t : Ix) (E : XK) (B : Option Addr) (F H : Hp) (σ : L2.St) (env : EnvD) (g : List PD) (R : It → Hp → Prop), okI ar vk t = true → Sub F H → BagR Θ.c B F H g → MEnv Θ.c B F H σ env →
    Post Θ.c B E F H (evI Fn vk t env g) (fun ds _ F' H' => ∀ J, Walks Θ.c B J F' ds → R J H') → dI Θ E t σ H R
  | .list e, E, B, F, H, σ, env, g, R, ok, s, bg, me, h => by
    unfold evI at h
    refine evE_ok e E B F H σ env g _ ok s bg me ((Post.bind h).imp fun x g1 F1 H1 gr1 bg1 h1 v1 r1 => ?_)
    cases x <;> try exact False.elim h1
    cases r1 with
    | lst hs ha => exact ⟨_, rfl, ⟨_, .inl (.inl (gr1.inn _ _ hs))⟩, h1 F1 H1 (.refl gr1.inn) bg1 _ (walks_l hs ha)⟩
  | .tup e, E, B, F, H, σ, env, g, R, ok, s, bg, me, h => by
    unfold evI at h
    refine evE_ok e E B F H σ env g _ ok s bg me ((Post.bind h).imp fun x g1 F1 H1 gr1 bg1 h1 v1 r1 => ?_)
    cases x <;> try exact False.elim h1
    cases r1 with
    | tup hs ha => exact ⟨_, rfl, ⟨_, gr1.inn.st hs⟩, h1 F1 H1 (.refl gr1.inn) bg1 _ (walks_t hs ha)⟩
  | .str e, E, B, F, H, σ, env, g, R, ok, s, bg, me, h => by
    unfold evI at h
    refine evE_ok e E B F H σ env g _ ok s bg me ((Post.bind h).imp fun x g1 F1 H1 gr1 bg1 h1 v1 r1 => ?_)
    cases x <;> try exact False.elim h1
    cases r1
    exact ⟨_, rfl, h1 F1 H1 (.refl gr1.inn) bg1 _ walks_s⟩
  | .range e, E, B, F, H, σ, env, g, R, ok, s, bg, me, h => by
    unfold evI at h
    refine evE_ok e E B F H σ env g _ ok s bg me ((Post.bind h).imp fun x g1 F1 H1 gr1 bg1 h1 v1 r1 => ?_)
    cases x <;> try exact False.elim h1
    rename_i n
    cases r1
    by_cases l : -(2 ^ 62) ≤ n ∧ n < 2 ^ 62
    · have h1' := h1
      dsimp only at h1'
      rw [if_pos l] at h1'
      exact ⟨n, rfl, l.1, l.2, h1' F1 H1 (.refl gr1.inn) bg1 _ walks_r⟩
    · have h1' := h1
      dsimp only at h1'
      rw [if_neg l] at h1'
      exact False.elim h1'
  | .enum e, E, B, F, H, σ, env, g, R, ok, s, bg, me, h => by
    unfold evI at h
    refine evE_ok e E B F H σ env g _ ok s bg me ((Post.bind h).imp fun x g1 F1 H1 gr1 bg1 h1 v1 r1 => ?_)
    cases x <;> try exact False.elim h1
    cases r1 with
    | lst hs ha => exact ⟨_, _, rfl, .inl (.inl (gr1.inn _ _ hs)), h1 F1 H1 (.refl gr1.inn) bg1 _ (walks_e hs ha)⟩
  | .zip a b, E, B, F, H, σ, env, g, R, ok, s, bg, me, h => by
    obtain ⟨ok1, ok2⟩ := and_of ok
    unfold evI at h
    refine evE_ok a E B F H σ env g _ ok1 s bg me ((Post.bind h).imp fun x g1 F1 H1 gr1 bg1 h1 v1 r1 => ?_)
    refine evE_ok b E B F1 H1 σ env g1 _ ok2 gr1.inn bg1 (me.grow gr1) ((Post.bind h1).imp fun y g2 F2 H2 gr2 bg2 h2 v2 r2 => ?_)
    cases x <;> try exact False.elim h2
    cases y <;> try exact False.elim h2
    cases r1 with
    | tup q1 a1 =>
      cases r2 with
      | lst q2 a2 =>
        have a1' := RvA.mono gr2.sub _ _ a1
        have q1' := gr2.sub.st q1
        exact ⟨_, _, _, _, rfl, gr2.inn.st q1', .inl (.inl (gr2.inn _ _ q2)), h2 F2 H2 (.refl gr2.inn) bg2 _ (walks_z q1' (.inl (.inl q2)) a1' a2)⟩
end
end G

/-! Statements. -/
namespace G
open PySem PySem.Spec PyProof.Rows L2

mutual
inductive St where
  | set (i : Nat) (e : Ex)
  | setO (i : Nat) (e : Ex)
  | asg (tg : Tg) (e : Ex)
  | par (i j : Nat) (oi oj : Bool) (a b : Ex)
  | ife (t : Tx) (a b : Ss)
  | ret (e : Ex)
  | retN
  | rse (a b : Ex)
  | whl (t : Tx) (body : Ss)
  | fr (tg : Tg) (it : Ix) (body : Ss)
  | app (i : Nat) (e : Ex)
  | ex (e : Ex)
  | bset (i n : Nat) (e : Ex)
inductive Ss where
  | nil
  | cons (s : St) (r : Ss)
  | frz (i : Nat) (r : Ss)
end
inductive Fl where
  | nx (env : EnvD)
  | rt (d : PD)
def isL : Ex → Bool
  | .lst _ => true
  | .lc _ _ _ _ => true
  | _ => false
def listOf : PD → Option (List PD) | .list ds => some ds | _ => none
def fuel : Nat := 1000
section
variable (Fn : Nat → List PD → M PD) (vk : List Nat)
/-- what a slot gets -/
def slOf (o : Bool) (d : PD) : Option Sl := if o = true then (listOf d).map .own else some (.d d)
def evWh (t : EnvD → M Bool) (body : EnvD → M Fl) : Nat → EnvD → M Fl
  | 0, _ => stk
  | n + 1, env => bnd (t env) fun k => if k = true then bnd (body env) fun f => match f with | .nx env' => evWh t body n env' | .rt d => ret (.rt d) else ret (.nx env)
def evFr (tg : Tg) (body : EnvD → M Fl) : List PD → EnvD → M Fl
  | [], env => ret (.nx env)
  | d :: ds, env => match tgF tg d env with
    | none => stk
    | some e1 => bnd (body e1) fun f => match f with | .nx env' => evFr tg body ds env' | .rt d => ret (.rt d)
mutual
def evS : St → EnvD → M Fl
  | .set i e, env => bnd (evE Fn vk e env) fun d => ret (.nx (env.set i (.d d)))
  | .setO i e, env => bnd (evE Fn vk e env) fun d => match listOf d with | some ds => if i < env.length then ret (.nx (env.set i (.own ds))) else stk | none => stk
  | .asg tg e, env => bnd (evE Fn vk e env) fun d => match tgF tg d env with | some env' => ret (.nx env') | none => stk
  | .par i j oi oj a b, env => bnd (evE Fn vk a env) fun x => bnd (evE Fn vk b env) fun y => match slOf oi x, slOf oj y with
    | some s, some t => if i < env.length ∧ j < env.length ∧ i ≠ j then ret (.nx ((env.set i s).set j t)) else stk
    | _, _ => stk
  | .ife t a b, env => bnd (evT Fn vk t env) fun k => if k = true then evSs a env else evSs b env
  | .ret e, env => bnd (evE Fn vk e env) fun d => ret (.rt d)
  | .retN, _ => ret (.rt .none)
  | .rse a b, env => bnd (evE Fn vk a env) fun x => bnd (evE Fn vk b env) fun y => match x, y with | .int l, .int k => fun g => .exn l k g | _, _ => stk
  | .whl t body, env => evWh (fun e => evT Fn vk t e) (fun e => evSs body e) fuel env
  | .fr tg it body, env => bnd (evI Fn vk it env) fun ds => evFr tg (fun e => evSs body e) ds env
  | .app i e, env => match env[i]? with
    | some (.own xs) => if xs.length < 1000000 then bnd (evE Fn vk e env) fun d => ret (.nx (env.set i (.own (xs ++ [d])))) else stk
    | _ => stk
  | .ex e, env => bnd (evE Fn vk e env) fun _ => ret (.nx env)
  | .bset i n e, env => match (env[i]?).bind bagOf with | some _ => bnd (evE Fn vk e env) (fun d g => if n < g.length then .ok (.nx env) (g.set n d) else .stuck) | none => stk
def evSs : Ss → EnvD → M Fl
  | .nil, env => ret (.nx env)
  | .cons s r, env => bnd (evS s env) fun f => match f with | .nx env' => evSs r env' | .rt d => ret (.rt d)
  | .frz i r, env => match env[i]? with
    | some (.own xs) => evSs r (env.set i (.d (.list xs)))
    | _ => stk
end
/-- a def: its slots' number, its body -/
def evF (n : Nat) (b : Ss) : List PD → M PD := fun ds => bnd (evSs Fn vk b (ds.map Sl.d ++ List.replicate (n - ds.length) Sl.no)) fun f => match f with | .nx _ => ret .none | .rt d => ret d
end

/-! ### as readings -/
section
variable (Θ : Th)
def tRse (E : XK) (CB : Addr) (ta : TA) : TS := fun _ σ H => ta σ H fun vs H1 => ∃ v w, vs = [v, w] ∧ ∀ d : Addr, H1 d = none → E (.ref CB) (some d) (upd H1 d (.xd [(("line" : Str), v), (("column" : Str), w)]))
/-- xs[n] = e at the list of slot i -/
def tBset (i n : Nat) (te : TE) : TS := tAsg te (gSub (tVar i) (tC (.int (n : Nat))) rSetL)
mutual
def dS (E : XK) : St → TS
  | .set i e => tAsg (dE Θ E e) (gName i)
  | .setO i e => tAsg (dE Θ E e) (gName i)
  | .asg tg e => tAsg (dE Θ E e) (dG Θ.c.K tg)
  | .par i j _ _ a b => tPar i j (tCons (dE Θ E a) (tCons (dE Θ E b) tNil))
  | .ife t a b => tIfS (dT Θ E t) (dSs E a) (dSs E b)
  | .ret e => tRet (dE Θ E e)
  | .retN => tRetN
  | .rse a b => tRse E Θ.c.CB (tCons (dE Θ E a) (tCons (dE Θ E b) tNil))
  | .whl t body => tWhile (dT Θ E t) (dSs E body)
  | .fr tg it body => tFor (dI Θ E it) (dG Θ.c.K tg) (dSs E body)
  | .app i e => tDrop (tBM Θ.c.K "list" rAppend (tVar i) (tCons (dE Θ E e) tNil))
  | .ex e => tDrop (dE Θ E e)
  | .bset i n e => tBset i n (dE Θ E e)
def dSs (E : XK) : Ss → TS
  | .nil => tNext
  | .cons s r => tSeq (dS E s) (dSs E r)
  | .frz _ r => dSs E r
end
end

/-! ### the state between statements -/
structure SInv (c : Cn) (B : Option Addr) (F0 H0 F H : Hp) (σ : L2.St) (env : EnvD) (g : List PD) : Prop where
  gr : Gr B F0 H0 F H
  bg0 : ∃ g0, BagR c B F0 H0 g0
  bg : BagR c B F H g
  me : MEnv c B F H σ env
  ow : ∀ (i : Nat) (xs : List PD) (a : Addr), env[i]? = some (.own xs) → σ[i]? = some (some (.ref a)) → H0 a = none
def PostS (c : Cn) (B : Option Addr) (E : XK) (F0 H0 : Hp) (o : Out Fl) (D : Ends) : Prop := match o with
  | .stuck => False
  | .ok (.nx env) g => ∀ F H σ, SInv c B F0 H0 F H σ env g → D.nx σ H
  | .ok (.rt d) g => ∀ F H v, Gr B F0 H0 F H → BagR c B F H g → Rv c B F v d → D.rt v H
  | .exn l k g => ExnP c B E F0 H0 l k g
section
variable {c : Cn} {B : Option Addr} {E : XK} {F0 H0 F H F1 H1 : Hp} {σ : L2.St} {env : EnvD} {g g1 : List PD} {D : Ends}
theorem SInv.grow (S : SInv c B F0 H0 F H σ env g) (gr : Gr B F H F1 H1) (b : BagR c B F1 H1 g1) : SInv c B F0 H0 F1 H1 σ env g1 :=
  ⟨S.gr.trans gr, S.bg0, b, S.me.grow gr, S.ow⟩
theorem RvA.set {F : Hp} : ∀ {vs : List V} {ds : List PD}, RvA c B F vs ds → ∀ (n : Nat) {v : V} {d : PD}, Rv c B F v d → RvA c B F (vs.set n v) (ds.set n d)
  | [], [], _, _, _, _, _ => .nil
  | _ :: _, _ :: _, .cons _ h2, 0, _, _, r => .cons r h2
  | _ :: _, _ :: _, .cons h1 h2, n + 1, _, _, r => .cons h1 (RvA.set h2 n r)
/-- the bag's list changes -/
theorem SInv.bset (S : SInv c B F0 H0 F H σ env g) {a : Addr} (e : B = some a) {vs : List V} (hv : H a = some (.lst vs)) (n : Nat) {v : V} {d : PD} (r : Rv c B F v d) (ra : RvA c B F vs g) (hF : F a = none) :
    SInv c B F0 H0 F (upd H a (.lst (vs.set n v))) σ env (g.set n d) := by
  have gr : Gr B F H F (upd H a (.lst (vs.set n v))) :=
    ⟨.refl F, fun x u h => by rw [upd_ne (fun q => by rw [q, hF] at h; cases h)]; exact S.gr.inn _ _ h, fun b o h nb => by rw [upd_ne (fun q => nb (by rw [q, e]))]; exact h,
     fun b o h => by
      by_cases q : b = a
      · subst q; exact ⟨_, upd_same⟩
      · exact ⟨o, by rw [upd_ne q]; exact h⟩, fun b o h k => k⟩
  refine S.grow gr fun a' e' => ?_
  have q : a' = a := Option.some.inj (e'.symm.trans e)
  subst q
  exact ⟨hF, _, upd_same, ra.set n r⟩
/-- what an expression's outcome hands on -/
theorem PostS.bind {β : Type} {o : Out β} {f : β → M Fl} (S : SInv c B F0 H0 F H σ env g) (h : PostS c B E F0 H0 (o.bnd f) D) :
    Post c B E F H o fun b g' _ _ => PostS c B E F0 H0 (f b g') D := by
  cases o with
  | stuck => exact h
  | ok b g' => exact fun _ _ _ _ => h
  | exn l k g' => exact ExnP.grow h S.gr
theorem slr_len (S : MEnv c B F H σ env) {i : Nat} {s : Sl} (e : env[i]? = some s) : i < env.length ∧ i < σ.length := by
  have l := (List.getElem?_eq_some_iff.mp e).1
  exact ⟨l, by rw [S.len]; exact l⟩
/-- a slot gets a value -/
theorem SInv.set (S : SInv c B F0 H0 F H σ env g) (i : Nat) {v : V} {d : PD} (r : Rv c B F v d) : SInv c B F0 H0 F H (σ.set i (some v)) (env.set i (.d d)) g := by
  refine ⟨S.gr, S.bg0, S.bg, S.me.set i ⟨v, rfl, r⟩ (fun _ q => nomatch q), fun j xs a e1 e2 => ?_⟩
  have n : i ≠ j := fun q => by
    subst q
    by_cases l : i < env.length
    · rw [List.getElem?_set_self l] at e1; cases e1
    · rw [List.getElem?_eq_none (by rw [List.length_set]; omega)] at e1; cases e1
  rw [List.getElem?_set_ne n] at e1 e2
  exact S.ow j xs a e1 e2
/-- a slot gets a list of its own -/
theorem SInv.setO (S : SInv c B F0 H0 F H σ env g) (i : Nat) (il : i < env.length) {a : Addr} {vs : List V} {ds : List PD} (h1 : H a = some (.lst vs)) (h2 : F a = none) (h0 : H0 a = none) (ra : RvA c B F vs ds)
    (un : ∀ (j : Nat) (ys : List PD), j ≠ i → env[j]? = some (.own ys) → σ[j]? ≠ some (some (.ref a))) : SInv c B F0 H0 F H (σ.set i (some (.ref a))) (env.set i (.own ds)) g := by
  have nB : some a ≠ B := fun q => by
    obtain ⟨g0, b0⟩ := S.bg0
    exact b0.ne q.symm h0 rfl
  have lσ : i < σ.length := by rw [S.me.len]; exact il
  refine ⟨S.gr, S.bg0, S.bg, ⟨by rw [List.length_set, List.length_set]; exact S.me.len, fun j s e => ?_, fun j k b xs ys e1 e2 f1 f2 => ?_⟩, fun j xs b e1 e2 => ?_⟩
  · by_cases q : i = j
    · subst q
      rw [List.getElem?_set_self il] at e
      cases e
      exact ⟨_, List.getElem?_set_self lσ, a, vs, rfl, h1, h2, nB, ra⟩
    · rw [List.getElem?_set_ne q] at e ⊢
      exact S.me.sl j s e
  · by_cases q : i = j
    · by_cases q2 : i = k
      · rw [← q, ← q2]
      · subst q
        rw [List.getElem?_set_self lσ] at f1
        cases f1
        rw [List.getElem?_set_ne q2] at e2 f2
        exact absurd f2 (un k ys (Ne.symm q2) e2)
    · by_cases q2 : i = k
      · subst q2
        rw [List.getElem?_set_self lσ] at f2
        cases f2
        rw [List.getElem?_set_ne q] at e1 f1
        exact absurd f1 (un j xs (Ne.symm q) e1)
      · rw [List.getElem?_set_ne q] at e1 f1
        rw [List.getElem?_set_ne q2] at e2 f2
        exact S.me.ap j k b xs ys e1 e2 f1 f2
  · by_cases q : i = j
    · subst q
      rw [List.getElem?_set_self lσ] at e2
      cases e2
      exact h0
    · rw [List.getElem?_set_ne q] at e1 e2
      exact S.ow j xs b e1 e2
theorem SInv.addr (S : SInv c B F0 H0 F H σ env g) {i : Nat} {xs : List PD} (e : env[i]? = some (.own xs)) : ∃ a vs, σ[i]? = some (some (.ref a)) ∧ H a = some (.lst vs) ∧ F a = none ∧ some a ≠ B ∧ RvA c B F vs xs ∧ H0 a = none := by
  obtain ⟨o, h1, a, vs, h2, h3, h4, h5, h6⟩ := S.me.sl i _ e
  subst h2
  exact ⟨a, vs, h1, h3, h4, h5, h6, S.ow i xs a e h1⟩
/-- a list that nobody has is in no slot -/
theorem SInv.unq (S : SInv c B F0 H0 F H σ env g) {a : Addr} (n : H a = none) (j : Nat) (ys : List PD) (e : env[j]? = some (.own ys)) : σ[j]? ≠ some (some (.ref a)) := fun q => by
  obtain ⟨b, vs, h1, h2, _⟩ := S.addr e
  rw [h1] at q
  cases q
  rw [n] at h2; cases h2
theorem SInv.frz (S : SInv c B F0 H0 F H σ env g) {i : Nat} {xs : List PD} (e : env[i]? = some (.own xs)) : ∃ F', Sub F F' ∧ SInv c B F0 H0 F' H σ (env.set i (.d (.list xs))) g := by
  obtain ⟨a, vs, h1, h2, h3, h4, h5, h6⟩ := S.addr e
  obtain ⟨g0, b0⟩ := S.bg0
  have sb := sub_upd (o := HO.lst vs) h3
  have il := (slr_len S.me e).1
  refine ⟨upd F a (.lst vs), sb, S.gr.freeze h6 h3 h2, S.bg0, S.bg.freeze b0 h6 sb, ⟨by rw [List.length_set]; exact S.me.len, fun j s f => ?_, fun j k b us ws e1 e2 f1 f2 => ?_⟩, fun j us b e1 e2 => ?_⟩
  · by_cases q : i = j
    · subst q
      rw [List.getElem?_set_self il] at f
      cases f
      exact ⟨_, h1, _, rfl, .lst upd_same (RvA.mono sb _ _ h5)⟩
    · rw [List.getElem?_set_ne q] at f
      obtain ⟨o, k1, k2⟩ := S.me.sl j s f
      refine ⟨o, k1, ?_⟩
      cases s with
      | no => trivial
      | d x =>
        obtain ⟨v, k3, k4⟩ := k2
        exact ⟨v, k3, Rv.mono sb _ _ k4⟩
      | own us =>
        obtain ⟨b, ws, k3, k4, k5, k6, k7⟩ := k2
        subst k3
        have nb : b ≠ a := fun z => by
          subst z
          exact q (S.me.ap i j b xs us e f h1 k1)
        exact ⟨b, ws, rfl, k4, by rw [upd_ne nb]; exact k5, k6, RvA.mono sb _ _ k7⟩
  · have n : ∀ m zs, (env.set i (Sl.d (.list xs)))[m]? = some (.own zs) → i ≠ m := fun m zs e q => by
      subst q
      rw [List.getElem?_set_self il] at e; cases e
    rw [List.getElem?_set_ne (n j us e1)] at e1
    rw [List.getElem?_set_ne (n k ws e2)] at e2
    exact S.me.ap j k b us ws e1 e2 f1 f2
  · have n : i ≠ j := fun q => by
      subst q
      rw [List.getElem?_set_self il] at e1; cases e1
    rw [List.getElem?_set_ne n] at e1
    exact S.ow j us b e1 e2
/-- one more item -/
theorem SInv.app (S : SInv c B F0 H0 F H σ env g) {i : Nat} {xs : List PD} (e : env[i]? = some (.own xs)) {a : Addr} {vs : List V} (h1 : σ[i]? = some (some (.ref a))) (h2 : H a = some (.lst vs)) {v : V} {d : PD} (r : Rv c B F v d) :
    SInv c B F0 H0 F (upd H a (.lst (vs ++ [v]))) σ (env.set i (.own (xs ++ [d]))) g := by
  obtain ⟨a', vs', k1, k2, k3, k4, k5, k6⟩ := S.addr e
  rw [h1] at k1
  cases k1
  rw [h2] at k2
  cases k2
  obtain ⟨g0, b0⟩ := S.bg0
  have il := (slr_len S.me e).1
  refine ⟨S.gr.mut k6 k3, S.bg0, S.bg.mut b0 k6, ⟨by rw [List.length_set]; exact S.me.len, fun j s f => ?_, fun j k b us ws e1 e2 f1 f2 => ?_⟩, fun j us b e1 e2 => ?_⟩
  · by_cases q : i = j
    · subst q
      rw [List.getElem?_set_self il] at f
      cases f
      exact ⟨_, h1, a, vs ++ [v], rfl, upd_same, k3, k4, k5.app (.cons r .nil)⟩
    · rw [List.getElem?_set_ne q] at f
      obtain ⟨o, m1, m2⟩ := S.me.sl j s f
      refine ⟨o, m1, ?_⟩
      cases s with
      | no => trivial
      | d x => exact m2
      | own us =>
        obtain ⟨b, ws, m3, m4, m5, m6, m7⟩ := m2
        subst m3
        have nb : b ≠ a := fun z => by
          subst z
          exact q (S.me.ap i j b xs us e f h1 m1)
        exact ⟨b, ws, rfl, by rw [upd_ne nb]; exact m4, m5, m6, m7⟩
  · have back : ∀ (m : Nat) (zs : List PD), (env.set i (Sl.own (xs ++ [d])))[m]? = some (Sl.own zs) → ∃ zs' : List PD, env[m]? = some (Sl.own zs') := fun m zs e' => by
      by_cases q : i = m
      · subst q; exact ⟨xs, e⟩
      · rw [List.getElem?_set_ne q] at e'; exact ⟨zs, e'⟩
    obtain ⟨u1, e1'⟩ := back j us e1
    obtain ⟨u2, e2'⟩ := back k ws e2
    exact S.me.ap j k b u1 u2 e1' e2' f1 f2
  · by_cases q : i = j
    · subst q
      rw [h1] at e2
      cases e2
      exact k6
    · rw [List.getElem?_set_ne q] at e1
      exact S.ow j us b e1 e2
end
end G

/-! The theorem of statements. -/
namespace G
open PySem PySem.Spec PyProof.Rows L2
variable {Θ : Th} {Fn : Nat → List PD → M PD} {vk : List Nat} {ar : Nat → Nat}
variable (T : Tab Θ Fn vk ar)
include T
/-- a list of the def's own -/
theorem evL_ok : ∀ (e : Ex) (E : XK) (B : Option Addr) (F H : Hp) (σ : L2.St) (env : EnvD) (g : List PD) (Q : VK), isL e = true → okE ar vk e = true → Sub F H → BagR Θ.c B F H g → MEnv Θ.c B F H σ env →
    Post Θ.c B E F H (evE Fn vk e env g) (fun d _ F' H' => ∀ ds a vs, d = .list ds → H' a = some (.lst vs) → F' a = none → H a = none → RvA Θ.c B F' vs ds → Q (.ref a) H') → dE Θ E e σ H Q := by
  intro e E B F H σ env g Q hl ok s bg me h
  cases e <;> try (cases hl; done)
  · rename_i es
    unfold evE at h
    refine evA_ok T es E B F H σ env g _ ok s bg me ((Post.bind h).imp fun ds g1 F1 H1 gr1 bg1 h1 vs rs => ?_)
    by_cases l : ds.length ≤ 1000
    · rw [if_pos l] at h1
      refine ⟨Nat.le_trans (by rw [rs.length]; exact l) (by decide), fun p hp => ?_⟩
      have nF : F1 p = none := by
        cases q : F1 p with
        | none => rfl
        | some o => rw [gr1.inn _ _ q] at hp; cases hp
      exact h1 _ _ (.freshM gr1.inn hp) (bg1.freshM hp) ds p vs rfl upd_same nF (gr1.back hp) rs
    · rw [if_neg l] at h1; exact False.elim h1
  · rename_i elt tg it own
    obtain ⟨ok1, ok2⟩ := and_of ok
    unfold evE at h
    refine evI_ok T it E B F H σ env g _ ok2 s bg me ((Post.bind h).imp fun ds g1 F1 H1 gr1 bg1 h1 J W => ?_)
    by_cases l : ds.length ≤ 1000000 ∧ tgIn tg own = true
    · rw [if_pos l] at h1
      have h1' : Post Θ.c B E F1 H1 (mapM' (fun d => match tgF tg d (wipeD env own) with | some env' => noX (evE Fn vk elt env') | none => stk) ds g1) fun ys _ F' H' => ∀ a vs, H' a = some (.lst vs) → F' a = none → H1 a = none → RvA Θ.c B F' vs ys → Q (.ref a) H' :=
        (Post.bind h1).imp fun ys g2 F2 H2 gr2 bg2 h2 a vs e1 e2 e3 ra => h2 F2 H2 (.refl gr2.inn) bg2 ys a vs rfl e1 e2 (gr1.back e3) ra
      refine lc_ok bg1 gr1.inn W l.1 (f := fun d => match tgF tg d (wipeD env own) with | some env' => noX (evE Fn vk elt env') | none => stk) (fun d g l k g' ef => ?_) (fun F2 H2 x d gb y g2 Q' gr2 bg2 rx ef k => ?_) h1'
      · cases e : tgF tg d (wipeD env own) with
        | none => rw [e] at ef; cases ef
        | some env' => rw [e] at ef; exact noX_exn ef
      · cases e : tgF tg d (wipeD env own) with
        | none => rw [e] at ef; cases ef
        | some env' =>
          rw [e] at ef
          have ef' := noX_ok ef
          refine tg_ok gr2.inn tg d _ env' _ x _ e ((me.grow (gr1.trans gr2)).wipe own) rx fun σ' me' hw => ⟨by rw [hw own l.2]; exact wipe_idem σ own, ?_⟩
          refine evE_ok T elt E00 B F2 H2 σ' env' gb _ ok1 gr2.inn bg2 me' ?_
          rw [ef']
          exact fun F' H' gr bg' v rv => k F' H' v gr bg' rv
    · rw [if_neg l] at h1; exact False.elim h1
omit T
mutual
/-- the forms are such as the program has -/
def okS (ar : Nat → Nat) (vk : List Nat) : St → Bool
  | .set _ e => okE ar vk e
  | .setO _ e => isL e && okE ar vk e
  | .asg _ e => okE ar vk e
  | .par _ _ oi oj a b => (okE ar vk a && okE ar vk b) && ((!oi || isL a) && (!oj || isL b))
  | .ife t a b => okT ar vk t && (okSs ar vk a && okSs ar vk b)
  | .ret e => okE ar vk e
  | .retN => true
  | .rse a b => okE ar vk a && okE ar vk b
  | .whl t b => okT ar vk t && okSs ar vk b
  | .fr _ it b => okI ar vk it && okSs ar vk b
  | .app _ e => okE ar vk e
  | .ex e => okE ar vk e
  | .bset _ _ e => okE ar vk e
def okSs (ar : Nat → Nat) (vk : List Nat) : Ss → Bool
  | .nil => true
  | .cons s r => okS ar vk s && okSs ar vk r
  | .frz _ r => okSs ar vk r
end
theorem tg_sinv {c : Cn} {B : Option Addr} {F0 H0 F H : Hp} {g : List PD} : True := trivial
/-- a target in the state -/
theorem tgS_ok {c : Cn} {B : Option Addr} {F0 H0 F H : Hp} {g : List PD} {t : Tg} {d : PD} {env env' : EnvD} {σ : L2.St} {v : V} {Q : L2.St → Hp → Prop} (S : SInv c B F0 H0 F H σ env g) (e : tgF t d env = some env') (r : Rv c B F v d)
    (q : ∀ σ', SInv c B F0 H0 F H σ' env' g → Q σ' H) : dG c.K t v σ H Q := by
  have key : (∀ (t : Tg) (d : PD) (env env' : EnvD) (σ : L2.St) (v : V) (Q : L2.St → Hp → Prop), SInv c B F0 H0 F H σ env g → tgF t d env = some env' → Rv c B F v d → (∀ σ', SInv c B F0 H0 F H σ' env' g → Q σ' H) → dG c.K t v σ H Q) := by
    intro t
    refine Tg.rec (motive_1 := fun t => ∀ (d : PD) (env env' : EnvD) (σ : L2.St) (v : V) (Q : L2.St → Hp → Prop), SInv c B F0 H0 F H σ env g → tgF t d env = some env' → Rv c B F v d → (∀ σ', SInv c B F0 H0 F H σ' env' g → Q σ' H) → dG c.K t v σ H Q)
      (motive_2 := fun ts => ∀ (ds : List PD) (env env' : EnvD) (σ : L2.St) (vs : List V) (Q : L2.St → Hp → Prop), SInv c B F0 H0 F H σ env g → tgsF ts ds env = some env' → RvA c B F vs ds → (∀ σ', SInv c B F0 H0 F H σ' env' g → Q σ' H) → dGs c.K ts vs σ H Q) ?_ ?_ ?_ ?_ t
    · intro i d env env' σ v Q S e r q
      have e' : env.set i (.d d) = env' := Option.some.inj (show some (env.set i (.d d)) = some env' from e)
      subst e'
      exact q _ (S.set i r)
    · intro ts ih d env env' σ v Q S e r q
      cases d <;> try (cases e; done)
      cases r with
      | tup hs ha => exact ⟨_, _, rfl, S.gr.inn.st hs, by rw [ha.length]; exact tgs_len ts _ env env' e, ih _ env env' σ _ Q S e ha q⟩
    · intro ds env env' σ vs Q S e r q
      cases ds with
      | nil =>
        cases r
        have e' : env = env' := Option.some.inj (show some env = some env' from e)
        subst e'
        exact ⟨rfl, q σ S⟩
      | cons d ds => simp [tgsF] at e
    · intro t ts ih1 ih2 ds env env' σ vs Q S e r q
      cases ds with
      | nil => simp [tgsF] at e
      | cons d ds =>
        cases r with
        | cons r1 r2 =>
          unfold tgsF at e
          cases e1 : tgF t d env with
          | none => rw [e1] at e; cases e
          | some en1 =>
            rw [e1] at e
            exact ⟨_, _, rfl, ih1 d env en1 σ _ _ S e1 r1 fun σ1 S1 => ih2 ds en1 env' σ1 _ Q S1 e r2 q⟩
  exact key t d env env' σ v Q S e r q
theorem listOf_eq {d : PD} {ds : List PD} (h : listOf d = some ds) : d = .list ds := by
  cases d <;> try (cases h; done)
  cases h; rfl
/-- the parts of a, b = x, y -/
theorem slOf_d {d : PD} {s : Sl} (h : slOf false d = some s) : s = .d d := by
  unfold slOf at h
  rw [if_neg Bool.false_ne_true] at h
  exact (Option.some.inj h).symm
theorem slOf_o {d : PD} {s : Sl} (h : slOf true d = some s) : ∃ ds, d = .list ds ∧ s = .own ds := by
  unfold slOf at h
  rw [if_pos rfl] at h
  obtain ⟨ds, e1, e2⟩ := Option.map_eq_some_iff.mp h
  exact ⟨ds, listOf_eq e1, e2.symm⟩
/-- an expression as a part: its value, or its own list -/
def PartR (c : Cn) (B : Option Addr) (H0 F H : Hp) (o : Bool) (v : V) (d : PD) : Prop :=
  if o = true then ∃ ds a vs, d = .list ds ∧ v = .ref a ∧ H a = some (.lst vs) ∧ F a = none ∧ H0 a = none ∧ RvA c B F vs ds else Rv c B F v d
include T
theorem evP_ok (e : Ex) (o : Bool) (E : XK) (B : Option Addr) (F H : Hp) (σ : L2.St) (env : EnvD) (g : List PD) (Q : VK) (ok : okE ar vk e = true) (ol : (!o || isL e) = true) (s : Sub F H) (bg : BagR Θ.c B F H g) (me : MEnv Θ.c B F H σ env)
    (h : Post Θ.c B E F H (evE Fn vk e env g) (fun d _ F' H' => ∀ v, PartR Θ.c B H F' H' o v d → Q v H')) : dE Θ E e σ H Q := by
  cases o with
  | false => exact evE_ok T e E B F H σ env g Q ok s bg me (h.imp fun d g' F' H' gr bg' k v r => k v r)
  | true =>
    refine evL_ok T e E B F H σ env g Q (by simpa using ol) ok s bg me (h.imp fun d g' F' H' gr bg' k ds a vs e1 e2 e3 e4 ra => ?_)
    exact k _ ⟨ds, a, vs, e1, rfl, e2, e3, e4, ra⟩
omit T
theorem PartR.put {c : Cn} {B : Option Addr} {F0 H0 F H Hs : Hp} {σ : L2.St} {env : EnvD} {g : List PD} {o : Bool} {v : V} {d : PD} {s : Sl} {i : Nat} (S : SInv c B F0 H0 F H σ env g) (h0 : ∀ a, Hs a = none → H0 a = none) (il : i < env.length)
    (un : ∀ a, Hs a = none → ∀ (j : Nat) (ys : List PD), j ≠ i → env[j]? = some (Sl.own ys) → σ[j]? ≠ some (some (.ref a))) (p : PartR c B Hs F H o v d) (e : slOf o d = some s) : SInv c B F0 H0 F H (σ.set i (some v)) (env.set i s) g := by
  cases o with
  | false =>
    have e' := slOf_d e
    subst e'
    exact S.set i p
  | true =>
    obtain ⟨ds, e1, e2⟩ := slOf_o e
    obtain ⟨ds', a, vs, e3, e4, e5, e6, e7, ra⟩ := p
    subst e1
    cases e3
    subst e2
    subst e4
    exact S.setO i il e5 e6 (h0 a e7) ra (un a e7)
end G

/-! The theorem of statements. -/
namespace G
open PySem PySem.Spec PyProof.Rows L2
/-- as PostS, with a floor Fb of what is frozen -/
def PostB (c : Cn) (B : Option Addr) (E : XK) (F0 H0 Fb : Hp) (o : Out Fl) (D : Ends) : Prop := match o with
  | .stuck => False
  | .ok (.nx env) g => ∀ F H σ, Sub Fb F → SInv c B F0 H0 F H σ env g → D.nx σ H
  | .ok (.rt d) g => ∀ F H v, Gr B F0 H0 F H → BagR c B F H g → Rv c B F v d → D.rt v H
  | .exn l k g => ExnP c B E F0 H0 l k g
section
variable {c : Cn} {B : Option Addr} {E : XK} {F0 H0 Fb F H F1 H1 : Hp} {σ : L2.St} {env : EnvD} {g g1 : List PD} {D : Ends}
theorem PostB.bind {β : Type} {o : Out β} {f : β → M Fl} (S : SInv c B F0 H0 F H σ env g) (h : PostB c B E F0 H0 Fb (o.bnd f) D) :
    Post c B E F H o fun b g' _ _ => PostB c B E F0 H0 Fb (f b g') D := by
  cases o with
  | stuck => exact h
  | ok b g' => exact fun _ _ _ _ => h
  | exn l k g' => exact ExnP.grow h S.gr
/-- one after another -/
theorem PostB.seq {o : Out Fl} {k : EnvD → M Fl} {D' : Ends} (h : PostB c B E F0 H0 Fb (o.bnd fun f => match f with | .nx env' => k env' | .rt d => ret (.rt d)) D) (hr : D'.rt = D.rt)
    (hn : ∀ F H σ env g, Sub Fb F → SInv c B F0 H0 F H σ env g → PostB c B E F0 H0 Fb (k env g) D → D'.nx σ H) : PostB c B E F0 H0 Fb o D' := by
  cases o with
  | stuck => exact h
  | exn l j g' => exact h
  | ok f g' =>
    cases f with
    | nx env' => exact fun F H σ sb S => hn F H σ env' g' sb S h
    | rt d =>
      show ∀ F H v, Gr B F0 H0 F H → BagR c B F H g' → Rv c B F v d → D'.rt v H
      rw [hr]; exact h
theorem PostB.lift {Fb' : Hp} {o : Out Fl} (h : PostB c B E F0 H0 Fb o D) (s : Sub Fb Fb') : PostB c B E F0 H0 Fb' o D := by
  cases o with
  | stuck => exact h
  | exn l j g' => exact h
  | ok f g' =>
    cases f with
    | nx env' => exact fun F H σ sb S => h F H σ (s.trans sb) S
    | rt d => exact h
end
variable {Θ : Th} {Fn : Nat → List PD → M PD} {vk : List Nat} {ar : Nat → Nat}
variable (T : Tab Θ Fn vk ar)
include T
theorem wh_ok {E : XK} {B : Option Addr} {F0 H0 Fb : Hp} {D : Ends} (t : Tx) (body : Ss) (ok : okT ar vk t = true)
    (hb : ∀ (F H : Hp) (σ : L2.St) (env : EnvD) (g : List PD) (D : Ends), Sub Fb F → SInv Θ.c B F0 H0 F H σ env g → PostB Θ.c B E F0 H0 Fb (evSs Fn vk body env g) D → dSs Θ E body D σ H)
    {F H : Hp} {σ : L2.St} {env : EnvD} {g : List PD} (sb : Sub Fb F) (S : SInv Θ.c B F0 H0 F H σ env g) (h : PostB Θ.c B E F0 H0 Fb (evWh (fun e => evT Fn vk t e) (fun e => evSs Fn vk body e) fuel env g) D) :
    tWhile (dT Θ E t) (dSs Θ E body) D σ H := by
  refine ⟨fun m σ H => ∃ F env g, Sub Fb F ∧ SInv Θ.c B F0 H0 F H σ env g ∧ PostB Θ.c B E F0 H0 Fb (evWh (fun e => evT Fn vk t e) (fun e => evSs Fn vk body e) m env g) D, ⟨fuel, F, env, g, sb, S, h⟩, ?_⟩
  rintro m σ H ⟨F, env, g, sb, S, h⟩
  cases m with
  | zero => exact False.elim h
  | succ n =>
    unfold evWh at h
    refine evT_ok T t E B F H σ env g _ ok S.gr.inn S.bg S.me ((PostB.bind S h).imp fun k g1 F1 H1 gr1 bg1 h1 => ?_)
    cases k with
    | false => exact h1 F1 H1 σ (sb.trans gr1.sub) (S.grow gr1 bg1)
    | true =>
      refine ⟨_, fun σ' H' hN => ⟨n, Nat.lt_succ_self n, hN⟩, ?_⟩
      exact hb F1 H1 σ env g1 _ (sb.trans gr1.sub) (S.grow gr1 bg1) (PostB.seq h1 rfl fun F H σ env g sb S h => ⟨F, env, g, sb, S, h⟩)
theorem fr_ok {E : XK} {B : Option Addr} {F0 H0 Fb : Hp} {D : Ends} (tg : Tg) (body : Ss)
    (hb : ∀ (Fb F H : Hp) (σ : L2.St) (env : EnvD) (g : List PD) (D : Ends), Sub Fb F → SInv Θ.c B F0 H0 F H σ env g → PostB Θ.c B E F0 H0 Fb (evSs Fn vk body env g) D → dSs Θ E body D σ H)
    {F H : Hp} {σ : L2.St} {env : EnvD} {g : List PD} {J : It} {ds : List PD} (W : Walks Θ.c B J F ds) (sb : Sub Fb F) (S : SInv Θ.c B F0 H0 F H σ env g) (h : PostB Θ.c B E F0 H0 Fb (evFr tg (fun e => evSs Fn vk body e) ds env g) D) :
    ∃ W : Nat → Nat → L2.St → Hp → Prop, (∃ m, W 0 m σ H) ∧ ∀ i m σ H, W i m σ H →
      (J.stop i H ∧ D.nx σ H) ∨ (J.go i H ∧ ∃ N : L2.St → Hp → Prop, (∀ σ' H', N σ' H' → ∃ m', m' < m ∧ W (i + 1) m' σ' H') ∧ ∀ x H', J.yld i H x H' → dG Θ.c.K tg x σ H' fun σ2 H2 => dSs Θ E body { D with nx := N, ct := N, bk := D.nx } σ2 H2) := by
  refine ⟨fun i m σ H => m = ds.length - i ∧ i ≤ ds.length ∧ ∃ F' env g, Sub F F' ∧ SInv Θ.c B F0 H0 F' H σ env g ∧ PostB Θ.c B E F0 H0 F (evFr tg (fun e => evSs Fn vk body e) (ds.drop i) env g) D, ⟨_, rfl, Nat.zero_le _, F, env, g, .refl F, S, h.lift sb⟩, ?_⟩
  rintro i m σ H ⟨rfl, il, F', env, g, sb, S, h⟩
  by_cases q : i = ds.length
  · left
    have e0 : ds.drop i = [] := by rw [q]; exact List.drop_length
    rw [e0] at h
    exact ⟨W.stop i F' H sb S.gr.inn (by omega), h F' H σ sb S⟩
  · right
    have il' : i < ds.length := by omega
    have e0 : ds.drop i = ds[i] :: ds.drop (i + 1) := List.drop_eq_getElem_cons il'
    have e1 : ds[i]? = some ds[i] := List.getElem?_eq_getElem il'
    rw [e0] at h
    refine ⟨W.go i F' H sb S.gr.inn il', fun σ H => ∃ F' env g, Sub F F' ∧ SInv Θ.c B F0 H0 F' H σ env g ∧ PostB Θ.c B E F0 H0 F (evFr tg (fun e => evSs Fn vk body e) (ds.drop (i + 1)) env g) D, fun σ' H' hN => ⟨ds.length - (i + 1), by omega, rfl, il', hN⟩, fun x H' hy => ?_⟩
    obtain ⟨F2, gr2, rx, bag2⟩ := W.yld i F' H x H' _ sb S.gr.inn e1 hy
    have S2 := S.grow gr2 (bag2 _ S.bg)
    unfold evFr at h
    cases e : tgF tg ds[i] env with
    | none => rw [e] at h; exact False.elim h
    | some env1 =>
      rw [e] at h
      refine tgS_ok S2 e rx fun σ3 S3 => ?_
      exact hb F F2 H' σ3 env1 g _ (sb.trans gr2.sub) S3 (PostB.seq h rfl fun F' H σ env g sb S h => ⟨F', env, g, sb, S, h⟩)
mutual
theorem evS_ok : ∀ (st : St) (E : XK) (B : Option Addr) (F0 H0 Fb F H : Hp) (σ : L2.St) (env : EnvD) (g : List PD) (D : Ends), okS ar vk st = true → Sub Fb F → SInv Θ.c B F0 H0 F H σ env g →
    PostB Θ.c B E F0 H0 Fb (evS Fn vk st env g) D → dS Θ E st D σ H
  | .set i e, E, B, F0, H0, Fb, F, H, σ, env, g, D, ok, sb, S, h => by
    unfold evS at h
    exact evE_ok T e E B F H σ env g _ ok S.gr.inn S.bg S.me ((PostB.bind S h).imp fun d g1 F1 H1 gr1 bg1 h1 v r => h1 F1 H1 _ (sb.trans gr1.sub) ((S.grow gr1 bg1).set i r))
  | .setO i e, E, B, F0, H0, Fb, F, H, σ, env, g, D, ok, sb, S, h => by
    obtain ⟨ok1, ok2⟩ := and_of ok
    unfold evS at h
    refine evL_ok T e E B F H σ env g _ ok1 ok2 S.gr.inn S.bg S.me ((PostB.bind S h).imp fun d g1 F1 H1 gr1 bg1 h1 ds a vs e1 e2 e3 e4 ra => ?_)
    subst e1
    have h1' : PostB Θ.c B E F0 H0 Fb ((if i < env.length then ret (.nx (env.set i (.own ds))) else stk : M Fl) g1) D := h1
    by_cases l : i < env.length
    · rw [if_pos l] at h1'
      exact h1' F1 H1 _ (sb.trans gr1.sub) ((S.grow gr1 bg1).setO i l e2 e3 (S.gr.back e4) ra fun j ys _ e => S.unq e4 j ys e)
    · rw [if_neg l] at h1'
      exact False.elim h1'
  | .asg tg e, E, B, F0, H0, Fb, F, H, σ, env, g, D, ok, sb, S, h => by
    unfold evS at h
    refine evE_ok T e E B F H σ env g _ ok S.gr.inn S.bg S.me ((PostB.bind S h).imp fun d g1 F1 H1 gr1 bg1 h1 v r => ?_)
    cases q : tgF tg d env with
    | none => rw [q] at h1; exact False.elim h1
    | some env' =>
      rw [q] at h1
      exact tgS_ok (S.grow gr1 bg1) q r fun σ' S' => h1 F1 H1 σ' (sb.trans gr1.sub) S'
  | .par i j oi oj a b, E, B, F0, H0, Fb, F, H, σ, env, g, D, ok, sb, S, h => by
    obtain ⟨ok1, ok2⟩ := and_of ok
    obtain ⟨oka, okb⟩ := and_of ok1
    obtain ⟨ola, olb⟩ := and_of ok2
    unfold evS at h
    refine evP_ok T a oi E B F H σ env g _ oka ola S.gr.inn S.bg S.me ((PostB.bind S h).imp fun x g1 F1 H1 gr1 bg1 h1 v p1 => ?_)
    have S1 := S.grow gr1 bg1
    refine evP_ok T b oj E B F1 H1 σ env g1 _ okb olb S1.gr.inn bg1 S1.me ((PostB.bind S1 h1).imp fun y g2 F2 H2 gr2 bg2 h2 w p2 => ?_)
    refine ⟨v, w, rfl, ?_⟩
    cases q1 : slOf oi x with
    | none => rw [q1] at h2; exact False.elim h2
    | some s =>
      cases q2 : slOf oj y with
      | none => rw [q1, q2] at h2; exact False.elim h2
      | some t =>
        rw [q1, q2] at h2
        have h2' : PostB Θ.c B E F0 H0 Fb ((if i < env.length ∧ j < env.length ∧ i ≠ j then ret (.nx ((env.set i s).set j t)) else stk : M Fl) g2) D := h2
        by_cases l : i < env.length ∧ j < env.length ∧ i ≠ j
        · rw [if_pos l] at h2'
          have S1' := PartR.put S1 (fun a n => S.gr.back n) l.1 (fun a n k ys _ e => S.unq n k ys e) p1 q1
          have S2' := S1'.grow gr2 bg2
          have S3 := PartR.put S2' (fun a n => S1.gr.back n) (by rw [List.length_set]; exact l.2.1) (fun a n k ys _ e => S1'.unq n k ys e) p2 q2
          exact h2' F2 H2 _ ((sb.trans gr1.sub).trans gr2.sub) S3
        · rw [if_neg l] at h2'
          exact False.elim h2'
  | .ife t a b, E, B, F0, H0, Fb, F, H, σ, env, g, D, ok, sb, S, h => by
    obtain ⟨ok1, ok2⟩ := and_of ok
    obtain ⟨ok2, ok3⟩ := and_of ok2
    unfold evS at h
    refine evT_ok T t E B F H σ env g _ ok1 S.gr.inn S.bg S.me ((PostB.bind S h).imp fun k g1 F1 H1 gr1 bg1 h1 => ?_)
    cases k with
    | true => exact evSs_ok a E B F0 H0 Fb F1 H1 σ env g1 D ok2 (sb.trans gr1.sub) (S.grow gr1 bg1) h1
    | false => exact evSs_ok b E B F0 H0 Fb F1 H1 σ env g1 D ok3 (sb.trans gr1.sub) (S.grow gr1 bg1) h1
  | .ret e, E, B, F0, H0, Fb, F, H, σ, env, g, D, ok, sb, S, h => by
    unfold evS at h
    exact evE_ok T e E B F H σ env g _ ok S.gr.inn S.bg S.me ((PostB.bind S h).imp fun d g1 F1 H1 gr1 bg1 h1 v r => h1 F1 H1 v (S.gr.trans gr1) bg1 r)
  | .retN, E, B, F0, H0, Fb, F, H, σ, env, g, D, ok, sb, S, h => h F H .non S.gr S.bg .non
  | .rse a b, E, B, F0, H0, Fb, F, H, σ, env, g, D, ok, sb, S, h => by
    obtain ⟨ok1, ok2⟩ := and_of ok
    unfold evS at h
    refine evE_ok T a E B F H σ env g _ ok1 S.gr.inn S.bg S.me ((PostB.bind S h).imp fun x g1 F1 H1 gr1 bg1 h1 v1 r1 => ?_)
    have S1 := S.grow gr1 bg1
    refine evE_ok T b E B F1 H1 σ env g1 _ ok2 S1.gr.inn bg1 S1.me ((PostB.bind S1 h1).imp fun y g2 F2 H2 gr2 bg2 h2 v2 r2 => ?_)
    have S2 := S1.grow gr2 bg2
    refine ⟨v1, v2, rfl, fun d hd => ?_⟩
    cases x <;> try exact False.elim h2
    cases y <;> try exact False.elim h2
    cases r1
    cases r2
    exact h2 F2 _ d (S2.gr.trans (.freshM S2.gr.inn hd)) (bg2.freshM hd) (S2.gr.back hd) upd_same
  | .whl t body, E, B, F0, H0, Fb, F, H, σ, env, g, D, ok, sb, S, h => by
    obtain ⟨ok1, ok2⟩ := and_of ok
    unfold evS at h
    exact wh_ok T t body ok1 (fun F H σ env g D sb S h => evSs_ok body E B F0 H0 Fb F H σ env g D ok2 sb S h) sb S h
  | .fr tg it body, E, B, F0, H0, Fb, F, H, σ, env, g, D, ok, sb, S, h => by
    obtain ⟨ok1, ok2⟩ := and_of ok
    unfold evS at h
    refine evI_ok T it E B F H σ env g _ ok1 S.gr.inn S.bg S.me ((PostB.bind S h).imp fun ds g1 F1 H1 gr1 bg1 h1 J W => ?_)
    exact fr_ok T tg body (fun Fb F H σ env g D sb S h => evSs_ok body E B F0 H0 Fb F H σ env g D ok2 sb S h) W (sb.trans gr1.sub) (S.grow gr1 bg1) h1
  | .app i e, E, B, F0, H0, Fb, F, H, σ, env, g, D, ok, sb, S, h => by
    unfold evS at h
    cases q : env[i]? with
    | none => rw [q] at h; exact False.elim h
    | some sl =>
      cases sl with
      | no => rw [q] at h; exact False.elim h
      | d x => rw [q] at h; exact False.elim h
      | own xs =>
        rw [q] at h
        have h' : PostB Θ.c B E F0 H0 Fb ((if xs.length < 1000000 then bnd (evE Fn vk e env) fun d => ret (.nx (env.set i (.own (xs ++ [d])))) else stk : M Fl) g) D := h
        by_cases l : xs.length < 1000000
        · rw [if_pos l] at h'
          obtain ⟨a, vs, k1, k2, k3, k4, k5, k6⟩ := S.addr q
          refine ⟨.ref a, k1, ?_⟩
          refine ⟨.inl ⟨rfl, vs, .inl (.inl k2)⟩, ?_⟩
          refine evE_ok T e E B F H σ env g _ ok S.gr.inn S.bg S.me ((PostB.bind S h').imp fun d g1 F1 H1 gr1 bg1 h1 v r => ?_)
          have S1 := S.grow gr1 bg1
          have k2' := gr1.keep _ _ k2 k4
          exact ⟨a, vs, v, rfl, rfl, k2', Nat.lt_of_lt_of_le (show vs.length < 1000000 by rw [k5.length]; exact l) (by decide), h1 F1 _ σ (sb.trans gr1.sub) (S1.app q k1 k2' r)⟩
        · rw [if_neg l] at h'
          exact False.elim h'
  | .ex e, E, B, F0, H0, Fb, F, H, σ, env, g, D, ok, sb, S, h => by
    unfold evS at h
    exact evE_ok T e E B F H σ env g _ ok S.gr.inn S.bg S.me ((PostB.bind S h).imp fun d g1 F1 H1 gr1 bg1 h1 v r => h1 F1 H1 σ (sb.trans gr1.sub) (S.grow gr1 bg1))
  | .bset i n e, E, B, F0, H0, Fb, F, H, σ, env, g, D, ok, sb, S, h => by
    unfold evS at h
    cases e0 : (env[i]?).bind bagOf with
    | none => rw [e0] at h; exact False.elim h
    | some u =>
      rw [e0] at h
      obtain ⟨sl, e1, e2⟩ := Option.bind_eq_some_iff.mp e0
      have e3 := bagOf_eq e2
      subst e3
      obtain ⟨v0, h1, r0⟩ := S.me.get e1
      cases r0 with
      | bag eB =>
        have h' : PostB Θ.c B E F0 H0 Fb (bnd (evE Fn vk e env) (fun d g => if n < g.length then .ok (.nx env) (g.set n d) else .stuck) g) D := h
        refine evE_ok T e E B F H σ env g _ ok S.gr.inn S.bg S.me ((PostB.bind S h').imp fun d g1 F1 H1 gr1 bg1 h2 v r => ?_)
        by_cases l : n < g1.length
        · rw [if_pos l] at h2
          have S1 := S.grow gr1 bg1
          obtain ⟨nF, vs, hv, ra⟩ := bg1 _ eB
          exact ⟨_, h1, _, vs, _, n, rfl, rfl, hv, Evl.ixN_nat (by rw [ra.length]; exact l), h2 F1 _ σ (sb.trans gr1.sub) (S1.bset eB hv n r ra nF)⟩
        · rw [if_neg l] at h2
          exact False.elim h2
theorem evSs_ok : ∀ (st : Ss) (E : XK) (B : Option Addr) (F0 H0 Fb F H : Hp) (σ : L2.St) (env : EnvD) (g : List PD) (D : Ends), okSs ar vk st = true → Sub Fb F → SInv Θ.c B F0 H0 F H σ env g →
    PostB Θ.c B E F0 H0 Fb (evSs Fn vk st env g) D → dSs Θ E st D σ H
  | .nil, E, B, F0, H0, Fb, F, H, σ, env, g, D, ok, sb, S, h => h F H σ sb S
  | .cons s r, E, B, F0, H0, Fb, F, H, σ, env, g, D, ok, sb, S, h => by
    obtain ⟨ok1, ok2⟩ := and_of ok
    unfold evSs at h
    refine evS_ok s E B F0 H0 Fb F H σ env g _ ok1 sb S (PostB.seq (D' := { D with nx := dSs Θ E r D }) h rfl fun F H σ env g sb S h => ?_)
    exact evSs_ok r E B F0 H0 Fb F H σ env g D ok2 sb S h
  | .frz i r, E, B, F0, H0, Fb, F, H, σ, env, g, D, ok, sb, S, h => by
    unfold evSs at h
    cases q : env[i]? with
    | none => rw [q] at h; exact False.elim h
    | some sl =>
      cases sl with
      | no => rw [q] at h; exact False.elim h
      | d x => rw [q] at h; exact False.elim h
      | own xs =>
        rw [q] at h
        obtain ⟨F', sb', S'⟩ := S.frz q
        exact evSs_ok r E B F0 H0 Fb F' H σ _ g D ok (sb.trans sb') S' h
end
end G

/-! The rules over the forms. -/
namespace G
open PySem PySem.Spec PyProof.Rows L2
def bltNames : List Str := ["abs", "len", "int", "str", "tuple", "all", "isinstance", "range", "enumerate", "zip", "bool", "repr"]
/-- defs that are called by rules of their own -/
def ngL : List Nat := [33, 43]
/-- what a def's body may lean on -/
structure Ctx (X : Cx) (Θ : Th) (k nf : Nat) (nm : Nat → Str) (gl : List (Str × V)) : Prop where
  K : X.K = Θ.c.K
  room : Room k X.A
  calm : X.calm = true
  nd : X.N.Nodup
  fns : ∀ i, i < nf → i ∉ ngL → ∃ fd ps, FnOk X.prog X.w X.K X.mg X.base (L2.CX X.prog X.w) k (Θ.c.fa i) fd ps (Θ.sp i) ∧ Binds X.K fd ps [] ∧ X.mg (nm i) = some (.ref (Θ.c.fa i)) ∧ PySem.W.keepIn X.K (.ref (Θ.c.fa i)) = true
  held : ∀ f sp, Θ.spv f sp → Held X.prog X.w X.K X.mg X.base k f sp
  blt : ∀ x, x ∈ bltNames → X.mg x = none
  gls : ∀ p, p ∈ gl → ∃ u, X.mg p.1 = some u ∧ RelV p.2 u
section
variable {X : Cx} {Θ : Th} {k nf : Nat} {nm : Nat → Str} {gl : List (Str × V)} {E : XK}
theorem Ctx.blk (C : Ctx X Θ k nf nm gl) (s : Shared) (H : Hp) (scope : Scope) (ce : Env) (fp : List Addr) : Ctx (X.blk s H scope ce fp) Θ k nf nm gl := ⟨C.K, C.room, C.calm, C.nd, C.fns, C.held, C.blt, C.gls⟩
theorem Ctx.hu (C : Ctx X Θ k nf nm gl) : X.A.units + 65 < cLine := by have := C.room.un; omega
theorem Ctx.hu0 (C : Ctx X Θ k nf nm gl) : X.A.units + 64 < cLine := by have := C.room.un; omega
theorem pass00 (C : Ctx X Θ k nf nm gl) : Passes (L2.CX X.prog X.w) X E00 := passL
/-! the operations' rules -/
theorem o_addI : OpR X (binaryOp .Add) (opR Θ.c.K .addI) := op_add
theorem o_subI : OpR X (binaryOp .Sub) (opR Θ.c.K .subI) := op_sub
theorem o_mulI : OpR X (binaryOp .Mult) (opR Θ.c.K .mulI) := op_mul
theorem o_divI : OpR X (binaryOp .FloorDiv) (opR Θ.c.K .divI) := op_fdivN
theorem o_modI : OpR X (binaryOp .Mod) (opR Θ.c.K .modI) := op_modN
theorem o_addS : OpR X (binaryOp .Add) (opR Θ.c.K .addS) := op_add_str
theorem o_inSg : OpR X (compareOp .In) (opR Θ.c.K .inSg) := op_in_sign
theorem o_catL : OpR X (binaryOp .Add) (opR Θ.c.K .catL) := op_cat
theorem o_eqD (C : Ctx X Θ k nf nm gl) : OpR X (compareOp .Eq) (opR Θ.c.K .eqD) := C.K ▸ op_eqD C.hu0
theorem o_neD (C : Ctx X Θ k nf nm gl) : OpR X (compareOp .NotEq) (opR Θ.c.K .neD) := C.K ▸ op_neD C.hu0
theorem o_ltI : OpR X (compareOp .Lt) (opR Θ.c.K .ltI) := op_lt
theorem o_leI : OpR X (compareOp .LtE) (opR Θ.c.K .leI) := op_le
theorem o_gtI : OpR X (compareOp .Gt) (opR Θ.c.K .gtI) := op_gt
theorem o_geI : OpR X (compareOp .GtE) (opR Θ.c.K .geI) := op_ge
theorem o_isN : OpR X (compareOp .Is) (opR Θ.c.K .isN) := op_isN
theorem o_ntN : OpR X (compareOp .IsNot) (opR Θ.c.K .ntN) := op_notN
theorem o_inFl (C : Ctx X Θ k nf nm gl) : OpR X (compareOp .In) (opR Θ.c.K .inFl) := C.K ▸ op_in_seq
theorem o_niFl (C : Ctx X Θ k nf nm gl) : OpR X (compareOp .NotIn) (opR Θ.c.K .niFl) := C.K ▸ op_notIn_seq
theorem o_inTd (C : Ctx X Θ k nf nm gl) : OpR X (compareOp .In) (opR Θ.c.K .inTd) := C.K ▸ op_inTd C.hu
theorem o_inLd (C : Ctx X Θ k nf nm gl) : OpR X (compareOp .In) (opR Θ.c.K .inLd) := C.K ▸ op_inD C.hu
theorem i_L (C : Ctx X Θ k nf nm gl) : IxR X (opR Θ.c.K .ixL) := C.K ▸ ix_list
theorem i_T (C : Ctx X Θ k nf nm gl) : IxR X (opR Θ.c.K .ixT) := C.K ▸ ix_tup
theorem i_S : IxR X (opR Θ.c.K .ixS) := ix_str
/-! expressions -/
variable {a b e f : Expr} {es : List Expr} {ia ib ic : Ex} {ies : Exs} {pos p apos : Pos} {x : Str}
theorem d_var (i : Nat) (hN : X.N[i]? = some x := by rfl) (hv : Vis X.env.scope x := by first | exact Or.inl rfl | exact Or.inr (Or.inl rfl) | exact Or.inr (Or.inr rfl)) (hd : (x == ("__debug__" : Str)) = false := by decide)
    (hcd : (x == ("__classdict__" : Str)) = false := by decide) : PE X (.Name x pos) (dE Θ E (.var i)) := pe_var hN hv hd hcd
theorem d_int {i : Int} {j : Nat} : PE X (.Constant (.int i) j pos) (dE Θ E (.lit (.int i))) := pe_int
theorem d_str {j : Nat} {y : Str} (h : x = y) : PE X (.Constant (.str x) j pos) (dE Θ E (.lit (.str y))) := h ▸ pe_str
theorem d_bl {i : Bool} {j : Nat} : PE X (.Constant (.bool i) j pos) (dE Θ E (.lit (.bool i))) := pe_bl
theorem d_non {j : Nat} : PE X (.Constant .none j pos) (dE Θ E (.lit .none)) := pe_non
theorem d_gl (C : Ctx X Θ k nf nm gl) {d : PD} (n : Nat) (hn : gl[n]? = some (x, toV d) := by rfl) (hg : Gl X x := by rfl) (hd : (x == ("__debug__" : Str)) = false := by decide) : PE X (.Name x pos) (dE Θ E (.lit d)) := by
  obtain ⟨u, h1, h2⟩ := C.gls _ (List.mem_of_getElem? hn)
  exact pe_glob hg h1 h2 hd
theorem d_fnv (C : Ctx X Θ k nf nm gl) (i : Nat) (hi : i < nf := by decide) (hng : i ∉ ngL := by decide) (hn : nm i = x := by rfl) (hg : Gl X x := by rfl) (hd : (x == ("__debug__" : Str)) = false := by decide) : PE X (.Name x pos) (dE Θ E (.fnv i)) := by
  obtain ⟨fd, ps, _, _, h1, _⟩ := C.fns i hi hng
  exact pe_glob hg (hn ▸ h1) rfl hd
theorem d_op {o : Operator} {q : Op2} (ho : OpR X (binaryOp o) (opR Θ.c.K q)) (ha : PE X a (dE Θ E ia)) (hb : PE X b (dE Θ E ib)) : PE X (.BinOp a o b pos) (dE Θ E (.op2 q ia ib)) := pe_op ho ha hb
theorem d_ix {q : Op2} (ho : IxR X (opR Θ.c.K q)) (ha : PE X a (dE Θ E ia)) (hb : PE X b (dE Θ E ib)) (hs : PlainIx b := by first | (intro _ _; rfl) | exact fun _ _ => rfl) : PE X (.Subscript a b pos) (dE Θ E (.op2 q ia ib)) := pe_ix ho ha hb hs
theorem d_cmp {o : CmpOp} {q : Op2} (ho : OpR X (compareOp o) (opR Θ.c.K q)) (ha : PE X a (dE Θ E ia)) (hb : PE X b (dE Θ E ib)) (hm : behindInMarks o b = false := by first | exact nomark _ | rfl) : PE X (.Compare a [o] [b] pos) (dE Θ E (.op2 q ia ib)) := pe_cmpR ho ha hb hm
theorem d_neg (ha : PE X a (dE Θ E ia)) : PE X (.UnaryOp .USub a pos) (dE Θ E (.neg ia)) := pe_un un_neg ha
theorem d_chain {o o' : CmpOp} {q q' : Op2} {c : Expr} (ho : OpR X (compareOp o) (opR Θ.c.K q)) (ho' : OpR X (compareOp o') (opR Θ.c.K q')) (ha : PE X a (dE Θ E ia)) (hb : PE X b (dE Θ E ib)) (hc : PE X c (dE Θ E ic)) (hm : lastMarks [o, o'] [b, c] = false := by with_unfolding_all rfl) :
    PE X (.Compare a [o, o'] [b, c] pos) (dE Θ E (.chain q q' ia ib ic)) := pe_chain ho ho' ha hb hc hm
theorem d_ite {t : Expr} {it : Tx} (ht : PT X t (dT Θ E it)) (ha : PE X a (dE Θ E ia)) (hb : PE X b (dE Θ E ib)) : PE X (.IfExp t a b pos) (dE Θ E (.ite it ia ib)) := pe_ifExp ht ha hb
theorem d_and {rest : List Expr} (ha : PE X a (dE Θ E ia)) (hb : PE X (.BoolOp .And (b :: rest) pos) (dE Θ E ib)) : PE X (.BoolOp .And (a :: b :: rest) pos) (dE Θ E (.andV ia ib)) := pe_and ha hb
theorem d_or {rest : List Expr} (ha : PE X a (dE Θ E ia)) (hb : PE X (.BoolOp .Or (b :: rest) pos) (dE Θ E ib)) : PE X (.BoolOp .Or (a :: b :: rest) pos) (dE Θ E (.orV ia ib)) := pe_or ha hb
theorem d_one {o : BoolOp} (ha : PE X a (dE Θ E ia)) : PE X (.BoolOp o [a] pos) (dE Θ E ia) := pe_one ha
theorem d_not (ha : PE X a (dE Θ E ia)) : PE X (.UnaryOp .Not a pos) (dE Θ E (.notV ia)) := pe_not ha
theorem d_nil : PA X [] (dA Θ E .nil) := pa_nil
theorem d_cons (ha : PE X e (dE Θ E ia)) (hr : PA X es (dA Θ E ies)) (hs : starEach (e :: es) X.env = (false, eval e X.env) :: starEach es X.env := by rfl) : PA X (e :: es) (dA Θ E (.cons ia ies)) := pa_cons ha hr hs
theorem d_tup {j} (h : PA X es (dA Θ E ies)) : PE X (.Tuple es j pos) (dE Θ E (.tup ies)) := pe_tup h
theorem d_lst (h : PA X es (dA Θ E ies)) : PE X (.List es pos) (dE Θ E (.lst ies)) := pe_lst h
theorem d_sl {o : Sk} {p2 : Pos} {lo hi : Option Expr} {il ih : Exs} (hr : L2.SlR X (skR Θ.c.K o)) (ha : PE X a (dE Θ E ia)) (hl : PO X lo (dO Θ E il)) (hu : PO X hi (dO Θ E ih)) : PE X (.Subscript a (.Slice lo hi none p2) pos) (dE Θ E (.sl o ia il ih)) := pe_slice hr ha hl hu
theorem d_on : PO X none (dO Θ E .nil) := po_none
theorem d_os (h : PE X e (dE Θ E ia)) : PO X (some e) (dO Θ E (.cons ia .nil)) := po_some h
theorem s_str : L2.SlR X (skR Θ.c.K .str) := sl_str
theorem s_lst (C : Ctx X Θ k nf nm gl) : L2.SlR X (skR Θ.c.K .lst) := C.K ▸ sl_list
/-- a built-in of one argument -/
theorem d_bltB (C : Ctx X Θ k nf nm gl) {id : String} {q : Blt} (hc : CallR X (.builtin id) (bltR Θ.c.K q)) (ha : PE X e (dE Θ E ia)) (hm : x ∈ bltNames := by decide) (hg : Gl X x := by rfl) (hv : bootBuiltins x = some (.builtin id) := by rfl) (hn : x ≠ "__name__" := by decide) (hdb : (x == ("__debug__" : Str)) = false := by decide)
    (he : starEach [e] X.env = (false, eval e X.env) :: starEach [] X.env := by rfl) (hpl : (backTo pos (starEach [] X.env)).any (·.1) = false := by rfl) : PE X (.Call (.Name x p) [e] [] pos) (dE Θ E (.blt q ia)) :=
  pe_callB hc hg (C.blt _ hm) hv (pa_cons ha pa_nil he) hn hdb he hpl
theorem d_bltT (C : Ctx X Θ k nf nm gl) {id : String} {q : Blt} (hc : CallR X (.type id) (bltR Θ.c.K q)) (ha : PE X e (dE Θ E ia)) (hm : x ∈ bltNames := by decide) (hg : Gl X x := by rfl) (hv : bootBuiltins x = some (.type id) := by rfl) (hn : x ≠ "__name__" := by decide) (hdb : (x == ("__debug__" : Str)) = false := by decide)
    (he : starEach [e] X.env = (false, eval e X.env) :: starEach [] X.env := by rfl) (hpl : (backTo pos (starEach [] X.env)).any (·.1) = false := by rfl) : PE X (.Call (.Name x p) [e] [] pos) (dE Θ E (.blt q ia)) :=
  pe_callTy hc hg (C.blt _ hm) hv (pa_cons ha pa_nil he) hn hdb he hpl
theorem c_abs : CallR X (.builtin "abs") (bltR Θ.c.K .abs) := call_abs
theorem c_lenQ (C : Ctx X Θ k nf nm gl) : CallR X (.builtin "len") (bltR Θ.c.K .lenQ) := C.K ▸ call_len_seq
theorem c_lenS : CallR X (.builtin "len") (bltR Θ.c.K .lenS) := call_len_str
theorem c_intI : CallR X (.type "int") (bltR Θ.c.K .intI) := call_int1
theorem c_intB : CallR X (.type "int") (bltR Θ.c.K .intB) := call_int1
theorem c_intS : CallR X (.type "int") (bltR Θ.c.K .intS) := call_int_str
theorem c_strI : CallR X (.type "str") (bltR Θ.c.K .strI) := call_str_int
theorem c_tupL (C : Ctx X Θ k nf nm gl) : CallR X (.type "tuple") (bltR Θ.c.K .tupL) := C.K ▸ call_tuple_of
theorem c_allB (C : Ctx X Θ k nf nm gl) : CallR X (.builtin "all") (bltR Θ.c.K .allB) := C.K ▸ cr_all C.calm
/-- isinstance(e, T) -/
theorem d_isi (C : Ctx X Θ k nf nm gl) {t : String} {y : Str} {py : Pos} (ha : PE X e (dE Θ E ia)) (hgi : Gl X "isinstance" := by rfl) (hg : Gl X y := by rfl) (hm : y ∈ bltNames := by decide) (hv : bootBuiltins y = some (.type t) := by rfl)
    (hn : y ≠ "__name__" := by decide) (hdb : (y == ("__debug__" : Str)) = false := by decide)
    (he : starEach [e, .Name y py] X.env = (false, eval e X.env) :: starEach [.Name y py] X.env := by rfl) (he2 : starEach [.Name y py] X.env = (false, eval (.Name y py) X.env) :: starEach [] X.env := by rfl) (hpl : (backTo pos (starEach [.Name y py] X.env)).any (·.1) = false := by rfl) :
    PE X (.Call (.Name "isinstance" p) [e, .Name y py] [] pos) (dE Θ E (.isi t ia)) := by
  have h := call_isi (X := X)
  rw [C.K] at h
  exact pe_callB h hgi (C.blt _ (by decide)) (by rfl) (pa_cons ha (pa_cons (pe_bltn hg (C.blt _ hm) hv rfl hn hdb) pa_nil he2) he) (by decide) (by decide) he hpl
/-- a call of a def -/
theorem d_call (C : Ctx X Θ k nf nm gl) (hp : Passes (L2.CX X.prog X.w) X E) (i : Nat) (ha : PA X (e :: es) (dA Θ E ies)) (hi : i < nf := by decide) (hng : i ∉ ngL := by decide) (hn : nm i = x := by rfl) (hg : Gl X x := by rfl) (hd : (x == ("__debug__" : Str)) = false := by decide)
    (he : starEach (e :: es) X.env = (false, eval e X.env) :: starEach es X.env := by rfl) (hpl : (backTo pos (starEach es X.env)).any (·.1) = false := by rfl) : PE X (.Call (.Name x p) (e :: es) [] pos) (dE Θ E (.call i ies)) := by
  obtain ⟨fd, ps, F, B, h1, h2⟩ := C.fns i hi hng
  exact pe_call F C.room hg (hn ▸ h1) h2 B .nil hp ha hd he hpl
/-- a call of a local name -/
theorem d_callv (C : Ctx X Θ k nf nm gl) (i : Nat) (ha : PA X (e :: es) (dA Θ E ies)) (hN : X.N[i]? = some x := by rfl) (hv : Vis X.env.scope x := by first | exact Or.inl rfl | exact Or.inr (Or.inl rfl) | exact Or.inr (Or.inr rfl)) (hdb : (x == ("__debug__" : Str)) = false := by decide) (hcd : (x == ("__classdict__" : Str)) = false := by decide)
    (he : starEach (e :: es) X.env = (false, eval e X.env) :: starEach es X.env := by rfl) (hpl : (backTo pos (starEach es X.env)).any (·.1) = false := by rfl) : PE X (.Call (.Name x p) (e :: es) [] pos) (dE Θ E (.callv i ies)) :=
  pe_callV C.held C.room hN hv ha hdb hcd he hpl
/-! methods of texts -/
theorem d_split (ha : PE X a (dE Θ E ia)) (hb : PE X b (dE Θ E ib)) (hs : starEach [b] X.env = [(false, eval b X.env)] := by rfl) (hbase : attributeBase a "split" X.env (eval a X.env) = eval a X.env := by rfl) (hline : (apos.endLine == pos.line) = true := by rfl) :
    PE X (.Call (.Attribute a "split" apos) [b] [] pos) (dE Θ E (.split ia ib)) := pe_split ha hb hs hbase hline
theorem d_join (C : Ctx X Θ k nf nm gl) (ha : PE X a (dE Θ E ia)) (hb : PE X b (dE Θ E ib)) (hs : starEach [b] X.env = [(false, eval b X.env)] := by rfl) (hbase : attributeBase a "join" X.env (eval a X.env) = eval a X.env := by rfl) (hline : (apos.endLine == pos.line) = true := by rfl) :
    PE X (.Call (.Attribute a "join" apos) [b] [] pos) (dE Θ E (.join ia ib)) := by
  have h := pe_join (X := X) ha hb hs hbase hline
  rw [C.K] at h
  exact h
theorem d_find (C : Ctx X Θ k nf nm gl) (ha : PE X a (dE Θ E ia)) (hb : PE X b (dE Θ E ib)) (hbase : attributeBase a "find" X.env (eval a X.env) = eval a X.env := by rfl)
    (hfew : ((backTo pos (starEach [b] X.env)).all (fun x => !x.1) && (backToKw pos (keywordEach [] X.env)).all (fun x => x.1.isSome) && decide ([b].length + ([] : List Keyword).length + (if ([] : List Keyword).isEmpty then 0 else 1) < 30)) = true := by rfl)
    (hline : (apos.endLine == pos.line) = true := by rfl) (hs : starEach [b] X.env = (false, eval b X.env) :: starEach [] X.env := by rfl) (hpl : (backTo pos (starEach [] X.env)).any (·.1) = false := by rfl) :
    PE X (.Call (.Attribute a "find" apos) [b] [] pos) (dE Θ E (.find ia ib)) := by
  have h := pe_bm PySem.F.plainAttrs_str PySem.F.slot_str_find PySem.F.type_str_find (mt_find (X := X)) ha (pa_cons hb pa_nil hs) hbase hfew hline hs hpl
  rw [C.K] at h
  exact h
theorem d_find3 (C : Ctx X Θ k nf nm gl) (ha : PE X a (dE Θ E ia)) (hb : PE X b (dE Θ E ib)) (hc : PE X e (dE Θ E ic)) (hbase : attributeBase a "find" X.env (eval a X.env) = eval a X.env := by rfl)
    (hfew : ((backTo pos (starEach [b, e] X.env)).all (fun x => !x.1) && (backToKw pos (keywordEach [] X.env)).all (fun x => x.1.isSome) && decide ([b, e].length + ([] : List Keyword).length + (if ([] : List Keyword).isEmpty then 0 else 1) < 30)) = true := by rfl)
    (hline : (apos.endLine == pos.line) = true := by rfl) (hs : starEach [b, e] X.env = (false, eval b X.env) :: starEach [e] X.env := by rfl) (hs2 : starEach [e] X.env = (false, eval e X.env) :: starEach [] X.env := by rfl) (hpl : (backTo pos (starEach [e] X.env)).any (·.1) = false := by rfl) :
    PE X (.Call (.Attribute a "find" apos) [b, e] [] pos) (dE Θ E (.find3 ia ib ic)) := by
  have h := pe_bm PySem.F.plainAttrs_str PySem.F.slot_str_find PySem.F.type_str_find (mt_find3 (X := X)) ha (pa_cons hb (pa_cons hc pa_nil hs2) hs) hbase hfew hline hs hpl
  rw [C.K] at h
  exact h
/-! tests -/
theorem d_tc {o : CmpOp} {q : Op2} (ho : OpR X (compareOp o) (opR Θ.c.K q)) (ha : PE X a (dE Θ E ia)) (hb : PE X b (dE Θ E ib)) (hm : behindInMarks o b = false := by first | exact nomark _ | rfl) : PT X (.Compare a [o] [b] pos) (dT Θ E (.val (.op2 q ia ib))) := pt_cmpR ho ha hb hm
theorem d_tch {o o' : CmpOp} {q q' : Op2} {c : Expr} (ho : OpR X (compareOp o) (opR Θ.c.K q)) (ho' : OpR X (compareOp o') (opR Θ.c.K q')) (ha : PE X a (dE Θ E ia)) (hb : PE X b (dE Θ E ib)) (hc : PE X c (dE Θ E ic)) (hm : lastMarks [o, o'] [b, c] = false := by with_unfolding_all rfl) :
    PT X (.Compare a [o, o'] [b, c] pos) (dT Θ E (.val (.chain q q' ia ib ic))) := pt_chain ho ho' ha hb hc hm
theorem d_tv (h : PE X e (dE Θ E ia)) (he : ∀ whole, isTrue e X.env whole = (do let v ← whole; standAt e.pos; holding [v] (truthy v)) := by intro _; rfl) : PT X e (dT Θ E (.val ia)) := pt_val h he
variable {ta tb : Tx}
theorem d_tnot (h : PT X a (dT Θ E ta)) : PT X (.UnaryOp .Not a pos) (dT Θ E (.not ta)) := pt_not h
theorem d_wand1 (h : PT X a (dT Θ E ta)) : PW X (.BoolOp .And [a] pos) (dT Θ E ta) := pw_and1 h
theorem d_wor1 (h : PT X a (dT Θ E ta)) : PW X (.BoolOp .Or [a] pos) (dT Θ E ta) := pw_or1 h
theorem d_wand {rest : List Expr} (ha : PT X a (dT Θ E ta)) (hb : PW X (.BoolOp .And (b :: rest) pos) (dT Θ E tb)) : PW X (.BoolOp .And (a :: b :: rest) pos) (dT Θ E (.and ta tb)) := pw_and ha hb
theorem d_wor {rest : List Expr} (ha : PT X a (dT Θ E ta)) (hb : PW X (.BoolOp .Or (b :: rest) pos) (dT Θ E tb)) : PW X (.BoolOp .Or (a :: b :: rest) pos) (dT Θ E (.or ta tb)) := pw_or ha hb
/-! targets, walks -/
variable {tg iter : Expr} {itg : Tg} {itgs : Tgs} {ii : Ix}
theorem d_gn (C : Ctx X Θ k nf nm gl) (i : Nat) (hN : X.N[i]? = some x := by rfl) (hx : Loc X.env.scope x := by first | exact Or.inl rfl | exact Or.inr rfl) (hf : X.fn x = true ∨ X.env.scope.names.lookup x = some .local := by first | exact .inl rfl | exact .inr rfl) : PG X (.Name x pos) (dG Θ.c.K (.name i)) := pg_name C.nd hN hx hf
theorem d_g0 : PGs X [] (dGs Θ.c.K .nil) := pgs_nil
theorem d_g1 {es : List Expr} (h1 : PG X e (dG Θ.c.K itg)) (h2 : PGs X es (dGs Θ.c.K itgs)) (hs : (assignEach (e :: es) X.env).map (·.2) = assign e X.env :: (assignEach es X.env).map (·.2) := by rfl) : PGs X (e :: es) (dGs Θ.c.K (.cons itg itgs)) := pgs_cons h1 h2 hs
theorem d_gt (C : Ctx X Θ k nf nm gl) {j : Nat} (h : PGs X es (dGs Θ.c.K itgs)) (hn : (assignEach es X.env).length = itgs.len := by rfl) (hst : (assignEach es X.env).findIdx? (·.1) = none := by rfl) : PG X (.Tuple es j pos) (dG Θ.c.K (.tup itgs)) := by
  have q := pg_tup C.calm h hn hst (k := j) (pos := pos)
  rw [C.K] at q
  exact q
theorem d_il (C : Ctx X Θ k nf nm gl) (h : PE X e (dE Θ E ia)) : PI X tg e (dI Θ E (.list ia)) := by
  have q := pi_list (tg := tg) h
  rw [C.K] at q
  exact q
theorem d_it (C : Ctx X Θ k nf nm gl) (h : PE X e (dE Θ E ia)) : PI X tg e (dI Θ E (.tup ia)) := by
  have q := pi_tup (tg := tg) h
  rw [C.K] at q
  exact q
theorem d_is (h : PE X e (dE Θ E ia)) : PI X tg e (dI Θ E (.str ia)) := pi_str h
theorem d_ir (C : Ctx X Θ k nf nm gl) (h : PE X e (dE Θ E ia)) (hg : Gl X "range" := by rfl) (hs : starEach [e] X.env = [(false, eval e X.env)] := by rfl) : PI X tg (.Call (.Name "range" p) [e] [] pos) (dI Θ E (.range ia)) :=
  pi_range1 hg (C.blt _ (by decide)) (pa_cons h pa_nil hs) hs
theorem d_ie (C : Ctx X Θ k nf nm gl) {elts : List Expr} {kk : Nat} {tpos : Pos} (h : PE X e (dE Θ E ia)) (hg : Gl X "enumerate" := by rfl) (hs : starEach [e] X.env = [(false, eval e X.env)] := by rfl) : PI X (.Tuple elts kk tpos) (.Call (.Name "enumerate" p) [e] [] pos) (dI Θ E (.enum ia)) := by
  have q := pi_enum (elts := elts) (kk := kk) (tpos := tpos) (p := p) (pos := pos) hg (C.blt _ (by decide)) (pa_cons h pa_nil hs) hs
  rw [C.K] at q
  exact q
/-- a comprehension -/
theorem d_lc (C : Ctx X Θ k nf nm gl) {elt : Expr} {scope : Scope} {own : List (Str × Nat)} {ie : Ex} (hi : PI X tg iter (dI Θ E ii)) (hg : ∀ (s : Shared) (H : Hp) (D : Addr) (cl : List (Str × Addr)) (fp : List Addr), Ctx (X.blk s H scope (compEnvC scope cl D X.env) fp) Θ k nf nm gl → PG (X.blk s H scope (compEnvC scope cl D X.env) fp) tg (dG Θ.c.K itg))
    (he : ∀ (s : Shared) (H : Hp) (D : Addr) (cl : List (Str × Addr)) (fp : List Addr), Ctx (X.blk s H scope (compEnvC scope cl D X.env) fp) Θ k nf nm gl → Passes (L2.CX X.prog X.w) (X.blk s H scope (compEnvC scope cl D X.env) fp) E00 → PE (X.blk s H scope (compEnvC scope cl D X.env) fp) elt (dE Θ E00 ie)) (ok : blkC X.N X.env.scope scope own = true := by kernel_rfl) (hs : ∀ x, foldedSetIterable iter X.env x = pure x := by intro _; rfl) :
    PE X (.ListComp elt [⟨tg, iter, [], 0⟩] scope pos) (dE Θ E (.lc ie itg ii (own.map (·.2)))) := pe_lc C.calm C.nd hi (blkOk_by ok) (fun s H D cl fp => hg s H D cl fp (C.blk _ _ _ _ _)) (fun _ _ _ _ _ => pts_nil) (fun s H D cl fp => he s H D cl fp (C.blk _ _ _ _ _) (pass00 (C.blk _ _ _ _ _))) hs
/-! statements -/
variable {st : Stmt} {sts : List Stmt} {is : St} {iss : Ss}
theorem d_snil : PSs X [] (dSs Θ E .nil) := pss_nil
theorem d_scons (h1 : PS X st (dS Θ E is)) (h2 : PSs X sts (dSs Θ E iss)) : PSs X (st :: sts) (dSs Θ E (.cons is iss)) := pss_cons h1 h2
theorem d_sfrz {i : Nat} (h : PSs X sts (dSs Θ E iss)) : PSs X sts (dSs Θ E (.frz i iss)) := h
theorem d_set (C : Ctx X Θ k nf nm gl) (i : Nat) {pos' : Pos} (he : PE X e (dE Θ E ia)) (hs : swapsWith e (some (.Name x pos')) pos.line X.env = pure false := by rfl) (hN : X.N[i]? = some x := by rfl) (hx : Loc X.env.scope x := by first | exact Or.inl rfl | exact Or.inr rfl)
    (hf : X.fn x = true ∨ X.env.scope.names.lookup x = some .local := by first | exact .inl rfl | exact .inr rfl) : PS X (.Assign [.Name x pos'] e pos) (dS Θ E (.set i ia)) := ps_set C.nd hN hx he hs hf
theorem d_setO (C : Ctx X Θ k nf nm gl) (i : Nat) {pos' : Pos} (he : PE X e (dE Θ E ia)) (hs : swapsWith e (some (.Name x pos')) pos.line X.env = pure false := by rfl) (hN : X.N[i]? = some x := by rfl) (hx : Loc X.env.scope x := by first | exact Or.inl rfl | exact Or.inr rfl)
    (hf : X.fn x = true ∨ X.env.scope.names.lookup x = some .local := by first | exact .inl rfl | exact .inr rfl) : PS X (.Assign [.Name x pos'] e pos) (dS Θ E (.setO i ia)) := ps_set C.nd hN hx he hs hf
/-- name = [comprehension] -/
theorem d_setLc (C : Ctx X Θ k nf nm gl) (i : Nat) {pos' spos : Pos} {elt : Expr} {scope : Scope} {own : List (Str × Nat)} {ie : Ex} (hi : PI X tg iter (dI Θ E ii)) (hg : ∀ (s : Shared) (H : Hp) (D : Addr) (cl : List (Str × Addr)) (fp : List Addr), Ctx (X.blk s H scope (compEnvC scope cl D X.env) fp) Θ k nf nm gl → PG (X.blk s H scope (compEnvC scope cl D X.env) fp) tg (dG Θ.c.K itg))
    (he : ∀ (s : Shared) (H : Hp) (D : Addr) (cl : List (Str × Addr)) (fp : List Addr), Ctx (X.blk s H scope (compEnvC scope cl D X.env) fp) Θ k nf nm gl → Passes (L2.CX X.prog X.w) (X.blk s H scope (compEnvC scope cl D X.env) fp) E00 → PE (X.blk s H scope (compEnvC scope cl D X.env) fp) elt (dE Θ E00 ie)) (ok : blkC X.N X.env.scope scope own = true := by kernel_rfl) (hN : X.N[i]? = some x := by rfl) (hl : X.env.scope.names.lookup x = some .local := by rfl)
    (hsw : swapsWith (.ListComp elt [⟨tg, iter, [], 0⟩] scope pos) (some (.Name x pos')) spos.line X.env = pure true := by exact sw_true rfl rfl rfl rfl) (hs : ∀ x, foldedSetIterable iter X.env x = pure x := by intro _; rfl) :
    PS X (.Assign [.Name x pos'] (.ListComp elt [⟨tg, iter, [], 0⟩] scope pos) spos) (dS Θ E (.set i (.lc ie itg ii (own.map (·.2))))) := ps_setLc C.calm C.nd hN hl hsw hi (blkOk_by ok) (fun s H D cl fp => hg s H D cl fp (C.blk _ _ _ _ _)) (fun _ _ _ _ _ => pts_nil) (fun s H D cl fp => he s H D cl fp (C.blk _ _ _ _ _) (pass00 (C.blk _ _ _ _ _))) hs
theorem d_setLcO (C : Ctx X Θ k nf nm gl) (i : Nat) {pos' spos : Pos} {elt : Expr} {scope : Scope} {own : List (Str × Nat)} {ie : Ex} (hi : PI X tg iter (dI Θ E ii)) (hg : ∀ (s : Shared) (H : Hp) (D : Addr) (cl : List (Str × Addr)) (fp : List Addr), Ctx (X.blk s H scope (compEnvC scope cl D X.env) fp) Θ k nf nm gl → PG (X.blk s H scope (compEnvC scope cl D X.env) fp) tg (dG Θ.c.K itg))
    (he : ∀ (s : Shared) (H : Hp) (D : Addr) (cl : List (Str × Addr)) (fp : List Addr), Ctx (X.blk s H scope (compEnvC scope cl D X.env) fp) Θ k nf nm gl → Passes (L2.CX X.prog X.w) (X.blk s H scope (compEnvC scope cl D X.env) fp) E00 → PE (X.blk s H scope (compEnvC scope cl D X.env) fp) elt (dE Θ E00 ie)) (ok : blkC X.N X.env.scope scope own = true := by kernel_rfl) (hN : X.N[i]? = some x := by rfl) (hl : X.env.scope.names.lookup x = some .local := by rfl)
    (hsw : swapsWith (.ListComp elt [⟨tg, iter, [], 0⟩] scope pos) (some (.Name x pos')) spos.line X.env = pure true := by exact sw_true rfl rfl rfl rfl) (hs : ∀ x, foldedSetIterable iter X.env x = pure x := by intro _; rfl) :
    PS X (.Assign [.Name x pos'] (.ListComp elt [⟨tg, iter, [], 0⟩] scope pos) spos) (dS Θ E (.setO i (.lc ie itg ii (own.map (·.2))))) := ps_setLc C.calm C.nd hN hl hsw hi (blkOk_by ok) (fun s H D cl fp => hg s H D cl fp (C.blk _ _ _ _ _)) (fun _ _ _ _ _ => pts_nil) (fun s H D cl fp => he s H D cl fp (C.blk _ _ _ _ _) (pass00 (C.blk _ _ _ _ _))) hs
theorem d_asg (he : PE X e (dE Θ E ia)) (hg : PG X tg (dG Θ.c.K itg)) (hs : swapsWithSole [tg] e pos.line X.env = pure false := by rfl) (hw : swappedStores [tg] e X.env = pure none := by rfl) (h1 : (assignEach [tg] X.env).map (·.2) = [assign tg X.env] := by rfl) :
    PS X (.Assign [tg] e pos) (dS Θ E (.asg itg ia)) := ps_asg he hg hs hw h1
theorem d_par (C : Ctx X Θ k nf nm gl) (i j : Nat) {oi oj : Bool} {y : Str} {px py pt pt2 : Pos} {kt k2 : Nat} (ha : PE X a (dE Θ E ia)) (hb : PE X b (dE Θ E ib)) (hij : i ≠ j := by decide) (hi : X.N[i]? = some x := by rfl) (hj : X.N[j]? = some y := by rfl)
    (hx : X.env.scope.names.lookup x = some .local := by rfl) (hy : X.env.scope.names.lookup y = some .local := by rfl) (hw : swappedStores [.Tuple [.Name x px, .Name y py] kt pt] (.Tuple [a, b] k2 pt2) X.env = pure (some [x, y]) := by rfl)
    (hs : swapsWithSole [.Tuple [.Name x px, .Name y py] kt pt] (.Tuple [a, b] k2 pt2) pos.line X.env = pure false := by rfl) (h1 : starEach [a, b] X.env = (false, eval a X.env) :: starEach [b] X.env := by rfl) (h2 : starEach [b] X.env = (false, eval b X.env) :: starEach [] X.env := by rfl) :
    PS X (.Assign [.Tuple [.Name x px, .Name y py] kt pt] (.Tuple [a, b] k2 pt2) pos) (dS Θ E (.par i j oi oj ia ib)) := ps_par C.calm C.nd hi hj hij hx hy (pa_cons ha (pa_cons hb pa_nil h2) h1) hw hs
theorem d_if {t : Expr} {p q : List Stmt} {it : Tx} {ip iq : Ss} (ht : PT X t (dT Θ E it)) (ha : PSs X p (dSs Θ E ip)) (hb : PSs X q (dSs Θ E iq)) : PS X (.If t p q pos) (dS Θ E (.ife it ip iq)) := ps_if ht ha hb
theorem d_ret (he : PE X e (dE Θ E ia)) : PS X (.Return (some e) pos) (dS Θ E (.ret ia)) := ps_ret he
theorem d_retN : PS X (.Return none pos) (dS Θ E .retN) := ps_retN
theorem d_whl {t : Expr} {it : Tx} (hp : PassesOwn (model X.prog X.w) X.A X.env X.xe) (ht : PT X t (dT Θ E it)) (hb : PSs X sts (dSs Θ E iss)) : PS X (.While t sts [] pos) (dS Θ E (.whl it iss)) := ps_while hp ht hb
theorem d_for (C : Ctx X Θ k nf nm gl) (hp : PassesOwn (model X.prog X.w) X.A X.env X.xe) (hi : PI X tg iter (dI Θ E ii)) (hg : PG X tg (dG Θ.c.K itg)) (hb : PSs X sts (dSs Θ E iss)) (hs : ∀ x, foldedSetIterable iter X.env x = pure x := by intro _; rfl) :
    PS X (.For tg iter sts [] pos) (dS Θ E (.fr itg ii iss)) := ps_for hp C.calm hi hg hb hs
/-- xs.append(e) -/
theorem d_app (C : Ctx X Θ k nf nm gl) (i : Nat) {px : Pos} (ha : PE X e (dE Θ E ia)) (hN : X.N[i]? = some x := by rfl) (hv : Vis X.env.scope x := by first | exact Or.inl rfl | exact Or.inr (Or.inl rfl)) (hd : (x == ("__debug__" : Str)) = false := by decide) (hcd : (x == ("__classdict__" : Str)) = false := by decide)
    (hbase : attributeBase (.Name x px) "append" X.env (eval (.Name x px) X.env) = eval (.Name x px) X.env := by rfl)
    (hfew : ((backTo pos (starEach [e] X.env)).all (fun x => !x.1) && (backToKw pos (keywordEach [] X.env)).all (fun x => x.1.isSome) && decide ([e].length + ([] : List Keyword).length + (if ([] : List Keyword).isEmpty then 0 else 1) < 30)) = true := by rfl)
    (hline : (apos.endLine == pos.line) = true := by rfl) (hs : starEach [e] X.env = (false, eval e X.env) :: starEach [] X.env := by rfl) (hpl : (backTo pos (starEach [] X.env)).any (·.1) = false := by rfl) {spos : Pos}
    (hsw : swapsWith (.Call (.Attribute (.Name x px) "append" apos) [e] [] pos) none spos.line X.env = pure false := by rfl) :
    PS X (.Expr (.Call (.Attribute (.Name x px) "append" apos) [e] [] pos) spos) (dS Θ E (.app i ia)) := by
  have q := pe_bm PySem.F.plainAttrs_list PySem.F.slot_list_append PySem.F.type_list_append (mt_append (X := X)) (pe_var (pos := px) hN hv hd hcd) (pa_cons ha pa_nil hs) hbase hfew hline hs hpl
  rw [C.K] at q
  exact ps_expr q hsw
end
end G

/-! The forms of the law's defs (printed by wip/tools/gen.py), what they reckon. -/
namespace G
open PySem PySem.Spec PyProof.Rows L2
/-- is_number -/
def ir0 : Ss := (.cons (.ret (.andV (.isi "int" (.var 0)) (.notV (.isi "bool" (.var 0))))) .nil)
/-- greatest_divisor -/
def ir1 : Ss := (.cons (.whl (.val (.op2 .neD (.var 1) (.lit (.int 0)))) (.cons (.par 0 1 false false (.var 1) (.op2 .modI (.var 0) (.var 1))) .nil)) (.cons (.ret (.blt .abs (.var 0))) .nil))
/-- is_sized -/
def ir2 : Ss := (.cons (.ret (.andV (.isi "tuple" (.var 0)) (.op2 .eqD (.blt .lenQ (.var 0)) (.var 1)))) .nil)
/-- is_tuple_of -/
def ir3 : Ss := (.cons (.ret (.andV (.isi "tuple" (.var 0)) (.blt .allB (.lc (.callv 1 (.cons (.var 2) .nil)) (.name 2) (.tup (.var 0)) [2])))) .nil)
/-- is_fraction -/
def ir4 : Ss := (.cons (.ife (.or (.not (.val (.call 2 (.cons (.var 0) (.cons (.lit (.int 2)) .nil))))) (.or (.not (.val (.call 0 (.cons (.op2 .ixT (.var 0) (.lit (.int 0))) .nil)))) (.not (.val (.call 0 (.cons (.op2 .ixT (.var 0) (.lit (.int 1))) .nil)))))) (.cons (.ret (.lit (.bool false))) .nil) .nil) (.cons (.ret (.andV (.op2 .geI (.op2 .ixT (.var 0) (.lit (.int 1))) (.lit (.int 1))) (.op2 .eqD (.call 1 (.cons (.op2 .ixT (.var 0) (.lit (.int 0))) (.cons (.op2 .ixT (.var 0) (.lit (.int 1))) .nil))) (.lit (.int 1))))) .nil))
/-- is_poly -/
def ir5 : Ss := (.cons (.ret (.andV (.call 3 (.cons (.var 0) (.cons (.fnv 4) .nil))) (.orV (.op2 .eqD (.var 0) (.tup .nil)) (.op2 .neD (.op2 .ixT (.op2 .ixT (.var 0) (.neg (.lit (.int 1)))) (.lit (.int 0))) (.lit (.int 0)))))) .nil)
/-- is_root_form -/
def ir6 : Ss := (.cons (.ife (.or (.not (.val (.call 2 (.cons (.var 0) (.cons (.lit (.int 3)) .nil))))) (.or (.not (.val (.call 5 (.cons (.op2 .ixT (.var 0) (.lit (.int 0))) .nil)))) (.val (.op2 .ltI (.blt .lenQ (.op2 .ixT (.var 0) (.lit (.int 0)))) (.lit (.int 3)))))) (.cons (.ret (.lit (.bool false))) .nil) .nil) (.cons (.ife (.not (.val (.blt .allB (.lc (.op2 .eqD (.op2 .ixT (.var 1) (.lit (.int 1))) (.lit (.int 1))) (.name 1) (.tup (.op2 .ixT (.var 0) (.lit (.int 0)))) [1])))) (.cons (.ret (.lit (.bool false))) .nil) .nil) (.cons (.ife (.or (.not (.val (.call 4 (.cons (.op2 .ixT (.var 0) (.lit (.int 1))) .nil)))) (.not (.val (.call 4 (.cons (.op2 .ixT (.var 0) (.lit (.int 2))) .nil))))) (.cons (.ret (.lit (.bool false))) .nil) .nil) (.cons (.ret (.op2 .ltI (.op2 .mulI (.op2 .ixT (.op2 .ixT (.var 0) (.lit (.int 1))) (.lit (.int 0))) (.op2 .ixT (.op2 .ixT (.var 0) (.lit (.int 2))) (.lit (.int 1)))) (.op2 .mulI (.op2 .ixT (.op2 .ixT (.var 0) (.lit (.int 2))) (.lit (.int 0))) (.op2 .ixT (.op2 .ixT (.var 0) (.lit (.int 1))) (.lit (.int 1)))))) .nil))))
/-- is_moment_form -/
def ir7 : Ss := (.cons (.ret (.orV (.call 4 (.cons (.var 0) .nil)) (.call 6 (.cons (.var 0) .nil)))) .nil)
/-- is_flag -/
def ir8 : Ss := (.cons (.ret (.andV (.call 0 (.cons (.var 0) .nil)) (.op2 .inFl (.var 0) (.tup (.cons (.lit (.int 0)) (.cons (.lit (.int 1)) .nil)))))) .nil)
/-- is_stretch_form -/
def ir9 : Ss := (.cons (.ife (.or (.not (.val (.call 2 (.cons (.var 0) (.cons (.lit (.int 4)) .nil))))) (.or (.not (.val (.call 7 (.cons (.op2 .ixT (.var 0) (.lit (.int 0))) .nil)))) (.or (.not (.val (.call 8 (.cons (.op2 .ixT (.var 0) (.lit (.int 1))) .nil)))) (.not (.val (.call 8 (.cons (.op2 .ixT (.var 0) (.lit (.int 3))) .nil))))))) (.cons (.ret (.lit (.bool false))) .nil) .nil) (.cons (.ret (.ite (.val (.op2 .isN (.op2 .ixT (.var 0) (.lit (.int 2))) (.lit .none))) (.op2 .eqD (.op2 .ixT (.var 0) (.lit (.int 3))) (.lit (.int 0))) (.call 7 (.cons (.op2 .ixT (.var 0) (.lit (.int 2))) .nil)))) .nil))
/-- fraction_text -/
def ir10 : Ss := (.cons (.ret (.ite (.val (.op2 .eqD (.op2 .ixT (.var 0) (.lit (.int 1))) (.lit (.int 1)))) (.blt .strI (.op2 .ixT (.var 0) (.lit (.int 0)))) (.op2 .addS (.op2 .addS (.blt .strI (.op2 .ixT (.var 0) (.lit (.int 0)))) (.lit (.str ⟨#[47]⟩))) (.blt .strI (.op2 .ixT (.var 0) (.lit (.int 1))))))) .nil)
/-- moment_text -/
def ir11 : Ss := (.cons (.ife (.val (.call 4 (.cons (.var 0) .nil))) (.cons (.ret (.call 10 (.cons (.var 0) .nil))) .nil) .nil) (.cons (.asg (.tup (.cons (.name 1) (.cons (.name 2) (.cons (.name 3) .nil)))) (.var 0)) (.cons (.set 4 (.join (.lit (.str ⟨#[32]⟩)) (.lc (.call 10 (.cons (.var 5) .nil)) (.name 5) (.tup (.var 1)) [5]))) (.cons (.ret (.op2 .addS (.op2 .addS (.op2 .addS (.op2 .addS (.op2 .addS (.op2 .addS (.lit (.str ⟨#[114, 111, 111, 116, 40]⟩)) (.var 4)) (.lit (.str ⟨#[44, 32]⟩))) (.call 10 (.cons (.var 2) .nil))) (.lit (.str ⟨#[44, 32]⟩))) (.call 10 (.cons (.var 3) .nil))) (.lit (.str ⟨#[41]⟩)))) .nil))))
/-- digits_in -/
def ir12 : Ss := (.cons (.ife (.or (.not (.val (.chain .leI .leI (.lit (.int 1)) (.blt .lenS (.var 0)) (.lit (.int 1000))))) (.not (.val (.blt .allB (.lc (.op2 .inSg (.var 1) (.lit (.str ⟨#[48, 49, 50, 51, 52, 53, 54, 55, 56, 57]⟩))) (.name 1) (.str (.var 0)) [1]))))) (.cons (.ret (.lit .none)) .nil) .nil) (.cons (.ret (.ite (.and (.val (.op2 .eqD (.op2 .ixS (.var 0) (.lit (.int 0))) (.lit (.str ⟨#[48]⟩)))) (.val (.op2 .neD (.var 0) (.lit (.str ⟨#[48]⟩))))) (.lit .none) (.blt .intS (.var 0)))) .nil))
/-- number_in -/
def ir13 : Ss := (.cons (.ife (.val (.op2 .neD (.sl .str (.var 0) .nil (.cons (.lit (.int 1)) .nil)) (.lit (.str ⟨#[45]⟩)))) (.cons (.ret (.call 12 (.cons (.var 0) .nil))) .nil) .nil) (.cons (.set 1 (.call 12 (.cons (.sl .str (.var 0) (.cons (.lit (.int 1)) .nil) .nil) .nil))) (.cons (.ret (.ite (.or (.val (.op2 .isN (.var 1) (.lit .none))) (.val (.op2 .eqD (.var 1) (.lit (.int 0))))) (.lit .none) (.neg (.var 1)))) .nil)))
/-- fraction_in -/
def ir14 : Ss := (.cons (.set 1 (.split (.var 0) (.lit (.str ⟨#[47]⟩)))) (.cons (.set 2 (.call 13 (.cons (.op2 .ixL (.var 1) (.lit (.int 0))) .nil))) (.cons (.set 3 (.ite (.val (.op2 .eqD (.blt .lenQ (.var 1)) (.lit (.int 1)))) (.lit (.int 1)) (.ite (.val (.op2 .eqD (.blt .lenQ (.var 1)) (.lit (.int 2)))) (.call 12 (.cons (.op2 .ixL (.var 1) (.lit (.int 1))) .nil)) (.lit .none)))) (.cons (.ife (.or (.val (.op2 .isN (.var 2) (.lit .none))) (.or (.val (.op2 .isN (.var 3) (.lit .none))) (.or (.and (.val (.op2 .eqD (.blt .lenQ (.var 1)) (.lit (.int 2)))) (.val (.op2 .eqD (.var 3) (.lit (.int 1))))) (.not (.val (.call 4 (.cons (.tup (.cons (.var 2) (.cons (.var 3) .nil))) .nil))))))) (.cons (.ret (.lit .none)) .nil) .nil) (.cons (.ret (.tup (.cons (.var 2) (.cons (.var 3) .nil)))) .nil)))))
/-- fractions_in -/
def ir15 : Ss := (.cons (.set 1 (.blt .tupL (.lc (.call 14 (.cons (.var 2) .nil)) (.name 2) (.list (.var 0)) [2]))) (.cons (.ret (.ite (.val (.op2 .inTd (.lit .none) (.var 1))) (.lit .none) (.var 1))) .nil))
/-- one_line -/
def ir16 : Ss := (.cons (.set 2 (.split (.var 0) (.lit (.str ⟨#[10]⟩)))) (.cons (.set 3 (.callv 1 (.cons (.op2 .ixL (.var 2) (.lit (.int 0))) .nil))) (.cons (.ife (.val (.op2 .isN (.var 3) (.lit .none))) (.cons (.rse (.lit (.int 1)) (.lit (.int 1))) .nil) .nil) (.cons (.ife (.val (.op2 .gtI (.blt .lenQ (.var 2)) (.lit (.int 1)))) (.cons (.rse (.lit (.int 2)) (.lit (.int 1))) .nil) .nil) (.cons (.ret (.var 3)) .nil)))))
/-- moment_in -/
def ir17 : Ss := (.cons (.ife (.val (.op2 .neD (.sl .str (.var 0) .nil (.cons (.lit (.int 5)) .nil)) (.lit (.str ⟨#[114, 111, 111, 116, 40]⟩)))) (.cons (.ret (.call 14 (.cons (.var 0) .nil))) .nil) .nil) (.cons (.set 1 (.split (.sl .str (.var 0) (.cons (.lit (.int 5)) .nil) (.cons (.neg (.lit (.int 1))) .nil)) (.lit (.str ⟨#[44, 32]⟩)))) (.cons (.ife (.or (.val (.op2 .neD (.blt .lenQ (.var 1)) (.lit (.int 3)))) (.val (.op2 .neD (.op2 .ixS (.var 0) (.neg (.lit (.int 1)))) (.lit (.str ⟨#[41]⟩))))) (.cons (.ret (.lit .none)) .nil) .nil) (.cons (.set 2 (.tup (.cons (.call 15 (.cons (.split (.op2 .ixL (.var 1) (.lit (.int 0))) (.lit (.str ⟨#[32]⟩))) .nil)) (.cons (.call 14 (.cons (.op2 .ixL (.var 1) (.lit (.int 1))) .nil)) (.cons (.call 14 (.cons (.op2 .ixL (.var 1) (.lit (.int 2))) .nil)) .nil))))) (.cons (.ife (.or (.val (.op2 .inTd (.lit .none) (.var 2))) (.not (.val (.call 7 (.cons (.var 2) .nil))))) (.cons (.ret (.lit .none)) .nil) .nil) (.cons (.ret (.ite (.val (.op2 .eqD (.call 11 (.cons (.var 2) .nil)) (.var 0))) (.var 2) (.lit .none))) .nil))))))
/-- stretch_text -/
def ir18 : Ss := (.cons (.asg (.tup (.cons (.name 1) (.cons (.name 2) (.cons (.name 3) (.cons (.name 4) .nil))))) (.var 0)) (.cons (.set 5 (.op2 .addS (.ite (.val (.op2 .eqD (.var 2) (.lit (.int 1)))) (.lit (.str ⟨#[91]⟩)) (.lit (.str ⟨#[40]⟩))) (.call 11 (.cons (.var 1) .nil)))) (.cons (.ret (.op2 .addS (.op2 .addS (.op2 .addS (.var 5) (.lit (.str ⟨#[44, 32]⟩))) (.ite (.val (.op2 .isN (.var 3) (.lit .none))) (.lit (.str ⟨#[110, 111, 110, 101]⟩)) (.call 11 (.cons (.var 3) .nil)))) (.ite (.val (.op2 .eqD (.var 4) (.lit (.int 1)))) (.lit (.str ⟨#[93]⟩)) (.lit (.str ⟨#[41]⟩))))) .nil)))
/-- span_text -/
def ir19 : Ss := (.cons (.setO 1 (.lc (.call 18 (.cons (.var 2) .nil)) (.name 2) (.tup (.op2 .ixT (.var 0) (.lit (.int 0)))) [2])) (.cons (.ife (.val (.op2 .ntN (.op2 .ixT (.var 0) (.lit (.int 1))) (.lit .none))) (.cons (.app 1 (.op2 .addS (.op2 .addS (.op2 .addS (.lit (.str ⟨#[114, 111, 117, 110, 100, 32]⟩)) (.call 10 (.cons (.op2 .ixT (.op2 .ixT (.var 0) (.lit (.int 1))) (.lit (.int 0))) .nil))) (.lit (.str ⟨#[32]⟩))) (.call 10 (.cons (.op2 .ixT (.op2 .ixT (.var 0) (.lit (.int 1))) (.lit (.int 1))) .nil)))) .nil) .nil) (.frz 1 (.cons (.ret (.join (.lit (.str ⟨#[10]⟩)) (.var 1))) .nil))))
/-- clock_text -/
def ir20 : Ss := (.cons (.set 1 (.lc (.op2 .addS (.op2 .addS (.op2 .addS (.call 10 (.cons (.var 2) .nil)) (.lit (.str ⟨#[32]⟩))) (.call 10 (.cons (.var 3) .nil))) (.lit (.str ⟨#[59, 32]⟩))) (.tup (.cons (.name 2) (.cons (.name 3) .nil))) (.tup (.op2 .ixT (.var 0) (.lit (.int 0)))) [2, 3])) (.cons (.ret (.op2 .addS (.op2 .addS (.join (.lit (.str ⟨#[]⟩)) (.var 1)) (.lit (.str ⟨#[114, 97, 116, 101, 32]⟩))) (.call 10 (.cons (.op2 .ixT (.var 0) (.lit (.int 1))) .nil)))) .nil))
/-- event_line -/
def ir21 : Ss := (.cons (.ret (.op2 .addS (.call 11 (.cons (.op2 .ixT (.var 0) (.lit (.int 0))) .nil)) (.join (.lit (.str ⟨#[]⟩)) (.lc (.op2 .addS (.op2 .addS (.op2 .addS (.lit (.str ⟨#[44, 32]⟩)) (.var 1)) (.lit (.str ⟨#[32]⟩))) (.var 2)) (.tup (.cons (.name 1) (.cons (.name 2) (.cons (.name 3) .nil)))) (.tup (.op2 .ixT (.var 0) (.lit (.int 1)))) [1, 2, 3])))) .nil)
/-- events_text -/
def ir22 : Ss := (.cons (.ret (.join (.lit (.str ⟨#[10]⟩)) (.lc (.call 21 (.cons (.var 1) .nil)) (.name 1) (.tup (.var 0)) [1]))) .nil)
/-- cut_moment -/
def ir23 : Ss := (.cons (.set 1 (.ite (.val (.op2 .eqD (.sl .str (.var 0) .nil (.cons (.lit (.int 5)) .nil)) (.lit (.str ⟨#[114, 111, 111, 116, 40]⟩)))) (.op2 .addI (.find (.var 0) (.lit (.str ⟨#[41]⟩))) (.lit (.int 1))) (.lit (.int 0)))) (.cons (.set 2 (.find3 (.var 0) (.lit (.str ⟨#[44, 32]⟩)) (.var 1))) (.cons (.ret (.ite (.val (.op2 .ltI (.var 2) (.lit (.int 0)))) (.lit .none) (.tup (.cons (.sl .str (.var 0) .nil (.cons (.var 2) .nil)) (.cons (.sl .str (.var 0) (.cons (.op2 .addI (.var 2) (.lit (.int 2))) .nil) .nil) .nil))))) .nil)))
/-- stretch_in -/
def ir24 : Ss := (.cons (.ife (.or (.val (.op2 .niFl (.sl .str (.var 0) .nil (.cons (.lit (.int 1)) .nil)) (.tup (.cons (.lit (.str ⟨#[91]⟩)) (.cons (.lit (.str ⟨#[40]⟩)) .nil))))) (.val (.op2 .niFl (.sl .str (.var 0) (.cons (.neg (.lit (.int 1))) .nil) .nil) (.tup (.cons (.lit (.str ⟨#[93]⟩)) (.cons (.lit (.str ⟨#[41]⟩)) .nil)))))) (.cons (.ret (.lit .none)) .nil) .nil) (.cons (.set 1 (.call 23 (.cons (.sl .str (.var 0) (.cons (.lit (.int 1)) .nil) (.cons (.neg (.lit (.int 1))) .nil)) .nil))) (.cons (.ife (.val (.op2 .isN (.var 1) (.lit .none))) (.cons (.ret (.lit .none)) .nil) .nil) (.cons (.par 2 3 false false (.call 17 (.cons (.op2 .ixT (.var 1) (.lit (.int 0))) .nil)) (.ite (.val (.op2 .eqD (.op2 .ixT (.var 1) (.lit (.int 1))) (.lit (.str ⟨#[110, 111, 110, 101]⟩)))) (.lit .none) (.call 17 (.cons (.op2 .ixT (.var 1) (.lit (.int 1))) .nil)))) (.cons (.ife (.or (.val (.op2 .isN (.var 2) (.lit .none))) (.and (.val (.op2 .isN (.var 3) (.lit .none))) (.val (.op2 .neD (.op2 .ixT (.var 1) (.lit (.int 1))) (.lit (.str ⟨#[110, 111, 110, 101]⟩)))))) (.cons (.ret (.lit .none)) .nil) .nil) (.cons (.set 4 (.tup (.cons (.var 2) (.cons (.blt .intB (.op2 .eqD (.op2 .ixS (.var 0) (.lit (.int 0))) (.lit (.str ⟨#[91]⟩)))) (.cons (.var 3) (.cons (.blt .intB (.op2 .eqD (.op2 .ixS (.var 0) (.neg (.lit (.int 1)))) (.lit (.str ⟨#[93]⟩)))) .nil)))))) (.cons (.ret (.ite (.val (.call 9 (.cons (.var 4) .nil))) (.var 4) (.lit .none))) .nil)))))))
/-- read_stretch -/
def ir25 : Ss := (.cons (.ret (.call 16 (.cons (.var 0) (.cons (.fnv 24) .nil)))) .nil)
/-- round_in -/
def ir26 : Ss := (.cons (.set 1 (.split (.var 0) (.lit (.str ⟨#[32]⟩)))) (.cons (.ret (.ite (.and (.val (.op2 .eqD (.blt .lenQ (.var 1)) (.lit (.int 3)))) (.val (.op2 .eqD (.op2 .ixL (.var 1) (.lit (.int 0))) (.lit (.str ⟨#[114, 111, 117, 110, 100]⟩))))) (.call 15 (.cons (.sl .lst (.var 1) (.cons (.lit (.int 1)) .nil) .nil) .nil)) (.lit .none))) .nil))
/-- read_span -/
def ir27 : Ss := (.cons (.par 1 2 true false (.lst .nil) (.lit .none)) (.cons (.fr (.tup (.cons (.name 3) (.cons (.name 4) .nil))) (.enum (.ite (.val (.op2 .neD (.var 0) (.lit (.str ⟨#[]⟩)))) (.split (.var 0) (.lit (.str ⟨#[10]⟩))) (.lst .nil))) (.cons (.ife (.val (.op2 .ntN (.var 2) (.lit .none))) (.cons (.rse (.op2 .addI (.var 3) (.lit (.int 1))) (.lit (.int 1))) .nil) .nil) (.cons (.par 5 2 false false (.call 24 (.cons (.var 4) .nil)) (.call 26 (.cons (.var 4) .nil))) (.cons (.ife (.and (.val (.op2 .isN (.var 5) (.lit .none))) (.val (.op2 .isN (.var 2) (.lit .none)))) (.cons (.rse (.op2 .addI (.var 3) (.lit (.int 1))) (.lit (.int 1))) .nil) .nil) (.cons (.ife (.val (.op2 .ntN (.var 5) (.lit .none))) (.cons (.app 1 (.var 5)) .nil) .nil) .nil))))) (.frz 1 (.cons (.ret (.tup (.cons (.blt .tupL (.var 1)) (.cons (.var 2) .nil)))) .nil))))
/-- clock_in -/
def ir28 : Ss := (.cons (.set 1 (.lc (.split (.var 2) (.lit (.str ⟨#[32]⟩))) (.name 2) (.list (.split (.var 0) (.lit (.str ⟨#[59, 32]⟩)))) [2])) (.cons (.par 3 4 false false (.lc (.call 15 (.cons (.var 5) .nil)) (.name 5) (.list (.sl .lst (.var 1) .nil (.cons (.neg (.lit (.int 1))) .nil))) [5]) (.call 15 (.cons (.sl .lst (.op2 .ixL (.var 1) (.neg (.lit (.int 1)))) (.cons (.lit (.int 1)) .nil) .nil) .nil))) (.cons (.ife (.or (.val (.op2 .eqD (.var 3) (.lst .nil))) (.or (.val (.op2 .inLd (.lit .none) (.var 3))) (.or (.val (.op2 .isN (.var 4) (.lit .none))) (.or (.val (.op2 .neD (.op2 .ixL (.op2 .ixL (.var 1) (.neg (.lit (.int 1)))) (.lit (.int 0))) (.lit (.str ⟨#[114, 97, 116, 101]⟩)))) (.val (.op2 .neD (.blt .lenQ (.var 4)) (.lit (.int 1)))))))) (.cons (.ret (.lit .none)) .nil) .nil) (.cons (.ife (.not (.val (.blt .allB (.lc (.op2 .eqD (.blt .lenQ (.var 6)) (.lit (.int 2))) (.name 6) (.list (.var 3)) [6])))) (.cons (.ret (.lit .none)) .nil) .nil) (.cons (.ret (.tup (.cons (.blt .tupL (.var 3)) (.cons (.op2 .ixT (.var 4) (.lit (.int 0))) .nil)))) .nil)))))
/-- read_clock -/
def ir29 : Ss := (.cons (.ret (.call 16 (.cons (.var 0) (.cons (.fnv 28) .nil)))) .nil)
/-- _law_take -/
def ir31 : Ss := (.cons (.ife (.val (.op2 .eqD (.bget 0 0) (.lit (.int 0)))) (.cons (.set 2 (.op2 .ixL (.op2 .catL (.sl .lst (.bget 0 3) (.cons (.bget 0 2) .nil) .nil) (.lst (.cons (.lit (.int 0)) .nil))) (.lit (.int 0)))) (.cons (.bset 0 2 (.op2 .addI (.bget 0 2) (.lit (.int 1)))) (.cons (.ife (.val (.op2 .geI (.var 2) (.lit (.int 1000000000000000000)))) (.cons (.bset 0 0 (.var 2)) .nil) .nil) (.cons (.set 3 (.op2 .addI (.op2 .addI (.op2 .mulI (.bget 0 1) (.lit (.int 48271))) (.op2 .modI (.blt .intI (.var 2)) (.lit (.int 2147483647)))) (.op2 .mulI (.lit (.int 7919)) (.bget 0 2)))) (.cons (.bset 0 1 (.op2 .modI (.blt .intI (.var 3)) (.lit (.int 2147483647)))) .nil))))) .nil) (.cons (.ife (.val (.op2 .gtI (.bget 0 0) (.lit (.int 0)))) (.cons (.set 4 (.op2 .modI (.blt .intI (.bget 0 0)) (.var 1))) (.cons (.bset 0 0 (.op2 .divI (.blt .intI (.bget 0 0)) (.var 1))) (.cons (.ret (.var 4)) .nil))) .nil) (.cons (.set 5 (.op2 .modI (.blt .intI (.op2 .mulI (.op2 .addI (.bget 0 1) (.lit (.int 1))) (.lit (.int 39373)))) (.lit (.int 1000000007)))) (.cons (.set 6 (.op2 .modI (.blt .intI (.op2 .mulI (.op2 .modI (.blt .intI (.op2 .mulI (.var 5) (.var 5))) (.lit (.int 998244353))) (.lit (.int 30011)))) (.lit (.int 998244353)))) (.cons (.ret (.op2 .modI (.blt .intI (.op2 .divI (.var 6) (.lit (.int 7)))) (.var 1))) .nil)))))
/-- _law_some -/
def ir32 : Ss := (.cons (.ret (.op2 .ixL (.var 1) (.call 31 (.cons (.var 0) (.cons (.blt .lenQ (.var 1)) .nil))))) .nil)
/-- _law_gcd -/
def ir34 : Ss := (.cons (.whl (.val (.op2 .neD (.var 1) (.lit (.int 0)))) (.cons (.par 0 1 false false (.var 1) (.op2 .modI (.var 0) (.var 1))) .nil)) (.cons (.ret (.blt .abs (.var 0))) .nil))
/-- _law_fraction -/
def ir35 : Ss := (.cons (.ife (.val (.op2 .ltI (.var 1) (.lit (.int 0)))) (.cons (.par 0 1 false false (.neg (.var 0)) (.neg (.var 1))) .nil) .nil) (.cons (.set 2 (.call 34 (.cons (.var 0) (.cons (.var 1) .nil)))) (.cons (.ret (.tup (.cons (.op2 .divI (.var 0) (.var 2)) (.cons (.op2 .divI (.var 1) (.var 2)) .nil)))) .nil)))
/-- _law_plus -/
def ir36 : Ss := (.cons (.ret (.call 35 (.cons (.op2 .addI (.op2 .mulI (.op2 .ixT (.var 0) (.lit (.int 0))) (.op2 .ixT (.var 1) (.lit (.int 1)))) (.op2 .mulI (.op2 .ixT (.var 1) (.lit (.int 0))) (.op2 .ixT (.var 0) (.lit (.int 1))))) (.cons (.op2 .mulI (.op2 .ixT (.var 0) (.lit (.int 1))) (.op2 .ixT (.var 1) (.lit (.int 1)))) .nil)))) .nil)
/-- _law_frac_text -/
def ir37 : Ss := (.cons (.ret (.ite (.val (.op2 .eqD (.op2 .ixT (.var 0) (.lit (.int 1))) (.lit (.int 1)))) (.blt .strI (.op2 .ixT (.var 0) (.lit (.int 0)))) (.op2 .addS (.op2 .addS (.blt .strI (.op2 .ixT (.var 0) (.lit (.int 0)))) (.lit (.str ⟨#[47]⟩))) (.blt .strI (.op2 .ixT (.var 0) (.lit (.int 1))))))) .nil)
/-- _law_words -/
def ir38 : Ss := (.cons (.ret (.join (.lit (.str ⟨#[32]⟩)) (.lc (.ite (.val (.isi "tuple" (.var 1))) (.call 37 (.cons (.var 1) .nil)) (.var 1)) (.name 1) (.tup (.var 0)) [1]))) .nil)
/-- _law_moment_text -/
def ir39 : Ss := (.cons (.ife (.val (.op2 .eqD (.blt .lenQ (.var 0)) (.lit (.int 2)))) (.cons (.ret (.call 37 (.cons (.var 0) .nil))) .nil) .nil) (.cons (.ret (.op2 .addS (.op2 .addS (.lit (.str ⟨#[114, 111, 111, 116, 40]⟩)) (.join (.lit (.str ⟨#[44, 32]⟩)) (.lst (.cons (.call 38 (.cons (.op2 .ixT (.var 0) (.lit (.int 0))) .nil)) (.cons (.call 37 (.cons (.op2 .ixT (.var 0) (.lit (.int 1))) .nil)) (.cons (.call 37 (.cons (.op2 .ixT (.var 0) (.lit (.int 2))) .nil)) .nil)))))) (.lit (.str ⟨#[41]⟩)))) .nil))
/-- _law_moment -/
def ir40 : Ss := (.cons (.set 2 (.tup (.cons (.tup (.cons (.neg (.lit (.int 2))) (.cons (.lit (.int 1)) .nil))) (.cons (.tup (.cons (.lit (.int 0)) (.cons (.lit (.int 1)) .nil))) (.cons (.tup (.cons (.lit (.int 1)) (.cons (.lit (.int 1)) .nil))) .nil))))) (.cons (.ret (.call 32 (.cons (.var 0) (.cons (.lst (.cons (.tup (.cons (.var 1) (.cons (.lit (.int 1)) .nil))) (.cons (.tup (.cons (.op2 .addI (.op2 .mulI (.lit (.int 2)) (.var 1)) (.lit (.int 1))) (.cons (.lit (.int 2)) .nil))) (.cons (.tup (.cons (.var 2) (.cons (.tup (.cons (.lit (.int 1)) (.cons (.lit (.int 1)) .nil))) (.cons (.tup (.cons (.lit (.int 3)) (.cons (.lit (.int 2)) .nil))) .nil)))) (.cons (.tup (.cons (.tup (.cons (.tup (.cons (.neg (.lit (.int 3))) (.cons (.lit (.int 1)) .nil))) (.cons (.tup (.cons (.lit (.int 1)) (.cons (.lit (.int 1)) .nil))) (.cons (.tup (.cons (.lit (.int 2)) (.cons (.lit (.int 1)) .nil))) .nil)))) (.cons (.tup (.cons (.lit (.int 1)) (.cons (.lit (.int 3)) .nil))) (.cons (.tup (.cons (.lit (.int 7)) (.cons (.lit (.int 2)) .nil))) .nil)))) (.cons (.tup (.cons (.var 1) (.cons (.lit (.int 1)) .nil))) .nil)))))) .nil)))) .nil))
/-- _law_one -/
def ir41 : Ss := (.cons (.set 2 (.call 32 (.cons (.var 0) (.cons (.lst (.cons (.lit .none) (.cons (.call 40 (.cons (.var 0) (.cons (.op2 .addI (.var 1) (.lit (.int 1))) .nil))) (.cons (.call 40 (.cons (.var 0) (.cons (.var 1) .nil))) .nil)))) .nil)))) (.cons (.ret (.tup (.cons (.call 40 (.cons (.var 0) (.cons (.var 1) .nil))) (.cons (.call 31 (.cons (.var 0) (.cons (.lit (.int 2)) .nil))) (.cons (.var 2) (.cons (.ite (.val (.op2 .isN (.var 2) (.lit .none))) (.lit (.int 0)) (.call 31 (.cons (.var 0) (.cons (.lit (.int 2)) .nil)))) .nil)))))) .nil))
/-- _law_line -/
def ir42 : Ss := (.cons (.asg (.tup (.cons (.name 1) (.cons (.name 2) (.cons (.name 3) (.cons (.name 4) .nil))))) (.var 0)) (.cons (.set 5 (.ite (.val (.op2 .isN (.var 3) (.lit .none))) (.lit (.str ⟨#[110, 111, 110, 101]⟩)) (.call 39 (.cons (.var 3) .nil)))) (.cons (.ret (.op2 .addS (.op2 .addS (.op2 .addS (.op2 .addS (.op2 .ixS (.lit (.str ⟨#[40, 91]⟩)) (.var 2)) (.call 39 (.cons (.var 1) .nil))) (.lit (.str ⟨#[44, 32]⟩))) (.var 5)) (.op2 .ixS (.lit (.str ⟨#[41, 93]⟩)) (.var 4)))) .nil)))
/-- law -/
def ir44 : Ss := (.cons (.set 2 (.lst (.cons (.lit (.str ⟨#[91, 48, 44, 32, 49]⟩)) (.cons (.lit (.str ⟨#[123, 48, 44, 32, 49, 93]⟩)) (.cons (.lit (.str ⟨#[91, 48, 32, 44, 32, 49, 93]⟩)) (.cons (.lit (.str ⟨#[91, 48, 44, 32, 110, 111, 110, 101, 93]⟩)) (.cons (.lit (.str ⟨#[91, 50, 47, 52, 44, 32, 49, 93]⟩)) (.cons (.lit (.str ⟨#[40, 48, 44, 49, 41]⟩)) (.cons (.lit (.str ⟨#[114, 111, 117, 110, 100, 32, 49]⟩)) (.cons (.lit (.str ⟨#[114, 111, 117, 110, 100, 32, 48, 32, 50, 47, 52]⟩)) (.cons (.lit (.str ⟨#[]⟩)) (.cons (.lit (.str ⟨#[32, 91, 48, 44, 32, 49, 93]⟩)) (.cons (.lit (.str ⟨#[91, 48, 44, 32, 49, 93, 32]⟩)) (.cons (.lit (.str ⟨#[91, 48, 49, 44, 32, 50, 93]⟩)) (.cons (.lit (.str ⟨#[91, 48, 44, 32, 49, 44, 32, 50, 93]⟩)) (.cons (.lit (.str ⟨#[91, 114, 111, 111, 116, 40, 45, 50, 32, 48, 44, 32, 49, 44, 32, 50, 41, 44, 32, 51, 93]⟩)) .nil)))))))))))))))) (.cons (.fr (.name 3) (.range (.lit (.int 4))) (.cons (.set 4 (.blt .tupL (.lc (.call 41 (.cons (.var 1) (.cons (.var 9) .nil))) (.name 9) (.range (.call 31 (.cons (.var 1) (.cons (.lit (.int 4)) .nil)))) [9]))) (.cons (.set 5 (.call 32 (.cons (.var 1) (.cons (.lst (.cons (.lit .none) (.cons (.tup (.cons (.tup (.cons (.call 31 (.cons (.var 1) (.cons (.lit (.int 5)) .nil))) (.cons (.lit (.int 1)) .nil))) (.cons (.tup (.cons (.op2 .addI (.lit (.int 1)) (.call 31 (.cons (.var 1) (.cons (.lit (.int 3)) .nil)))) (.cons (.ite (.val (.op2 .eqD (.call 31 (.cons (.var 1) (.cons (.lit (.int 2)) .nil))) (.lit (.int 0)))) (.lit (.int 2)) (.lit (.int 5))) .nil))) .nil))) .nil))) .nil)))) (.cons (.set 5 (.ite (.val (.op2 .isN (.var 5) (.lit .none))) (.lit .none) (.tup (.cons (.op2 .ixT (.var 5) (.lit (.int 0))) (.cons (.call 35 (.cons (.op2 .ixT (.op2 .ixT (.var 5) (.lit (.int 1))) (.lit (.int 0))) (.cons (.op2 .ixT (.op2 .ixT (.var 5) (.lit (.int 1))) (.lit (.int 1))) .nil))) .nil))))) (.cons (.set 6 (.lc (.call 42 (.cons (.var 13) .nil)) (.name 13) (.tup (.var 4)) [13])) (.cons (.set 7 (.op2 .catL (.var 6) (.ite (.val (.op2 .ntN (.var 5) (.lit .none))) (.lst (.cons (.op2 .addS (.op2 .addS (.op2 .addS (.lit (.str ⟨#[114, 111, 117, 110, 100, 32]⟩)) (.call 37 (.cons (.op2 .ixT (.var 5) (.lit (.int 0))) .nil))) (.lit (.str ⟨#[32]⟩))) (.call 37 (.cons (.op2 .ixT (.var 5) (.lit (.int 1))) .nil))) .nil)) (.lst .nil)))) (.cons (.set 8 (.join (.lit (.str ⟨#[10]⟩)) (.var 7))) (.cons (.ife (.not (.val (.call 33 (.cons (.lst (.cons (.call 19 (.cons (.tup (.cons (.var 4) (.cons (.var 5) .nil))) .nil)) (.cons (.call 27 (.cons (.var 8) .nil)) .nil))) (.cons (.lst (.cons (.var 8) (.cons (.tup (.cons (.var 4) (.cons (.var 5) .nil))) .nil))) .nil))))) (.cons (.ret (.lit (.bool false))) .nil) .nil) (.cons (.fr (.tup (.cons (.name 13) (.cons (.name 14) .nil))) (.zip (.var 4) (.var 6)) (.cons (.ife (.or (.not (.val (.call 33 (.cons (.lst (.cons (.call 18 (.cons (.var 13) .nil)) (.cons (.call 25 (.cons (.var 14) .nil)) .nil))) (.cons (.lst (.cons (.var 14) (.cons (.var 13) .nil))) .nil))))) (.or (.not (.val (.call 43 (.cons (.fnv 25) (.cons (.op2 .addS (.var 14) (.lit (.str ⟨#[10]⟩))) (.cons (.lit (.int 2)) .nil)))))) (.not (.val (.call 43 (.cons (.fnv 25) (.cons (.op2 .addS (.op2 .addS (.var 14) (.lit (.str ⟨#[10]⟩))) (.var 14)) (.cons (.lit (.int 2)) .nil)))))))) (.cons (.ret (.lit (.bool false))) .nil) .nil) .nil)) (.cons (.par 15 16 false false (.call 32 (.cons (.var 1) (.cons (.var 2) .nil))) (.call 31 (.cons (.var 1) (.cons (.op2 .addI (.blt .lenQ (.var 6)) (.lit (.int 1))) .nil)))) (.cons (.ife (.and (.val (.op2 .neD (.var 15) (.lit (.str ⟨#[]⟩)))) (.not (.val (.call 43 (.cons (.fnv 27) (.cons (.join (.lit (.str ⟨#[10]⟩)) (.op2 .catL (.op2 .catL (.sl .lst (.var 6) .nil (.cons (.var 16) .nil)) (.lst (.cons (.var 15) .nil))) (.sl .lst (.var 6) (.cons (.var 16) .nil) .nil))) (.cons (.op2 .addI (.var 16) (.lit (.int 1))) .nil))))))) (.cons (.ret (.lit (.bool false))) .nil) .nil) (.cons (.ife (.or (.and (.val (.op2 .neD (.var 15) (.lit (.str ⟨#[]⟩)))) (.not (.val (.call 43 (.cons (.fnv 25) (.cons (.var 15) (.cons (.lit (.int 1)) .nil))))))) (.and (.val (.op2 .ntN (.var 5) (.lit .none))) (.not (.val (.call 43 (.cons (.fnv 27) (.cons (.op2 .addS (.op2 .addS (.var 8) (.lit (.str ⟨#[10]⟩))) (.call 32 (.cons (.var 1) (.cons (.lst (.cons (.lit (.str ⟨#[91, 48, 44, 32, 49, 93]⟩)) (.cons (.lit (.str ⟨#[114, 111, 117, 110, 100, 32, 48, 32, 49]⟩)) (.cons (.lit (.str ⟨#[]⟩)) .nil)))) .nil)))) (.cons (.op2 .addI (.blt .lenQ (.var 7)) (.lit (.int 1))) .nil)))))))) (.cons (.ret (.lit (.bool false))) .nil) .nil) (.cons (.par 17 18 true false (.lst (.cons (.tup (.cons (.tup (.cons (.lit (.int 0)) (.cons (.lit (.int 1)) .nil))) (.cons (.tup (.cons (.lit (.int 0)) (.cons (.lit (.int 1)) .nil))) .nil))) .nil)) (.tup (.cons (.lit (.int 0)) (.cons (.lit (.int 1)) .nil)))) (.cons (.fr (.name 9) (.range (.call 31 (.cons (.var 1) (.cons (.lit (.int 4)) .nil)))) (.cons (.set 18 (.call 36 (.cons (.var 18) (.cons (.call 32 (.cons (.var 1) (.cons (.lst (.cons (.tup (.cons (.lit (.int 1)) (.cons (.lit (.int 2)) .nil))) (.cons (.tup (.cons (.lit (.int 2)) (.cons (.lit (.int 1)) .nil))) (.cons (.tup (.cons (.lit (.int 1)) (.cons (.lit (.int 3)) .nil))) .nil)))) .nil))) .nil)))) (.cons (.app 17 (.tup (.cons (.tup (.cons (.op2 .addI (.var 9) (.lit (.int 1))) (.cons (.lit (.int 1)) .nil))) (.cons (.var 18) .nil)))) .nil))) (.frz 17 (.cons (.set 10 (.tup (.cons (.blt .tupL (.var 17)) (.cons (.call 32 (.cons (.var 1) (.cons (.lst (.cons (.tup (.cons (.lit (.int 1)) (.cons (.lit (.int 1)) .nil))) (.cons (.tup (.cons (.lit (.int 3)) (.cons (.lit (.int 2)) .nil))) (.cons (.tup (.cons (.lit (.int 0)) (.cons (.lit (.int 1)) .nil))) (.cons (.tup (.cons (.neg (.lit (.int 1))) (.cons (.lit (.int 2)) .nil))) .nil))))) .nil))) .nil)))) (.cons (.set 11 (.join (.lit (.str ⟨#[59, 32]⟩)) (.op2 .catL (.lc (.op2 .addS (.op2 .addS (.call 37 (.cons (.var 24) .nil)) (.lit (.str ⟨#[32]⟩))) (.call 37 (.cons (.var 20) .nil))) (.tup (.cons (.name 24) (.cons (.name 20) .nil))) (.tup (.op2 .ixT (.var 10) (.lit (.int 0)))) [24, 20]) (.lst (.cons (.op2 .addS (.lit (.str ⟨#[114, 97, 116, 101, 32]⟩)) (.call 37 (.cons (.op2 .ixT (.var 10) (.lit (.int 1))) .nil))) .nil))))) (.cons (.ife (.or (.not (.val (.call 33 (.cons (.lst (.cons (.call 20 (.cons (.var 10) .nil)) (.cons (.call 29 (.cons (.var 11) .nil)) .nil))) (.cons (.lst (.cons (.var 11) (.cons (.var 10) .nil))) .nil))))) (.not (.val (.call 43 (.cons (.fnv 29) (.cons (.op2 .addS (.var 11) (.lit (.str ⟨#[10]⟩))) (.cons (.lit (.int 2)) .nil))))))) (.cons (.ret (.lit (.bool false))) .nil) .nil) (.cons (.fr (.name 12) (.tup (.tup (.cons (.lit (.str ⟨#[114, 97, 116, 101, 32, 49]⟩)) (.cons (.op2 .addS (.var 11) (.lit (.str ⟨#[59]⟩))) (.cons (.op2 .addS (.sl .str (.var 11) .nil (.cons (.neg (.lit (.int 1))) .nil)) (.lit (.str ⟨#[120]⟩))) (.cons (.lit (.str ⟨#[48, 32, 48, 32, 48, 59, 32, 114, 97, 116, 101, 32, 49]⟩)) (.cons (.lit (.str ⟨#[48, 32, 48, 59, 32, 114, 97, 116, 101]⟩)) (.cons (.lit (.str ⟨#[48, 32, 48, 59, 32, 114, 97, 116, 101, 32, 49, 32, 50]⟩)) (.cons (.lit (.str ⟨#[48, 32, 48, 59, 114, 97, 116, 101, 32, 49]⟩)) (.cons (.lit (.str ⟨#[48, 32, 48, 59, 32, 114, 97, 116, 101, 32, 50, 47, 50]⟩)) (.cons (.repl (.var 11) ⟨#[114, 97, 116, 101]⟩ ⟨#[82, 97, 116, 101]⟩) .nil))))))))))) (.cons (.ife (.not (.val (.call 43 (.cons (.fnv 29) (.cons (.var 12) (.cons (.lit (.int 1)) .nil)))))) (.cons (.ret (.lit (.bool false))) .nil) .nil) .nil)) (.cons (.par 19 20 true true (.lst .nil) (.lst .nil)) (.cons (.fr (.name 9) (.range (.call 31 (.cons (.var 1) (.cons (.lit (.int 4)) .nil)))) (.cons (.set 21 (.call 40 (.cons (.var 1) (.cons (.var 9) .nil)))) (.cons (.set 22 (.blt .tupL (.lc (.tup (.cons (.var 23) (.cons (.call 32 (.cons (.var 1) (.cons (.lst (.cons (.lit (.str ⟨#[98, 101, 103, 105, 110, 115]⟩)) (.cons (.lit (.str ⟨#[101, 110, 100, 115]⟩)) (.cons (.lit (.str ⟨#[102, 108, 97, 115, 104]⟩)) (.cons (.lit (.str ⟨#[103, 97, 112]⟩)) .nil))))) .nil))) (.cons (.op2 .eqD (.call 31 (.cons (.var 1) (.cons (.lit (.int 2)) .nil))) (.lit (.int 0))) .nil)))) (.name 23) (.list (.sl .lst (.lst (.cons (.lit (.str ⟨#[97, 97]⟩)) (.cons (.lit (.str ⟨#[98, 50]⟩)) .nil))) .nil (.cons (.op2 .addI (.lit (.int 1)) (.call 31 (.cons (.var 1) (.cons (.lit (.int 2)) .nil)))) .nil))) [23]))) (.cons (.app 19 (.tup (.cons (.var 21) (.cons (.var 22) .nil)))) (.cons (.app 20 (.join (.lit (.str ⟨#[44, 32]⟩)) (.op2 .catL (.lst (.cons (.call 39 (.cons (.var 21) .nil)) .nil)) (.lc (.op2 .addS (.op2 .addS (.var 23) (.lit (.str ⟨#[32]⟩))) (.var 25)) (.tup (.cons (.name 23) (.cons (.name 25) (.cons (.name 26) .nil)))) (.tup (.var 22)) [23, 25, 26])))) .nil))))) (.frz 19 (.frz 20 (.cons (.ife (.not (.val (.call 33 (.cons (.lst (.cons (.call 22 (.cons (.blt .tupL (.var 19)) .nil)) (.cons (.call 27 (.cons (.lit (.str ⟨#[]⟩)) .nil)) (.cons (.call 19 (.cons (.tup (.cons (.tup .nil) (.cons (.lit .none) .nil))) .nil)) .nil)))) (.cons (.lst (.cons (.join (.lit (.str ⟨#[10]⟩)) (.var 20)) (.cons (.tup (.cons (.tup .nil) (.cons (.lit .none) .nil))) (.cons (.lit (.str ⟨#[]⟩)) .nil)))) .nil))))) (.cons (.ret (.lit (.bool false))) .nil) .nil) .nil)))))))))))))))))))))))) (.cons (.ret (.lit (.bool true))) .nil)))
def nmL : List Str := [("is_number" : Str), ("greatest_divisor" : Str), ("is_sized" : Str), ("is_tuple_of" : Str), ("is_fraction" : Str), ("is_poly" : Str), ("is_root_form" : Str), ("is_moment_form" : Str), ("is_flag" : Str), ("is_stretch_form" : Str), ("fraction_text" : Str), ("moment_text" : Str), ("digits_in" : Str), ("number_in" : Str), ("fraction_in" : Str), ("fractions_in" : Str), ("one_line" : Str), ("moment_in" : Str), ("stretch_text" : Str), ("span_text" : Str), ("clock_text" : Str), ("event_line" : Str), ("events_text" : Str), ("cut_moment" : Str), ("stretch_in" : Str), ("read_stretch" : Str), ("round_in" : Str), ("read_span" : Str), ("clock_in" : Str), ("read_clock" : Str), ("_law_bag" : Str), ("_law_take" : Str), ("_law_some" : Str), ("_law_alike" : Str), ("_law_gcd" : Str), ("_law_fraction" : Str), ("_law_plus" : Str), ("_law_frac_text" : Str), ("_law_words" : Str), ("_law_moment_text" : Str), ("_law_moment" : Str), ("_law_one" : Str), ("_law_line" : Str), ("_law_refused" : Str), ("law" : Str)]
def parL : List (List Str) := [[("thing" : Str)], [("one" : Str), ("other" : Str)], [("thing" : Str), ("many" : Str)], [("thing" : Str), ("is_item" : Str)], [("thing" : Str)], [("thing" : Str)], [("thing" : Str)], [("thing" : Str)], [("thing" : Str)], [("thing" : Str)], [("told" : Str)], [("moment" : Str)], [("word" : Str)], [("word" : Str)], [("word" : Str)], [("words" : Str)], [("text" : Str), ("read" : Str)], [("text" : Str)], [("stretch" : Str)], [("span" : Str)], [("clock" : Str)], [("event" : Str)], [("events" : Str)], [("text" : Str)], [("text" : Str)], [("text" : Str)], [("line" : Str)], [("text" : Str)], [("text" : Str)], [("text" : Str)], [("script" : Str)], [("bag" : Str), ("many" : Str)], [("bag" : Str), ("things" : Str)], [("found" : Str), ("due" : Str)], [("a" : Str), ("b" : Str)], [("top" : Str), ("bottom" : Str)], [("one" : Str), ("other" : Str)], [("one" : Str)], [("parts" : Str)], [("moment" : Str)], [("bag" : Str), ("number" : Str)], [("bag" : Str), ("number" : Str)], [("stretch" : Str)], [("read" : Str), ("text" : Str), ("line" : Str)], [("script" : Str)]]
def slL : List (List Str) := [[("thing" : Str)], [("one" : Str), ("other" : Str)], [("thing" : Str), ("many" : Str)], [("thing" : Str), ("is_item" : Str), ("item" : Str)], [("thing" : Str)], [("thing" : Str)], [("thing" : Str), ("coefficient" : Str)], [("thing" : Str)], [("thing" : Str)], [("thing" : Str)], [("told" : Str)], [("moment" : Str), ("coefficients" : Str), ("low" : Str), ("high" : Str), ("told" : Str), ("one" : Str)], [("word" : Str), ("sign" : Str)], [("word" : Str), ("number" : Str)], [("word" : Str), ("parts" : Str), ("top" : Str), ("bottom" : Str)], [("words" : Str), ("found" : Str), ("word" : Str)], [("text" : Str), ("read" : Str), ("lines" : Str), ("found" : Str)], [("text" : Str), ("parts" : Str), ("moment" : Str)], [("stretch" : Str), ("low" : Str), ("low_in" : Str), ("high" : Str), ("high_in" : Str), ("begin" : Str)], [("span" : Str), ("lines" : Str), ("stretch" : Str)], [("clock" : Str), ("points" : Str), ("time" : Str), ("shown" : Str)], [("event" : Str), ("name" : Str), ("word" : Str), ("truth" : Str)], [("events" : Str), ("event" : Str)], [("text" : Str), ("begin" : Str), ("end" : Str)], [("text" : Str), ("parts" : Str), ("low" : Str), ("high" : Str), ("stretch" : Str)], [("text" : Str)], [("line" : Str), ("words" : Str)], [("text" : Str), ("found" : Str), ("its_round" : Str), ("index" : Str), ("line" : Str), ("stretch" : Str)], [("text" : Str), ("parts" : Str), ("part" : Str), ("points" : Str), ("rate" : Str), ("words" : Str), ("point" : Str)], [("text" : Str)], [("script" : Str), ("cell" : Str)], [("bag" : Str), ("many" : Str), ("cell" : Str), ("stirred" : Str), ("value" : Str), ("begin" : Str), ("second" : Str)], [("bag" : Str), ("things" : Str)], [("found" : Str), ("due" : Str)], [("a" : Str), ("b" : Str)], [("top" : Str), ("bottom" : Str), ("part" : Str)], [("one" : Str), ("other" : Str)], [("one" : Str)], [("parts" : Str), ("one" : Str)], [("moment" : Str)], [("bag" : Str), ("number" : Str), ("root" : Str)], [("bag" : Str), ("number" : Str), ("high" : Str)], [("stretch" : Str), ("low" : Str), ("low_in" : Str), ("high" : Str), ("high_in" : Str), ("end" : Str)], [("read" : Str), ("text" : Str), ("line" : Str)], [("script" : Str), ("bag" : Str), ("bad" : Str), ("lap" : Str), ("stretches" : Str), ("again" : Str), ("lines" : Str), ("whole" : Str), ("text" : Str), ("k" : Str), ("clock" : Str), ("row" : Str), ("odd" : Str), ("stretch" : Str), ("line" : Str), ("wrong" : Str), ("at" : Str), ("points" : Str), ("shown" : Str), ("events" : Str), ("told" : Str), ("moment" : Str), ("changes" : Str), ("name" : Str), ("time" : Str), ("word" : Str), ("truth" : Str)]]
def topL : List Nat := [6, 7, 8, 9, 10, 11, 12, 13, 14, 15, 17, 18, 21, 22, 23, 24, 25, 26, 28, 29, 30, 31, 32, 33, 34, 35, 36, 37, 38, 39, 41, 42, 43, 44, 45, 46, 47, 48, 49, 50, 51, 52, 53, 54, 55]
def vkL : List Nat := [4, 24, 28]
def arL : List Nat := [1, 2, 2, 2, 1, 1, 1, 1, 1, 1, 1, 1, 1, 1, 1, 1, 2, 1, 1, 1, 1, 1, 1, 1, 1, 1, 1, 1, 1, 1, 1, 2, 2, 2, 2, 2, 2, 1, 1, 1, 2, 2, 1, 3, 1]
def ar (k : Nat) : Nat := arL.getD k 0
/-- the def's number of slots, its form -/
def bodyOf : Nat → Option (Nat × Ss)
  | 0 => some (1, ir0)
  | 1 => some (2, ir1)
  | 2 => some (2, ir2)
  | 3 => some (3, ir3)
  | 4 => some (1, ir4)
  | 5 => some (1, ir5)
  | 6 => some (2, ir6)
  | 7 => some (1, ir7)
  | 8 => some (1, ir8)
  | 9 => some (1, ir9)
  | 10 => some (1, ir10)
  | 11 => some (6, ir11)
  | 12 => some (2, ir12)
  | 13 => some (2, ir13)
  | 14 => some (4, ir14)
  | 15 => some (3, ir15)
  | 16 => some (4, ir16)
  | 17 => some (3, ir17)
  | 18 => some (6, ir18)
  | 19 => some (3, ir19)
  | 20 => some (4, ir20)
  | 21 => some (4, ir21)
  | 22 => some (2, ir22)
  | 23 => some (3, ir23)
  | 24 => some (5, ir24)
  | 25 => some (1, ir25)
  | 26 => some (2, ir26)
  | 27 => some (6, ir27)
  | 28 => some (7, ir28)
  | 29 => some (1, ir29)
  | 31 => some (7, ir31)
  | 32 => some (2, ir32)
  | 34 => some (2, ir34)
  | 35 => some (3, ir35)
  | 36 => some (2, ir36)
  | 37 => some (1, ir37)
  | 38 => some (2, ir38)
  | 39 => some (1, ir39)
  | 40 => some (3, ir40)
  | 41 => some (3, ir41)
  | 42 => some (6, ir42)
  | _ => none
mutual
def sameD : PD → PD → Bool
  | .none, .none => true
  | .bool a, .bool b => a == b
  | .int a, .int b => a == b
  | .str a, .str b => a == b
  | .list a, .list b => sameDs a b
  | .tuple a, .tuple b => sameDs a b
  | _, _ => false
def sameDs : List PD → List PD → Bool
  | [], [] => true
  | a :: as, b :: bs => sameD a b && sameDs as bs
  | _, _ => false
end
/-- what can be shown -/
def showOk (a : PD) : Bool := shp a && (a.showable && (!a.hasDict && (PyData.layable0 a && PyData.intsShort 13 a)))
/-- what cannot be told apart -/
def alikeF : List PD → M PD
  | [.list a, .list b] => if showOk (.list a) = true ∧ sameDs a b = true then ret (.bool true) else stk
  | _ => stk
def refusedF (Fn : Nat → List PD → M PD) : List PD → M PD
  | [.dict [(.int (.ofNat k), .none)], t, .int l] => fun g => match Fn k [t] g with | .exn l' c g' => if l' = l ∧ c = 1 ∧ showOk (.list [.int l, .int 1]) = true then .ok (.bool true) g' else .stuck | _ => .stuck
  | _ => stk
def sem : Nat → Nat → List PD → M PD
  | 0, _ => fun _ => stk
  | n + 1, f => fun ds => if ds.length = ar f then (if f = 33 then alikeF ds else if f = 43 then refusedF (sem n) ds else match bodyOf f with | some (k, b) => evF (sem n) vkL k b ds | none => stk) else stk
end G

/-! Rules of our own: the bag's cells, a power, replace. -/
namespace G
open PySem PySem.Spec PyProof.Rows L2
section
variable {X : Cx} {Θ : Th} {k nf : Nat} {nm : Nat → Str} {gl : List (Str × V)} {E : XK}
variable {a b e f : Expr} {es : List Expr} {ia ib ic : Ex} {ies : Exs} {pos p apos : Pos} {x : Str}
theorem PE.conv {t t' : TE} (h : PE X e t) (i : ∀ σ H Q, t' σ H Q → t σ H Q) : PE X e t' := ⟨fun pins s σ H Q I q => h.run pins s σ H Q I (i _ _ _ q)⟩
theorem PS.conv {st : Stmt} {t t' : TS} (h : PS X st t) (i : ∀ D σ H, t' D σ H → t D σ H) : PS X st t' := ⟨fun pins s σ H D I q => h.run pins s σ H D I (i _ _ _ q)⟩
/-- a power of two written numbers -/
theorem d_pow {i j : Int} {r : Int} {n m : Nat} {p1 p2 : Pos} (hr : i ^ j.toNat = r) (h0 : 0 ≤ j) (h1 : j ≤ 1000000) (h2 : i.natAbs < 2 ^ 64) : PE X (.BinOp (.Constant (.int i) n p1) .Pow (.Constant (.int j) m p2) pos) (dE Θ E (.lit (.int r))) :=
  PE.conv (pe_op op_pow pe_int pe_int) fun σ H Q q => ⟨_, _, rfl, rfl, ⟨h0, h1, h2⟩, by show Q (V.int (i ^ j.toNat)) H; rw [hr]; exact q⟩
/-- xs[n], xs the list of a slot -/
theorem d_bget (C : Ctx X Θ k nf nm gl) (i n : Nat) {m : Nat} {p2 : Pos} (hN : X.N[i]? = some x := by rfl) (hv : Vis X.env.scope x := by first | exact Or.inl rfl | exact Or.inr (Or.inl rfl) | exact Or.inr (Or.inr rfl)) (hd : (x == ("__debug__" : Str)) = false := by decide)
    (hcd : (x == ("__classdict__" : Str)) = false := by decide) (hs : PlainIx (.Constant (.int (n : Int)) m p2) := by exact fun _ _ => rfl) : PE X (.Subscript (.Name x p) (.Constant (.int (n : Int)) m p2) pos) (dE Θ E (.bget i n)) :=
  pe_ix (i_L C) (pe_var hN hv hd hcd) pe_int hs
/-- .. stored -/
theorem d_bset (C : Ctx X Θ k nf nm gl) (i n : Nat) {m : Nat} {p2 tpos : Pos} (he : PE X e (dE Θ E ia)) (hN : X.N[i]? = some x := by rfl) (hv : Vis X.env.scope x := by first | exact Or.inl rfl | exact Or.inr (Or.inl rfl) | exact Or.inr (Or.inr rfl)) (hd : (x == ("__debug__" : Str)) = false := by decide)
    (hcd : (x == ("__classdict__" : Str)) = false := by decide)
    (ha : ∀ v, assign (.Subscript (.Name x p) (.Constant (.int (n : Int)) m p2) tpos) X.env v = (do
      let ov ← holding [v] (eval (.Name x p) X.env)
      let iv ← holding [v, ov] (eval (.Constant (.int (n : Int)) m p2) X.env)
      standAt tpos
      holding [v, ov, iv] (setItem ov iv v)
      release [v, ov, iv] []) := by intro _; rfl)
    (hs : swapsWithSole [.Subscript (.Name x p) (.Constant (.int (n : Int)) m p2) tpos] e pos.line X.env = pure false := by rfl) (hw : swappedStores [.Subscript (.Name x p) (.Constant (.int (n : Int)) m p2) tpos] e X.env = pure none := by rfl)
    (h1 : (assignEach [.Subscript (.Name x p) (.Constant (.int (n : Int)) m p2) tpos] X.env).map (·.2) = [assign (.Subscript (.Name x p) (.Constant (.int (n : Int)) m p2) tpos) X.env] := by rfl) :
    PS X (.Assign [.Subscript (.Name x p) (.Constant (.int (n : Int)) m p2) tpos] e pos) (dS Θ E (.bset i n ia)) :=
  ps_asg he (pg_sub (pe_var hN hv hd hcd) pe_int set_list ha) hs hw h1
theorem get_list : PGet X (rIxL X.K) := by
  intro pins s σ H x y v u Q I rx ry h
  obtain ⟨p, xs, i, z, rfl, rfl, hq, he, q⟩ := h
  cases rx
  obtain ⟨t, rfl⟩ := ry
  obtain ⟨its, r, pl, hz⟩ := I.list hq
  obtain ⟨j, h1, h2, h3, h4, h5⟩ := atI_get he
  obtain ⟨w, ew, rw'⟩ := r.get h2
  have hl := r.length
  have hn := line63
  have fin : EP X pins σ Q w s := ⟨z, H, I, rw', q⟩
  by_cases h0 : 0 ≤ i
  · have hj : i.toNat = j := by
      rw [seqIndex_of h0 h5] at h1
      exact Option.some.inj h1
    exact wpAny_getItem_list pl.isList h0 (by omega) (by rw [hj]; simpa using ew) fin
  · have hj : (i + (its.toArray.size : Int)).toNat = j := by
      rw [seqIndex_neg (by omega) h4] at h1
      rw [List.size_toArray, ← hl]
      exact Option.some.inj h1
    exact wpAny_getItem_list_neg pl.isList (by omega) (by rw [List.size_toArray] <;> omega) (by omega) (by rw [hj]; simpa using ew) fin
/-- xs[n] += a written number -/
theorem d_baug (C : Ctx X Θ k nf nm gl) (i n : Nat) {m m2 : Nat} {j : Int} {p2 p3 tpos : Pos} (_ : PE X (.Constant (.int j) m2 p3) (dE Θ E (.lit (.int j)))) (hN : X.N[i]? = some x := by rfl) (hv : Vis X.env.scope x := by first | exact Or.inl rfl | exact Or.inr (Or.inl rfl) | exact Or.inr (Or.inr rfl)) (hd : (x == ("__debug__" : Str)) = false := by decide)
    (hcd : (x == ("__classdict__" : Str)) = false := by decide)
    (ha : ∀ ov iv new, augStore (.Constant (.int (n : Int)) m p2) ov iv new = (do holding [new, ov, iv] (setItem ov iv new); release [new, ov, iv] []; pure .next) := by intros; rfl) :
    PS X (.AugAssign (.Subscript (.Name x p) (.Constant (.int (n : Int)) m p2) tpos) .Add (.Constant (.int j) m2 p3) pos) (dS Θ E (.bset i n (.op2 .addI (.bget i n) (.lit (.int j))))) := by
  refine PS.conv (ps_augS (pe_var hN hv hd hcd) pe_int (C.K ▸ get_list) pe_int ip_add set_list ha) fun D σ H q => ?_
  obtain ⟨o, h1, p, xs, i', v, rfl, e2, h3, h4, l, r, e5, e6, o', h7, h8⟩ := q
  have e2' := V.int.inj e2
  subst e2'
  rw [h1] at h7
  have e7 := Option.some.inj (Option.some.inj h7)
  subst e7
  exact ⟨_, h1, _, xs, _, v, rfl, rfl, h3, h4, l, r, e5, e6, h8⟩
/-- e.replace of two written texts, behind a written text -/
theorem d_nilT : PAT X [] (dA Θ E .nil) := pat_nil
theorem d_consT (ha : PET X e (dE Θ E ia)) (hr : PAT X es (dA Θ E ies)) (hs : starEach (e :: es) X.env = (false, eval e X.env) :: starEach es X.env := by rfl) : PAT X (e :: es) (dA Θ E (.cons ia ies)) := pat_cons ha hr hs
theorem d_consT0 {j : Nat} {y : Str} (h : x = y) (hr : PAT X es (dA Θ E ies)) (hs : starEach (.Constant (.str x) j p :: es) X.env = (false, eval (.Constant (.str x) j p) X.env) :: starEach es X.env := by rfl) : PA X (.Constant (.str x) j p :: es) (dA Θ E (.cons (.lit (.str y)) ies)) := by
  subst h
  refine ⟨fun pos pins s σ H Q I h => ?_⟩
  rw [hs]
  show wpAny _ _ (spliced ((false, eval (.Constant (.str x) j p) X.env) :: backTo pos (starEach es X.env))) _ _ s
  refine Calls.spliced_cons (Calls.Constant_str ?_)
  exact thn (hr pos pins { s with toks := s.toks + 1 } σ H _ (by show 1 ≤ s.toks + 1; omega) (I.tok _) h) fun us s2 ⟨xs, H2, I2, r2, q2⟩ => ⟨.str x :: xs, H2, I2, .cons ⟨_, rfl⟩ r2, q2⟩
theorem d_repl {y z y' z' : Str} {j l : Nat} {c0 c1 : Pos} (ho : PE X e (dE Θ E ia)) (h1 : y = y') (h2 : z = z') (hyz : (y == z) = false := by decide)
    (hst : starEach [.Constant (.str y) j c0, .Constant (.str z) l c1] X.env = [(false, eval (.Constant (.str y) j c0) X.env), (false, eval (.Constant (.str z) l c1) X.env)] := by rfl)
    (hbase : attributeBase e "replace" X.env (eval e X.env) = eval e X.env := by rfl) (hline : (apos.endLine == pos.line) = true := by rfl) :
    PET X (.Call (.Attribute e "replace" apos) [.Constant (.str y) j c0, .Constant (.str z) l c1] [] pos) (dE Θ E (.repl ia y' z')) := by
  subst h1
  subst h2
  exact CwR.pet_replC ho hyz hst hbase hline
/-- what a def may lean on where it raises -/
def RseT (X : Cx) (Θ : Th) (E : XK) : Prop := ∀ {a b : Expr} {ia ib : Ex} {p pos pos2 : Pos}, PE X a (dE Θ E ia) → PE X b (dE Θ E ib) →
  starEach [a, b] X.env = (false, eval a X.env) :: starEach [b] X.env → starEach [b] X.env = (false, eval b X.env) :: starEach [] X.env → (backTo pos (starEach [b] X.env)).any (·.1) = false → X.env.kindOf "BadText" = some .globalImplicit →
  PS X (.Raise (some (.Call (.Name "BadText" p) [a, b] [] pos)) none pos2) (dS Θ E (.rse ia ib))
theorem d_rse (C : Ctx X Θ k nf nm gl) (bt : RseT X Θ E) {pos2 : Pos} (ha : PE X a (dE Θ E ia)) (hb : PE X b (dE Θ E ib)) (h1 : starEach [a, b] X.env = (false, eval a X.env) :: starEach [b] X.env := by rfl) (h2 : starEach [b] X.env = (false, eval b X.env) :: starEach [] X.env := by rfl)
    (hpl : (backTo pos (starEach [b] X.env)).any (·.1) = false := by rfl) (hg : X.env.kindOf "BadText" = some .globalImplicit := by rfl) : PS X (.Raise (some (.Call (.Name "BadText" p) [a, b] [] pos)) none pos2) (dS Θ E (.rse ia ib)) := bt ha hb h1 h2 hpl hg
/-- a call by a rule of its own -/
def CallG (X : Cx) (Θ : Th) (E : XK) (i : Nat) (x : Str) : Prop := ∀ {e : Expr} {es : List Expr} {ies : Exs} {p pos : Pos}, PA X (e :: es) (dA Θ E ies) → starEach (e :: es) X.env = (false, eval e X.env) :: starEach es X.env → (backTo pos (starEach es X.env)).any (·.1) = false → X.env.kindOf x = some .globalImplicit →
  PE X (.Call (.Name x p) (e :: es) [] pos) (dE Θ E (.call i ies))
theorem d_callG {i : Nat} (cg : CallG X Θ E i x) (ha : PA X (e :: es) (dA Θ E ies)) (he : starEach (e :: es) X.env = (false, eval e X.env) :: starEach es X.env := by rfl) (hpl : (backTo pos (starEach es X.env)).any (·.1) = false := by rfl) (hg : X.env.kindOf x = some .globalImplicit := by rfl) :
    PE X (.Call (.Name x p) (e :: es) [] pos) (dE Θ E (.call i ies)) := cg ha he hpl hg
/-- zip -/
theorem d_iz (C : Ctx X Θ k nf nm gl) {elts : List Expr} {kk : Nat} {tpos : Pos} (ha : PE X a (dE Θ E ia)) (hb : PE X b (dE Θ E ib)) (hg : Gl X "zip" := by rfl) (hs : starEach [a, b] X.env = (false, eval a X.env) :: starEach [b] X.env := by rfl) (hs2 : starEach [b] X.env = (false, eval b X.env) :: starEach [] X.env := by rfl)
    (hpl : (backTo pos (starEach [b] X.env)).any (·.1) = false := by rfl) : PI X (.Tuple elts kk tpos) (.Call (.Name "zip" p) [a, b] [] pos) (dI Θ E (.zip ia ib)) := by
  have q := ZX.pi_zipX (els := elts) (kk := kk) (tp := tpos) (pn := p) (pc := pos) hg (C.blt _ (by decide)) (pa_cons ha (pa_cons hb pa_nil hs2) hs) hs hpl
  rw [C.K] at q
  exact q
end
/-! ### the bodies of the defs -/
def topS (i : Nat) : Stmt := PySem.Challenge.pw_alltimes_k21_texts_of_spans_clocks_and_e.main.body.getD i (.Pass ⟨0, 0, 0, 0⟩)
def nmOf (i : Nat) : Str := nmL.getD i ""
def glL : List (Str × V) := [("DIGITS", .str ⟨#[48, 49, 50, 51, 52, 53, 54, 55, 56, 57]⟩), ("MOST_DIGITS", .int 1000)]
def Der (sts : List Stmt) (top : Nat) (N : List Str) (name : Str) (ir : Ss) : Prop := ∀ (P : Program) (w : World) (K : PySem.W.Frag) (mg : Str → Option Value) (base : Heap) (fa : Addr) (cdv : Value) (A : Around) (outer : List Env) (s : Shared) (H : Hp) (E : XK) (Θ : Th) (k : Nat),
  Ctx (cxOf (L2.CX P w) P w K mg base N name (defScope (topS top)) fa cdv A outer s H E) Θ k 45 nmOf glL → Passes (L2.CX P w) (cxOf (L2.CX P w) P w K mg base N name (defScope (topS top)) fa cdv A outer s H E) E →
  PassesOwn (model P w) (A.deeper (envOfC name (defScope (topS top)) s.heap.objs.size fa cdv)) (envOfC name (defScope (topS top)) s.heap.objs.size fa cdv) (cxOf (L2.CX P w) P w K mg base N name (defScope (topS top)) fa cdv A outer s H E).xe →
  RseT (cxOf (L2.CX P w) P w K mg base N name (defScope (topS top)) fa cdv A outer s H E) Θ E →
  PSs (cxOf (L2.CX P w) P w K mg base N name (defScope (topS top)) fa cdv A outer s H E) sts (dSs Θ E ir)
def DerG (sts : List Stmt) (top : Nat) (N : List Str) (name : Str) (ir : Ss) : Prop := ∀ (P : Program) (w : World) (K : PySem.W.Frag) (mg : Str → Option Value) (base : Heap) (fa : Addr) (cdv : Value) (A : Around) (outer : List Env) (s : Shared) (H : Hp) (E : XK) (Θ : Th) (k : Nat),
  Ctx (cxOf (L2.CX P w) P w K mg base N name (defScope (topS top)) fa cdv A outer s H E) Θ k 45 nmOf glL → Passes (L2.CX P w) (cxOf (L2.CX P w) P w K mg base N name (defScope (topS top)) fa cdv A outer s H E) E →
  PassesOwn (model P w) (A.deeper (envOfC name (defScope (topS top)) s.heap.objs.size fa cdv)) (envOfC name (defScope (topS top)) s.heap.objs.size fa cdv) (cxOf (L2.CX P w) P w K mg base N name (defScope (topS top)) fa cdv A outer s H E).xe →
  RseT (cxOf (L2.CX P w) P w K mg base N name (defScope (topS top)) fa cdv A outer s H E) Θ E →
  (∀ i x, (i, x) ∈ [(33, ("_law_alike" : Str)), (43, "_law_refused")] → CallG (cxOf (L2.CX P w) P w K mg base N name (defScope (topS top)) fa cdv A outer s H E) Θ E i x) →
  PSs (cxOf (L2.CX P w) P w K mg base N name (defScope (topS top)) fa cdv A outer s H E) sts (dSs Θ E ir)
end G

namespace G
open PySem PySem.Spec PyProof.Rows L2
theorem D0 : Der (defBody (topS 6)) 6 [("thing" : Str)] "is_number" ir0 := fun P w K mg base fa cdv A outer s H E Θ k C hp po bt =>
  (d_scons (d_ret (d_and (d_isi C (d_var 0)) (d_one (d_not (d_isi C (d_var 0)))))) d_snil)
theorem D1 : Der (defBody (topS 7)) 7 [("one" : Str), ("other" : Str)] "greatest_divisor" ir1 := fun P w K mg base fa cdv A outer s H E Θ k C hp po bt =>
  (d_scons (d_whl po (d_tc (o_neD C) (d_var 1) d_int) (d_scons (d_par C 0 1 (d_var 1) (d_op o_modI (d_var 0) (d_var 1))) d_snil)) (d_scons (d_ret (d_bltB C c_abs (d_var 0))) d_snil))
theorem D2 : Der (defBody (topS 8)) 8 [("thing" : Str), ("many" : Str)] "is_sized" ir2 := fun P w K mg base fa cdv A outer s H E Θ k C hp po bt =>
  (d_scons (d_ret (d_and (d_isi C (d_var 0)) (d_one (d_cmp (o_eqD C) (d_bltB C (c_lenQ C) (d_var 0)) (d_var 1))))) d_snil)
theorem D3 : Der (defBody (topS 9)) 9 [("thing" : Str), ("is_item" : Str), ("item" : Str)] "is_tuple_of" ir3 := fun P w K mg base fa cdv A outer s H E Θ k C hp po bt =>
  (d_scons (d_ret (d_and (d_isi C (d_var 0)) (d_one (d_bltB C (c_allB C) (d_lc C (d_it C (d_var 0)) (fun s H D cl fp C => (d_gn C 2)) (fun s H D cl fp C hp => (d_callv C 1 (d_cons (d_var 2) d_nil))) (own := [("item", 2)])))))) d_snil)
theorem D4 : Der (defBody (topS 10)) 10 [("thing" : Str)] "is_fraction" ir4 := fun P w K mg base fa cdv A outer s H E Θ k C hp po bt =>
  (d_scons (d_if (PW.pt (d_wor (d_tnot (d_tv (d_call C hp 2 (d_cons (d_var 0) (d_cons d_int d_nil))))) (d_wor (d_tnot (d_tv (d_call C hp 0 (d_cons (d_ix (i_T C) (d_var 0) d_int) d_nil)))) (d_wor1 (d_tnot (d_tv (d_call C hp 0 (d_cons (d_ix (i_T C) (d_var 0) d_int) d_nil)))))))) (d_scons (d_ret d_bl) d_snil) d_snil) (d_scons (d_ret (d_and (d_cmp o_geI (d_ix (i_T C) (d_var 0) d_int) d_int) (d_one (d_cmp (o_eqD C) (d_call C hp 1 (d_cons (d_ix (i_T C) (d_var 0) d_int) (d_cons (d_ix (i_T C) (d_var 0) d_int) d_nil))) d_int)))) d_snil))
theorem D5 : Der (defBody (topS 11)) 11 [("thing" : Str)] "is_poly" ir5 := fun P w K mg base fa cdv A outer s H E Θ k C hp po bt =>
  (d_scons (d_ret (d_and (d_call C hp 3 (d_cons (d_var 0) (d_cons (d_fnv C 4) d_nil))) (d_one (d_or (d_cmp (o_eqD C) (d_var 0) (d_tup d_nil)) (d_one (d_cmp (o_neD C) (d_ix (i_T C) (d_ix (i_T C) (d_var 0) (d_neg d_int)) d_int) d_int)))))) d_snil)
theorem D6 : Der (defBody (topS 12)) 12 [("thing" : Str), ("coefficient" : Str)] "is_root_form" ir6 := fun P w K mg base fa cdv A outer s H E Θ k C hp po bt =>
  (d_scons (d_if (PW.pt (d_wor (d_tnot (d_tv (d_call C hp 2 (d_cons (d_var 0) (d_cons d_int d_nil))))) (d_wor (d_tnot (d_tv (d_call C hp 5 (d_cons (d_ix (i_T C) (d_var 0) d_int) d_nil)))) (d_wor1 (d_tc o_ltI (d_bltB C (c_lenQ C) (d_ix (i_T C) (d_var 0) d_int)) d_int))))) (d_scons (d_ret d_bl) d_snil) d_snil) (d_scons (d_if (d_tnot (d_tv (d_bltB C (c_allB C) (d_lc C (d_it C (d_ix (i_T C) (d_var 0) d_int)) (fun s H D cl fp C => (d_gn C 1)) (fun s H D cl fp C hp => (d_cmp (o_eqD C) (d_ix (i_T C) (d_var 1) d_int) d_int)) (own := [("coefficient", 1)]))))) (d_scons (d_ret d_bl) d_snil) d_snil) (d_scons (d_if (PW.pt (d_wor (d_tnot (d_tv (d_call C hp 4 (d_cons (d_ix (i_T C) (d_var 0) d_int) d_nil)))) (d_wor1 (d_tnot (d_tv (d_call C hp 4 (d_cons (d_ix (i_T C) (d_var 0) d_int) d_nil))))))) (d_scons (d_ret d_bl) d_snil) d_snil) (d_scons (d_ret (d_cmp o_ltI (d_op o_mulI (d_ix (i_T C) (d_ix (i_T C) (d_var 0) d_int) d_int) (d_ix (i_T C) (d_ix (i_T C) (d_var 0) d_int) d_int)) (d_op o_mulI (d_ix (i_T C) (d_ix (i_T C) (d_var 0) d_int) d_int) (d_ix (i_T C) (d_ix (i_T C) (d_var 0) d_int) d_int)))) d_snil))))
theorem D7 : Der (defBody (topS 13)) 13 [("thing" : Str)] "is_moment_form" ir7 := fun P w K mg base fa cdv A outer s H E Θ k C hp po bt =>
  (d_scons (d_ret (d_or (d_call C hp 4 (d_cons (d_var 0) d_nil)) (d_one (d_call C hp 6 (d_cons (d_var 0) d_nil))))) d_snil)
theorem D8 : Der (defBody (topS 14)) 14 [("thing" : Str)] "is_flag" ir8 := fun P w K mg base fa cdv A outer s H E Θ k C hp po bt =>
  (d_scons (d_ret (d_and (d_call C hp 0 (d_cons (d_var 0) d_nil)) (d_one (d_cmp (o_inFl C) (d_var 0) (d_tup (d_cons d_int (d_cons d_int d_nil))))))) d_snil)
theorem D9 : Der (defBody (topS 15)) 15 [("thing" : Str)] "is_stretch_form" ir9 := fun P w K mg base fa cdv A outer s H E Θ k C hp po bt =>
  (d_scons (d_if (PW.pt (d_wor (d_tnot (d_tv (d_call C hp 2 (d_cons (d_var 0) (d_cons d_int d_nil))))) (d_wor (d_tnot (d_tv (d_call C hp 7 (d_cons (d_ix (i_T C) (d_var 0) d_int) d_nil)))) (d_wor (d_tnot (d_tv (d_call C hp 8 (d_cons (d_ix (i_T C) (d_var 0) d_int) d_nil)))) (d_wor1 (d_tnot (d_tv (d_call C hp 8 (d_cons (d_ix (i_T C) (d_var 0) d_int) d_nil))))))))) (d_scons (d_ret d_bl) d_snil) d_snil) (d_scons (d_ret (d_ite (d_tc o_isN (d_ix (i_T C) (d_var 0) d_int) d_non) (d_cmp (o_eqD C) (d_ix (i_T C) (d_var 0) d_int) d_int) (d_call C hp 7 (d_cons (d_ix (i_T C) (d_var 0) d_int) d_nil)))) d_snil))
theorem D10 : Der (defBody (topS 17)) 17 [("told" : Str)] "fraction_text" ir10 := fun P w K mg base fa cdv A outer s H E Θ k C hp po bt =>
  (d_scons (d_ret (d_ite (d_tc (o_eqD C) (d_ix (i_T C) (d_var 0) d_int) d_int) (d_bltT C c_strI (d_ix (i_T C) (d_var 0) d_int)) (d_op o_addS (d_op o_addS (d_bltT C c_strI (d_ix (i_T C) (d_var 0) d_int)) (d_str (by decide +kernel))) (d_bltT C c_strI (d_ix (i_T C) (d_var 0) d_int))))) d_snil)
theorem D11 : Der (defBody (topS 18)) 18 [("moment" : Str), ("coefficients" : Str), ("low" : Str), ("high" : Str), ("told" : Str), ("one" : Str)] "moment_text" ir11 := fun P w K mg base fa cdv A outer s H E Θ k C hp po bt =>
  (d_scons (d_if (d_tv (d_call C hp 4 (d_cons (d_var 0) d_nil))) (d_scons (d_ret (d_call C hp 10 (d_cons (d_var 0) d_nil))) d_snil) d_snil) (d_scons (d_asg (d_var 0) (d_gt C (d_g1 (d_gn C 1) (d_g1 (d_gn C 2) (d_g1 (d_gn C 3) d_g0))))) (d_scons (d_set C 4 (d_join C (d_str (by decide +kernel)) (d_lc C (d_it C (d_var 1)) (fun s H D cl fp C => (d_gn C 5)) (fun s H D cl fp C hp => (d_call C hp 10 (d_cons (d_var 5) d_nil))) (own := [("one", 5)])))) (d_scons (d_ret (d_op o_addS (d_op o_addS (d_op o_addS (d_op o_addS (d_op o_addS (d_op o_addS (d_str (by decide +kernel)) (d_var 4)) (d_str (by decide +kernel))) (d_call C hp 10 (d_cons (d_var 2) d_nil))) (d_str (by decide +kernel))) (d_call C hp 10 (d_cons (d_var 3) d_nil))) (d_str (by decide +kernel)))) d_snil))))
theorem D12 : Der (defBody (topS 21)) 21 [("word" : Str), ("sign" : Str)] "digits_in" ir12 := fun P w K mg base fa cdv A outer s H E Θ k C hp po bt =>
  (d_scons (d_if (PW.pt (d_wor (d_tnot (d_tch o_leI o_leI d_int (d_bltB C c_lenS (d_var 0)) (d_gl C 1))) (d_wor1 (d_tnot (d_tv (d_bltB C (c_allB C) (d_lc C (d_is (d_var 0)) (fun s H D cl fp C => (d_gn C 1)) (fun s H D cl fp C hp => (d_cmp o_inSg (d_var 1) (d_gl C 0))) (own := [("sign", 1)])))))))) (d_scons (d_ret d_non) d_snil) d_snil) (d_scons (d_ret (d_ite (PW.pt (d_wand (d_tc (o_eqD C) (d_ix i_S (d_var 0) d_int) (d_str (by decide +kernel))) (d_wand1 (d_tc (o_neD C) (d_var 0) (d_str (by decide +kernel)))))) d_non (d_bltT C c_intS (d_var 0)))) d_snil))
theorem D13 : Der (defBody (topS 22)) 22 [("word" : Str), ("number" : Str)] "number_in" ir13 := fun P w K mg base fa cdv A outer s H E Θ k C hp po bt =>
  (d_scons (d_if (d_tc (o_neD C) (d_sl s_str (d_var 0) d_on (d_os d_int)) (d_str (by decide +kernel))) (d_scons (d_ret (d_call C hp 12 (d_cons (d_var 0) d_nil))) d_snil) d_snil) (d_scons (d_set C 1 (d_call C hp 12 (d_cons (d_sl s_str (d_var 0) (d_os d_int) d_on) d_nil))) (d_scons (d_ret (d_ite (PW.pt (d_wor (d_tc o_isN (d_var 1) d_non) (d_wor1 (d_tc (o_eqD C) (d_var 1) d_int)))) d_non (d_neg (d_var 1)))) d_snil)))
theorem D14 : Der (defBody (topS 23)) 23 [("word" : Str), ("parts" : Str), ("top" : Str), ("bottom" : Str)] "fraction_in" ir14 := fun P w K mg base fa cdv A outer s H E Θ k C hp po bt =>
  (d_scons (d_set C 1 (d_split (d_var 0) (d_str (by decide +kernel)))) (d_scons (d_set C 2 (d_call C hp 13 (d_cons (d_ix (i_L C) (d_var 1) d_int) d_nil))) (d_scons (d_set C 3 (d_ite (d_tc (o_eqD C) (d_bltB C (c_lenQ C) (d_var 1)) d_int) d_int (d_ite (d_tc (o_eqD C) (d_bltB C (c_lenQ C) (d_var 1)) d_int) (d_call C hp 12 (d_cons (d_ix (i_L C) (d_var 1) d_int) d_nil)) d_non))) (d_scons (d_if (PW.pt (d_wor (d_tc o_isN (d_var 2) d_non) (d_wor (d_tc o_isN (d_var 3) d_non) (d_wor (PW.pt (d_wand (d_tc (o_eqD C) (d_bltB C (c_lenQ C) (d_var 1)) d_int) (d_wand1 (d_tc (o_eqD C) (d_var 3) d_int)))) (d_wor1 (d_tnot (d_tv (d_call C hp 4 (d_cons (d_tup (d_cons (d_var 2) (d_cons (d_var 3) d_nil))) d_nil))))))))) (d_scons (d_ret d_non) d_snil) d_snil) (d_scons (d_ret (d_tup (d_cons (d_var 2) (d_cons (d_var 3) d_nil)))) d_snil)))))
theorem D15 : Der (defBody (topS 24)) 24 [("words" : Str), ("found" : Str), ("word" : Str)] "fractions_in" ir15 := fun P w K mg base fa cdv A outer s H E Θ k C hp po bt =>
  (d_scons (d_set C 1 (d_bltT C (c_tupL C) (d_lc C (d_il C (d_var 0)) (fun s H D cl fp C => (d_gn C 2)) (fun s H D cl fp C hp => (d_call C hp 14 (d_cons (d_var 2) d_nil))) (own := [("word", 2)])))) (d_scons (d_ret (d_ite (d_tc (o_inTd C) d_non (d_var 1)) d_non (d_var 1))) d_snil))
theorem D16 : Der (defBody (topS 25)) 25 [("text" : Str), ("read" : Str), ("lines" : Str), ("found" : Str)] "one_line" ir16 := fun P w K mg base fa cdv A outer s H E Θ k C hp po bt =>
  (d_scons (d_set C 2 (d_split (d_var 0) (d_str (by decide +kernel)))) (d_scons (d_set C 3 (d_callv C 1 (d_cons (d_ix (i_L C) (d_var 2) d_int) d_nil))) (d_scons (d_if (d_tc o_isN (d_var 3) d_non) (d_scons (d_rse C bt d_int d_int) d_snil) d_snil) (d_scons (d_if (d_tc o_gtI (d_bltB C (c_lenQ C) (d_var 2)) d_int) (d_scons (d_rse C bt d_int d_int) d_snil) d_snil) (d_scons (d_ret (d_var 3)) d_snil)))))
theorem D17 : Der (defBody (topS 26)) 26 [("text" : Str), ("parts" : Str), ("moment" : Str)] "moment_in" ir17 := fun P w K mg base fa cdv A outer s H E Θ k C hp po bt =>
  (d_scons (d_if (d_tc (o_neD C) (d_sl s_str (d_var 0) d_on (d_os d_int)) (d_str (by decide +kernel))) (d_scons (d_ret (d_call C hp 14 (d_cons (d_var 0) d_nil))) d_snil) d_snil) (d_scons (d_set C 1 (d_split (d_sl s_str (d_var 0) (d_os d_int) (d_os (d_neg d_int))) (d_str (by decide +kernel)))) (d_scons (d_if (PW.pt (d_wor (d_tc (o_neD C) (d_bltB C (c_lenQ C) (d_var 1)) d_int) (d_wor1 (d_tc (o_neD C) (d_ix i_S (d_var 0) (d_neg d_int)) (d_str (by decide +kernel)))))) (d_scons (d_ret d_non) d_snil) d_snil) (d_scons (d_set C 2 (d_tup (d_cons (d_call C hp 15 (d_cons (d_split (d_ix (i_L C) (d_var 1) d_int) (d_str (by decide +kernel))) d_nil)) (d_cons (d_call C hp 14 (d_cons (d_ix (i_L C) (d_var 1) d_int) d_nil)) (d_cons (d_call C hp 14 (d_cons (d_ix (i_L C) (d_var 1) d_int) d_nil)) d_nil))))) (d_scons (d_if (PW.pt (d_wor (d_tc (o_inTd C) d_non (d_var 2)) (d_wor1 (d_tnot (d_tv (d_call C hp 7 (d_cons (d_var 2) d_nil))))))) (d_scons (d_ret d_non) d_snil) d_snil) (d_scons (d_ret (d_ite (d_tc (o_eqD C) (d_call C hp 11 (d_cons (d_var 2) d_nil)) (d_var 0)) (d_var 2) d_non)) d_snil))))))
theorem D18 : Der (defBody (topS 28)) 28 [("stretch" : Str), ("low" : Str), ("low_in" : Str), ("high" : Str), ("high_in" : Str), ("begin" : Str)] "stretch_text" ir18 := fun P w K mg base fa cdv A outer s H E Θ k C hp po bt =>
  (d_scons (d_asg (d_var 0) (d_gt C (d_g1 (d_gn C 1) (d_g1 (d_gn C 2) (d_g1 (d_gn C 3) (d_g1 (d_gn C 4) d_g0)))))) (d_scons (d_set C 5 (d_op o_addS (d_ite (d_tc (o_eqD C) (d_var 2) d_int) (d_str (by decide +kernel)) (d_str (by decide +kernel))) (d_call C hp 11 (d_cons (d_var 1) d_nil)))) (d_scons (d_ret (d_op o_addS (d_op o_addS (d_op o_addS (d_var 5) (d_str (by decide +kernel))) (d_ite (d_tc o_isN (d_var 3) d_non) (d_str (by decide +kernel)) (d_call C hp 11 (d_cons (d_var 3) d_nil)))) (d_ite (d_tc (o_eqD C) (d_var 4) d_int) (d_str (by decide +kernel)) (d_str (by decide +kernel))))) d_snil)))
theorem D19 : Der (defBody (topS 29)) 29 [("span" : Str), ("lines" : Str), ("stretch" : Str)] "span_text" ir19 := fun P w K mg base fa cdv A outer s H E Θ k C hp po bt =>
  (d_scons (d_setLcO C 1 (d_it C (d_ix (i_T C) (d_var 0) d_int)) (fun s H D cl fp C => (d_gn C 2)) (fun s H D cl fp C hp => (d_call C hp 18 (d_cons (d_var 2) d_nil))) (own := [("stretch", 2)])) (d_scons (d_if (d_tc o_ntN (d_ix (i_T C) (d_var 0) d_int) d_non) (d_scons (d_app C 1 (d_op o_addS (d_op o_addS (d_op o_addS (d_str (by decide +kernel)) (d_call C hp 10 (d_cons (d_ix (i_T C) (d_ix (i_T C) (d_var 0) d_int) d_int) d_nil))) (d_str (by decide +kernel))) (d_call C hp 10 (d_cons (d_ix (i_T C) (d_ix (i_T C) (d_var 0) d_int) d_int) d_nil)))) d_snil) d_snil) (d_sfrz (d_scons (d_ret (d_join C (d_str (by decide +kernel)) (d_var 1))) d_snil))))
theorem D20 : Der (defBody (topS 30)) 30 [("clock" : Str), ("points" : Str), ("time" : Str), ("shown" : Str)] "clock_text" ir20 := fun P w K mg base fa cdv A outer s H E Θ k C hp po bt =>
  (d_scons (d_setLc C 1 (d_it C (d_ix (i_T C) (d_var 0) d_int)) (fun s H D cl fp C => (d_gt C (d_g1 (d_gn C 2) (d_g1 (d_gn C 3) d_g0)))) (fun s H D cl fp C hp => (d_op o_addS (d_op o_addS (d_op o_addS (d_call C hp 10 (d_cons (d_var 2) d_nil)) (d_str (by decide +kernel))) (d_call C hp 10 (d_cons (d_var 3) d_nil))) (d_str (by decide +kernel)))) (own := [("time", 2), ("shown", 3)])) (d_scons (d_ret (d_op o_addS (d_op o_addS (d_join C (d_str (by decide +kernel)) (d_var 1)) (d_str (by decide +kernel))) (d_call C hp 10 (d_cons (d_ix (i_T C) (d_var 0) d_int) d_nil)))) d_snil))
theorem D21 : Der (defBody (topS 31)) 31 [("event" : Str), ("name" : Str), ("word" : Str), ("truth" : Str)] "event_line" ir21 := fun P w K mg base fa cdv A outer s H E Θ k C hp po bt =>
  (d_scons (d_ret (d_op o_addS (d_call C hp 11 (d_cons (d_ix (i_T C) (d_var 0) d_int) d_nil)) (d_join C (d_str (by decide +kernel)) (d_lc C (d_it C (d_ix (i_T C) (d_var 0) d_int)) (fun s H D cl fp C => (d_gt C (d_g1 (d_gn C 1) (d_g1 (d_gn C 2) (d_g1 (d_gn C 3) d_g0))))) (fun s H D cl fp C hp => (d_op o_addS (d_op o_addS (d_op o_addS (d_str (by decide +kernel)) (d_var 1)) (d_str (by decide +kernel))) (d_var 2))) (own := [("name", 1), ("word", 2), ("truth", 3)]))))) d_snil)
theorem D22 : Der (defBody (topS 32)) 32 [("events" : Str), ("event" : Str)] "events_text" ir22 := fun P w K mg base fa cdv A outer s H E Θ k C hp po bt =>
  (d_scons (d_ret (d_join C (d_str (by decide +kernel)) (d_lc C (d_it C (d_var 0)) (fun s H D cl fp C => (d_gn C 1)) (fun s H D cl fp C hp => (d_call C hp 21 (d_cons (d_var 1) d_nil))) (own := [("event", 1)])))) d_snil)
theorem D23 : Der (defBody (topS 33)) 33 [("text" : Str), ("begin" : Str), ("end" : Str)] "cut_moment" ir23 := fun P w K mg base fa cdv A outer s H E Θ k C hp po bt =>
  (d_scons (d_set C 1 (d_ite (d_tc (o_eqD C) (d_sl s_str (d_var 0) d_on (d_os d_int)) (d_str (by decide +kernel))) (d_op o_addI (d_find C (d_var 0) (d_str (by decide +kernel))) d_int) d_int)) (d_scons (d_set C 2 (d_find3 C (d_var 0) (d_str (by decide +kernel)) (d_var 1))) (d_scons (d_ret (d_ite (d_tc o_ltI (d_var 2) d_int) d_non (d_tup (d_cons (d_sl s_str (d_var 0) d_on (d_os (d_var 2))) (d_cons (d_sl s_str (d_var 0) (d_os (d_op o_addI (d_var 2) d_int)) d_on) d_nil))))) d_snil)))
theorem D24 : Der (defBody (topS 34)) 34 [("text" : Str), ("parts" : Str), ("low" : Str), ("high" : Str), ("stretch" : Str)] "stretch_in" ir24 := fun P w K mg base fa cdv A outer s H E Θ k C hp po bt =>
  (d_scons (d_if (PW.pt (d_wor (d_tc (o_niFl C) (d_sl s_str (d_var 0) d_on (d_os d_int)) (d_tup (d_cons (d_str (by decide +kernel)) (d_cons (d_str (by decide +kernel)) d_nil)))) (d_wor1 (d_tc (o_niFl C) (d_sl s_str (d_var 0) (d_os (d_neg d_int)) d_on) (d_tup (d_cons (d_str (by decide +kernel)) (d_cons (d_str (by decide +kernel)) d_nil))))))) (d_scons (d_ret d_non) d_snil) d_snil) (d_scons (d_set C 1 (d_call C hp 23 (d_cons (d_sl s_str (d_var 0) (d_os d_int) (d_os (d_neg d_int))) d_nil))) (d_scons (d_if (d_tc o_isN (d_var 1) d_non) (d_scons (d_ret d_non) d_snil) d_snil) (d_scons (d_par C 2 3 (d_call C hp 17 (d_cons (d_ix (i_T C) (d_var 1) d_int) d_nil)) (d_ite (d_tc (o_eqD C) (d_ix (i_T C) (d_var 1) d_int) (d_str (by decide +kernel))) d_non (d_call C hp 17 (d_cons (d_ix (i_T C) (d_var 1) d_int) d_nil)))) (d_scons (d_if (PW.pt (d_wor (d_tc o_isN (d_var 2) d_non) (d_wor1 (PW.pt (d_wand (d_tc o_isN (d_var 3) d_non) (d_wand1 (d_tc (o_neD C) (d_ix (i_T C) (d_var 1) d_int) (d_str (by decide +kernel))))))))) (d_scons (d_ret d_non) d_snil) d_snil) (d_scons (d_set C 4 (d_tup (d_cons (d_var 2) (d_cons (d_bltT C c_intB (d_cmp (o_eqD C) (d_ix i_S (d_var 0) d_int) (d_str (by decide +kernel)))) (d_cons (d_var 3) (d_cons (d_bltT C c_intB (d_cmp (o_eqD C) (d_ix i_S (d_var 0) (d_neg d_int)) (d_str (by decide +kernel)))) d_nil)))))) (d_scons (d_ret (d_ite (d_tv (d_call C hp 9 (d_cons (d_var 4) d_nil))) (d_var 4) d_non)) d_snil)))))))
theorem D25 : Der (defBody (topS 35)) 35 [("text" : Str)] "read_stretch" ir25 := fun P w K mg base fa cdv A outer s H E Θ k C hp po bt =>
  (d_scons (d_ret (d_call C hp 16 (d_cons (d_var 0) (d_cons (d_fnv C 24) d_nil)))) d_snil)
theorem D26 : Der (defBody (topS 36)) 36 [("line" : Str), ("words" : Str)] "round_in" ir26 := fun P w K mg base fa cdv A outer s H E Θ k C hp po bt =>
  (d_scons (d_set C 1 (d_split (d_var 0) (d_str (by decide +kernel)))) (d_scons (d_ret (d_ite (PW.pt (d_wand (d_tc (o_eqD C) (d_bltB C (c_lenQ C) (d_var 1)) d_int) (d_wand1 (d_tc (o_eqD C) (d_ix (i_L C) (d_var 1) d_int) (d_str (by decide +kernel)))))) (d_call C hp 15 (d_cons (d_sl (s_lst C) (d_var 1) (d_os d_int) d_on) d_nil)) d_non)) d_snil))
theorem D27 : Der (defBody (topS 37)) 37 [("text" : Str), ("found" : Str), ("its_round" : Str), ("index" : Str), ("line" : Str), ("stretch" : Str)] "read_span" ir27 := fun P w K mg base fa cdv A outer s H E Θ k C hp po bt =>
  (d_scons (d_par C 1 2 (d_lst d_nil) d_non) (d_scons (d_for C po (d_ie C (d_ite (d_tc (o_neD C) (d_var 0) (d_str (by decide +kernel))) (d_split (d_var 0) (d_str (by decide +kernel))) (d_lst d_nil))) (d_gt C (d_g1 (d_gn C 3) (d_g1 (d_gn C 4) d_g0))) (d_scons (d_if (d_tc o_ntN (d_var 2) d_non) (d_scons (d_rse C bt (d_op o_addI (d_var 3) d_int) d_int) d_snil) d_snil) (d_scons (d_par C 5 2 (d_call C hp 24 (d_cons (d_var 4) d_nil)) (d_call C hp 26 (d_cons (d_var 4) d_nil))) (d_scons (d_if (PW.pt (d_wand (d_tc o_isN (d_var 5) d_non) (d_wand1 (d_tc o_isN (d_var 2) d_non)))) (d_scons (d_rse C bt (d_op o_addI (d_var 3) d_int) d_int) d_snil) d_snil) (d_scons (d_if (d_tc o_ntN (d_var 5) d_non) (d_scons (d_app C 1 (d_var 5)) d_snil) d_snil) d_snil))))) (d_sfrz (d_scons (d_ret (d_tup (d_cons (d_bltT C (c_tupL C) (d_var 1)) (d_cons (d_var 2) d_nil)))) d_snil))))
theorem D28 : Der (defBody (topS 38)) 38 [("text" : Str), ("parts" : Str), ("part" : Str), ("points" : Str), ("rate" : Str), ("words" : Str), ("point" : Str)] "clock_in" ir28 := fun P w K mg base fa cdv A outer s H E Θ k C hp po bt =>
  (d_scons (d_setLc C 1 (d_il C (d_split (d_var 0) (d_str (by decide +kernel)))) (fun s H D cl fp C => (d_gn C 2)) (fun s H D cl fp C hp => (d_split (d_var 2) (d_str (by decide +kernel)))) (own := [("part", 2)])) (d_scons (d_par C 3 4 (d_lc C (d_il C (d_sl (s_lst C) (d_var 1) d_on (d_os (d_neg d_int)))) (fun s H D cl fp C => (d_gn C 5)) (fun s H D cl fp C hp => (d_call C hp 15 (d_cons (d_var 5) d_nil))) (own := [("words", 5)])) (d_call C hp 15 (d_cons (d_sl (s_lst C) (d_ix (i_L C) (d_var 1) (d_neg d_int)) (d_os d_int) d_on) d_nil))) (d_scons (d_if (PW.pt (d_wor (d_tc (o_eqD C) (d_var 3) (d_lst d_nil)) (d_wor (d_tc (o_inLd C) d_non (d_var 3)) (d_wor (d_tc o_isN (d_var 4) d_non) (d_wor (d_tc (o_neD C) (d_ix (i_L C) (d_ix (i_L C) (d_var 1) (d_neg d_int)) d_int) (d_str (by decide +kernel))) (d_wor1 (d_tc (o_neD C) (d_bltB C (c_lenQ C) (d_var 4)) d_int))))))) (d_scons (d_ret d_non) d_snil) d_snil) (d_scons (d_if (d_tnot (d_tv (d_bltB C (c_allB C) (d_lc C (d_il C (d_var 3)) (fun s H D cl fp C => (d_gn C 6)) (fun s H D cl fp C hp => (d_cmp (o_eqD C) (d_bltB C (c_lenQ C) (d_var 6)) d_int)) (own := [("point", 6)]))))) (d_scons (d_ret d_non) d_snil) d_snil) (d_scons (d_ret (d_tup (d_cons (d_bltT C (c_tupL C) (d_var 3)) (d_cons (d_ix (i_T C) (d_var 4) d_int) d_nil)))) d_snil)))))
theorem D29 : Der (defBody (topS 39)) 39 [("text" : Str)] "read_clock" ir29 := fun P w K mg base fa cdv A outer s H E Θ k C hp po bt =>
  (d_scons (d_ret (d_call C hp 16 (d_cons (d_var 0) (d_cons (d_fnv C 28) d_nil)))) d_snil)
theorem D31 : Der (defBody (topS 42)) 42 [("bag" : Str), ("many" : Str), ("cell" : Str), ("stirred" : Str), ("value" : Str), ("begin" : Str), ("second" : Str)] "_law_take" ir31 := fun P w K mg base fa cdv A outer s H E Θ k C hp po bt =>
  (d_scons (d_if (d_tc (o_eqD C) (d_bget C 0 0) d_int) (d_scons (d_set C 2 (d_ix (i_L C) (d_op o_catL (d_sl (s_lst C) (d_bget C 0 3) (d_os (d_bget C 0 2)) d_on) (d_lst (d_cons d_int d_nil))) d_int)) (d_scons (d_baug C 0 2 d_int) (d_scons (d_if (d_tc o_geI (d_var 2) (d_pow (by decide) (by decide) (by decide) (by decide))) (d_scons (d_bset C 0 0 (d_var 2)) d_snil) d_snil) (d_scons (d_set C 3 (d_op o_addI (d_op o_addI (d_op o_mulI (d_bget C 0 1) d_int) (d_op o_modI (d_bltT C c_intI (d_var 2)) d_int)) (d_op o_mulI d_int (d_bget C 0 2)))) (d_scons (d_bset C 0 1 (d_op o_modI (d_bltT C c_intI (d_var 3)) d_int)) d_snil))))) d_snil) (d_scons (d_if (d_tc o_gtI (d_bget C 0 0) d_int) (d_scons (d_set C 4 (d_op o_modI (d_bltT C c_intI (d_bget C 0 0)) (d_var 1))) (d_scons (d_bset C 0 0 (d_op o_divI (d_bltT C c_intI (d_bget C 0 0)) (d_var 1))) (d_scons (d_ret (d_var 4)) d_snil))) d_snil) (d_scons (d_set C 5 (d_op o_modI (d_bltT C c_intI (d_op o_mulI (d_op o_addI (d_bget C 0 1) d_int) d_int)) d_int)) (d_scons (d_set C 6 (d_op o_modI (d_bltT C c_intI (d_op o_mulI (d_op o_modI (d_bltT C c_intI (d_op o_mulI (d_var 5) (d_var 5))) d_int) d_int)) d_int)) (d_scons (d_ret (d_op o_modI (d_bltT C c_intI (d_op o_divI (d_var 6) d_int)) (d_var 1))) d_snil)))))
theorem D32 : Der (defBody (topS 43)) 43 [("bag" : Str), ("things" : Str)] "_law_some" ir32 := fun P w K mg base fa cdv A outer s H E Θ k C hp po bt =>
  (d_scons (d_ret (d_ix (i_L C) (d_var 1) (d_call C hp 31 (d_cons (d_var 0) (d_cons (d_bltB C (c_lenQ C) (d_var 1)) d_nil))))) d_snil)
theorem D34 : Der (defBody (topS 45)) 45 [("a" : Str), ("b" : Str)] "_law_gcd" ir34 := fun P w K mg base fa cdv A outer s H E Θ k C hp po bt =>
  (d_scons (d_whl po (d_tc (o_neD C) (d_var 1) d_int) (d_scons (d_par C 0 1 (d_var 1) (d_op o_modI (d_var 0) (d_var 1))) d_snil)) (d_scons (d_ret (d_bltB C c_abs (d_var 0))) d_snil))
theorem D35 : Der (defBody (topS 46)) 46 [("top" : Str), ("bottom" : Str), ("part" : Str)] "_law_fraction" ir35 := fun P w K mg base fa cdv A outer s H E Θ k C hp po bt =>
  (d_scons (d_if (d_tc o_ltI (d_var 1) d_int) (d_scons (d_par C 0 1 (d_neg (d_var 0)) (d_neg (d_var 1))) d_snil) d_snil) (d_scons (d_set C 2 (d_call C hp 34 (d_cons (d_var 0) (d_cons (d_var 1) d_nil)))) (d_scons (d_ret (d_tup (d_cons (d_op o_divI (d_var 0) (d_var 2)) (d_cons (d_op o_divI (d_var 1) (d_var 2)) d_nil)))) d_snil)))
theorem D36 : Der (defBody (topS 47)) 47 [("one" : Str), ("other" : Str)] "_law_plus" ir36 := fun P w K mg base fa cdv A outer s H E Θ k C hp po bt =>
  (d_scons (d_ret (d_call C hp 35 (d_cons (d_op o_addI (d_op o_mulI (d_ix (i_T C) (d_var 0) d_int) (d_ix (i_T C) (d_var 1) d_int)) (d_op o_mulI (d_ix (i_T C) (d_var 1) d_int) (d_ix (i_T C) (d_var 0) d_int))) (d_cons (d_op o_mulI (d_ix (i_T C) (d_var 0) d_int) (d_ix (i_T C) (d_var 1) d_int)) d_nil)))) d_snil)
theorem D37 : Der (defBody (topS 48)) 48 [("one" : Str)] "_law_frac_text" ir37 := fun P w K mg base fa cdv A outer s H E Θ k C hp po bt =>
  (d_scons (d_ret (d_ite (d_tc (o_eqD C) (d_ix (i_T C) (d_var 0) d_int) d_int) (d_bltT C c_strI (d_ix (i_T C) (d_var 0) d_int)) (d_op o_addS (d_op o_addS (d_bltT C c_strI (d_ix (i_T C) (d_var 0) d_int)) (d_str (by decide +kernel))) (d_bltT C c_strI (d_ix (i_T C) (d_var 0) d_int))))) d_snil)
theorem D38 : Der (defBody (topS 49)) 49 [("parts" : Str), ("one" : Str)] "_law_words" ir38 := fun P w K mg base fa cdv A outer s H E Θ k C hp po bt =>
  (d_scons (d_ret (d_join C (d_str (by decide +kernel)) (d_lc C (d_it C (d_var 0)) (fun s H D cl fp C => (d_gn C 1)) (fun s H D cl fp C hp => (d_ite (d_tv (d_isi C (d_var 1))) (d_call C hp 37 (d_cons (d_var 1) d_nil)) (d_var 1))) (own := [("one", 1)])))) d_snil)
theorem D39 : Der (defBody (topS 50)) 50 [("moment" : Str)] "_law_moment_text" ir39 := fun P w K mg base fa cdv A outer s H E Θ k C hp po bt =>
  (d_scons (d_if (d_tc (o_eqD C) (d_bltB C (c_lenQ C) (d_var 0)) d_int) (d_scons (d_ret (d_call C hp 37 (d_cons (d_var 0) d_nil))) d_snil) d_snil) (d_scons (d_ret (d_op o_addS (d_op o_addS (d_str (by decide +kernel)) (d_join C (d_str (by decide +kernel)) (d_lst (d_cons (d_call C hp 38 (d_cons (d_ix (i_T C) (d_var 0) d_int) d_nil)) (d_cons (d_call C hp 37 (d_cons (d_ix (i_T C) (d_var 0) d_int) d_nil)) (d_cons (d_call C hp 37 (d_cons (d_ix (i_T C) (d_var 0) d_int) d_nil)) d_nil)))))) (d_str (by decide +kernel)))) d_snil))
theorem D40 : Der (defBody (topS 51)) 51 [("bag" : Str), ("number" : Str), ("root" : Str)] "_law_moment" ir40 := fun P w K mg base fa cdv A outer s H E Θ k C hp po bt =>
  (d_scons (d_set C 2 (d_tup (d_cons (d_tup (d_cons (d_neg d_int) (d_cons d_int d_nil))) (d_cons (d_tup (d_cons d_int (d_cons d_int d_nil))) (d_cons (d_tup (d_cons d_int (d_cons d_int d_nil))) d_nil))))) (d_scons (d_ret (d_call C hp 32 (d_cons (d_var 0) (d_cons (d_lst (d_cons (d_tup (d_cons (d_var 1) (d_cons d_int d_nil))) (d_cons (d_tup (d_cons (d_op o_addI (d_op o_mulI d_int (d_var 1)) d_int) (d_cons d_int d_nil))) (d_cons (d_tup (d_cons (d_var 2) (d_cons (d_tup (d_cons d_int (d_cons d_int d_nil))) (d_cons (d_tup (d_cons d_int (d_cons d_int d_nil))) d_nil)))) (d_cons (d_tup (d_cons (d_tup (d_cons (d_tup (d_cons (d_neg d_int) (d_cons d_int d_nil))) (d_cons (d_tup (d_cons d_int (d_cons d_int d_nil))) (d_cons (d_tup (d_cons d_int (d_cons d_int d_nil))) d_nil)))) (d_cons (d_tup (d_cons d_int (d_cons d_int d_nil))) (d_cons (d_tup (d_cons d_int (d_cons d_int d_nil))) d_nil)))) (d_cons (d_tup (d_cons (d_var 1) (d_cons d_int d_nil))) d_nil)))))) d_nil)))) d_snil))
theorem D41 : Der (defBody (topS 52)) 52 [("bag" : Str), ("number" : Str), ("high" : Str)] "_law_one" ir41 := fun P w K mg base fa cdv A outer s H E Θ k C hp po bt =>
  (d_scons (d_set C 2 (d_call C hp 32 (d_cons (d_var 0) (d_cons (d_lst (d_cons d_non (d_cons (d_call C hp 40 (d_cons (d_var 0) (d_cons (d_op o_addI (d_var 1) d_int) d_nil))) (d_cons (d_call C hp 40 (d_cons (d_var 0) (d_cons (d_var 1) d_nil))) d_nil)))) d_nil)))) (d_scons (d_ret (d_tup (d_cons (d_call C hp 40 (d_cons (d_var 0) (d_cons (d_var 1) d_nil))) (d_cons (d_call C hp 31 (d_cons (d_var 0) (d_cons d_int d_nil))) (d_cons (d_var 2) (d_cons (d_ite (d_tc o_isN (d_var 2) d_non) d_int (d_call C hp 31 (d_cons (d_var 0) (d_cons d_int d_nil)))) d_nil)))))) d_snil))
theorem D42 : Der (defBody (topS 53)) 53 [("stretch" : Str), ("low" : Str), ("low_in" : Str), ("high" : Str), ("high_in" : Str), ("end" : Str)] "_law_line" ir42 := fun P w K mg base fa cdv A outer s H E Θ k C hp po bt =>
  (d_scons (d_asg (d_var 0) (d_gt C (d_g1 (d_gn C 1) (d_g1 (d_gn C 2) (d_g1 (d_gn C 3) (d_g1 (d_gn C 4) d_g0)))))) (d_scons (d_set C 5 (d_ite (d_tc o_isN (d_var 3) d_non) (d_str (by decide +kernel)) (d_call C hp 39 (d_cons (d_var 3) d_nil)))) (d_scons (d_ret (d_op o_addS (d_op o_addS (d_op o_addS (d_op o_addS (d_ix i_S (d_str (by decide +kernel)) (d_var 2)) (d_call C hp 39 (d_cons (d_var 1) d_nil))) (d_str (by decide +kernel))) (d_var 5)) (d_ix i_S (d_str (by decide +kernel)) (d_var 4)))) d_snil)))
theorem D44 : DerG ((defBody (topS 55)).drop 1) 55 [("script" : Str), ("bag" : Str), ("bad" : Str), ("lap" : Str), ("stretches" : Str), ("again" : Str), ("lines" : Str), ("whole" : Str), ("text" : Str), ("k" : Str), ("clock" : Str), ("row" : Str), ("odd" : Str), ("stretch" : Str), ("line" : Str), ("wrong" : Str), ("at" : Str), ("points" : Str), ("shown" : Str), ("events" : Str), ("told" : Str), ("moment" : Str), ("changes" : Str), ("name" : Str), ("time" : Str), ("word" : Str), ("truth" : Str)] "law" ir44 := fun P w K mg base fa cdv A outer s H E Θ k C hp po bt cg =>
  (d_scons (d_set C 2 (d_lst (d_cons (d_str (by decide +kernel)) (d_cons (d_str (by decide +kernel)) (d_cons (d_str (by decide +kernel)) (d_cons (d_str (by decide +kernel)) (d_cons (d_str (by decide +kernel)) (d_cons (d_str (by decide +kernel)) (d_cons (d_str (by decide +kernel)) (d_cons (d_str (by decide +kernel)) (d_cons (d_str (by decide +kernel)) (d_cons (d_str (by decide +kernel)) (d_cons (d_str (by decide +kernel)) (d_cons (d_str (by decide +kernel)) (d_cons (d_str (by decide +kernel)) (d_cons (d_str (by decide +kernel)) d_nil)))))))))))))))) (d_scons (d_for C po (d_ir C d_int) (d_gn C 3) (d_scons (d_set C 4 (d_bltT C (c_tupL C) (d_lc C (d_ir C (d_call C hp 31 (d_cons (d_var 1) (d_cons d_int d_nil)))) (fun s H D cl fp C => (d_gn C 9)) (fun s H D cl fp C hp => (d_call C hp 41 (d_cons (d_var 1) (d_cons (d_var 9) d_nil)))) (own := [("k", 9)])))) (d_scons (d_set C 5 (d_call C hp 32 (d_cons (d_var 1) (d_cons (d_lst (d_cons d_non (d_cons (d_tup (d_cons (d_tup (d_cons (d_call C hp 31 (d_cons (d_var 1) (d_cons d_int d_nil))) (d_cons d_int d_nil))) (d_cons (d_tup (d_cons (d_op o_addI d_int (d_call C hp 31 (d_cons (d_var 1) (d_cons d_int d_nil)))) (d_cons (d_ite (d_tc (o_eqD C) (d_call C hp 31 (d_cons (d_var 1) (d_cons d_int d_nil))) d_int) d_int d_int) d_nil))) d_nil))) d_nil))) d_nil)))) (d_scons (d_set C 5 (d_ite (d_tc o_isN (d_var 5) d_non) d_non (d_tup (d_cons (d_ix (i_T C) (d_var 5) d_int) (d_cons (d_call C hp 35 (d_cons (d_ix (i_T C) (d_ix (i_T C) (d_var 5) d_int) d_int) (d_cons (d_ix (i_T C) (d_ix (i_T C) (d_var 5) d_int) d_int) d_nil))) d_nil))))) (d_scons (d_setLc C 6 (d_it C (d_var 4)) (fun s H D cl fp C => (d_gn C 13)) (fun s H D cl fp C hp => (d_call C hp 42 (d_cons (d_var 13) d_nil))) (own := [("stretch", 13)])) (d_scons (d_set C 7 (d_op o_catL (d_var 6) (d_ite (d_tc o_ntN (d_var 5) d_non) (d_lst (d_cons (d_op o_addS (d_op o_addS (d_op o_addS (d_str (by decide +kernel)) (d_call C hp 37 (d_cons (d_ix (i_T C) (d_var 5) d_int) d_nil))) (d_str (by decide +kernel))) (d_call C hp 37 (d_cons (d_ix (i_T C) (d_var 5) d_int) d_nil))) d_nil)) (d_lst d_nil)))) (d_scons (d_set C 8 (d_join C (d_str (by decide +kernel)) (d_var 7))) (d_scons (d_if (d_tnot (d_tv (d_callG (cg 33 _ (by decide)) (d_cons (d_lst (d_cons (d_call C hp 19 (d_cons (d_tup (d_cons (d_var 4) (d_cons (d_var 5) d_nil))) d_nil)) (d_cons (d_call C hp 27 (d_cons (d_var 8) d_nil)) d_nil))) (d_cons (d_lst (d_cons (d_var 8) (d_cons (d_tup (d_cons (d_var 4) (d_cons (d_var 5) d_nil))) d_nil))) d_nil))))) (d_scons (d_ret d_bl) d_snil) d_snil) (d_scons (d_for C po (d_iz C (d_var 4) (d_var 6)) (d_gt C (d_g1 (d_gn C 13) (d_g1 (d_gn C 14) d_g0))) (d_scons (d_if (PW.pt (d_wor (d_tnot (d_tv (d_callG (cg 33 _ (by decide)) (d_cons (d_lst (d_cons (d_call C hp 18 (d_cons (d_var 13) d_nil)) (d_cons (d_call C hp 25 (d_cons (d_var 14) d_nil)) d_nil))) (d_cons (d_lst (d_cons (d_var 14) (d_cons (d_var 13) d_nil))) d_nil))))) (d_wor (d_tnot (d_tv (d_callG (cg 43 _ (by decide)) (d_cons (d_fnv C 25) (d_cons (d_op o_addS (d_var 14) (d_str (by decide +kernel))) (d_cons d_int d_nil)))))) (d_wor1 (d_tnot (d_tv (d_callG (cg 43 _ (by decide)) (d_cons (d_fnv C 25) (d_cons (d_op o_addS (d_op o_addS (d_var 14) (d_str (by decide +kernel))) (d_var 14)) (d_cons d_int d_nil)))))))))) (d_scons (d_ret d_bl) d_snil) d_snil) d_snil)) (d_scons (d_par C 15 16 (d_call C hp 32 (d_cons (d_var 1) (d_cons (d_var 2) d_nil))) (d_call C hp 31 (d_cons (d_var 1) (d_cons (d_op o_addI (d_bltB C (c_lenQ C) (d_var 6)) d_int) d_nil)))) (d_scons (d_if (PW.pt (d_wand (d_tc (o_neD C) (d_var 15) (d_str (by decide +kernel))) (d_wand1 (d_tnot (d_tv (d_callG (cg 43 _ (by decide)) (d_cons (d_fnv C 27) (d_cons (d_join C (d_str (by decide +kernel)) (d_op o_catL (d_op o_catL (d_sl (s_lst C) (d_var 6) d_on (d_os (d_var 16))) (d_lst (d_cons (d_var 15) d_nil))) (d_sl (s_lst C) (d_var 6) (d_os (d_var 16)) d_on))) (d_cons (d_op o_addI (d_var 16) d_int) d_nil))))))))) (d_scons (d_ret d_bl) d_snil) d_snil) (d_scons (d_if (PW.pt (d_wor (PW.pt (d_wand (d_tc (o_neD C) (d_var 15) (d_str (by decide +kernel))) (d_wand1 (d_tnot (d_tv (d_callG (cg 43 _ (by decide)) (d_cons (d_fnv C 25) (d_cons (d_var 15) (d_cons d_int d_nil))))))))) (d_wor1 (PW.pt (d_wand (d_tc o_ntN (d_var 5) d_non) (d_wand1 (d_tnot (d_tv (d_callG (cg 43 _ (by decide)) (d_cons (d_fnv C 27) (d_cons (d_op o_addS (d_op o_addS (d_var 8) (d_str (by decide +kernel))) (d_call C hp 32 (d_cons (d_var 1) (d_cons (d_lst (d_cons (d_str (by decide +kernel)) (d_cons (d_str (by decide +kernel)) (d_cons (d_str (by decide +kernel)) d_nil)))) d_nil)))) (d_cons (d_op o_addI (d_bltB C (c_lenQ C) (d_var 7)) d_int) d_nil)))))))))))) (d_scons (d_ret d_bl) d_snil) d_snil) (d_scons (d_par C 17 18 (d_lst (d_cons (d_tup (d_cons (d_tup (d_cons d_int (d_cons d_int d_nil))) (d_cons (d_tup (d_cons d_int (d_cons d_int d_nil))) d_nil))) d_nil)) (d_tup (d_cons d_int (d_cons d_int d_nil)))) (d_scons (d_for C po (d_ir C (d_call C hp 31 (d_cons (d_var 1) (d_cons d_int d_nil)))) (d_gn C 9) (d_scons (d_set C 18 (d_call C hp 36 (d_cons (d_var 18) (d_cons (d_call C hp 32 (d_cons (d_var 1) (d_cons (d_lst (d_cons (d_tup (d_cons d_int (d_cons d_int d_nil))) (d_cons (d_tup (d_cons d_int (d_cons d_int d_nil))) (d_cons (d_tup (d_cons d_int (d_cons d_int d_nil))) d_nil)))) d_nil))) d_nil)))) (d_scons (d_app C 17 (d_tup (d_cons (d_tup (d_cons (d_op o_addI (d_var 9) d_int) (d_cons d_int d_nil))) (d_cons (d_var 18) d_nil)))) d_snil))) (d_sfrz (d_scons (d_set C 10 (d_tup (d_cons (d_bltT C (c_tupL C) (d_var 17)) (d_cons (d_call C hp 32 (d_cons (d_var 1) (d_cons (d_lst (d_cons (d_tup (d_cons d_int (d_cons d_int d_nil))) (d_cons (d_tup (d_cons d_int (d_cons d_int d_nil))) (d_cons (d_tup (d_cons d_int (d_cons d_int d_nil))) (d_cons (d_tup (d_cons (d_neg d_int) (d_cons d_int d_nil))) d_nil))))) d_nil))) d_nil)))) (d_scons (d_set C 11 (d_join C (d_str (by decide +kernel)) (d_op o_catL (d_lc C (d_it C (d_ix (i_T C) (d_var 10) d_int)) (fun s H D cl fp C => (d_gt C (d_g1 (d_gn C 24) (d_g1 (d_gn C 20) d_g0)))) (fun s H D cl fp C hp => (d_op o_addS (d_op o_addS (d_call C hp 37 (d_cons (d_var 24) d_nil)) (d_str (by decide +kernel))) (d_call C hp 37 (d_cons (d_var 20) d_nil)))) (own := [("time", 24), ("told", 20)])) (d_lst (d_cons (d_op o_addS (d_str (by decide +kernel)) (d_call C hp 37 (d_cons (d_ix (i_T C) (d_var 10) d_int) d_nil))) d_nil))))) (d_scons (d_if (PW.pt (d_wor (d_tnot (d_tv (d_callG (cg 33 _ (by decide)) (d_cons (d_lst (d_cons (d_call C hp 20 (d_cons (d_var 10) d_nil)) (d_cons (d_call C hp 29 (d_cons (d_var 11) d_nil)) d_nil))) (d_cons (d_lst (d_cons (d_var 11) (d_cons (d_var 10) d_nil))) d_nil))))) (d_wor1 (d_tnot (d_tv (d_callG (cg 43 _ (by decide)) (d_cons (d_fnv C 29) (d_cons (d_op o_addS (d_var 11) (d_str (by decide +kernel))) (d_cons d_int d_nil))))))))) (d_scons (d_ret d_bl) d_snil) d_snil) (d_scons (d_for C po (d_it C (d_tup (d_consT0 (by decide +kernel) (d_consT (CwR.PET.of (d_op o_addS (d_var 11) (d_str (by decide +kernel)))) (d_consT (CwR.PET.of (d_op o_addS (d_sl s_str (d_var 11) d_on (d_os (d_neg d_int))) (d_str (by decide +kernel)))) (d_consT (CwR.PET.of (d_str (by decide +kernel))) (d_consT (CwR.PET.of (d_str (by decide +kernel))) (d_consT (CwR.PET.of (d_str (by decide +kernel))) (d_consT (CwR.PET.of (d_str (by decide +kernel))) (d_consT (CwR.PET.of (d_str (by decide +kernel))) (d_consT (d_repl (d_var 11) (by decide +kernel) (by decide +kernel)) d_nilT))))))))))) (d_gn C 12) (d_scons (d_if (d_tnot (d_tv (d_callG (cg 43 _ (by decide)) (d_cons (d_fnv C 29) (d_cons (d_var 12) (d_cons d_int d_nil)))))) (d_scons (d_ret d_bl) d_snil) d_snil) d_snil)) (d_scons (d_par C 19 20 (d_lst d_nil) (d_lst d_nil)) (d_scons (d_for C po (d_ir C (d_call C hp 31 (d_cons (d_var 1) (d_cons d_int d_nil)))) (d_gn C 9) (d_scons (d_set C 21 (d_call C hp 40 (d_cons (d_var 1) (d_cons (d_var 9) d_nil)))) (d_scons (d_set C 22 (d_bltT C (c_tupL C) (d_lc C (d_il C (d_sl (s_lst C) (d_lst (d_cons (d_str (by decide +kernel)) (d_cons (d_str (by decide +kernel)) d_nil))) d_on (d_os (d_op o_addI d_int (d_call C hp 31 (d_cons (d_var 1) (d_cons d_int d_nil))))))) (fun s H D cl fp C => (d_gn C 23)) (fun s H D cl fp C hp => (d_tup (d_cons (d_var 23) (d_cons (d_call C hp 32 (d_cons (d_var 1) (d_cons (d_lst (d_cons (d_str (by decide +kernel)) (d_cons (d_str (by decide +kernel)) (d_cons (d_str (by decide +kernel)) (d_cons (d_str (by decide +kernel)) d_nil))))) d_nil))) (d_cons (d_cmp (o_eqD C) (d_call C hp 31 (d_cons (d_var 1) (d_cons d_int d_nil))) d_int) d_nil))))) (own := [("name", 23)])))) (d_scons (d_app C 19 (d_tup (d_cons (d_var 21) (d_cons (d_var 22) d_nil)))) (d_scons (d_app C 20 (d_join C (d_str (by decide +kernel)) (d_op o_catL (d_lst (d_cons (d_call C hp 39 (d_cons (d_var 21) d_nil)) d_nil)) (d_lc C (d_it C (d_var 22)) (fun s H D cl fp C => (d_gt C (d_g1 (d_gn C 23) (d_g1 (d_gn C 25) (d_g1 (d_gn C 26) d_g0))))) (fun s H D cl fp C hp => (d_op o_addS (d_op o_addS (d_var 23) (d_str (by decide +kernel))) (d_var 25))) (own := [("name", 23), ("word", 25), ("truth", 26)]))))) d_snil))))) (d_sfrz (d_sfrz (d_scons (d_if (d_tnot (d_tv (d_callG (cg 33 _ (by decide)) (d_cons (d_lst (d_cons (d_call C hp 22 (d_cons (d_bltT C (c_tupL C) (d_var 19)) d_nil)) (d_cons (d_call C hp 27 (d_cons (d_str (by decide +kernel)) d_nil)) (d_cons (d_call C hp 19 (d_cons (d_tup (d_cons (d_tup d_nil) (d_cons d_non d_nil))) d_nil)) d_nil)))) (d_cons (d_lst (d_cons (d_join C (d_str (by decide +kernel)) (d_var 20)) (d_cons (d_tup (d_cons (d_tup d_nil) (d_cons d_non d_nil))) (d_cons (d_str (by decide +kernel)) d_nil)))) d_nil))))) (d_scons (d_ret d_bl) d_snil) d_snil) d_snil)))))))))))))))))))))))) (d_scons (d_ret d_bl) d_snil)))
end G

/-! A def's body at one activation; what cannot be told apart. -/
namespace G
open PySem PySem.Spec PyProof.Rows L2
/-- as cxOf, calm or not -/
def cxA (b : Bool) (CX : CXT) (P : Program) (w : World) (K : PySem.W.Frag) (mg : Str → Option Value) (base : Heap) (N : List Str) (qual : Str) (scope : Scope) (f : Addr) (cd : Value) (A : Around) (outer : List Env) (s : Shared) (H : Hp) (E : XK) : Cx :=
  { cxOf CX P w K mg base N qual scope f cd A outer s H E with calm := b }
section
variable {b : Bool} {CX : CXT} {P : Program} {w : World} {K : PySem.W.Frag} {mg : Str → Option Value} {base : Heap} {N ps : List Str} {qual name : Str} {scope : Scope} {f : Addr} {cdv : Value} {A : Around} {outer : List Env} {s s1 : Shared} {H : Hp} {E : XK} {us : List Value} {vs : List V} {Q : VK}
theorem inv_at (S : FnScope N ps scope) (hh : b = true → A.handled = none) (e0 : Env0 P w K mg base A outer s H) (hl : vs.length = ps.length) (r : Vals vs us)
    (x : InCallC s s.heap.objs.size (bindL (envOfC qual scope s.heap.objs.size f cdv).kindOf (ps.zip us) fun _ => none) (cellsFrom (s.heap.objs.size + 1) scope.names []) (bindC (envOfC qual scope s.heap.objs.size f cdv).kindOf (ps.zip us) fun _ => none) s1) :
    Inv (cxA b CX P w K mg base N qual scope f cdv A outer s H E) [] (L2.start N vs) H s1 := by
  have I := inv_start (A := { A with handled := none }) (CX := CX) (E := E) S rfl ⟨e0.frames, e0.mod, e0.bs, e0.bsz, e0.funs, e0.frf, e0.hok, e0.bare⟩ hl r x
  exact ⟨⟨I.ok.mod, I.ok.kind, I.ok.glob, I.ok.blt, I.ok.above, I.ok.inj, I.ok.has, I.ok.cab, hh, Around.frames_deeper e0.frames, I.ok.stk, I.ok.exf, I.ok.bs, I.ok.bsz, I.ok.noex, I.ok.exfs, I.ok.funs, I.ok.frf⟩,
    I.os, I.bare, I.base, I.loc, I.cell, I.free, I.freeC, I.pin, I.hok, I.len⟩
/-- a def's call at A -/
theorem run_at {params : Arguments} {body : List Stmt} {dV kV doc pm ct oc : Value} {an od : Option Addr} {osl : Array (Option Value)} {args : Args} {t : TS}
    (lk : K.lookup f = some ⟨oc, od, .func (PySem.W.fnOf name qual params body scope dV kV doc pm an cdv ct), osl⟩) (hcd : PySem.W.codeIn K cdv qual = true) (S : FnScope N ps scope) (hh : b = true → A.handled = none) (hdp : A.depth < recursionLimit)
    (e0 : Env0 P w K mg base A outer s H) (hb : BindsTo s (PySem.W.fnOf name qual params body scope dV kV doc pm an cdv ct) args (ps.zip us)) (hl : vs.length = ps.length) (r : Vals vs us)
    (ht : PSs (cxA b CX P w K mg base N qual scope f cdv A outer s H E) body t) (hq : t { nx := fun _ H' => Q .non H', rt := Q } (L2.start N vs) H) :
    codeAny (model P w) A (.call (.ref f) args) (CR CX outer P w H s Q E) s := by
  have up : ∀ b o, base.get? b = some o → s.heap.get? b = some o := fun b o e => (e0.bs b o e).1
  have Kn : K.In s.heap := e0.mod.kin.keeps up
  have nl : s.heap.NoLimit := e0.mod.nolimit.keeps up
  refine codeAny_call_function hdp (Kn _ _ lk) rfl S.co S.gen rfl (PySem.W.codeRec_of Kn hcd) (hb _ _ _ _ ?_)
  refine wpAny_newFunctionEnv_cells S.kind (fun y hy => (S.par y.1 (List.of_mem_zip (a := y.1) (b := y.2) hy).1).elim .inl fun q => .inr ⟨q, PySem.W.cellsFrom_some _ _ _ (.inl q)⟩) fun env he s1 x => ?_
  subst he
  refine ⟨nl.keeps x.toInCall.keep, codeAny_func (wpAny_mono (ht.run [] s1 (L2.start N vs) H _ (inv_at S hh e0 hl r x) hq) (fun fl s' hs => ?_) fun e s' hs => hs)⟩
  cases fl with
  | next =>
    obtain ⟨σ', H', J, q⟩ := hs
    exact ⟨V.non, H', J.os, J.bare, J.base, J.hok, rfl, q⟩
  | ret u =>
    obtain ⟨v, σ', H', J, rv, q⟩ := hs
    exact ⟨v, H', J.os, J.bare, J.base, J.hok, rv, q⟩
  | cont =>
    obtain ⟨_, _, _, q⟩ := hs
    exact q.elim
  | brk =>
    obtain ⟨_, _, _, q⟩ := hs
    exact q.elim
end
/-- repr(e), e a list -/
def rRepr (K : PySem.W.Frag) : List V → Hp → VK → Prop := fun xs H Q => ∃ (a : Addr) (d : PyData), xs = [.ref a] ∧ Dp K H (.ref a) d ∧ showOk d = true ∧ Q (.str d.shown) H
theorem showOk_parts {d : PyData} (h : showOk d = true) : shp d = true ∧ d.showable = true ∧ d.hasDict = false ∧ PyData.layable0 d = true ∧ PyData.intsShort 13 d = true := by
  unfold showOk at h
  simp only [Bool.and_eq_true, Bool.not_eq_true'] at h
  exact ⟨h.1, h.2.1, h.2.2.1, h.2.2.2.1, h.2.2.2.2⟩
theorem call_repr {X : Cx} (hg : X.A.guards = some []) (hu : X.A.units + 70 < cLine) : CallR X (.builtin "repr") (rRepr X.K) := by
  intro pins s σ H xs us Q I rx h
  obtain ⟨a, d, rfl, hd, ok, q⟩ := h
  obtain ⟨u, rfl, ru⟩ := rx.one
  cases ru
  obtain ⟨as, rd⟩ := Dp.reads I d _ _ hd rfl
  obtain ⟨h1, h2, h3, h4, h5⟩ := showOk_parts ok
  have dd : d.depth ≤ 64 := SeqAt.depth_of_shaped (shp_of h1).2
  have sz := shown_le13 h4 h5
  refine repr_of_reads' rd h2 (fun z => by rw [h3] at z; cases z) hg (by omega) (fun _ _ e => e) (fun h' u tk hk => ⟨.str d.shown, H, I.kept (t' := tk) hk, ⟨u, rfl⟩, q⟩) (Nat.le_trans sz (by decide))
mutual
theorem sameD_eq : ∀ (a b : PD), sameD a b = true → a = b
  | .none, b, h => by cases b <;> first | rfl | cases h
  | .bool x, b, h => by
    cases b <;> try (cases h; done)
    rename_i y
    have q : (x == y) = true := h
    rw [beq_iff_eq.mp q]
  | .int x, b, h => by
    cases b <;> try (cases h; done)
    rename_i y
    have q : (x == y) = true := h
    rw [beq_iff_eq.mp q]
  | .str x, b, h => by
    cases b <;> try (cases h; done)
    rename_i y
    have q : (x == y) = true := h
    rw [beq_iff_eq.mp q]
  | .list x, b, h => by
    cases b <;> try (cases h; done)
    rename_i y
    rw [sameDs_eq x y h]
  | .tuple x, b, h => by
    cases b <;> try (cases h; done)
    rename_i y
    rw [sameDs_eq x y h]
  | .dict x, b, h => by cases b <;> cases h
theorem sameDs_eq : ∀ (a b : List PD), sameDs a b = true → a = b
  | [], [], _ => rfl
  | [], _ :: _, h => by cases h
  | _ :: _, [], h => by cases h
  | x :: xs, y :: ys, h => by
    have q : (sameD x y && sameDs xs ys) = true := h
    have q' := Bool.and_eq_true_iff.mp q
    rw [sameD_eq x y q'.1, sameDs_eq xs ys q'.2]
end
def tAlike (K : PySem.W.Frag) : TS := tRet (tAndV (tOp rEq (tCB (rRepr K) (tCons (tVar 0) tNil)) (tCB (rRepr K) (tCons (tVar 1) tNil))) (tOp (rEqD K) (tVar 0) (tVar 1)))
theorem eqv_self {d : PD} (h : shp d = true) : PyData.eqv d d = true := PySem.SeqAt.eqv_refl d (SeqAt.canLay_of_shaped (shp_of h).2)
section
variable {b : Bool} {P : Program} {w : World} {K : PySem.W.Frag} {mg : Str → Option Value} {base : Heap} {fa : Nat → Addr} {CB : Addr}
theorem alike_der {X : Cx} (hN : X.N = ([("found" : Str), "due"] : List Str)) (hg : X.A.guards = some []) (hu : X.A.units + 70 < cLine) (hs : X.env.scope = defScope (topS 44)) (hm : X.mg "repr" = none) : PSs X (defBody (topS 44)) (tAlike X.K) := by
  have v0 : X.N[0]? = some ("found" : Str) := by rw [hN]; rfl
  have v1 : X.N[1]? = some ("due" : Str) := by rw [hN]; rfl
  have l0 : Vis X.env.scope "found" := by rw [hs]; exact .inl (by rfl)
  have l1 : Vis X.env.scope "due" := by rw [hs]; exact .inl (by rfl)
  have gr : Gl X "repr" := by
    show X.env.scope.names.lookup ("repr" : Str) = _
    rw [hs]
    rfl
  have cr := call_repr (X := X) hg hu
  exact pss_one (ps_ret (pe_and (pe_cmpR op_eq (pe_callB cr gr hm (by rfl) (pa_cons (pe_var v0 l0) pa_nil)) (pe_callB cr gr hm (by rfl) (pa_cons (pe_var v1 l1) pa_nil)) (nomark _)) (pe_one (pe_cmpR (op_eqD (by omega)) (pe_var v0 l0) (pe_var v1 l1) (nomark _)))))
theorem pure_alike {c : Cn} {vs : List V} {H : Hp} {Q : VK} {E : XK} (h : SpOf c 2 alikeF vs H Q E) : tAlike c.K { nx := fun _ H' => Q .non H', rt := Q } (L2.start ["found", "due"] vs) H := by
  obtain ⟨B, F, g, ds, sb, bg, ra, hl, hp⟩ := h
  cases ra with
  | nil => cases hl
  | cons r1 ra =>
    cases ra with
    | nil => cases hl
    | cons r2 ra =>
      cases ra with
      | cons _ _ => simp at hl
      | nil =>
        rename_i v1 d1 v2 d2
        cases d1 <;> try exact False.elim hp
        cases d2 <;> try exact False.elim hp
        rename_i xs ys
        have hp' : Post c B E F H ((if showOk (.list xs) = true ∧ sameDs xs ys = true then ret (.bool true) else stk : M PD) g) (fun d _ F' H' => ∀ v, Rv c B F' v d → Q v H') := hp
        by_cases l : showOk (.list xs) = true ∧ sameDs xs ys = true
        · rw [if_pos l] at hp'
          have e := sameDs_eq xs ys l.2
          subst e
          have sh := (showOk_parts l.1).1
          have q : Q (.bl true) H := hp' F H (.refl sb) bg _ (.bl true)
          have dp1 := (shp_dp sb sh r1).1
          have dp2 := (shp_dp sb sh r2).1
          have sd := (shp_of sh).2
          cases r1 with
          | lst h1 _ =>
            cases r2 with
            | lst h2 _ =>
              refine ⟨_, rfl, _, _, rfl, dp1, l.1, _, rfl, _, _, rfl, dp2, l.1, rfl, true, ?_, ?_⟩
              · exact congrArg V.bl (decide_eq_true rfl)
              · rw [if_pos rfl]
                refine ⟨_, rfl, _, rfl, _, _, dp1, dp2, sd, sd, ?_⟩
                rw [eqv_self sh]
                exact q
        · rw [if_neg l] at hp'
          exact False.elim hp'
/-- _law_alike at A -/
theorem alike_run {fd : FuncData} (F : Fun K "_law_alike" "_law_alike" (topS 44) (fa 33) fd) (hm : mg "repr" = none) {A : Around} {outer : List Env} {s : Shared} {H : Hp} {us : List Value} {vs : List V} {Q : VK} {E : XK} (hdp : A.depth < recursionLimit) (hu : A.units + 80 < cLine) (hg : A.guards = some [])
    (e0 : Env0 P w K mg base A outer s H) (r : Vals vs us) (h : SpOf ⟨K, fa, CB⟩ 2 alikeF vs H Q E) : codeAny (model P w) A (.call (.ref (fa 33)) ⟨us, []⟩) (CR (L2.CX P w) outer P w H s Q E) s := by
  have bd : Binds K fd ["found", "due"] [] := F.binds (ps := ["found", "due"]) fun _ _ _ _ _ _ us hl => match us, hl with | [_, _], _ => rfl
  have S : FnScope ["found", "due"] ["found", "due"] (defScope (topS 44)) := ⟨rfl, rfl, rfl, by decide +kernel, rfl, by decide +kernel, by decide +kernel⟩
  have hl : vs.length = 2 := by
    obtain ⟨_, _, _, ds, _, _, ra, hl, _⟩ := h
    rw [ra.length, hl]
  have bb := bd s us (e0.mod.kin.keeps fun b o e => (e0.bs b o e).1) (by rw [List.append_nil, ← r.length]; exact hl)
  rw [List.append_nil] at bb
  obtain ⟨oc, od, kV, doc, pm, an, cdv, ct, osl, rfl, lk, hcd⟩ := F.ex
  refine run_at (b := false) lk hcd S (fun z => by cases z) hdp e0 bb hl r (alike_der (X := cxA false (L2.CX P w) P w K mg base ["found", "due"] "_law_alike" (defScope (topS 44)) (fa 33) cdv A outer s H E) rfl ?_ ?_ rfl hm) (pure_alike h)
  · exact hg
  · show A.units + 3 + 70 < cLine
    omega
end
end G

/-! BadText(line, column): super().__init__(line, column), two fields. -/
namespace BT
open PySem PySem.W PySem.Calls PyProof.Rows PySem.HandSPX
def topQ (i : Nat) : Stmt := PySem.Challenge.pw_alltimes_k21_texts_of_spans_clocks_and_e.main.body.getD i (.Pass ⟨0, 0, 0, 0⟩)
abbrev stI : Stmt := L2.inClass (topQ 3) 0
/-- what the written part says of BadText, at C, and of its __init__, at fI (its cell of __class__: cc; its code: cda) -/
structure BadTxt (P : Program) (K : Frag) (mg : Str → Option Value) (C fI cc cda : Addr) : Prop where
  gC : mg "BadText" = some (.ref C)
  gS : mg "super" = none
  cls : ∃ nm q N bs bm sn sub ab col dd k0 k1 k2 k3 k5, K.lookup C = some (excClassObj nm q C N bs bm true sn sub ab col dd k0 k1 k2 k3 k5 "ValueError.__new__") ∧ refsVE bm = true
  sa : findIn K (.ref C) "__setattr__" = some (some (.builtin "object.__setattr__"))
  ga : findIn K (.ref C) "__getattribute__" = some (some (.builtin "BaseException.__getattribute__"))
  gg : findIn K (.ref C) "__getattr__" = some none
  noL : findIn K (.ref C) "line" = some none
  noC : findIn K (.ref C) "column" = some none
  iC : findIn K (.ref C) "__init__" = some (some (.ref fI))
  tC : typeIn K (.ref fI) = some (.type "function")
  kC : keepIn K (.ref C) = true
  exC : subIn K (.ref C) (.type "BaseException") = some true
  tyC : typeIn K (.ref C) = some (.type "type")
  hdC : hasDictIn K C = true
  te : exmOne K (.ref C) (.ref C) = some true
  fn : ∃ (oc : Value) (od : Option Addr) (kV doc pm : Value) (an : Option Addr) (ct : Value) (osl : Array (Option Value)),
    K.lookup fI = some ⟨oc, od, .func (ksFn "__init__" "BadText.__init__" (L2.defArgs stI) (L2.defBody stI) (L2.defScope stI) .none kV doc pm an (.ref cda) ct cc), osl⟩ ∧ codeIn K (.ref cda) "BadText.__init__" = true
  code : ∃ (ccl : Value) (cdd : Option Addr) (vs : Array Value) (ccs : Array (Option Value)) (file : Str) (tf : Tok), K.lookup cda = some ⟨ccl, cdd, .fields vs, ccs⟩ ∧ vs[2]? = some (.str file tf) ∧ ((P.main.file : Str) == file) = true
  cell : ∃ (cl : Value) (cld : Option Addr) (csl : Array (Option Value)), K.lookup cc = some ⟨cl, cld, .cell (some (.ref C)), csl⟩
  top : (P.main.scope.names.lookup ("super" : Str)).isSome = false
  mro : mroIn K C (.ref C) = some true
  opq : nsIn K cStatics "thirdparty.any" = some none
  sup : ks_superIn K C C "__init__" = some (some (.builtin "ValueError.__init__"))
  sub : subIn K (.ref C) (.type "ValueError") = some true
section
variable {prog : Program} {w : World} {A : Around} {E : Value → Shared → Prop} {h : Heap} {g : Array GenState} {d : Drawn} {t : Nat} {os : OsState}
variable {nm q : Str} {C N : Addr} {bs bm : List Value} {sn : List Str} {sub : List Value} {ab : Bool} {col : Option Bool} {dd : Option Addr} {k0 k1 k2 k3 k5 : Option Value}
/-- the bound __init__ of ValueError is called -/
theorem call_mw {u e t0 : Addr} {rest : List Value} {Q : Value → Shared → Prop} (hC : h.get? C = some (excClassObj nm q C N bs bm true sn sub ab col dd k0 k1 k2 k3 k5 "ValueError.__new__")) (he : h.get? e = some (excO C t0))
    (hu : h.get? u = some (kxs_mw "ValueError.__init__" e)) (hr : rest.length ≤ sizeLine)
    (hq : ∀ h' t1, (∀ b o, b ≠ e → h.get? b = some o → h'.get? b = some o) → h'.get? e = some (excO C t1) → Q .none ⟨h', g, d, t, os⟩) : wpAny (model prog w) A (call (.ref u) rest) Q E ⟨h, g, d, t, os⟩ := by
  refine wpAny_call (codeAny_of_tree ?_)
  show wpAny _ _ (callAny (.ref u) ⟨rest, []⟩) _ _ _
  unfold callAny
  refine wpAny_bind (wpAny_load hu ?_)
  simp only [kxs_mw, show (Value.type "method-wrapper" == Value.type "method" || Value.type "method-wrapper" == Value.type "builtin_function_or_method" || Value.type "method-wrapper" == Value.type "method-wrapper") = true by decide, if_true]
  refine KFB.if_so (by decide) (wpAny_bind (check_bound_init PySem.F.excBase_ValueError.toExcCallFacts hC he rfl (wpAny_bind (wpAny_pure (wpAny_pure ?_)))))
  refine ⟨plainId_quiet PySem.F.excBase_ValueError.init.plain _, codeAny_builtin PySem.F.excBase_ValueError.initEntry ?_⟩
  exact exc_init_tree (cls := .ref C) (t0 := t0) (dv := none) (c2 := .none) (c3 := .none) (b4 := .bool false) he hr fun h' k e' _ => hq h' _ k e'
end
/-- what __init__ leaves of a fresh exception at x -/
structure InitEnd (h h' : Heap) (x C dx t1 : Addr) (l c : Value) : Prop where
  keep : ∀ b o, b ≠ x → h.get? b = some o → h'.get? b = some o
  obj : h'.get? x = some { cls := .ref C, dict := some dx, data := .fields #[.ref t1, .none, .none, .none, .bool false, .none] }
  dbig : h.objs.size ≤ dx
  dne : dx ≠ x
  ns : h'.Ns1 dx (fun y => if y = "column" then some c else if y = "line" then some l else none)
section
variable {P : Program} {w : World} {A : Around} {R : Result → Shared → Prop} {s : Shared} {K : Frag} {mg mb : Str → Option Value} {C fI cc cda : Addr}
theorem loc {M : Model} {E : Value → Shared → Prop} {s : Shared} {env : Env} {m : Str → Option Value} {x : Str} {pos : Pos} {v : Value} {Q : Value → Shared → Prop} (hn : s.heap.Ns env.locals m) (hv : m x = some v) (h : Q v s)
    (hk : env.scope.kind = .function := by rfl) (hl : env.kindOf x = some .local := by rfl) (hd : (x == ("__debug__" : Str)) = false := by decide) : wpAny M A (eval (.Name x pos) env) Q E s := wpAny_Name (wpAny_loadName_local hk hl hn hv h) hd
theorem bad_init (T : BadTxt P K mg C fI cc cda) {x t0 : Addr} {l c : Value} (X : K.In s.heap) (hG : s.heap.Ns mainGlobals mg) (hB : s.heap.Ns builtinsNs mb) (hb : mb "super" = bootBuiltins "super") (hlim : s.heap.NoLimit) (hx : s.heap.get? x = some (excO C t0)) (hkx : K.lookup x = none) (hroom : A.depth < recursionLimit)
    (hq : ∀ h' tk dx t1, InitEnd s.heap h' x C dx t1 l c → R (.ok (.ret .none)) { s with heap := h', toks := tk }) :
    codeAny (model P w) A (.call (.ref fI) ⟨[.ref x, l, c], []⟩) R s := by
  obtain ⟨oc, od, kV, doc, pm, an, ct, osl, ho, hcd⟩ := T.fn
  obtain ⟨nm, q, N, bs, bm, sn, sub, ab, col, dd, k0, k1, k2, k3, k5, hC, hbm⟩ := T.cls
  obtain ⟨ccl, cdd, vs, ccs, file, tf, hcode, hvs, hfile⟩ := T.code
  obtain ⟨cl, cld, csl, hcell⟩ := T.cell
  have hcl : clsIn K C = some { name := nm, bases := bs, mro := .ref C :: bm, ns := N, qualname := q, hasDict := true, slotNames := sn, subclasses := sub, abstract := ab, collection := col, hasDel := false } := by unfold clsIn; rw [hC] <;> rfl
  refine ks_codeAny_call_defAt (fd := ksFn "__init__" "BadText.__init__" (L2.defArgs stI) (L2.defBody stI) (L2.defScope stI) .none kV doc pm an (.ref cda) ct cc) (body := L2.defBody stI) (binds := [("self", .ref x), ("line", l), ("column", c)]) hroom (X _ _ ho) rfl hlim (codeRec_of X hcd) rfl
    (BindsTo.of_eq (by first | rfl | with_unfolding_all rfl)) (show ∀ x ∈ (L2.defScope stI).names, x.2 ≠ .cell by decide +kernel) (fun y hy => ?hl) (fun h₁ hn k₁ => ?_) rfl rfl rfl
  case hl =>
    have key : ∀ z ∈ [("self" : Str), "line", "column"], (L2.defScope stI).names.lookup z = some .local := by decide +kernel
    rcases List.mem_cons.mp hy with rfl | hy
    · exact key "self" (by decide)
    rcases List.mem_cons.mp hy with rfl | hy
    · exact key "line" (by decide)
    rcases List.mem_cons.mp hy with rfl | hy
    · exact key "column" (by decide)
    cases hy
  have hx₁ := k₁ _ _ hx
  have hxL : s.heap.objs.size ≠ x := Nat.ne_of_gt (Heap.lt_size hx)
  have X₁ : K.In h₁ := X.keeps k₁
  have vx : (List.reverse [(("self" : Str), Value.ref x), ("line", l), ("column", c)]).lookup ("self" : Str) = some (.ref x) := by first | rfl | with_unfolding_all rfl | kernel_rfl
  have vl : (List.reverse [(("self" : Str), Value.ref x), ("line", l), ("column", c)]).lookup ("line" : Str) = some l := by first | rfl | with_unfolding_all rfl | kernel_rfl
  have vc : (List.reverse [(("self" : Str), Value.ref x), ("line", l), ("column", c)]).lookup ("column" : Str) = some c := by first | rfl | with_unfolding_all rfl | kernel_rfl
  refine ks_wpAt_execs_cons (ks_wpAt_Expr_any (ks_wpAt_MethodCall (ks_wpAt_super_base (by rfl) (by rfl) (by decide) rfl (k₁ _ _ (X _ _ ho)) rfl rfl rfl (k₁ _ _ (X _ _ hcode)) rfl hvs hfile T.top ?_)))
  have kNs : ∀ {b : Addr} {m : Str → Option Value}, s.heap.Ns b m → h₁.Ns b m := fun ⟨o, es, ep, e, r⟩ => ⟨o, es, ep, k₁ _ _ e, r⟩
  refine ks_loadName_global (by rfl) (by rfl) (loadGlobal_builtin (kNs hG) T.gS (kNs hB) (hb.trans (by first | boot_by_name | rfl)) ⟨rfl, ?_⟩)
  refine wpAny_loadName_free (by rfl) (by rfl) (by first | rfl | with_unfolding_all rfl) ⟨_, X₁ _ _ hcell, rfl⟩ ?_
  refine wpAny_loadName_local (by rfl) (by rfl) hn vx ?_
  refine ks_wpAny_isType_cls (X₁ _ _ hC) rfl ⟨rfl, ?_⟩
  refine ks_wpAny_call_super (X₁ _ _ hC) rfl hx₁ rfl (fun _ z => by cases z) (looks_mroIn X₁ T.mro) (fun h₂ hso k₂ => ?_)
  have X₂ : K.In h₂ := X₁.keeps k₂
  have hx₂ := k₂ _ _ hx₁
  have I₂ : InstAt h₂ x (excO C t0) C none := ⟨hx₂, rfl, rfl, trivial⟩
  have sup : alongIn K "__init__" (((Value.ref C :: bm).dropWhile (· != .ref C)).drop 1) = some (some (.builtin "ValueError.__init__")) := by
    have z := T.sup
    unfold ks_superIn at z
    rw [hcl] at z
    exact z
  have hxC : x ≠ C := fun z => by
    rw [z, X₂ _ _ hC] at hx₂
    cases hx₂
  refine kxs_getMethod kxs_ValueError hso (looks_opaque X₂ T.opq) (l₀ := .ref C :: bm) (fun A Q E s k q => wpAny_bind ((looks_clsIn X₂ hcl) A _ E s k (wpAny_pure q))) rfl X₂ sup (I₂.type.andThen (looks_subIn X₂ T.sub)) hxC (by decide) ?_
  have k₃ : ∀ b o, h₂.get? b = some o → (h₂.push (kxs_mw "ValueError.__init__" x)).get? b = some o := fun b o e => Heap.get?_push_of_some _ e
  have hmw : (h₂.push (kxs_mw "ValueError.__init__" x)).get? h₂.objs.size = some (kxs_mw "ValueError.__init__" x) := Heap.get?_push_size _ rfl
  generalize h₂.push (kxs_mw "ValueError.__init__" x) = h₃ at k₃ hmw ⊢
  have n₃ : h₃.Ns s.heap.objs.size (fun y => (List.reverse [(("self" : Str), Value.ref x), ("line", l), ("column", c)]).lookup y) := by
    obtain ⟨o, es, ep, e, r⟩ := hn
    exact ⟨o, es, ep, k₃ _ _ (k₂ _ _ e), r⟩
  have kk : ∀ b o, s.heap.get? b = some o → h₃.get? b = some o := fun b o e => k₃ _ _ (k₂ _ _ (k₁ _ _ e))
  refine kxs_callWith (i := "ValueError.__init__") (x := x) (by rfl) (evalArgs_plain ?_)
  refine Calls.spliced_cons (loc n₃ vl (Calls.spliced_cons (loc n₃ vc (Calls.spliced_nil ?_))))
  refine ⟨hmw, call_mw (X.keeps kk _ _ hC) (kk _ _ hx) hmw (by show 2 ≤ sizeLine; decide) fun h₄ t1 k₄ e₄ => ?_⟩
  have k4 : ∀ b o, b ≠ x → s.heap.get? b = some o → h₄.get? b = some o := fun b o hb e => k₄ b o hb (kk b o e)
  have n₄ : h₄.Ns s.heap.objs.size (fun y => (List.reverse [(("self" : Str), Value.ref x), ("line", l), ("column", c)]).lookup y) := by
    obtain ⟨o, es, ep, e, r⟩ := n₃
    exact ⟨o, es, ep, k₄ _ _ hxL e, r⟩
  have hnx : ∀ o, K.lookup x ≠ some o := fun o e => by rw [hkx] at e; cases e
  have X₄ : K.In h₄ := fun a o e => k4 a o (fun z => hnx o (z ▸ e)) (X a o e)
  refine wpAt_of_wpAny ?_
  refine wpAny_execs_cons (plainObj_wpAny_Assign_Attribute (loc n₄ vl (loc n₄ vx ?_)))
  refine set_plain X₄ (ox := excO C t1) (od := none) ⟨e₄, rfl, rfl, trivial⟩ T.sa ?_
  refine exc_osa X₄ e₄ hcl (show refsVE (.ref C :: bm) = true from hbm) rfl T.noL (fun h₅ tk₅ dx k₅ dn dne e₅ m₅ => ?_)
  have k5 : ∀ b o, b ≠ x → s.heap.get? b = some o → h₅.get? b = some o := fun b o hb e => k₅ b o hb (k4 b o hb e)
  have n₅ : h₅.Ns s.heap.objs.size (fun y => (List.reverse [(("self" : Str), Value.ref x), ("line", l), ("column", c)]).lookup y) := by
    obtain ⟨o, es, ep, e, r⟩ := n₄
    exact ⟨o, es, ep, k₅ _ _ hxL e, r⟩
  have X₅ : K.In h₅ := fun a o e => k5 a o (fun z => hnx o (z ▸ e)) (X a o e)
  have lt4 : s.heap.objs.size < h₄.objs.size := n₄.lt
  refine wpAny_execs_cons (plainObj_wpAny_Assign_Attribute (loc n₅ vc (loc n₅ vx ?_)))
  obtain ⟨oD, esD, epD, hD1, hD2⟩ := id m₅
  refine set_plain X₅ (ox := { cls := .ref C, dict := some dx, data := .fields #[.ref t1, .none, .none, .none, .bool false, .none] }) (od := some oD) ⟨e₅, rfl, rfl, hD1⟩ T.sa ?_
  refine PySem.OEX.osa_old X₅ e₅ m₅ (nl := ["line"]) (fun y hy => ?_) (by decide) hcl (show refsVE (.ref C :: bm) = true from hbm) rfl T.noC (fun h₆ tk₆ k₆ m₆ => ?_)
  · by_cases z : y = "line"
    · rw [z]; exact List.mem_singleton.mpr rfl
    · exact absurd (if_neg z) hy
  refine wpAny_execs_nil (hq h₆ tk₆ dx t1 ⟨fun b o hb e => k₆ b o (fun z => ?_) (k5 b o hb e), k₆ _ _ dne.symm e₅, Nat.le_of_lt (Nat.lt_of_lt_of_le lt4 dn), dne, m₆⟩)
  have y := Heap.lt_size e
  rw [z] at y
  exact absurd (Nat.lt_of_lt_of_le (Nat.lt_trans y lt4) dn) (Nat.lt_irrefl _)
/-- a made BadText -/
structure OwnMade (h h' : Heap) (e C d : Addr) (l c : Value) : Prop where
  keep : ∀ b o, h.get? b = some o → h'.get? b = some o
  new : h.objs.size ≤ e
  obj : ∃ oe vs, h'.get? e = some oe ∧ oe.cls = .ref C ∧ oe.dict = some d ∧ oe.data = .fields vs ∧ vs[1]? = some .none
  dbig : h.objs.size ≤ d
  dne : d ≠ e
  ns : h'.Ns1 d (fun y => if y = "column" then some c else if y = "line" then some l else none)
theorem bad_made (T : BadTxt P K mg C fI cc cda) {l c : Value} (X : K.In s.heap) (hG : s.heap.Ns mainGlobals mg) (hB : s.heap.Ns builtinsNs mb) (hb : mb "super" = bootBuiltins "super") (hlim : s.heap.NoLimit) (hroom : A.depth + 1 < recursionLimit)
    (hq : ∀ h' tk e d, OwnMade s.heap h' e C d l c → R (.ok (.ret (.ref e))) { s with heap := h', toks := tk }) :
    codeAny (model P w) A (.call (.ref C) ⟨[l, c], []⟩) R s := by
  obtain ⟨nm, q, N, bs, bm, sn, sub, ab, col, dd, k0, k1, k2, k3, k5, hC, hbm⟩ := T.cls
  obtain ⟨hp, g, dr, tk, os⟩ := s
  have k : ∀ b o, hp.get? b = some o → ((hp.push (kdv_tup [l, c])).push (excO C hp.objs.size)).get? b = some o := fun b o e => Heap.get?_push_of_some _ (Heap.get?_push_of_some _ e)
  have hget : ((hp.push (kdv_tup [l, c])).push (excO C hp.objs.size)).get? (hp.objs.size + 1) = some (excO C hp.objs.size) := by heap_get
  have hkx : K.lookup (hp.objs.size + 1) = none := by
    cases e : K.lookup (hp.objs.size + 1) with
    | none => rfl
    | some o => exact absurd (Nat.lt_of_succ_lt (Heap.lt_size (show hp.get? (hp.objs.size + 1) = some o from X _ _ e))) (Nat.lt_irrefl _)
  have kNs : ∀ {b : Addr} {m : Str → Option Value}, hp.Ns b m → ((hp.push (kdv_tup [l, c])).push (excO C hp.objs.size)).Ns b m := fun ⟨o, es, ep, e, r⟩ => ⟨o, es, ep, k _ _ e, r⟩
  refine call_own F.excBase_ValueError (fun X => refsVE_contains X bm hbm) (X _ _ hC) (looks_findIn X T.iC) (fun self => bind_fn X self T.tC) (by show 2 ≤ sizeLine; decide) ?_
  refine bad_init (s := ⟨(hp.push (kdv_tup [l, c])).push (excO C hp.objs.size), g, dr, tk, os⟩) T (X.keeps k) (kNs hG) (kNs hB) hb (hlim.keeps k) hget hkx ?_ fun h' tk' dx t1 ⟨k', hx, dn, dne, hns⟩ => ?_
  · show A.depth + 1 < recursionLimit
    exact hroom
  · have z : hp.objs.size + 1 + 1 ≤ dx := by
      have e := dn
      simp only [Heap.size_push] at e
      exact e
    exact ⟨rfl, hq h' tk' (hp.objs.size + 1) dx ⟨fun b o e => k' b o (Nat.ne_of_lt (Nat.lt_succ_of_lt (Heap.lt_size e))) (k b o e), Nat.le_succ _, ⟨_, _, hx, rfl, rfl, rfl, rfl⟩, Nat.le_trans (Nat.le_trans (Nat.le_succ _) (Nat.le_succ _)) z, dne, hns⟩⟩
end
end BT
namespace G
open PySem PySem.Spec PyProof.Rows L2
theorem relO_two {v w : V} {v' w' : Value} (rv : RelV v v') (rw' : RelV w w') (f : Str) : RelO (List.lookup f [(("line" : Str), v), (("column" : Str), w)]) (if f = "column" then some w' else if f = "line" then some v' else none) := by
  by_cases hc : f = "column"
  · subst hc
    rw [if_pos rfl]
    exact rw'
  · rw [if_neg hc]
    by_cases hl : f = "line"
    · subst hl
      rw [if_pos rfl]
      exact rv
    · rw [if_neg hl]
      have q1 : (f == ("line" : Str)) = false := by simpa using hl
      have q2 : (f == ("column" : Str)) = false := by simpa using hc
      have q : List.lookup f [(("line" : Str), v), (("column" : Str), w)] = none := by simp [List.lookup, q1, q2]
      rw [q]
      trivial
section
variable {X : Cx} {C fI cc cda : Addr}
/-- BadText(a, b) is made -/
def tMkB (C : Addr) (ta : TA) : L2.St → Hp → XK → Prop := fun σ H Q => ta σ H fun vs H1 => ∃ v w, vs = [v, w] ∧ ∀ d, H1 d = none → Q (.ref C) (some d) (upd H1 d (.xd [(("line" : Str), v), (("column" : Str), w)]))
theorem pmk_bad {a b : Expr} {ta : TA} {p pos : Pos} {k : Nat} (T : BT.BadTxt X.prog X.K X.mg C fI cc cda) (hr : Room k X.A) (ha : PA X [a, b] ta) (hg : Gl X "BadText")
    (he : starEach [a, b] X.env = (false, eval a X.env) :: starEach [b] X.env) (hpl : (backTo pos (starEach [b] X.env)).any (·.1) = false) :
    PMk X (.Call (.Name "BadText" p) [a, b] [] pos) (tMkB C ta) := by
  intro pins s σ H Q I h
  refine wpAny_Call_Name_kw (ld_glob I hg T.gC ?_)
  refine PySem.W.callWith_K (h₀ := X.base) I.ok.mod.kin T.kC (thn (ha.run pos pins s σ H _ I h) fun us s1 hh => ?_) he hpl
  obtain ⟨vs, H1, I1, r1, v, w, ev, q1⟩ := hh
  subst ev
  refine ⟨I1.kIn, ?_⟩
  obtain ⟨v', w', rfl, rv, rw'⟩ : ∃ v' w', us = [v', w'] ∧ RelV v v' ∧ RelV w w' := by
    cases r1 with
    | cons p q =>
      cases q with
      | cons p' q' =>
        cases q'
        exact ⟨_, _, rfl, p, p'⟩
  have hlim := I1.nolimit
  have hG : s1.heap.Ns mainGlobals X.mg := I1.ok.mod.glob.keeps I1.bk
  obtain ⟨mb, hB0, hb⟩ := I1.ok.mod.blt
  have hB : s1.heap.Ns builtinsNs mb := hB0.keeps I1.bk
  obtain ⟨hp, g, dr, tk, os⟩ := s1
  refine wpAny_call (BT.bad_made T I1.kIn hG hB (hb _ (by decide)) hlim (by have := hr.dp; omega) fun h' tk' e d M => ?_)
  show MkP X pins σ Q (.ref e) ⟨h', g, dr, tk', os⟩
  obtain ⟨oe, fv, hoe, hc, hd, hdat, h1⟩ := M.obj
  have hns := M.ns
  obtain ⟨G', g1, g2⟩ := restrict h' fun b => decide (b ≠ e)
  have gk : ∀ b, b ≠ e → G'.get? b = h'.get? b := fun b hb => g1 b (decide_eq_true hb)
  have ge : G'.get? e = none := g2 e (by simp)
  have old : ∀ b o, hp.get? b = some o → G'.get? b = some o := fun b o q => (gk b (Nat.ne_of_lt (Nat.lt_of_lt_of_le (Heap.lt_size q) M.new))).trans (M.keep b o q)
  have ob : ObjOk X.prog X.w (upd H1 d (.xd [(("line" : Str), v), (("column" : Str), w)])) G' d (.xd [(("line" : Str), v), (("column" : Str), w)]) :=
    ⟨_, hns.at (fun o q => (gk d M.dne).trans q), fun f => relO_two rv rw' f⟩
  have J : Inv X pins σ (upd H1 d (.xd [(("line" : Str), v), (("column" : Str), w)])) ⟨G', g, dr, tk', os⟩ := I1.laid (t' := tk') old M.dbig ob
  refine ⟨e, oe, fv, ⟨G', g, dr, tk', os⟩, _, .ref C, some d, rfl, J, fun b o q => ?_, ge, hoe, ⟨hc, hd⟩, hdat, h1, ?_, rfl, I1.bare, raises_own T.exC T.tyC, q1 d (I1.hok.fresh M.dbig)⟩
  · by_cases hb : b = e
    · have q' : G'.get? b = some o := q
      rw [hb, ge] at q'; cases q'
    · exact (gk b hb).symm.trans q
  · rw [upd_ne (Ne.symm M.dne)]
    exact I1.hok.fresh M.new
end
/-- a raise of BadText as a statement of a def -/
theorem rse_ok {P : Program} {w : World} {K : PySem.W.Frag} {mg : Str → Option Value} {base : Heap} {N : List Str} {name : Str} {sc : Scope} {f : Addr} {cdv : Value} {A : Around} {outer : List Env} {s : Shared} {H : Hp} {E : XK} {C fI cc cda : Addr} {fa : Nat → Addr} {sp : Nat → Sp} {spv : Addr → Sp → Prop} {k : Nat}
    (T : BT.BadTxt P K mg C fI cc cda) (hr : Room k (A.deeper (envOfC name sc s.heap.objs.size f cdv))) : RseT (cxOf (L2.CX P w) P w K mg base N name sc f cdv A outer s H E) ⟨⟨K, fa, C⟩, sp, spv⟩ E := by
  intro a b ia ib p pos pos2 ha hb h1 h2 hpl hg
  exact ps_raise (W := fun cls d _ H => E cls d H) rfl (takes_of rfl rfl rfl rfl) (pmk_bad (X := cxOf (L2.CX P w) P w K mg base N name sc f cdv A outer s H E) T hr (pa_cons ha (pa_cons hb pa_nil h2) h1) hg h1 hpl)
end G

/-! What is refused: try, except BadText as error. -/
namespace G
open PySem PySem.Spec PyProof.Rows L2
/-- a call of a local name where what is raised is wished for at the slots -/
def tCallVS (i : Nat) (S : Addr → Sp → Prop) (E : L2.St → XK) (t : TA) : TE := fun σ H Q => ∃ f sp, σ[i]? = some (some (.ref f)) ∧ S f sp ∧ t σ H fun vs H1 => sp vs H1 Q (E σ)
section
variable {X : Cx} {k i : Nat} {x : Str} {p pos : Pos} {e : Expr} {es : List Expr} {t : TA} {S : Addr → Sp → Prop} {E : L2.St → XK}
theorem pe_callVS (A : ∀ f sp, S f sp → ∃ fd ps, FnOk X.prog X.w X.K X.mg X.base (L2.CX X.prog X.w) k f fd ps sp ∧ PySem.W.keepIn X.K (.ref f) = true ∧ Binds X.K fd ps []) (hr : Room k X.A) (hN : X.N[i]? = some x) (hv : Vis X.env.scope x) (hx : ∀ σ, PassesAt (L2.CX X.prog X.w) X σ (E σ)) (ha : PA X (e :: es) t)
    (hdb : (x == ("__debug__" : Str)) = false := by decide) (hcd : (x == ("__classdict__" : Str)) = false := by decide)
    (he : starEach (e :: es) X.env = (false, eval e X.env) :: starEach es X.env := by rfl) (hpl : (backTo pos (starEach es X.env)).any (·.1) = false := by rfl) : PE X (.Call (.Name x p) (e :: es) [] pos) (tCallVS i S E t) := by
  refine ⟨fun pins s σ H Q I h => ?_⟩
  obtain ⟨f, sp, hs, hS, ht⟩ := h
  obtain ⟨fd, ps, F, hk, hb⟩ := A f sp hS
  refine wpAny_Call_Name_kw (thn ((pe_var (pos := p) hN hv hdb hcd).run pins s σ H (fun v H1 => v = .ref f ∧ H1 = H) I ⟨.ref f, hs, rfl, rfl⟩) fun u s1 ⟨v, H1, I1, r1, q1⟩ => ?_)
  obtain ⟨rfl, rfl⟩ := q1
  cases r1
  refine PySem.W.callWith_K (h₀ := X.base) I.ok.mod.kin hk (thn (ha.run pos pins s1 σ _ _ I1 ht) fun us s2 ⟨vs, H2, I2, r, q⟩ => ⟨I2.kIn, ?_⟩) he hpl
  exact run_fnSD (dvs := []) (ds := []) F hr hb .nil (hx σ) I2 r (by rw [List.append_nil]; exact q)
/-- a call of a def of which it is known what it does at this activation -/
theorem pe_callR {CX : CXT} {sp : Sp} {E : XK} {f : Addr}
    (R : ∀ (s : Shared) (H : Hp) (us : List Value) (vs : List V) (Q : VK), Env0 X.prog X.w X.K X.mg X.base X.A X.stack s H → Vals vs us → sp vs H Q E → codeAny (model X.prog X.w) X.A (.call (.ref f) ⟨us, []⟩) (CR CX X.stack X.prog X.w H s Q E) s)
    (hg : Gl X x) (hm : X.mg x = some (.ref f)) (hk : PySem.W.keepIn X.K (.ref f) = true) (hx : Passes CX X E) (ha : PA X (e :: es) t)
    (hdb : (x == ("__debug__" : Str)) = false := by decide) (he : starEach (e :: es) X.env = (false, eval e X.env) :: starEach es X.env := by rfl) (hpl : (backTo pos (starEach es X.env)).any (·.1) = false := by rfl) :
    PE X (.Call (.Name x p) (e :: es) [] pos) (tCall sp [] E t) := by
  refine ⟨fun pins s σ H Q I h => ?_⟩
  refine wpAny_Call_Name_kw (ld_glob I hg hm ?_ hdb)
  refine PySem.W.callWith_K (h₀ := X.base) I.ok.mod.kin hk (thn (ha.run pos pins s σ H _ I h) fun us s1 ⟨vs, H1, I1, r, q⟩ => ⟨I1.kIn, ?_⟩) he hpl
  refine wpAny_call (codeAny_mono (R s1 H1 us vs Q I1.env0 r (by have q' : sp (vs ++ []) H1 Q E := q; rw [List.append_nil] at q'; exact q')) fun r s' hq => ?_)
  cases r with
  | error e => exact hx pins σ H1 s1 e s' I1 hq
  | ok fl =>
    cases fl with
    | ret u => exact I1.after hq
    | cont => exact hq.elim
    | brk => exact hq.elim
    | next => exact hq.elim
end
/-- error.f, error the exception that the suite holds (at a; its class cls, its dict d) -/
def tBy (C : Addr) (f : Str) (a : Addr) (cls : Value) (d : Option Addr) (te : TE) : TE := fun σ H Q => te σ H fun x H1 => x = .ref a ∧ cls = .ref C ∧ ∃ (dd : Addr) (fs : List (Str × V)) (v : V), d = some dd ∧ H1 dd = some (.xd fs) ∧ fs.lookup f = some v ∧ Q v H1
theorem pe_by {X : Cx} {C fI cc cda a : Addr} {oe : Obj} {cls : Value} {d : Option Addr} {pn : List (Addr × Obj)} {e : Expr} {te : TE} {pos : Pos} {f : Str} (T : BT.BadTxt X.prog X.K X.mg C fI cc cda) (hno : PySem.W.findIn X.K (.ref C) f = some none) (hz : Zc cls d oe) (hf : ∃ vs, oe.data = .fields vs)
    (he : PE (X.suite a ((a, oe) :: pn)) e te) (hb : attributeBase e f X.env (eval e X.env) = eval e X.env := by rfl) : PE (X.suite a ((a, oe) :: pn)) (.Attribute e f pos) (tBy C f a cls d te) := by
  refine ⟨fun pins s σ H Q I h => attr_of hb (thn (he.run pins s σ H _ I h) fun u s1 hh => ?_)⟩
  obtain ⟨x, H1, I1, rx, ex, ec, dd, fs, v, ed, ea, l, q⟩ := hh
  subst ex
  obtain rfl : u = Value.ref a := rx
  subst ec
  subst ed
  obtain ⟨vs, hd⟩ := hf
  obtain ⟨mA, hns, hr⟩ : ObjOk X.prog X.w H1 s1.heap dd (.xd fs) := I1.hok dd _ ea
  obtain ⟨od, ho, hl⟩ := lookIn_ns hns
  obtain ⟨u, hu, ru⟩ := RelO.some_of (v := v) (o := mA f) (by rw [← l]; exact hr f)
  have J : PySem.W.InstAt s1.heap a oe C (some od) := ⟨(I1.pin (a, oe) (List.mem_append_left _ List.mem_cons_self)).1, hz.1, by unfold PySem.W.notCls; rw [hd] <;> rfl, by rw [hz.2]; exact ho⟩
  exact HandSPX.exc_get I1.kIn J T.ga T.gg T.exC (PySem.W.findObj_own T.hdC hno rfl (by rw [hl, hu])) (handed_of ru) ⟨v, H1, I1.tok _, ru, q⟩
/-- the readings of _law_refused -/
def tSuite (K : PySem.W.Frag) (C : Addr) (sp : Sp) : Addr → Value → Option Addr → TS := fun a cls d =>
  tRet (tCall sp [] E00 (tCons (tLst (tCons (tBy C "line" a cls d (tVar 3)) (tCons (tBy C "column" a cls d (tVar 3)) tNil))) (tCons (tLst (tCons (tVar 2) (tCons (tC (.int 1)) tNil))) tNil)))
def tTry (S : Addr → Sp → Prop) (W : WX) : TS := tSeq (tDrop (tCallVS 0 S (WE W) (tCons (tVar 1) tNil))) (tRet (tC (.bl false)))
def tRefd (K : PySem.W.Frag) (C : Addr) (sp : Sp) (S : Addr → Sp → Prop) : TS := fun D σ H => tTry S (wAs K (.ref C) 3 (tSuite K C sp) (fun _ _ _ _ => False) D) D σ H
abbrev nRef : List Str := ["read", "text", "line", "error"]
section
variable {P : Program} {w : World} {K : PySem.W.Frag} {mg : Str → Option Value} {base : Heap} {fa : Nat → Addr} {C fI cc cda : Addr} {n : Nat} {S : Addr → Sp → Prop} {sp : Sp}
theorem refd_der {cdv : Value} {A : Around} {outer : List Env} {s : Shared} {H : Hp} {E : XK} (T : BT.BadTxt P K mg C fI cc cda)
    (hS : ∀ f sp, S f sp → ∃ fd ps, FnOk P w K mg base (L2.CX P w) n f fd ps sp ∧ PySem.W.keepIn K (.ref f) = true ∧ Binds K fd ps []) (hr : Room n (A.deeper (envOfC "_law_refused" (defScope (topS 54)) s.heap.objs.size (fa 43) cdv)))
    (mgA : mg "_law_alike" = some (.ref (fa 33))) (kA : PySem.W.keepIn K (.ref (fa 33)) = true)
    (RA : ∀ (a : Addr) (s1 : Shared) (H1 : Hp) (us : List Value) (vs : List V) (Q : VK), Env0 P w K mg base ((A.deeper (envOfC "_law_refused" (defScope (topS 54)) s.heap.objs.size (fa 43) cdv)).mark (some (.ref a))) (envOfC "_law_refused" (defScope (topS 54)) s.heap.objs.size (fa 43) cdv :: outer) s1 H1 → Vals vs us → sp vs H1 Q E00 →
      codeAny (model P w) ((A.deeper (envOfC "_law_refused" (defScope (topS 54)) s.heap.objs.size (fa 43) cdv)).mark (some (.ref a))) (.call (.ref (fa 33)) ⟨us, []⟩) (CR (L2.CX P w) (envOfC "_law_refused" (defScope (topS 54)) s.heap.objs.size (fa 43) cdv :: outer) P w H1 s1 Q E00) s1) :
    PSs (cxA true (L2.CX P w) P w K mg base nRef "_law_refused" (defScope (topS 54)) (fa 43) cdv A outer s H E) (defBody (topS 54)) (tRefd K C sp S) := by
  have nd : nRef.Nodup := by decide +kernel
  refine pss_one (ps_try_as (i := 3) (tb := tTry S) (ts := tSuite K C sp) (Wout := fun _ _ _ _ => False) rfl rfl nd rfl rfl ⟨rfl, by decide, Or.inl T.gC⟩ takes0 (fun W pn xe tk _ => ?_) (fun a oe cls d pn hz hf => ?_))
  · exact pss_cons (ps_expr (pe_callVS hS hr rfl (.inl rfl) (fun σ => passAt tk σ) (pa_cons (pv 1) pa_nil))) (pss_one (ps_ret pe_bl))
  · refine pss_one (ps_ret (pe_callR (fun s1 H1 us vs Q e0 r h => RA a s1 H1 us vs Q e0 r h) rfl mgA kA passL ?_))
    exact pa_cons (pe_lst (pa_cons (pe_by T T.noL hz hf (pv 3)) (pa_cons (pe_by T T.noC hz hf (pv 3)) pa_nil))) (pa_cons (pe_lst (pa_cons (pv 2) (pa_cons pe_int pa_nil))) pa_nil)
theorem sem_ar {n k : Nat} {ds g : List PD} (h : sem n k ds g ≠ .stuck) : ds.length = ar k := by
  cases n with
  | zero => exact absurd rfl h
  | succ n =>
    by_cases l : ds.length = ar k
    · exact l
    · exact absurd (show sem (n + 1) k ds g = .stuck by unfold sem; rw [if_neg l]; rfl) h
theorem ar_lt {k : Nat} (h : 1 = ar k) : k < 45 ∧ k ∉ ngL := by
  have l : k < 45 := by
    by_cases q : k < 45
    · exact q
    · exfalso
      unfold ar at h
      rw [List.getD_eq_getElem?_getD, List.getElem?_eq_none (show arL.length ≤ k by show 45 ≤ k; omega)] at h
      cases h
  refine ⟨l, fun m => ?_⟩
  have m' : k = 33 ∨ k = 43 := by simpa [ngL] using m
  rcases m' with rfl | rfl
  · exact absurd h (by decide)
  · exact absurd h (by decide)
/-- the defs that may be tried -/
def triedS (c : Cn) (n : Nat) : Addr → Sp → Prop := fun f sp => ∃ k, k < 45 ∧ k ∉ ngL ∧ f = c.fa k ∧ sp = SpOf c (ar k) (sem n k)
theorem pure_refd {c : Cn} (te : PySem.W.exmOne c.K (.ref c.CB) (.ref c.CB) = some true) {vs : List V} {H : Hp} {Q : VK} {E : XK} (h : SpOf c 3 (refusedF (sem n)) vs H Q E) :
    tRefd c.K c.CB (SpOf c 2 alikeF) (triedS c n) { nx := fun _ H' => Q .non H', rt := Q } (L2.start nRef vs) H := by
  obtain ⟨B, F, g, ds, sb, bg, ra, hl, hp⟩ := h
  unfold refusedF at hp
  split at hp
  · rename_i k t l
    cases ra with
    | cons r0 ra =>
      cases ra with
      | cons r1 ra =>
        cases ra with
        | cons r2 ra =>
          cases ra
          rename_i v0 v1 v2
          cases r2
          cases r0 with
          | fn kk =>
            cases e : sem n k [t] g with
            | stuck => rw [e] at hp; exact False.elim hp
            | ok b g1 => rw [e] at hp; exact False.elim hp
            | exn l' cc g' =>
              rw [e] at hp
              have hp1 : Post c B E F H (if l' = l ∧ cc = 1 ∧ showOk (.list [.int l, .int 1]) = true then Out.ok (PyData.bool true) g' else .stuck) (fun d _ F' H' => ∀ v, Rv c B F' v d → Q v H') := hp
              by_cases q : l' = l ∧ cc = 1 ∧ showOk (.list [.int l, .int 1]) = true
              · rw [if_pos q] at hp1
                obtain ⟨q1, q2, q3⟩ := q
                subst q1
                subst q2
                have hk := sem_ar (n := n) (k := k) (ds := [t]) (g := g) (by rw [e]; exact fun z => nomatch z)
                obtain ⟨hk1, hk2⟩ := ar_lt hk
                refine ⟨_, _, rfl, ⟨k, hk1, hk2, rfl, rfl⟩, _, rfl, B, F, g, [t], sb, bg, .cons r1 .nil, hk, ?_⟩
                rw [e]
                intro F' H' dd gr bg' hn hd
                refine ⟨true, te, fun _ a ha => ?_, fun z => Bool.noConfusion z⟩
                refine ⟨_, rfl, rfl, rfl, dd, _, _, rfl, hd, rfl, _, rfl, rfl, rfl, dd, _, _, rfl, hd, rfl, (by show 2 ≤ sizeLine; decide), fun p1 hp1' => ?_⟩
                refine ⟨_, rfl, (by show 2 ≤ sizeLine; decide), fun p2 hp2 => ?_⟩
                have g1 := Gr.fresh (B := B) (o := HO.lst [V.int l', V.int 1]) gr.inn hp1'
                have g2 := Gr.fresh (B := B) (o := HO.lst [V.int l', V.int 1]) g1.inn hp2
                refine ⟨B, _, g', [.list [.int l', .int 1], .list [.int l', .int 1]], g2.inn, (bg'.fresh gr.inn hp1').fresh g1.inn hp2, ?_, rfl, ?_⟩
                · exact .cons (.lst (g2.sub _ _ upd_same) (.cons (.int _) (.cons (.int _) .nil))) (.cons (.lst upd_same (.cons (.int _) (.cons (.int _) .nil))) .nil)
                · have sm : sameDs [PyData.int l', .int 1] [PyData.int l', .int 1] = true := by simp [sameDs, sameD]
                  have ea : alikeF [.list [.int l', .int 1], .list [.int l', .int 1]] g' = .ok (.bool true) g' := by
                    show (if showOk (.list [.int l', .int 1]) = true ∧ sameDs [PyData.int l', .int 1] [PyData.int l', .int 1] = true then ret (.bool true) else stk : M PD) g' = _
                    rw [if_pos ⟨q3, sm⟩]
                    rfl
                  rw [ea]
                  exact fun F3 H3 gr3 bg3 v rv => hp1 F3 H3 (gr.trans (g1.trans (g2.trans gr3))) bg3 v rv
              · rw [if_neg q] at hp1
                exact False.elim hp1
  · exact False.elim hp
/-- _law_refused at A -/
theorem refd_run {c : Cn} (ek : c.K = K) (ef : c.fa = fa) (eC : c.CB = C) {fd fdA : FuncData} (F : Fun K "_law_refused" "_law_refused" (topS 54) (fa 43) fd) (FA : Fun K "_law_alike" "_law_alike" (topS 44) (fa 33) fdA) (T : BT.BadTxt P K mg C fI cc cda)
    (hS : ∀ f sp, triedS c n f sp → ∃ fd ps, FnOk P w K mg base (L2.CX P w) n f fd ps sp ∧ PySem.W.keepIn K (.ref f) = true ∧ Binds K fd ps []) (hm : mg "repr" = none) (mgA : mg "_law_alike" = some (.ref (fa 33)))
    {A : Around} {outer : List Env} {s : Shared} {H : Hp} {us : List Value} {vs : List V} {Q : VK} {E : XK} (hr : Room (n + 1) A) (hg : A.guards = some []) (e0 : Env0 P w K mg base A outer s H) (r : Vals vs us) (h : SpOf c 3 (refusedF (sem n)) vs H Q E) :
    codeAny (model P w) A (.call (.ref (fa 43)) ⟨us, []⟩) (CR (L2.CX P w) outer P w H s Q E) s := by
  subst ek
  subst ef
  subst eC
  have bd : Binds c.K fd ["read", "text", "line"] [] := F.binds (ps := ["read", "text", "line"]) fun _ _ _ _ _ _ us hl => match us, hl with | [_, _, _], _ => rfl
  have S : FnScope nRef ["read", "text", "line"] (defScope (topS 54)) := ⟨rfl, rfl, rfl, by decide +kernel, rfl, by decide +kernel, by decide +kernel⟩
  have hl : vs.length = 3 := by
    obtain ⟨_, _, _, ds, _, _, ra, hl, _⟩ := h
    rw [ra.length, hl]
  have bb := bd s us (e0.mod.kin.keeps fun b o e => (e0.bs b o e).1) (by rw [List.append_nil, ← r.length]; exact hl)
  rw [List.append_nil] at bb
  obtain ⟨oc, od, kV, doc, pm, an, cdv, ct, osl, rfl, lk, hcd⟩ := F.ex
  refine run_at (b := true) lk hcd S (fun _ => hr.hd) hr.depth e0 bb hl r (refd_der (sp := SpOf c 2 alikeF) (S := triedS c n) T hS (hr.deeper _) mgA FA.kp fun a s1 H1 us vs Q e1 r1 h1 => ?_) (pure_refd T.te h)
  have h1d := hr.dp
  have h1u := hr.un
  refine alike_run (CB := c.CB) FA hm ?_ ?_ hg e1 r1 h1
  · show A.depth + 1 < recursionLimit
    omega
  · show A.units + 3 + 80 < cLine
    omega
end
end G

/-! The defs do what their forms reckon. -/
namespace G
open PySem PySem.Spec PyProof.Rows L2
abbrev topOf (i : Nat) : Stmt := topS (topL.getD i 0)
abbrev parOf (i : Nat) : List Str := parL.getD i []
abbrev slOfN (i : Nat) : List Str := slL.getD i []
/-- what the top has written: the defs -/
structure Txt (K : PySem.W.Frag) (mg : Str → Option Value) (fa : Nat → Addr) : Prop where
  fn : ∀ i, i < 45 → ∃ fd, Fun K (nmOf i) (nmOf i) (topOf i) (fa i) fd
  nam : ∀ i, i < 45 → mg (nmOf i) = some (.ref (fa i))
  blt : ∀ x, x ∈ bltNames → mg x = none
  gls : ∀ p, p ∈ glL → ∃ u, mg p.1 = some u ∧ RelV p.2 u
theorem start_env {c : Cn} {B : Option Addr} {F H : Hp} {N : List Str} {vs : List V} {ds : List PD} (ra : RvA c B F vs ds) (hl : ds.length ≤ N.length) : MEnv c B F H (L2.start N vs) (ds.map Sl.d ++ List.replicate (N.length - ds.length) Sl.no) := by
  have el := ra.length
  unfold L2.start
  rw [el]
  refine ⟨by simp [el], fun i s e => ?_, fun i j a xs ys e1 _ _ _ => ?_⟩
  · by_cases l : i < ds.length
    · rw [List.getElem?_append_left (by simpa using l), List.getElem?_map] at e
      rw [List.getElem?_append_left (by simpa [el] using l), List.getElem?_map]
      obtain ⟨d, e1, e2⟩ := Option.map_eq_some_iff.mp e
      obtain ⟨v, h1, h2⟩ := ra.get e1
      subst e2
      exact ⟨some v, by rw [h1]; rfl, v, rfl, h2⟩
    · rw [List.getElem?_append_right (by simpa using l)] at e
      have e' := List.mem_of_getElem? e
      have es : s = .no := (List.mem_replicate.mp e').2
      subst es
      have li : i < (ds.map Sl.d ++ List.replicate (N.length - ds.length) Sl.no).length := by
        rw [List.length_append, List.length_map, List.length_replicate]
        have := (List.getElem?_eq_some_iff.mp e).1
        rw [List.length_map, List.length_replicate] at this
        omega
      have li' : i < (vs.map some ++ List.replicate (N.length - ds.length) (none : Option V)).length := by
        simp at li ⊢
        omega
      exact ⟨_, List.getElem?_eq_getElem li', trivial⟩
  · exfalso
    by_cases l : i < ds.length
    · rw [List.getElem?_append_left (by simpa using l), List.getElem?_map] at e1
      obtain ⟨d, _, e2⟩ := Option.map_eq_some_iff.mp e1
      cases e2
    · rw [List.getElem?_append_right (by simpa using l)] at e1
      have es := (List.mem_replicate.mp (List.mem_of_getElem? e1)).2
      cases es
theorem env_noown {ds : List PD} {n i : Nat} {xs : List PD} (e : (ds.map Sl.d ++ List.replicate n Sl.no)[i]? = some (.own xs)) : False := by
  by_cases l : i < ds.length
  · rw [List.getElem?_append_left (by simpa using l), List.getElem?_map] at e
    obtain ⟨d, _, e2⟩ := Option.map_eq_some_iff.mp e
    cases e2
  · rw [List.getElem?_append_right (by simpa using l)] at e
    have es := (List.mem_replicate.mp (List.mem_of_getElem? e)).2
    cases es
/-- the state at a def's entry -/
theorem sinv_start {c : Cn} {B : Option Addr} {F H : Hp} {N : List Str} {vs : List V} {ds g : List PD} (s : Sub F H) (bg : BagR c B F H g) (ra : RvA c B F vs ds) (hl : ds.length ≤ N.length) :
    SInv c B F H F H (L2.start N vs) (ds.map Sl.d ++ List.replicate (N.length - ds.length) Sl.no) g :=
  ⟨.refl s, ⟨g, bg⟩, bg, start_env ra hl, fun i xs a e _ => (env_noown e).elim⟩
/-- the end of a def -/
theorem post_ends {c : Cn} {B : Option Addr} {E : XK} {F H : Hp} {Q : VK} {o : Out Fl} (h : Post c B E F H (o.bnd fun f => match f with | .nx _ => ret .none | .rt d => ret d) fun d _ F' H' => ∀ v, Rv c B F' v d → Q v H') : PostB c B E F H F o { nx := fun _ H' => Q .non H', rt := Q } := by
  cases o with
  | stuck => exact h
  | exn l k g => exact h
  | ok f g =>
    cases f with
    | nx env => exact fun F' H' σ _ S => h F' H' S.gr S.bg .non .non
    | rt d => exact fun F' H' v gr bg r => h F' H' gr bg v r
theorem passX {P : Program} {w : World} {K : PySem.W.Frag} {mg : Str → Option Value} {base : Heap} {N : List Str} {name : Str} {sc : Scope} {f : Addr} {cdv : Value} {A : Around} {outer : List Env} {s : Shared} {H : Hp} {E : XK} :
    Passes (L2.CX P w) (cxOf (L2.CX P w) P w K mg base N name sc f cdv A outer s H E) E := fun pins σ H' s' e s'' I h =>
  passAt (X := cxOf (L2.CX P w) P w K mg base N name sc f cdv A outer s H E) (W := fun cls d _ H => E cls d H) (takes_of rfl rfl rfl rfl) σ pins H' s' e s'' I h
/-- a def that lets nothing out, as a value -/
theorem held_of {P : Program} {w : World} {K : PySem.W.Frag} {mg : Str → Option Value} {base : Heap} {k : Nat} {f : Addr} {fd : FuncData} {ps : List Str} {sp : Sp} (F : FnOk P w K mg base (L2.CX P w) k f fd ps sp) (hk : PySem.W.keepIn K (.ref f) = true) (hb : Binds K fd ps []) :
    Held P w K mg base k f (fun vs H Q _ => sp vs H Q E00) := by
  refine ⟨fd, ps, ⟨fun vs H Q E h => F.len vs H Q E00 h, fun A outer s H args us vs Q E hr he hbd hv h => ?_⟩, hk, hb⟩
  refine codeAny_mono (F.run A outer s H args us vs Q E00 hr he hbd hv h) fun r s' hq => ?_
  cases r with
  | error e =>
    obtain ⟨_, _, _, _, _, _, _, _, _, _, _, _, z⟩ := (show L2.CX P w outer H s E00 e s' from hq)
    exact False.elim z
  | ok u => cases u <;> exact hq
/-- the table at a level -/
def ThN (K : PySem.W.Frag) (fa : Nat → Addr) (CB : Addr) (n : Nat) : Th :=
  ⟨⟨K, fa, CB⟩, fun f => SpOf ⟨K, fa, CB⟩ (ar f) (sem n f), fun a sp => ∃ k, k ∈ vkL ∧ a = fa k ∧ sp = fun vs H Q _ => SpOf ⟨K, fa, CB⟩ (ar k) (sem n k) vs H Q E00⟩
theorem tabN (K : PySem.W.Frag) (fa : Nat → Addr) (CB : Addr) (n : Nat) : Tab (ThN K fa CB n) (sem n) vkL ar := ⟨fun _ => rfl, fun k hk => ⟨k, hk, rfl, rfl⟩⟩
section
variable {P : Program} {w : World} {K : PySem.W.Frag} {mg : Str → Option Value} {base : Heap} {fa : Nat → Addr} {CB : Addr} (T : Txt K mg fa) (bds : ∀ i fd, i < 45 → Fun K (nmOf i) (nmOf i) (topOf i) (fa i) fd → Binds K fd (parOf i) [])
/-- all defs at a level -/
def AllOk (P : Program) (w : World) (K : PySem.W.Frag) (mg : Str → Option Value) (base : Heap) (fa : Nat → Addr) (CB : Addr) (n : Nat) : Prop :=
  ∀ i fd, i < 45 → i ∉ ngL → Fun K (nmOf i) (nmOf i) (topOf i) (fa i) fd → FnOk P w K mg base (L2.CX P w) n (fa i) fd (parOf i) (SpOf ⟨K, fa, CB⟩ (ar i) (sem n i))
include T bds
theorem ctxN {n : Nat} (h : AllOk P w K mg base fa CB n) {N : List Str} {name : Str} {top : Nat} {f : Addr} {cdv : Value} {A : Around} {outer : List Env} {s : Shared} {H : Hp} {E : XK} (nd : N.Nodup) (hr : Room n (A.deeper (envOfC name (defScope (topS top)) s.heap.objs.size f cdv))) :
    Ctx (cxOf (L2.CX P w) P w K mg base N name (defScope (topS top)) f cdv A outer s H E) (ThN K fa CB n) n 45 nmOf glL where
  K := rfl
  room := hr
  calm := rfl
  nd := nd
  fns := fun i hi hng => by
    obtain ⟨fd, F⟩ := T.fn i hi
    exact ⟨fd, parOf i, h i fd hi hng F, bds i fd hi F, T.nam i hi, F.kp⟩
  held := fun a sp hs => by
    obtain ⟨k, hk, e1, e2⟩ := hs
    subst e1
    subst e2
    have hk' : k < 45 ∧ k ∉ ngL := by
      have : ∀ j ∈ vkL, j < 45 ∧ j ∉ ngL := by decide
      exact this k hk
    obtain ⟨fd, F⟩ := T.fn k hk'.1
    exact held_of (h k fd hk'.1 hk'.2 F) F.kp (bds k fd hk'.1 F)
  blt := T.blt
  gls := T.gls
/-- a def by its form -/
theorem okDef {fI cc cda : Addr} (R : BT.BadTxt P K mg CB fI cc cda) {n : Nat} (h : AllOk P w K mg base fa CB n) {i : Nat} {fd : FuncData} {b : Ss} (hi : i < 45) (F : Fun K (nmOf i) (nmOf i) (topOf i) (fa i) fd) (hb : bodyOf i = some ((slOfN i).length, b)) (D : Der (defBody (topS (topL.getD i 0))) (topL.getD i 0) (slOfN i) (nmOf i) b)
    (S : FnScope (slOfN i) (parOf i) (defScope (topOf i))) (ha : ar i = (parOf i).length) (hok : okSs ar vkL b = true) (h1 : i ≠ 33) (h2 : i ≠ 43) : FnOk P w K mg base (L2.CX P w) (n + 1) (fa i) fd (parOf i) (SpOf ⟨K, fa, CB⟩ (ar i) (sem (n + 1) i)) := by
  have hpl : (parOf i).length ≤ (slOfN i).length := by
    have e := congrArg List.length S.pre
    rw [List.length_take] at e
    omega
  refine F.okX S (fun vs H Q E q => ?_) fun cdv A outer s H vs Q E hr q => ?_
  · obtain ⟨B, F', g, ds, _, _, ra, hl, _⟩ := q
    rw [ra.length, hl, ha]
  · obtain ⟨B, F', g, ds, sb, bg, ra, hl, hp⟩ := q
    refine ⟨_, D P w K mg base (fa i) cdv A outer s H E (ThN K fa CB n) n (ctxN T bds h S.nd hr) passX (passes_of (X := cxOf (L2.CX P w) P w K mg base (slOfN i) (nmOf i) (defScope (topOf i)) (fa i) cdv A outer s H E) rfl) (rse_ok R hr), ?_⟩
    have e : sem (n + 1) i ds g = evF (sem n) vkL (slOfN i).length b ds g := by
      unfold sem
      rw [if_pos hl, if_neg h1, if_neg h2, hb]
    rw [e] at hp
    have hl' : ds.length ≤ (slOfN i).length := by rw [hl, ha]; exact hpl
    exact evSs_ok (tabN K fa CB n) b E B F' H F' F' H (L2.start (slOfN i) vs) _ g _ hok (.refl F') (sinv_start sb bg ra hl') (post_ends hp)
end
end G

/-! All defs at every level. -/
namespace G
open PySem PySem.Spec PyProof.Rows L2
/-- what is looked up of a def -/
structure DefOk (i : Nat) (b : Ss) : Prop where
  body : bodyOf i = some ((slOfN i).length, b)
  der : Der (defBody (topS (topL.getD i 0))) (topL.getD i 0) (slOfN i) (nmOf i) b
  scope : FnScope (slOfN i) (parOf i) (defScope (topOf i))
  ar : ar i = (parOf i).length
  ok : okSs G.ar vkL b = true
theorem do0 : DefOk 0 ir0 := ⟨rfl, D0, ⟨rfl, rfl, rfl, by decide +kernel, rfl, by decide +kernel, by decide +kernel⟩, rfl, by decide +kernel⟩
theorem do1 : DefOk 1 ir1 := ⟨rfl, D1, ⟨rfl, rfl, rfl, by decide +kernel, rfl, by decide +kernel, by decide +kernel⟩, rfl, by decide +kernel⟩
theorem do2 : DefOk 2 ir2 := ⟨rfl, D2, ⟨rfl, rfl, rfl, by decide +kernel, rfl, by decide +kernel, by decide +kernel⟩, rfl, by decide +kernel⟩
theorem do3 : DefOk 3 ir3 := ⟨rfl, D3, ⟨rfl, rfl, rfl, by decide +kernel, rfl, by decide +kernel, by decide +kernel⟩, rfl, by decide +kernel⟩
theorem do4 : DefOk 4 ir4 := ⟨rfl, D4, ⟨rfl, rfl, rfl, by decide +kernel, rfl, by decide +kernel, by decide +kernel⟩, rfl, by decide +kernel⟩
theorem do5 : DefOk 5 ir5 := ⟨rfl, D5, ⟨rfl, rfl, rfl, by decide +kernel, rfl, by decide +kernel, by decide +kernel⟩, rfl, by decide +kernel⟩
theorem do6 : DefOk 6 ir6 := ⟨rfl, D6, ⟨rfl, rfl, rfl, by decide +kernel, rfl, by decide +kernel, by decide +kernel⟩, rfl, by decide +kernel⟩
theorem do7 : DefOk 7 ir7 := ⟨rfl, D7, ⟨rfl, rfl, rfl, by decide +kernel, rfl, by decide +kernel, by decide +kernel⟩, rfl, by decide +kernel⟩
theorem do8 : DefOk 8 ir8 := ⟨rfl, D8, ⟨rfl, rfl, rfl, by decide +kernel, rfl, by decide +kernel, by decide +kernel⟩, rfl, by decide +kernel⟩
theorem do9 : DefOk 9 ir9 := ⟨rfl, D9, ⟨rfl, rfl, rfl, by decide +kernel, rfl, by decide +kernel, by decide +kernel⟩, rfl, by decide +kernel⟩
theorem do10 : DefOk 10 ir10 := ⟨rfl, D10, ⟨rfl, rfl, rfl, by decide +kernel, rfl, by decide +kernel, by decide +kernel⟩, rfl, by decide +kernel⟩
theorem do11 : DefOk 11 ir11 := ⟨rfl, D11, ⟨rfl, rfl, rfl, by decide +kernel, rfl, by decide +kernel, by decide +kernel⟩, rfl, by decide +kernel⟩
theorem do12 : DefOk 12 ir12 := ⟨rfl, D12, ⟨rfl, rfl, rfl, by decide +kernel, rfl, by decide +kernel, by decide +kernel⟩, rfl, by decide +kernel⟩
theorem do13 : DefOk 13 ir13 := ⟨rfl, D13, ⟨rfl, rfl, rfl, by decide +kernel, rfl, by decide +kernel, by decide +kernel⟩, rfl, by decide +kernel⟩
theorem do14 : DefOk 14 ir14 := ⟨rfl, D14, ⟨rfl, rfl, rfl, by decide +kernel, rfl, by decide +kernel, by decide +kernel⟩, rfl, by decide +kernel⟩
theorem do15 : DefOk 15 ir15 := ⟨rfl, D15, ⟨rfl, rfl, rfl, by decide +kernel, rfl, by decide +kernel, by decide +kernel⟩, rfl, by decide +kernel⟩
theorem do16 : DefOk 16 ir16 := ⟨rfl, D16, ⟨rfl, rfl, rfl, by decide +kernel, rfl, by decide +kernel, by decide +kernel⟩, rfl, by decide +kernel⟩
theorem do17 : DefOk 17 ir17 := ⟨rfl, D17, ⟨rfl, rfl, rfl, by decide +kernel, rfl, by decide +kernel, by decide +kernel⟩, rfl, by decide +kernel⟩
theorem do18 : DefOk 18 ir18 := ⟨rfl, D18, ⟨rfl, rfl, rfl, by decide +kernel, rfl, by decide +kernel, by decide +kernel⟩, rfl, by decide +kernel⟩
theorem do19 : DefOk 19 ir19 := ⟨rfl, D19, ⟨rfl, rfl, rfl, by decide +kernel, rfl, by decide +kernel, by decide +kernel⟩, rfl, by decide +kernel⟩
theorem do20 : DefOk 20 ir20 := ⟨rfl, D20, ⟨rfl, rfl, rfl, by decide +kernel, rfl, by decide +kernel, by decide +kernel⟩, rfl, by decide +kernel⟩
theorem do21 : DefOk 21 ir21 := ⟨rfl, D21, ⟨rfl, rfl, rfl, by decide +kernel, rfl, by decide +kernel, by decide +kernel⟩, rfl, by decide +kernel⟩
theorem do22 : DefOk 22 ir22 := ⟨rfl, D22, ⟨rfl, rfl, rfl, by decide +kernel, rfl, by decide +kernel, by decide +kernel⟩, rfl, by decide +kernel⟩
theorem do23 : DefOk 23 ir23 := ⟨rfl, D23, ⟨rfl, rfl, rfl, by decide +kernel, rfl, by decide +kernel, by decide +kernel⟩, rfl, by decide +kernel⟩
theorem do24 : DefOk 24 ir24 := ⟨rfl, D24, ⟨rfl, rfl, rfl, by decide +kernel, rfl, by decide +kernel, by decide +kernel⟩, rfl, by decide +kernel⟩
theorem do25 : DefOk 25 ir25 := ⟨rfl, D25, ⟨rfl, rfl, rfl, by decide +kernel, rfl, by decide +kernel, by decide +kernel⟩, rfl, by decide +kernel⟩
theorem do26 : DefOk 26 ir26 := ⟨rfl, D26, ⟨rfl, rfl, rfl, by decide +kernel, rfl, by decide +kernel, by decide +kernel⟩, rfl, by decide +kernel⟩
theorem do27 : DefOk 27 ir27 := ⟨rfl, D27, ⟨rfl, rfl, rfl, by decide +kernel, rfl, by decide +kernel, by decide +kernel⟩, rfl, by decide +kernel⟩
theorem do28 : DefOk 28 ir28 := ⟨rfl, D28, ⟨rfl, rfl, rfl, by decide +kernel, rfl, by decide +kernel, by decide +kernel⟩, rfl, by decide +kernel⟩
theorem do29 : DefOk 29 ir29 := ⟨rfl, D29, ⟨rfl, rfl, rfl, by decide +kernel, rfl, by decide +kernel, by decide +kernel⟩, rfl, by decide +kernel⟩
theorem do31 : DefOk 31 ir31 := ⟨rfl, D31, ⟨rfl, rfl, rfl, by decide +kernel, rfl, by decide +kernel, by decide +kernel⟩, rfl, by decide +kernel⟩
theorem do32 : DefOk 32 ir32 := ⟨rfl, D32, ⟨rfl, rfl, rfl, by decide +kernel, rfl, by decide +kernel, by decide +kernel⟩, rfl, by decide +kernel⟩
theorem do34 : DefOk 34 ir34 := ⟨rfl, D34, ⟨rfl, rfl, rfl, by decide +kernel, rfl, by decide +kernel, by decide +kernel⟩, rfl, by decide +kernel⟩
theorem do35 : DefOk 35 ir35 := ⟨rfl, D35, ⟨rfl, rfl, rfl, by decide +kernel, rfl, by decide +kernel, by decide +kernel⟩, rfl, by decide +kernel⟩
theorem do36 : DefOk 36 ir36 := ⟨rfl, D36, ⟨rfl, rfl, rfl, by decide +kernel, rfl, by decide +kernel, by decide +kernel⟩, rfl, by decide +kernel⟩
theorem do37 : DefOk 37 ir37 := ⟨rfl, D37, ⟨rfl, rfl, rfl, by decide +kernel, rfl, by decide +kernel, by decide +kernel⟩, rfl, by decide +kernel⟩
theorem do38 : DefOk 38 ir38 := ⟨rfl, D38, ⟨rfl, rfl, rfl, by decide +kernel, rfl, by decide +kernel, by decide +kernel⟩, rfl, by decide +kernel⟩
theorem do39 : DefOk 39 ir39 := ⟨rfl, D39, ⟨rfl, rfl, rfl, by decide +kernel, rfl, by decide +kernel, by decide +kernel⟩, rfl, by decide +kernel⟩
theorem do40 : DefOk 40 ir40 := ⟨rfl, D40, ⟨rfl, rfl, rfl, by decide +kernel, rfl, by decide +kernel, by decide +kernel⟩, rfl, by decide +kernel⟩
theorem do41 : DefOk 41 ir41 := ⟨rfl, D41, ⟨rfl, rfl, rfl, by decide +kernel, rfl, by decide +kernel, by decide +kernel⟩, rfl, by decide +kernel⟩
theorem do42 : DefOk 42 ir42 := ⟨rfl, D42, ⟨rfl, rfl, rfl, by decide +kernel, rfl, by decide +kernel, by decide +kernel⟩, rfl, by decide +kernel⟩
theorem defs_ok : ∀ i, i < 45 → i ∉ ngL → i ≠ 30 → i ≠ 44 → ∃ b, DefOk i b
  | 0, _, _, _, _ => ⟨_, do0⟩
  | 1, _, _, _, _ => ⟨_, do1⟩
  | 2, _, _, _, _ => ⟨_, do2⟩
  | 3, _, _, _, _ => ⟨_, do3⟩
  | 4, _, _, _, _ => ⟨_, do4⟩
  | 5, _, _, _, _ => ⟨_, do5⟩
  | 6, _, _, _, _ => ⟨_, do6⟩
  | 7, _, _, _, _ => ⟨_, do7⟩
  | 8, _, _, _, _ => ⟨_, do8⟩
  | 9, _, _, _, _ => ⟨_, do9⟩
  | 10, _, _, _, _ => ⟨_, do10⟩
  | 11, _, _, _, _ => ⟨_, do11⟩
  | 12, _, _, _, _ => ⟨_, do12⟩
  | 13, _, _, _, _ => ⟨_, do13⟩
  | 14, _, _, _, _ => ⟨_, do14⟩
  | 15, _, _, _, _ => ⟨_, do15⟩
  | 16, _, _, _, _ => ⟨_, do16⟩
  | 17, _, _, _, _ => ⟨_, do17⟩
  | 18, _, _, _, _ => ⟨_, do18⟩
  | 19, _, _, _, _ => ⟨_, do19⟩
  | 20, _, _, _, _ => ⟨_, do20⟩
  | 21, _, _, _, _ => ⟨_, do21⟩
  | 22, _, _, _, _ => ⟨_, do22⟩
  | 23, _, _, _, _ => ⟨_, do23⟩
  | 24, _, _, _, _ => ⟨_, do24⟩
  | 25, _, _, _, _ => ⟨_, do25⟩
  | 26, _, _, _, _ => ⟨_, do26⟩
  | 27, _, _, _, _ => ⟨_, do27⟩
  | 28, _, _, _, _ => ⟨_, do28⟩
  | 29, _, _, _, _ => ⟨_, do29⟩
  | 30, _, _, h, _ => absurd rfl h
  | 31, _, _, _, _ => ⟨_, do31⟩
  | 32, _, _, _, _ => ⟨_, do32⟩
  | 33, _, h, _, _ => absurd (by decide) h
  | 34, _, _, _, _ => ⟨_, do34⟩
  | 35, _, _, _, _ => ⟨_, do35⟩
  | 36, _, _, _, _ => ⟨_, do36⟩
  | 37, _, _, _, _ => ⟨_, do37⟩
  | 38, _, _, _, _ => ⟨_, do38⟩
  | 39, _, _, _, _ => ⟨_, do39⟩
  | 40, _, _, _, _ => ⟨_, do40⟩
  | 41, _, _, _, _ => ⟨_, do41⟩
  | 42, _, _, _, _ => ⟨_, do42⟩
  | 43, _, h, _, _ => absurd (by decide) h
  | 44, _, _, _, h => absurd rfl h
  | n + 45, h, _, _, _ => absurd h (by omega)
section
variable {P : Program} {w : World} {K : PySem.W.Frag} {mg : Str → Option Value} {base : Heap} {fa : Nat → Addr} {CB : Addr}
theorem bdsN : ∀ i fd, i < 45 → Fun K (nmOf i) (nmOf i) (topOf i) (fa i) fd → Binds K fd (parOf i) []
  | 0, fd, _, F => F.binds (ps := parOf 0) fun _ _ _ _ _ _ us hl => match us, hl with | [_], _ => rfl
  | 1, fd, _, F => F.binds (ps := parOf 1) fun _ _ _ _ _ _ us hl => match us, hl with | [_, _], _ => rfl
  | 2, fd, _, F => F.binds (ps := parOf 2) fun _ _ _ _ _ _ us hl => match us, hl with | [_, _], _ => rfl
  | 3, fd, _, F => F.binds (ps := parOf 3) fun _ _ _ _ _ _ us hl => match us, hl with | [_, _], _ => rfl
  | 4, fd, _, F => F.binds (ps := parOf 4) fun _ _ _ _ _ _ us hl => match us, hl with | [_], _ => rfl
  | 5, fd, _, F => F.binds (ps := parOf 5) fun _ _ _ _ _ _ us hl => match us, hl with | [_], _ => rfl
  | 6, fd, _, F => F.binds (ps := parOf 6) fun _ _ _ _ _ _ us hl => match us, hl with | [_], _ => rfl
  | 7, fd, _, F => F.binds (ps := parOf 7) fun _ _ _ _ _ _ us hl => match us, hl with | [_], _ => rfl
  | 8, fd, _, F => F.binds (ps := parOf 8) fun _ _ _ _ _ _ us hl => match us, hl with | [_], _ => rfl
  | 9, fd, _, F => F.binds (ps := parOf 9) fun _ _ _ _ _ _ us hl => match us, hl with | [_], _ => rfl
  | 10, fd, _, F => F.binds (ps := parOf 10) fun _ _ _ _ _ _ us hl => match us, hl with | [_], _ => rfl
  | 11, fd, _, F => F.binds (ps := parOf 11) fun _ _ _ _ _ _ us hl => match us, hl with | [_], _ => rfl
  | 12, fd, _, F => F.binds (ps := parOf 12) fun _ _ _ _ _ _ us hl => match us, hl with | [_], _ => rfl
  | 13, fd, _, F => F.binds (ps := parOf 13) fun _ _ _ _ _ _ us hl => match us, hl with | [_], _ => rfl
  | 14, fd, _, F => F.binds (ps := parOf 14) fun _ _ _ _ _ _ us hl => match us, hl with | [_], _ => rfl
  | 15, fd, _, F => F.binds (ps := parOf 15) fun _ _ _ _ _ _ us hl => match us, hl with | [_], _ => rfl
  | 16, fd, _, F => F.binds (ps := parOf 16) fun _ _ _ _ _ _ us hl => match us, hl with | [_, _], _ => rfl
  | 17, fd, _, F => F.binds (ps := parOf 17) fun _ _ _ _ _ _ us hl => match us, hl with | [_], _ => rfl
  | 18, fd, _, F => F.binds (ps := parOf 18) fun _ _ _ _ _ _ us hl => match us, hl with | [_], _ => rfl
  | 19, fd, _, F => F.binds (ps := parOf 19) fun _ _ _ _ _ _ us hl => match us, hl with | [_], _ => rfl
  | 20, fd, _, F => F.binds (ps := parOf 20) fun _ _ _ _ _ _ us hl => match us, hl with | [_], _ => rfl
  | 21, fd, _, F => F.binds (ps := parOf 21) fun _ _ _ _ _ _ us hl => match us, hl with | [_], _ => rfl
  | 22, fd, _, F => F.binds (ps := parOf 22) fun _ _ _ _ _ _ us hl => match us, hl with | [_], _ => rfl
  | 23, fd, _, F => F.binds (ps := parOf 23) fun _ _ _ _ _ _ us hl => match us, hl with | [_], _ => rfl
  | 24, fd, _, F => F.binds (ps := parOf 24) fun _ _ _ _ _ _ us hl => match us, hl with | [_], _ => rfl
  | 25, fd, _, F => F.binds (ps := parOf 25) fun _ _ _ _ _ _ us hl => match us, hl with | [_], _ => rfl
  | 26, fd, _, F => F.binds (ps := parOf 26) fun _ _ _ _ _ _ us hl => match us, hl with | [_], _ => rfl
  | 27, fd, _, F => F.binds (ps := parOf 27) fun _ _ _ _ _ _ us hl => match us, hl with | [_], _ => rfl
  | 28, fd, _, F => F.binds (ps := parOf 28) fun _ _ _ _ _ _ us hl => match us, hl with | [_], _ => rfl
  | 29, fd, _, F => F.binds (ps := parOf 29) fun _ _ _ _ _ _ us hl => match us, hl with | [_], _ => rfl
  | 30, fd, _, F => F.binds (ps := parOf 30) fun _ _ _ _ _ _ us hl => match us, hl with | [_], _ => rfl
  | 31, fd, _, F => F.binds (ps := parOf 31) fun _ _ _ _ _ _ us hl => match us, hl with | [_, _], _ => rfl
  | 32, fd, _, F => F.binds (ps := parOf 32) fun _ _ _ _ _ _ us hl => match us, hl with | [_, _], _ => rfl
  | 33, fd, _, F => F.binds (ps := parOf 33) fun _ _ _ _ _ _ us hl => match us, hl with | [_, _], _ => rfl
  | 34, fd, _, F => F.binds (ps := parOf 34) fun _ _ _ _ _ _ us hl => match us, hl with | [_, _], _ => rfl
  | 35, fd, _, F => F.binds (ps := parOf 35) fun _ _ _ _ _ _ us hl => match us, hl with | [_, _], _ => rfl
  | 36, fd, _, F => F.binds (ps := parOf 36) fun _ _ _ _ _ _ us hl => match us, hl with | [_, _], _ => rfl
  | 37, fd, _, F => F.binds (ps := parOf 37) fun _ _ _ _ _ _ us hl => match us, hl with | [_], _ => rfl
  | 38, fd, _, F => F.binds (ps := parOf 38) fun _ _ _ _ _ _ us hl => match us, hl with | [_], _ => rfl
  | 39, fd, _, F => F.binds (ps := parOf 39) fun _ _ _ _ _ _ us hl => match us, hl with | [_], _ => rfl
  | 40, fd, _, F => F.binds (ps := parOf 40) fun _ _ _ _ _ _ us hl => match us, hl with | [_, _], _ => rfl
  | 41, fd, _, F => F.binds (ps := parOf 41) fun _ _ _ _ _ _ us hl => match us, hl with | [_, _], _ => rfl
  | 42, fd, _, F => F.binds (ps := parOf 42) fun _ _ _ _ _ _ us hl => match us, hl with | [_], _ => rfl
  | 43, fd, _, F => F.binds (ps := parOf 43) fun _ _ _ _ _ _ us hl => match us, hl with | [_, _, _], _ => rfl
  | 44, fd, _, F => F.binds (ps := parOf 44) fun _ _ _ _ _ _ us hl => match us, hl with | [_], _ => rfl
  | n + 45, _, h, _ => absurd h (by omega)
theorem ok_stk {n i : Nat} {f : Addr} {fd : FuncData} {ps : List Str} {k : Nat} (hs : ∀ ds g, sem n i ds g = .stuck) : FnOk P w K mg base (L2.CX P w) k f fd ps (SpOf ⟨K, fa, CB⟩ (ar i) (sem n i)) := by
  have no : ∀ {vs : List V} {H : Hp} {Q : VK} {E : XK}, SpOf ⟨K, fa, CB⟩ (ar i) (sem n i) vs H Q E → False := fun {vs H Q E} h => by
    obtain ⟨B, F, g, ds, _, _, _, _, hp⟩ := h
    rw [hs] at hp
    exact hp
  exact ⟨fun vs H Q E h => (no h).elim, fun A outer s H args us vs Q E _ _ _ _ h => (no h).elim⟩
theorem sem_no {n i : Nat} (h : bodyOf i = none) (h1 : i ≠ 33) (h2 : i ≠ 43) (ds g : List PD) : sem (n + 1) i ds g = .stuck := by
  unfold sem
  by_cases l : ds.length = ar i
  · rw [if_pos l, if_neg h1, if_neg h2, h]
    rfl
  · rw [if_neg l]
    rfl
theorem all_ok (T : Txt K mg fa) {fI cc cda : Addr} (R : BT.BadTxt P K mg CB fI cc cda) : ∀ n, AllOk P w K mg base fa CB n
  | 0 => fun i fd hi hng F => ok_stk fun _ _ => rfl
  | n + 1 => fun i fd hi hng F => by
    have h1 : i ≠ 33 := fun z => hng (by rw [z]; decide)
    have h2 : i ≠ 43 := fun z => hng (by rw [z]; decide)
    by_cases e1 : i = 30
    · subst e1
      exact ok_stk (sem_no rfl h1 h2)
    by_cases e2 : i = 44
    · subst e2
      exact ok_stk (sem_no rfl h1 h2)
    obtain ⟨b, D⟩ := defs_ok i hi hng e1 e2
    exact okDef T bdsN R (all_ok T R n) hi F D.body D.der D.scope D.ar D.ok h1 h2
end
end G

/-! _law_bag; the law at the caller's activation. -/
namespace G
open PySem PySem.Spec PyProof.Rows L2
def absI (i : Int) : Int := if i < 0 then -i else i
/-- the bag's list at first -/
def bag0 (ns : List Int) : List PD := [.int 0, .int 1234567891, .int 0, .list ((ns.take 63).map fun i => .int (absI i))]
def F00 : Hp := fun _ => none
theorem sub00 (H : Hp) : Sub F00 H := fun _ _ h => nomatch h
theorem bagNone {c : Cn} {F H : Hp} {g : List PD} : BagR c none F H g := fun _ e => nomatch e
/-- what _law_bag promises -/
def spBag (c : Cn) : Sp := fun vs H Q _ => ∃ (a : Addr) (ns : List Int), vs = [.ref a] ∧ SqL c.K H a (ns.map V.int) ∧
  ∀ F' H' b ws, Gr none F00 H F' H' → H' b = some (.lst ws) → F' b = none → H b = none → RvA c none F' ws (bag0 ns) → Q (.ref b) H'
def tBag (K : PySem.W.Frag) : TS := tRet (tLst (tCons (tC (.int 0)) (tCons (tC (.int 1234567891)) (tCons (tC (.int 0)) (tCons (tLc (iList K (tSl (rSlL K) (tVar 0) tNoPart (tPart (tC (.int 63))))) (gName 1) tYes
  (tCB (fun xs H Q => ∃ i, xs = [V.int i] ∧ Q (V.int (if i < 0 then -i else i)) H) (tCons (tVar 1) tNil)) [1]) tNil)))))
abbrev nBag : List Str := ["script", "cell"]
section
variable {P : Program} {w : World} {K : PySem.W.Frag} {mg : Str → Option Value} {base : Heap} {f : Addr}
theorem bag_der {cdv : Value} {A : Around} {outer : List Env} {s : Shared} {H : Hp} {E : XK} (hb : mg "abs" = none) : PSs (cxOf (L2.CX P w) P w K mg base nBag "_law_bag" (defScope (topS 41)) f cdv A outer s H E) (defBody (topS 41)) (tBag K) := by
  have nd : nBag.Nodup := by decide +kernel
  exact pss_one (ps_ret (pe_lst (pa_cons pe_int (pa_cons pe_int (pa_cons pe_int (pa_cons (pe_lc (own := [(("cell" : Str), 1)]) rfl nd (pi_list (pe_slice sl_list (pv 0) po_none (po_some pe_int))) (blkOk_by (by kernel_rfl))
    (fun s H D cl fp => pg_name (i := 1) nd rfl (Or.inl rfl)) (fun _ _ _ _ _ => pts_nil) (fun s H D cl fp => pe_callB call_abs rfl hb (by rfl) (pa_cons (pv 1) pa_nil))) pa_nil))))))
def absF : PD → M PD | .int i => ret (.int (absI i)) | _ => stk
theorem absF_map : ∀ (ns : List Int) (g : List PD), mapM' absF (ns.map PyData.int) g = .ok (ns.map fun i => .int (absI i)) g
  | [], g => rfl
  | n :: ns, g => by
    show (absF (.int n) g).bnd (fun y => bnd (mapM' absF (ns.map PyData.int)) fun ys => ret (y :: ys)) = _
    show (mapM' absF (ns.map PyData.int) g).bnd (fun ys => ret (PyData.int (absI n) :: ys)) = _
    rw [absF_map ns g]
    rfl
theorem rva_ints {c : Cn} {B : Option Addr} {F : Hp} : ∀ ns : List Int, RvA c B F (ns.map V.int) (ns.map PyData.int)
  | [] => .nil
  | n :: ns => .cons (.int n) (rva_ints ns)
theorem pure_bag {c : Cn} {vs : List V} {H : Hp} {Q : VK} {E : XK} (h : spBag c vs H Q E) : tBag c.K { nx := fun _ H' => Q .non H', rt := Q } (L2.start nBag vs) H := by
  obtain ⟨a, ns, rfl, hs, k⟩ := h
  have hcut : cutV (ns.map V.int) none (some 63) = (ns.take 63).map V.int := by
    unfold cutV
    have e1 : HT.sIx (ns.map V.int).length 0 none = 0 := rfl
    have e2 : HT.sIx (ns.map V.int).length (ns.map V.int).length (some 63) = min 63 (ns.map V.int).length := rfl
    rw [e1, e2, List.drop_zero, Nat.sub_zero, ← List.map_take, List.length_map]
    congr 1
    by_cases q : 63 ≤ ns.length
    · rw [Nat.min_eq_left q]
    · rw [Nat.min_eq_right (by omega), List.take_length, List.take_of_length_le (by omega)]
  refine ⟨.ref a, rfl, 63, rfl, a, _, rfl, hs, fun p hp => ⟨p, rfl, ⟨_, .inl (.inl upd_same)⟩, ?_⟩⟩
  rw [hcut]
  have gr0 := Gr.fresh (B := none) (o := HO.lst ((ns.take 63).map V.int)) (sub00 H) hp
  refine lc_ok (c := c) (B := none) (E := E00) (g := []) (ds := (ns.take 63).map PyData.int) (f := absF) (tg := gName 1) (te := tCB (fun xs H Q => ∃ i, xs = [V.int i] ∧ Q (V.int (if i < 0 then -i else i)) H) (tCons (tVar 1) tNil)) (own := [1]) (σ := L2.start nBag [.ref a]) (Q := fun x H1 => [V.int 0, V.int 1234567891, V.int 0, x].length ≤ sizeLine ∧ ∀ p2, H1 p2 = none → Q (.ref p2) (upd H1 p2 (.lst [V.int 0, V.int 1234567891, V.int 0, x]))) (bagNone (F := upd F00 p (.lst ((ns.take 63).map V.int)))) gr0.inn (walks_l upd_same (rva_ints _)) ?_ (fun d g l k g' e => ?_) (fun F1 H1 x d gb y g1 Q' gr bg rx e kk => ?_) ?_
  · rw [List.length_map, List.length_take]
    exact Nat.le_trans (Nat.min_le_left _ _) (by decide)
  · cases d <;> cases e
  · cases d <;> try (cases e; done)
    rename_i i
    cases rx
    cases e
    exact ⟨rfl, _, rfl, _, rfl, kk F1 H1 _ (.refl gr.inn) bg (.int _)⟩
  · rw [absF_map]
    intro F' H' gr bg' q vs e1 e2 e3 ra
    refine ⟨(by show 4 ≤ sizeLine; decide), fun p2 hp2 => ?_⟩
    have grf := gr.freeze e3 e2 e1
    have sb := sub_upd (o := HO.lst vs) e2
    have nF : upd F' q (.lst vs) p2 = none := by
      cases z : upd F' q (.lst vs) p2 with
      | none => rfl
      | some o => rw [grf.inn _ _ z] at hp2; cases hp2
    exact k _ _ p2 _ ((gr0.trans grf).trans (.freshM grf.inn hp2)) upd_same nF ((gr0.trans grf).back hp2) (.cons (.int _) (.cons (.int _) (.cons (.int _) (.cons (.lst upd_same (RvA.mono sb _ _ ra)) .nil))))
theorem ok_bag {c : Cn} (ek : c.K = K) {fd : FuncData} (F : Fun K "_law_bag" "_law_bag" (topS 41) f fd) (hb : mg "abs" = none) {k : Nat} : FnOk P w K mg base (L2.CX P w) (k + 1) f fd ["script"] (spBag c) := by
  subst ek
  refine F.okX (N := nBag) ⟨rfl, rfl, rfl, by decide +kernel, rfl, by decide +kernel, by decide +kernel⟩ (fun vs H Q E q => ?_) fun cdv A outer s H vs Q E hr q => ⟨_, bag_der hb, pure_bag q⟩
  obtain ⟨a, ns, rfl, _⟩ := q
  rfl
end
end G

/-! The law's def at the caller's activation, and from there the row's walk. -/
namespace G
open PySem PySem.Spec PyProof.Rows L2
mutual
theorem Rv.toB {c : Cn} {B : Option Addr} {F : Hp} : ∀ (d : PD) (v : V), Rv c none F v d → Rv c B F v d
  | .none, _, h => by cases h; exact .non
  | .bool b, _, h => by cases h; exact .bl b
  | .int i, _, h => by cases h; exact .int i
  | .str x, _, h => by cases h; exact .str x
  | .list ds, _, h => by
    cases h with
    | lst hs ha => exact .lst hs (RvA.toB ds _ ha)
  | .tuple ds, _, h => by
    cases h with
    | tup hs ha => exact .tup hs (RvA.toB ds _ ha)
  | .dict kvs, _, h => by
    cases h with
    | fn k => exact .fn k
    | bag e => cases e
theorem RvA.toB {c : Cn} {B : Option Addr} {F : Hp} : ∀ (ds : List PD) (vs : List V), RvA c none F vs ds → RvA c B F vs ds
  | [], _, h => by cases h; exact .nil
  | d :: ds, _, h => by
    cases h with
    | cons h1 h2 => exact .cons (Rv.toB d _ h1) (RvA.toB ds _ h2)
end
abbrev Lv : Nat := 20
/-- the slots behind bag = _law_bag(script) -/
def env44 : EnvD := (List.replicate 27 Sl.no).set 1 (.d dBag)
/-- the law in plain: whatever the cells, it ends True -/
def Plain (ns : List Int) : Prop := ∃ g', evSs (sem Lv) vkL ir44 env44 (bag0 ns) = .ok (.rt (.bool true)) g'
theorem me_no {c : Cn} {B : Option Addr} {F H : Hp} {σ : L2.St} : MEnv c B F H σ (List.replicate σ.length Sl.no) := by
  refine ⟨by simp, fun i s e => ?_, fun i j a xs ys e1 _ _ _ => ?_⟩
  · have es := (List.mem_replicate.mp (List.mem_of_getElem? e)).2
    subst es
    have l : i < σ.length := by
      have := (List.getElem?_eq_some_iff.mp e).1
      rwa [List.length_replicate] at this
    exact ⟨_, List.getElem?_eq_getElem l, trivial⟩
  · have es := (List.mem_replicate.mp (List.mem_of_getElem? e1)).2
    cases es
section
variable {P : Program} {w : World} {K : PySem.W.Frag} {mg : Str → Option Value} {base : Heap} {fa : Nat → Addr} {CB fI cc cda : Addr}
theorem spof33 {c : Cn} {m : Nat} {vs : List V} {H : Hp} {Q : VK} {E : XK} (h : SpOf c (ar 33) (sem (m + 1) 33) vs H Q E) : SpOf c 2 alikeF vs H Q E := by
  obtain ⟨B, F, g, ds, sb, bg, ra, hl, hp⟩ := h
  have e : sem (m + 1) 33 ds g = alikeF ds g := by
    unfold sem
    rw [if_pos hl, if_pos rfl]
  rw [e] at hp
  exact ⟨B, F, g, ds, sb, bg, ra, hl, hp⟩
theorem spof43 {c : Cn} {m : Nat} {vs : List V} {H : Hp} {Q : VK} {E : XK} (h : SpOf c (ar 43) (sem (m + 1) 43) vs H Q E) : SpOf c 3 (refusedF (sem m)) vs H Q E := by
  obtain ⟨B, F, g, ds, sb, bg, ra, hl, hp⟩ := h
  have e : sem (m + 1) 43 ds g = refusedF (sem m) ds g := by
    unfold sem
    rw [if_pos hl, if_neg (by decide), if_pos rfl]
  rw [e] at hp
  exact ⟨B, F, g, ds, sb, bg, ra, hl, hp⟩
theorem tried_ok (T : Txt K mg fa) (R : BT.BadTxt P K mg CB fI cc cda) {m : Nat} : ∀ f sp, triedS ⟨K, fa, CB⟩ m f sp → ∃ fd ps, FnOk P w K mg base (L2.CX P w) m f fd ps sp ∧ PySem.W.keepIn K (.ref f) = true ∧ Binds K fd ps [] := by
  intro f sp h
  obtain ⟨k, h1, h2, rfl, rfl⟩ := h
  obtain ⟨fd, F⟩ := T.fn k h1
  exact ⟨fd, parOf k, all_ok T R m k fd h1 h2 F, F.kp, bdsN k fd h1 F⟩
theorem law_run (T : Txt K mg fa) (R : BT.BadTxt P K mg CB fI cc cda) {s : Shared} {H : Hp} {a : Addr} {ns : List Int} {fd : FuncData} (F : Fun K "law" "law" (topS 55) (fa 44) fd) (e0 : Env0 P w K mg base callerA [] s H) (hs : SqL K H a (ns.map V.int)) (hp : Plain ns) :
    codeAny (model P w) callerA (.call (.ref (fa 44)) ⟨[.ref a], []⟩) (CR (L2.CX P w) [] P w H s (fun v _ => v = .bl true) E00) s := by
  have S : FnScope (slOfN 44) ["script"] (defScope (topS 55)) := ⟨rfl, rfl, rfl, by decide +kernel, rfl, by decide +kernel, by decide +kernel⟩
  have bd : Binds K fd ["script"] [] := F.binds (ps := ["script"]) fun _ _ _ _ _ _ us hl => match us, hl with | [_], _ => rfl
  have bb := bd s [.ref a] (e0.mod.kin.keeps fun b o e => (e0.bs b o e).1) rfl
  obtain ⟨fd30, F30⟩ := T.fn 30 (by decide)
  obtain ⟨fd33, F33⟩ := T.fn 33 (by decide)
  obtain ⟨fd43, F43⟩ := T.fn 43 (by decide)
  have FB : FnOk P w K mg base (L2.CX P w) Lv (fa 30) fd30 ["script"] (spBag ⟨K, fa, CB⟩) := ok_bag (c := ⟨K, fa, CB⟩) rfl F30 (T.blt _ (by decide)) (k := 19)
  obtain ⟨oc, od, kV, doc, pm, an, cdv, ct, osl, rfl, lk, hcd⟩ := F.ex
  have hr : Room Lv (callerA.deeper (envOfC "law" (defScope (topS 55)) s.heap.objs.size (fa 44) cdv)) := ⟨rfl, by show callerA.depth + 1 + 3 * Lv + 5 < recursionLimit; decide, by show callerA.units + 3 + 16 * Lv + 200 < cLine; decide⟩
  have C := ctxN (n := Lv) (CB := CB) (s := s) (H := H) (E := E00) (outer := []) (cdv := cdv) (f := fa 44) (name := "law") T bdsN (all_ok (P := P) (w := w) (base := base) T R Lv) S.nd hr
  have mR : mg "repr" = none := T.blt _ (by decide)
  have dL := D44 P w K mg base (fa 44) cdv callerA [] s H E00 (ThN K fa CB Lv) Lv C passL (passes_of (X := cxOf (L2.CX P w) P w K mg base (slOfN 44) "law" (defScope (topS 55)) (fa 44) cdv callerA [] s H E00) rfl) (rse_ok R hr) fun i x hi => by
    intro e es ies p pos ha he hpl hg
    rcases List.mem_cons.mp hi with q | hi
    · obtain ⟨rfl, rfl⟩ := Prod.mk.inj q
      exact pe_callR (X := cxOf (L2.CX P w) P w K mg base (slOfN 44) "law" (defScope (topS 55)) (fa 44) cdv callerA [] s H E00) (f := fa 33) (fun s1 H1 us vs Q e1 r1 h1 => alike_run (CB := CB) F33 mR (by show callerA.depth + 1 < recursionLimit; decide) (by show callerA.units + 3 + 80 < cLine; decide) rfl e1 r1 (spof33 (m := 19) h1)) hg (T.nam 33 (by decide)) F33.kp passL ha (by decide) he hpl
    rcases List.mem_cons.mp hi with q | hi
    · obtain ⟨rfl, rfl⟩ := Prod.mk.inj q
      exact pe_callR (X := cxOf (L2.CX P w) P w K mg base (slOfN 44) "law" (defScope (topS 55)) (fa 44) cdv callerA [] s H E00) (f := fa 43) (fun s1 H1 us vs Q e1 r1 h1 => refd_run (c := ⟨K, fa, CB⟩) (n := 19) rfl rfl rfl F43 F33 R (tried_ok T R) mR (T.nam 33 (by decide)) hr rfl e1 r1 (spof43 (m := 19) h1)) hg (T.nam 43 (by decide)) F43.kp passL ha (by decide) he hpl
    cases hi
  have dB : PSs (cxOf (L2.CX P w) P w K mg base (slOfN 44) "law" (defScope (topS 55)) (fa 44) cdv callerA [] s H E00) (defBody (topS 55)) (tSeq (tAsg (tCall (spBag ⟨K, fa, CB⟩) [] E00 (tCons (tVar 0) tNil)) (gName 1)) (dSs (ThN K fa CB Lv) E00 ir44)) :=
    pss_cons (ps_set (i := 1) S.nd rfl (Or.inr rfl) (pe_call FB hr rfl (T.nam 30 (by decide)) F30.kp (bdsN 30 fd30 (by decide) F30) .nil passL (pa_cons (pv 0) pa_nil))) dL
  refine run_at (b := true) (vs := [.ref a]) lk hcd S (fun _ => rfl) (by decide) e0 bb rfl (.cons rfl .nil) dB ?_
  refine ⟨_, rfl, a, ns, rfl, hs, fun F' H' b ws gr e1 e2 e3 ra => ?_⟩
  obtain ⟨g', hev⟩ := hp
  have bg : BagR ⟨K, fa, CB⟩ (some b) F' H' (bag0 ns) := fun a' e => by
    cases e
    exact ⟨e2, ws, e1, RvA.toB _ _ ra⟩
  have me : MEnv ⟨K, fa, CB⟩ (some b) F' H' ((L2.start (slOfN 44) [.ref a]).set 1 (some (.ref b))) env44 :=
    (me_no (σ := L2.start (slOfN 44) [.ref a])).set 1 ⟨.ref b, rfl, .bag rfl⟩ (fun _ z => nomatch z)
  refine evSs_ok (tabN K fa CB Lv) ir44 E00 (some b) F' H' F' F' H' _ env44 (bag0 ns) _ (by decide +kernel) (.refl F') ⟨.refl gr.inn, ⟨_, bg⟩, bg, me, fun i xs a' e _ => ?_⟩ ?_
  · exfalso
    have m := List.mem_of_getElem? e
    have : ∀ z ∈ env44, ∀ xs, z ≠ Sl.own xs := by
      intro z hz xs q
      subst q
      have hz' : (Sl.own xs) ∈ (List.replicate 27 Sl.no).set 1 (.d dBag) := hz
      rcases List.mem_or_eq_of_mem_set hz' with h | h
      · cases (List.mem_replicate.mp h).2
      · cases h
    exact this _ m xs rfl
  · rw [hev]
    intro F3 H3 v _ _ rv
    cases rv
    rfl
end
end G

/-! What the top has written; the row's walk. -/
namespace G
open PySem PySem.Spec PyProof.Rows L2
abbrev rowK : PySem.W.OpenLaw := PySem.Challenge.rw_alltimes_k21_texts_of_spans_clocks_and_e
/-- the script's list as it is tracked -/
def scr (K : PySem.W.Frag) (a : Addr) (vs : List Value) (ns : List Int) : Hp := fun b => if b = a ∧ (K.lookup a).isNone = true then some (.frz { cls := .type "list", data := .seq vs.toArray } (.lst (ns.map V.int))) else none
theorem scr_some {K : PySem.W.Frag} {a b : Addr} {vs : List Value} {ns : List Int} {u : HO} (h : scr K a vs ns b = some u) : b = a ∧ K.lookup a = none ∧ u = .frz { cls := .type "list", data := .seq vs.toArray } (.lst (ns.map V.int)) := by
  unfold scr at h
  by_cases q : b = a ∧ (K.lookup a).isNone = true
  · rw [if_pos q] at h
    exact ⟨q.1, Option.isNone_iff_eq_none.mp q.2, (Option.some.inj h).symm⟩
  · rw [if_neg q] at h
    cases h
/-- the law's call by the caller, from what its def does there -/
theorem call_G {P : Program} {w : World} {K : PySem.W.Frag} {mg mb : Str → Option Value} {fl a : Addr} {s₁ : Shared} {vs : List Value} {ns : List Int}
    (KX : K.In s₁.heap) (hns : s₁.heap.Ns mainGlobals mg) (hb : s₁.heap.Ns builtinsNs mb) (hbb : ∀ x : Str, x ≠ "__name__" → mb x = bootBuiltins x) (hlim : s₁.heap.NoLimit) (hg : s₁.gens = #[])
    (ha : s₁.heap.get? a = some { cls := .type "list", data := .seq vs.toArray }) (hi : IntsAre vs ns) (hl : ns.length ≤ sizeLine)
    (F : ∀ (base : Heap) (H : Hp), Env0 P w K mg base callerA [] s₁ H → SqL K H a (ns.map V.int) → codeAny (model P w) callerA (.call (.ref fl) ⟨[.ref a], []⟩) (CR (L2.CX P w) [] P w H s₁ (fun v _ => v = .bl true) E00) s₁) :
    codeAny (model P w) callerA (.call (.ref fl) ⟨[.ref a], []⟩) (fun r s' => r = .ok (.ret (.bool true)) ∧ OldK s₁.heap s'.heap ∧ s'.os = s₁.os ∧ AllBare s'.gens) s₁ := by
  have rv := vals_ints hi
  have hsz := hi.length
  have free : ∀ {b : Addr} {o : Obj} {es : Array DictEntry} {ep : Nat}, s₁.heap.get? b = some o → o.data = .dict es ep → scr K a vs ns b = none := fun {b o es ep} e d => by
    cases q : scr K a vs ns b with
    | none => rfl
    | some u =>
      obtain ⟨e', _, _⟩ := scr_some q
      rw [e', ha] at e
      cases e
      cases (show Data.seq vs.toArray _ = Data.dict es ep from d)
  have toB : ∀ {b : Addr} {m : Str → Option Value}, s₁.heap.Ns b m → (hidT s₁.heap (scr K a vs ns)).Ns b m := fun ⟨o, es, ep, e, d, r⟩ => ⟨o, es, ep, hidT_get e (free e d), d, r⟩
  have kB : K.In (hidT s₁.heap (scr K a vs ns)) := fun b o e => hidT_get (KX b o e) (by
    cases q : scr K a vs ns b with
    | none => rfl
    | some u =>
      obtain ⟨e', e2, _⟩ := scr_some q
      rw [e', e2] at e
      cases e)
  have okH : HOk P w (scr K a vs ns) s₁.heap := fun b u q => by
    obtain ⟨rfl, _, rfl⟩ := scr_some q
    exact ⟨ha, by rw [List.length_map]; exact hl, vs, _, rv, ha⟩
  have sq : SqL K (scr K a vs ns) a (ns.map V.int) := by
    cases q : K.lookup a with
    | none => exact .inl (.inr ⟨_, if_pos ⟨rfl, by rw [q]; rfl⟩⟩)
    | some o =>
      have e := KX a o q
      rw [ha] at e
      cases e
      exact .inr ⟨_, vs.toArray, _, q, rfl, rfl, rfl, by rw [List.size_toArray, hsz]; exact hl, by simpa using rv⟩
  obtain ⟨mc, l1, l2⟩ := hlim
  have md : Mod K mg (hidT s₁.heap (scr K a vs ns)) := ⟨kB, toB hns, ⟨mb, toB hb, hbb⟩, ⟨mc, toB l1, l2⟩⟩
  have e0 : Env0 P w K mg (hidT s₁.heap (scr K a vs ns)) callerA [] s₁ (scr K a vs ns) := ⟨rfl, md, fun b o e => of_hidT e, Nat.le_of_eq (hidT_size _ _), trivial, fun b hb => absurd (show b ∈ ([] : List Addr) from hb) (by simp), okH, .of_eq hg⟩
  refine codeAny_mono (F _ _ e0 sq) fun r s' q => ?_
  cases r with
  | error e =>
    obtain ⟨_, _, _, _, _, _, _, _, _, _, _, _, z⟩ := (show L2.CX P w [] (scr K a vs ns) s₁ E00 e s' from q)
    exact z.elim
  | ok fl' =>
    cases fl' with
    | ret u =>
      obtain ⟨v, H', os, bare, un, okH', rv', qv⟩ := q
      have qv' : v = .bl true := qv
      subst qv'
      obtain rfl : u = Value.bool true := rv'
      refine ⟨rfl, OldK.of_keep fun b o e => ?_, os, bare⟩
      cases z : scr K a vs ns b with
      | none => exact un.keep b o e z (fun m => nomatch m) (fun m => nomatch m)
      | some u =>
        obtain ⟨_, _, rfl⟩ := scr_some z
        obtain ⟨e1, _⟩ := okH b _ z
        obtain ⟨e2, _⟩ := okH' b _ (un.frzs b _ _ z)
        rw [e1] at e
        cases e
        exact e2
    | next => exact q.elim
    | brk => exact q.elim
    | cont => exact q.elim
/-- all that the top has written -/
structure Top (K : PySem.W.Frag) (mg : Str → Option Value) (fl : Addr) : Prop where
  ex : ∃ (fa : Nat → Addr) (CB fI cc cda : Addr), fa 44 = fl ∧ Txt K mg fa ∧ BT.BadTxt rowK.prog K mg CB fI cc cda
theorem walk_G {q : Program} {loose : List Str} {XP : (Str → Option Value) → Heap → Prop} {YP : World → Heap → Prop} {d : DefRec} {K : Params → PySem.W.Frag} (hdf : d.params.defaults = [])
    (hY : ∀ (w : World) (h : Heap), YP w h → (K w.params).In h) (F : ∀ (w : World) (mg : Str → Option Value) (fl : Addr) (h : Heap), (K w.params).In h → h.Ns mainGlobals mg → mg d.name = some (.ref fl) → Top (K w.params) mg fl)
    (hp : ∀ ns : List Int, Plain ns) : PySem.W.WalkO q loose XP YP rowK.row.toRowW d [] (fun f vs => PySem.call f vs) := by
  refine Att.attach_call (l := rowK) (n := 63) rfl hdf fun w s₀ s₁ mg mb fa o pm cd doc a vs ns G Y ho hd hcd hmg hobj hints hlen hg => ?_
  have KX := hY w _ Y
  obtain ⟨fa', CB, fI, cc, cda, rfl, T, R⟩ := (F w mg fa _ KX G.T.g hmg).ex
  obtain ⟨fd, FL⟩ := T.fn 44 (by decide)
  exact call_G KX G.T.g G.T.b G.T.builtins G.T.nolimit hg hobj hints (Nat.le_trans hlen (by decide)) fun base H e0 hs => law_run T R FL e0 hs (hp ns)
/-- an error of the class is what «except» names -/
theorem exm_own {K : PySem.W.Frag} {S : Addr} (h1 : PySem.W.subIn K (.ref S) (.type "BaseException") = some true) (h2 : PySem.W.isClsIn K S = true) (h3 : PySem.W.typeIn K (.ref S) = some (.type "type")) (h4 : PySem.W.subIn K (.ref S) (.ref S) = some true) :
    PySem.W.exmOne K (.ref S) (.ref S) = some true := by
  have q1 : (PySem.W.subIn K (.ref S) (.type "BaseException") == some true) = true := by rw [h1]; rfl
  have q2 : ((PySem.W.clsIn K S).isSome && PySem.W.typeIn K (.ref S) == some (.type "type")) = true := by
    rw [show (PySem.W.clsIn K S).isSome = true from h2, h3]; rfl
  unfold PySem.W.exmOne
  rw [if_pos q1]
  exact (if_pos q2).trans h4
theorem all_mk {K : PySem.W.Frag} {h : Heap} {mg : Str → Option Value} {fl : Addr} (X : K.In h) (G : h.Ns mainGlobals mg) (hfa : mg "law" = some (.ref fl))
    {f0 f1 f2 f3 f4 f5 f6 f7 f8 f9 f10 f11 f12 f13 f14 f15 f16 f17 f18 f19 f20 f21 f22 f23 f24 f25 f26 f27 f28 f29 f30 f31 f32 f33 f34 f35 f36 f37 f38 f39 f40 f41 f42 f43 f44 : Addr} {od0 an0 od1 an1 od2 an2 od3 an3 od4 an4 od5 an5 od6 an6 od7 an7 od8 an8 od9 an9 od10 an10 od11 an11 od12 an12 od13 an13 od14 an14 od15 an15 od16 an16 od17 an17 od18 an18 od19 an19 od20 an20 od21 an21 od22 an22 od23 an23 od24 an24 od25 an25 od26 an26 od27 an27 od28 an28 od29 an29 od30 an30 od31 an31 od32 an32 od33 an33 od34 an34 od35 an35 od36 an36 od37 an37 od38 an38 od39 an39 od40 an40 od41 an41 od42 an42 od43 an43 od44 an44 : Option Addr} {sl0 sl1 sl2 sl3 sl4 sl5 sl6 sl7 sl8 sl9 sl10 sl11 sl12 sl13 sl14 sl15 sl16 sl17 sl18 sl19 sl20 sl21 sl22 sl23 sl24 sl25 sl26 sl27 sl28 sl29 sl30 sl31 sl32 sl33 sl34 sl35 sl36 sl37 sl38 sl39 sl40 sl41 sl42 sl43 sl44 : Array (Option Value)} {oc0 kV0 dc0 pm0 cd0 ct0 oc1 kV1 dc1 pm1 cd1 ct1 oc2 kV2 dc2 pm2 cd2 ct2 oc3 kV3 dc3 pm3 cd3 ct3 oc4 kV4 dc4 pm4 cd4 ct4 oc5 kV5 dc5 pm5 cd5 ct5 oc6 kV6 dc6 pm6 cd6 ct6 oc7 kV7 dc7 pm7 cd7 ct7 oc8 kV8 dc8 pm8 cd8 ct8 oc9 kV9 dc9 pm9 cd9 ct9 oc10 kV10 dc10 pm10 cd10 ct10 oc11 kV11 dc11 pm11 cd11 ct11 oc12 kV12 dc12 pm12 cd12 ct12 oc13 kV13 dc13 pm13 cd13 ct13 oc14 kV14 dc14 pm14 cd14 ct14 oc15 kV15 dc15 pm15 cd15 ct15 oc16 kV16 dc16 pm16 cd16 ct16 oc17 kV17 dc17 pm17 cd17 ct17 oc18 kV18 dc18 pm18 cd18 ct18 oc19 kV19 dc19 pm19 cd19 ct19 oc20 kV20 dc20 pm20 cd20 ct20 oc21 kV21 dc21 pm21 cd21 ct21 oc22 kV22 dc22 pm22 cd22 ct22 oc23 kV23 dc23 pm23 cd23 ct23 oc24 kV24 dc24 pm24 cd24 ct24 oc25 kV25 dc25 pm25 cd25 ct25 oc26 kV26 dc26 pm26 cd26 ct26 oc27 kV27 dc27 pm27 cd27 ct27 oc28 kV28 dc28 pm28 cd28 ct28 oc29 kV29 dc29 pm29 cd29 ct29 oc30 kV30 dc30 pm30 cd30 ct30 oc31 kV31 dc31 pm31 cd31 ct31 oc32 kV32 dc32 pm32 cd32 ct32 oc33 kV33 dc33 pm33 cd33 ct33 oc34 kV34 dc34 pm34 cd34 ct34 oc35 kV35 dc35 pm35 cd35 ct35 oc36 kV36 dc36 pm36 cd36 ct36 oc37 kV37 dc37 pm37 cd37 ct37 oc38 kV38 dc38 pm38 cd38 ct38 oc39 kV39 dc39 pm39 cd39 ct39 oc40 kV40 dc40 pm40 cd40 ct40 oc41 kV41 dc41 pm41 cd41 ct41 oc42 kV42 dc42 pm42 cd42 ct42 oc43 kV43 dc43 pm43 cd43 ct43 oc44 kV44 dc44 pm44 cd44 ct44 : Value}
    (a0 : PySem.W.nsIn K mainGlobals "is_number" = some (some (.ref f0))) (l0 : K.lookup f0 = some ⟨oc0, od0, .func (PySem.W.fnOf "is_number" "is_number" (defArgs (topS 6)) (defBody (topS 6)) (defScope (topS 6)) .none kV0 dc0 pm0 an0 cd0 ct0), sl0⟩) (c0 : PySem.W.codeIn K cd0 "is_number" = true) (k0 : PySem.W.keepIn K (.ref f0) = true)
    (a1 : PySem.W.nsIn K mainGlobals "greatest_divisor" = some (some (.ref f1))) (l1 : K.lookup f1 = some ⟨oc1, od1, .func (PySem.W.fnOf "greatest_divisor" "greatest_divisor" (defArgs (topS 7)) (defBody (topS 7)) (defScope (topS 7)) .none kV1 dc1 pm1 an1 cd1 ct1), sl1⟩) (c1 : PySem.W.codeIn K cd1 "greatest_divisor" = true) (k1 : PySem.W.keepIn K (.ref f1) = true)
    (a2 : PySem.W.nsIn K mainGlobals "is_sized" = some (some (.ref f2))) (l2 : K.lookup f2 = some ⟨oc2, od2, .func (PySem.W.fnOf "is_sized" "is_sized" (defArgs (topS 8)) (defBody (topS 8)) (defScope (topS 8)) .none kV2 dc2 pm2 an2 cd2 ct2), sl2⟩) (c2 : PySem.W.codeIn K cd2 "is_sized" = true) (k2 : PySem.W.keepIn K (.ref f2) = true)
    (a3 : PySem.W.nsIn K mainGlobals "is_tuple_of" = some (some (.ref f3))) (l3 : K.lookup f3 = some ⟨oc3, od3, .func (PySem.W.fnOf "is_tuple_of" "is_tuple_of" (defArgs (topS 9)) (defBody (topS 9)) (defScope (topS 9)) .none kV3 dc3 pm3 an3 cd3 ct3), sl3⟩) (c3 : PySem.W.codeIn K cd3 "is_tuple_of" = true) (k3 : PySem.W.keepIn K (.ref f3) = true)
    (a4 : PySem.W.nsIn K mainGlobals "is_fraction" = some (some (.ref f4))) (l4 : K.lookup f4 = some ⟨oc4, od4, .func (PySem.W.fnOf "is_fraction" "is_fraction" (defArgs (topS 10)) (defBody (topS 10)) (defScope (topS 10)) .none kV4 dc4 pm4 an4 cd4 ct4), sl4⟩) (c4 : PySem.W.codeIn K cd4 "is_fraction" = true) (k4 : PySem.W.keepIn K (.ref f4) = true)
    (a5 : PySem.W.nsIn K mainGlobals "is_poly" = some (some (.ref f5))) (l5 : K.lookup f5 = some ⟨oc5, od5, .func (PySem.W.fnOf "is_poly" "is_poly" (defArgs (topS 11)) (defBody (topS 11)) (defScope (topS 11)) .none kV5 dc5 pm5 an5 cd5 ct5), sl5⟩) (c5 : PySem.W.codeIn K cd5 "is_poly" = true) (k5 : PySem.W.keepIn K (.ref f5) = true)
    (a6 : PySem.W.nsIn K mainGlobals "is_root_form" = some (some (.ref f6))) (l6 : K.lookup f6 = some ⟨oc6, od6, .func (PySem.W.fnOf "is_root_form" "is_root_form" (defArgs (topS 12)) (defBody (topS 12)) (defScope (topS 12)) .none kV6 dc6 pm6 an6 cd6 ct6), sl6⟩) (c6 : PySem.W.codeIn K cd6 "is_root_form" = true) (k6 : PySem.W.keepIn K (.ref f6) = true)
    (a7 : PySem.W.nsIn K mainGlobals "is_moment_form" = some (some (.ref f7))) (l7 : K.lookup f7 = some ⟨oc7, od7, .func (PySem.W.fnOf "is_moment_form" "is_moment_form" (defArgs (topS 13)) (defBody (topS 13)) (defScope (topS 13)) .none kV7 dc7 pm7 an7 cd7 ct7), sl7⟩) (c7 : PySem.W.codeIn K cd7 "is_moment_form" = true) (k7 : PySem.W.keepIn K (.ref f7) = true)
    (a8 : PySem.W.nsIn K mainGlobals "is_flag" = some (some (.ref f8))) (l8 : K.lookup f8 = some ⟨oc8, od8, .func (PySem.W.fnOf "is_flag" "is_flag" (defArgs (topS 14)) (defBody (topS 14)) (defScope (topS 14)) .none kV8 dc8 pm8 an8 cd8 ct8), sl8⟩) (c8 : PySem.W.codeIn K cd8 "is_flag" = true) (k8 : PySem.W.keepIn K (.ref f8) = true)
    (a9 : PySem.W.nsIn K mainGlobals "is_stretch_form" = some (some (.ref f9))) (l9 : K.lookup f9 = some ⟨oc9, od9, .func (PySem.W.fnOf "is_stretch_form" "is_stretch_form" (defArgs (topS 15)) (defBody (topS 15)) (defScope (topS 15)) .none kV9 dc9 pm9 an9 cd9 ct9), sl9⟩) (c9 : PySem.W.codeIn K cd9 "is_stretch_form" = true) (k9 : PySem.W.keepIn K (.ref f9) = true)
    (a10 : PySem.W.nsIn K mainGlobals "fraction_text" = some (some (.ref f10))) (l10 : K.lookup f10 = some ⟨oc10, od10, .func (PySem.W.fnOf "fraction_text" "fraction_text" (defArgs (topS 17)) (defBody (topS 17)) (defScope (topS 17)) .none kV10 dc10 pm10 an10 cd10 ct10), sl10⟩) (c10 : PySem.W.codeIn K cd10 "fraction_text" = true) (k10 : PySem.W.keepIn K (.ref f10) = true)
    (a11 : PySem.W.nsIn K mainGlobals "moment_text" = some (some (.ref f11))) (l11 : K.lookup f11 = some ⟨oc11, od11, .func (PySem.W.fnOf "moment_text" "moment_text" (defArgs (topS 18)) (defBody (topS 18)) (defScope (topS 18)) .none kV11 dc11 pm11 an11 cd11 ct11), sl11⟩) (c11 : PySem.W.codeIn K cd11 "moment_text" = true) (k11 : PySem.W.keepIn K (.ref f11) = true)
    (a12 : PySem.W.nsIn K mainGlobals "digits_in" = some (some (.ref f12))) (l12 : K.lookup f12 = some ⟨oc12, od12, .func (PySem.W.fnOf "digits_in" "digits_in" (defArgs (topS 21)) (defBody (topS 21)) (defScope (topS 21)) .none kV12 dc12 pm12 an12 cd12 ct12), sl12⟩) (c12 : PySem.W.codeIn K cd12 "digits_in" = true) (k12 : PySem.W.keepIn K (.ref f12) = true)
    (a13 : PySem.W.nsIn K mainGlobals "number_in" = some (some (.ref f13))) (l13 : K.lookup f13 = some ⟨oc13, od13, .func (PySem.W.fnOf "number_in" "number_in" (defArgs (topS 22)) (defBody (topS 22)) (defScope (topS 22)) .none kV13 dc13 pm13 an13 cd13 ct13), sl13⟩) (c13 : PySem.W.codeIn K cd13 "number_in" = true) (k13 : PySem.W.keepIn K (.ref f13) = true)
    (a14 : PySem.W.nsIn K mainGlobals "fraction_in" = some (some (.ref f14))) (l14 : K.lookup f14 = some ⟨oc14, od14, .func (PySem.W.fnOf "fraction_in" "fraction_in" (defArgs (topS 23)) (defBody (topS 23)) (defScope (topS 23)) .none kV14 dc14 pm14 an14 cd14 ct14), sl14⟩) (c14 : PySem.W.codeIn K cd14 "fraction_in" = true) (k14 : PySem.W.keepIn K (.ref f14) = true)
    (a15 : PySem.W.nsIn K mainGlobals "fractions_in" = some (some (.ref f15))) (l15 : K.lookup f15 = some ⟨oc15, od15, .func (PySem.W.fnOf "fractions_in" "fractions_in" (defArgs (topS 24)) (defBody (topS 24)) (defScope (topS 24)) .none kV15 dc15 pm15 an15 cd15 ct15), sl15⟩) (c15 : PySem.W.codeIn K cd15 "fractions_in" = true) (k15 : PySem.W.keepIn K (.ref f15) = true)
    (a16 : PySem.W.nsIn K mainGlobals "one_line" = some (some (.ref f16))) (l16 : K.lookup f16 = some ⟨oc16, od16, .func (PySem.W.fnOf "one_line" "one_line" (defArgs (topS 25)) (defBody (topS 25)) (defScope (topS 25)) .none kV16 dc16 pm16 an16 cd16 ct16), sl16⟩) (c16 : PySem.W.codeIn K cd16 "one_line" = true) (k16 : PySem.W.keepIn K (.ref f16) = true)
    (a17 : PySem.W.nsIn K mainGlobals "moment_in" = some (some (.ref f17))) (l17 : K.lookup f17 = some ⟨oc17, od17, .func (PySem.W.fnOf "moment_in" "moment_in" (defArgs (topS 26)) (defBody (topS 26)) (defScope (topS 26)) .none kV17 dc17 pm17 an17 cd17 ct17), sl17⟩) (c17 : PySem.W.codeIn K cd17 "moment_in" = true) (k17 : PySem.W.keepIn K (.ref f17) = true)
    (a18 : PySem.W.nsIn K mainGlobals "stretch_text" = some (some (.ref f18))) (l18 : K.lookup f18 = some ⟨oc18, od18, .func (PySem.W.fnOf "stretch_text" "stretch_text" (defArgs (topS 28)) (defBody (topS 28)) (defScope (topS 28)) .none kV18 dc18 pm18 an18 cd18 ct18), sl18⟩) (c18 : PySem.W.codeIn K cd18 "stretch_text" = true) (k18 : PySem.W.keepIn K (.ref f18) = true)
    (a19 : PySem.W.nsIn K mainGlobals "span_text" = some (some (.ref f19))) (l19 : K.lookup f19 = some ⟨oc19, od19, .func (PySem.W.fnOf "span_text" "span_text" (defArgs (topS 29)) (defBody (topS 29)) (defScope (topS 29)) .none kV19 dc19 pm19 an19 cd19 ct19), sl19⟩) (c19 : PySem.W.codeIn K cd19 "span_text" = true) (k19 : PySem.W.keepIn K (.ref f19) = true)
    (a20 : PySem.W.nsIn K mainGlobals "clock_text" = some (some (.ref f20))) (l20 : K.lookup f20 = some ⟨oc20, od20, .func (PySem.W.fnOf "clock_text" "clock_text" (defArgs (topS 30)) (defBody (topS 30)) (defScope (topS 30)) .none kV20 dc20 pm20 an20 cd20 ct20), sl20⟩) (c20 : PySem.W.codeIn K cd20 "clock_text" = true) (k20 : PySem.W.keepIn K (.ref f20) = true)
    (a21 : PySem.W.nsIn K mainGlobals "event_line" = some (some (.ref f21))) (l21 : K.lookup f21 = some ⟨oc21, od21, .func (PySem.W.fnOf "event_line" "event_line" (defArgs (topS 31)) (defBody (topS 31)) (defScope (topS 31)) .none kV21 dc21 pm21 an21 cd21 ct21), sl21⟩) (c21 : PySem.W.codeIn K cd21 "event_line" = true) (k21 : PySem.W.keepIn K (.ref f21) = true)
    (a22 : PySem.W.nsIn K mainGlobals "events_text" = some (some (.ref f22))) (l22 : K.lookup f22 = some ⟨oc22, od22, .func (PySem.W.fnOf "events_text" "events_text" (defArgs (topS 32)) (defBody (topS 32)) (defScope (topS 32)) .none kV22 dc22 pm22 an22 cd22 ct22), sl22⟩) (c22 : PySem.W.codeIn K cd22 "events_text" = true) (k22 : PySem.W.keepIn K (.ref f22) = true)
    (a23 : PySem.W.nsIn K mainGlobals "cut_moment" = some (some (.ref f23))) (l23 : K.lookup f23 = some ⟨oc23, od23, .func (PySem.W.fnOf "cut_moment" "cut_moment" (defArgs (topS 33)) (defBody (topS 33)) (defScope (topS 33)) .none kV23 dc23 pm23 an23 cd23 ct23), sl23⟩) (c23 : PySem.W.codeIn K cd23 "cut_moment" = true) (k23 : PySem.W.keepIn K (.ref f23) = true)
    (a24 : PySem.W.nsIn K mainGlobals "stretch_in" = some (some (.ref f24))) (l24 : K.lookup f24 = some ⟨oc24, od24, .func (PySem.W.fnOf "stretch_in" "stretch_in" (defArgs (topS 34)) (defBody (topS 34)) (defScope (topS 34)) .none kV24 dc24 pm24 an24 cd24 ct24), sl24⟩) (c24 : PySem.W.codeIn K cd24 "stretch_in" = true) (k24 : PySem.W.keepIn K (.ref f24) = true)
    (a25 : PySem.W.nsIn K mainGlobals "read_stretch" = some (some (.ref f25))) (l25 : K.lookup f25 = some ⟨oc25, od25, .func (PySem.W.fnOf "read_stretch" "read_stretch" (defArgs (topS 35)) (defBody (topS 35)) (defScope (topS 35)) .none kV25 dc25 pm25 an25 cd25 ct25), sl25⟩) (c25 : PySem.W.codeIn K cd25 "read_stretch" = true) (k25 : PySem.W.keepIn K (.ref f25) = true)
    (a26 : PySem.W.nsIn K mainGlobals "round_in" = some (some (.ref f26))) (l26 : K.lookup f26 = some ⟨oc26, od26, .func (PySem.W.fnOf "round_in" "round_in" (defArgs (topS 36)) (defBody (topS 36)) (defScope (topS 36)) .none kV26 dc26 pm26 an26 cd26 ct26), sl26⟩) (c26 : PySem.W.codeIn K cd26 "round_in" = true) (k26 : PySem.W.keepIn K (.ref f26) = true)
    (a27 : PySem.W.nsIn K mainGlobals "read_span" = some (some (.ref f27))) (l27 : K.lookup f27 = some ⟨oc27, od27, .func (PySem.W.fnOf "read_span" "read_span" (defArgs (topS 37)) (defBody (topS 37)) (defScope (topS 37)) .none kV27 dc27 pm27 an27 cd27 ct27), sl27⟩) (c27 : PySem.W.codeIn K cd27 "read_span" = true) (k27 : PySem.W.keepIn K (.ref f27) = true)
    (a28 : PySem.W.nsIn K mainGlobals "clock_in" = some (some (.ref f28))) (l28 : K.lookup f28 = some ⟨oc28, od28, .func (PySem.W.fnOf "clock_in" "clock_in" (defArgs (topS 38)) (defBody (topS 38)) (defScope (topS 38)) .none kV28 dc28 pm28 an28 cd28 ct28), sl28⟩) (c28 : PySem.W.codeIn K cd28 "clock_in" = true) (k28 : PySem.W.keepIn K (.ref f28) = true)
    (a29 : PySem.W.nsIn K mainGlobals "read_clock" = some (some (.ref f29))) (l29 : K.lookup f29 = some ⟨oc29, od29, .func (PySem.W.fnOf "read_clock" "read_clock" (defArgs (topS 39)) (defBody (topS 39)) (defScope (topS 39)) .none kV29 dc29 pm29 an29 cd29 ct29), sl29⟩) (c29 : PySem.W.codeIn K cd29 "read_clock" = true) (k29 : PySem.W.keepIn K (.ref f29) = true)
    (a30 : PySem.W.nsIn K mainGlobals "_law_bag" = some (some (.ref f30))) (l30 : K.lookup f30 = some ⟨oc30, od30, .func (PySem.W.fnOf "_law_bag" "_law_bag" (defArgs (topS 41)) (defBody (topS 41)) (defScope (topS 41)) .none kV30 dc30 pm30 an30 cd30 ct30), sl30⟩) (c30 : PySem.W.codeIn K cd30 "_law_bag" = true) (k30 : PySem.W.keepIn K (.ref f30) = true)
    (a31 : PySem.W.nsIn K mainGlobals "_law_take" = some (some (.ref f31))) (l31 : K.lookup f31 = some ⟨oc31, od31, .func (PySem.W.fnOf "_law_take" "_law_take" (defArgs (topS 42)) (defBody (topS 42)) (defScope (topS 42)) .none kV31 dc31 pm31 an31 cd31 ct31), sl31⟩) (c31 : PySem.W.codeIn K cd31 "_law_take" = true) (k31 : PySem.W.keepIn K (.ref f31) = true)
    (a32 : PySem.W.nsIn K mainGlobals "_law_some" = some (some (.ref f32))) (l32 : K.lookup f32 = some ⟨oc32, od32, .func (PySem.W.fnOf "_law_some" "_law_some" (defArgs (topS 43)) (defBody (topS 43)) (defScope (topS 43)) .none kV32 dc32 pm32 an32 cd32 ct32), sl32⟩) (c32 : PySem.W.codeIn K cd32 "_law_some" = true) (k32 : PySem.W.keepIn K (.ref f32) = true)
    (a33 : PySem.W.nsIn K mainGlobals "_law_alike" = some (some (.ref f33))) (l33 : K.lookup f33 = some ⟨oc33, od33, .func (PySem.W.fnOf "_law_alike" "_law_alike" (defArgs (topS 44)) (defBody (topS 44)) (defScope (topS 44)) .none kV33 dc33 pm33 an33 cd33 ct33), sl33⟩) (c33 : PySem.W.codeIn K cd33 "_law_alike" = true) (k33 : PySem.W.keepIn K (.ref f33) = true)
    (a34 : PySem.W.nsIn K mainGlobals "_law_gcd" = some (some (.ref f34))) (l34 : K.lookup f34 = some ⟨oc34, od34, .func (PySem.W.fnOf "_law_gcd" "_law_gcd" (defArgs (topS 45)) (defBody (topS 45)) (defScope (topS 45)) .none kV34 dc34 pm34 an34 cd34 ct34), sl34⟩) (c34 : PySem.W.codeIn K cd34 "_law_gcd" = true) (k34 : PySem.W.keepIn K (.ref f34) = true)
    (a35 : PySem.W.nsIn K mainGlobals "_law_fraction" = some (some (.ref f35))) (l35 : K.lookup f35 = some ⟨oc35, od35, .func (PySem.W.fnOf "_law_fraction" "_law_fraction" (defArgs (topS 46)) (defBody (topS 46)) (defScope (topS 46)) .none kV35 dc35 pm35 an35 cd35 ct35), sl35⟩) (c35 : PySem.W.codeIn K cd35 "_law_fraction" = true) (k35 : PySem.W.keepIn K (.ref f35) = true)
    (a36 : PySem.W.nsIn K mainGlobals "_law_plus" = some (some (.ref f36))) (l36 : K.lookup f36 = some ⟨oc36, od36, .func (PySem.W.fnOf "_law_plus" "_law_plus" (defArgs (topS 47)) (defBody (topS 47)) (defScope (topS 47)) .none kV36 dc36 pm36 an36 cd36 ct36), sl36⟩) (c36 : PySem.W.codeIn K cd36 "_law_plus" = true) (k36 : PySem.W.keepIn K (.ref f36) = true)
    (a37 : PySem.W.nsIn K mainGlobals "_law_frac_text" = some (some (.ref f37))) (l37 : K.lookup f37 = some ⟨oc37, od37, .func (PySem.W.fnOf "_law_frac_text" "_law_frac_text" (defArgs (topS 48)) (defBody (topS 48)) (defScope (topS 48)) .none kV37 dc37 pm37 an37 cd37 ct37), sl37⟩) (c37 : PySem.W.codeIn K cd37 "_law_frac_text" = true) (k37 : PySem.W.keepIn K (.ref f37) = true)
    (a38 : PySem.W.nsIn K mainGlobals "_law_words" = some (some (.ref f38))) (l38 : K.lookup f38 = some ⟨oc38, od38, .func (PySem.W.fnOf "_law_words" "_law_words" (defArgs (topS 49)) (defBody (topS 49)) (defScope (topS 49)) .none kV38 dc38 pm38 an38 cd38 ct38), sl38⟩) (c38 : PySem.W.codeIn K cd38 "_law_words" = true) (k38 : PySem.W.keepIn K (.ref f38) = true)
    (a39 : PySem.W.nsIn K mainGlobals "_law_moment_text" = some (some (.ref f39))) (l39 : K.lookup f39 = some ⟨oc39, od39, .func (PySem.W.fnOf "_law_moment_text" "_law_moment_text" (defArgs (topS 50)) (defBody (topS 50)) (defScope (topS 50)) .none kV39 dc39 pm39 an39 cd39 ct39), sl39⟩) (c39 : PySem.W.codeIn K cd39 "_law_moment_text" = true) (k39 : PySem.W.keepIn K (.ref f39) = true)
    (a40 : PySem.W.nsIn K mainGlobals "_law_moment" = some (some (.ref f40))) (l40 : K.lookup f40 = some ⟨oc40, od40, .func (PySem.W.fnOf "_law_moment" "_law_moment" (defArgs (topS 51)) (defBody (topS 51)) (defScope (topS 51)) .none kV40 dc40 pm40 an40 cd40 ct40), sl40⟩) (c40 : PySem.W.codeIn K cd40 "_law_moment" = true) (k40 : PySem.W.keepIn K (.ref f40) = true)
    (a41 : PySem.W.nsIn K mainGlobals "_law_one" = some (some (.ref f41))) (l41 : K.lookup f41 = some ⟨oc41, od41, .func (PySem.W.fnOf "_law_one" "_law_one" (defArgs (topS 52)) (defBody (topS 52)) (defScope (topS 52)) .none kV41 dc41 pm41 an41 cd41 ct41), sl41⟩) (c41 : PySem.W.codeIn K cd41 "_law_one" = true) (k41 : PySem.W.keepIn K (.ref f41) = true)
    (a42 : PySem.W.nsIn K mainGlobals "_law_line" = some (some (.ref f42))) (l42 : K.lookup f42 = some ⟨oc42, od42, .func (PySem.W.fnOf "_law_line" "_law_line" (defArgs (topS 53)) (defBody (topS 53)) (defScope (topS 53)) .none kV42 dc42 pm42 an42 cd42 ct42), sl42⟩) (c42 : PySem.W.codeIn K cd42 "_law_line" = true) (k42 : PySem.W.keepIn K (.ref f42) = true)
    (a43 : PySem.W.nsIn K mainGlobals "_law_refused" = some (some (.ref f43))) (l43 : K.lookup f43 = some ⟨oc43, od43, .func (PySem.W.fnOf "_law_refused" "_law_refused" (defArgs (topS 54)) (defBody (topS 54)) (defScope (topS 54)) .none kV43 dc43 pm43 an43 cd43 ct43), sl43⟩) (c43 : PySem.W.codeIn K cd43 "_law_refused" = true) (k43 : PySem.W.keepIn K (.ref f43) = true)
    (a44 : PySem.W.nsIn K mainGlobals "law" = some (some (.ref f44))) (l44 : K.lookup f44 = some ⟨oc44, od44, .func (PySem.W.fnOf "law" "law" (defArgs (topS 55)) (defBody (topS 55)) (defScope (topS 55)) .none kV44 dc44 pm44 an44 cd44 ct44), sl44⟩) (c44 : PySem.W.codeIn K cd44 "law" = true) (k44 : PySem.W.keepIn K (.ref f44) = true)
    (z0 : PySem.W.nsIn K mainGlobals "abs" = some none)
    (z1 : PySem.W.nsIn K mainGlobals "len" = some none)
    (z2 : PySem.W.nsIn K mainGlobals "int" = some none)
    (z3 : PySem.W.nsIn K mainGlobals "str" = some none)
    (z4 : PySem.W.nsIn K mainGlobals "tuple" = some none)
    (z5 : PySem.W.nsIn K mainGlobals "all" = some none)
    (z6 : PySem.W.nsIn K mainGlobals "isinstance" = some none)
    (z7 : PySem.W.nsIn K mainGlobals "range" = some none)
    (z8 : PySem.W.nsIn K mainGlobals "enumerate" = some none)
    (z9 : PySem.W.nsIn K mainGlobals "zip" = some none)
    (z10 : PySem.W.nsIn K mainGlobals "bool" = some none)
    (z11 : PySem.W.nsIn K mainGlobals "repr" = some none)
    {t0 : Tok} (y0 : PySem.W.nsIn K mainGlobals "DIGITS" = some (some (.str "0123456789" t0)))
    {t1 : Tok} (y1 : PySem.W.nsIn K mainGlobals "MOST_DIGITS" = some (some (.int 1000 t1)))
    {CB fI cc cda : Addr} {nm q : Str} {N : Addr} {bs bm : List Value} {sn : List Str} {sub : List Value} {ab : Bool} {col : Option Bool} {dd : Option Addr} {m0 m1 m2 m3 m5 : Option Value}
    {oc : Value} {odI anI : Option Addr} {kV doc pm ct : Value} {osl : Array (Option Value)} {ccl cl : Value} {cdd cld : Option Addr} {cvs : Array Value} {ccs csl : Array (Option Value)} {file : Str} {tf : Tok}
    (b1 : PySem.W.nsIn K mainGlobals "BadText" = some (some (.ref CB))) (b2 : PySem.W.nsIn K mainGlobals "super" = some none)
    (b3 : K.lookup CB = some (excClassObj nm q CB N bs bm true sn sub ab col dd m0 m1 m2 m3 m5 "ValueError.__new__")) (b4 : HandSPX.refsVE bm = true)
    (b5 : PySem.W.findIn K (.ref CB) "__setattr__" = some (some (.builtin "object.__setattr__"))) (b6 : PySem.W.findIn K (.ref CB) "__getattribute__" = some (some (.builtin "BaseException.__getattribute__"))) (b7 : PySem.W.findIn K (.ref CB) "__getattr__" = some none)
    (b8 : PySem.W.findIn K (.ref CB) "line" = some none) (b9 : PySem.W.findIn K (.ref CB) "column" = some none) (b10 : PySem.W.findIn K (.ref CB) "__init__" = some (some (.ref fI))) (b11 : PySem.W.typeIn K (.ref fI) = some (.type "function"))
    (b12 : PySem.W.keepIn K (.ref CB) = true) (b13 : PySem.W.subIn K (.ref CB) (.type "BaseException") = some true) (b14 : PySem.W.typeIn K (.ref CB) = some (.type "type")) (b15 : PySem.W.hasDictIn K CB = true)
    (b16 : PySem.W.isClsIn K CB = true) (b17 : PySem.W.subIn K (.ref CB) (.ref CB) = some true)
    (b18 : K.lookup fI = some ⟨oc, odI, .func (PySem.W.ksFn "__init__" "BadText.__init__" (defArgs BT.stI) (defBody BT.stI) (defScope BT.stI) .none kV doc pm anI (.ref cda) ct cc), osl⟩) (b19 : PySem.W.codeIn K (.ref cda) "BadText.__init__" = true)
    (b20 : K.lookup cda = some ⟨ccl, cdd, .fields cvs, ccs⟩) (b21 : cvs[2]? = some (.str file tf)) (b22 : ((rowK.prog.main.file : Str) == file) = true)
    (b23 : K.lookup cc = some ⟨cl, cld, .cell (some (.ref CB)), csl⟩) (b24 : PySem.W.mroIn K CB (.ref CB) = some true) (b25 : PySem.W.nsIn K PySem.cStatics "thirdparty.any" = some none)
    (b26 : PySem.W.ks_superIn K CB CB "__init__" = some (some (.builtin "ValueError.__init__"))) (b27 : PySem.W.subIn K (.ref CB) (.type "ValueError") = some true)
    : Top K mg fl := by
  have e := hfa.symm.trans (PySem.W.mg_of X G a44)
  cases e
  refine ⟨fun i => ([f0, f1, f2, f3, f4, f5, f6, f7, f8, f9, f10, f11, f12, f13, f14, f15, f16, f17, f18, f19, f20, f21, f22, f23, f24, f25, f26, f27, f28, f29, f30, f31, f32, f33, f34, f35, f36, f37, f38, f39, f40, f41, f42, f43, fl] : List Addr).getD i 0, CB, fI, cc, cda, rfl, ⟨fun i hi => ?_, fun i hi => ?_, fun x hx => ?_, fun p hp => ?_⟩, ?_⟩
  · match i, hi with
    | 0, _ => exact ⟨_, fun_mk (st := topS 6) l0 c0 k0⟩
    | 1, _ => exact ⟨_, fun_mk (st := topS 7) l1 c1 k1⟩
    | 2, _ => exact ⟨_, fun_mk (st := topS 8) l2 c2 k2⟩
    | 3, _ => exact ⟨_, fun_mk (st := topS 9) l3 c3 k3⟩
    | 4, _ => exact ⟨_, fun_mk (st := topS 10) l4 c4 k4⟩
    | 5, _ => exact ⟨_, fun_mk (st := topS 11) l5 c5 k5⟩
    | 6, _ => exact ⟨_, fun_mk (st := topS 12) l6 c6 k6⟩
    | 7, _ => exact ⟨_, fun_mk (st := topS 13) l7 c7 k7⟩
    | 8, _ => exact ⟨_, fun_mk (st := topS 14) l8 c8 k8⟩
    | 9, _ => exact ⟨_, fun_mk (st := topS 15) l9 c9 k9⟩
    | 10, _ => exact ⟨_, fun_mk (st := topS 17) l10 c10 k10⟩
    | 11, _ => exact ⟨_, fun_mk (st := topS 18) l11 c11 k11⟩
    | 12, _ => exact ⟨_, fun_mk (st := topS 21) l12 c12 k12⟩
    | 13, _ => exact ⟨_, fun_mk (st := topS 22) l13 c13 k13⟩
    | 14, _ => exact ⟨_, fun_mk (st := topS 23) l14 c14 k14⟩
    | 15, _ => exact ⟨_, fun_mk (st := topS 24) l15 c15 k15⟩
    | 16, _ => exact ⟨_, fun_mk (st := topS 25) l16 c16 k16⟩
    | 17, _ => exact ⟨_, fun_mk (st := topS 26) l17 c17 k17⟩
    | 18, _ => exact ⟨_, fun_mk (st := topS 28) l18 c18 k18⟩
    | 19, _ => exact ⟨_, fun_mk (st := topS 29) l19 c19 k19⟩
    | 20, _ => exact ⟨_, fun_mk (st := topS 30) l20 c20 k20⟩
    | 21, _ => exact ⟨_, fun_mk (st := topS 31) l21 c21 k21⟩
    | 22, _ => exact ⟨_, fun_mk (st := topS 32) l22 c22 k22⟩
    | 23, _ => exact ⟨_, fun_mk (st := topS 33) l23 c23 k23⟩
    | 24, _ => exact ⟨_, fun_mk (st := topS 34) l24 c24 k24⟩
    | 25, _ => exact ⟨_, fun_mk (st := topS 35) l25 c25 k25⟩
    | 26, _ => exact ⟨_, fun_mk (st := topS 36) l26 c26 k26⟩
    | 27, _ => exact ⟨_, fun_mk (st := topS 37) l27 c27 k27⟩
    | 28, _ => exact ⟨_, fun_mk (st := topS 38) l28 c28 k28⟩
    | 29, _ => exact ⟨_, fun_mk (st := topS 39) l29 c29 k29⟩
    | 30, _ => exact ⟨_, fun_mk (st := topS 41) l30 c30 k30⟩
    | 31, _ => exact ⟨_, fun_mk (st := topS 42) l31 c31 k31⟩
    | 32, _ => exact ⟨_, fun_mk (st := topS 43) l32 c32 k32⟩
    | 33, _ => exact ⟨_, fun_mk (st := topS 44) l33 c33 k33⟩
    | 34, _ => exact ⟨_, fun_mk (st := topS 45) l34 c34 k34⟩
    | 35, _ => exact ⟨_, fun_mk (st := topS 46) l35 c35 k35⟩
    | 36, _ => exact ⟨_, fun_mk (st := topS 47) l36 c36 k36⟩
    | 37, _ => exact ⟨_, fun_mk (st := topS 48) l37 c37 k37⟩
    | 38, _ => exact ⟨_, fun_mk (st := topS 49) l38 c38 k38⟩
    | 39, _ => exact ⟨_, fun_mk (st := topS 50) l39 c39 k39⟩
    | 40, _ => exact ⟨_, fun_mk (st := topS 51) l40 c40 k40⟩
    | 41, _ => exact ⟨_, fun_mk (st := topS 52) l41 c41 k41⟩
    | 42, _ => exact ⟨_, fun_mk (st := topS 53) l42 c42 k42⟩
    | 43, _ => exact ⟨_, fun_mk (st := topS 54) l43 c43 k43⟩
    | 44, _ => exact ⟨_, fun_mk (st := topS 55) l44 c44 k44⟩
    | m + 45, h => omega
  · match i, hi with
    | 0, _ => exact PySem.W.mg_of X G a0
    | 1, _ => exact PySem.W.mg_of X G a1
    | 2, _ => exact PySem.W.mg_of X G a2
    | 3, _ => exact PySem.W.mg_of X G a3
    | 4, _ => exact PySem.W.mg_of X G a4
    | 5, _ => exact PySem.W.mg_of X G a5
    | 6, _ => exact PySem.W.mg_of X G a6
    | 7, _ => exact PySem.W.mg_of X G a7
    | 8, _ => exact PySem.W.mg_of X G a8
    | 9, _ => exact PySem.W.mg_of X G a9
    | 10, _ => exact PySem.W.mg_of X G a10
    | 11, _ => exact PySem.W.mg_of X G a11
    | 12, _ => exact PySem.W.mg_of X G a12
    | 13, _ => exact PySem.W.mg_of X G a13
    | 14, _ => exact PySem.W.mg_of X G a14
    | 15, _ => exact PySem.W.mg_of X G a15
    | 16, _ => exact PySem.W.mg_of X G a16
    | 17, _ => exact PySem.W.mg_of X G a17
    | 18, _ => exact PySem.W.mg_of X G a18
    | 19, _ => exact PySem.W.mg_of X G a19
    | 20, _ => exact PySem.W.mg_of X G a20
    | 21, _ => exact PySem.W.mg_of X G a21
    | 22, _ => exact PySem.W.mg_of X G a22
    | 23, _ => exact PySem.W.mg_of X G a23
    | 24, _ => exact PySem.W.mg_of X G a24
    | 25, _ => exact PySem.W.mg_of X G a25
    | 26, _ => exact PySem.W.mg_of X G a26
    | 27, _ => exact PySem.W.mg_of X G a27
    | 28, _ => exact PySem.W.mg_of X G a28
    | 29, _ => exact PySem.W.mg_of X G a29
    | 30, _ => exact PySem.W.mg_of X G a30
    | 31, _ => exact PySem.W.mg_of X G a31
    | 32, _ => exact PySem.W.mg_of X G a32
    | 33, _ => exact PySem.W.mg_of X G a33
    | 34, _ => exact PySem.W.mg_of X G a34
    | 35, _ => exact PySem.W.mg_of X G a35
    | 36, _ => exact PySem.W.mg_of X G a36
    | 37, _ => exact PySem.W.mg_of X G a37
    | 38, _ => exact PySem.W.mg_of X G a38
    | 39, _ => exact PySem.W.mg_of X G a39
    | 40, _ => exact PySem.W.mg_of X G a40
    | 41, _ => exact PySem.W.mg_of X G a41
    | 42, _ => exact PySem.W.mg_of X G a42
    | 43, _ => exact PySem.W.mg_of X G a43
    | 44, _ => exact PySem.W.mg_of X G a44
    | m + 45, h => omega
  · rcases List.mem_cons.mp hx with rfl | hx
    · exact PySem.W.mg_none_of X G z0
    rcases List.mem_cons.mp hx with rfl | hx
    · exact PySem.W.mg_none_of X G z1
    rcases List.mem_cons.mp hx with rfl | hx
    · exact PySem.W.mg_none_of X G z2
    rcases List.mem_cons.mp hx with rfl | hx
    · exact PySem.W.mg_none_of X G z3
    rcases List.mem_cons.mp hx with rfl | hx
    · exact PySem.W.mg_none_of X G z4
    rcases List.mem_cons.mp hx with rfl | hx
    · exact PySem.W.mg_none_of X G z5
    rcases List.mem_cons.mp hx with rfl | hx
    · exact PySem.W.mg_none_of X G z6
    rcases List.mem_cons.mp hx with rfl | hx
    · exact PySem.W.mg_none_of X G z7
    rcases List.mem_cons.mp hx with rfl | hx
    · exact PySem.W.mg_none_of X G z8
    rcases List.mem_cons.mp hx with rfl | hx
    · exact PySem.W.mg_none_of X G z9
    rcases List.mem_cons.mp hx with rfl | hx
    · exact PySem.W.mg_none_of X G z10
    rcases List.mem_cons.mp hx with rfl | hx
    · exact PySem.W.mg_none_of X G z11
    cases hx
  · rcases List.mem_cons.mp hp with rfl | hp
    · exact ⟨_, PySem.W.mg_of X G y0, ⟨t0, by first | rfl | exact congrArg (fun z => Value.str z t0) (by decide +kernel)⟩⟩
    rcases List.mem_cons.mp hp with rfl | hp
    · exact ⟨_, PySem.W.mg_of X G y1, ⟨t1, rfl⟩⟩
    cases hp
  · exact { gC := PySem.W.mg_of X G b1, gS := PySem.W.mg_none_of X G b2, cls := ⟨nm, q, N, bs, _, sn, sub, ab, col, dd, m0, m1, m2, m3, m5, b3, b4⟩, sa := b5, ga := b6, gg := b7, noL := b8, noC := b9, iC := b10, tC := b11, kC := b12, exC := b13, tyC := b14, hdC := b15, te := exm_own b13 b16 b14 b17, fn := ⟨_, _, _, _, _, _, _, _, b18, b19⟩, code := ⟨_, _, _, _, _, _, b20, b21, b22⟩, cell := ⟨_, _, _, b23⟩, top := by decide +kernel, mro := b24, opq := b25, sup := b26, sub := b27 }
end G

/-! What is reckoned without the bag: from one run at the empty state, with a lesser table. -/
namespace G
open PySem PySem.Spec PyProof.Rows L2
/-- o, a run from the empty state, tells m at every state -/
def Pu {β : Type} (o : Out β) (m : M β) : Prop := match o with
  | .stuck => True
  | .ok b g0 => g0 = [] ∧ ∀ g, m g = .ok b g
  | .exn l k g0 => g0 = [] ∧ ∀ g, m g = .exn l k g
section
variable {β γ : Type}
theorem Pu.ret (b : β) : Pu (G.ret b []) (G.ret b) := ⟨rfl, fun _ => rfl⟩
theorem Pu.stk {m : M β} : Pu (G.stk [] : Out β) m := trivial
theorem Pu.bnd {o : M β} {m : M β} {f f' : β → M γ} (h : Pu (o []) m) (hf : ∀ b, Pu (f b []) (f' b)) : Pu (G.bnd o f []) (G.bnd m f') := by
  show Pu ((o []).bnd f) _
  cases e : o [] with
  | stuck => exact trivial
  | ok b g0 =>
    rw [e] at h
    obtain ⟨h1, h2⟩ := h
    subst h1
    have q := hf b
    have em : ∀ g, G.bnd m f' g = f' b g := fun g => by
      show (m g).bnd f' = _
      rw [h2 g]
      rfl
    show Pu (f b []) _
    cases e2 : f b [] with
    | stuck => exact trivial
    | ok c g1 =>
      rw [e2] at q
      exact ⟨q.1, fun g => (em g).trans (q.2 g)⟩
    | exn l k g1 =>
      rw [e2] at q
      exact ⟨q.1, fun g => (em g).trans (q.2 g)⟩
  | exn l k g0 =>
    rw [e] at h
    obtain ⟨h1, h2⟩ := h
    exact ⟨h1, fun g => by
      show (m g).bnd f' = _
      rw [h2 g]
      rfl⟩
theorem Pu.ofO (o : Option β) : Pu (G.ofO o []) (G.ofO o) := by
  cases o with
  | none => exact trivial
  | some b => exact .ret b
theorem Pu.noX {o m : M β} (h : Pu (o []) m) : Pu (G.noX o []) (G.noX m) := by
  unfold G.noX
  cases e : o [] with
  | stuck => exact trivial
  | exn l k g0 => exact trivial
  | ok b g0 =>
    rw [e] at h
    exact ⟨h.1, fun g => by
      show (match m g with | .exn _ _ _ => (Out.stuck : Out β) | o => o) = _
      rw [h.2 g]⟩
theorem Pu.mapM {f f' : β → M γ} (h : ∀ x, Pu (f x []) (f' x)) : ∀ xs : List β, Pu (mapM' f xs []) (mapM' f' xs)
  | [] => .ret []
  | x :: xs => by
    unfold mapM'
    exact .bnd (h x) fun y => .bnd (Pu.mapM h xs) fun ys => .ret _
end
section
variable {Fn Fn' : Nat → List PD → M PD} {vk : List Nat} (hF : ∀ k ds, Pu (Fn k ds []) (Fn' k ds))
include hF
mutual
theorem puE : ∀ (e : Ex) (env : EnvD), Pu (evE Fn vk e env []) (evE Fn' vk e env)
  | .var i, env => by
    unfold evE
    cases env[i]? with
    | none => exact trivial
    | some sl => cases sl <;> first | exact .ret _ | exact trivial
  | .lit d, env => by unfold evE; exact .ret _
  | .op2 o a b, env => by
    unfold evE
    exact .bnd (puE a env) fun x => .bnd (puE b env) fun y => .ofO _
  | .neg a, env => by
    unfold evE
    refine .bnd (puE a env) fun x => ?_
    cases x <;> first | exact .ret _ | exact trivial
  | .chain o o' a b k, env => by
    unfold evE
    refine .bnd (puE a env) fun x => .bnd (puE b env) fun y => ?_
    cases opF o x y with
    | none => exact trivial
    | some z =>
      cases z <;> try exact trivial
      rename_i kb
      cases kb with
      | true => exact .bnd (puE k env) fun z => .ofO _
      | false => exact .ret _
  | .ite t a b, env => by
    unfold evE
    refine .bnd (puT t env) fun k => ?_
    cases k with
    | true => exact puE a env
    | false => exact puE b env
  | .andV a b, env => by
    unfold evE
    refine .bnd (puE a env) fun x => ?_
    cases x <;> try exact trivial
    rename_i kb
    cases kb with
    | true => exact puE b env
    | false => exact .ret _
  | .orV a b, env => by
    unfold evE
    refine .bnd (puE a env) fun x => ?_
    cases x <;> try exact trivial
    rename_i kb
    cases kb with
    | true => exact .ret _
    | false => exact puE b env
  | .notV a, env => by
    unfold evE
    refine .bnd (puE a env) fun x => ?_
    cases x <;> first | exact .ret _ | exact trivial
  | .tup es, env => by
    unfold evE
    refine .bnd (puA es env) fun ds => ?_
    by_cases l : ds.length ≤ 1000
    · rw [if_pos l]
      exact .ret _
    · rw [if_neg l]
      exact trivial
  | .lst es, env => by
    unfold evE
    refine .bnd (puA es env) fun ds => ?_
    by_cases l : ds.length ≤ 1000
    · rw [if_pos l]
      exact .ret _
    · rw [if_neg l]
      exact trivial
  | .lc elt tg it own, env => by
    unfold evE
    refine .bnd (puI it env) fun ds => ?_
    by_cases l : ds.length ≤ 1000000 ∧ tgIn tg own = true
    · rw [if_pos l, if_pos l]
      refine .bnd (.mapM (fun d => ?_) ds) fun ys => .ret _
      cases tgF tg d (wipeD env own) with
      | none => exact trivial
      | some env' => exact .noX (puE elt _)
    · rw [if_neg l]
      exact trivial
  | .sl o a lo hi, env => by
    unfold evE
    exact .bnd (puE a env) fun x => .bnd (puO lo env) fun l => .bnd (puO hi env) fun h => .ofO _
  | .blt b a, env => by
    unfold evE
    exact .bnd (puE a env) fun x => .ofO _
  | .isi t a, env => by
    unfold evE
    exact .bnd (puE a env) fun x => .ofO _
  | .call f es, env => by
    unfold evE
    exact .bnd (puA es env) fun ds => hF f ds
  | .callv i es, env => by
    unfold evE
    cases (env[i]?).bind fnOf with
    | none => exact trivial
    | some k =>
      dsimp only
      by_cases l : k ∈ vk
      · rw [if_pos l, if_pos l]
        exact .bnd (puA es env) fun ds => .noX (hF _ ds)
      · rw [if_neg l]
        exact trivial
  | .split a b, env => by
    unfold evE
    refine .bnd (puE a env) fun x => ?_
    cases x <;> try exact trivial
    exact .bnd (puE b env) fun y => .ofO _
  | .join a b, env => by
    unfold evE
    refine .bnd (puE a env) fun x => ?_
    cases x <;> try exact trivial
    exact .bnd (puE b env) fun y => .ofO _
  | .find a b, env => by
    unfold evE
    refine .bnd (puE a env) fun x => ?_
    cases x <;> try exact trivial
    exact .bnd (puE b env) fun y => .ofO _
  | .find3 a b k, env => by
    unfold evE
    refine .bnd (puE a env) fun x => ?_
    cases x <;> try exact trivial
    exact .bnd (puE b env) fun y => .bnd (puE k env) fun z => .ofO _
  | .repl a y z, env => by
    unfold evE
    refine .bnd (puE a env) fun x => ?_
    cases x <;> try exact trivial
    rename_i w
    dsimp only
    by_cases l : w.length + (w.length + 1) * z.length ≤ 16777216
    · rw [if_pos l]
      exact .ret _
    · rw [if_neg l]
      exact trivial
  | .fnv k, env => by unfold evE; exact .ret _
  | .bget i n, env => by
    unfold evE
    cases (env[i]?).bind bagOf with
    | none => exact trivial
    | some u => exact trivial
theorem puA : ∀ (es : Exs) (env : EnvD), Pu (evA Fn vk es env []) (evA Fn' vk es env)
  | .nil, env => by unfold evA; exact .ret _
  | .cons e es, env => by
    unfold evA
    exact .bnd (puE e env) fun x => .bnd (puA es env) fun xs => .ret _
theorem puO : ∀ (es : Exs) (env : EnvD), Pu (evO Fn vk es env []) (evO Fn' vk es env)
  | .nil, env => by unfold evO; exact .ret _
  | .cons e es, env => by
    unfold evO
    refine .bnd (puE e env) fun x => ?_
    cases x <;> first | exact .ret _ | exact trivial
theorem puT : ∀ (t : Tx) (env : EnvD), Pu (evT Fn vk t env []) (evT Fn' vk t env)
  | .val e, env => by
    unfold evT
    refine .bnd (puE e env) fun x => ?_
    cases x <;> first | exact .ret _ | exact trivial
  | .and a b, env => by
    unfold evT
    refine .bnd (puT a env) fun k => ?_
    cases k with
    | true => exact puT b env
    | false => exact .ret _
  | .or a b, env => by
    unfold evT
    refine .bnd (puT a env) fun k => ?_
    cases k with
    | true => exact .ret _
    | false => exact puT b env
  | .not a, env => by
    unfold evT
    exact .bnd (puT a env) fun k => .ret _
theorem puI : ∀ (t : Ix) (env : EnvD), Pu (evI Fn vk t env []) (evI Fn' vk t env)
  | .list e, env => by
    unfold evI
    refine .bnd (puE e env) fun x => ?_
    cases x <;> first | exact .ret _ | exact trivial
  | .tup e, env => by
    unfold evI
    refine .bnd (puE e env) fun x => ?_
    cases x <;> first | exact .ret _ | exact trivial
  | .str e, env => by
    unfold evI
    refine .bnd (puE e env) fun x => ?_
    cases x <;> first | exact .ret _ | exact trivial
  | .range e, env => by
    unfold evI
    refine .bnd (puE e env) fun x => ?_
    cases x <;> try exact trivial
    rename_i n
    dsimp only
    by_cases l : -(2 ^ 62) ≤ n ∧ n < 2 ^ 62
    · rw [if_pos l]
      exact .ret _
    · rw [if_neg l]
      exact trivial
  | .enum e, env => by
    unfold evI
    refine .bnd (puE e env) fun x => ?_
    cases x <;> first | exact .ret _ | exact trivial
  | .zip a b, env => by
    unfold evI
    refine .bnd (puE a env) fun x => .bnd (puE b env) fun y => ?_
    cases x <;> try exact trivial
    cases y <;> first | exact .ret _ | exact trivial
end
omit hF
/-- what a statement's outcome hands on -/
theorem puSeq {o m : M Fl} {f f' : EnvD → M Fl} (h : Pu (o []) m) (hf : ∀ env, Pu (f env []) (f' env)) : Pu (bnd o (fun z => match z with | .nx env' => f env' | .rt d => ret (.rt d)) []) (bnd m fun z => match z with | .nx env' => f' env' | .rt d => ret (.rt d)) :=
  .bnd h fun z => by
    cases z with
    | nx env' => exact hf env'
    | rt d => exact .ret _
theorem puWh {t t' : EnvD → M Bool} {b b' : EnvD → M Fl} (ht : ∀ env, Pu (t env []) (t' env)) (hb : ∀ env, Pu (b env []) (b' env)) : ∀ (n : Nat) (env : EnvD), Pu (evWh t b n env []) (evWh t' b' n env)
  | 0, env => trivial
  | n + 1, env => by
    unfold evWh
    refine .bnd (ht env) fun k => ?_
    cases k with
    | true => exact puSeq (hb env) fun env' => puWh ht hb n env'
    | false => exact .ret _
theorem puFr {tg : Tg} {b b' : EnvD → M Fl} (hb : ∀ env, Pu (b env []) (b' env)) : ∀ (ds : List PD) (env : EnvD), Pu (evFr tg b ds env []) (evFr tg b' ds env)
  | [], env => .ret _
  | d :: ds, env => by
    unfold evFr
    cases tgF tg d env with
    | none => exact trivial
    | some e1 => exact puSeq (hb e1) fun env' => puFr hb ds env'
include hF
mutual
theorem puS : ∀ (s : St) (env : EnvD), Pu (evS Fn vk s env []) (evS Fn' vk s env)
  | .set i e, env => by
    unfold evS
    exact .bnd (puE hF e env) fun d => .ret _
  | .setO i e, env => by
    unfold evS
    refine .bnd (puE hF e env) fun d => ?_
    cases listOf d with
    | none => exact trivial
    | some ds =>
      dsimp only
      by_cases l : i < env.length
      · rw [if_pos l]
        exact .ret _
      · rw [if_neg l]
        exact trivial
  | .asg tg e, env => by
    unfold evS
    refine .bnd (puE hF e env) fun d => ?_
    cases tgF tg d env with
    | none => exact trivial
    | some env' => exact .ret _
  | .par i j oi oj a b, env => by
    unfold evS
    refine .bnd (puE hF a env) fun x => .bnd (puE hF b env) fun y => ?_
    cases slOf oi x with
    | none => exact trivial
    | some s =>
      cases slOf oj y with
      | none => exact trivial
      | some t =>
        dsimp only
        by_cases l : i < env.length ∧ j < env.length ∧ i ≠ j
        · rw [if_pos l]
          exact .ret _
        · rw [if_neg l]
          exact trivial
  | .ife t a b, env => by
    unfold evS
    refine .bnd (puT hF t env) fun k => ?_
    cases k with
    | true => exact puSs a env
    | false => exact puSs b env
  | .ret e, env => by
    unfold evS
    exact .bnd (puE hF e env) fun d => .ret _
  | .retN, env => by unfold evS; exact .ret _
  | .rse a b, env => by
    unfold evS
    refine .bnd (puE hF a env) fun x => .bnd (puE hF b env) fun y => ?_
    cases x <;> try exact trivial
    cases y <;> first | exact ⟨rfl, fun _ => rfl⟩ | exact trivial
  | .whl t body, env => by
    unfold evS
    exact puWh (fun env => puT hF t env) (fun env => puSs body env) fuel env
  | .fr tg it body, env => by
    unfold evS
    exact .bnd (puI hF it env) fun ds => puFr (fun env => puSs body env) ds env
  | .app i e, env => by
    unfold evS
    cases env[i]? with
    | none => exact trivial
    | some sl =>
      cases sl <;> try exact trivial
      rename_i xs
      dsimp only
      by_cases l : xs.length < 1000000
      · rw [if_pos l, if_pos l]
        exact .bnd (puE hF e env) fun d => .ret _
      · rw [if_neg l]
        exact trivial
  | .ex e, env => by
    unfold evS
    exact .bnd (puE hF e env) fun d => .ret _
  | .bset i n e, env => by
    unfold evS
    cases (env[i]?).bind bagOf with
    | none => exact trivial
    | some u =>
      refine .bnd (puE hF e env) fun d => ?_
      show Pu (if n < ([] : List PD).length then Out.ok (Fl.nx env) (([] : List PD).set n d) else .stuck) _
      rw [if_neg (by simp)]
      exact trivial
theorem puSs : ∀ (s : Ss) (env : EnvD), Pu (evSs Fn vk s env []) (evSs Fn' vk s env)
  | .nil, env => by unfold evSs; exact .ret _
  | .cons s r, env => by
    unfold evSs
    exact puSeq (puS s env) fun env' => puSs r env'
  | .frz i r, env => by
    unfold evSs
    cases env[i]? with
    | none => exact trivial
    | some sl => cases sl <;> first | exact puSs r _ | exact trivial
end
theorem puF (n : Nat) (b : Ss) (ds : List PD) : Pu (evF Fn vk n b ds []) (evF Fn' vk n b ds) := by
  unfold evF
  refine .bnd (puSs hF b _) fun f => ?_
  cases f <;> exact .ret _
end
/-- a def's step over a table -/
def stp (Fn : Nat → List PD → M PD) (f : Nat) (ds : List PD) : M PD := if ds.length = ar f then (if f = 33 then alikeF ds else if f = 43 then refusedF Fn ds else match bodyOf f with | some (k, b) => evF Fn vkL k b ds | none => stk) else stk
theorem sem_stp (n f : Nat) (ds : List PD) : sem (n + 1) f ds = stp (sem n) f ds := by
  unfold sem stp
  rfl
theorem puAl : ∀ ds : List PD, Pu (alikeF ds []) (alikeF ds) := fun ds => by
  unfold alikeF
  split
  · split
    · exact .ret _
    · exact trivial
  · exact trivial
theorem puStp {Fn Fn' : Nat → List PD → M PD} (hF : ∀ k ds, Pu (Fn k ds []) (Fn' k ds)) (f : Nat) (ds : List PD) (h2 : f ≠ 43) : Pu (stp Fn f ds []) (stp Fn' f ds) := by
  unfold stp
  by_cases l : ds.length = ar f
  · rw [if_pos l, if_pos l]
    by_cases h1 : f = 33
    · rw [if_pos h1, if_pos h1]
      exact puAl ds
    rw [if_neg h1, if_neg h1]
    rw [if_neg h2, if_neg h2]
    cases bodyOf f with
    | none => exact trivial
    | some p => exact puF hF p.1 p.2 ds
  · rw [if_neg l]
    exact trivial
/-- a lesser table, with what is told of some calls ahead of it -/
def nr (tab : Nat → List PD → Option PD) (Fn : Nat → List PD → M PD) : Nat → List PD → M PD := fun f ds => match tab f ds with | some d => ret d | none => if f = 43 then stk else stp Fn f ds
theorem puNr {tab : Nat → List PD → Option PD} {Fn : Nat → List PD → M PD} {n : Nat} (hF : ∀ k ds, Pu (Fn k ds []) (sem n k ds)) (ht : ∀ f ds d, tab f ds = some d → ∀ g, sem (n + 1) f ds g = .ok d g) (f : Nat) (ds : List PD) : Pu (nr tab Fn f ds []) (sem (n + 1) f ds) := by
  unfold nr
  cases e : tab f ds with
  | some d => exact ⟨rfl, ht f ds d e⟩
  | none =>
    dsimp only
    by_cases h : f = 43
    · rw [if_pos h]
      exact trivial
    · rw [if_neg h, sem_stp]
      exact puStp hF f ds h
/-- the lesser table without a word ahead -/
def pur : Nat → Nat → List PD → M PD
  | 0 => fun _ _ => stk
  | n + 1 => nr (fun _ _ => none) (pur n)
theorem puPur : ∀ (n f : Nat) (ds : List PD), Pu (pur n f ds []) (sem n f ds)
  | 0, _, _ => trivial
  | n + 1, f, ds => puNr (puPur n) (fun _ _ _ h => by cases h) f ds
def okD (o : Out PD) (d : PD) : Bool := match o with | .ok x [] => sameD x d | _ => false
end G

/-! Rules for what a form reckons at a given state; the draw. -/
namespace G
open PySem PySem.Spec PyProof.Rows L2
section
variable {Fn : Nat → List PD → M PD} {vk : List Nat} {env env' : EnvD} {g g1 g2 g3 : List PD} {a b e : Ex} {es : Exs} {x y z : PD} {ds xs : List PD}
theorem bnd_ok {β γ : Type} {m : M β} {f : β → M γ} {v : β} {o : Out γ} (h : m g = .ok v g1) (k : f v g1 = o) : bnd m f g = o := by
  show (m g).bnd f = o
  rw [h]
  exact k
theorem v_var {i : Nat} (h : env[i]? = some (.d x)) : evE Fn vk (.var i) env g = .ok x g := by
  unfold evE
  rw [h]
  rfl
theorem v_lit : evE Fn vk (.lit x) env g = .ok x g := rfl
theorem v_fnv {k : Nat} : evE Fn vk (.fnv k) env g = .ok (dFn k) g := rfl
theorem v_op2 {o : Op2} (ha : evE Fn vk a env g = .ok x g1) (hb : evE Fn vk b env g1 = .ok y g2) (ho : opF o x y = some z) : evE Fn vk (.op2 o a b) env g = .ok z g2 := by
  unfold evE
  refine bnd_ok ha (bnd_ok hb ?_)
  rw [ho]
  rfl
theorem v_neg {i : Int} (ha : evE Fn vk a env g = .ok (.int i) g1) : evE Fn vk (.neg a) env g = .ok (.int (-i)) g1 := by
  unfold evE
  exact bnd_ok ha rfl
theorem v_not {k : Bool} (ha : evE Fn vk a env g = .ok (.bool k) g1) : evE Fn vk (.notV a) env g = .ok (.bool (!k)) g1 := by
  unfold evE
  exact bnd_ok ha rfl
theorem v_ite {t : Tx} {k : Bool} {o : Out PD} (ht : evT Fn vk t env g = .ok k g1) (h : (if k = true then evE Fn vk a env else evE Fn vk b env) g1 = o) : evE Fn vk (.ite t a b) env g = o := by
  unfold evE
  exact bnd_ok ht h
theorem v_tup (h : evA Fn vk es env g = .ok ds g1) (l : ds.length ≤ 1000) : evE Fn vk (.tup es) env g = .ok (.tuple ds) g1 := by
  unfold evE
  refine bnd_ok h ?_
  rw [if_pos l]
  rfl
theorem v_lst (h : evA Fn vk es env g = .ok ds g1) (l : ds.length ≤ 1000) : evE Fn vk (.lst es) env g = .ok (.list ds) g1 := by
  unfold evE
  refine bnd_ok h ?_
  rw [if_pos l]
  rfl
theorem v_blt {q : Blt} (h : evE Fn vk a env g = .ok x g1) (hq : bltF q x = some z) : evE Fn vk (.blt q a) env g = .ok z g1 := by
  unfold evE
  refine bnd_ok h ?_
  rw [hq]
  rfl
theorem v_isi {t : String} (h : evE Fn vk a env g = .ok x g1) (hq : isiF t x = some z) : evE Fn vk (.isi t a) env g = .ok z g1 := by
  unfold evE
  refine bnd_ok h ?_
  rw [hq]
  rfl
theorem v_call {f : Nat} {o : Out PD} (h : evA Fn vk es env g = .ok ds g1) (hf : Fn f ds g1 = o) : evE Fn vk (.call f es) env g = o := by
  unfold evE
  exact bnd_ok h hf
theorem v_bget {i n : Nat} (h : env[i]? = some (.d dBag)) (hn : g[n]? = some x) : evE Fn vk (.bget i n) env g = .ok x g := by
  unfold evE
  rw [h]
  show (match g[n]? with | some d => Out.ok d g | none => .stuck) = _
  rw [hn]
theorem v_sl {o : Sk} {lo hi : Exs} {l u : Option Int} (h : evE Fn vk a env g = .ok x g1) (hl : evO Fn vk lo env g1 = .ok l g2) (hh : evO Fn vk hi env g2 = .ok u g3) (hs : slF o x l u = some z) : evE Fn vk (.sl o a lo hi) env g = .ok z g3 := by
  unfold evE
  refine bnd_ok h (bnd_ok hl (bnd_ok hh ?_))
  rw [hs]
  rfl
theorem v_on : evO Fn vk .nil env g = .ok none g := rfl
theorem v_os {i : Int} (h : evE Fn vk a env g = .ok (.int i) g1) : evO Fn vk (.cons a es) env g = .ok (some i) g1 := by
  unfold evO
  exact bnd_ok h rfl
theorem v_nil : evA Fn vk .nil env g = .ok [] g := rfl
theorem v_cons (h : evE Fn vk e env g = .ok x g1) (hs : evA Fn vk es env g1 = .ok xs g2) : evA Fn vk (.cons e es) env g = .ok (x :: xs) g2 := by
  unfold evA
  exact bnd_ok h (bnd_ok hs rfl)
theorem v_join {s t : Str} {l : List PD} (h : evE Fn vk a env g = .ok (.str s) g1) (hb : evE Fn vk b env g1 = .ok y g2) (hj : joinF (.str s) y = some z) : evE Fn vk (.join a b) env g = .ok z g2 := by
  unfold evE
  refine bnd_ok h (bnd_ok hb ?_)
  rw [hj]
  rfl
theorem v_split {s : Str} (h : evE Fn vk a env g = .ok (.str s) g1) (hb : evE Fn vk b env g1 = .ok y g2) (hj : splitF (.str s) y = some z) : evE Fn vk (.split a b) env g = .ok z g2 := by
  unfold evE
  refine bnd_ok h (bnd_ok hb ?_)
  rw [hj]
  rfl
/-! tests -/
variable {t u : Tx} {k : Bool}
theorem u_val (h : evE Fn vk e env g = .ok (.bool k) g1) : evT Fn vk (.val e) env g = .ok k g1 := by
  unfold evT
  exact bnd_ok h rfl
theorem u_not (h : evT Fn vk t env g = .ok k g1) : evT Fn vk (.not t) env g = .ok (!k) g1 := by
  unfold evT
  exact bnd_ok h rfl
theorem u_and {o : Out Bool} (h : evT Fn vk t env g = .ok k g1) (h2 : (if k = true then evT Fn vk u env else ret false) g1 = o) : evT Fn vk (.and t u) env g = o := by
  unfold evT
  exact bnd_ok h h2
theorem u_or {o : Out Bool} (h : evT Fn vk t env g = .ok k g1) (h2 : (if k = true then ret true else evT Fn vk u env) g1 = o) : evT Fn vk (.or t u) env g = o := by
  unfold evT
  exact bnd_ok h h2
/-! statements -/
variable {s : St} {r r2 : Ss} {o : Out Fl}
theorem w_set {i : Nat} (h : evE Fn vk e env g = .ok x g1) : evS Fn vk (.set i e) env g = .ok (.nx (env.set i (.d x))) g1 := by
  unfold evS
  exact bnd_ok h rfl
theorem w_bset {i n : Nat} (hb : env[i]? = some (.d dBag)) (h : evE Fn vk e env g = .ok x g1) (l : n < g1.length) : evS Fn vk (.bset i n e) env g = .ok (.nx env) (g1.set n x) := by
  unfold evS
  rw [hb]
  show bnd (evE Fn vk e env) (fun d g => if n < g.length then Out.ok (Fl.nx env) (g.set n d) else .stuck) g = _
  refine bnd_ok h ?_
  rw [if_pos l]
theorem w_ife (ht : evT Fn vk t env g = .ok k g1) (h : (if k = true then evSs Fn vk r env else evSs Fn vk r2 env) g1 = o) : evS Fn vk (.ife t r r2) env g = o := by
  unfold evS
  exact bnd_ok ht h
theorem w_ret (h : evE Fn vk e env g = .ok x g1) : evS Fn vk (.ret e) env g = .ok (.rt x) g1 := by
  unfold evS
  exact bnd_ok h rfl
theorem w_nx (h : evS Fn vk s env g = .ok (.nx env') g1) (h2 : evSs Fn vk r env' g1 = o) : evSs Fn vk (.cons s r) env g = o := by
  unfold evSs
  exact bnd_ok h h2
theorem w_rt (h : evS Fn vk s env g = .ok (.rt x) g1) : evSs Fn vk (.cons s r) env g = .ok (.rt x) g1 := by
  unfold evSs
  exact bnd_ok h rfl
theorem w_nil : evSs Fn vk .nil env g = .ok (.nx env) g := rfl
theorem w_F {n : Nat} {b : Ss} (h : evSs Fn vk b (ds.map Sl.d ++ List.replicate (n - ds.length) Sl.no) g = .ok (.rt x) g1) : evF Fn vk n b ds g = .ok x g1 := by
  unfold evF
  exact bnd_ok h rfl
end
theorem ifT {β : Type} {a b : M β} {g : List PD} : (if true = true then a else b) g = a g := by rw [if_pos rfl]
theorem ifF {β : Type} {a b : M β} {g : List PD} : (if false = true then a else b) g = b g := by rw [if_neg Bool.false_ne_true]
/-- what a bag holds -/
def Bg (g : List PD) : Prop := ∃ (a b c : Int) (cells : List Int), g = [.int a, .int b, .int c, .list (cells.map PyData.int)] ∧ 0 ≤ a ∧ 0 ≤ b ∧ b < 2147483647 ∧ (∀ x ∈ cells, 0 ≤ x) ∧ cells.length ≤ 1000
theorem bg0 (ns : List Int) : Bg [.int 0, .int 1234567891, .int 0, .list ((ns.take 63).map fun i => .int (if i < 0 then -i else i))] := by
  refine ⟨0, 1234567891, 0, (ns.take 63).map fun i => if i < 0 then -i else i, ?_, by decide, by decide, by decide, fun x hx => ?_, ?_⟩
  · rw [List.map_map]
    rfl
  · obtain ⟨i, _, rfl⟩ := List.mem_map.mp hx
    split <;> omega
  · rw [List.length_map, List.length_take]
    omega
/-- the next cell -/
theorem cell_at (cells : List Int) (c : Int) : ∃ x : Int, atI (((cells.map PyData.int).drop (HT.sIx (cells.map PyData.int).length 0 (some c))).take (HT.sIx (cells.map PyData.int).length (cells.map PyData.int).length none - HT.sIx (cells.map PyData.int).length 0 (some c)) ++ [PyData.int 0]) 0 = some (.int x) ∧ (x = 0 ∨ x ∈ cells) := by
  generalize hy : ((cells.map PyData.int).drop (HT.sIx (cells.map PyData.int).length 0 (some c))).take (HT.sIx (cells.map PyData.int).length (cells.map PyData.int).length none - HT.sIx (cells.map PyData.int).length 0 (some c)) = ys
  have mem : ∀ y ∈ ys, ∃ x ∈ cells, y = PyData.int x := fun y h => by
    rw [← hy] at h
    have h2 := List.mem_of_mem_drop (List.mem_of_mem_take h)
    obtain ⟨x, hx, e⟩ := List.mem_map.mp h2
    exact ⟨x, hx, e.symm⟩
  cases ys with
  | nil => exact ⟨0, rfl, .inl rfl⟩
  | cons y ys =>
    obtain ⟨x, hx, rfl⟩ := mem y List.mem_cons_self
    exact ⟨x, atI_nat (j := 0) rfl, .inr hx⟩
end G

/-! The draw: any number below the bound, the bag stays a bag. -/
namespace G
open PySem PySem.Spec PyProof.Rows L2
theorem eqI (i j : Int) : opF .eqD (.int i) (.int j) = some (.bool (i == j)) := rfl
theorem mulI_ok {i j : Int} (h : -(2 ^ 64) < i ∧ i < 2 ^ 64) : opF .mulI (.int i) (.int j) = some (.int (i * j)) := if_pos h
theorem modI_ok {i j : Int} (h : j ≠ 0) : opF .modI (.int i) (.int j) = some (.int (i.fmod j)) := if_pos h
theorem divI_ok {i j : Int} (h : j ≠ 0 ∧ j.natAbs < 1073741824) : opF .divI (.int i) (.int j) = some (.int (i.fdiv j)) := if_pos h
theorem geI_is (i j : Int) : opF .geI (.int i) (.int j) = some (.bool (decide (j ≤ i))) := rfl
theorem gtI_is (i j : Int) : opF .gtI (.int i) (.int j) = some (.bool (decide (j < i))) := rfl
theorem intI_is (i : Int) : bltF .intI (.int i) = some (.int i) := rfl
theorem fm_lt {i j : Int} (h : 0 < j) : 0 ≤ i.fmod j ∧ i.fmod j < j := ⟨Int.fmod_nonneg_of_pos i h, Int.fmod_lt_of_pos i h⟩
def tk1 : St := match ir31 with | .cons s _ => s | _ => .retN
def tk2 : Ss := match ir31 with | .cons _ r => r | _ => .nil
theorem ir31_is : ir31 = .cons tk1 tk2 := rfl
def eT (m : Int) (s2 s3 : Sl) : EnvD := [.d dBag, .d (.int m), s2, s3, .no, .no, .no]
section
variable {Fn : Nat → List PD → M PD}
theorem w_rt' {vk : List Nat} {env : EnvD} {g g1 : List PD} {s : St} {r : Ss} {x : PD} (h : evS Fn vk s env g = .ok (.rt x) g1) : evSs Fn vk (.cons s r) env g = .ok (.rt x) g1 := w_rt h
/-- the part that takes a cell -/
theorem tk1_ok {m : Int} {g : List PD} (h : Bg g) : ∃ s2 s3 g', evS Fn vkL tk1 (eT m .no .no) g = .ok (.nx (eT m s2 s3)) g' ∧ Bg g' := by
  obtain ⟨a, b, c, cells, rfl, ha, hb, hb2, hc, hl⟩ := h
  by_cases a0 : a = 0
  · subst a0
    obtain ⟨x, hx, hm⟩ := cell_at cells c
    have x0 : 0 ≤ x := hm.elim (fun e => by omega) (hc x)
    have cat : opF .catL (.list (((cells.map PyData.int).drop (HT.sIx (cells.map PyData.int).length 0 (some c))).take (HT.sIx (cells.map PyData.int).length (cells.map PyData.int).length none - HT.sIx (cells.map PyData.int).length 0 (some c)))) (.list [.int 0]) =
        some (.list (((cells.map PyData.int).drop (HT.sIx (cells.map PyData.int).length 0 (some c))).take (HT.sIx (cells.map PyData.int).length (cells.map PyData.int).length none - HT.sIx (cells.map PyData.int).length 0 (some c)) ++ [.int 0])) := by
      have len : (((cells.map PyData.int).drop (HT.sIx (cells.map PyData.int).length 0 (some c))).take (HT.sIx (cells.map PyData.int).length (cells.map PyData.int).length none - HT.sIx (cells.map PyData.int).length 0 (some c))).length ≤ 1000 := by
        rw [List.length_take, List.length_drop]
        have := List.length_map PyData.int (as := cells)
        omega
      exact if_pos (Nat.le_trans (Nat.add_le_add_right len 1) (by decide))
    -- the state behind the branch that keeps a great cell
    have fin : ∀ (a' : Int) (s2 : Sl), s2 = .d (.int x) → 0 ≤ a' → ∃ s3 g', evSs Fn vkL (match tk1 with | .ife _ (.cons _ (.cons _ (.cons _ r))) _ => r | _ => .nil) (eT m s2 .no) [.int a', .int b, .int (c + 1), .list (cells.map PyData.int)] = .ok (.nx (eT m s2 s3)) g' ∧ Bg g' := by
      intro a' s2 e2 ha'
      subst e2
      refine ⟨.d (.int (b * 48271 + x.fmod 2147483647 + 7919 * (c + 1))), [.int a', .int ((b * 48271 + x.fmod 2147483647 + 7919 * (c + 1)).fmod 2147483647), .int (c + 1), .list (cells.map PyData.int)], ?_, a', _, c + 1, cells, rfl, ha', (fm_lt (by decide)).1, (fm_lt (by decide)).2, hc, hl⟩
      refine w_nx (w_set (x := .int (b * 48271 + x.fmod 2147483647 + 7919 * (c + 1))) (v_op2 (x := .int (b * 48271 + x.fmod 2147483647)) (v_op2 (v_op2 (v_bget rfl rfl) v_lit (mulI_ok ⟨by omega, by omega⟩)) (v_op2 (v_blt (v_var rfl) (intI_is x)) v_lit (modI_ok (by decide))) rfl) (v_op2 v_lit (v_bget rfl rfl) (mulI_ok ⟨by decide, by decide⟩)) rfl)) ?_
      refine w_nx (w_bset rfl (v_op2 (v_blt (v_var rfl) (intI_is _)) v_lit (modI_ok (by decide))) (by show 1 < 4; decide)) ?_
      exact w_nil
    by_cases big : (1000000000000000000 : Int) ≤ x
    · obtain ⟨s3, g', e, B⟩ := fin x (.d (.int x)) rfl x0
      refine ⟨.d (.int x), s3, g', w_ife (u_val (v_op2 (v_bget rfl rfl) v_lit (eqI 0 0))) ?_, B⟩
      refine ifT.trans (w_nx (w_set (v_op2 (v_op2 (v_sl (v_bget rfl rfl) (v_os (v_bget rfl rfl)) v_on rfl) (v_lst (v_cons v_lit v_nil) (by decide)) cat) v_lit hx)) ?_)
      refine w_nx (w_bset rfl (v_op2 (v_bget rfl rfl) v_lit rfl) (by show 2 < 4; decide)) ?_
      refine w_nx (w_ife (u_val (v_op2 (v_var rfl) v_lit ((geI_is x _).trans (by rw [decide_eq_true big])))) (ifT.trans (w_nx (w_bset rfl (v_var rfl) (by show 0 < 4; decide)) w_nil))) ?_
      exact e
    · obtain ⟨s3, g', e, B⟩ := fin 0 (.d (.int x)) rfl (by decide)
      refine ⟨.d (.int x), s3, g', w_ife (u_val (v_op2 (v_bget rfl rfl) v_lit (eqI 0 0))) ?_, B⟩
      refine ifT.trans (w_nx (w_set (v_op2 (v_op2 (v_sl (v_bget rfl rfl) (v_os (v_bget rfl rfl)) v_on rfl) (v_lst (v_cons v_lit v_nil) (by decide)) cat) v_lit hx)) ?_)
      refine w_nx (w_bset rfl (v_op2 (v_bget rfl rfl) v_lit rfl) (by show 2 < 4; decide)) ?_
      refine w_nx (w_ife (u_val (v_op2 (v_var rfl) v_lit ((geI_is x _).trans (by rw [decide_eq_false big])))) (ifF.trans w_nil)) ?_
      exact e
  · refine ⟨.no, .no, _, w_ife (u_val (v_op2 (v_bget rfl rfl) v_lit ((eqI a 0).trans (by rw [beq_false_of_ne a0])))) (ifF.trans w_nil), a, b, c, cells, rfl, ha, hb, hb2, hc, hl⟩
theorem tk2_ok {m : Int} (h1 : 1 ≤ m) (h2 : m < 1073741824) {s2 s3 : Sl} {g : List PD} (h : Bg g) : ∃ r g', evSs Fn vkL tk2 (eT m s2 s3) g = .ok (.rt (.int r)) g' ∧ 0 ≤ r ∧ r < m ∧ Bg g' := by
  obtain ⟨a, b, c, cells, rfl, ha, hb, hb2, hc, hl⟩ := h
  have m0 : m ≠ 0 := by omega
  have md : m ≠ 0 ∧ m.natAbs < 1073741824 := ⟨m0, by omega⟩
  by_cases a0 : 0 < a
  · refine ⟨a.fmod m, [.int (a.fdiv m), .int b, .int c, .list (cells.map PyData.int)], w_rt' ?_, (fm_lt (by omega)).1, (fm_lt (by omega)).2, a.fdiv m, b, c, cells, rfl, ?_, hb, hb2, hc, hl⟩
    · refine w_ife (u_val (v_op2 (v_bget rfl rfl) v_lit ((gtI_is a 0).trans (by rw [decide_eq_true a0])))) (ifT.trans ?_)
      refine w_nx (w_set (v_op2 (v_blt (v_bget rfl rfl) (intI_is a)) (v_var rfl) (modI_ok m0))) ?_
      refine w_nx (w_bset rfl (v_op2 (v_blt (v_bget rfl rfl) (intI_is a)) (v_var rfl) (divI_ok md)) (by show 0 < 4; decide)) ?_
      exact w_rt (w_ret (v_var rfl))
    · exact Int.fdiv_nonneg ha (by omega)
  · have q1 := fm_lt (i := (b + 1) * 39373) (j := 1000000007) (by decide)
    generalize hbe : ((b + 1) * 39373).fmod 1000000007 = be at q1
    have q2 := fm_lt (i := be * be) (j := 998244353) (by decide)
    generalize hse : (be * be).fmod 998244353 = se at q2
    refine ⟨(((se * 30011).fmod 998244353).fdiv 7).fmod m, _, w_nx (w_ife (u_val (v_op2 (v_bget rfl rfl) v_lit ((gtI_is a 0).trans (by rw [decide_eq_false a0])))) (ifF.trans w_nil)) ?_, (fm_lt (by omega)).1, (fm_lt (by omega)).2, a, b, c, cells, rfl, ha, hb, hb2, hc, hl⟩
    refine w_nx (w_set (x := .int be) (v_op2 (v_blt (v_op2 (v_op2 (v_bget rfl rfl) v_lit rfl) v_lit (mulI_ok ⟨by omega, by omega⟩)) (intI_is _)) v_lit ((modI_ok (by decide)).trans (by rw [hbe])))) ?_
    refine w_nx (w_set (x := .int ((se * 30011).fmod 998244353)) (v_op2 (v_blt (v_op2 (x := .int se) (v_op2 (v_blt (v_op2 (v_var rfl) (v_var rfl) (mulI_ok ⟨by omega, by omega⟩)) (intI_is _)) v_lit ((modI_ok (by decide)).trans (by rw [hse]))) v_lit (mulI_ok ⟨by omega, by omega⟩)) (intI_is _)) v_lit (modI_ok (by decide)))) ?_
    exact w_rt (w_ret (v_op2 (v_blt (v_op2 (v_var rfl) v_lit (divI_ok ⟨by decide, by decide⟩)) (intI_is _)) (v_var rfl) (modI_ok m0)))
/-- _law_take -/
theorem take_ok {n : Nat} {m : Int} (h1 : 1 ≤ m) (h2 : m < 1073741824) {g : List PD} (h : Bg g) : ∃ r g', sem (n + 1) 31 [dBag, .int m] g = .ok (.int r) g' ∧ 0 ≤ r ∧ r < m ∧ Bg g' := by
  obtain ⟨s2, s3, g1, e1, b1⟩ := tk1_ok (Fn := sem n) (m := m) h
  obtain ⟨r, g2, e2, r1, r2, b2⟩ := tk2_ok (Fn := sem n) h1 h2 (s2 := s2) (s3 := s3) b1
  refine ⟨r, g2, ?_, r1, r2, b2⟩
  rw [sem_stp]
  show evF (sem n) vkL 7 ir31 [dBag, .int m] g = _
  rw [ir31_is]
  exact w_F (w_nx e1 e2)
end
end G

/-! Tables of what is told: moments, stretches, by the kernel. -/
namespace G
open PySem PySem.Spec PyProof.Rows L2
mutual
theorem sameD_eq' : ∀ (a b : PD), sameD a b = true → a = b
  | .none, b, h => by cases b <;> first | rfl | cases h
  | .bool x, b, h => by
    cases b <;> try (cases h; done)
    rename_i y
    rw [beq_iff_eq.mp (show (x == y) = true from h)]
  | .int x, b, h => by
    cases b <;> try (cases h; done)
    rename_i y
    rw [beq_iff_eq.mp (show (x == y) = true from h)]
  | .str x, b, h => by
    cases b <;> try (cases h; done)
    rename_i y
    rw [beq_iff_eq.mp (show (x == y) = true from h)]
  | .list x, b, h => by
    cases b <;> try (cases h; done)
    rename_i y
    rw [sameDs_eq' x y h]
  | .tuple x, b, h => by
    cases b <;> try (cases h; done)
    rename_i y
    rw [sameDs_eq' x y h]
  | .dict x, b, h => by cases b <;> cases h
theorem sameDs_eq' : ∀ (a b : List PD), sameDs a b = true → a = b
  | [], [], _ => rfl
  | [], _ :: _, h => by cases h
  | _ :: _, [], h => by cases h
  | x :: xs, y :: ys, h => by
    have q := Bool.and_eq_true_iff.mp (show (sameD x y && sameDs xs ys) = true from h)
    rw [sameD_eq' x y q.1, sameDs_eq' xs ys q.2]
end
/-- with a table at every level -/
def purT (tab : Nat → List PD → Option PD) : Nat → Nat → List PD → M PD
  | 0 => fun f ds => match tab f ds with | some d => ret d | none => stk
  | n + 1 => nr tab (purT tab n)
/-- the table tells the truth from level n0 on -/
def Tb (n0 : Nat) (tab : Nat → List PD → Option PD) : Prop := ∀ f ds d, tab f ds = some d → ∀ m, n0 ≤ m → ∀ g, sem m f ds g = .ok d g
theorem puT_ok {n0 : Nat} {tab : Nat → List PD → Option PD} (ht : Tb n0 tab) : ∀ (n m f : Nat) (ds : List PD), n0 + n ≤ m → Pu (purT tab n f ds []) (sem m f ds)
  | 0, m, f, ds, h => by
    unfold purT
    cases e : tab f ds with
    | none => exact trivial
    | some d => exact ⟨rfl, ht f ds d e m h⟩
  | n + 1, 0, f, ds, h => absurd h (by omega)
  | n + 1, m + 1, f, ds, h => puNr (fun k ds => puT_ok ht n m k ds (by omega)) (fun f ds d e g => ht f ds d e (m + 1) (by omega) g) f ds
def tab0 : Nat → List PD → Option PD := fun _ _ => none
theorem tb0 : Tb 0 tab0 := fun _ _ _ h => by cases h
theorem of_okD {o : Out PD} {d : PD} (h : okD o d = true) : o = .ok d [] := by
  unfold okD at h
  split at h
  · rename_i x
    rw [sameD_eq' x d h]
  · cases h
def okX (o : Out PD) (l k : Int) : Bool := match o with | .exn l' k' [] => l' == l && k' == k | _ => false
theorem of_okX {o : Out PD} {l k : Int} (h : okX o l k = true) : o = .exn l k [] := by
  unfold okX at h
  split at h
  · rename_i l' k'
    have q := Bool.and_eq_true_iff.mp h
    rw [beq_iff_eq.mp q.1, beq_iff_eq.mp q.2]
  · cases h
/-- a told call at any state -/
theorem told {n0 n m f : Nat} {tab : Nat → List PD → Option PD} {ds : List PD} {d : PD} (ht : Tb n0 tab) (h : okD (purT tab n f ds []) d = true) (hm : n0 + n ≤ m) (g : List PD) : sem m f ds g = .ok d g := by
  have q := puT_ok ht n m f ds hm
  rw [of_okD h] at q
  exact q.2 g
theorem toldX {n0 n m f : Nat} {tab : Nat → List PD → Option PD} {ds : List PD} {l k : Int} (ht : Tb n0 tab) (h : okX (purT tab n f ds []) l k = true) (hm : n0 + n ≤ m) (g : List PD) : sem m f ds g = .exn l k g := by
  have q := puT_ok ht n m f ds hm
  rw [of_okX h] at q
  exact q.2 g
/-! ### moments -/
def fr (a b : Int) : PD := .tuple [.int a, .int b]
def root1 : PD := .tuple [.tuple [fr (-2) 1, fr 0 1, fr 1 1], fr 1 1, fr 3 2]
def root2 : PD := .tuple [.tuple [fr (-3) 1, fr 1 1, fr 2 1], fr 1 3, fr 7 2]
def momT : List (PD × Str) := [(fr 0 1, ⟨#[48]⟩), (fr 1 1, ⟨#[49]⟩), (fr 2 1, ⟨#[50]⟩), (fr 3 1, ⟨#[51]⟩), (fr 1 2, ⟨#[49, 47, 50]⟩), (fr 3 2, ⟨#[51, 47, 50]⟩), (fr 5 2, ⟨#[53, 47, 50]⟩), (fr 7 2, ⟨#[55, 47, 50]⟩),
  (root1, ⟨#[114, 111, 111, 116, 40, 45, 50, 32, 48, 32, 49, 44, 32, 49, 44, 32, 51, 47, 50, 41]⟩), (root2, ⟨#[114, 111, 111, 116, 40, 45, 51, 32, 49, 32, 50, 44, 32, 49, 47, 51, 44, 32, 55, 47, 50, 41]⟩)]
def momOK (p : PD × Str) : Bool := okD (purT tab0 8 17 [.str p.2] []) p.1 && (okD (purT tab0 8 11 [p.1] []) (.str p.2) && (okD (purT tab0 8 39 [p.1] []) (.str p.2) && okD (purT tab0 8 7 [p.1] []) (.bool true)))
theorem mom_all : momT.all momOK = true := by decide +kernel
def byT (t : Str) : Option PD := (momT.find? fun p => p.2 == t).map (·.1)
def byD (d : PD) : Option Str := (momT.find? fun p => sameD p.1 d).map (·.2)
/-- what is told of moments -/
def tabM : Nat → List PD → Option PD
  | 17, [.str t] => byT t
  | 11, [d] => (byD d).map .str
  | 39, [d] => (byD d).map .str
  | 7, [d] => (byD d).map fun _ => .bool true
  | _, _ => none
theorem mom_of {p : PD × Str} (h : p ∈ momT) : okD (purT tab0 8 17 [.str p.2] []) p.1 = true ∧ okD (purT tab0 8 11 [p.1] []) (.str p.2) = true ∧ okD (purT tab0 8 39 [p.1] []) (.str p.2) = true ∧ okD (purT tab0 8 7 [p.1] []) (.bool true) = true := by
  have q := List.all_eq_true.mp mom_all p h
  unfold momOK at q
  simp only [Bool.and_eq_true] at q
  exact ⟨q.1, q.2.1, q.2.2.1, q.2.2.2⟩
theorem byT_mem {t : Str} {d : PD} (h : byT t = some d) : (d, t) ∈ momT := by
  unfold byT at h
  obtain ⟨p, e1, e2⟩ := Option.map_eq_some_iff.mp h
  have q : (p.2 == t) = true := List.find?_some (p := fun p : PD × Str => p.2 == t) e1
  have m := List.mem_of_find?_eq_some e1
  have e3 := beq_iff_eq.mp q
  rw [← e2, ← e3]
  exact m
theorem byD_mem {t : Str} {d : PD} (h : byD d = some t) : (d, t) ∈ momT := by
  unfold byD at h
  obtain ⟨p, e1, e2⟩ := Option.map_eq_some_iff.mp h
  have q : sameD p.1 d = true := List.find?_some (p := fun p : PD × Str => sameD p.1 d) e1
  have m := List.mem_of_find?_eq_some e1
  have e3 := sameD_eq' _ _ q
  rw [← e2, ← e3]
  exact m
theorem tbM : Tb 8 tabM := by
  intro f ds d h m hm g
  unfold tabM at h
  split at h
  · exact told tb0 (mom_of (byT_mem h)).1 (by omega) g
  · obtain ⟨t, e1, rfl⟩ := Option.map_eq_some_iff.mp h
    exact told tb0 (mom_of (byD_mem e1)).2.1 (by omega) g
  · obtain ⟨t, e1, rfl⟩ := Option.map_eq_some_iff.mp h
    exact told tb0 (mom_of (byD_mem e1)).2.2.1 (by omega) g
  · obtain ⟨t, e1, rfl⟩ := Option.map_eq_some_iff.mp h
    exact told tb0 (mom_of (byD_mem e1)).2.2.2 (by omega) g
  · cases h
end G

/-! Stretches, rounds, bad lines: what is told of each, by the kernel. -/
namespace G
open PySem PySem.Spec PyProof.Rows L2
def nl : Str := ⟨#[10]⟩
def txtM (d : PD) : Str := (byD d).getD ⟨#[]⟩
def lineT : PD → Str
  | .tuple [lo, .int li, hi, .int h] => (if li = 1 then ⟨#[91]⟩ else ⟨#[40]⟩) ++ txtM lo ++ ⟨#[44, 32]⟩ ++ (match hi with | .none => ⟨#[110, 111, 110, 101]⟩ | d => txtM d) ++ (if h = 1 then ⟨#[93]⟩ else ⟨#[41]⟩)
  | _ => ⟨#[]⟩
def momsAt (k : Nat) : List PD := [fr k 1, fr (2 * k + 1) 2, root1, root2]
def stsAt (k : Nat) : List PD := (momsAt k).flatMap fun lo => [(0 : Int), 1].flatMap fun li => .tuple [lo, .int li, .none, .int 0] :: ((momsAt (k + 1)).take 2 ++ momsAt k).flatMap fun hi => [(0 : Int), 1].map fun h => .tuple [lo, .int li, hi, .int h]
def stsL : List PD := stsAt 0 ++ stsAt 1 ++ stsAt 2
/-- a line as lines go -/
def lineOk (l : Str) : Bool := l.cps.toList.all (fun c => !(c == 10)) && (decide (l.length ≤ 200) && decide (0 < l.length))
def stOK (s : PD) : Bool :=
  okD (purT tabM 4 24 [.str (lineT s)] []) s && (okD (purT tabM 4 26 [.str (lineT s)] []) .none && (lineOk (lineT s) && showOk (.list [.str (lineT s), s])))
theorem st_0 : (stsAt 0).all stOK = true := by decide +kernel
theorem st_1 : (stsAt 1).all stOK = true := by decide +kernel
theorem st_2 : (stsAt 2).all stOK = true := by decide +kernel
end G

/-! Lines joined and split; one line read. -/
namespace G
open PySem PySem.Spec PyProof.Rows L2
section
variable {Fn : Nat → List PD → M PD} {vk : List Nat} {env env' : EnvD} {g g1 g2 g3 : List PD} {a b e : Ex} {es : Exs} {x y z : PD} {ds xs : List PD} {s : St} {r : Ss}
theorem v_callv {i k : Nat} (h : env[i]? = some (.d (dFn k))) (hk : k ∈ vk) (ha : evA Fn vk es env g = .ok ds g1) (hf : Fn k ds g1 = .ok x g2) : evE Fn vk (.callv i es) env g = .ok x g2 := by
  unfold evE
  rw [h]
  show (if k ∈ vk then bnd (evA Fn vk es env) fun ds => noX (Fn k ds) else stk) g = _
  rw [if_pos hk]
  refine bnd_ok ha ?_
  show noX (Fn k ds) g1 = _
  unfold noX
  rw [hf]
theorem w_rse {l c : Int} (ha : evE Fn vk a env g = .ok (.int l) g1) (hb : evE Fn vk b env g1 = .ok (.int c) g2) : evS Fn vk (.rse a b) env g = .exn l c g2 := by
  unfold evS
  exact bnd_ok ha (bnd_ok hb rfl)
theorem w_xs {l c : Int} (h : evS Fn vk s env g = .exn l c g1) : evSs Fn vk (.cons s r) env g = .exn l c g1 := by
  unfold evSs
  show (evS Fn vk s env g).bnd _ = _
  rw [h]
  rfl
theorem w_Fx {n : Nat} {b : Ss} {l c : Int} (h : evSs Fn vk b (ds.map Sl.d ++ List.replicate (n - ds.length) Sl.no) g = .exn l c g1) : evF Fn vk n b ds g = .exn l c g1 := by
  unfold evF
  show (evSs Fn vk b _ g).bnd _ = _
  rw [h]
  rfl
theorem w_asg {t : Tg} (h : evE Fn vk e env g = .ok x g1) (ht : tgF t x env = some env') : evS Fn vk (.asg t e) env g = .ok (.nx env') g1 := by
  unfold evS
  refine bnd_ok h ?_
  rw [ht]
  rfl
theorem v_callX {f : Nat} {l c : Int} (h : evA Fn vk es env g = .ok ds g1) (hf : Fn f ds g1 = .exn l c g2) : evE Fn vk (.call f es) env g = .exn l c g2 := by
  unfold evE
  exact bnd_ok h hf
theorem w_retX {l c : Int} (h : evE Fn vk e env g = .exn l c g1) : evS Fn vk (.ret e) env g = .exn l c g1 := by
  unfold evS
  show (evE Fn vk e env g).bnd _ = _
  rw [h]
  rfl
end
theorem isN_is (d : PD) : opF .isN d .none = some (.bool (isNo d)) := by cases d <;> rfl
theorem ntN_is (d : PD) : opF .ntN d .none = some (.bool (!isNo d)) := by cases d <;> rfl
theorem nl_tl : TL.tl nl = 10 :: [] := rfl
theorem nl_lat : nl.cps.all (· < 256) = true := by decide +kernel
/-- a line: no newline within, short, not empty -/
theorem lineOk_parts {l : Str} (h : lineOk l = true) : 10 ∉ TL.tl l ∧ l.length ≤ 200 ∧ 0 < l.length := by
  unfold lineOk at h
  simp only [Bool.and_eq_true, decide_eq_true_eq, List.all_eq_true] at h
  refine ⟨fun m => ?_, h.2.1, h.2.2⟩
  have q := h.1 10 m
  simp at q
theorem join1 (a : Str) : Txt.join nl [a] = a := by
  refine TL.ext_tl ?_
  rw [TL.join_eq, TL.tl_join]
  rfl
theorem join2 (a b : Str) : Txt.join nl [a, b] = a ++ nl ++ b := by
  refine TL.ext_tl ?_
  rw [TL.join_eq, TL.tl_join, TL.tl_append, TL.tl_append, List.append_assoc]
  rfl
theorem split_lines {ls : List Str} (hn : ls ≠ []) (h : ∀ l ∈ ls, 10 ∉ TL.tl l) : Txt.split (Txt.join nl ls) nl = ls := TL.split_join nl_tl nl_lat hn h
/-- _one_line_ of a text whose first line is read as d -/
theorem one_ok {m k : Nat} (hk : k ∈ vkL) {text p0 : Str} {ps : List Str} (hs : Txt.split text nl = p0 :: ps) (hl : text.length + 2 ≤ sizeLine) {d : PD} (hf : ∀ g, sem m k [.str p0] g = .ok d g) (g : List PD) :
    sem (m + 1) 16 [.str text, dFn k] g = if isNo d = true then .exn 1 1 g else if 1 < ps.length + 1 then .exn 2 1 g else .ok d g := by
  rw [sem_stp]
  show evF (sem m) vkL 4 ir16 [.str text, dFn k] g = _
  have e1 : splitF (.str text) (.str nl) = some (.list ((p0 :: ps).map PyData.str)) := by
    have q : nl.length ≠ 0 ∧ text.length + 2 ≤ sizeLine := ⟨by decide, hl⟩
    show (if nl.length ≠ 0 ∧ text.length + 2 ≤ sizeLine then some (PyData.list ((Txt.split text nl).map PyData.str)) else none) = _
    rw [if_pos q, hs]
  have st1 : ∀ r : Ss, ∀ o, evSs (sem m) vkL r [.d (.str text), .d (dFn k), .d (.list ((p0 :: ps).map PyData.str)), .d d] g = o → evSs (sem m) vkL (.cons (.set 2 (.split (.var 0) (.lit (.str nl)))) (.cons (.set 3 (.callv 1 (.cons (.op2 .ixL (.var 2) (.lit (.int 0))) .nil))) r)) [.d (.str text), .d (dFn k), .no, .no] g = o := fun r o h => by
    refine w_nx (w_set (v_split (v_var rfl) v_lit e1)) ?_
    refine w_nx (w_set (v_callv rfl hk (v_cons (v_op2 (v_var rfl) v_lit (z := .str p0) ?_) v_nil) (hf g))) h
    exact atI_nat (j := 0) rfl
  by_cases n : isNo d = true
  · rw [if_pos n]
    refine w_Fx (st1 _ _ ?_)
    refine w_xs ?_
    refine w_ife (u_val (v_op2 (v_var rfl) v_lit (isN_is d))) ?_
    rw [n]
    exact ifT.trans (w_xs (w_rse v_lit v_lit))
  · rw [if_neg n]
    have n' : isNo d = false := by simpa using n
    by_cases l2 : 1 < ps.length + 1
    · rw [if_pos l2]
      refine w_Fx (st1 _ _ ?_)
      refine w_nx (w_ife (u_val (v_op2 (v_var rfl) v_lit (isN_is d))) (by rw [n']; exact ifF.trans w_nil)) ?_
      refine w_xs ?_
      refine w_ife (u_val (v_op2 (v_blt (v_var rfl) (z := .int ((ps.length + 1 : Nat) : Int)) ?_) v_lit (gtI_is _ _))) ?_
      · show some (PyData.int (((p0 :: ps).map PyData.str).length : Nat)) = _
        rw [List.length_map]
        rfl
      · rw [decide_eq_true (show (1 : Int) < ((ps.length + 1 : Nat) : Int) by omega)]
        exact ifT.trans (w_xs (w_rse v_lit v_lit))
    · rw [if_neg l2]
      refine w_F (st1 _ _ ?_)
      refine w_nx (w_ife (u_val (v_op2 (v_var rfl) v_lit (isN_is d))) (by rw [n']; exact ifF.trans w_nil)) ?_
      refine w_nx (env' := [.d (.str text), .d (dFn k), .d (.list ((p0 :: ps).map PyData.str)), .d d]) (g1 := g) (w_ife (u_val (v_op2 (v_blt (v_var rfl) (z := .int ((ps.length + 1 : Nat) : Int)) ?_) v_lit (gtI_is _ _))) ?_) ?_
      · show some (PyData.int (((p0 :: ps).map PyData.str).length : Nat)) = _
        rw [List.length_map]
        rfl
      · rw [decide_eq_false (show ¬ (1 : Int) < ((ps.length + 1 : Nat) : Int) by omega)]
        exact ifF.trans w_nil
      · exact w_rt (w_ret (v_var rfl))
/-- read_stretch, read_clock: one_line over stretch_in, clock_in -/
theorem read_V {m f k : Nat} (hf : f = 25 ∧ k = 24 ∨ f = 29 ∧ k = 28) {text : Str} {g g1 : List PD} {d : PD} (h : sem m 16 [.str text, dFn k] g = .ok d g1) : sem (m + 1) f [.str text] g = .ok d g1 := by
  rw [sem_stp]
  rcases hf with ⟨rfl, rfl⟩ | ⟨rfl, rfl⟩
  · exact w_F (n := 1) (b := ir25) (w_rt (w_ret (v_call (v_cons (v_var rfl) (v_cons v_fnv v_nil)) h)))
  · exact w_F (n := 1) (b := ir29) (w_rt (w_ret (v_call (v_cons (v_var rfl) (v_cons v_fnv v_nil)) h)))
theorem read_X {m f k : Nat} (hf : f = 25 ∧ k = 24 ∨ f = 29 ∧ k = 28) {text : Str} {g g1 : List PD} {l c : Int} (h : sem m 16 [.str text, dFn k] g = .exn l c g1) : sem (m + 1) f [.str text] g = .exn l c g1 := by
  rw [sem_stp]
  rcases hf with ⟨rfl, rfl⟩ | ⟨rfl, rfl⟩
  · exact w_Fx (n := 1) (b := ir25) (w_xs (w_retX (v_callX (v_cons (v_var rfl) (v_cons v_fnv v_nil)) h)))
  · exact w_Fx (n := 1) (b := ir29) (w_xs (w_retX (v_callX (v_cons (v_var rfl) (v_cons v_fnv v_nil)) h)))
/-- a line alone is read; with another behind it, refused at 2; an unread one at 1 -/
theorem readL {m f k : Nat} (hf : f = 25 ∧ k = 24 ∨ f = 29 ∧ k = 28) {l : Str} (h1 : 10 ∉ TL.tl l) (h2 : l.length ≤ 4000) {d : PD} (hd : isNo d = false) (ht : ∀ g, sem m k [.str l] g = .ok d g) (g : List PD) :
    sem (m + 2) f [.str l] g = .ok d g ∧ ∀ q : Str, 10 ∉ TL.tl q → q.length ≤ 4000 → sem (m + 2) f [.str (l ++ nl ++ q)] g = .exn 2 1 g := by
  have hk : k ∈ vkL := by rcases hf with ⟨_, rfl⟩ | ⟨_, rfl⟩ <;> decide
  constructor
  · refine read_V hf ((one_ok hk (ps := []) (p0 := l) ?_ (Nat.le_trans (Nat.add_le_add_right h2 2) (by decide)) ht g).trans ?_)
    · have q := split_lines (ls := [l]) (by simp) (fun z hz => by rw [List.mem_singleton.mp hz]; exact h1)
      rw [join1] at q
      exact q
    · rw [if_neg (by rw [hd]; exact Bool.false_ne_true), if_neg (by simp)]
  · intro q q1 q2
    refine read_X hf ((one_ok hk (ps := [q]) (p0 := l) ?_ ?_ ht g).trans ?_)
    · have z := split_lines (ls := [l, q]) (by simp) (fun z hz => by
        rcases List.mem_cons.mp hz with rfl | hz
        · exact h1
        · rw [List.mem_singleton.mp hz]; exact q1)
      rw [join2] at z
      exact z
    · rw [strLen_append, strLen_append]
      refine Nat.le_trans (m := 8003) ?_ (by decide)
      have : nl.length = 1 := rfl
      omega
    · rw [if_neg (by rw [hd]; exact Bool.false_ne_true), if_pos (by simp)]
theorem readN {m f k : Nat} (hf : f = 25 ∧ k = 24 ∨ f = 29 ∧ k = 28) {l : Str} (h1 : 10 ∉ TL.tl l) (h2 : l.length ≤ 4000) (ht : ∀ g, sem m k [.str l] g = .ok .none g) (g : List PD) : sem (m + 2) f [.str l] g = .exn 1 1 g := by
  have hk : k ∈ vkL := by rcases hf with ⟨_, rfl⟩ | ⟨_, rfl⟩ <;> decide
  refine read_X hf ((one_ok hk (ps := []) (p0 := l) ?_ (Nat.le_trans (Nat.add_le_add_right h2 2) (by decide)) ht g).trans ?_)
  · have q := split_lines (ls := [l]) (by simp) (fun z hz => by rw [List.mem_singleton.mp hz]; exact h1)
    rw [join1] at q
    exact q
  · rw [if_pos (show isNo PyData.none = true from rfl)]
end G

/-! A span's text read: line by line. -/
namespace G
open PySem PySem.Spec PyProof.Rows L2
section
variable {Fn : Nat → List PD → M PD} {vk : List Nat} {env env' e1 : EnvD} {g g1 g2 g3 : List PD} {a b e : Ex} {x y z d : PD} {ds xs : List PD} {r : Ss} {o : Out Fl} {tg : Tg}
theorem w_par {i j : Nat} {oi oj : Bool} {s t : Sl} (ha : evE Fn vk a env g = .ok x g1) (hb : evE Fn vk b env g1 = .ok y g2) (hs : slOf oi x = some s) (ht : slOf oj y = some t) (hl : i < env.length ∧ j < env.length ∧ i ≠ j) :
    evS Fn vk (.par i j oi oj a b) env g = .ok (.nx ((env.set i s).set j t)) g2 := by
  unfold evS
  refine bnd_ok ha (bnd_ok hb ?_)
  rw [hs, ht]
  show (if i < env.length ∧ j < env.length ∧ i ≠ j then ret (Fl.nx ((env.set i s).set j t)) else stk : M Fl) g2 = _
  rw [if_pos hl]
  rfl
theorem w_app {i : Nat} (h : env[i]? = some (.own xs)) (l : xs.length < 1000000) (he : evE Fn vk e env g = .ok d g1) : evS Fn vk (.app i e) env g = .ok (.nx (env.set i (.own (xs ++ [d])))) g1 := by
  unfold evS
  rw [h]
  show (if xs.length < 1000000 then bnd (evE Fn vk e env) fun d => ret (Fl.nx (env.set i (.own (xs ++ [d])))) else stk : M Fl) g = _
  rw [if_pos l]
  exact bnd_ok he rfl
theorem w_frz {i : Nat} (h : env[i]? = some (.own xs)) (k : evSs Fn vk r (env.set i (.d (.list xs))) g = o) : evSs Fn vk (.frz i r) env g = o := by
  unfold evSs
  rw [h]
  exact k
theorem w_fr {it : Ix} (h : evI Fn vk it env g = .ok ds g1) (k : evFr tg (fun e => evSs Fn vk r e) ds env g1 = o) : evS Fn vk (.fr tg it r) env g = o := by
  unfold evS
  exact bnd_ok h k
theorem i_enum (h : evE Fn vk e env g = .ok (.list ds) g1) : evI Fn vk (.enum e) env g = .ok (enumF ds) g1 := by
  unfold evI
  exact bnd_ok h rfl
theorem fr_nx {body : EnvD → M Fl} (ht : tgF tg d env = some e1) (hb : body e1 g = .ok (.nx env') g1) (k : evFr tg body ds env' g1 = o) : evFr tg body (d :: ds) env g = o := by
  unfold evFr
  rw [ht]
  exact bnd_ok hb k
theorem fr_xs {body : EnvD → M Fl} {l c : Int} (ht : tgF tg d env = some e1) (hb : body e1 g = .exn l c g1) : evFr tg body (d :: ds) env g = .exn l c g1 := by
  unfold evFr
  rw [ht]
  show (body e1 g).bnd _ = _
  rw [hb]
  rfl
theorem w_ifeX {t : Tx} {k : Bool} {r2 : Ss} {l c : Int} (ht : evT Fn vk t env g = .ok k g1) (h : (if k = true then evSs Fn vk r env else evSs Fn vk r2 env) g1 = .exn l c g2) : evS Fn vk (.ife t r r2) env g = .exn l c g2 := w_ife ht h
theorem w_frX {it : Ix} {l c : Int} (h : evI Fn vk it env g = .ok ds g1) (k : evFr tg (fun e => evSs Fn vk r e) ds env g1 = .exn l c g2) : evS Fn vk (.fr tg it r) env g = .exn l c g2 := w_fr h k
end
/-- the loop's target and body -/
def tg27 : Tg := .tup (.cons (.name 3) (.cons (.name 4) .nil))
def b27 : Ss := match ir27 with | .cons _ (.cons (.fr _ _ b) _) => b | _ => .nil
def e27 (t : Str) (xs : List PD) (rd : PD) (s3 s4 s5 : Sl) : EnvD := [.d (.str t), .own xs, .d rd, s3, s4, s5]
def enumN (i : Nat) (ds : List PD) : List PD := (ds.zipIdx i).map fun p => .tuple [.int (p.2 : Nat), p.1]
/-- what is told of a line -/
def Told (m : Nat) (l : Str) (s r : PD) : Prop := ∀ g, sem m 24 [.str l] g = .ok s g ∧ sem m 26 [.str l] g = .ok r g
section
variable {m : Nat} {t l : Str} {xs ds : List PD} {s r : PD} {s3 s4 s5 : Sl} {i : Nat} {g : List PD} {o : Out Fl}
theorem enumN_cons (i : Nat) (d : PD) (ds : List PD) : enumN i (d :: ds) = .tuple [.int (i : Nat), d] :: enumN (i + 1) ds := by
  unfold enumN
  rw [List.zipIdx_cons, List.map_cons]
/-- the body's start: no round yet, the line is looked at -/
theorem b27_go (hd : Told m l s r) (k : evSs (sem m) vkL (match b27 with | .cons _ (.cons _ r) => r | _ => .nil) [.d (.str t), .own xs, .d r, .d (.int (i : Nat)), .d (.str l), .d s] g = o) :
    evSs (sem m) vkL b27 [.d (.str t), .own xs, .d .none, .d (.int (i : Nat)), .d (.str l), s5] g = o := by
  refine w_nx (w_ife (u_val (v_op2 (v_var rfl) v_lit (ntN_is .none))) (ifF.trans w_nil)) ?_
  refine w_nx (w_par (v_call (v_cons (v_var rfl) v_nil) (hd g).1) (v_call (v_cons (v_var rfl) v_nil) (hd g).2) rfl rfl ⟨by show 5 < 6; decide, by show 2 < 6; decide, by decide⟩) k
/-- a stretch's line -/
theorem step_s (hd : Told m l s .none) (hs : isNo s = false) (hx : xs.length < 1000000) (k : evFr tg27 (fun e => evSs (sem m) vkL b27 e) (enumN (i + 1) ds) (e27 t (xs ++ [s]) .none (.d (.int (i : Nat))) (.d (.str l)) (.d s)) g = o) :
    evFr tg27 (fun e => evSs (sem m) vkL b27 e) (enumN i (.str l :: ds)) (e27 t xs .none s3 s4 s5) g = o := by
  rw [enumN_cons]
  refine fr_nx (e1 := [.d (.str t), .own xs, .d .none, .d (.int (i : Nat)), .d (.str l), s5]) rfl (b27_go hd ?_) k
  refine w_nx (w_ife (k := false) (u_and (u_val (v_op2 (v_var rfl) v_lit (isN_is s))) (by rw [hs]; exact ifF)) (ifF.trans w_nil)) ?_
  refine w_nx (w_ife (k := true) (u_val (v_op2 (v_var rfl) v_lit ((ntN_is s).trans (by rw [hs]; rfl)))) (ifT.trans (w_nx (w_app rfl hx (v_var rfl)) w_nil))) w_nil
/-- a round's line -/
theorem step_r (hd : Told m l .none r) (hr : isNo r = false) (k : evFr tg27 (fun e => evSs (sem m) vkL b27 e) (enumN (i + 1) ds) (e27 t xs r (.d (.int (i : Nat))) (.d (.str l)) (.d .none)) g = o) :
    evFr tg27 (fun e => evSs (sem m) vkL b27 e) (enumN i (.str l :: ds)) (e27 t xs .none s3 s4 s5) g = o := by
  rw [enumN_cons]
  refine fr_nx (e1 := [.d (.str t), .own xs, .d .none, .d (.int (i : Nat)), .d (.str l), s5]) rfl (b27_go hd ?_) k
  refine w_nx (w_ife (k := false) (u_and (u_val (v_op2 (v_var rfl) v_lit (isN_is .none))) (ifT.trans (u_val (v_op2 (v_var rfl) v_lit ((isN_is r).trans (by rw [hr])))))) (ifF.trans w_nil)) ?_
  exact w_nx (w_ife (k := false) (u_val (v_op2 (v_var rfl) v_lit (ntN_is .none))) (ifF.trans w_nil)) w_nil
/-- a line that is neither -/
theorem step_n (hd : Told m l .none .none) : evFr tg27 (fun e => evSs (sem m) vkL b27 e) (enumN i (.str l :: ds)) (e27 t xs .none s3 s4 s5) g = .exn ((i : Nat) + 1) 1 g := by
  rw [enumN_cons]
  refine fr_xs (e1 := [.d (.str t), .own xs, .d .none, .d (.int (i : Nat)), .d (.str l), s5]) rfl (b27_go hd ?_)
  exact w_xs (w_ifeX (k := true) (u_and (u_val (v_op2 (v_var rfl) v_lit (isN_is .none))) (ifT.trans (u_val (v_op2 (v_var rfl) v_lit (isN_is .none))))) (ifT.trans (w_xs (w_rse (v_op2 (v_var rfl) v_lit rfl) v_lit))))
/-- a line behind the round -/
theorem step_b (hr : isNo r = false) : evFr tg27 (fun e => evSs (sem m) vkL b27 e) (enumN i (.str l :: ds)) (e27 t xs r s3 s4 s5) g = .exn ((i : Nat) + 1) 1 g := by
  rw [enumN_cons]
  refine fr_xs (e1 := [.d (.str t), .own xs, .d r, .d (.int (i : Nat)), .d (.str l), s5]) rfl ?_
  exact w_xs (w_ifeX (k := true) (u_val (v_op2 (v_var rfl) v_lit ((ntN_is r).trans (by rw [hr]; rfl)))) (ifT.trans (w_xs (w_rse (v_op2 (v_var rfl) v_lit rfl) v_lit))))
end
end G

/-! A span's text read as a whole. -/
namespace G
open PySem PySem.Spec PyProof.Rows L2
section
variable {m : Nat} {t : Str} {ds : List PD} {g : List PD} {o : Out Fl}
theorem runS : ∀ (L : List (Str × PD)) (i : Nat) (xs : List PD) (s3 s4 s5 : Sl), (∀ p ∈ L, Told m p.1 p.2 .none ∧ isNo p.2 = false) → xs.length + L.length < 1000000 →
    ∃ q3 q4 q5, evFr tg27 (fun e => evSs (sem m) vkL b27 e) (enumN i (L.map (fun p => .str p.1) ++ ds)) (e27 t xs .none s3 s4 s5) g = evFr tg27 (fun e => evSs (sem m) vkL b27 e) (enumN (i + L.length) ds) (e27 t (xs ++ L.map (·.2)) .none q3 q4 q5) g
  | [], i, xs, s3, s4, s5, _, _ => ⟨s3, s4, s5, by rw [List.map_nil, List.map_nil, List.append_nil]; rfl⟩
  | p :: L, i, xs, s3, s4, s5, hL, hx => by
    rw [List.length_cons] at hx
    obtain ⟨h1, h2⟩ := hL p List.mem_cons_self
    obtain ⟨q3, q4, q5, e⟩ := runS L (i + 1) (xs ++ [p.2]) (.d (.int (i : Nat))) (.d (.str p.1)) (.d p.2) (fun q hq => hL q (List.mem_cons_of_mem _ hq)) (by rw [List.length_append]; show xs.length + 1 + L.length < 1000000; omega)
    refine ⟨q3, q4, q5, (step_s h1 h2 (by omega) e).trans ?_⟩
    rw [List.length_cons, show i + (L.length + 1) = i + 1 + L.length by omega, List.map_cons, List.append_assoc]
    rfl
theorem ne_empty {t : Str} (h : shp (.str t) = true) (hn : 0 < t.length) : opF .neD (.str t) (.str ⟨#[]⟩) = some (.bool true) := by
  have e : PyData.eqv (.str t) (.str ⟨#[]⟩) = false := by
    rw [PyData.eqv]
    refine beq_false_of_ne fun z => ?_
    rw [z] at hn
    exact absurd hn (by decide)
  show (if shp (.str t) = true ∧ shp (.str ⟨#[]⟩) = true then some (PyData.bool (!PyData.eqv (.str t) (.str ⟨#[]⟩))) else none) = _
  rw [if_pos ⟨h, by decide +kernel⟩, e]
  rfl
theorem split_F {t : Str} (hl : t.length + 2 ≤ sizeLine) : splitF (.str t) (.str nl) = some (.list ((Txt.split t nl).map PyData.str)) := if_pos ⟨by decide, hl⟩
theorem span_V {ls : List Str} (hs : Txt.split t nl = ls) (ht : shp (.str t) = true) (hn : 0 < t.length) (hl : t.length + 2 ≤ sizeLine) {xs : List PD} {rd : PD} {s3 s4 s5 : Sl}
    (k : evFr tg27 (fun e => evSs (sem m) vkL b27 e) (enumN 0 (ls.map PyData.str)) (e27 t [] .none .no .no .no) g = .ok (.nx (e27 t xs rd s3 s4 s5)) g) : sem (m + 1) 27 [.str t] g = .ok (.tuple [.tuple xs, rd]) g := by
  rw [sem_stp]
  refine w_F (n := 6) (b := ir27) (w_nx (w_par (v_lst v_nil (by decide)) v_lit rfl rfl ⟨by show 1 < 6; decide, by show 2 < 6; decide, by decide⟩) ?_)
  refine w_nx (w_fr (ds := enumN 0 (ls.map PyData.str)) (i_enum (v_ite (u_val (v_op2 (v_var rfl) v_lit (ne_empty ht hn))) (ifT.trans (v_split (v_var rfl) v_lit ((split_F hl).trans (by rw [hs])))))) k) ?_
  exact w_frz rfl (w_rt (w_ret (v_tup (v_cons (v_blt (v_var rfl) rfl) (v_cons (v_var rfl) v_nil)) (by show 2 ≤ 1000; decide))))
theorem span_X {ls : List Str} (hs : Txt.split t nl = ls) (ht : shp (.str t) = true) (hn : 0 < t.length) (hl : t.length + 2 ≤ sizeLine) {l c : Int}
    (k : evFr tg27 (fun e => evSs (sem m) vkL b27 e) (enumN 0 (ls.map PyData.str)) (e27 t [] .none .no .no .no) g = .exn l c g) : sem (m + 1) 27 [.str t] g = .exn l c g := by
  rw [sem_stp]
  refine w_Fx (n := 6) (b := ir27) (w_nx (w_par (v_lst v_nil (by decide)) v_lit rfl rfl ⟨by show 1 < 6; decide, by show 2 < 6; decide, by decide⟩) ?_)
  exact w_xs (w_frX (ds := enumN 0 (ls.map PyData.str)) (i_enum (v_ite (u_val (v_op2 (v_var rfl) v_lit (ne_empty ht hn))) (ifT.trans (v_split (v_var rfl) v_lit ((split_F hl).trans (by rw [hs])))))) k)
/-! ### what read_span says of a text of lines -/
/-- a text of lines, none with a newline -/
structure Lns (ls : List Str) (t : Str) : Prop where
  ne : ls ≠ []
  is : t = Txt.join nl ls
  no : ∀ l ∈ ls, 10 ∉ TL.tl l
  sh : shp (.str t) = true
  pos : 0 < t.length
  fit : t.length + 2 ≤ sizeLine
theorem Lns.split {ls : List Str} (h : Lns ls t) : Txt.split t nl = ls := by rw [h.is]; exact split_lines h.ne h.no
theorem map_str (L : List (Str × PD)) : (L.map (·.1)).map PyData.str = L.map fun p => .str p.1 := by rw [List.map_map]; rfl
theorem run0 {L : List (Str × PD)} (hL : ∀ p ∈ L, Told m p.1 p.2 .none ∧ isNo p.2 = false) (hx : L.length < 1000) (rest : List Str) :
    ∃ q3 q4 q5, evFr tg27 (fun e => evSs (sem m) vkL b27 e) (enumN 0 ((L.map (·.1) ++ rest).map PyData.str)) (e27 t [] .none .no .no .no) g = evFr tg27 (fun e => evSs (sem m) vkL b27 e) (enumN L.length (rest.map PyData.str)) (e27 t (L.map (·.2)) .none q3 q4 q5) g := by
  obtain ⟨q3, q4, q5, e⟩ := runS (m := m) (t := t) (g := g) (ds := rest.map PyData.str) L 0 [] .no .no .no hL (by show 0 + L.length < 1000000; omega)
  refine ⟨q3, q4, q5, ?_⟩
  rw [List.map_append, map_str, e, Nat.zero_add, List.nil_append]
/-- stretches alone -/
theorem span_s {L : List (Str × PD)} (h : Lns (L.map (·.1)) t) (hL : ∀ p ∈ L, Told m p.1 p.2 .none ∧ isNo p.2 = false) (hx : L.length < 1000) : sem (m + 1) 27 [.str t] g = .ok (.tuple [.tuple (L.map (·.2)), .none]) g := by
  obtain ⟨q3, q4, q5, e⟩ := run0 (t := t) (g := g) hL hx []
  rw [List.append_nil] at e
  exact span_V h.split h.sh h.pos h.fit e
/-- stretches and a round -/
theorem span_r {L : List (Str × PD)} {lr : Str} {r : PD} (h : Lns (L.map (·.1) ++ [lr]) t) (hL : ∀ p ∈ L, Told m p.1 p.2 .none ∧ isNo p.2 = false) (hx : L.length < 1000) (hr : Told m lr .none r) (hn : isNo r = false) : sem (m + 1) 27 [.str t] g = .ok (.tuple [.tuple (L.map (·.2)), r]) g := by
  obtain ⟨q3, q4, q5, e⟩ := run0 (t := t) (g := g) hL hx [lr]
  exact span_V h.split h.sh h.pos h.fit (e.trans (step_r hr hn rfl))
/-- a bad line behind stretches -/
theorem span_n {L : List (Str × PD)} {lb : Str} {rest : List Str} (h : Lns (L.map (·.1) ++ lb :: rest) t) (hL : ∀ p ∈ L, Told m p.1 p.2 .none ∧ isNo p.2 = false) (hx : L.length < 1000) (hb : Told m lb .none .none) : sem (m + 1) 27 [.str t] g = .exn ((L.length : Nat) + 1) 1 g := by
  obtain ⟨q3, q4, q5, e⟩ := run0 (t := t) (g := g) hL hx (lb :: rest)
  exact span_X h.split h.sh h.pos h.fit (e.trans (step_n hb))
/-- a line behind the round -/
theorem span_b {L : List (Str × PD)} {lr lb : Str} {r : PD} {rest : List Str} (h : Lns (L.map (·.1) ++ lr :: lb :: rest) t) (hL : ∀ p ∈ L, Told m p.1 p.2 .none ∧ isNo p.2 = false) (hx : L.length < 1000) (hr : Told m lr .none r) (hn : isNo r = false) :
    sem (m + 1) 27 [.str t] g = .exn ((L.length + 1 : Nat) + 1) 1 g := by
  obtain ⟨q3, q4, q5, e⟩ := run0 (t := t) (g := g) hL hx (lr :: lb :: rest)
  exact span_X h.split h.sh h.pos h.fit (e.trans (step_r hr hn (step_b hn)))
end
end G

/-! A stretch's line. -/
namespace G
open PySem PySem.Spec PyProof.Rows L2
theorem addS_ok {x y : Str} (h : x.length + y.length ≤ sizeLine) : opF .addS (.str x) (.str y) = some (.str (x ++ y)) := if_pos h
theorem mom_len : momT.all (fun p => decide (p.2.length ≤ 30)) = true := by decide +kernel
theorem byD_len {d : PD} {t : Str} (h : byD d = some t) : t.length ≤ 30 := of_decide_eq_true (List.all_eq_true.mp mom_len _ (byD_mem h))
theorem told11 {d : PD} {t : Str} (h : byD d = some t) {m : Nat} (hm : 8 ≤ m) (g : List PD) : sem m 11 [d] g = .ok (.str t) g := tbM 11 [d] (.str t) (by show (byD d).map PyData.str = _; rw [h]; rfl) m hm g
theorem told39 {d : PD} {t : Str} (h : byD d = some t) {m : Nat} (hm : 8 ≤ m) (g : List PD) : sem m 39 [d] g = .ok (.str t) g := tbM 39 [d] (.str t) (by show (byD d).map PyData.str = _; rw [h]; rfl) m hm g
def begT (li : Int) : Str := if li = 1 then ⟨#[91]⟩ else ⟨#[40]⟩
def endT (h : Int) : Str := if h = 1 then ⟨#[93]⟩ else ⟨#[41]⟩
def midT : PD → Str | .none => ⟨#[110, 111, 110, 101]⟩ | d => txtM d
/-- a stretch of told moments -/
structure StOk (lo hi : PD) (li h : Int) : Prop where
  lo : ∃ t, byD lo = some t
  hi : hi = .none ∨ ∃ t, byD hi = some t
  li : li = 0 ∨ li = 1
  h : h = 0 ∨ h = 1
theorem lineT_is {lo hi : PD} {li h : Int} : lineT (.tuple [lo, .int li, hi, .int h]) = begT li ++ txtM lo ++ ⟨#[44, 32]⟩ ++ midT hi ++ endT h := by
  cases hi <;> rfl
theorem byD_none : byD .none = none := by decide +kernel
section
variable {lo hi : PD} {li h : Int} {m : Nat} {g : List PD}
theorem StOk.lens (S : StOk lo hi li h) : (begT li).length = 1 ∧ (txtM lo).length ≤ 30 ∧ (midT hi).length ≤ 30 ∧ (endT h).length = 1 := by
  obtain ⟨⟨t, e⟩, hh, l1, l2⟩ := S
  refine ⟨by rcases l1 with rfl | rfl <;> rfl, ?_, ?_, by rcases l2 with rfl | rfl <;> rfl⟩
  · unfold txtM
    rw [e]
    exact byD_len e
  · rcases hh with rfl | ⟨t2, e2⟩
    · show (4 : Nat) ≤ 30
      decide
    · have q : midT hi = txtM hi := by
        cases hi <;> first | rfl | (rw [byD_none] at e2; cases e2)
      rw [q]
      unfold txtM
      rw [e2]
      exact byD_len e2
theorem fitL {a b : Str} {n k : Nat} (ha : a.length ≤ n) (hb : b.length ≤ k) (h : n + k ≤ 100000) : a.length + b.length ≤ sizeLine := Nat.le_trans (Nat.add_le_add ha hb) (Nat.le_trans h (by decide))
theorem lenA {a b : Str} {n k : Nat} (ha : a.length ≤ n) (hb : b.length ≤ k) : (a ++ b).length ≤ n + k := by rw [strLen_append]; exact Nat.add_le_add ha hb
/-- what ends the interval's middle -/
theorem mid_ok (S : StOk lo hi li h) {f : Nat} (hf : ∀ (d : PD) (t : Str), byD d = some t → ∀ g, sem m f [d] g = .ok (.str t) g) {env : EnvD} (h3 : env[3]? = some (.d hi)) :
    evE (sem m) vkL (.ite (.val (.op2 .isN (.var 3) (.lit .none))) (.lit (.str ⟨#[110, 111, 110, 101]⟩)) (.call f (.cons (.var 3) .nil))) env g = .ok (.str (midT hi)) g := by
  refine v_ite (u_val (v_op2 (v_var h3) v_lit (isN_is hi))) ?_
  rcases S.hi with rfl | ⟨t, e⟩
  · exact ifT
  · have n : isNo hi = false := by
      cases hi <;> first | rfl | (rw [byD_none] at e; cases e)
    have q : midT hi = t := by
      cases hi <;> first | (show txtM _ = t; unfold txtM; rw [e]; rfl) | (rw [byD_none] at e; cases e)
    rw [n, q]
    exact ifF.trans (v_call (v_cons (v_var h3) v_nil) (hf hi t e g))
/-- _law_line -/
theorem line42 (S : StOk lo hi li h) (hm : 8 ≤ m) : sem (m + 1) 42 [.tuple [lo, .int li, hi, .int h]] g = .ok (.str (lineT (.tuple [lo, .int li, hi, .int h]))) g := by
  rw [sem_stp, lineT_is]
  obtain ⟨l1, l2, l3, l4⟩ := S.lens
  have S' := S
  obtain ⟨⟨t, e⟩, hh, i1, i2⟩ := S
  have et : txtM lo = t := by unfold txtM; rw [e]; rfl
  have q1 : opF .ixS (.str ⟨#[40, 91]⟩) (.int li) = some (.str (begT li)) := by rcases i1 with rfl | rfl <;> rfl
  have q2 : opF .ixS (.str ⟨#[41, 93]⟩) (.int h) = some (.str (endT h)) := by rcases i2 with rfl | rfl <;> rfl
  rw [et] at l2 ⊢
  have c2 : (⟨#[44, 32]⟩ : Str).length ≤ 2 := Nat.le_refl _
  refine w_F (n := 6) (b := ir42) (w_nx (w_asg (v_var rfl) rfl) (w_nx (w_set (mid_ok S' (fun d t e g => told39 e hm g) rfl)) (w_rt (w_ret ?_))))
  refine v_op2 (v_op2 (v_op2 (v_op2 (v_op2 v_lit (v_var rfl) q1) (v_call (v_cons (v_var rfl) v_nil) (told39 e hm g)) (addS_ok (fitL (Nat.le_of_eq l1) l2 (by decide)))) v_lit (addS_ok (fitL (lenA (Nat.le_of_eq l1) l2) c2 (by decide)))) (v_var rfl) (addS_ok (fitL (lenA (lenA (Nat.le_of_eq l1) l2) c2) l3 (by decide)))) (v_op2 v_lit (v_var rfl) q2) (addS_ok (fitL (lenA (lenA (lenA (Nat.le_of_eq l1) l2) c2) l3) (Nat.le_of_eq l4) (by decide)))
/-- stretch_text -/
theorem text18 (S : StOk lo hi li h) (hm : 8 ≤ m) : sem (m + 1) 18 [.tuple [lo, .int li, hi, .int h]] g = .ok (.str (lineT (.tuple [lo, .int li, hi, .int h]))) g := by
  rw [sem_stp, lineT_is]
  obtain ⟨l1, l2, l3, l4⟩ := S.lens
  have S' := S
  obtain ⟨⟨t, e⟩, hh, i1, i2⟩ := S
  have et : txtM lo = t := by unfold txtM; rw [e]; rfl
  rw [et] at l2 ⊢
  have c2 : (⟨#[44, 32]⟩ : Str).length ≤ 2 := Nat.le_refl _
  have b1 : ∀ env : EnvD, env[2]? = some (.d (.int li)) → evE (sem m) vkL (.ite (.val (.op2 .eqD (.var 2) (.lit (.int 1)))) (.lit (.str ⟨#[91]⟩)) (.lit (.str ⟨#[40]⟩))) env g = .ok (.str (begT li)) g := fun env h2 => by
    refine v_ite (u_val (v_op2 (v_var h2) v_lit (eqI li 1))) ?_
    rcases i1 with rfl | rfl <;> rfl
  have b2 : ∀ env : EnvD, env[4]? = some (.d (.int h)) → evE (sem m) vkL (.ite (.val (.op2 .eqD (.var 4) (.lit (.int 1)))) (.lit (.str ⟨#[93]⟩)) (.lit (.str ⟨#[41]⟩))) env g = .ok (.str (endT h)) g := fun env h4 => by
    refine v_ite (u_val (v_op2 (v_var h4) v_lit (eqI h 1))) ?_
    rcases i2 with rfl | rfl <;> rfl
  refine w_F (n := 6) (b := ir18) (w_nx (w_asg (v_var rfl) rfl) (w_nx (w_set (v_op2 (b1 _ rfl) (v_call (v_cons (v_var rfl) v_nil) (told11 e hm g)) (addS_ok (fitL (Nat.le_of_eq l1) l2 (by decide))))) (w_rt (w_ret ?_))))
  exact v_op2 (v_op2 (v_op2 (v_var rfl) v_lit (addS_ok (fitL (lenA (Nat.le_of_eq l1) l2) c2 (by decide)))) (mid_ok S' (fun d t e g => told11 e hm g) rfl) (addS_ok (fitL (lenA (lenA (Nat.le_of_eq l1) l2) c2) l3 (by decide)))) (b2 _ rfl) (addS_ok (fitL (lenA (lenA (lenA (Nat.le_of_eq l1) l2) c2) l3) (Nat.le_of_eq l4) (by decide)))
end
end G

/-! Drawn moments and stretches. -/
namespace G
open PySem PySem.Spec PyProof.Rows L2
/-- _law_some -/
theorem some_ok {m : Nat} {xs : List PD} (h0 : xs ≠ []) (hl : xs.length < 1000) {g : List PD} (h : Bg g) : ∃ x g', sem (m + 2) 32 [dBag, .list xs] g = .ok x g' ∧ x ∈ xs ∧ Bg g' := by
  have pos : 0 < xs.length := List.length_pos_iff.mpr h0
  obtain ⟨r, g', e, r1, r2, B⟩ := take_ok (n := m) (m := ((xs.length : Nat) : Int)) (by omega) (by omega) h
  obtain ⟨j, rfl⟩ : ∃ j : Nat, r = (j : Int) := ⟨r.toNat, by omega⟩
  have hj : j < xs.length := by omega
  refine ⟨xs[j], g', ?_, List.getElem_mem hj, B⟩
  rw [sem_stp]
  refine w_F (n := 2) (b := ir32) (w_rt (w_ret (v_op2 (v_var rfl) (v_call (v_cons (v_var rfl) (v_cons (v_blt (v_var rfl) rfl) v_nil)) e) ?_)))
  exact atI_nat (List.getElem?_eq_getElem hj)
/-- _law_moment -/
theorem moment_ok {m k : Nat} {g : List PD} (h : Bg g) : ∃ x g', sem (m + 3) 40 [dBag, .int (k : Nat)] g = .ok x g' ∧ x ∈ momsAt k ∧ Bg g' := by
  obtain ⟨x, g', e, hx, B⟩ := some_ok (m := m) (xs := [fr k 1, fr (2 * k + 1) 2, root1, root2, fr k 1]) (by simp) (by show 5 < 1000; decide) h
  refine ⟨x, g', ?_, ?_, B⟩
  · rw [sem_stp]
    refine w_F (n := 3) (b := ir40) (w_nx (env' := [.d dBag, .d (.int (k : Nat)), .d (.tuple [fr (-2) 1, fr 0 1, fr 1 1])]) (g1 := g) rfl (w_rt (w_ret (v_call (ds := [dBag, .list [fr k 1, fr (2 * k + 1) 2, root1, root2, fr k 1]]) (g1 := g) (v_cons (v_var rfl) (v_cons (v_lst ?_ (by show 5 ≤ 1000; decide)) v_nil)) e))))
    have tw : ∀ {a b : Ex} {x y : PD} {env : EnvD}, evE (sem (m + 2)) vkL a env g = .ok x g → evE (sem (m + 2)) vkL b env g = .ok y g → evE (sem (m + 2)) vkL (.tup (.cons a (.cons b .nil))) env g = .ok (.tuple [x, y]) g := fun ha hb => v_tup (v_cons ha (v_cons hb v_nil)) (by show 2 ≤ 1000; decide)
    refine v_cons (tw (v_var rfl) v_lit) (v_cons (tw (v_op2 (v_op2 v_lit (v_var rfl) (mulI_ok ⟨by decide, by decide⟩)) v_lit rfl) v_lit) (v_cons rfl (v_cons rfl (v_cons (tw (v_var rfl) v_lit) v_nil))))
  · simp only [List.mem_cons, List.not_mem_nil, or_false] at hx
    unfold momsAt
    rcases hx with rfl | rfl | rfl | rfl | rfl <;> simp
/-- _law_one -/
theorem one_st {m k : Nat} {g : List PD} (h : Bg g) : ∃ s g', sem (m + 4) 41 [dBag, .int (k : Nat)] g = .ok s g' ∧ s ∈ stsAt k ∧ Bg g' := by
  obtain ⟨x1, g1, e1, h1, b1⟩ := moment_ok (m := m) (k := k + 1) h
  obtain ⟨x2, g2, e2, h2, b2⟩ := moment_ok (m := m) (k := k) b1
  obtain ⟨hi, g3, e3, h3, b3⟩ := some_ok (m := m + 1) (xs := [.none, x1, x2]) (by simp) (by show 3 < 1000; decide) b2
  obtain ⟨lo, g4, e4, h4, b4⟩ := moment_ok (m := m) (k := k) b3
  obtain ⟨li, g5, e5, i1, i2, b5⟩ := take_ok (n := m + 2) (m := 2) (by decide) (by decide) b4
  have set1 : evS (sem (m + 3)) vkL (match ir41 with | .cons s _ => s | _ => .retN) [.d dBag, .d (.int (k : Nat)), .no] g = .ok (.nx [.d dBag, .d (.int (k : Nat)), .d hi]) g3 := by
    refine w_set (v_call (v_cons (v_var rfl) (v_cons (v_lst (v_cons v_lit (v_cons (v_call (v_cons (v_var rfl) (v_cons (v_op2 (v_var rfl) v_lit rfl) v_nil)) e1) (v_cons (v_call (v_cons (v_var rfl) (v_cons (v_var rfl) v_nil)) e2) v_nil))) (by show 3 ≤ 1000; decide)) v_nil)) e3)
  have li01 : li = 0 ∨ li = 1 := by omega
  have memHi : hi ≠ .none → hi ∈ (momsAt (k + 1)).take 2 ++ momsAt k := fun n => by
    simp only [List.mem_cons, List.not_mem_nil, or_false] at h3
    rcases h3 with rfl | rfl | rfl
    · exact absurd rfl n
    · unfold momsAt at h1 ⊢
      simp only [List.mem_cons, List.not_mem_nil, or_false] at h1
      rcases h1 with rfl | rfl | rfl | rfl <;> simp
    · exact List.mem_append_right _ h2
  have isN1 : isNo hi = true → hi = .none := fun n => by cases hi <;> first | rfl | cases n
  by_cases n : isNo hi = true
  · have hn := isN1 n
    subst hn
    refine ⟨.tuple [lo, .int li, .none, .int 0], g5, ?_, ?_, b5⟩
    · rw [sem_stp]
      refine w_F (n := 3) (b := ir41) (w_nx set1 (w_rt (w_ret (v_tup (v_cons (v_call (v_cons (v_var rfl) (v_cons (v_var rfl) v_nil)) e4) (v_cons (v_call (v_cons (v_var rfl) (v_cons v_lit v_nil)) e5) (v_cons (v_var rfl) (v_cons (v_ite (u_val (v_op2 (v_var rfl) v_lit (isN_is _))) ifT) v_nil)))) (by show 4 ≤ 1000; decide)))))
    · unfold stsAt
      refine List.mem_flatMap.mpr ⟨lo, h4, List.mem_flatMap.mpr ⟨li, by rcases li01 with rfl | rfl <;> simp, List.mem_cons_self⟩⟩
  · obtain ⟨hv, g6, e6, j1, j2, b6⟩ := take_ok (n := m + 2) (m := 2) (by decide) (by decide) b5
    have hv01 : hv = 0 ∨ hv = 1 := by omega
    have n' : isNo hi = false := by simpa using n
    refine ⟨.tuple [lo, .int li, hi, .int hv], g6, ?_, ?_, b6⟩
    · rw [sem_stp]
      refine w_F (n := 3) (b := ir41) (w_nx set1 (w_rt (w_ret (v_tup (v_cons (v_call (v_cons (v_var rfl) (v_cons (v_var rfl) v_nil)) e4) (v_cons (v_call (v_cons (v_var rfl) (v_cons v_lit v_nil)) e5) (v_cons (v_var rfl) (v_cons (v_ite (u_val (v_op2 (v_var rfl) v_lit (isN_is _))) ?_) v_nil)))) (by show 4 ≤ 1000; decide)))))
      rw [n']
      exact ifF.trans (v_call (v_cons (v_var rfl) (v_cons v_lit v_nil)) e6)
    · unfold stsAt
      refine List.mem_flatMap.mpr ⟨lo, h4, List.mem_flatMap.mpr ⟨li, by rcases li01 with rfl | rfl <;> simp, List.mem_cons_of_mem _ (List.mem_flatMap.mpr ⟨hi, memHi (fun z => by (subst z; cases n')), List.mem_map.mpr ⟨hv, (by rcases hv01 with rfl | rfl <;> simp), rfl⟩⟩)⟩⟩
theorem moms_told : ∀ k : Nat, k < 4 → (momsAt k).all (fun d => (byD d).isSome) = true := by
  intro k hk
  match k, hk with
  | 0, _ => decide +kernel
  | 1, _ => decide +kernel
  | 2, _ => decide +kernel
  | 3, _ => decide +kernel
  | n + 4, h => omega
theorem mom_told {k : Nat} (hk : k < 4) {d : PD} (h : d ∈ momsAt k) : ∃ t, byD d = some t := Option.isSome_iff_exists.mp (List.all_eq_true.mp (moms_told k hk) d h)
/-- what is told of a drawn stretch -/
theorem st_mem {k : Nat} (hk : k < 3) {s : PD} (h : s ∈ stsAt k) : stOK s = true ∧ ∃ lo hi li h, s = .tuple [lo, .int li, hi, .int h] ∧ StOk lo hi li h := by
  refine ⟨?_, ?_⟩
  · match k, hk with
    | 0, _ => exact List.all_eq_true.mp st_0 s h
    | 1, _ => exact List.all_eq_true.mp st_1 s h
    | 2, _ => exact List.all_eq_true.mp st_2 s h
    | n + 3, h => omega
  · unfold stsAt at h
    obtain ⟨lo, h1, h⟩ := List.mem_flatMap.mp h
    obtain ⟨li, h2, h⟩ := List.mem_flatMap.mp h
    have l1 : li = 0 ∨ li = 1 := by simpa using h2
    have lo1 := mom_told (by omega) h1
    rcases List.mem_cons.mp h with rfl | h
    · exact ⟨lo, _, li, _, rfl, lo1, .inl rfl, l1, .inl rfl⟩
    · obtain ⟨hi, h3, h⟩ := List.mem_flatMap.mp h
      obtain ⟨hv, h4, rfl⟩ := List.mem_map.mp h
      refine ⟨lo, hi, li, hv, rfl, lo1, .inr ?_, l1, by simpa using h4⟩
      rcases List.mem_append.mp h3 with q | q
      · exact mom_told (k := k + 1) (by omega) (List.mem_of_mem_take q)
      · exact mom_told (k := k) (by omega) q
/-- all that the law asks of a stretch and its line -/
structure SL (m : Nat) (l : Str) (s : PD) : Prop where
  line : ∀ m', 9 ≤ m' → ∀ g, sem m' 42 [s] g = .ok (.str l) g
  text : ∀ m', 9 ≤ m' → ∀ g, sem m' 18 [s] g = .ok (.str l) g
  told : ∀ m', 12 ≤ m' → Told m' l s .none
  ok : lineOk l = true
  sh : showOk (.list [.str l, s]) = true
  no : isNo s = false
theorem sl_of {k m : Nat} (hk : k < 3) {s : PD} (h : s ∈ stsAt k) : SL m (lineT s) s := by
  obtain ⟨h1, lo, hi, li, hv, rfl, S⟩ := st_mem hk h
  unfold stOK at h1
  simp only [Bool.and_eq_true] at h1
  refine ⟨fun m' hm g => ?_, fun m' hm g => ?_, fun m' hm g => ⟨told tbM h1.1 (by omega) g, told tbM h1.2.1 (by omega) g⟩, h1.2.2.1, h1.2.2.2, rfl⟩
  · obtain ⟨q, rfl⟩ : ∃ q, m' = q + 1 := ⟨m' - 1, by omega⟩
    exact line42 S (by omega)
  · obtain ⟨q, rfl⟩ : ∃ q, m' = q + 1 := ⟨m' - 1, by omega⟩
    exact text18 S (by omega)
end G

/-! Comprehensions; rounds; bad lines. -/
namespace G
open PySem PySem.Spec PyProof.Rows L2
section
variable {Fn : Nat → List PD → M PD} {vk : List Nat} {env env' : EnvD} {g g1 g2 : List PD} {e : Ex} {ds ys : List PD} {tg : Tg} {it : Ix} {own : List Nat}
/-- one turn of a comprehension -/
def lcF (Fn : Nat → List PD → M PD) (vk : List Nat) (elt : Ex) (tg : Tg) (own : List Nat) (env : EnvD) : PD → M PD := fun d => match tgF tg d (wipeD env own) with | some env' => noX (evE Fn vk elt env') | none => stk
theorem v_lc (hi : evI Fn vk it env g = .ok ds g1) (hl : ds.length ≤ 1000000) (ht : tgIn tg own = true) (hm : mapM' (lcF Fn vk e tg own env) ds g1 = .ok ys g2) : evE Fn vk (.lc e tg it own) env g = .ok (.list ys) g2 := by
  unfold evE
  refine bnd_ok hi ?_
  show (if ds.length ≤ 1000000 ∧ tgIn tg own = true then bnd (mapM' (lcF Fn vk e tg own env) ds) fun ys => ret (PyData.list ys) else stk) g1 = _
  rw [if_pos ⟨hl, ht⟩]
  exact bnd_ok hm rfl
theorem lcF_ok {d y : PD} (ht : tgF tg d (wipeD env own) = some env') (he : evE Fn vk e env' g = .ok y g1) : lcF Fn vk e tg own env d g = .ok y g1 := by
  unfold lcF
  rw [ht]
  show noX (evE Fn vk e env') g = _
  unfold noX
  rw [he]
theorem mm_pure {f : PD → M PD} {h : PD → PD} : ∀ (ds : List PD), (∀ d ∈ ds, ∀ g, f d g = .ok (h d) g) → ∀ g, mapM' f ds g = .ok (ds.map h) g
  | [], _, g => rfl
  | d :: ds, hd, g => by
    unfold mapM'
    exact bnd_ok (hd d List.mem_cons_self g) (bnd_ok (mm_pure ds (fun x hx => hd x (List.mem_cons_of_mem _ hx)) g) rfl)
/-- with draws: each turn gives one of a kind -/
theorem mm_bag {f : PD → M PD} {P : PD → PD → Prop} : ∀ (ds : List PD), (∀ d ∈ ds, ∀ g, Bg g → ∃ y g', f d g = .ok y g' ∧ P d y ∧ Bg g') → ∀ g, Bg g → ∃ ys g', mapM' f ds g = .ok ys g' ∧ ys.length = ds.length ∧ (∀ p ∈ ds.zip ys, P p.1 p.2) ∧ Bg g'
  | [], _, g, B => ⟨[], g, rfl, rfl, fun p h => by simp at h, B⟩
  | d :: ds, hd, g, B => by
    obtain ⟨y, g1, e1, p1, b1⟩ := hd d List.mem_cons_self g B
    obtain ⟨ys, g2, e2, l2, p2, b2⟩ := mm_bag ds (fun x hx => hd x (List.mem_cons_of_mem _ hx)) g1 b1
    refine ⟨y :: ys, g2, ?_, by rw [List.length_cons, List.length_cons, l2], fun p hp => ?_, b2⟩
    · unfold mapM'
      exact bnd_ok e1 (bnd_ok e2 rfl)
    · rw [List.zip_cons_cons] at hp
      rcases List.mem_cons.mp hp with rfl | hp
      · exact p1
      · exact p2 p hp
theorem i_list (h : evE Fn vk e env g = .ok (.list ds) g1) : evI Fn vk (.list e) env g = .ok ds g1 := by
  unfold evI
  exact bnd_ok h rfl
theorem i_tup (h : evE Fn vk e env g = .ok (.tuple ds) g1) : evI Fn vk (.tup e) env g = .ok ds g1 := by
  unfold evI
  exact bnd_ok h rfl
theorem i_range {n : Nat} (h : evE Fn vk e env g = .ok (.int (n : Nat)) g1) (hn : n < 1000000) : evI Fn vk (.range e) env g = .ok ((List.range n).map fun k => .int (k : Nat)) g1 := by
  unfold evI
  refine bnd_ok h ?_
  show (if -(2 ^ 62) ≤ ((n : Nat) : Int) ∧ ((n : Nat) : Int) < 2 ^ 62 then ret ((List.range ((n : Nat) : Int).toNat).map fun k => PyData.int (k : Nat)) else stk) g1 = _
  rw [if_pos ⟨by omega, by omega⟩, Int.toNat_natCast]
  rfl
theorem i_zip {a b : Ex} {xs ys : List PD} (ha : evE Fn vk a env g = .ok (.tuple xs) g1) (hb : evE Fn vk b env g1 = .ok (.list ys) g2) : evI Fn vk (.zip a b) env g = .ok (zipF xs ys) g2 := by
  unfold evI
  exact bnd_ok ha (bnd_ok hb rfl)
end
/-! ### rounds -/
def rndL : List (PD × Str) := [(.tuple [fr 0 1, fr 1 2], ⟨#[114, 111, 117, 110, 100, 32, 48, 32, 49, 47, 50]⟩), (.tuple [fr 0 1, fr 1 5], ⟨#[114, 111, 117, 110, 100, 32, 48, 32, 49, 47, 53]⟩), (.tuple [fr 0 1, fr 1 1], ⟨#[114, 111, 117, 110, 100, 32, 48, 32, 49]⟩), (.tuple [fr 0 1, fr 2 5], ⟨#[114, 111, 117, 110, 100, 32, 48, 32, 50, 47, 53]⟩), (.tuple [fr 0 1, fr 3 2], ⟨#[114, 111, 117, 110, 100, 32, 48, 32, 51, 47, 50]⟩), (.tuple [fr 0 1, fr 3 5], ⟨#[114, 111, 117, 110, 100, 32, 48, 32, 51, 47, 53]⟩), (.tuple [fr 1 1, fr 1 2], ⟨#[114, 111, 117, 110, 100, 32, 49, 32, 49, 47, 50]⟩), (.tuple [fr 1 1, fr 1 5], ⟨#[114, 111, 117, 110, 100, 32, 49, 32, 49, 47, 53]⟩), (.tuple [fr 1 1, fr 1 1], ⟨#[114, 111, 117, 110, 100, 32, 49, 32, 49]⟩), (.tuple [fr 1 1, fr 2 5], ⟨#[114, 111, 117, 110, 100, 32, 49, 32, 50, 47, 53]⟩), (.tuple [fr 1 1, fr 3 2], ⟨#[114, 111, 117, 110, 100, 32, 49, 32, 51, 47, 50]⟩), (.tuple [fr 1 1, fr 3 5], ⟨#[114, 111, 117, 110, 100, 32, 49, 32, 51, 47, 53]⟩), (.tuple [fr 2 1, fr 1 2], ⟨#[114, 111, 117, 110, 100, 32, 50, 32, 49, 47, 50]⟩), (.tuple [fr 2 1, fr 1 5], ⟨#[114, 111, 117, 110, 100, 32, 50, 32, 49, 47, 53]⟩), (.tuple [fr 2 1, fr 1 1], ⟨#[114, 111, 117, 110, 100, 32, 50, 32, 49]⟩), (.tuple [fr 2 1, fr 2 5], ⟨#[114, 111, 117, 110, 100, 32, 50, 32, 50, 47, 53]⟩), (.tuple [fr 2 1, fr 3 2], ⟨#[114, 111, 117, 110, 100, 32, 50, 32, 51, 47, 50]⟩), (.tuple [fr 2 1, fr 3 5], ⟨#[114, 111, 117, 110, 100, 32, 50, 32, 51, 47, 53]⟩), (.tuple [fr 3 1, fr 1 2], ⟨#[114, 111, 117, 110, 100, 32, 51, 32, 49, 47, 50]⟩), (.tuple [fr 3 1, fr 1 5], ⟨#[114, 111, 117, 110, 100, 32, 51, 32, 49, 47, 53]⟩), (.tuple [fr 3 1, fr 1 1], ⟨#[114, 111, 117, 110, 100, 32, 51, 32, 49]⟩), (.tuple [fr 3 1, fr 2 5], ⟨#[114, 111, 117, 110, 100, 32, 51, 32, 50, 47, 53]⟩), (.tuple [fr 3 1, fr 3 2], ⟨#[114, 111, 117, 110, 100, 32, 51, 32, 51, 47, 50]⟩), (.tuple [fr 3 1, fr 3 5], ⟨#[114, 111, 117, 110, 100, 32, 51, 32, 51, 47, 53]⟩), (.tuple [fr 4 1, fr 1 2], ⟨#[114, 111, 117, 110, 100, 32, 52, 32, 49, 47, 50]⟩), (.tuple [fr 4 1, fr 1 5], ⟨#[114, 111, 117, 110, 100, 32, 52, 32, 49, 47, 53]⟩), (.tuple [fr 4 1, fr 1 1], ⟨#[114, 111, 117, 110, 100, 32, 52, 32, 49]⟩), (.tuple [fr 4 1, fr 2 5], ⟨#[114, 111, 117, 110, 100, 32, 52, 32, 50, 47, 53]⟩), (.tuple [fr 4 1, fr 3 2], ⟨#[114, 111, 117, 110, 100, 32, 52, 32, 51, 47, 50]⟩), (.tuple [fr 4 1, fr 3 5], ⟨#[114, 111, 117, 110, 100, 32, 52, 32, 51, 47, 53]⟩)]
def rndOK (p : PD × Str) : Bool := match p.1 with
  | .tuple [x, y] => okD (purT tab0 6 24 [.str p.2] []) .none && (okD (purT tab0 6 26 [.str p.2] []) p.1 && (lineOk p.2 && (shp (.str p.2) &&
      ((match pur 3 37 [x] [], pur 3 37 [y] [] with | .ok (.str a) [], .ok (.str b) [] => okD (pur 3 10 [x] []) (.str a) && (okD (pur 3 10 [y] []) (.str b) && (p.2 == (⟨#[114, 111, 117, 110, 100, 32]⟩ : Str) ++ a ++ ⟨#[32]⟩ ++ b)) | _, _ => false)))))
  | _ => false
theorem rnd_all : rndL.all rndOK = true := by decide +kernel
/-! ### bad lines -/
def badL : List Str := [⟨#[91, 48, 44, 32, 49]⟩, ⟨#[123, 48, 44, 32, 49, 93]⟩, ⟨#[91, 48, 32, 44, 32, 49, 93]⟩, ⟨#[91, 48, 44, 32, 110, 111, 110, 101, 93]⟩, ⟨#[91, 50, 47, 52, 44, 32, 49, 93]⟩, ⟨#[40, 48, 44, 49, 41]⟩, ⟨#[114, 111, 117, 110, 100, 32, 49]⟩, ⟨#[114, 111, 117, 110, 100, 32, 48, 32, 50, 47, 52]⟩, ⟨#[32, 91, 48, 44, 32, 49, 93]⟩, ⟨#[91, 48, 44, 32, 49, 93, 32]⟩, ⟨#[91, 48, 49, 44, 32, 50, 93]⟩, ⟨#[91, 48, 44, 32, 49, 44, 32, 50, 93]⟩, ⟨#[91, 114, 111, 111, 116, 40, 45, 50, 32, 48, 44, 32, 49, 44, 32, 50, 41, 44, 32, 51, 93]⟩]
def badOK (l : Str) : Bool := okD (purT tab0 9 24 [.str l] []) .none && (okD (purT tab0 6 26 [.str l] []) .none && (lineOk l && shp (.str l)))
theorem bad_all : badL.all badOK = true := by decide +kernel
end G

/-! A span's text. -/
namespace G
open PySem PySem.Spec PyProof.Rows L2
section
variable {Fn : Nat → List PD → M PD} {vk : List Nat} {env env' : EnvD} {g g1 g2 : List PD} {e : Ex} {ds ys : List PD}
theorem w_setO {i : Nat} (h : evE Fn vk e env g = .ok (.list ds) g1) (hl : i < env.length) : evS Fn vk (.setO i e) env g = .ok (.nx (env.set i (.own ds))) g1 := by
  unfold evS
  refine bnd_ok h ?_
  show (if i < env.length then ret (Fl.nx (env.set i (.own ds))) else stk : M Fl) g1 = _
  rw [if_pos hl]
  rfl
end
theorem strsOf_map : ∀ ls : List Str, strsOf (ls.map PyData.str) = some ls
  | [] => rfl
  | l :: ls => by
    show (strsOf (ls.map PyData.str)).map (l :: ·) = _
    rw [strsOf_map ls]
    rfl
theorem v_join' {Fn : Nat → List PD → M PD} {vk : List Nat} {env : EnvD} {g g1 g2 : List PD} {a b : Ex} {y z : PD} {s : Str} (h : evE Fn vk a env g = .ok (.str s) g1) (hb : evE Fn vk b env g1 = .ok y g2) (hj : joinF (.str s) y = some z) : evE Fn vk (.join a b) env g = .ok z g2 := v_join (t := s) (l := []) h hb hj
def sumL (ls : List Str) : Nat := (ls.map fun (l : Str) => l.length).sum
theorem joinF_ok {y : Str} {ls : List Str} (h : sumL ls + ls.length * y.length ≤ 16777216) : joinF (.str y) (.list (ls.map PyData.str)) = some (.str (Txt.join y ls)) := by
  show (match strsOf (ls.map PyData.str) with | some ys => if (ys.map fun (l : Str) => l.length).sum + ys.length * y.length ≤ 16777216 then some (PyData.str (Txt.join y ys)) else none | none => none) = _
  rw [strsOf_map]
  exact if_pos h
def rWord : Str := ⟨#[114, 111, 117, 110, 100, 32]⟩
def rLine (a b : Str) : Str := rWord ++ a ++ ⟨#[32]⟩ ++ b
section
variable {m : Nat} {g : List PD} {L : List (Str × PD)}
theorem lines_ok (hL : ∀ p ∈ L, ∀ g, sem m 18 [p.2] g = .ok (.str p.1) g) (hx : L.length < 1000) {r : PD} : evE (sem m) vkL (.lc (.call 18 (.cons (.var 2) .nil)) (.name 2) (.tup (.op2 .ixT (.var 0) (.lit (.int 0)))) [2]) [.d (.tuple [.tuple (L.map (·.2)), r]), .no, .no] g = .ok (.list ((L.map (·.1)).map PyData.str)) g := by
  have key : ∀ (L : List (Str × PD)), (∀ p ∈ L, ∀ g, sem m 18 [p.2] g = .ok (.str p.1) g) → ∀ g, mapM' (lcF (sem m) vkL (.call 18 (.cons (.var 2) .nil)) (.name 2) [2] [.d (.tuple [.tuple (L.map (·.2)), r]), .no, .no]) (L.map (·.2)) g = .ok ((L.map (·.1)).map PyData.str) g := by
    intro L0 h0
    suffices h : ∀ (L : List (Str × PD)), (∀ p ∈ L, ∀ g, sem m 18 [p.2] g = .ok (.str p.1) g) → ∀ g, mapM' (lcF (sem m) vkL (.call 18 (.cons (.var 2) .nil)) (.name 2) [2] [.d (.tuple [.tuple (L0.map (·.2)), r]), .no, .no]) (L.map (·.2)) g = .ok ((L.map (·.1)).map PyData.str) g from h L0 h0
    intro L
    induction L with
    | nil => intro _ g; rfl
    | cons p L ih =>
      intro h g
      rw [List.map_cons, List.map_cons, List.map_cons]
      unfold mapM'
      exact bnd_ok (lcF_ok rfl (v_call (v_cons (v_var rfl) v_nil) (h p List.mem_cons_self g))) (bnd_ok (ih (fun q hq => h q (List.mem_cons_of_mem _ hq)) g) rfl)
  exact v_lc (i_tup (v_op2 (v_var rfl) v_lit (show opF .ixT _ _ = some (.tuple (L.map (·.2))) from atI_nat (j := 0) rfl))) (by rw [List.length_map]; omega) (by decide) (key L hL g)
/-- span_text without a round -/
theorem text19_n (hL : ∀ p ∈ L, ∀ g, sem m 18 [p.2] g = .ok (.str p.1) g) (hx : L.length < 1000) (hb : sumL (L.map (·.1)) + (L.map (·.1)).length * nl.length ≤ 16777216) :
    sem (m + 1) 19 [.tuple [.tuple (L.map (·.2)), .none]] g = .ok (.str (Txt.join nl (L.map (·.1)))) g := by
  rw [sem_stp]
  refine w_F (n := 3) (b := ir19) (w_nx (w_setO (lines_ok hL hx) (by show 1 < 3; decide)) (w_nx (w_ife (k := false) (u_val (v_op2 (v_op2 (v_var rfl) v_lit (atI_nat (j := 1) rfl)) v_lit (ntN_is .none))) (ifF.trans w_nil)) ?_))
  exact w_frz rfl (w_rt (w_ret (v_join' v_lit (v_var rfl) (joinF_ok hb))))
/-- span_text with a round -/
theorem text19_r {x y : PD} {a b : Str} (hL : ∀ p ∈ L, ∀ g, sem m 18 [p.2] g = .ok (.str p.1) g) (hx : L.length < 1000) (ha : ∀ g, sem m 10 [x] g = .ok (.str a) g) (hy : ∀ g, sem m 10 [y] g = .ok (.str b) g) (la : a.length ≤ 100) (lb : b.length ≤ 100)
    (hb : sumL (L.map (·.1) ++ [rLine a b]) + (L.map (·.1) ++ [rLine a b]).length * nl.length ≤ 16777216) :
    sem (m + 1) 19 [.tuple [.tuple (L.map (·.2)), .tuple [x, y]]] g = .ok (.str (Txt.join nl (L.map (·.1) ++ [rLine a b]))) g := by
  rw [sem_stp]
  have lr : rWord.length ≤ 6 := Nat.le_refl _
  have l1 : (⟨#[32]⟩ : Str).length ≤ 1 := Nat.le_refl _
  refine w_F (n := 3) (b := ir19) (w_nx (w_setO (lines_ok hL hx) (by show 1 < 3; decide)) (w_nx (w_ife (k := true) (u_val (v_op2 (v_op2 (v_var rfl) v_lit (atI_nat (j := 1) rfl)) v_lit (ntN_is (.tuple [x, y])))) (ifT.trans (w_nx (w_app (d := .str (rLine a b)) (g1 := g) rfl (by rw [List.length_map, List.length_map]; omega) ?_) w_nil))) ?_))
  · refine v_op2 (v_op2 (v_op2 v_lit (v_call (v_cons (v_op2 (v_op2 (v_var rfl) v_lit (atI_nat (j := 1) rfl)) v_lit (atI_nat (j := 0) rfl)) v_nil) (ha g)) (addS_ok (fitL lr la (by decide)))) v_lit (addS_ok (fitL (lenA lr la) l1 (by decide)))) (v_call (v_cons (v_op2 (v_op2 (v_var rfl) v_lit (atI_nat (j := 1) rfl)) v_lit (atI_nat (j := 1) rfl)) v_nil) (hy g)) (addS_ok (fitL (lenA (lenA lr la) l1) lb (by decide)))
  · refine w_frz rfl (w_rt (w_ret (v_join' v_lit (v_var rfl) ?_)))
    have e : (L.map (·.1)).map PyData.str ++ [PyData.str (rLine a b)] = (L.map (·.1) ++ [rLine a b]).map PyData.str := by rw [List.map_append]; rfl
    show joinF (.str nl) (.list ((L.map (·.1)).map PyData.str ++ [PyData.str (rLine a b)])) = _
    rw [e]
    exact joinF_ok hb
end
end G

/-! Alike, refused; loops that keep a word. -/
namespace G
open PySem PySem.Spec PyProof.Rows L2
mutual
theorem sameD_refl : ∀ d : PD, noD d = true → sameD d d = true
  | .none, _ => rfl
  | .bool b, _ => beq_self_eq_true b
  | .int i, _ => beq_self_eq_true i
  | .str x, _ => beq_self_eq_true x
  | .list ds, h => sameDs_refl ds h
  | .tuple ds, h => sameDs_refl ds h
  | .dict _, h => by cases h
theorem sameDs_refl : ∀ ds : List PD, noDs ds = true → sameDs ds ds = true
  | [], _ => rfl
  | d :: ds, h => by
    have q := Bool.and_eq_true_iff.mp (show (noD d && noDs ds) = true from h)
    show (sameD d d && sameDs ds ds) = true
    rw [sameD_refl d q.1, sameDs_refl ds q.2]
    rfl
end
theorem showOk_noD {a : PD} (h : showOk a = true) : noD a = true := by
  unfold showOk at h
  simp only [Bool.and_eq_true] at h
  have q := h.1
  unfold shp at q
  exact (Bool.and_eq_true_iff.mp q).1
theorem alike_eq {m : Nat} {a : List PD} (h : showOk (.list a) = true) (g : List PD) : sem (m + 1) 33 [.list a, .list a] g = .ok (.bool true) g := by
  rw [sem_stp]
  show (if showOk (.list a) = true ∧ sameDs a a = true then ret (.bool true) else stk : M PD) g = _
  rw [if_pos ⟨h, sameDs_refl a (showOk_noD h)⟩]
  rfl
theorem refused_eq {m k : Nat} {t : PD} {l : Int} {g g' : List PD} (h : sem m k [t] g = .exn l 1 g') (hs : showOk (.list [.int l, .int 1]) = true) : sem (m + 1) 43 [dFn k, t, .int l] g = .ok (.bool true) g' := by
  rw [sem_stp]
  show (match sem m k [t] g with | .exn l' c g' => if l' = l ∧ c = 1 ∧ showOk (.list [.int l, .int 1]) = true then (Out.ok (PyData.bool true) g' : Out PD) else Out.stuck | _ => Out.stuck) = _
  rw [h]
  exact if_pos ⟨rfl, rfl, hs⟩
section
variable {Fn : Nat → List PD → M PD} {vk : List Nat} {tg : Tg} {body : EnvD → M Fl}
/-- a loop whose turns keep a word of the slots and draw nothing -/
theorem fr_keep {I : EnvD → Prop} : ∀ (ds : List PD) (env : EnvD) (g : List PD), I env → (∀ d ∈ ds, ∀ env, I env → ∃ e1 e2, tgF tg d env = some e1 ∧ (∀ g, body e1 g = .ok (.nx e2) g) ∧ I e2) → ∃ env', evFr tg body ds env g = .ok (.nx env') g ∧ I env'
  | [], env, g, hI, _ => ⟨env, rfl, hI⟩
  | d :: ds, env, g, hI, h => by
    obtain ⟨e1, e2, h1, h2, h3⟩ := h d List.mem_cons_self env hI
    obtain ⟨env', h4, h5⟩ := fr_keep ds e2 g h3 fun x hx => h x (List.mem_cons_of_mem _ hx)
    exact ⟨env', fr_nx h1 (h2 g) h4, h5⟩
/-- .. with draws -/
theorem fr_bag {I : Nat → EnvD → Prop} : ∀ (ds : List PD) (i : Nat) (env : EnvD) (g : List PD), Bg g → I i env → (∀ j d, ds[j]? = some d → ∀ env g, Bg g → I (i + j) env → ∃ e1 e2 g', tgF tg d env = some e1 ∧ body e1 g = .ok (.nx e2) g' ∧ Bg g' ∧ I (i + j + 1) e2) →
    ∃ env' g', evFr tg body ds env g = .ok (.nx env') g' ∧ Bg g' ∧ I (i + ds.length) env'
  | [], i, env, g, B, hI, _ => ⟨env, g, rfl, B, hI⟩
  | d :: ds, i, env, g, B, hI, h => by
    obtain ⟨e1, e2, g1, h1, h2, b1, h3⟩ := h 0 d rfl env g B hI
    obtain ⟨env', g', h4, b4, h5⟩ := fr_bag ds (i + 1) e2 g1 b1 h3 fun j x hx env g B hI => by
      have q := h (j + 1) x (by simpa using hx) env g B (by rw [show i + (j + 1) = i + 1 + j by omega]; exact hI)
      rw [show i + (j + 1) + 1 = i + 1 + j + 1 by omega] at q
      exact q
    refine ⟨env', g', fr_nx h1 h2 h4, b4, ?_⟩
    rw [List.length_cons, show i + (ds.length + 1) = i + 1 + ds.length by omega]
    exact h5
end
end G

/-! Clocks. -/
namespace G
open PySem PySem.Spec PyProof.Rows L2
/-- the fractions of clocks -/
def frT : List (PD × Str) := [(fr (-1) 2, ⟨#[45, 49, 47, 50]⟩), (fr (0) 1, ⟨#[48]⟩), (fr (1) 3, ⟨#[49, 47, 51]⟩), (fr (1) 2, ⟨#[49, 47, 50]⟩), (fr (2) 3, ⟨#[50, 47, 51]⟩), (fr (5) 6, ⟨#[53, 47, 54]⟩), (fr (1) 1, ⟨#[49]⟩), (fr (7) 6, ⟨#[55, 47, 54]⟩), (fr (4) 3, ⟨#[52, 47, 51]⟩), (fr (3) 2, ⟨#[51, 47, 50]⟩), (fr (2) 1, ⟨#[50]⟩), (fr (7) 3, ⟨#[55, 47, 51]⟩), (fr (5) 2, ⟨#[53, 47, 50]⟩), (fr (8) 3, ⟨#[56, 47, 51]⟩), (fr (17) 6, ⟨#[49, 55, 47, 54]⟩), (fr (3) 1, ⟨#[51]⟩), (fr (4) 1, ⟨#[52]⟩), (fr (13) 3, ⟨#[49, 51, 47, 51]⟩), (fr (9) 2, ⟨#[57, 47, 50]⟩), (fr (6) 1, ⟨#[54]⟩)]
def frOK (p : PD × Str) : Bool := okD (purT tab0 6 14 [.str p.2] []) p.1 && (okD (purT tab0 6 10 [p.1] []) (.str p.2) && okD (purT tab0 6 37 [p.1] []) (.str p.2))
theorem fr_all : frT.all frOK = true := by decide +kernel
def byFT (t : Str) : Option PD := (frT.find? fun p => p.2 == t).map (·.1)
def byFD (d : PD) : Option Str := (frT.find? fun p => sameD p.1 d).map (·.2)
def tabF : Nat → List PD → Option PD
  | 14, [.str t] => byFT t
  | 10, [d] => (byFD d).map .str
  | 37, [d] => (byFD d).map .str
  | _, _ => none
theorem fr_of {p : PD × Str} (h : p ∈ frT) : okD (purT tab0 6 14 [.str p.2] []) p.1 = true ∧ okD (purT tab0 6 10 [p.1] []) (.str p.2) = true ∧ okD (purT tab0 6 37 [p.1] []) (.str p.2) = true := by
  have q := List.all_eq_true.mp fr_all p h
  unfold frOK at q
  simp only [Bool.and_eq_true] at q
  exact ⟨q.1, q.2.1, q.2.2⟩
theorem byFT_mem {t : Str} {d : PD} (h : byFT t = some d) : (d, t) ∈ frT := by
  unfold byFT at h
  obtain ⟨p, e1, e2⟩ := Option.map_eq_some_iff.mp h
  have q : (p.2 == t) = true := List.find?_some (p := fun p : PD × Str => p.2 == t) e1
  have m := List.mem_of_find?_eq_some e1
  rw [← e2, ← beq_iff_eq.mp q]
  exact m
theorem byFD_mem {t : Str} {d : PD} (h : byFD d = some t) : (d, t) ∈ frT := by
  unfold byFD at h
  obtain ⟨p, e1, e2⟩ := Option.map_eq_some_iff.mp h
  have q : sameD p.1 d = true := List.find?_some (p := fun p : PD × Str => sameD p.1 d) e1
  have m := List.mem_of_find?_eq_some e1
  rw [← e2, ← sameD_eq' _ _ q]
  exact m
theorem tbF : Tb 6 tabF := by
  intro f ds d h m hm g
  unfold tabF at h
  split at h
  · exact told tb0 (fr_of (byFT_mem h)).1 (by omega) g
  · obtain ⟨t, e1, rfl⟩ := Option.map_eq_some_iff.mp h
    exact told tb0 (fr_of (byFD_mem e1)).2.1 (by omega) g
  · obtain ⟨t, e1, rfl⟩ := Option.map_eq_some_iff.mp h
    exact told tb0 (fr_of (byFD_mem e1)).2.2 (by omega) g
  · cases h
def txtF (d : PD) : Str := (byFD d).getD ⟨#[]⟩
/-- the lists of points: each with what is shown -/
def ptsL : List (List PD) := [[.tuple [fr 0 1, fr 0 1]], [.tuple [fr 0 1, fr 0 1], .tuple [fr 1 1, fr 1 2]], [.tuple [fr 0 1, fr 0 1], .tuple [fr 1 1, fr 2 1]], [.tuple [fr 0 1, fr 0 1], .tuple [fr 1 1, fr 1 3]], [.tuple [fr 0 1, fr 0 1], .tuple [fr 1 1, fr 1 2], .tuple [fr 2 1, fr 1 1]], [.tuple [fr 0 1, fr 0 1], .tuple [fr 1 1, fr 1 2], .tuple [fr 2 1, fr 5 2]], [.tuple [fr 0 1, fr 0 1], .tuple [fr 1 1, fr 1 2], .tuple [fr 2 1, fr 5 6]], [.tuple [fr 0 1, fr 0 1], .tuple [fr 1 1, fr 2 1], .tuple [fr 2 1, fr 5 2]], [.tuple [fr 0 1, fr 0 1], .tuple [fr 1 1, fr 2 1], .tuple [fr 2 1, fr 4 1]], [.tuple [fr 0 1, fr 0 1], .tuple [fr 1 1, fr 2 1], .tuple [fr 2 1, fr 7 3]], [.tuple [fr 0 1, fr 0 1], .tuple [fr 1 1, fr 1 3], .tuple [fr 2 1, fr 5 6]], [.tuple [fr 0 1, fr 0 1], .tuple [fr 1 1, fr 1 3], .tuple [fr 2 1, fr 7 3]], [.tuple [fr 0 1, fr 0 1], .tuple [fr 1 1, fr 1 3], .tuple [fr 2 1, fr 2 3]], [.tuple [fr 0 1, fr 0 1], .tuple [fr 1 1, fr 1 2], .tuple [fr 2 1, fr 1 1], .tuple [fr 3 1, fr 3 2]], [.tuple [fr 0 1, fr 0 1], .tuple [fr 1 1, fr 1 2], .tuple [fr 2 1, fr 1 1], .tuple [fr 3 1, fr 3 1]], [.tuple [fr 0 1, fr 0 1], .tuple [fr 1 1, fr 1 2], .tuple [fr 2 1, fr 1 1], .tuple [fr 3 1, fr 4 3]], [.tuple [fr 0 1, fr 0 1], .tuple [fr 1 1, fr 1 2], .tuple [fr 2 1, fr 5 2], .tuple [fr 3 1, fr 3 1]], [.tuple [fr 0 1, fr 0 1], .tuple [fr 1 1, fr 1 2], .tuple [fr 2 1, fr 5 2], .tuple [fr 3 1, fr 9 2]], [.tuple [fr 0 1, fr 0 1], .tuple [fr 1 1, fr 1 2], .tuple [fr 2 1, fr 5 2], .tuple [fr 3 1, fr 17 6]], [.tuple [fr 0 1, fr 0 1], .tuple [fr 1 1, fr 1 2], .tuple [fr 2 1, fr 5 6], .tuple [fr 3 1, fr 4 3]], [.tuple [fr 0 1, fr 0 1], .tuple [fr 1 1, fr 1 2], .tuple [fr 2 1, fr 5 6], .tuple [fr 3 1, fr 17 6]], [.tuple [fr 0 1, fr 0 1], .tuple [fr 1 1, fr 1 2], .tuple [fr 2 1, fr 5 6], .tuple [fr 3 1, fr 7 6]], [.tuple [fr 0 1, fr 0 1], .tuple [fr 1 1, fr 2 1], .tuple [fr 2 1, fr 5 2], .tuple [fr 3 1, fr 3 1]], [.tuple [fr 0 1, fr 0 1], .tuple [fr 1 1, fr 2 1], .tuple [fr 2 1, fr 5 2], .tuple [fr 3 1, fr 9 2]], [.tuple [fr 0 1, fr 0 1], .tuple [fr 1 1, fr 2 1], .tuple [fr 2 1, fr 5 2], .tuple [fr 3 1, fr 17 6]], [.tuple [fr 0 1, fr 0 1], .tuple [fr 1 1, fr 2 1], .tuple [fr 2 1, fr 4 1], .tuple [fr 3 1, fr 9 2]], [.tuple [fr 0 1, fr 0 1], .tuple [fr 1 1, fr 2 1], .tuple [fr 2 1, fr 4 1], .tuple [fr 3 1, fr 6 1]], [.tuple [fr 0 1, fr 0 1], .tuple [fr 1 1, fr 2 1], .tuple [fr 2 1, fr 4 1], .tuple [fr 3 1, fr 13 3]], [.tuple [fr 0 1, fr 0 1], .tuple [fr 1 1, fr 2 1], .tuple [fr 2 1, fr 7 3], .tuple [fr 3 1, fr 17 6]], [.tuple [fr 0 1, fr 0 1], .tuple [fr 1 1, fr 2 1], .tuple [fr 2 1, fr 7 3], .tuple [fr 3 1, fr 13 3]], [.tuple [fr 0 1, fr 0 1], .tuple [fr 1 1, fr 2 1], .tuple [fr 2 1, fr 7 3], .tuple [fr 3 1, fr 8 3]], [.tuple [fr 0 1, fr 0 1], .tuple [fr 1 1, fr 1 3], .tuple [fr 2 1, fr 5 6], .tuple [fr 3 1, fr 4 3]], [.tuple [fr 0 1, fr 0 1], .tuple [fr 1 1, fr 1 3], .tuple [fr 2 1, fr 5 6], .tuple [fr 3 1, fr 17 6]], [.tuple [fr 0 1, fr 0 1], .tuple [fr 1 1, fr 1 3], .tuple [fr 2 1, fr 5 6], .tuple [fr 3 1, fr 7 6]], [.tuple [fr 0 1, fr 0 1], .tuple [fr 1 1, fr 1 3], .tuple [fr 2 1, fr 7 3], .tuple [fr 3 1, fr 17 6]], [.tuple [fr 0 1, fr 0 1], .tuple [fr 1 1, fr 1 3], .tuple [fr 2 1, fr 7 3], .tuple [fr 3 1, fr 13 3]], [.tuple [fr 0 1, fr 0 1], .tuple [fr 1 1, fr 1 3], .tuple [fr 2 1, fr 7 3], .tuple [fr 3 1, fr 8 3]], [.tuple [fr 0 1, fr 0 1], .tuple [fr 1 1, fr 1 3], .tuple [fr 2 1, fr 2 3], .tuple [fr 3 1, fr 7 6]], [.tuple [fr 0 1, fr 0 1], .tuple [fr 1 1, fr 1 3], .tuple [fr 2 1, fr 2 3], .tuple [fr 3 1, fr 8 3]], [.tuple [fr 0 1, fr 0 1], .tuple [fr 1 1, fr 1 3], .tuple [fr 2 1, fr 2 3], .tuple [fr 3 1, fr 1 1]]]
def rateL : List PD := [fr 1 1, fr 3 2, fr 0 1, fr (-1) 2]
def ptT : PD → Str | .tuple [a, b] => txtF a ++ ⟨#[32]⟩ ++ txtF b | _ => ⟨#[]⟩
def semi : Str := ⟨#[59, 32]⟩
def rowT (ps : List PD) (r : PD) : Str := Txt.join semi (ps.map ptT ++ [(⟨#[114, 97, 116, 101, 32]⟩ : Str) ++ txtF r])
def clkOK (ps : List PD) (r : PD) : Bool :=
  let row := rowT ps r
  okD (purT tabF 6 20 [.tuple [.tuple ps, r]] []) (.str row) && (okD (purT tabF 6 28 [.str row] []) (.tuple [.tuple ps, r]) && (okD (purT tabF 6 28 [.str (row ++ ⟨#[59]⟩)] []) .none &&
    (okD (purT tabF 6 28 [.str (cutS row none (some (-1)) ++ ⟨#[120]⟩)] []) .none && (okD (purT tabF 6 28 [.str (Txt.replace row ⟨#[114, 97, 116, 101]⟩ ⟨#[82, 97, 116, 101]⟩)] []) .none && (lineOk row && showOk (.list [.str row, .tuple [.tuple ps, r]]))))))
def clksOK (ls : List (List PD)) : Bool := ls.all fun ps => rateL.all fun r => clkOK ps r
end G

/-! Clocks by the kernel, part 0. -/
namespace G
open PySem PySem.Spec PyProof.Rows L2
theorem clk_0 : rateL.all (fun r => clkOK ptsL[0]! r) = true := by decide +kernel
theorem clk_1 : rateL.all (fun r => clkOK ptsL[1]! r) = true := by decide +kernel
theorem clk_2 : rateL.all (fun r => clkOK ptsL[2]! r) = true := by decide +kernel
theorem clk_3 : rateL.all (fun r => clkOK ptsL[3]! r) = true := by decide +kernel
theorem clk_4 : rateL.all (fun r => clkOK ptsL[4]! r) = true := by decide +kernel
end G

/-! Clocks by the kernel, part 1. -/
namespace G
open PySem PySem.Spec PyProof.Rows L2
theorem clk_5 : rateL.all (fun r => clkOK ptsL[5]! r) = true := by decide +kernel
theorem clk_6 : rateL.all (fun r => clkOK ptsL[6]! r) = true := by decide +kernel
theorem clk_7 : rateL.all (fun r => clkOK ptsL[7]! r) = true := by decide +kernel
theorem clk_8 : rateL.all (fun r => clkOK ptsL[8]! r) = true := by decide +kernel
theorem clk_9 : rateL.all (fun r => clkOK ptsL[9]! r) = true := by decide +kernel
end G

/-! Clocks by the kernel, part 2. -/
namespace G
open PySem PySem.Spec PyProof.Rows L2
theorem clk_10 : rateL.all (fun r => clkOK ptsL[10]! r) = true := by decide +kernel
theorem clk_11 : rateL.all (fun r => clkOK ptsL[11]! r) = true := by decide +kernel
theorem clk_12 : rateL.all (fun r => clkOK ptsL[12]! r) = true := by decide +kernel
theorem clk_13 : rateL.all (fun r => clkOK ptsL[13]! r) = true := by decide +kernel
theorem clk_14 : rateL.all (fun r => clkOK ptsL[14]! r) = true := by decide +kernel
end G

/-! Clocks by the kernel, part 3. -/
namespace G
open PySem PySem.Spec PyProof.Rows L2
theorem clk_15 : rateL.all (fun r => clkOK ptsL[15]! r) = true := by decide +kernel
theorem clk_16 : rateL.all (fun r => clkOK ptsL[16]! r) = true := by decide +kernel
theorem clk_17 : rateL.all (fun r => clkOK ptsL[17]! r) = true := by decide +kernel
theorem clk_18 : rateL.all (fun r => clkOK ptsL[18]! r) = true := by decide +kernel
theorem clk_19 : rateL.all (fun r => clkOK ptsL[19]! r) = true := by decide +kernel
end G

/-! Clocks by the kernel, part 4. -/
namespace G
open PySem PySem.Spec PyProof.Rows L2
theorem clk_20 : rateL.all (fun r => clkOK ptsL[20]! r) = true := by decide +kernel
theorem clk_21 : rateL.all (fun r => clkOK ptsL[21]! r) = true := by decide +kernel
theorem clk_22 : rateL.all (fun r => clkOK ptsL[22]! r) = true := by decide +kernel
theorem clk_23 : rateL.all (fun r => clkOK ptsL[23]! r) = true := by decide +kernel
theorem clk_24 : rateL.all (fun r => clkOK ptsL[24]! r) = true := by decide +kernel
end G

/-! Clocks by the kernel, part 5. -/
namespace G
open PySem PySem.Spec PyProof.Rows L2
theorem clk_25 : rateL.all (fun r => clkOK ptsL[25]! r) = true := by decide +kernel
theorem clk_26 : rateL.all (fun r => clkOK ptsL[26]! r) = true := by decide +kernel
theorem clk_27 : rateL.all (fun r => clkOK ptsL[27]! r) = true := by decide +kernel
theorem clk_28 : rateL.all (fun r => clkOK ptsL[28]! r) = true := by decide +kernel
theorem clk_29 : rateL.all (fun r => clkOK ptsL[29]! r) = true := by decide +kernel
end G

/-! Clocks by the kernel, part 6. -/
namespace G
open PySem PySem.Spec PyProof.Rows L2
theorem clk_30 : rateL.all (fun r => clkOK ptsL[30]! r) = true := by decide +kernel
theorem clk_31 : rateL.all (fun r => clkOK ptsL[31]! r) = true := by decide +kernel
theorem clk_32 : rateL.all (fun r => clkOK ptsL[32]! r) = true := by decide +kernel
theorem clk_33 : rateL.all (fun r => clkOK ptsL[33]! r) = true := by decide +kernel
theorem clk_34 : rateL.all (fun r => clkOK ptsL[34]! r) = true := by decide +kernel
end G

/-! Clocks by the kernel, part 7. -/
namespace G
open PySem PySem.Spec PyProof.Rows L2
theorem clk_35 : rateL.all (fun r => clkOK ptsL[35]! r) = true := by decide +kernel
theorem clk_36 : rateL.all (fun r => clkOK ptsL[36]! r) = true := by decide +kernel
theorem clk_37 : rateL.all (fun r => clkOK ptsL[37]! r) = true := by decide +kernel
theorem clk_38 : rateL.all (fun r => clkOK ptsL[38]! r) = true := by decide +kernel
theorem clk_39 : rateL.all (fun r => clkOK ptsL[39]! r) = true := by decide +kernel
end G

/-! The drawn round. -/
namespace G
open PySem PySem.Spec PyProof.Rows L2
/-- the statements of the lap -/
def lapB : Ss := match ir44 with | .cons _ (.cons (.fr _ _ b) _) => b | _ => .nil
def ssAt : Nat → Ss → Option St
  | _, .nil => none
  | 0, .cons s _ => some s
  | n + 1, .cons _ r => ssAt n r
  | n, .frz _ r => ssAt n r
def exOf : Option St → Ex | some (.set _ e) => e | _ => .lit .none
def exAg1 : Ex := exOf (ssAt 1 lapB)
def exAg2 : Ex := exOf (ssAt 2 lapB)
def rawA (a b : Int) (q : Int) : PD := .tuple [fr a 1, .tuple [.int (1 + b), .int q]]
theorem ag1_ok {m : Nat} {env : EnvD} (h1 : env[1]? = some (.d dBag)) {g : List PD} (B : Bg g) : ∃ x g', evE (sem (m + 2)) vkL exAg1 env g = .ok x g' ∧ (x = .none ∨ ∃ a b q, 0 ≤ a ∧ a < 5 ∧ 0 ≤ b ∧ b < 3 ∧ (q = 2 ∨ q = 5) ∧ x = rawA a b q) ∧ Bg g' := by
  obtain ⟨a, g1, e1, a1, a2, b1⟩ := take_ok (n := m + 1) (m := 5) (by decide) (by decide) B
  obtain ⟨b, g2, e2, b3, b4, b2⟩ := take_ok (n := m + 1) (m := 3) (by decide) (by decide) b1
  obtain ⟨c, g3, e3, c1, c2, b5⟩ := take_ok (n := m + 1) (m := 2) (by decide) (by decide) b2
  obtain ⟨q, hq, hq2⟩ : ∃ q : Int, (q = 2 ∨ q = 5) ∧ evE (sem (m + 2)) vkL (.ite (.val (.op2 .eqD (.call 31 (.cons (.var 1) (.cons (.lit (.int 2)) .nil))) (.lit (.int 0)))) (.lit (.int 2)) (.lit (.int 5))) env g2 = .ok (.int q) g3 := by
    by_cases c0 : c = 0
    · subst c0
      exact ⟨2, .inl rfl, v_ite (u_val (v_op2 (v_call (v_cons (v_var h1) (v_cons v_lit v_nil)) e3) v_lit (eqI 0 0))) ifT⟩
    · exact ⟨5, .inr rfl, v_ite (u_val (v_op2 (v_call (v_cons (v_var h1) (v_cons v_lit v_nil)) e3) v_lit ((eqI c 0).trans (by rw [beq_false_of_ne c0])))) ifF⟩
  obtain ⟨x, g4, e4, hx, b6⟩ := some_ok (m := m) (xs := [.none, rawA a b q]) (by simp) (by show 2 < 1000; decide) b5
  refine ⟨x, g4, ?_, ?_, b6⟩
  · refine v_call (v_cons (v_var h1) (v_cons (v_lst (v_cons v_lit (v_cons (v_tup (v_cons (v_tup (v_cons (v_call (v_cons (v_var h1) (v_cons v_lit v_nil)) e1) (v_cons v_lit v_nil)) (by show 2 ≤ 1000; decide)) (v_cons (v_tup (v_cons (v_op2 v_lit (v_call (v_cons (v_var h1) (v_cons v_lit v_nil)) e2) rfl) (v_cons hq2 v_nil)) (by show 2 ≤ 1000; decide)) v_nil)) (by show 2 ≤ 1000; decide)) v_nil)) (by show 2 ≤ 1000; decide)) v_nil)) e4
  · simp only [List.mem_cons, List.not_mem_nil, or_false] at hx
    rcases hx with rfl | rfl
    · exact .inl rfl
    · exact .inr ⟨a, b, q, a1, a2, b3, b4, hq, rfl⟩
/-- the six fractions of a round's length -/
def fracT : List ((Int × Int) × PD) := [((1, 2), fr 1 2), ((2, 2), fr 1 1), ((3, 2), fr 3 2), ((1, 5), fr 1 5), ((2, 5), fr 2 5), ((3, 5), fr 3 5)]
theorem frac_all : fracT.all (fun p => okD (purT tab0 4 35 [.int p.1.1, .int p.1.2] []) p.2) = true := by decide +kernel
def rndIn (r : PD) : Bool := rndL.any fun p => sameD p.1 r
theorem rnd_in : [(0 : Int), 1, 2, 3, 4].all (fun a => fracT.all fun p => rndIn (.tuple [fr a 1, p.2])) = true := by decide +kernel
theorem ag2_ok {m : Nat} (hm : 4 ≤ m) {env : EnvD} {x : PD} (h5 : env[5]? = some (.d x)) (hx : x = .none ∨ ∃ a b q, 0 ≤ a ∧ a < 5 ∧ 0 ≤ b ∧ b < 3 ∧ (q = 2 ∨ q = 5) ∧ x = rawA a b q) : ∃ r, (∀ g, evE (sem m) vkL exAg2 env g = .ok r g) ∧ (r = .none ∨ ∃ l, (r, l) ∈ rndL) := by
  rcases hx with rfl | ⟨a, b, q, a1, a2, b1, b2, hq, rfl⟩
  · exact ⟨.none, fun g => v_ite (u_val (v_op2 (v_var h5) v_lit (isN_is .none))) ifT, .inl rfl⟩
  · have hb : b = 0 ∨ b = 1 ∨ b = 2 := by omega
    have ha : a = 0 ∨ a = 1 ∨ a = 2 ∨ a = 3 ∨ a = 4 := by omega
    obtain ⟨d, hd⟩ : ∃ d, ((1 + b, q), d) ∈ fracT := by
      rcases hb with rfl | rfl | rfl <;> rcases hq with rfl | rfl
      · exact ⟨_, List.mem_of_getElem? (show fracT[0]? = _ from rfl)⟩
      · exact ⟨_, List.mem_of_getElem? (show fracT[3]? = _ from rfl)⟩
      · exact ⟨_, List.mem_of_getElem? (show fracT[1]? = _ from rfl)⟩
      · exact ⟨_, List.mem_of_getElem? (show fracT[4]? = _ from rfl)⟩
      · exact ⟨_, List.mem_of_getElem? (show fracT[2]? = _ from rfl)⟩
      · exact ⟨_, List.mem_of_getElem? (show fracT[5]? = _ from rfl)⟩
    have e35 : ∀ g, sem m 35 [.int (1 + b), .int q] g = .ok d g := fun g => told tb0 (List.all_eq_true.mp frac_all _ hd) (by omega) g
    have hin := List.all_eq_true.mp (List.all_eq_true.mp rnd_in a (by rcases ha with rfl | rfl | rfl | rfl | rfl <;> simp)) _ hd
    obtain ⟨p, hp, hs⟩ := List.any_eq_true.mp (show (rndL.any fun p => sameD p.1 (.tuple [fr a 1, d])) = true from hin)
    have ep := sameD_eq' _ _ hs
    refine ⟨.tuple [fr a 1, d], fun g => ?_, .inr ⟨p.2, by rw [← ep]; exact hp⟩⟩
    refine v_ite (u_val (v_op2 (v_var h5) v_lit (isN_is (rawA a b q)))) (ifF.trans (v_tup (v_cons (v_op2 (v_var h5) v_lit (atI_nat (j := 0) rfl)) (v_cons (v_call (v_cons (v_op2 (v_op2 (v_var h5) v_lit (atI_nat (j := 1) rfl)) v_lit (atI_nat (j := 0) rfl)) (v_cons (v_op2 (v_op2 (v_var h5) v_lit (atI_nat (j := 1) rfl)) v_lit (atI_nat (j := 1) rfl)) v_nil)) (e35 g)) v_nil)) (by show 2 ≤ 1000; decide)))
end G

/-! The drawn stretches and their lines. -/
namespace G
open PySem PySem.Spec PyProof.Rows L2
def exSt : Ex := exOf (ssAt 0 lapB)
def exLn : Ex := exOf (ssAt 3 lapB)
theorem mem_zip_r {α β : Type} {xs : List α} {ys : List β} (h : ys.length = xs.length) {y : β} (hy : y ∈ ys) : ∃ x, (x, y) ∈ xs.zip ys := by
  obtain ⟨i, hi, rfl⟩ := List.getElem_of_mem hy
  exact ⟨xs[i], List.mem_of_getElem? (i := i) (List.getElem?_zip_eq_some.mpr ⟨List.getElem?_eq_getElem (by omega), List.getElem?_eq_getElem hi⟩)⟩
theorem sts_ok {m : Nat} {env : EnvD} (hl : env.length = 27) (h1 : env[1]? = some (.d dBag)) {g : List PD} (B : Bg g) : ∃ ss g', evE (sem (m + 4)) vkL exSt env g = .ok (.tuple ss) g' ∧ ss.length < 4 ∧ (∀ s ∈ ss, ∃ k, k < 3 ∧ s ∈ stsAt k) ∧ Bg g' := by
  obtain ⟨r, g1, e1, a1, a2, b1⟩ := take_ok (n := m + 3) (m := 4) (by decide) (by decide) B
  obtain ⟨n, rfl⟩ : ∃ n : Nat, r = (n : Int) := ⟨r.toNat, by omega⟩
  have hn : n < 4 := by omega
  obtain ⟨ss, g2, e2, l2, p2, b2⟩ := mm_bag (f := lcF (sem (m + 4)) vkL (.call 41 (.cons (.var 1) (.cons (.var 9) .nil))) (.name 9) [9] env) (P := fun _ y => ∃ k, k < 3 ∧ y ∈ stsAt k) ((List.range n).map fun k => .int (k : Nat)) (fun d hd g B => by
    obtain ⟨k, hk, rfl⟩ := List.mem_map.mp hd
    have hk' : k < n := List.mem_range.mp hk
    obtain ⟨s, g', e, hs, b⟩ := one_st (m := m) (k := k) B
    have hw : (wipeD env [9]).length = 27 := by show (env.set 9 Sl.no).length = 27; rw [List.length_set]; exact hl
    have q1 : ((wipeD env [9]).set 9 (.d (.int (k : Nat))))[1]? = some (.d dBag) := by
      rw [List.getElem?_set_ne (by decide)]
      show (env.set 9 Sl.no)[1]? = _
      rw [List.getElem?_set_ne (by decide)]
      exact h1
    have q9 : ((wipeD env [9]).set 9 (.d (.int (k : Nat))))[9]? = some (.d (.int (k : Nat))) := List.getElem?_set_self (by omega)
    exact ⟨s, g', lcF_ok rfl (v_call (v_cons (v_var q1) (v_cons (v_var q9) v_nil)) e), ⟨k, by omega, hs⟩, b⟩) g1 b1
  rw [List.length_map, List.length_range] at l2
  refine ⟨ss, g2, v_blt (v_lc (i_range (v_call (v_cons (v_var h1) (v_cons v_lit v_nil)) e1) (by omega)) (by rw [List.length_map, List.length_range]; omega) (by decide) e2) rfl, by omega, fun s hs => ?_, b2⟩
  obtain ⟨x, hx⟩ := mem_zip_r (xs := (List.range n).map fun k => PyData.int (k : Nat)) (by rw [List.length_map, List.length_range]; exact l2) hs
  exact p2 _ hx
/-- the lines of stretches -/
theorem lns_ok {m : Nat} (hm : 9 ≤ m) {env : EnvD} (hl : env.length = 27) {ss : List PD} (h4 : env[4]? = some (.d (.tuple ss))) (hx : ss.length < 1000) (hs : ∀ s ∈ ss, ∃ k, k < 3 ∧ s ∈ stsAt k) (g : List PD) : evE (sem m) vkL exLn env g = .ok (.list ((ss.map lineT).map PyData.str)) g := by
  have e := mm_pure (f := lcF (sem m) vkL (.call 42 (.cons (.var 13) .nil)) (.name 13) [13] env) (h := fun s => .str (lineT s)) ss (fun s hsm g => by
    obtain ⟨k, hk, hsk⟩ := hs s hsm
    have hw : (wipeD env [13]).length = 27 := by show (env.set 13 Sl.no).length = 27; rw [List.length_set]; exact hl
    have q : ((wipeD env [13]).set 13 (.d s))[13]? = some (.d s) := List.getElem?_set_self (by omega)
    exact lcF_ok rfl (v_call (v_cons (v_var q) v_nil) ((sl_of (m := 0) hk hsk).line m hm g))) g
  rw [List.map_map]
  exact v_lc (i_tup (v_var h4)) (by omega) (by decide) e
end G

/-! How large shown data are. -/
namespace G
open PySem PySem.Spec PyProof.Rows L2
structure Sz (d : PD) (n w : Nat) : Prop where
  nd : noD d = true
  cl : PyData.canLay0 d = true
  sw : PyData.showable d = true
  hd : PyData.hasDict d = false
  is : PyData.intsShort 13 d = true
  dp : PyData.depth d ≤ n
  wt : PyData.weight d ≤ w
structure Szs (ds : List PD) (n w : Nat) : Prop where
  nd : noDs ds = true
  cl : PyData.canLayAll0 ds = true
  sw : PyData.showableAll ds = true
  hd : PyData.hasDictAll ds = false
  is : PyData.intsShortAll 13 ds = true
  dp : PyData.depthAll ds ≤ n
  wt : PyData.weightAll ds ≤ w
def szB (d : PD) (n w : Nat) : Bool := noD d && (PyData.canLay0 d && (PyData.showable d && (!PyData.hasDict d && (PyData.intsShort 13 d && (decide (PyData.depth d ≤ n) && decide (PyData.weight d ≤ w))))))
theorem Sz.ofB {d : PD} {n w : Nat} (h : szB d n w = true) : Sz d n w := by
  unfold szB at h
  simp only [Bool.and_eq_true, Bool.not_eq_true', decide_eq_true_eq] at h
  exact ⟨h.1, h.2.1, h.2.2.1, h.2.2.2.1, h.2.2.2.2.1, h.2.2.2.2.2.1, h.2.2.2.2.2.2⟩
theorem Sz.mono {d : PD} {n w n' w' : Nat} (h : Sz d n w) (hn : n ≤ n') (hw : w ≤ w') : Sz d n' w' := ⟨h.nd, h.cl, h.sw, h.hd, h.is, Nat.le_trans h.dp hn, Nat.le_trans h.wt hw⟩
theorem Sz.shp {d : PD} {n w : Nat} (h : Sz d n w) (hn : n ≤ 64) : shp d = true := by
  unfold G.shp SeqAt.shaped
  rw [h.nd, h.cl, decide_eq_true (Nat.le_trans h.dp hn)]
  rfl
theorem Sz.show {d : PD} {n w : Nat} (h : Sz d n w) (hn : n ≤ 64) (hw : w ≤ 2 ^ 20) : showOk d = true := by
  unfold showOk PyData.layable0
  rw [h.shp hn, h.sw, h.hd, h.is, h.cl, decide_eq_true (Nat.le_trans h.dp hn), decide_eq_true (Nat.le_trans h.wt hw)]
  rfl
theorem Szs.nil {n w : Nat} : Szs [] n w := ⟨rfl, rfl, rfl, rfl, rfl, Nat.zero_le _, Nat.zero_le _⟩
theorem Szs.cons {d : PD} {ds : List PD} {n w v : Nat} (h : Sz d n w) (hs : Szs ds n v) : Szs (d :: ds) n (w + 1 + v) := by
  refine ⟨?_, ?_, ?_, ?_, ?_, ?_, ?_⟩
  · show (noD d && noDs ds) = true
    rw [h.nd, hs.nd]; rfl
  · simp only [PyData.canLayAll0, h.cl, hs.cl, Bool.and_self]
  · simp only [PyData.showableAll, h.sw, hs.sw, Bool.and_self]
  · simp only [PyData.hasDictAll, h.hd, hs.hd, Bool.or_self]
  · simp only [PyData.intsShortAll, h.is, hs.is, Bool.and_self]
  · simp only [PyData.depthAll]
    exact Nat.max_le.mpr ⟨h.dp, hs.dp⟩
  · simp only [PyData.weightAll]
    have a := h.wt
    have b := hs.wt
    omega
theorem Szs.all {n w : Nat} : ∀ {ds : List PD}, (∀ d ∈ ds, Sz d n w) → Szs ds n (ds.length * (w + 1))
  | [], _ => .nil
  | d :: ds, h => by
    have q := Szs.cons (h d List.mem_cons_self) (Szs.all fun x hx => h x (List.mem_cons_of_mem _ hx))
    have e : (d :: ds).length * (w + 1) = w + 1 + ds.length * (w + 1) := by
      rw [List.length_cons, Nat.add_one_mul]
      omega
    rw [e]
    exact q
theorem Sz.tup {ds : List PD} {n w : Nat} (h : Szs ds n w) : Sz (.tuple ds) (n + 1) w := by
  refine ⟨h.nd, ?_, ?_, ?_, ?_, ?_, ?_⟩
  · simp only [PyData.canLay0, h.cl]
  · simp only [PyData.showable, h.sw]
  · simp only [PyData.hasDict, h.hd]
  · simp only [PyData.intsShort, h.is]
  · have a := h.dp
    simp only [PyData.depth]
    omega
  · simp only [PyData.weight]
    exact h.wt
theorem Sz.lst {ds : List PD} {n w : Nat} (h : Szs ds n w) : Sz (.list ds) (n + 1) w := by
  refine ⟨h.nd, ?_, ?_, ?_, ?_, ?_, ?_⟩
  · simp only [PyData.canLay0, h.cl]
  · simp only [PyData.showable, h.sw]
  · simp only [PyData.hasDict, h.hd]
  · simp only [PyData.intsShort, h.is]
  · have a := h.dp
    simp only [PyData.depth]
    omega
  · simp only [PyData.weight]
    exact h.wt
/-- all signs of a text are signs -/
def StrC (t : Str) : Prop := ∀ c ∈ TL.tl t, c < 0x110000
theorem StrC.ok {t : Str} (h : StrC t) : PyData.strOk t = true := by
  show (t.cps.all (· < 0x110000)) = true
  refine Array.all_eq_true_iff_forall_mem.mpr fun c hc => ?_
  exact decide_eq_true (h c (Array.mem_toList_iff.mpr hc))
theorem StrC.of {t : Str} (h : PyData.strOk t = true) : StrC t := fun c hc => by
  have h0 : t.cps.all (· < 0x110000) = true := h
  exact of_decide_eq_true (Array.all_eq_true_iff_forall_mem.mp h0 c (Array.mem_toList_iff.mp hc))
theorem StrC.add {a b : Str} (ha : StrC a) (hb : StrC b) : StrC (a ++ b) := fun c hc => by
  rw [TL.tl_append] at hc
  rcases List.mem_append.mp hc with q | q
  · exact ha c q
  · exact hb c q
theorem StrC.join {y : Str} (hy : StrC y) : ∀ {ls : List Str}, (∀ l ∈ ls, StrC l) → StrC (Str.join y ls)
  | [], _ => fun c hc => by cases hc
  | [a], h => h a List.mem_cons_self
  | a :: b :: ls, h => ((h a List.mem_cons_self).add hy).add (StrC.join hy fun l hl => h l (List.mem_cons_of_mem _ hl))
theorem Sz.str {t : Str} {n w : Nat} (h : StrC t) (hw : t.length ≤ w) : Sz (.str t) n w := by
  refine ⟨rfl, ?_, rfl, rfl, rfl, Nat.zero_le _, hw⟩
  simp only [PyData.canLay0]
  exact h.ok
theorem join_len {y : Str} : ∀ {ls : List Str} {n : Nat}, (∀ l ∈ ls, l.length ≤ n) → (Str.join y ls).length ≤ ls.length * (n + y.length)
  | [], _, _ => Nat.zero_le _
  | [a], n, h => by
    have q := h a List.mem_cons_self
    show a.length ≤ 1 * (n + y.length)
    omega
  | a :: b :: ls, n, h => by
    have q := h a List.mem_cons_self
    have r := join_len (y := y) (ls := b :: ls) fun l hl => h l (List.mem_cons_of_mem _ hl)
    show (a ++ y ++ Str.join y (b :: ls)).length ≤ _
    rw [strLen_append, strLen_append, List.length_cons, Nat.add_one_mul]
    omega
theorem sum_le {n : Nat} : ∀ {ls : List Str}, (∀ l ∈ ls, l.length ≤ n) → sumL ls ≤ ls.length * n
  | [], _ => Nat.zero_le _
  | a :: ls, h => by
    have q := h a List.mem_cons_self
    have r := sum_le (ls := ls) fun l hl => h l (List.mem_cons_of_mem _ hl)
    show a.length + sumL ls ≤ _
    rw [List.length_cons, Nat.add_one_mul]
    omega
end G

/-! The lap: its slots, its statements. -/
namespace G
open PySem PySem.Spec PyProof.Rows L2
def lk : List (Nat × Sl) → Nat → Option Sl
  | [], _ => none
  | (k, s) :: r, i => if i = k then some s else lk r i
/-- what is known of the law's slots -/
structure Ev (env : EnvD) (fs : List (Nat × Sl)) : Prop where
  len : env.length = 27
  got : ∀ i s, lk fs i = some s → env[i]? = some s
section
variable {env : EnvD} {fs : List (Nat × Sl)}
theorem Ev.set (E : Ev env fs) {i : Nat} (hi : i < 27) (v : Sl) : Ev (env.set i v) ((i, v) :: fs) := by
  refine ⟨by rw [List.length_set]; exact E.len, fun j s h => ?_⟩
  by_cases e : j = i
  · subst e
    have q : lk ((j, v) :: fs) j = some v := if_pos rfl
    rw [q] at h
    cases h
    exact List.getElem?_set_self (by rw [E.len]; exact hi)
  · have q : lk ((i, v) :: fs) j = lk fs j := if_neg e
    rw [q] at h
    rw [List.getElem?_set_ne (fun z => e z.symm)]
    exact E.got j s h
theorem Ev.nil (h : env.length = 27) : Ev env [] := ⟨h, fun _ _ h => by cases h⟩
theorem Ev.cons (E : Ev env fs) {i : Nat} {s : Sl} (h : env[i]? = some s) : Ev env ((i, s) :: fs) := by
  refine ⟨E.len, fun j t q => ?_⟩
  by_cases e : j = i
  · subst e
    have q2 : lk ((j, s) :: fs) j = some s := if_pos rfl
    rw [q2] at q
    cases q
    exact h
  · have q2 : lk ((i, s) :: fs) j = lk fs j := if_neg e
    rw [q2] at q
    exact E.got j t q
theorem Ev.v (E : Ev env fs) {Fn : Nat → List PD → M PD} {vk : List Nat} {g : List PD} {i : Nat} {x : PD} (h : lk fs i = some (.d x)) : evE Fn vk (.var i) env g = .ok x g := v_var (E.got i _ h)
end
/-! ### the lap's statements -/
def badAll : List Str := [⟨#[91, 48, 44, 32, 49]⟩, ⟨#[123, 48, 44, 32, 49, 93]⟩, ⟨#[91, 48, 32, 44, 32, 49, 93]⟩, ⟨#[91, 48, 44, 32, 110, 111, 110, 101, 93]⟩, ⟨#[91, 50, 47, 52, 44, 32, 49, 93]⟩, ⟨#[40, 48, 44, 49, 41]⟩, ⟨#[114, 111, 117, 110, 100, 32, 49]⟩, ⟨#[114, 111, 117, 110, 100, 32, 48, 32, 50, 47, 52]⟩, ⟨#[]⟩, ⟨#[32, 91, 48, 44, 32, 49, 93]⟩, ⟨#[91, 48, 44, 32, 49, 93, 32]⟩, ⟨#[91, 48, 49, 44, 32, 50, 93]⟩, ⟨#[91, 48, 44, 32, 49, 44, 32, 50, 93]⟩, ⟨#[91, 114, 111, 111, 116, 40, 45, 50, 32, 48, 44, 32, 49, 44, 32, 50, 41, 44, 32, 51, 93]⟩]
def badD : PD := .list (badAll.map PyData.str)
def bs : List (Nat × Sl) := [(1, .d dBag), (2, .d badD)]
def tlS : Nat → Ss → Ss
  | 0, r => r
  | _, .nil => .nil
  | n + 1, .cons _ r => tlS n r
  | n + 1, .frz _ r => tlS n r
def tlB (n : Nat) : Ss := tlS n lapB
/-- the rest runs to its end -/
def Rn (r : Ss) (env : EnvD) (g : List PD) : Prop := ∃ env' g', evSs (sem 20) vkL r env g = .ok (.nx env') g' ∧ Bg g' ∧ Ev env' bs
section
variable {env env1 : EnvD} {g g1 g2 : List PD} {e : Ex} {x : PD} {r : Ss} {s : St} {t : Tx} {xs : List PD} {i : Nat}
theorem Rn.st (hs : evS (sem 20) vkL s env g = .ok (.nx env1) g1) (k : Rn r env1 g1) : Rn (.cons s r) env g := by
  obtain ⟨env', g', h, b, E⟩ := k
  exact ⟨env', g', w_nx hs h, b, E⟩
theorem Rn.set (he : evE (sem 20) vkL e env g = .ok x g1) (k : Rn r (env.set i (.d x)) g1) : Rn (.cons (.set i e) r) env g := .st (w_set he) k
theorem Rn.pass {a : Ss} (ht : evT (sem 20) vkL t env g = .ok false g1) (k : Rn r env g1) : Rn (.cons (.ife t a .nil) r) env g := .st (w_ife ht (ifF.trans w_nil)) k
theorem Rn.frz (h : env[i]? = some (.own xs)) (k : Rn r (env.set i (.d (.list xs))) g) : Rn (.frz i r) env g := by
  obtain ⟨env', g', q, b, E⟩ := k
  exact ⟨env', g', w_frz h q, b, E⟩
/-- alike -/
theorem v_alike {n : Nat} {es1 es2 : Exs} {ds : List PD} (h1 : evA (sem (n + 1)) vkL es1 env g = .ok ds g1) (h2 : evA (sem (n + 1)) vkL es2 env g1 = .ok ds g2) (hl : ds.length ≤ 1000) (hs : showOk (.list ds) = true) : evE (sem (n + 1)) vkL (.call 33 (.cons (.lst es1) (.cons (.lst es2) .nil))) env g = .ok (.bool true) g2 :=
  v_call (v_cons (v_lst h1 hl) (v_cons (v_lst h2 hl) v_nil)) (alike_eq hs g2)
/-- refused -/
theorem v_refd {n k : Nat} {a b : Ex} {y : PD} {l : Int} (ha : evE (sem (n + 1)) vkL a env g = .ok y g1) (hb : evE (sem (n + 1)) vkL b env g1 = .ok (.int l) g2) (hx : sem n k [y] g2 = .exn l 1 g2) (hs : showOk (.list [.int l, .int 1]) = true) : evE (sem (n + 1)) vkL (.call 43 (.cons (.fnv k) (.cons a (.cons b .nil)))) env g = .ok (.bool true) g2 :=
  v_call (v_cons v_fnv (v_cons ha (v_cons hb v_nil))) (refused_eq hx hs)
theorem u_nt (h : evE (sem 20) vkL e env g = .ok (.bool true) g1) : evT (sem 20) vkL (.not (.val e)) env g = .ok false g1 := u_not (u_val h)
theorem u_orF {a b : Tx} (ha : evT (sem 20) vkL a env g = .ok false g1) (hb : evT (sem 20) vkL b env g1 = .ok false g2) : evT (sem 20) vkL (.or a b) env g = .ok false g2 := u_or ha (ifF.trans hb)
theorem u_andF {a b : Tx} (ha : evT (sem 20) vkL a env g = .ok false g1) : evT (sem 20) vkL (.and a b) env g = .ok false g1 := u_and ha ifF
theorem u_andT {a b : Tx} {k : Bool} (ha : evT (sem 20) vkL a env g = .ok true g1) (hb : evT (sem 20) vkL b env g1 = .ok k g2) : evT (sem 20) vkL (.and a b) env g = .ok k g2 := u_and ha (ifT.trans hb)
end
theorem show_ls : (List.range 12).all (fun n => showOk (.list [.int ((n : Nat) : Int), .int 1])) = true := by decide +kernel
theorem show_l {n : Nat} (h : n < 12) : showOk (.list [.int ((n : Nat) : Int), .int 1]) = true := List.all_eq_true.mp show_ls n (List.mem_range.mpr h)
/-! ### lines -/
/-- a good line -/
structure LG (l : Str) : Prop where
  nn : 10 ∉ TL.tl l
  len : l.length ≤ 200
  sg : StrC l
def lgB (l : Str) : Bool := l.cps.toList.all (fun c => !(c == 10)) && (decide (l.length ≤ 200) && PyData.strOk l)
theorem LG.ofB {l : Str} (h : lgB l = true) : LG l := by
  unfold lgB at h
  simp only [Bool.and_eq_true, decide_eq_true_eq, List.all_eq_true] at h
  refine ⟨fun m => ?_, h.2.1, .of h.2.2⟩
  have q := h.1 10 m
  simp at q
theorem tl_len (l : Str) : (TL.tl l).length = l.length := (TL.len_tl l).symm
theorem join_pos {y : Str} : ∀ {ls : List Str}, (∃ l ∈ ls, 0 < l.length) → 0 < (Str.join y ls).length
  | [], h => by obtain ⟨l, h, _⟩ := h; cases h
  | [a], h => by
    obtain ⟨l, h, p⟩ := h
    rw [List.mem_singleton.mp h] at p
    exact p
  | a :: b :: ls, h => by
    show 0 < (a ++ y ++ Str.join y (b :: ls)).length
    rw [strLen_append, strLen_append]
    obtain ⟨l, h, p⟩ := h
    rcases List.mem_cons.mp h with rfl | h
    · omega
    · have := join_pos (y := y) (ls := b :: ls) ⟨l, h, p⟩
      omega
theorem nl_sg : StrC nl := .of (by decide +kernel)
theorem text_len {ls : List Str} (h : ∀ l ∈ ls, LG l) (hl : ls.length ≤ 10) : (Txt.join nl ls).length ≤ 2010 := by
  rw [TL.join_eq]
  refine Nat.le_trans (join_len fun l hm => (h l hm).len) ?_
  have : nl.length = 1 := rfl
  rw [this]
  exact Nat.mul_le_mul_right 201 hl
theorem text_sg {ls : List Str} (h : ∀ l ∈ ls, LG l) : StrC (Txt.join nl ls) := by
  rw [TL.join_eq]
  exact .join nl_sg fun l hm => (h l hm).sg
theorem text_sz {ls : List Str} (h : ∀ l ∈ ls, LG l) (hl : ls.length ≤ 10) : Sz (.str (Txt.join nl ls)) 0 2010 := .str (text_sg h) (text_len h hl)
theorem lns_mk {ls : List Str} (h : ∀ l ∈ ls, LG l) (hl : ls.length ≤ 10) (hp : ∃ l ∈ ls, 0 < l.length) : Lns ls (Txt.join nl ls) where
  ne := fun e => by obtain ⟨l, m, _⟩ := hp; rw [e] at m; cases m
  is := rfl
  no := fun l m => (h l m).nn
  sh := (text_sz h hl).shp (by decide)
  pos := by rw [TL.join_eq]; exact join_pos hp
  fit := Nat.le_trans (Nat.add_le_add_right (text_len h hl) 2) (by decide)
theorem sum_join {ls : List Str} (h : ∀ l ∈ ls, LG l) (hl : ls.length ≤ 10) : sumL ls + ls.length * nl.length ≤ 16777216 := by
  have a := sum_le (n := 200) fun l m => (h l m).len
  have b : nl.length = 1 := rfl
  rw [b]
  have c : ls.length * 200 ≤ 10 * 200 := Nat.mul_le_mul_right 200 hl
  omega
theorem join_snoc : ∀ {ls : List Str}, ls ≠ [] → ∀ q : Str, Txt.join nl (ls ++ [q]) = Txt.join nl ls ++ nl ++ q := by
  intro ls
  rw [TL.join_eq]
  intro h q
  rw [TL.join_eq]
  induction ls with
  | nil => exact absurd rfl h
  | cons a ls ih =>
    cases ls with
    | nil => rfl
    | cons b ls =>
      have e := ih (by simp)
      show a ++ nl ++ Str.join nl (b :: (ls ++ [q])) = a ++ nl ++ Str.join nl (b :: ls) ++ nl ++ q
      rw [show Str.join nl (b :: (ls ++ [q])) = Str.join nl ((b :: ls) ++ [q]) from rfl, e]
      refine TL.ext_tl ?_
      simp only [TL.tl_append, List.append_assoc]
/-! ### sizes of stretches and rounds -/
def stSz (s : PD) : Bool := szB s 8 400 && lgB (lineT s)
theorem stz_0 : (stsAt 0).all stSz = true := by decide +kernel
theorem stz_1 : (stsAt 1).all stSz = true := by decide +kernel
theorem stz_2 : (stsAt 2).all stSz = true := by decide +kernel
theorem st_sz {k : Nat} (hk : k < 3) {s : PD} (h : s ∈ stsAt k) : Sz s 8 400 ∧ LG (lineT s) := by
  have q : stSz s = true := by
    match k, hk with
    | 0, _ => exact List.all_eq_true.mp stz_0 s h
    | 1, _ => exact List.all_eq_true.mp stz_1 s h
    | 2, _ => exact List.all_eq_true.mp stz_2 s h
    | n + 3, h => omega
  unfold stSz at q
  have q := Bool.and_eq_true_iff.mp q
  exact ⟨.ofB q.1, .ofB q.2⟩
theorem rnd_sz : rndL.all (fun p => szB p.1 8 400 && (lgB p.2 && decide (0 < p.2.length))) = true := by decide +kernel
/-- all that is asked of a round -/
structure RL (r : PD) (l : Str) : Prop where
  ex : ∃ x y a b, r = .tuple [x, y] ∧ l = rLine a b ∧ a.length ≤ 100 ∧ b.length ≤ 100 ∧ (∀ m, 3 ≤ m → ∀ g, sem m 37 [x] g = .ok (.str a) g ∧ sem m 37 [y] g = .ok (.str b) g ∧ sem m 10 [x] g = .ok (.str a) g ∧ sem m 10 [y] g = .ok (.str b) g)
  told : ∀ m, 6 ≤ m → Told m l .none r
  sz : Sz r 8 400
  lg : LG l
  pos : 0 < l.length
theorem pur_any {n m f : Nat} {ds : List PD} {d : PD} (h : pur n f ds [] = .ok d []) (hm : n ≤ m) (g : List PD) : sem m f ds g = .ok d g := by
  have key : ∀ (n m f : Nat) (ds : List PD), n ≤ m → Pu (pur n f ds []) (sem m f ds) := by
    intro n
    induction n with
    | zero => intro m f ds _; exact trivial
    | succ n ih =>
      intro m f ds hm
      obtain ⟨k, rfl⟩ : ∃ k, m = k + 1 := ⟨m - 1, by omega⟩
      exact puNr (fun k' ds' => ih _ k' ds' (by omega)) (fun _ _ _ h => by cases h) f ds
  have q := key n m f ds hm
  rw [h] at q
  exact q.2 g
theorem rl_of {r : PD} {l : Str} (h : (r, l) ∈ rndL) : RL r l := by
  have h1 := List.all_eq_true.mp rnd_all _ h
  have h2 := List.all_eq_true.mp rnd_sz _ h
  simp only [Bool.and_eq_true, decide_eq_true_eq] at h2
  unfold rndOK at h1
  dsimp only at h1
  split at h1
  · rename_i x y
    simp only [Bool.and_eq_true] at h1
    obtain ⟨t1, t2, t3, t4, t5⟩ := h1
    split at t5
    · rename_i a b ea eb
      simp only [Bool.and_eq_true, beq_iff_eq] at t5
      obtain ⟨u1, u2, u3⟩ := t5
      have hl : l = rLine a b := u3
      have L := LG.ofB h2.2.1
      have len : (rLine a b).length ≤ 200 := by rw [← hl]; exact L.len
      have la : a.length + b.length + 7 ≤ 200 := by
        unfold rLine at len
        rw [strLen_append, strLen_append, strLen_append] at len
        have e1 : rWord.length = 6 := rfl
        have e2 : (⟨#[32]⟩ : Str).length = 1 := rfl
        omega
      have sh : ∀ p ∈ rndL, (match p.1 with | .tuple [x, y] => (match pur 3 37 [x] [], pur 3 37 [y] [] with | .ok (.str a) [], .ok (.str b) [] => decide (a.length ≤ 100) && decide (b.length ≤ 100) | _, _ => false) | _ => false) = true := by
        have z : rndL.all (fun p => match p.1 with | .tuple [x, y] => (match pur 3 37 [x] [], pur 3 37 [y] [] with | .ok (.str a) [], .ok (.str b) [] => decide (a.length ≤ 100) && decide (b.length ≤ 100) | _, _ => false) | _ => false) = true := by decide +kernel
        exact List.all_eq_true.mp z
      have sh := sh _ h
      dsimp only at sh
      rw [ea, eb] at sh
      have sh := Bool.and_eq_true_iff.mp sh
      refine ⟨⟨x, y, a, b, rfl, hl, of_decide_eq_true sh.1, of_decide_eq_true sh.2, fun m hm g => ⟨pur_any ea hm g, pur_any eb hm g, pur_any (of_okD u1) hm g, pur_any (of_okD u2) hm g⟩⟩, fun m hm g => ⟨told tb0 t1 (by omega) g, told tb0 t2 (by omega) g⟩, .ofB h2.1, L, h2.2.2⟩
    · cases t5
  · cases h1
end G

/-! The lap's events. -/
namespace G
open PySem PySem.Spec PyProof.Rows L2
theorem mm_list {f : PD → M PD} : ∀ (L : List (PD × PD)), (∀ p ∈ L, ∀ g, f p.1 g = .ok p.2 g) → ∀ g, mapM' f (L.map (·.1)) g = .ok (L.map (·.2)) g
  | [], _, g => rfl
  | p :: L, h, g => by
    rw [List.map_cons, List.map_cons]
    unfold mapM'
    exact bnd_ok (h p List.mem_cons_self g) (bnd_ok (mm_list L (fun q hq => h q (List.mem_cons_of_mem _ hq)) g) rfl)
/-- an event, its line -/
structure EvT (e : PD) (t : Str) : Prop where
  run : ∀ m, 10 ≤ m → ∀ g, sem m 21 [e] g = .ok (.str t) g
  lg : LG t
theorem text22 {L : List (PD × Str)} (h : ∀ p ∈ L, EvT p.1 p.2) (hl : L.length ≤ 10) {m : Nat} (hm : 10 ≤ m) (g : List PD) : sem (m + 1) 22 [.tuple (L.map (·.1))] g = .ok (.str (Txt.join nl (L.map (·.2)))) g := by
  rw [sem_stp]
  have e := mm_list (f := lcF (sem m) vkL (.call 21 (.cons (.var 1) .nil)) (.name 1) [1] [.d (.tuple (L.map (·.1))), .no]) (L.map fun p => (p.1, PyData.str p.2)) (fun q hq g => by
    obtain ⟨p, hp, rfl⟩ := List.mem_map.mp hq
    exact lcF_ok rfl (v_call (v_cons (v_var rfl) v_nil) ((h p hp).run m hm g))) g
  rw [List.map_map, List.map_map] at e
  have e1 : List.map ((fun x : PD × PD => x.1) ∘ fun p : PD × Str => (p.1, PyData.str p.2)) L = L.map (·.1) := rfl
  have e2 : List.map ((fun x : PD × PD => x.2) ∘ fun p : PD × Str => (p.1, PyData.str p.2)) L = (L.map (·.2)).map PyData.str := by rw [List.map_map]; rfl
  rw [e1, e2] at e
  refine w_F (n := 2) (b := ir22) (w_rt (w_ret (v_join' v_lit (v_lc (i_tup (v_var rfl)) (by rw [List.length_map]; omega) (by decide) e) (joinF_ok (sum_join (fun l hl2 => ?_) (by rw [List.length_map]; exact hl))))))
  obtain ⟨p, hp, rfl⟩ := List.mem_map.mp hl2
  exact (h p hp).lg
theorem span_e0 : okD (purT tab0 5 27 [.str ⟨#[]⟩] []) (.tuple [.tuple [], .none]) = true := by decide +kernel
theorem text_e0 : okD (purT tab0 5 19 [.tuple [.tuple [], .none]] []) (.str ⟨#[]⟩) = true := by decide +kernel
theorem emp_sz : szB (.tuple [.tuple [], .none]) 4 20 = true := by decide +kernel
section
variable {env : EnvD} {g : List PD}
theorem Ev.base {fs : List (Nat × Sl)} (E : Ev env fs) (h1 : lk fs 1 = some (.d dBag)) (h2 : lk fs 2 = some (.d badD)) : Ev env bs := ((Ev.nil E.len).cons (E.got 2 _ h2)).cons (E.got 1 _ h1)
theorem Rn.done {fs : List (Nat × Sl)} (E : Ev env fs) (h1 : lk fs 1 = some (.d dBag)) (h2 : lk fs 2 = some (.d badD)) (B : Bg g) : Rn .nil env g := ⟨env, g, w_nil, B, E.base h1 h2⟩
/-- what was told of the events -/
theorem p22 {L : List (PD × Str)} (E : Ev env [(19, .d (.list (L.map (·.1)))), (20, .d (.list ((L.map (·.2)).map PyData.str))), (1, .d dBag), (2, .d badD)]) (h : ∀ p ∈ L, EvT p.1 p.2) (hl : L.length ≤ 4) (B : Bg g) : Rn (tlB 22) env g := by
  have lg : ∀ l ∈ L.map (·.2), LG l := fun l hl2 => by
    obtain ⟨p, hp, rfl⟩ := List.mem_map.mp hl2
    exact (h p hp).lg
  have ll : (L.map (·.2)).length ≤ 10 := by rw [List.length_map]; omega
  refine Rn.pass (u_nt (v_alike (ds := [.str (Txt.join nl (L.map (·.2))), .tuple [.tuple [], .none], .str ⟨#[]⟩]) (g1 := g) ?_ ?_ (by show 3 ≤ 1000; decide) ?_)) (Rn.done E rfl rfl B)
  · refine v_cons (v_call (v_cons (v_blt (E.v rfl) rfl) v_nil) (text22 h (by omega) (by omega) g)) (v_cons (v_call (v_cons v_lit v_nil) (told tb0 span_e0 (by omega) g)) (v_cons (v_call (v_cons (v_tup (v_cons (v_tup v_nil (by decide)) (v_cons v_lit v_nil)) (by show 2 ≤ 1000; decide)) v_nil) (told tb0 text_e0 (by omega) g)) v_nil))
  · refine v_cons (v_join' v_lit (E.v rfl) (joinF_ok (sum_join lg ll))) (v_cons (v_tup (v_cons (v_tup v_nil (by decide)) (v_cons v_lit v_nil)) (by show 2 ≤ 1000; decide)) (v_cons v_lit v_nil))
  · refine (Sz.lst (Szs.cons (((text_sz lg ll)).mono (n' := 4) (by decide) (Nat.le_refl _)) (Szs.cons (Sz.ofB emp_sz) (Szs.cons (Sz.str (n := 4) (w := 0) (.of (by decide +kernel)) (Nat.zero_le _)) (Szs.nil (w := 0)))))).show (by decide) (by decide)
/-! ### one event -/
def nmsL : List Str := [⟨#[97, 97]⟩, ⟨#[98, 50]⟩]
def wrdL : List Str := [⟨#[98, 101, 103, 105, 110, 115]⟩, ⟨#[101, 110, 100, 115]⟩, ⟨#[102, 108, 97, 115, 104]⟩, ⟨#[103, 97, 112]⟩]
structure Ch where
  n : Str
  w : Str
  b : Bool
def chD (c : Ch) : PD := .tuple [.str c.n, .str c.w, .bool c.b]
def ChOk (c : Ch) : Prop := c.n ∈ nmsL ∧ c.w ∈ wrdL
def cma : Str := ⟨#[44, 32]⟩
def spc : Str := ⟨#[32]⟩
def chA (c : Ch) : Str := cma ++ c.n ++ spc ++ c.w
def chB (c : Ch) : Str := c.n ++ spc ++ c.w
theorem nw_lens : (nmsL.all fun l => decide (l.length ≤ 2) && lgB l) = true ∧ (wrdL.all fun l => decide (l.length ≤ 6) && lgB l) = true := by decide +kernel
theorem ChOk.lens {c : Ch} (h : ChOk c) : c.n.length ≤ 2 ∧ c.w.length ≤ 6 := by
  have a := List.all_eq_true.mp nw_lens.1 _ h.1
  have b := List.all_eq_true.mp nw_lens.2 _ h.2
  simp only [Bool.and_eq_true, decide_eq_true_eq] at a b
  exact ⟨a.1, b.1⟩
theorem ChOk.lg {c : Ch} (h : ChOk c) : LG c.n ∧ LG c.w := by
  have a := List.all_eq_true.mp nw_lens.1 _ h.1
  have b := List.all_eq_true.mp nw_lens.2 _ h.2
  simp only [Bool.and_eq_true, decide_eq_true_eq] at a b
  exact ⟨.ofB a.2, .ofB b.2⟩
theorem LG.app {a b : Str} (ha : LG a) (hb : LG b) (h : a.length + b.length ≤ 200) : LG (a ++ b) where
  nn := fun m => by
    rw [TL.tl_append] at m
    rcases List.mem_append.mp m with q | q
    · exact ha.nn q
    · exact hb.nn q
  len := by rw [strLen_append]; exact h
  sg := ha.sg.add hb.sg
theorem cma_lg : LG cma := .ofB (by decide +kernel)
theorem spc_lg : LG spc := .ofB (by decide +kernel)
theorem ChOk.a {c : Ch} (h : ChOk c) : LG (chA c) ∧ (chA c).length ≤ 11 := by
  obtain ⟨l1, l2⟩ := h.lens
  obtain ⟨g1, g2⟩ := h.lg
  have e1 : cma.length = 2 := rfl
  have e2 : spc.length = 1 := rfl
  have len : (chA c).length ≤ 11 := by
    unfold chA
    rw [strLen_append, strLen_append, strLen_append]
    omega
  refine ⟨?_, len⟩
  unfold chA
  exact ((cma_lg.app g1 (by omega)).app spc_lg (by rw [strLen_append]; omega)).app g2 (by rw [strLen_append, strLen_append]; omega)
/-- the line: the moment's text, then each change -/
def evS' (t : Str) : List Ch → Str
  | [] => t
  | c :: cs => evS' (t ++ chA c) cs
theorem Str.add_assoc' (a b c : Str) : a ++ b ++ c = a ++ (b ++ c) := TL.ext_tl (by rw [TL.tl_append, TL.tl_append, TL.tl_append, TL.tl_append, List.append_assoc])
theorem evS_app (t : Str) : ∀ (u : Str) (cs : List Ch), evS' (t ++ u) cs = t ++ evS' u cs
  | u, [] => rfl
  | u, c :: cs => by
    show evS' (t ++ u ++ chA c) cs = t ++ evS' (u ++ chA c) cs
    rw [Str.add_assoc', evS_app t (u ++ chA c) cs]
theorem evS_A (t : Str) : ∀ cs : List Ch, t ++ Str.join ⟨#[]⟩ (cs.map chA) = evS' t cs
  | [] => TL.ext_tl (by rw [TL.tl_append]; exact List.append_nil _)
  | [c] => rfl
  | c :: d :: cs => by
    have ih := evS_A (t ++ chA c) (d :: cs)
    show t ++ (chA c ++ ⟨#[]⟩ ++ Str.join ⟨#[]⟩ ((d :: cs).map chA)) = evS' (t ++ chA c) (d :: cs)
    rw [← ih]
    refine TL.ext_tl ?_
    simp only [TL.tl_append, List.append_assoc]
    rfl
theorem evS_B : ∀ (t : Str) (cs : List Ch), Str.join cma (t :: cs.map chB) = evS' t cs
  | t, [] => rfl
  | t, c :: cs => by
    show t ++ cma ++ Str.join cma (chB c :: cs.map chB) = evS' (t ++ chA c) cs
    rw [evS_B (chB c) cs, ← evS_app]
    congr 1
    refine TL.ext_tl ?_
    unfold chA chB
    simp only [TL.tl_append, List.append_assoc]
theorem evS_lg : ∀ (t : Str) (cs : List Ch), LG t → (∀ c ∈ cs, ChOk c) → t.length + cs.length * 11 ≤ 200 → LG (evS' t cs)
  | t, [], h, _, _ => h
  | t, c :: cs, h, hc, hl => by
    have q := (hc c List.mem_cons_self).a
    have hl2 : t.length + (cs.length + 1) * 11 ≤ 200 := hl
    refine evS_lg (t ++ chA c) cs (h.app q.1 (by omega)) (fun d hd => hc d (List.mem_cons_of_mem _ hd)) ?_
    rw [strLen_append]
    omega
theorem sum_small {n : Nat} {ls : List Str} (h : ∀ l ∈ ls, l.length ≤ n) (hl : ls.length ≤ 10) (hn : n ≤ 1000) {y : Str} (hy : y.length ≤ 10) : sumL ls + ls.length * y.length ≤ 16777216 := by
  have a := sum_le h
  have b : ls.length * n ≤ 10 * 1000 := Nat.mul_le_mul hl hn
  have c : ls.length * y.length ≤ 10 * 10 := Nat.mul_le_mul hl hy
  omega
theorem mom_lg : momT.all (fun p => lgB p.2) = true := by decide +kernel
theorem run21 {mo : PD} {t : Str} (ht : byD mo = some t) {cs : List Ch} (hc : ∀ c ∈ cs, ChOk c) (hl : cs.length ≤ 2) {m : Nat} (hm : 9 ≤ m) (g : List PD) : sem (m + 1) 21 [.tuple [mo, .tuple (cs.map chD)]] g = .ok (.str (evS' t cs)) g := by
  rw [sem_stp, ← evS_A]
  have e := mm_list (f := lcF (sem m) vkL (.op2 .addS (.op2 .addS (.op2 .addS (.lit (.str cma)) (.var 1)) (.lit (.str spc))) (.var 2)) (.tup (.cons (.name 1) (.cons (.name 2) (.cons (.name 3) .nil)))) [1, 2, 3] [.d (.tuple [mo, .tuple (cs.map chD)]), .no, .no, .no]) (cs.map fun c => (chD c, PyData.str (chA c))) (fun q hq g => by
    obtain ⟨c, hcm, rfl⟩ := List.mem_map.mp hq
    obtain ⟨l1, l2⟩ := (hc c hcm).lens
    have e1 : cma.length ≤ 2 := Nat.le_refl _
    have e2 : spc.length ≤ 1 := Nat.le_refl _
    exact lcF_ok rfl (v_op2 (v_op2 (v_op2 v_lit (v_var rfl) (addS_ok (fitL e1 l1 (by decide)))) v_lit (addS_ok (fitL (lenA e1 l1) e2 (by decide)))) (v_var rfl) (addS_ok (fitL (lenA (lenA e1 l1) e2) l2 (by decide))))) g
  rw [List.map_map, List.map_map] at e
  have e1 : List.map ((fun x : PD × PD => x.1) ∘ fun c : Ch => (chD c, PyData.str (chA c))) cs = cs.map chD := rfl
  have e2 : List.map ((fun x : PD × PD => x.2) ∘ fun c : Ch => (chD c, PyData.str (chA c))) cs = (cs.map chA).map PyData.str := by rw [List.map_map]; rfl
  rw [e1, e2] at e
  have la : ∀ l ∈ cs.map chA, l.length ≤ 11 := fun l hl => by
    obtain ⟨c, hcm, rfl⟩ := List.mem_map.mp hl
    exact (hc c hcm).a.2
  have ll : (cs.map chA).length ≤ 10 := by rw [List.length_map]; omega
  have jl : (Txt.join ⟨#[]⟩ (cs.map chA)).length ≤ 110 := by
    rw [TL.join_eq]
    refine Nat.le_trans (join_len la) ?_
    have : (⟨#[]⟩ : Str).length = 0 := rfl
    rw [this]
    exact Nat.mul_le_mul_right 11 ll
  refine w_F (n := 4) (b := ir21) (w_rt (w_ret (v_op2 (v_call (v_cons (v_op2 (v_var rfl) v_lit (atI_nat (j := 0) rfl)) v_nil) (told11 ht (by omega) g)) (v_join' v_lit (v_lc (i_tup (v_op2 (v_var rfl) v_lit (show opF .ixT _ _ = some (.tuple (cs.map chD)) from atI_nat (j := 1) rfl))) (by rw [List.length_map]; omega) (by decide) e) (joinF_ok (sum_small la ll (by decide) (by decide)))) ?_)))
  rw [addS_ok (fitL (byD_len ht) jl (by decide)), TL.join_eq]
/-- the event's line, told by the law -/
theorem told21 {fs : List (Nat × Sl)} (E : Ev env fs) {mo : PD} {t : Str} (ht : byD mo = some t) {cs : List Ch} (hc : ∀ c ∈ cs, ChOk c) (hl : cs.length ≤ 2) (h21 : lk fs 21 = some (.d mo)) (h22 : lk fs 22 = some (.d (.tuple (cs.map chD)))) (g : List PD) :
    evE (sem 20) vkL (.join (.lit (.str cma)) (.op2 .catL (.lst (.cons (.call 39 (.cons (.var 21) .nil)) .nil)) (.lc (.op2 .addS (.op2 .addS (.var 23) (.lit (.str spc))) (.var 25)) (.tup (.cons (.name 23) (.cons (.name 25) (.cons (.name 26) .nil)))) (.tup (.var 22)) [23, 25, 26]))) env g = .ok (.str (evS' t cs)) g := by
  rw [← evS_B]
  have e := mm_list (f := lcF (sem 20) vkL (.op2 .addS (.op2 .addS (.var 23) (.lit (.str spc))) (.var 25)) (.tup (.cons (.name 23) (.cons (.name 25) (.cons (.name 26) .nil)))) [23, 25, 26] env) (cs.map fun c => (chD c, PyData.str (chB c))) (fun q hq g => by
    obtain ⟨c, hcm, rfl⟩ := List.mem_map.mp hq
    obtain ⟨l1, l2⟩ := (hc c hcm).lens
    have e2 : spc.length ≤ 1 := Nat.le_refl _
    have E' := (((((E.set (i := 26) (by decide) .no).set (i := 25) (by decide) .no).set (i := 23) (by decide) .no).set (i := 23) (by decide) (.d (.str c.n))).set (i := 25) (by decide) (.d (.str c.w))).set (i := 26) (by decide) (.d (.bool c.b))
    exact lcF_ok rfl (v_op2 (v_op2 (E'.v rfl) v_lit (addS_ok (fitL l1 e2 (by decide)))) (E'.v rfl) (addS_ok (fitL (lenA l1 e2) l2 (by decide))))) g
  rw [List.map_map, List.map_map] at e
  have e1 : List.map ((fun x : PD × PD => x.1) ∘ fun c : Ch => (chD c, PyData.str (chB c))) cs = cs.map chD := rfl
  have e2 : List.map ((fun x : PD × PD => x.2) ∘ fun c : Ch => (chD c, PyData.str (chB c))) cs = (cs.map chB).map PyData.str := by rw [List.map_map]; rfl
  rw [e1, e2] at e
  refine v_join' (y := .list ((t :: cs.map chB).map PyData.str)) v_lit (v_op2 (v_lst (v_cons (v_call (v_cons (E.v h21) v_nil) (told39 ht (by omega) g)) v_nil) (by show 1 ≤ 1000; decide)) (v_lc (i_tup (E.v h22)) (by rw [List.length_map]; omega) (by decide) e) ?_) ?_
  · refine (if_pos ?_)
    refine Nat.le_trans (m := 3) ?_ (by decide)
    rw [List.length_map, List.length_map]
    show 1 + cs.length ≤ 3
    omega
  · rw [← TL.join_eq]
    refine joinF_ok (sum_small (n := 30) (fun l hl => ?_) (by rw [List.length_cons, List.length_map]; omega) (by decide) (by decide))
    rcases List.mem_cons.mp hl with rfl | hl
    · exact byD_len ht
    · obtain ⟨c, hcm, rfl⟩ := List.mem_map.mp hl
      obtain ⟨l1, l2⟩ := (hc c hcm).lens
      unfold chB
      rw [strLen_append, strLen_append]
      have : spc.length = 1 := rfl
      omega
end
end G

/-! The lap's events, drawn. -/
namespace G
open PySem PySem.Spec PyProof.Rows L2
theorem all_ch : ∀ (ys : List PD), (∀ y ∈ ys, ∃ c : Ch, y = chD c ∧ ChOk c) → ∃ cs : List Ch, ys = cs.map chD ∧ (∀ c ∈ cs, ChOk c) ∧ cs.length = ys.length
  | [], _ => ⟨[], rfl, fun _ h => (by cases h), rfl⟩
  | y :: ys, h => by
    obtain ⟨c, rfl, hc⟩ := h y List.mem_cons_self
    obtain ⟨cs, e, h1, h2⟩ := all_ch ys fun z hz => h z (List.mem_cons_of_mem _ hz)
    refine ⟨c :: cs, by rw [e]; rfl, fun d hd => ?_, by rw [List.length_cons, List.length_cons, h2]⟩
    rcases List.mem_cons.mp hd with rfl | hd
    · exact hc
    · exact h1 d hd
def bEv : Ss := match ssAt 18 lapB with | some (.fr _ _ b) => b | _ => .nil
def exCh : Ex := exOf (ssAt 1 bEv)
theorem chg_ok {env : EnvD} {fs : List (Nat × Sl)} (E : Ev env fs) (h1 : lk fs 1 = some (.d dBag)) {g : List PD} (B : Bg g) : ∃ (cs : List Ch) (g' : List PD), evE (sem 20) vkL exCh env g = .ok (.tuple (cs.map chD)) g' ∧ (∀ c ∈ cs, ChOk c) ∧ cs.length ≤ 2 ∧ Bg g' := by
  obtain ⟨c, g1, e1, a1, a2, b1⟩ := take_ok (n := 19) (m := 2) (by decide) (by decide) B
  obtain ⟨ns, hns, hl, hsl⟩ : ∃ ns : List Str, (∀ n ∈ ns, n ∈ nmsL) ∧ ns.length ≤ 2 ∧ slF .lst (.list (nmsL.map PyData.str)) none (some (1 + c)) = some (.list (ns.map PyData.str)) := by
    have : c = 0 ∨ c = 1 := by omega
    rcases this with rfl | rfl
    · exact ⟨[⟨#[97, 97]⟩], by decide, by decide, rfl⟩
    · exact ⟨nmsL, fun _ h => h, by decide, rfl⟩
  obtain ⟨ys, g2, e2, l2, p2, b2⟩ := mm_bag (f := lcF (sem 20) vkL (.tup (.cons (.var 23) (.cons (.call 32 (.cons (.var 1) (.cons (.lst (.cons (.lit (.str ⟨#[98, 101, 103, 105, 110, 115]⟩)) (.cons (.lit (.str ⟨#[101, 110, 100, 115]⟩)) (.cons (.lit (.str ⟨#[102, 108, 97, 115, 104]⟩)) (.cons (.lit (.str ⟨#[103, 97, 112]⟩)) .nil))))) .nil))) (.cons (.op2 .eqD (.call 31 (.cons (.var 1) (.cons (.lit (.int 2)) .nil))) (.lit (.int 0))) .nil)))) (.name 23) [23] env) (P := fun _ y => ∃ c : Ch, y = chD c ∧ ChOk c) (ns.map PyData.str) (fun d hd g B => by
    obtain ⟨nm, hn, rfl⟩ := List.mem_map.mp hd
    obtain ⟨x, g3, e3, hx, b3⟩ := some_ok (m := 18) (xs := wrdL.map PyData.str) (by decide) (by decide) B
    obtain ⟨b, g4, e4, c1, c2, b4⟩ := take_ok (n := 19) (m := 2) (by decide) (by decide) b3
    obtain ⟨w, hw, rfl⟩ := List.mem_map.mp hx
    have E' := (E.set (i := 23) (by decide) .no).set (i := 23) (by decide) (.d (.str nm))
    have q1 : lk ((23, Sl.d (.str nm)) :: (23, .no) :: fs) 1 = some (.d dBag) := h1
    refine ⟨chD ⟨nm, w, b == 0⟩, g4, lcF_ok rfl (v_tup (v_cons (E'.v rfl) (v_cons (v_call (v_cons (E'.v q1) (v_cons (v_lst (v_cons v_lit (v_cons v_lit (v_cons v_lit (v_cons v_lit v_nil)))) (by show 4 ≤ 1000; decide)) v_nil)) e3) (v_cons (v_op2 (v_call (v_cons (E'.v q1) (v_cons v_lit v_nil)) e4) v_lit (eqI b 0)) v_nil))) (by show 3 ≤ 1000; decide)), ⟨_, rfl, hns nm hn, hw⟩, b4⟩) g1 b1
  rw [List.length_map] at l2
  obtain ⟨cs, e3, h3, h4⟩ := all_ch ys fun y hy => by
    obtain ⟨x, hx⟩ := mem_zip_r (xs := ns.map PyData.str) (by rw [List.length_map]; exact l2) hy
    exact p2 _ hx
  subst e3
  refine ⟨cs, g2, v_blt (v_lc (i_list (v_sl (v_lst (v_cons v_lit (v_cons v_lit v_nil)) (by show 2 ≤ 1000; decide)) v_on (v_os (v_op2 v_lit (v_call (v_cons (E.v h1) (v_cons v_lit v_nil)) e1) rfl)) hsl)) (by rw [List.length_map]; omega) (by decide) e2) rfl, h3, by omega, b2⟩
theorem byD_lg {d : PD} {t : Str} (h : byD d = some t) : LG t := .ofB (List.all_eq_true.mp mom_lg _ (byD_mem h))
/-- what a turn keeps -/
def IEv (j : Nat) (env : EnvD) : Prop := ∃ L : List (PD × Str), L.length = j ∧ (∀ p ∈ L, EvT p.1 p.2) ∧ Ev env [(19, .own (L.map (·.1))), (20, .own ((L.map (·.2)).map PyData.str)), (1, .d dBag), (2, .d badD)]
theorem turnEv {j : Nat} (hj : j < 3) {env : EnvD} {g : List PD} (B : Bg g) (hI : IEv j env) : ∃ e2 g', evSs (sem 20) vkL bEv (env.set 9 (.d (.int (j : Nat)))) g = .ok (.nx e2) g' ∧ Bg g' ∧ IEv (j + 1) e2 := by
  obtain ⟨L, hl, hL, E⟩ := hI
  have E1 := E.set (i := 9) (by decide) (.d (.int (j : Nat)))
  obtain ⟨mo, g1, e1, hm, b1⟩ := moment_ok (m := 17) (k := j) B
  obtain ⟨t, ht⟩ := mom_told (by omega) hm
  have E2 := E1.set (i := 21) (by decide) (.d mo)
  obtain ⟨cs, g2, e2, hc, hcl, b2⟩ := chg_ok E2 rfl b1
  have E3 := E2.set (i := 22) (by decide) (.d (.tuple (cs.map chD)))
  have E4 := E3.set (i := 19) (by decide) (.own (L.map (·.1) ++ [.tuple [mo, .tuple (cs.map chD)]]))
  have E5 := E4.set (i := 20) (by decide) (.own ((L.map (·.2)).map PyData.str ++ [.str (evS' t cs)]))
  refine ⟨_, g2, w_nx (w_set (v_call (v_cons (E1.v rfl) (v_cons (E1.v rfl) v_nil)) e1)) (w_nx (w_set e2) (w_nx (w_app (E3.got 19 _ rfl) (by rw [List.length_map]; omega) (v_tup (v_cons (E3.v rfl) (v_cons (E3.v rfl) v_nil)) (by show 2 ≤ 1000; decide))) (w_nx (w_app (E4.got 20 _ rfl) (by rw [List.length_map, List.length_map]; omega) (told21 E4 ht hc hcl rfl rfl g2)) w_nil))), b2, L ++ [(.tuple [mo, .tuple (cs.map chD)], evS' t cs)], by rw [List.length_append, hl]; rfl, fun p hp => ?_, ?_⟩
  · rcases List.mem_append.mp hp with q | q
    · exact hL p q
    · rw [List.mem_singleton.mp q]
      refine ⟨fun m hm g => ?_, evS_lg t cs (byD_lg ht) hc ?_⟩
      · obtain ⟨k, rfl⟩ : ∃ k, m = k + 1 := ⟨m - 1, by omega⟩
        exact run21 ht hc hcl (by omega) g
      · have := byD_len ht
        omega
  · have q1 := E5.got 20 _ rfl
    have q2 := E5.got 19 _ rfl
    have q3 := E5.got 1 _ rfl
    have q4 := E5.got 2 _ rfl
    rw [List.map_append, List.map_append, List.map_append]
    exact (((Ev.nil E5.len).cons q4).cons q3).cons q1 |>.cons q2
theorem p19 {env : EnvD} {g : List PD} (E : Ev env [(20, .own []), (19, .own []), (1, .d dBag), (2, .d badD)]) (B : Bg g) : Rn (tlB 19) env g := by
  obtain ⟨r, g1, e1, a1, a2, b1⟩ := take_ok (n := 19) (m := 4) (by decide) (by decide) B
  obtain ⟨n, rfl⟩ : ∃ n : Nat, r = (n : Int) := ⟨r.toNat, by omega⟩
  have hn : n < 4 := by omega
  have E0 : Ev env [(19, .own []), (20, .own []), (1, .d dBag), (2, .d badD)] := (((Ev.nil E.len).cons (E.got 2 _ rfl)).cons (E.got 1 _ rfl)).cons (E.got 20 _ rfl) |>.cons (E.got 19 _ rfl)
  obtain ⟨env', g2, h2, b2, I2⟩ := fr_bag (tg := .name 9) (body := fun e => evSs (sem 20) vkL bEv e) (I := IEv) ((List.range n).map fun k => .int (k : Nat)) 0 env g1 b1 ⟨[], rfl, fun _ h => (by cases h), E0⟩ (fun j d hd env g B hI => by
    rw [List.getElem?_map] at hd
    obtain ⟨k, hk, rfl⟩ := Option.map_eq_some_iff.mp hd
    obtain ⟨hk1, hk2⟩ := List.getElem?_eq_some_iff.mp hk
    rw [List.length_range] at hk1
    rw [List.getElem_range] at hk2
    subst hk2
    rw [Nat.zero_add] at hI ⊢
    obtain ⟨e2, g', h1, h2, h3⟩ := turnEv (by omega) B hI
    exact ⟨_, e2, g', rfl, h1, h2, h3⟩)
  obtain ⟨L, hl, hL, E2⟩ := I2
  rw [List.length_map, List.length_range] at hl
  refine Rn.st (w_fr (i_range (v_call (v_cons (E.v rfl) (v_cons v_lit v_nil)) e1) (by omega)) h2) ?_
  refine Rn.frz (E2.got 19 _ rfl) ?_
  have E3 := E2.set (i := 19) (by decide) (.d (.list (L.map (·.1))))
  refine Rn.frz (E3.got 20 _ rfl) ?_
  have E4 := E3.set (i := 20) (by decide) (.d (.list ((L.map (·.2)).map PyData.str)))
  exact p22 ((((Ev.nil E4.len).cons (E4.got 2 _ rfl)).cons (E4.got 1 _ rfl)).cons (E4.got 20 _ rfl) |>.cons (E4.got 19 _ rfl)) hL (by omega) b2
theorem p18 {env : EnvD} {g : List PD} (E : Ev env bs) (B : Bg g) : Rn (tlB 18) env g := by
  refine Rn.st (w_par (s := .own []) (t := .own []) (v_lst v_nil (by decide)) (v_lst v_nil (by decide)) rfl rfl ⟨by rw [E.len]; decide, by rw [E.len]; decide, by decide⟩) ?_
  exact p19 ((E.set (i := 19) (by decide) (.own [])).set (i := 20) (by decide) (.own [])) B
end G

/-! The lap's clock. -/
namespace G
open PySem PySem.Spec PyProof.Rows L2
theorem clk_at : ∀ j : Nat, j < 40 → rateL.all (fun r => clkOK ptsL[j]! r) = true := fun j hj => match j, hj with
  | 0, _ => clk_0
  | 1, _ => clk_1
  | 2, _ => clk_2
  | 3, _ => clk_3
  | 4, _ => clk_4
  | 5, _ => clk_5
  | 6, _ => clk_6
  | 7, _ => clk_7
  | 8, _ => clk_8
  | 9, _ => clk_9
  | 10, _ => clk_10
  | 11, _ => clk_11
  | 12, _ => clk_12
  | 13, _ => clk_13
  | 14, _ => clk_14
  | 15, _ => clk_15
  | 16, _ => clk_16
  | 17, _ => clk_17
  | 18, _ => clk_18
  | 19, _ => clk_19
  | 20, _ => clk_20
  | 21, _ => clk_21
  | 22, _ => clk_22
  | 23, _ => clk_23
  | 24, _ => clk_24
  | 25, _ => clk_25
  | 26, _ => clk_26
  | 27, _ => clk_27
  | 28, _ => clk_28
  | 29, _ => clk_29
  | 30, _ => clk_30
  | 31, _ => clk_31
  | 32, _ => clk_32
  | 33, _ => clk_33
  | 34, _ => clk_34
  | 35, _ => clk_35
  | 36, _ => clk_36
  | 37, _ => clk_37
  | 38, _ => clk_38
  | 39, _ => clk_39
  | n + 40, h => absurd h (by omega)
theorem clk_ok {ps : List PD} {r : PD} (hp : ps ∈ ptsL) (hr : r ∈ rateL) : clkOK ps r = true := by
  obtain ⟨i, hi, rfl⟩ := List.getElem_of_mem hp
  have q := List.all_eq_true.mp (clk_at i hi) r hr
  rw [getElem!_pos ptsL i hi] at q
  exact q
/-- a line without a line feed -/
def odB (l : Str) : Bool := l.cps.toList.all (fun c => !(c == 10)) && decide (l.length ≤ 4000)
theorem odB_ok {l : Str} (h : odB l = true) : 10 ∉ TL.tl l ∧ l.length ≤ 4000 := by
  unfold odB at h
  simp only [Bool.and_eq_true, decide_eq_true_eq, List.all_eq_true] at h
  refine ⟨fun m => ?_, h.2⟩
  have q := h.1 10 m
  simp at q
def oddA (row : Str) : Str := row ++ ⟨#[59]⟩
def oddB (row : Str) : Str := cutS row none (some (-1)) ++ ⟨#[120]⟩
def oddC (row : Str) : Str := Txt.replace row ⟨#[114, 97, 116, 101]⟩ ⟨#[82, 97, 116, 101]⟩
def rowB (row : Str) : Bool := odB (oddA row) && (odB (oddB row) && (odB (oddC row) && lgB row))
theorem row_all : ptsL.all (fun ps => rateL.all fun r => rowB (rowT ps r)) = true := by decide +kernel
def oddL : List Str := [⟨#[114, 97, 116, 101, 32, 49]⟩, ⟨#[48, 32, 48, 32, 48, 59, 32, 114, 97, 116, 101, 32, 49]⟩, ⟨#[48, 32, 48, 59, 32, 114, 97, 116, 101]⟩, ⟨#[48, 32, 48, 59, 32, 114, 97, 116, 101, 32, 49, 32, 50]⟩, ⟨#[48, 32, 48, 59, 114, 97, 116, 101, 32, 49]⟩, ⟨#[48, 32, 48, 59, 32, 114, 97, 116, 101, 32, 50, 47, 50]⟩]
theorem odd_all : oddL.all (fun l => okD (purT tab0 8 28 [.str l] []) .none && odB l) = true := by decide +kernel
/-- an odd text is no clock's -/
def Odd (l : Str) : Prop := 10 ∉ TL.tl l ∧ l.length ≤ 4000 ∧ ∀ m, 12 ≤ m → ∀ g, sem m 28 [.str l] g = .ok .none g
theorem Odd.x {l : Str} (h : Odd l) {m : Nat} (hm : 12 ≤ m) (g : List PD) : sem (m + 2) 29 [.str l] g = .exn 1 1 g := readN (.inr ⟨rfl, rfl⟩) h.1 h.2.1 (h.2.2 m hm) g
theorem oddL_ok {l : Str} (h : l ∈ oddL) : Odd l := by
  have q := Bool.and_eq_true_iff.mp (List.all_eq_true.mp odd_all l h)
  have q2 := odB_ok q.2
  exact ⟨q2.1, q2.2, fun m hm g => told tb0 q.1 (by omega) g⟩
/-- all that is asked of a clock and its row -/
structure CL (ps : List PD) (r : PD) (row : Str) : Prop where
  txt : ∀ m, 12 ≤ m → ∀ g, sem m 20 [.tuple [.tuple ps, r]] g = .ok (.str row) g
  rd : ∀ m, 12 ≤ m → ∀ g, sem m 28 [.str row] g = .ok (.tuple [.tuple ps, r]) g
  a : Odd (oddA row)
  b : Odd (oddB row)
  c : Odd (oddC row)
  lg : LG row
  sh : showOk (.list [.str row, .tuple [.tuple ps, r]]) = true
theorem cl_of {ps : List PD} {r : PD} (hp : ps ∈ ptsL) (hr : r ∈ rateL) : CL ps r (rowT ps r) := by
  have h := clk_ok hp hr
  unfold clkOK at h
  simp only [Bool.and_eq_true] at h
  have q := List.all_eq_true.mp (List.all_eq_true.mp row_all ps hp) r hr
  unfold rowB at q
  simp only [Bool.and_eq_true] at q
  refine ⟨fun m hm g => told tbF h.1 (by omega) g, fun m hm g => told tbF h.2.1 (by omega) g, ⟨(odB_ok q.1).1, (odB_ok q.1).2, fun m hm g => told tbF h.2.2.1 (by omega) g⟩, ⟨(odB_ok q.2.1).1, (odB_ok q.2.1).2, fun m hm g => told tbF h.2.2.2.1 (by omega) g⟩, ⟨(odB_ok q.2.2.1).1, (odB_ok q.2.2.1).2, fun m hm g => told tbF h.2.2.2.2.1 (by omega) g⟩, .ofB q.2.2.2, h.2.2.2.2.2.2⟩
theorem v_repl {Fn : Nat → List PD → M PD} {vk : List Nat} {env : EnvD} {g g1 : List PD} {a : Ex} {w y z : Str} (h : evE Fn vk a env g = .ok (.str w) g1) (l : w.length + (w.length + 1) * z.length ≤ 16777216) : evE Fn vk (.repl a y z) env g = .ok (.str (Txt.replace w y z)) g1 := by
  unfold evE
  refine bnd_ok h ?_
  show (if w.length + (w.length + 1) * z.length ≤ 16777216 then ret (PyData.str (Txt.replace w y z)) else stk) g1 = _
  rw [if_pos l]
  rfl
theorem app_e (l : Str) : l ++ nl ++ ⟨#[]⟩ = l ++ nl := TL.ext_tl (by rw [TL.tl_append]; exact List.append_nil _)
def bOd : Ss := match ssAt 16 lapB with | some (.fr _ _ b) => b | _ => .nil
section
variable {env : EnvD} {g : List PD} {ps : List PD} {r : PD} {row : Str}
theorem p17 (C : CL ps r row) (E : Ev env [(11, .d (.str row)), (1, .d dBag), (2, .d badD)]) (B : Bg g) : Rn (tlB 17) env g := by
  have rl := C.lg.len
  have l1 : ∀ c : Nat, (⟨#[c]⟩ : Str).length ≤ 1 := fun _ => Nat.le_refl _
  have cl : (cutS row none (some (-1))).length ≤ 200 := by
    refine Nat.le_trans ?_ rl
    rw [TL.len_tl, TL.len_tl row]
    show ((((TL.tl row).drop _).take _).toArray.toList).length ≤ _
    rw [List.length_take, List.length_drop]
    omega
  have fit : row.length ≤ sizeLine := Nat.le_trans rl (by decide)
  have sl : slF .str (.str row) none (some (-1)) = some (.str (cutS row none (some (-1)))) := if_pos fit
  have ev : evI (sem 20) vkL (match ssAt 16 lapB with | some (.fr _ it _) => it | _ => .tup (.lit .none)) env g = .ok ([⟨#[114, 97, 116, 101, 32, 49]⟩, oddA row, oddB row, ⟨#[48, 32, 48, 32, 48, 59, 32, 114, 97, 116, 101, 32, 49]⟩, ⟨#[48, 32, 48, 59, 32, 114, 97, 116, 101]⟩, ⟨#[48, 32, 48, 59, 32, 114, 97, 116, 101, 32, 49, 32, 50]⟩, ⟨#[48, 32, 48, 59, 114, 97, 116, 101, 32, 49]⟩, ⟨#[48, 32, 48, 59, 32, 114, 97, 116, 101, 32, 50, 47, 50]⟩, oddC row].map PyData.str) g := by
    refine i_tup (v_tup (v_cons v_lit (v_cons (v_op2 (E.v rfl) v_lit (addS_ok (fitL rl (l1 _) (by decide)))) (v_cons (v_op2 (v_sl (E.v rfl) v_on (v_os (v_neg v_lit)) sl) v_lit (addS_ok (fitL cl (l1 _) (by decide)))) (v_cons v_lit (v_cons v_lit (v_cons v_lit (v_cons v_lit (v_cons v_lit (v_cons (v_repl (E.v rfl) ?_) v_nil))))))))) (by show 9 ≤ 1000; decide))
    show row.length + (row.length + 1) * 4 ≤ 16777216
    omega
  have od : ∀ d ∈ ([⟨#[114, 97, 116, 101, 32, 49]⟩, oddA row, oddB row, ⟨#[48, 32, 48, 32, 48, 59, 32, 114, 97, 116, 101, 32, 49]⟩, ⟨#[48, 32, 48, 59, 32, 114, 97, 116, 101]⟩, ⟨#[48, 32, 48, 59, 32, 114, 97, 116, 101, 32, 49, 32, 50]⟩, ⟨#[48, 32, 48, 59, 114, 97, 116, 101, 32, 49]⟩, ⟨#[48, 32, 48, 59, 32, 114, 97, 116, 101, 32, 50, 47, 50]⟩, oddC row] : List Str), Odd d := by
    intro d hd
    have ol := @oddL_ok
    unfold oddL at ol
    simp only [List.mem_cons, List.not_mem_nil, or_false] at hd ol
    rcases hd with h | h | h | h | h | h | h | h | h <;> subst h
    · exact ol (.inl rfl)
    · exact C.a
    · exact C.b
    · exact ol (.inr (.inl rfl))
    · exact ol (.inr (.inr (.inl rfl)))
    · exact ol (.inr (.inr (.inr (.inl rfl))))
    · exact ol (.inr (.inr (.inr (.inr (.inl rfl)))))
    · exact ol (.inr (.inr (.inr (.inr (.inr rfl)))))
    · exact C.c
  obtain ⟨env', h, E'⟩ := fr_keep (tg := .name 12) (body := fun e => evSs (sem 20) vkL bOd e) (I := fun env => Ev env [(11, .d (.str row)), (1, .d dBag), (2, .d badD)]) _ env g E (fun d hd env E => by
    obtain ⟨l, hl, rfl⟩ := List.mem_map.mp hd
    have E1 := E.set (i := 12) (by decide) (.d (.str l))
    exact ⟨_, _, rfl, fun g => w_nx (w_ife (k := false) (u_nt (v_refd (E1.v rfl) v_lit ((od l hl).x (m := 17) (by decide) g) (show_l (n := 1) (by decide)))) (ifF.trans w_nil)) w_nil, (((Ev.nil E1.len).cons (E1.got 2 _ rfl)).cons (E1.got 1 _ rfl)).cons (E1.got 11 _ rfl)⟩)
  exact Rn.st (w_fr ev h) (p18 (E'.base rfl rfl) B)
theorem p16 (C : CL ps r row) (E : Ev env [(11, .d (.str row)), (10, .d (.tuple [.tuple ps, r])), (1, .d dBag), (2, .d badD)]) (B : Bg g) : Rn (tlB 16) env g := by
  have rl := C.lg.len
  have e1 : nl.length ≤ 1 := Nat.le_refl _
  have h18 := readL (m := 18) (f := 29) (k := 28) (.inr ⟨rfl, rfl⟩) C.lg.nn (by omega) rfl (C.rd 18 (by decide)) g
  have h17 := readL (m := 17) (f := 29) (k := 28) (.inr ⟨rfl, rfl⟩) C.lg.nn (by omega) rfl (C.rd 17 (by decide)) g
  have hx := h17.2 ⟨#[]⟩ (fun m => by cases m) (by decide)
  rw [app_e] at hx
  refine Rn.pass (u_orF (u_nt (v_alike (v_cons (v_call (v_cons (E.v rfl) v_nil) (C.txt 20 (by decide) g)) (v_cons (v_call (v_cons (E.v rfl) v_nil) h18.1) v_nil)) (v_cons (E.v rfl) (v_cons (E.v rfl) v_nil)) (by show 2 ≤ 1000; decide) C.sh)) (u_nt (v_refd (v_op2 (E.v rfl) v_lit (addS_ok (fitL rl e1 (by decide)))) v_lit hx (show_l (n := 2) (by decide))))) ?_
  exact p17 C ((((Ev.nil E.len).cons (E.got 2 _ rfl)).cons (E.got 1 _ rfl)).cons (E.got 11 _ rfl)) B
end
/-! ### the row -/
def pairB (p : PD) : Bool := match p with | .tuple [a, b] => (byFD a).isSome && (byFD b).isSome | _ => false
theorem pts_fr : ptsL.all (fun ps => ps.all pairB && decide (ps.length ≤ 4)) = true := by decide +kernel
theorem rate_fr : rateL.all (fun r => (byFD r).isSome) = true := by decide +kernel
theorem fr_len : frT.all (fun p => decide (p.2.length ≤ 8)) = true := by decide +kernel
theorem byFD_len {d : PD} {t : Str} (h : byFD d = some t) : t.length ≤ 8 := of_decide_eq_true (List.all_eq_true.mp fr_len _ (byFD_mem h))
theorem told37 {d : PD} {t : Str} (h : byFD d = some t) {m : Nat} (hm : 6 ≤ m) (g : List PD) : sem m 37 [d] g = .ok (.str t) g := tbF 37 [d] (.str t) (by show (byFD d).map PyData.str = _; rw [h]; rfl) m hm g
theorem txtF_of {d : PD} {t : Str} (h : byFD d = some t) : txtF d = t := by unfold txtF; rw [h]; rfl
def exRow : Ex := exOf (ssAt 14 lapB)
section
variable {env : EnvD} {g : List PD} {ps : List PD} {r : PD}
theorem row_ok (hp : ps ∈ ptsL) (hr : r ∈ rateL) {fs : List (Nat × Sl)} (E : Ev env fs) (h10 : lk fs 10 = some (.d (.tuple [.tuple ps, r]))) : evE (sem 20) vkL exRow env g = .ok (.str (rowT ps r)) g := by
  have hp1 := Bool.and_eq_true_iff.mp (List.all_eq_true.mp pts_fr ps hp)
  have pl : ps.length ≤ 4 := of_decide_eq_true hp1.2
  have e1 : spc.length ≤ 1 := Nat.le_refl _
  obtain ⟨tr, htr⟩ := Option.isSome_iff_exists.mp (List.all_eq_true.mp rate_fr r hr)
  have pt : ∀ d ∈ ps, (∀ g, lcF (sem 20) vkL (.op2 .addS (.op2 .addS (.call 37 (.cons (.var 24) .nil)) (.lit (.str spc))) (.call 37 (.cons (.var 20) .nil))) (.tup (.cons (.name 24) (.cons (.name 20) .nil))) [24, 20] env d g = .ok (.str (ptT d)) g) ∧ (ptT d).length ≤ 17 := by
    intro d hd
    have q := List.all_eq_true.mp hp1.1 d hd
    unfold pairB at q
    split at q
    · rename_i a b
      obtain ⟨qa, qb⟩ := Bool.and_eq_true_iff.mp q
      obtain ⟨ta, ha⟩ := Option.isSome_iff_exists.mp qa
      obtain ⟨tb, hb⟩ := Option.isSome_iff_exists.mp qb
      have la := byFD_len ha
      have lb := byFD_len hb
      have E' := (((E.set (i := 20) (by decide) .no).set (i := 24) (by decide) .no).set (i := 24) (by decide) (.d a)).set (i := 20) (by decide) (.d b)
      have ep : ptT (.tuple [a, b]) = ta ++ spc ++ tb := by
        show txtF a ++ spc ++ txtF b = _
        rw [txtF_of ha, txtF_of hb]
      rw [ep]
      refine ⟨fun g => lcF_ok rfl (v_op2 (v_op2 (v_call (v_cons (E'.v rfl) v_nil) (told37 ha (by decide) g)) v_lit (addS_ok (fitL la e1 (by decide)))) (v_call (v_cons (E'.v rfl) v_nil) (told37 hb (by decide) g)) (addS_ok (fitL (lenA la e1) lb (by decide)))), ?_⟩
      exact lenA (lenA la e1) lb
    · cases q
  have e := mm_pure (h := fun d => .str (ptT d)) ps (fun d hd g => (pt d hd).1 g) g
  have lr := byFD_len htr
  have e5 : (⟨#[114, 97, 116, 101, 32]⟩ : Str).length ≤ 5 := Nat.le_refl _
  have em : ps.map (fun d => PyData.str (ptT d)) = (ps.map ptT).map PyData.str := by rw [List.map_map]; rfl
  rw [em] at e
  refine v_join' (y := .list ((ps.map ptT ++ [(⟨#[114, 97, 116, 101, 32]⟩ : Str) ++ txtF r]).map PyData.str)) v_lit (v_op2 (v_lc (i_tup (v_op2 (E.v h10) v_lit (show opF .ixT _ _ = some (.tuple ps) from atI_nat (j := 0) rfl))) (by omega) (by decide) e) (v_lst (v_cons (v_op2 v_lit (v_call (v_cons (v_op2 (E.v h10) v_lit (show opF .ixT _ _ = some r from atI_nat (j := 1) rfl)) v_nil) (told37 htr (by decide) g)) (addS_ok (fitL e5 lr (by decide)))) v_nil) (by show 1 ≤ 1000; decide)) ?_) ?_
  · rw [txtF_of htr, List.map_append]
    refine (if_pos ?_)
    refine Nat.le_trans (m := 5) ?_ (by decide)
    rw [List.length_map, List.length_map]
    show ps.length + 1 ≤ 5
    omega
  · refine joinF_ok (sum_small (n := 17) (fun l hl => ?_) (by rw [List.length_append, List.length_map]; show ps.length + 1 ≤ 10; omega) (by decide) (by decide))
    rcases List.mem_append.mp hl with q | q
    · obtain ⟨d, hd, rfl⟩ := List.mem_map.mp q
      exact (pt d hd).2
    · rw [List.mem_singleton.mp q, txtF_of htr]
      exact Nat.le_trans (lenA e5 lr) (by decide)
theorem p15 (hp : ps ∈ ptsL) (hr : r ∈ rateL) (E : Ev env [(10, .d (.tuple [.tuple ps, r])), (1, .d dBag), (2, .d badD)]) (B : Bg g) : Rn (tlB 15) env g :=
  Rn.set (row_ok hp hr E rfl) (p16 (cl_of hp hr) (E.set (i := 11) (by decide) _) B)
theorem p14 (hp : ps ∈ ptsL) (E : Ev env [(17, .d (.list ps)), (1, .d dBag), (2, .d badD)]) (B : Bg g) : Rn (tlB 14) env g := by
  obtain ⟨r, g1, e1, hr, b1⟩ := some_ok (m := 18) (xs := rateL) (by decide) (by decide) B
  have tw : ∀ {a b : Ex} {x y : PD} {env : EnvD}, evE (sem 20) vkL a env g = .ok x g → evE (sem 20) vkL b env g = .ok y g → evE (sem 20) vkL (.tup (.cons a (.cons b .nil))) env g = .ok (.tuple [x, y]) g := fun ha hb => v_tup (v_cons ha (v_cons hb v_nil)) (by show 2 ≤ 1000; decide)
  refine Rn.set (v_tup (v_cons (v_blt (E.v rfl) rfl) (v_cons (v_call (v_cons (E.v rfl) (v_cons (v_lst (v_cons (tw v_lit v_lit) (v_cons (tw v_lit v_lit) (v_cons (tw v_lit v_lit) (v_cons (tw (v_neg v_lit) v_lit) v_nil)))) (by show 4 ≤ 1000; decide)) v_nil)) e1) v_nil)) (by show 2 ≤ 1000; decide)) ?_
  have E' := E.set (i := 10) (by decide) (.d (.tuple [.tuple ps, r]))
  exact p15 hp hr ((((Ev.nil E'.len).cons (E'.got 2 _ rfl)).cons (E'.got 1 _ rfl)).cons (E'.got 10 _ rfl)) b1
/-! ### the points -/
def lastSh (ps : List PD) : PD := match ps.getLast? with | some (.tuple [_, b]) => b | _ => .none
def stepL : List PD := [fr 1 2, fr 2 1, fr 1 3]
def stepB (ps : List PD) (s : PD) : Bool := match purT tab0 5 36 [lastSh ps, s] [] with | .ok d [] => ptsL.any (fun qs => sameDs qs (ps ++ [.tuple [fr ps.length 1, d]])) | _ => false
theorem pts_step : ptsL.all (fun ps => decide (4 ≤ ps.length) || stepL.all (stepB ps)) = true := by decide +kernel
theorem step_pt (hp : ps ∈ ptsL) (hl : ps.length < 4) {s : PD} (hs : s ∈ stepL) : ∃ d, (∀ m, 5 ≤ m → ∀ g, sem m 36 [lastSh ps, s] g = .ok d g) ∧ ps ++ [.tuple [fr ps.length 1, d]] ∈ ptsL ∧ lastSh (ps ++ [.tuple [fr ps.length 1, d]]) = d := by
  have q := List.all_eq_true.mp pts_step ps hp
  rw [decide_eq_false (by omega), Bool.false_or] at q
  have q := List.all_eq_true.mp q s hs
  unfold stepB at q
  split at q
  · rename_i d ed
    obtain ⟨qs, hq, hs2⟩ := List.any_eq_true.mp q
    refine ⟨d, fun m hm g => ?_, by rw [← sameDs_eq' _ _ hs2]; exact hq, ?_⟩
    · have z := puT_ok tb0 5 m 36 [lastSh ps, s] (by omega)
      rw [ed] at z
      exact z.2 g
    · unfold lastSh
      rw [List.getLast?_append]
      rfl
  · cases q
def bPt : Ss := match ssAt 12 lapB with | some (.fr _ _ b) => b | _ => .nil
def IPt (j : Nat) (env : EnvD) : Prop := ∃ ps, ps ∈ ptsL ∧ ps.length = j + 1 ∧ Ev env [(17, .own ps), (18, .d (lastSh ps)), (1, .d dBag), (2, .d badD)]
theorem turnPt {j : Nat} (hj : j < 3) (B : Bg g) (hI : IPt j env) : ∃ e2 g', evSs (sem 20) vkL bPt (env.set 9 (.d (.int (j : Nat)))) g = .ok (.nx e2) g' ∧ Bg g' ∧ IPt (j + 1) e2 := by
  obtain ⟨ps, hp, hl, E⟩ := hI
  have E1 := E.set (i := 9) (by decide) (.d (.int (j : Nat)))
  obtain ⟨s, g1, e1, hs, b1⟩ := some_ok (m := 18) (xs := stepL) (by decide) (by decide) B
  obtain ⟨d, hd, hq, hla⟩ := step_pt hp (by omega) hs
  have E2 := E1.set (i := 18) (by decide) (.d d)
  have E3 := E2.set (i := 17) (by decide) (.own (ps ++ [.tuple [fr ((j : Nat) + 1) 1, d]]))
  have tw : ∀ {a b : Ex} {x y : PD} {env : EnvD} {g : List PD}, evE (sem 20) vkL a env g = .ok x g → evE (sem 20) vkL b env g = .ok y g → evE (sem 20) vkL (.tup (.cons a (.cons b .nil))) env g = .ok (.tuple [x, y]) g := fun ha hb => v_tup (v_cons ha (v_cons hb v_nil)) (by show 2 ≤ 1000; decide)
  have el : fr ((j : Nat) + 1) 1 = fr (ps.length : Nat) 1 := by rw [hl]; rfl
  refine ⟨_, g1, w_nx (w_set (v_call (v_cons (E1.v rfl) (v_cons (v_call (v_cons (E1.v rfl) (v_cons (v_lst (v_cons (tw v_lit v_lit) (v_cons (tw v_lit v_lit) (v_cons (tw v_lit v_lit) v_nil))) (by show 3 ≤ 1000; decide)) v_nil)) e1) v_nil)) (hd 20 (by decide) g1))) (w_nx (w_app (E2.got 17 _ rfl) (by omega) (tw (tw (v_op2 (E2.v rfl) v_lit rfl) v_lit) (E2.v rfl))) w_nil), b1, ps ++ [.tuple [fr ((j : Nat) + 1) 1, d]], ?_, by rw [List.length_append, hl]; rfl, ?_⟩
  · rw [el]; exact hq
  · have q18 := E3.got 18 _ rfl
    have hla' : lastSh (ps ++ [.tuple [fr ((j : Nat) + 1) 1, d]]) = d := by rw [el]; exact hla
    rw [hla']
    exact (((Ev.nil E3.len).cons (E3.got 2 _ rfl)).cons (E3.got 1 _ rfl)).cons q18 |>.cons (E3.got 17 _ rfl)
theorem p12 (E : Ev env [(17, .own [.tuple [fr 0 1, fr 0 1]]), (18, .d (fr 0 1)), (1, .d dBag), (2, .d badD)]) (B : Bg g) : Rn (tlB 12) env g := by
  obtain ⟨r, g1, e1, a1, a2, b1⟩ := take_ok (n := 19) (m := 4) (by decide) (by decide) B
  obtain ⟨n, rfl⟩ : ∃ n : Nat, r = (n : Int) := ⟨r.toNat, by omega⟩
  have hn : n < 4 := by omega
  obtain ⟨env', g2, h2, b2, I2⟩ := fr_bag (tg := .name 9) (body := fun e => evSs (sem 20) vkL bPt e) (I := IPt) ((List.range n).map fun k => .int (k : Nat)) 0 env g1 b1 ⟨[.tuple [fr 0 1, fr 0 1]], List.mem_cons_self, rfl, E⟩ (fun j d hd env g B hI => by
    rw [List.getElem?_map] at hd
    obtain ⟨k, hk, rfl⟩ := Option.map_eq_some_iff.mp hd
    obtain ⟨hk1, hk2⟩ := List.getElem?_eq_some_iff.mp hk
    rw [List.length_range] at hk1
    rw [List.getElem_range] at hk2
    subst hk2
    rw [Nat.zero_add] at hI ⊢
    obtain ⟨e2, g', h1, h2, h3⟩ := turnPt (by omega) B hI
    exact ⟨_, e2, g', rfl, h1, h2, h3⟩)
  obtain ⟨ps, hp, hl, E2⟩ := I2
  refine Rn.st (w_fr (i_range (v_call (v_cons (E.v rfl) (v_cons v_lit v_nil)) e1) (by omega)) h2) ?_
  refine Rn.frz (E2.got 17 _ rfl) ?_
  have E3 := E2.set (i := 17) (by decide) (.d (.list ps))
  exact p14 hp ((((Ev.nil E3.len).cons (E3.got 2 _ rfl)).cons (E3.got 1 _ rfl)).cons (E3.got 17 _ rfl)) b2
theorem p11 (E : Ev env bs) (B : Bg g) : Rn (tlB 11) env g := by
  have tw : ∀ {a b : Ex} {x y : PD} {env : EnvD} {g : List PD}, evE (sem 20) vkL a env g = .ok x g → evE (sem 20) vkL b env g = .ok y g → evE (sem 20) vkL (.tup (.cons a (.cons b .nil))) env g = .ok (.tuple [x, y]) g := fun ha hb => v_tup (v_cons ha (v_cons hb v_nil)) (by show 2 ≤ 1000; decide)
  refine Rn.st (w_par (s := .own [.tuple [fr 0 1, fr 0 1]]) (t := .d (fr 0 1)) (v_lst (v_cons (tw (tw v_lit v_lit) (tw v_lit v_lit)) v_nil) (by decide)) (tw v_lit v_lit) rfl rfl ⟨by rw [E.len]; decide, by rw [E.len]; decide, by decide⟩) ?_
  have E' := (E.set (i := 17) (by decide) (.own [.tuple [fr 0 1, fr 0 1]])).set (i := 18) (by decide) (.d (fr 0 1))
  exact p12 ((((Ev.nil E'.len).cons (E'.got 2 _ rfl)).cons (E'.got 1 _ rfl)).cons (E'.got 18 _ rfl) |>.cons (E'.got 17 _ rfl)) B
end
end G

/-! The lap's spans. -/
namespace G
open PySem PySem.Spec PyProof.Rows L2
/-- drawn stretches -/
structure SS (ss : List PD) : Prop where
  len : ss.length < 4
  mem : ∀ s ∈ ss, ∃ k, k < 3 ∧ s ∈ stsAt k
/-- the round and its lines -/
inductive RR : PD → List Str → Prop
  | no : RR .none []
  | yes {r : PD} {l : Str} (h : RL r l) : RR r [l]
def pairL (ss : List PD) : List (Str × PD) := ss.map fun s => (lineT s, s)
theorem pair1 (ss : List PD) : (pairL ss).map (·.1) = ss.map lineT := by unfold pairL; rw [List.map_map]; rfl
theorem pair2 (ss : List PD) : (pairL ss).map (·.2) = ss := by
  unfold pairL
  rw [List.map_map]
  exact List.map_id ss
section
variable {ss : List PD} {r : PD} {rl : List Str}
theorem SS.sl (S : SS ss) {s : PD} (h : s ∈ ss) : SL 0 (lineT s) s := by
  obtain ⟨k, hk, hs⟩ := S.mem s h
  exact sl_of hk hs
theorem SS.lg (S : SS ss) {s : PD} (h : s ∈ ss) : Sz s 8 400 ∧ LG (lineT s) := by
  obtain ⟨k, hk, hs⟩ := S.mem s h
  exact st_sz hk hs
theorem SS.told (S : SS ss) {m : Nat} (hm : 12 ≤ m) : ∀ p ∈ pairL ss, Told m p.1 p.2 .none ∧ isNo p.2 = false := fun p hp => by
  obtain ⟨s, hs, rfl⟩ := List.mem_map.mp hp
  exact ⟨(S.sl hs).told m hm, (S.sl hs).no⟩
theorem SS.lines (S : SS ss) : ∀ l ∈ ss.map lineT, LG l ∧ 0 < l.length := fun l hl => by
  obtain ⟨s, hs, rfl⟩ := List.mem_map.mp hl
  exact ⟨(S.lg hs).2, (lineOk_parts (S.sl hs).ok).2.2⟩
theorem RR.lines (R : RR r rl) : (∀ l ∈ rl, LG l ∧ 0 < l.length) ∧ rl.length ≤ 1 := by
  cases R with
  | no => exact ⟨fun _ h => (by cases h), Nat.zero_le _⟩
  | yes h => exact ⟨fun l hl => by rw [List.mem_singleton.mp hl]; exact ⟨h.lg, h.pos⟩, Nat.le_refl _⟩
theorem RR.sz (R : RR r rl) : Sz r 8 400 := by
  cases R with
  | no => exact .ofB (by decide +kernel)
  | yes h => exact h.sz
theorem W_lines (S : SS ss) (R : RR r rl) : (∀ l ∈ ss.map lineT ++ rl, LG l ∧ 0 < l.length) ∧ (ss.map lineT ++ rl).length ≤ 4 := by
  refine ⟨fun l hl => ?_, ?_⟩
  · rcases List.mem_append.mp hl with q | q
    · exact S.lines l q
    · exact R.lines.1 l q
  · rw [List.length_append, List.length_map]
    have := S.len
    have := R.lines.2
    omega
def W (ss : List PD) (rl : List Str) : List Str := ss.map lineT ++ rl
def tx (ss : List PD) (rl : List Str) : Str := Txt.join nl (W ss rl)
theorem SS.szs (S : SS ss) : Szs ss 8 1604 := by
  have q := Szs.all (ds := ss) fun s hs => (S.lg hs).1
  have : ss.length * 401 ≤ 3 * 401 := Nat.mul_le_mul_right 401 (by have := S.len; omega)
  exact ⟨q.nd, q.cl, q.sw, q.hd, q.is, q.dp, Nat.le_trans q.wt (by omega)⟩
theorem span_sz (S : SS ss) (R : RR r rl) : Sz (.tuple [.tuple ss, r]) 10 3000 := by
  have q := Szs.cons (Sz.tup S.szs) (Szs.cons ((R.sz).mono (n' := 9) (w' := 400) (by decide) (by decide)) .nil (v := 0))
  exact (Sz.tup q).mono (by decide) (by decide)
/-- read_span of the text -/
theorem read_tx (S : SS ss) (R : RR r rl) {m : Nat} (hm : 12 ≤ m) (g : List PD) : sem (m + 1) 27 [.str (tx ss rl)] g = .ok (.tuple [.tuple ss, r]) g := by
  have sl := S.len
  have hw := W_lines S R
  cases R with
  | no =>
    cases ss with
    | nil => exact told tb0 span_e0 (by omega) g
    | cons s ss =>
      have q := span_s (m := m) (g := g) (L := pairL (s :: ss)) (t := tx (s :: ss) []) (by
        rw [pair1]
        have z := lns_mk (ls := (s :: ss).map lineT) (fun l hl => (S.lines l hl).1) (by rw [List.length_map]; omega) ⟨lineT s, List.mem_cons_self, (S.lines _ List.mem_cons_self).2⟩
        unfold tx W
        rw [List.append_nil]
        exact z) (S.told hm) (by unfold pairL; rw [List.length_map]; omega)
      rw [pair2] at q
      exact q
  | yes h =>
    rename_i l
    have q := span_r (m := m) (g := g) (L := pairL ss) (lr := l) (r := r) (t := tx ss [l]) (by
      rw [pair1]
      exact lns_mk (fun l hl => (hw.1 l hl).1) (by omega) ⟨l, List.mem_append_right _ List.mem_cons_self, h.pos⟩) (S.told hm) (by unfold pairL; rw [List.length_map]; omega) (h.told m (by omega)) (by obtain ⟨x, y, a, b, rfl, _⟩ := h.ex; rfl)
    rw [pair2] at q
    exact q
/-- span_text of the value -/
theorem text_tx (S : SS ss) (R : RR r rl) {m : Nat} (hm : 12 ≤ m) (g : List PD) : sem (m + 1) 19 [.tuple [.tuple ss, r]] g = .ok (.str (tx ss rl)) g := by
  have sl := S.len
  have hw := W_lines S R
  have h18 : ∀ p ∈ pairL ss, ∀ g, sem m 18 [p.2] g = .ok (.str p.1) g := fun p hp g => by
    obtain ⟨s, hs, rfl⟩ := List.mem_map.mp hp
    exact (S.sl hs).text m (by omega) g
  have hx : (pairL ss).length < 1000 := by unfold pairL; rw [List.length_map]; omega
  cases R with
  | no =>
    have q := text19_n (m := m) (g := g) h18 hx (by
      rw [pair1]
      exact sum_join (fun l hl => (S.lines l hl).1) (by rw [List.length_map]; omega))
    rw [pair1, pair2] at q
    unfold tx W
    rw [List.append_nil]
    exact q
  | yes h =>
    obtain ⟨x, y, a, b, rfl, rfl, la, lb, hh⟩ := h.ex
    have q := text19_r (m := m) (g := g) (x := x) (y := y) (a := a) (b := b) h18 hx (fun g => (hh m (by omega) g).2.2.1) (fun g => (hh m (by omega) g).2.2.2) la lb (by
      rw [pair1]
      exact sum_join (fun l hl => (hw.1 l hl).1) (by omega))
    rw [pair1, pair2] at q
    exact q
end
/-! ### bad lines -/
theorem bad_of {l : Str} (h : l ∈ badAll) : l = ⟨#[]⟩ ∨ l ∈ badL := by
  unfold badAll at h
  unfold badL
  simp only [List.mem_cons, List.not_mem_nil, or_false] at h ⊢
  rcases h with h | h | h | h | h | h | h | h | h | h | h | h | h | h
  · exact .inr (.inl h)
  · exact .inr (.inr (.inl h))
  · exact .inr (.inr (.inr (.inl h)))
  · exact .inr (.inr (.inr (.inr (.inl h))))
  · exact .inr (.inr (.inr (.inr (.inr (.inl h)))))
  · exact .inr (.inr (.inr (.inr (.inr (.inr (.inl h))))))
  · exact .inr (.inr (.inr (.inr (.inr (.inr (.inr (.inl h)))))))
  · exact .inr (.inr (.inr (.inr (.inr (.inr (.inr (.inr (.inl h))))))))
  · exact .inl h
  · exact .inr (.inr (.inr (.inr (.inr (.inr (.inr (.inr (.inr (.inl h)))))))))
  · exact .inr (.inr (.inr (.inr (.inr (.inr (.inr (.inr (.inr (.inr (.inl h))))))))))
  · exact .inr (.inr (.inr (.inr (.inr (.inr (.inr (.inr (.inr (.inr (.inr (.inl h)))))))))))
  · exact .inr (.inr (.inr (.inr (.inr (.inr (.inr (.inr (.inr (.inr (.inr (.inr (.inl h))))))))))))
  · exact .inr (.inr (.inr (.inr (.inr (.inr (.inr (.inr (.inr (.inr (.inr (.inr (.inr h))))))))))))
theorem bad_lg : badL.all lgB = true := by decide +kernel
structure BL (l : Str) : Prop where
  told : ∀ m, 12 ≤ m → Told m l .none .none
  lg : LG l
  pos : 0 < l.length
  sh : shp (.str l) = true
theorem bl_of {l : Str} (h : l ∈ badL) : BL l := by
  have q := List.all_eq_true.mp bad_all l h
  unfold badOK at q
  simp only [Bool.and_eq_true] at q
  exact ⟨fun m hm g => ⟨G.told tb0 q.1 (by omega) g, G.told tb0 q.2.1 (by omega) g⟩, .ofB (List.all_eq_true.mp bad_lg l h), (lineOk_parts q.2.2.1).2.2, q.2.2.2⟩
theorem ne_self : opF .neD (.str ⟨#[]⟩) (.str ⟨#[]⟩) = some (.bool false) := by
  have e : PyData.eqv (.str ⟨#[]⟩) (.str ⟨#[]⟩) = true := by decide +kernel
  show (if shp (.str ⟨#[]⟩) = true ∧ shp (.str ⟨#[]⟩) = true then some (PyData.bool (!PyData.eqv (.str ⟨#[]⟩) (.str ⟨#[]⟩))) else none) = _
  rw [if_pos ⟨by decide +kernel, by decide +kernel⟩, e]
  rfl
theorem sl_take {xs : List PD} {k : Nat} (h : k ≤ xs.length) : slF .lst (.list xs) none (some (k : Int)) = some (.list (xs.take k)) := by
  show some (PyData.list ((xs.drop (HT.sIx xs.length 0 none)).take (HT.sIx xs.length xs.length (some (k : Int)) - HT.sIx xs.length 0 none))) = _
  rw [HT.sIx_none, HT.sIx_nat, List.drop_zero, Nat.min_eq_left h, Nat.sub_zero]
theorem sl_drop {xs : List PD} {k : Nat} (h : k ≤ xs.length) : slF .lst (.list xs) (some (k : Int)) none = some (.list (xs.drop k)) := by
  show some (PyData.list ((xs.drop (HT.sIx xs.length 0 (some (k : Int)))).take (HT.sIx xs.length xs.length none - HT.sIx xs.length 0 (some (k : Int))))) = _
  rw [HT.sIx_none, HT.sIx_nat, Nat.min_eq_left h, List.take_of_length_le (by rw [List.length_drop]; exact Nat.le_refl _)]
theorem cat_ok {xs ys : List PD} (h : xs.length + ys.length ≤ 1000) : opF .catL (.list xs) (.list ys) = some (.list (xs ++ ys)) := if_pos (Nat.le_trans h (by decide))
section
variable {env : EnvD} {g : List PD} {ss : List PD} {r : PD} {rl : List Str} {wr : Str}
/-- the three lines behind a round -/
def behL : List Str := [⟨#[91, 48, 44, 32, 49, 93]⟩, ⟨#[114, 111, 117, 110, 100, 32, 48, 32, 49]⟩, ⟨#[]⟩]
theorem beh_lg : behL.all lgB = true := by decide +kernel
def f10 (ss : List PD) (r : PD) (rl : List Str) (wr : Str) : List (Nat × Sl) := [(5, .d r), (7, .d (.list ((W ss rl).map PyData.str))), (8, .d (.str (tx ss rl))), (15, .d (.str wr)), (1, .d dBag), (2, .d badD)]
theorem t10a (hw : wr = ⟨#[]⟩ ∨ wr ∈ badL) (E : Ev env (f10 ss r rl wr)) (g : List PD) : evT (sem 20) vkL (.and (.val (.op2 .neD (.var 15) (.lit (.str ⟨#[]⟩)))) (.not (.val (.call 43 (.cons (.fnv 25) (.cons (.var 15) (.cons (.lit (.int 1)) .nil))))))) env g = .ok false g := by
  rcases hw with rfl | hb
  · exact u_andF (u_val (v_op2 (E.v rfl) v_lit ne_self))
  · have b := bl_of hb
    exact u_andT (u_val (v_op2 (E.v rfl) v_lit (ne_empty b.sh b.pos))) (u_nt (v_refd (E.v rfl) v_lit (readN (m := 17) (.inl ⟨rfl, rfl⟩) b.lg.nn (by have := b.lg.len; omega) (fun g => (b.told 17 (by decide) g).1) g) (show_l (n := 1) (by decide))))
theorem p10 (S : SS ss) (R : RR r rl) (hw : wr = ⟨#[]⟩ ∨ wr ∈ badL) (E : Ev env (f10 ss r rl wr)) (B : Bg g) : Rn (tlB 10) env g := by
  have sl := S.len
  have hW := W_lines S R
  have tl2 := text_len (ls := ss.map lineT ++ rl) (fun l hl => (hW.1 l hl).1) (by omega)
  cases R with
  | no =>
    refine Rn.pass (u_orF (t10a hw E g) (u_andF (u_val (v_op2 (E.v rfl) v_lit (ntN_is .none))))) (p11 (E.base rfl rfl) B)
  | yes h =>
    rename_i l
    obtain ⟨q, g1, e1, hq, b1⟩ := some_ok (m := 18) (xs := behL.map PyData.str) (by decide) (by decide) B
    obtain ⟨lb, hlb, rfl⟩ := List.mem_map.mp hq
    have nr : isNo r = false := by obtain ⟨x, y, a, b, rfl, _⟩ := h.ex; rfl
    have lgb : LG lb := .ofB (List.all_eq_true.mp beh_lg lb hlb)
    have e2 : nl.length ≤ 1 := Nat.le_refl _
    have ej : tx ss [l] ++ nl ++ lb = Txt.join nl ((pairL ss).map (·.1) ++ l :: [lb]) := by
      rw [pair1]
      unfold tx W
      rw [← join_snoc (by simp)]
      simp
    have hx : sem 19 27 [.str (tx ss [l] ++ nl ++ lb)] g1 = .exn (((pairL ss).length + 1 : Nat) + 1) 1 g1 := by
      rw [ej]
      refine span_b (lns_mk (fun z hz => ?_) ?_ ⟨l, by simp, h.pos⟩) (S.told (by decide)) (by unfold pairL; rw [List.length_map]; omega) (h.told 18 (by decide)) nr
      · rw [pair1] at hz
        rcases List.mem_append.mp hz with z1 | z1
        · exact (S.lines z z1).1
        · rcases List.mem_cons.mp z1 with rfl | z1
          · exact h.lg
          · rw [List.mem_singleton.mp z1]; exact lgb
      · rw [pair1, List.length_append, List.length_map]
        show ss.length + 2 ≤ 10
        omega
    have hl : (W ss [l]).length = (pairL ss).length + 1 := by
      unfold W pairL
      rw [List.length_append, List.length_map, List.length_map]
      rfl
    refine Rn.pass (u_orF (t10a hw E g) (u_andT (u_val (v_op2 (E.v rfl) v_lit ((ntN_is r).trans (by rw [nr]; rfl)))) (u_nt (v_refd (l := (((pairL ss).length + 1 : Nat) : Int) + 1) (v_op2 (v_op2 (E.v rfl) v_lit (addS_ok (fitL tl2 e2 (by decide)))) (v_call (v_cons (E.v rfl) (v_cons (v_lst (v_cons v_lit (v_cons v_lit (v_cons v_lit v_nil))) (by show 3 ≤ 1000; decide)) v_nil)) e1) (addS_ok (fitL (lenA tl2 e2) lgb.len (by decide)))) (v_op2 (v_blt (E.v rfl) (z := .int (((pairL ss).length + 1 : Nat) : Int)) ?_) v_lit rfl) hx ?_)))) (p11 (E.base rfl rfl) b1)
    · show some (PyData.int ((((W ss [l]).map PyData.str).length : Nat) : Int)) = _
      rw [List.length_map, hl]
    · refine show_l (n := (pairL ss).length + 1 + 1) ?_
      unfold pairL
      rw [List.length_map]
      omega
def f9 (ss : List PD) (r : PD) (rl : List Str) (wr : Str) (k : Nat) : List (Nat × Sl) := (16, .d (.int (k : Nat))) :: (6, .d (.list ((ss.map lineT).map PyData.str))) :: f10 ss r rl wr
theorem p9 (S : SS ss) (R : RR r rl) (hw : wr = ⟨#[]⟩ ∨ wr ∈ badL) {k : Nat} (hk : k ≤ ss.length) (E : Ev env (f9 ss r rl wr k)) (B : Bg g) : Rn (tlB 9) env g := by
  have sl := S.len
  have E' : Ev env (f10 ss r rl wr) := ((((((Ev.nil E.len).cons (E.got 2 _ rfl)).cons (E.got 1 _ rfl)).cons (E.got 15 _ rfl)).cons (E.got 8 _ rfl)).cons (E.got 7 _ rfl)).cons (E.got 5 _ rfl)
  refine Rn.pass ?_ (p10 S R hw E' B)
  rcases hw with rfl | hb
  · exact u_andF (u_val (v_op2 (E.v rfl) v_lit ne_self))
  · have b := bl_of hb
    have lxs : ((ss.map lineT).map PyData.str).length = ss.length := by rw [List.length_map, List.length_map]
    have ll : (((ss.take k).map lineT ++ wr :: (ss.drop k).map lineT)).length ≤ 10 := by
      rw [List.length_append, List.length_map, List.length_cons, List.length_map, List.length_take, List.length_drop]
      omega
    have lg : ∀ l ∈ (ss.take k).map lineT ++ wr :: (ss.drop k).map lineT, LG l := fun l hl => by
      rcases List.mem_append.mp hl with q | q
      · obtain ⟨s, hs, rfl⟩ := List.mem_map.mp q
        exact (S.lg (List.mem_of_mem_take hs)).2
      · rcases List.mem_cons.mp q with rfl | q
        · exact b.lg
        · obtain ⟨s, hs, rfl⟩ := List.mem_map.mp q
          exact (S.lg (List.mem_of_mem_drop hs)).2
    have hx : sem 19 27 [.str (Txt.join nl ((ss.take k).map lineT ++ wr :: (ss.drop k).map lineT))] g = .exn ((k : Nat) + 1) 1 g := by
      have q := span_n (m := 18) (g := g) (L := pairL (ss.take k)) (lb := wr) (rest := (ss.drop k).map lineT) (t := Txt.join nl ((ss.take k).map lineT ++ wr :: (ss.drop k).map lineT)) (by
        rw [pair1]
        exact lns_mk lg ll ⟨wr, by simp, b.pos⟩) (fun p hp => S.told (by decide) p (by
          unfold pairL at hp ⊢
          rw [List.map_take] at hp
          exact List.mem_of_mem_take hp)) (by unfold pairL; rw [List.length_map, List.length_take]; omega) (b.told 18 (by decide))
      have e : (pairL (ss.take k)).length = k := by unfold pairL; rw [List.length_map, List.length_take]; omega
      rw [e] at q
      exact q
    refine u_andT (u_val (v_op2 (E.v rfl) v_lit (ne_empty b.sh b.pos))) (u_nt (v_refd (v_join' (y := .list (((ss.take k).map lineT ++ wr :: (ss.drop k).map lineT).map PyData.str)) v_lit (v_op2 (v_op2 (v_sl (E.v rfl) v_on (v_os (E.v rfl)) (sl_take (by rw [lxs]; exact hk))) (v_lst (v_cons (E.v rfl) v_nil) (by show 1 ≤ 1000; decide)) (cat_ok ?_)) (v_sl (E.v rfl) (v_os (E.v rfl)) v_on (sl_drop (by rw [lxs]; exact hk))) ?_) (joinF_ok (sum_join lg ll))) (v_op2 (E.v rfl) v_lit rfl) hx (show_l (n := k + 1) (by omega))))
    · rw [List.length_take, lxs]
      show min k ss.length + 1 ≤ 1000
      omega
    · have e : ((ss.map lineT).map PyData.str).take k ++ [PyData.str wr] ++ ((ss.map lineT).map PyData.str).drop k = ((ss.take k).map lineT ++ wr :: (ss.drop k).map lineT).map PyData.str := by
        simp [List.map_take, List.map_drop]
      refine (cat_ok ?_).trans (by rw [e])
      rw [List.length_append, List.length_take, List.length_drop, lxs]
      show min k ss.length + 1 + (ss.length - k) ≤ 1000
      omega
def f8 (ss : List PD) (r : PD) (rl : List Str) : List (Nat × Sl) := [(5, .d r), (7, .d (.list ((W ss rl).map PyData.str))), (8, .d (.str (tx ss rl))), (6, .d (.list ((ss.map lineT).map PyData.str))), (4, .d (.tuple ss)), (1, .d dBag), (2, .d badD)]
theorem p8 (S : SS ss) (R : RR r rl) (E : Ev env (f8 ss r rl)) (B : Bg g) : Rn (tlB 8) env g := by
  have sl := S.len
  have lxs : ((ss.map lineT).map PyData.str).length = ss.length := by rw [List.length_map, List.length_map]
  obtain ⟨x, g1, e1, hx, b1⟩ := some_ok (m := 18) (xs := badAll.map PyData.str) (by decide) (by decide) B
  obtain ⟨wr, hwr, rfl⟩ := List.mem_map.mp hx
  obtain ⟨a, g2, e2, a1, a2, b2⟩ := take_ok (n := 19) (m := ((ss.length : Nat) : Int) + 1) (by omega) (by omega) b1
  obtain ⟨k, rfl⟩ : ∃ k : Nat, a = (k : Int) := ⟨a.toNat, by omega⟩
  refine Rn.st (w_par (v_call (v_cons (E.v rfl) (v_cons (E.v rfl) v_nil)) e1) (v_call (v_cons (E.v rfl) (v_cons (v_op2 (v_blt (E.v rfl) (z := .int ((ss.length : Nat) : Int)) ?_) v_lit rfl) v_nil)) e2) rfl rfl ⟨by rw [E.len]; decide, by rw [E.len]; decide, by decide⟩) ?_
  · show some (PyData.int ((((ss.map lineT).map PyData.str).length : Nat) : Int)) = _
    rw [lxs]
  · have E' := (E.set (i := 15) (by decide) (.d (.str wr))).set (i := 16) (by decide) (.d (.int (k : Nat)))
    exact p9 S R (bad_of hwr) (k := k) (by omega) ((((((((Ev.nil E'.len).cons (E'.got 2 _ rfl)).cons (E'.got 1 _ rfl)).cons (E'.got 15 _ rfl)).cons (E'.got 8 _ rfl)).cons (E'.got 7 _ rfl)).cons (E'.got 5 _ rfl)).cons (E'.got 6 _ rfl) |>.cons (E'.got 16 _ rfl)) b2
theorem mem_zipF : ∀ (ss : List PD) (d : PD), d ∈ zipF ss ((ss.map lineT).map PyData.str) → ∃ s ∈ ss, d = .tuple [s, .str (lineT s)]
  | [], d, h => by cases h
  | s :: ss, d, h => by
    rcases List.mem_cons.mp (show d ∈ PyData.tuple [s, .str (lineT s)] :: zipF ss ((ss.map lineT).map PyData.str) from h) with rfl | h
    · exact ⟨s, List.mem_cons_self, rfl⟩
    · obtain ⟨t, ht, e⟩ := mem_zipF ss d h
      exact ⟨t, List.mem_cons_of_mem _ ht, e⟩
def bZp : Ss := match ssAt 7 lapB with | some (.fr _ _ b) => b | _ => .nil
theorem p7 (S : SS ss) (R : RR r rl) (E : Ev env (f8 ss r rl)) (B : Bg g) : Rn (tlB 7) env g := by
  have sl := S.len
  have n1 : nl.length ≤ 1 := Nat.le_refl _
  obtain ⟨env', h, E'⟩ := fr_keep (tg := .tup (.cons (.name 13) (.cons (.name 14) .nil))) (body := fun e => evSs (sem 20) vkL bZp e) (I := fun env => Ev env (f8 ss r rl)) (zipF ss ((ss.map lineT).map PyData.str)) env g E (fun d hd env E => by
    obtain ⟨s, hs, rfl⟩ := mem_zipF ss d hd
    have E1 := (E.set (i := 13) (by decide) (.d s)).set (i := 14) (by decide) (.d (.str (lineT s)))
    have sl2 := S.sl hs
    have lg := (S.lg hs).2
    have ll := lg.len
    refine ⟨_, _, rfl, fun g => w_nx (w_ife (k := false) ?_ (ifF.trans w_nil)) w_nil, ((((((((Ev.nil E1.len).cons (E1.got 2 _ rfl)).cons (E1.got 1 _ rfl)).cons (E1.got 4 _ rfl)).cons (E1.got 6 _ rfl)).cons (E1.got 8 _ rfl)).cons (E1.got 7 _ rfl)).cons (E1.got 5 _ rfl))⟩
    have h18 := readL (m := 18) (f := 25) (k := 24) (.inl ⟨rfl, rfl⟩) lg.nn (by omega) sl2.no (fun g => (sl2.told 18 (by decide) g).1) g
    have h17 := readL (m := 17) (f := 25) (k := 24) (.inl ⟨rfl, rfl⟩) lg.nn (by omega) sl2.no (fun g => (sl2.told 17 (by decide) g).1) g
    have hx := h17.2 ⟨#[]⟩ (fun m => by cases m) (by decide)
    rw [app_e] at hx
    have hy := h17.2 (lineT s) lg.nn (by omega)
    refine u_orF (u_nt (v_alike (v_cons (v_call (v_cons (E1.v rfl) v_nil) (sl2.text 20 (by decide) g)) (v_cons (v_call (v_cons (E1.v rfl) v_nil) h18.1) v_nil)) (v_cons (E1.v rfl) (v_cons (E1.v rfl) v_nil)) (by show 2 ≤ 1000; decide) sl2.sh)) (u_orF (u_nt (v_refd (v_op2 (E1.v rfl) v_lit (addS_ok (fitL ll n1 (by decide)))) v_lit hx (show_l (n := 2) (by decide)))) (u_nt (v_refd (v_op2 (v_op2 (E1.v rfl) v_lit (addS_ok (fitL ll n1 (by decide)))) (E1.v rfl) (addS_ok (fitL (lenA ll n1) ll (by decide)))) v_lit hy (show_l (n := 2) (by decide))))))
  exact Rn.st (w_fr (i_zip (E.v rfl) (E.v rfl)) h) (p8 S R E' B)
theorem p6 (S : SS ss) (R : RR r rl) (E : Ev env (f8 ss r rl)) (B : Bg g) : Rn (tlB 6) env g := by
  have hW := W_lines S R
  have tw : ∀ {a b : Ex} {x y : PD} {env : EnvD} {g : List PD}, evE (sem 20) vkL a env g = .ok x g → evE (sem 20) vkL b env g = .ok y g → evE (sem 20) vkL (.tup (.cons a (.cons b .nil))) env g = .ok (.tuple [x, y]) g := fun ha hb => v_tup (v_cons ha (v_cons hb v_nil)) (by show 2 ≤ 1000; decide)
  refine Rn.pass (u_nt (v_alike (ds := [.str (tx ss rl), .tuple [.tuple ss, r]]) (g1 := g) (v_cons (v_call (v_cons (tw (E.v rfl) (E.v rfl)) v_nil) (text_tx S R (by decide) g)) (v_cons (v_call (v_cons (E.v rfl) v_nil) (read_tx S R (by decide) g)) v_nil)) (v_cons (E.v rfl) (v_cons (tw (E.v rfl) (E.v rfl)) v_nil)) (by show 2 ≤ 1000; decide) ?_)) (p7 S R E B)
  have q := Szs.cons ((text_sz (ls := W ss rl) (fun l hl => (hW.1 l hl).1) (by have := hW.2; unfold W; omega)).mono (n' := 10) (w' := 2010) (by decide) (Nat.le_refl _)) (Szs.cons (span_sz S R) (Szs.nil (w := 0)))
  exact (Sz.lst q).show (by decide) (by decide)
def exWh : Ex := exOf (ssAt 4 lapB)
theorem whole_ok (S : SS ss) (R : RR r rl) {fs : List (Nat × Sl)} (E : Ev env fs) (h5 : lk fs 5 = some (.d r)) (h6 : lk fs 6 = some (.d (.list ((ss.map lineT).map PyData.str)))) (g : List PD) : evE (sem 20) vkL exWh env g = .ok (.list ((W ss rl).map PyData.str)) g := by
  have sl := S.len
  have lxs : ((ss.map lineT).map PyData.str).length = ss.length := by rw [List.length_map, List.length_map]
  have ct : ∀ ys : List Str, ys.length ≤ 1 → opF .catL (.list ((ss.map lineT).map PyData.str)) (.list (ys.map PyData.str)) = some (.list ((W ss ys).map PyData.str)) := fun ys hy => by
    refine (cat_ok ?_).trans ?_
    · rw [lxs, List.length_map]
      omega
    · unfold W
      rw [List.map_append]
  cases R with
  | no =>
    refine v_op2 (E.v h6) (v_ite (u_val (v_op2 (E.v h5) v_lit (ntN_is .none))) (ifF.trans (v_lst v_nil (by decide)))) (ct [] (by decide))
  | yes h =>
    rename_i l
    have l1 : rWord.length ≤ 6 := Nat.le_refl _
    have l2 : spc.length ≤ 1 := Nat.le_refl _
    obtain ⟨x, y, a, b, rfl, rfl, la, lb, hh⟩ := h.ex
    have h0 := hh 20 (by decide) g
    refine v_op2 (E.v h6) (v_ite (u_val (v_op2 (E.v h5) v_lit (ntN_is _))) (ifT.trans (v_lst (v_cons (v_op2 (v_op2 (v_op2 v_lit (v_call (v_cons (v_op2 (E.v h5) v_lit (atI_nat (j := 0) rfl)) v_nil) h0.1) (addS_ok (fitL l1 la (by decide)))) v_lit (addS_ok (fitL (lenA l1 la) l2 (by decide)))) (v_call (v_cons (v_op2 (E.v h5) v_lit (atI_nat (j := 1) rfl)) v_nil) h0.2.1) (addS_ok (fitL (lenA (lenA l1 la) l2) lb (by decide)))) v_nil) (by show 1 ≤ 1000; decide)))) (ct [rLine a b] (Nat.le_refl 1))
theorem p0 (E : Ev env bs) (B : Bg g) : Rn (tlB 0) env g := by
  obtain ⟨ss, g1, e1, l1, m1, b1⟩ := sts_ok (m := 16) E.len (E.got 1 _ rfl) B
  have S : SS ss := ⟨l1, m1⟩
  have E1 := E.set (i := 4) (by decide) (.d (.tuple ss))
  obtain ⟨x, g2, e2, hx, b2⟩ := ag1_ok (m := 18) (E1.got 1 _ rfl) b1
  have E2 := E1.set (i := 5) (by decide) (.d x)
  obtain ⟨r, e3, hr⟩ := ag2_ok (m := 20) (by decide) (E2.got 5 _ rfl) hx
  obtain ⟨rl, R⟩ : ∃ rl, RR r rl := by
    rcases hr with rfl | ⟨l, hl⟩
    · exact ⟨[], .no⟩
    · exact ⟨[l], .yes (rl_of hl)⟩
  have E3 := E2.set (i := 5) (by decide) (.d r)
  have hW := W_lines S R
  have e4 := lns_ok (m := 20) (by decide) E3.len (E3.got 4 _ rfl) (by omega) m1 g2
  have E4 := E3.set (i := 6) (by decide) (.d (.list ((ss.map lineT).map PyData.str)))
  have e5 := whole_ok S R E4 rfl rfl g2
  have E5 := E4.set (i := 7) (by decide) (.d (.list ((W ss rl).map PyData.str)))
  have E6 := E5.set (i := 8) (by decide) (.d (.str (tx ss rl)))
  refine Rn.set e1 (Rn.set e2 (Rn.set (e3 g2) (Rn.set e4 (Rn.set e5 (Rn.set (v_join' v_lit (E5.v rfl) (joinF_ok (sum_join (fun l hl => (hW.1 l hl).1) (by have := hW.2; unfold W; omega)))) (p6 S R ?_ b2))))))
  exact (((((((Ev.nil E6.len).cons (E6.got 2 _ rfl)).cons (E6.got 1 _ rfl)).cons (E6.got 4 _ rfl)).cons (E6.got 6 _ rfl)).cons (E6.got 8 _ rfl)).cons (E6.got 7 _ rfl)).cons (E6.got 5 _ rfl)
end
theorem lap_ok {env : EnvD} {g : List PD} (E : Ev env bs) (B : Bg g) : Rn lapB env g := p0 E B
end G

/-! The law in plain. -/
namespace G
open PySem PySem.Spec PyProof.Rows L2
theorem env44_ev : Ev env44 [(1, .d dBag)] := (Ev.nil rfl).cons rfl
theorem plain_all : ∀ ns, Plain ns := fun ns => by
  have E := env44_ev.set (i := 2) (by decide) (.d badD)
  have E0 : Ev (env44.set 2 (.d badD)) bs := ((Ev.nil E.len).cons (E.got 2 _ rfl)).cons (E.got 1 _ rfl)
  have B0 : Bg (bag0 ns) := bg0 ns
  obtain ⟨env', g', h, b, E'⟩ := fr_bag (tg := .name 3) (body := fun e => evSs (sem 20) vkL lapB e) (I := fun _ env => Ev env bs) ((List.range 4).map fun k => .int (k : Nat)) 0 _ _ B0 E0 (fun j d hd env g B E => by
    have E1 := E.set (i := 3) (by decide) (.d d)
    obtain ⟨e2, g', h1, h2, h3⟩ := lap_ok (((Ev.nil E1.len).cons (E1.got 2 _ rfl)).cons (E1.got 1 _ rfl)) B
    exact ⟨_, e2, g', rfl, h1, h2, h3⟩)
  refine ⟨g', w_nx (w_set (x := badD) (g1 := bag0 ns) ?_) (w_nx (w_fr (i_range (n := 4) v_lit (by decide)) h) (w_rt (w_ret v_lit)))⟩
  exact v_lst (v_cons v_lit (v_cons v_lit (v_cons v_lit (v_cons v_lit (v_cons v_lit (v_cons v_lit (v_cons v_lit (v_cons v_lit (v_cons v_lit (v_cons v_lit (v_cons v_lit (v_cons v_lit (v_cons v_lit (v_cons v_lit v_nil)))))))))))))) (by show 14 ≤ 1000; decide)
end G

set_option maxHeartbeats 0
open PySem PySem.W PyProof.Rows
theorem PySem.Challenge.cw_alltimes_k21_texts_of_spans_clocks_and_e_holds : PySem.Challenge.rw_alltimes_k21_texts_of_spans_clocks_and_e.Holds := by
  w_on; o_law; k_head; (case hw => w_witness2)
  k_fill
  refine G.walk_G rfl (fun w h Y => PySem.W.kIn_of Y) ?F G.plain_all
  case F =>
    intro w mg fl h KX GG hmg
    refine' G.all_mk KX GG hmg ?a0 ?l0 ?c0 ?k0 ?a1 ?l1 ?c1 ?k1 ?a2 ?l2 ?c2 ?k2 ?a3 ?l3 ?c3 ?k3 ?a4 ?l4 ?c4 ?k4 ?a5 ?l5 ?c5 ?k5 ?a6 ?l6 ?c6 ?k6 ?a7 ?l7 ?c7 ?k7 ?a8 ?l8 ?c8 ?k8 ?a9 ?l9 ?c9 ?k9 ?a10 ?l10 ?c10 ?k10 ?a11 ?l11 ?c11 ?k11 ?a12 ?l12 ?c12 ?k12 ?a13 ?l13 ?c13 ?k13 ?a14 ?l14 ?c14 ?k14 ?a15 ?l15 ?c15 ?k15 ?a16 ?l16 ?c16 ?k16 ?a17 ?l17 ?c17 ?k17 ?a18 ?l18 ?c18 ?k18 ?a19 ?l19 ?c19 ?k19 ?a20 ?l20 ?c20 ?k20 ?a21 ?l21 ?c21 ?k21 ?a22 ?l22 ?c22 ?k22 ?a23 ?l23 ?c23 ?k23 ?a24 ?l24 ?c24 ?k24 ?a25 ?l25 ?c25 ?k25 ?a26 ?l26 ?c26 ?k26 ?a27 ?l27 ?c27 ?k27 ?a28 ?l28 ?c28 ?k28 ?a29 ?l29 ?c29 ?k29 ?a30 ?l30 ?c30 ?k30 ?a31 ?l31 ?c31 ?k31 ?a32 ?l32 ?c32 ?k32 ?a33 ?l33 ?c33 ?k33 ?a34 ?l34 ?c34 ?k34 ?a35 ?l35 ?c35 ?k35 ?a36 ?l36 ?c36 ?k36 ?a37 ?l37 ?c37 ?k37 ?a38 ?l38 ?c38 ?k38 ?a39 ?l39 ?c39 ?k39 ?a40 ?l40 ?c40 ?k40 ?a41 ?l41 ?c41 ?k41 ?a42 ?l42 ?c42 ?k42 ?a43 ?l43 ?c43 ?k43 ?a44 ?l44 ?c44 ?k44 ?z0 ?z1 ?z2 ?z3 ?z4 ?z5 ?z6 ?z7 ?z8 ?z9 ?z10 ?z11 ?y0 ?y1 ?b1 ?b2 ?b3 ?b4 ?b5 ?b6 ?b7 ?b8 ?b9 ?b10 ?b11 ?b12 ?b13 ?b14 ?b15 ?b16 ?b17 ?b18 ?b19 ?b20 ?b21 ?b22 ?b23 ?b24 ?b25 ?b26 ?b27
    (case a0 => k_is)
    (case l0 => k_is)
    (case c0 => k_is)
    (case k0 => k_is)
    (case a1 => k_is)
    (case l1 => k_is)
    (case c1 => k_is)
    (case k1 => k_is)
    (case a2 => k_is)
    (case l2 => k_is)
    (case c2 => k_is)
    (case k2 => k_is)
    (case a3 => k_is)
    (case l3 => k_is)
    (case c3 => k_is)
    (case k3 => k_is)
    (case a4 => k_is)
    (case l4 => k_is)
    (case c4 => k_is)
    (case k4 => k_is)
    (case a5 => k_is)
    (case l5 => k_is)
    (case c5 => k_is)
    (case k5 => k_is)
    (case a6 => k_is)
    (case l6 => k_is)
    (case c6 => k_is)
    (case k6 => k_is)
    (case a7 => k_is)
    (case l7 => k_is)
    (case c7 => k_is)
    (case k7 => k_is)
    (case a8 => k_is)
    (case l8 => k_is)
    (case c8 => k_is)
    (case k8 => k_is)
    (case a9 => k_is)
    (case l9 => k_is)
    (case c9 => k_is)
    (case k9 => k_is)
    (case a10 => k_is)
    (case l10 => k_is)
    (case c10 => k_is)
    (case k10 => k_is)
    (case a11 => k_is)
    (case l11 => k_is)
    (case c11 => k_is)
    (case k11 => k_is)
    (case a12 => k_is)
    (case l12 => k_is)
    (case c12 => k_is)
    (case k12 => k_is)
    (case a13 => k_is)
    (case l13 => k_is)
    (case c13 => k_is)
    (case k13 => k_is)
    (case a14 => k_is)
    (case l14 => k_is)
    (case c14 => k_is)
    (case k14 => k_is)
    (case a15 => k_is)
    (case l15 => k_is)
    (case c15 => k_is)
    (case k15 => k_is)
    (case a16 => k_is)
    (case l16 => k_is)
    (case c16 => k_is)
    (case k16 => k_is)
    (case a17 => k_is)
    (case l17 => k_is)
    (case c17 => k_is)
    (case k17 => k_is)
    (case a18 => k_is)
    (case l18 => k_is)
    (case c18 => k_is)
    (case k18 => k_is)
    (case a19 => k_is)
    (case l19 => k_is)
    (case c19 => k_is)
    (case k19 => k_is)
    (case a20 => k_is)
    (case l20 => k_is)
    (case c20 => k_is)
    (case k20 => k_is)
    (case a21 => k_is)
    (case l21 => k_is)
    (case c21 => k_is)
    (case k21 => k_is)
    (case a22 => k_is)
    (case l22 => k_is)
    (case c22 => k_is)
    (case k22 => k_is)
    (case a23 => k_is)
    (case l23 => k_is)
    (case c23 => k_is)
    (case k23 => k_is)
    (case a24 => k_is)
    (case l24 => k_is)
    (case c24 => k_is)
    (case k24 => k_is)
    (case a25 => k_is)
    (case l25 => k_is)
    (case c25 => k_is)
    (case k25 => k_is)
    (case a26 => k_is)
    (case l26 => k_is)
    (case c26 => k_is)
    (case k26 => k_is)
    (case a27 => k_is)
    (case l27 => k_is)
    (case c27 => k_is)
    (case k27 => k_is)
    (case a28 => k_is)
    (case l28 => k_is)
    (case c28 => k_is)
    (case k28 => k_is)
    (case a29 => k_is)
    (case l29 => k_is)
    (case c29 => k_is)
    (case k29 => k_is)
    (case a30 => k_is)
    (case l30 => k_is)
    (case c30 => k_is)
    (case k30 => k_is)
    (case a31 => k_is)
    (case l31 => k_is)
    (case c31 => k_is)
    (case k31 => k_is)
    (case a32 => k_is)
    (case l32 => k_is)
    (case c32 => k_is)
    (case k32 => k_is)
    (case a33 => k_is)
    (case l33 => k_is)
    (case c33 => k_is)
    (case k33 => k_is)
    (case a34 => k_is)
    (case l34 => k_is)
    (case c34 => k_is)
    (case k34 => k_is)
    (case a35 => k_is)
    (case l35 => k_is)
    (case c35 => k_is)
    (case k35 => k_is)
    (case a36 => k_is)
    (case l36 => k_is)
    (case c36 => k_is)
    (case k36 => k_is)
    (case a37 => k_is)
    (case l37 => k_is)
    (case c37 => k_is)
    (case k37 => k_is)
    (case a38 => k_is)
    (case l38 => k_is)
    (case c38 => k_is)
    (case k38 => k_is)
    (case a39 => k_is)
    (case l39 => k_is)
    (case c39 => k_is)
    (case k39 => k_is)
    (case a40 => k_is)
    (case l40 => k_is)
    (case c40 => k_is)
    (case k40 => k_is)
    (case a41 => k_is)
    (case l41 => k_is)
    (case c41 => k_is)
    (case k41 => k_is)
    (case a42 => k_is)
    (case l42 => k_is)
    (case c42 => k_is)
    (case k42 => k_is)
    (case a43 => k_is)
    (case l43 => k_is)
    (case c43 => k_is)
    (case k43 => k_is)
    (case a44 => k_is)
    (case l44 => k_is)
    (case c44 => k_is)
    (case k44 => k_is)
    (case z0 => k_is)
    (case z1 => k_is)
    (case z2 => k_is)
    (case z3 => k_is)
    (case z4 => k_is)
    (case z5 => k_is)
    (case z6 => k_is)
    (case z7 => k_is)
    (case z8 => k_is)
    (case z9 => k_is)
    (case z10 => k_is)
    (case z11 => k_is)
    (case y0 => k_is)
    (case y1 => k_is)
    (case b1 => k_is)
    (case b2 => k_is)
    (case b3 => first | k_exc | k_is)
    (case b4 => first | decide +kernel | rfl)
    (case b5 => k_is)
    (case b6 => k_is)
    (case b7 => k_is)
    (case b8 => k_is)
    (case b9 => k_is)
    (case b10 => k_is)
    (case b11 => k_is)
    (case b12 => k_is)
    (case b13 => k_is)
    (case b14 => k_is)
    (case b15 => k_is)
    (case b16 => k_is)
    (case b17 => first | rfl | k_is)
    (case b18 => k_is)
    (case b19 => k_is)
    (case b20 => k_is)
    (case b21 => rfl)
    (case b22 => first | rfl | decide +kernel)
    (case b23 => k_is)
    (case b24 => first | k_is | rfl)
    (case b25 => k_is)
    (case b26 => ks_is)
    (case b27 => k_is)
