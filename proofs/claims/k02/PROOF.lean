import PyProof.Rows.All
import Wide.All
import OpenK.AllK
import Wide.FinOn
import KE.KNestM
import HandS.ForMost
import HandS.Exc
import HandS.ExcOwn
import HandS.WordsExc
import HandS.Slots
import HandS.Conv
import HandS.Strs
import HandS.Lambda
import HandS.TupAny
import HandS.TupMul
import HandS.Wide
import HandS.Deep
import HandS.Style
import HandS.Codes
import HandS.TupLen
import HandS.WordsDict
import HandS.IsInst
import HandS.SlotsOwn
import HandS.IterVal
import HandS.ClsMeth
import HandS.Star
import KE.KExcSuper
import HandS.ExcInit
import HandS.TryMany
import HandS.ExcField
import HandS.EndTab
import HandS.TupSets
import HandS.SortInts
import HandS.Small
import KE.GoesEnum
import HandS.Iter
import HandS.DictComp
import HandS.SetBool
import HandS.ListItems
import HandS.GenList
import HandS.RaiseMore
import PySem.Challenge.RW_treerooms_k02_errors_of_rooms
set_option Elab.async false
set_option linter.all false


set_option linter.all false
namespace MA
open PySem L2

/-- what a value is, apart from where it stands: tuples by their items (tup: may be a dict's key; ftup: its object is known, its methods may be called); ref i: the i-th thing of the abstract heap; gl k: the k-th known object of the text -/
inductive A where
  | non | bl (b : Bool) | int (i : Int) | str (s : Str) | tup (xs : List A) | ftup (xs : List A) | ref (i : Nat) | gl (k : Nat) | ty (s : String) | lit (ns : List Int)

mutual
def A.old (n : Nat) : A → Bool
  | .tup xs => A.olds n xs
  | .ftup xs => A.olds n xs
  | .ref i => Nat.blt i n
  | _ => true
def A.olds (n : Nat) : List A → Bool
  | [] => true
  | x :: xs => A.old n x && A.olds n xs
end

inductive AO where
  | lst (xs : List A) | flst (xs : List A) | dk (kvs : List (Key × A)) | dt (kvs : List (List Key × A)) | ins (c : Nat) (fs : List (Option A)) | set (xs : List Int)

abbrev Hs := List AO

structure AX where
  cls : Nat
  arg : Option A
def AX.old (n : Nat) (e : AX) : Bool := match e.arg with
  | none => true
  | some x => x.old n

inductive R (α : Type) where
  | ok (a : α) (h : Hs)
  | ex (e : AX) (h : Hs)
  | bad
def R.bind {α β : Type} (r : R α) (k : α → Hs → R β) : R β := match r with
  | .ok a h => k a h
  | .ex e h => .ex e h
  | .bad => .bad

/-- the known things: the written part, where the k-th known object stands, an exception class's field -/
structure Kn where
  K : PySem.W.Frag
  gt : Nat → Addr
  xf : Nat → Str
  T : List (Addr × Str)
  w : World

abbrev Loc := Nat → Addr
/-- a list of ints that is never changed: frozen, or the written part's own -/
def LitL (K : PySem.W.Frag) (H : Hp) (a : Addr) (ns : List Int) : Prop := (∃ o, H a = some (.frz o (.lst (ns.map V.int)))) ∨
  ∃ (o : Obj) (its : Array Value) (n : Nat), K.lookup a = some o ∧ o.cls = .type "list" ∧ o.dict = none ∧ o.data = .seq its n ∧ its.size ≤ sizeLine ∧ Vals (ns.map V.int) its.toList
theorem LitL.seq {K : PySem.W.Frag} {H : Hp} {a : Addr} {ns : List Int} (h : LitL K H a ns) : SqL K H a (ns.map V.int) := h.elim (fun ⟨o, e⟩ => .inl (.inr ⟨o, e⟩)) .inr

mutual
inductive RV (C : Kn) (G : Loc) (n : Nat) (H : Hp) : A → V → Prop
  | non : RV C G n H .non .non
  | bl (b : Bool) : RV C G n H (.bl b) (.bl b)
  | int (i : Int) : RV C G n H (.int i) (.int i)
  | str (s : Str) : RV C G n H (.str s) (.str s)
  | tup {xs : List A} {a : Addr} {ys : List V} : H a = some (.tup ys) → RVs C G n H xs ys → RV C G n H (.tup xs) (.ref a)
  | ftup {xs : List A} {a : Addr} {ys : List V} {o : Obj} : H a = some (.frz o (.tup ys)) → o.dict = none → RVs C G n H xs ys → RV C G n H (.ftup xs) (.ref a)
  | ref {i : Nat} : i < n → RV C G n H (.ref i) (.ref (G i))
  | gl (k : Nat) : RV C G n H (.gl k) (.ref (C.gt k))
  | ty (s : String) : RV C G n H (.ty s) (.ty s)
  | lit {ns : List Int} {a : Addr} : LitL C.K H a ns → RV C G n H (.lit ns) (.ref a)
inductive RVs (C : Kn) (G : Loc) (n : Nat) (H : Hp) : List A → List V → Prop
  | nil : RVs C G n H [] []
  | cons {x : A} {v : V} {xs : List A} {vs : List V} : RV C G n H x v → RVs C G n H xs vs → RVs C G n H (x :: xs) (v :: vs)
end

/-- what is never changed: tuples, the dicts of exceptions -/
def Stb : HO → Bool
  | .tup _ => true
  | .xd _ => true
  | _ => false

structure Ext (lo n : Nat) (G : Loc) (H : Hp) (n' : Nat) (G' : Loc) (H' : Hp) : Prop where
  le : n ≤ n'
  at_ : ∀ i, i < n → G' i = G i
  stb : ∀ a o, H a = some o → Stb o = true → H' a = some o
  frz : ∀ a o u, H a = some (.frz o u) → H' a = some (.frz o u)
  low : ∀ i, i < lo → i < n → H' (G i) = H (G i)
  own : ∀ a x, H a = some (.own x) → H' a = some (.own x) ∨ H' a = some (.xd [])

section
variable {C : Kn} {G G' G2 : Loc} {n n' n2 lo : Nat} {H H' H2 : Hp}
theorem Ext.refl : Ext lo n G H n G H := ⟨Nat.le_refl _, fun _ _ => rfl, fun _ _ h _ => h, fun _ _ _ h => h, fun _ _ _ => rfl, fun _ _ h => .inl h⟩
theorem Ext.trans (a : Ext lo n G H n' G' H') (b : Ext lo n' G' H' n2 G2 H2) : Ext lo n G H n2 G2 H2 :=
  ⟨Nat.le_trans a.le b.le, fun i h => (b.at_ i (Nat.lt_of_lt_of_le h a.le)).trans (a.at_ i h), fun x o h s => b.stb x o (a.stb x o h s) s,
   fun x o u h => b.frz x o u (a.frz x o u h),
   fun i h h' => by
    have q := b.low i h (Nat.lt_of_lt_of_le h' a.le)
    rw [a.at_ i h'] at q
    exact q.trans (a.low i h h'),
   fun x y h => by
    rcases a.own x y h with h | h
    · exact b.own x y h
    · exact .inr (b.stb x _ h rfl)⟩
theorem Ext.mono {lo' : Nat} (a : Ext lo n G H n' G' H') (h : lo' ≤ lo) : Ext lo' n G H n' G' H' :=
  ⟨a.le, a.at_, a.stb, a.frz, fun i h1 h2 => a.low i (Nat.lt_of_lt_of_le h1 h) h2, a.own⟩

theorem Ext.sqT {a : Addr} {ys : List V} (e : Ext lo n G H n' G' H') (h : SqT C.K H a ys) : SqT C.K H' a ys := by
  rcases h with (h | ⟨o, h⟩) | h
  · exact .inl (.inl (e.stb _ _ h rfl))
  · exact .inl (.inr ⟨o, e.frz _ _ _ h⟩)
  · exact .inr h

mutual
theorem RV.ext (e : Ext lo n G H n' G' H') : ∀ {x : A} {v : V}, RV C G n H x v → RV C G' n' H' x v
  | _, _, .non => .non
  | _, _, .bl b => .bl b
  | _, _, .int i => .int i
  | _, _, .str s => .str s
  | _, _, .tup h r => .tup (e.stb _ _ h rfl) (RVs.ext e r)
  | _, _, .ftup h d r => .ftup (e.frz _ _ _ h) d (RVs.ext e r)
  | _, _, .ref (i := i) h => by
    rw [← e.at_ i h]
    exact .ref (Nat.lt_of_lt_of_le h e.le)
  | _, _, .gl k => .gl k
  | _, _, .ty s => .ty s
  | _, _, .lit h => .lit (h.elim (fun ⟨o, q⟩ => .inl ⟨o, e.frz _ _ _ q⟩) .inr)
theorem RVs.ext (e : Ext lo n G H n' G' H') : ∀ {xs : List A} {vs : List V}, RVs C G n H xs vs → RVs C G' n' H' xs vs
  | _, _, .nil => .nil
  | _, _, .cons r t => .cons (RV.ext e r) (RVs.ext e t)
end
theorem RVs.length : ∀ {xs : List A} {vs : List V}, RVs C G n H xs vs → xs.length = vs.length
  | _, _, .nil => rfl
  | _, _, .cons _ t => by rw [List.length_cons, List.length_cons, t.length]
/-- a value that refers to elder things alone is as it was -/
theorem RV.back (e : Ext lo n G H n' G' H') : ∀ {x : A} {v : V}, RV C G' n' H' x v → x.old n = true → RV C G n H' x v := by
  have key : ∀ (x : A), (∀ v, RV C G' n' H' x v → x.old n = true → RV C G n H' x v) := by
    intro x
    refine A.rec (motive_1 := fun x => ∀ v, RV C G' n' H' x v → x.old n = true → RV C G n H' x v)
      (motive_2 := fun xs => ∀ vs, RVs C G' n' H' xs vs → A.olds n xs = true → RVs C G n H' xs vs) ?_ ?_ ?_ ?_ ?_ ?_ ?_ ?_ ?_ ?_ ?_ ?_ x
    · intro v r _; cases r; exact .non
    · intro b v r _; cases r; exact .bl b
    · intro b v r _; cases r; exact .int b
    · intro b v r _; cases r; exact .str b
    · intro xs ih v r b
      cases r with
      | tup h r => exact .tup h (ih _ r b)
    · intro xs ih v r b
      cases r with
      | ftup h d r => exact .ftup h d (ih _ r b)
    · intro i v r b
      cases r with
      | ref h =>
        have hi : i < n := Nat.lt_of_succ_le (Nat.le_of_ble_eq_true b)
        rw [e.at_ i hi]
        exact .ref hi
    · intro b v r _; cases r; exact .gl b
    · intro b v r _; cases r; exact .ty b
    · intro b v r _
      cases r with
      | lit h => exact .lit h
    · intro vs r _; cases r; exact .nil
    · intro x xs h1 h2 vs r b
      cases r with
      | cons r t =>
        have b' : (x.old n && A.olds n xs) = true := b
        rw [Bool.and_eq_true] at b'
        exact .cons (h1 _ r b'.1) (h2 _ t b'.2)
  exact fun {x v} r b => key x v r b
end
end MA

set_option linter.all false
namespace MA
open PySem L2 SlX LamX

/-- pairs of a dict -/
abbrev RKs (C : Kn) (G : Loc) (n : Nat) (H : Hp) {κ : Type} : List (κ × A) → List (κ × V) → Prop := Paired fun p q => p.1 = q.1 ∧ RV C G n H p.2 q.2
/-- slots, as far as they are told -/
def RSl (C : Kn) (G : Loc) (n : Nat) (H : Hp) (fs : List (Option A)) (vs : List (Option V)) : Prop := ∀ (i : Nat) (x : A), fs[i]? = some (some x) → ∃ v, vs[i]? = some (some v) ∧ RV C G n H x v
end MA
namespace MA
open PySem L2 SlX LamX

/-- an instance with slots: just made, or stored into -/
def SlI (H : Hp) (a D dx : Addr) (vs : List (Option V)) : Prop :=
  (H a = some (.ins D dx []) ∧ vs = [] ∧ (H dx = some (.own a) ∨ H dx = some (.xd []))) ∨ (H a = some (SlO a D dx vs) ∧ H dx = some (.xd []))
theorem SlI.slt {H : Hp} {a D dx : Addr} {vs : List (Option V)} (h : SlI H a D dx vs) : Slt H a D dx vs := by
  rcases h with ⟨a, b, _⟩ | h
  · exact .inl ⟨a, b⟩
  · exact .inr h
inductive RO (C : Kn) (G : Loc) (n : Nat) (H : Hp) : AO → Addr → Prop
  | lst {xs : List A} {ys : List V} {a : Addr} : H a = some (.lst ys) → RVs C G n H xs ys → RO C G n H (.lst xs) a
  | flst {xs : List A} {ys : List V} {a : Addr} {o : Obj} : H a = some (.frz o (.lst ys)) → RVs C G n H xs ys → RO C G n H (.flst xs) a
  | dk {kvs : List (Key × A)} {ks : List (Key × V)} {a : Addr} : H a = some (.dK ks) → RKs C G n H kvs ks → RO C G n H (.dk kvs) a
  | dt {kvs : List (List Key × A)} {ks : List (List Key × V)} {a : Addr} : H a = some (.dT ks) → RKs C G n H kvs ks → RO C G n H (.dt kvs) a
  | ins {c : Nat} {fs : List (Option A)} {vs : List (Option V)} {a dx : Addr} : dx ≠ a → SlI H a (C.gt c) dx vs → RSl C G n H fs vs → RO C G n H (.ins c fs) a
  | set {xs : List Int} {S : Int → Bool} {a : Addr} : H a = some (SetO C.w a S xs.length) → (∀ k, S k = xs.contains k) → RO C G n H (.set xs) a

structure Rh (C : Kn) (G : Loc) (h : Hs) (H : Hp) : Prop where
  inj : ∀ i j, i < h.length → j < h.length → G i = G j → i = j
  obj : ∀ i o, h[i]? = some o → RO C G h.length H o (G i)
  tab : Tabs C.T H

/-- the frame's names -/
abbrev Sl := List (Option A)
def RS (C : Kn) (G : Loc) (n : Nat) (H : Hp) (s : Sl) (σ : L2.St) : Prop := s.length = σ.length ∧ ∀ (i : Nat) (x : A), s[i]? = some (some x) → ∃ v, σ[i]? = some (some v) ∧ RV C G n H x v

section
variable {C : Kn} {G G' G2 : Loc} {n n' n2 lo : Nat} {h h' : Hs} {H H' H2 : Hp}
theorem RKs.ext {κ : Type} (e : Ext lo n G H n' G' H') {kvs : List (κ × A)} {ks : List (κ × V)} (r : RKs C G n H kvs ks) : RKs C G' n' H' kvs ks :=
  Paired.mapP r fun _ _ q => ⟨q.1, q.2.ext e⟩
theorem RSl.ext (e : Ext lo n G H n' G' H') {fs : List (Option A)} {vs : List (Option V)} (r : RSl C G n H fs vs) : RSl C G' n' H' fs vs := fun i x hx =>
  let ⟨v, h1, h2⟩ := r i x hx
  ⟨v, h1, h2.ext e⟩
theorem RS.ext (e : Ext lo n G H n' G' H') {s : Sl} {σ : L2.St} (r : RS C G n H s σ) : RS C G' n' H' s σ := ⟨r.1, fun i x hx =>
  let ⟨v, h1, h2⟩ := r.2 i x hx
  ⟨v, h1, h2.ext e⟩⟩

theorem RO.there {o : AO} {a : Addr} (r : RO C G n H o a) : ∃ u, H a = some u := by
  cases r with
  | lst h _ => exact ⟨_, h⟩
  | flst h _ => exact ⟨_, h⟩
  | dk h _ => exact ⟨_, h⟩
  | dt h _ => exact ⟨_, h⟩
  | ins _ h _ =>
    rcases h with ⟨h, _, _⟩ | ⟨h, _⟩
    · exact ⟨_, h⟩
    · exact ⟨_, h⟩
  | set h _ => exact ⟨_, h⟩
theorem setO_stb {w : World} {a : Addr} {S : Int → Bool} {k : Nat} : Stb (SetO w a S k) = false := by unfold SetO; rfl
theorem slO_stb {a C dx : Addr} {vs : List (Option V)} : Stb (SlO a C dx vs) = false := by unfold SlO; rfl
/-- a thing of the abstract heap is none of those that are never changed -/
theorem RO.notStb {o : AO} {a : Addr} {u : HO} (r : RO C G n H o a) (e : H a = some u) : Stb u = false := by
  cases r with
  | lst h _ => rw [h] at e; cases e; rfl
  | flst h _ => rw [h] at e; cases e; rfl
  | dk h _ => rw [h] at e; cases e; rfl
  | dt h _ => rw [h] at e; cases e; rfl
  | ins _ h _ =>
    rcases h with ⟨h, _, _⟩ | ⟨h, _⟩
    · rw [h] at e; cases e; rfl
    · rw [h] at e; cases e; exact slO_stb
  | set h _ => rw [h] at e; cases e; exact setO_stb
/-- the thing at a stays where its own object (and the dicts of slotted instances) stay -/
theorem RO.stay {o : AO} {a : Addr} (e : Ext lo n G H n' G' H') (ha : H' a = H a) (r : RO C G n H o a) : RO C G' n' H' o a := by
  cases r with
  | lst h r => exact .lst (by rw [ha]; exact h) (r.ext e)
  | flst h r => exact .flst (by rw [ha]; exact h) (r.ext e)
  | dk h r => exact .dk (by rw [ha]; exact h) (RKs.ext e r)
  | dt h r => exact .dt (by rw [ha]; exact h) (RKs.ext e r)
  | ins d h r =>
    refine .ins d ?_ (r.ext e)
    rcases h with ⟨h, z, w⟩ | ⟨h, z⟩
    · refine .inl ⟨by rw [ha]; exact h, z, ?_⟩
      rcases w with w | w
      · exact e.own _ _ w
      · exact .inr (e.stb _ _ w rfl)
    · exact .inr ⟨by rw [ha]; exact h, e.stb _ _ z rfl⟩
  | set h k => exact .set (by rw [ha]; exact h) k

theorem Rh.lt {i : Nat} {o : AO} (e : h[i]? = some o) : i < h.length := (List.getElem?_eq_some_iff.mp e).1
theorem Rh.ne_none (r : Rh C G h H) {i : Nat} (hi : i < h.length) {p : Addr} (hp : H p = none) : G i ≠ p := fun z => by
  obtain ⟨u, hu⟩ := (r.obj i h[i] (List.getElem?_eq_getElem hi)).there
  rw [z, hp] at hu
  cases hu

/-- the heap grows by things that no one knows of -/
theorem Ext.grow (k : ∀ b o, H b = some o → H' b = some o) (r : Rh C G h H) : Ext lo h.length G H h.length G H' :=
  ⟨Nat.le_refl _, fun _ _ => rfl, fun a o q _ => k a o q, fun a o u q => k a _ q, fun i _ hi => by
    obtain ⟨u, hu⟩ := (r.obj i h[i] (List.getElem?_eq_getElem hi)).there
    rw [hu, k _ _ hu], fun a x q => .inl (k a _ q)⟩
theorem Rh.grow (k : ∀ b o, H b = some o → H' b = some o) (r : Rh C G h H) : Rh C G h H' :=
  ⟨r.inj, fun i o e => by
    have x := r.obj i o e
    obtain ⟨u, hu⟩ := x.there
    exact x.stay (Ext.grow (lo := 0) k r) (by rw [hu, k _ _ hu]), r.tab.ext k⟩
theorem keeps_new {p : Addr} {o : HO} (hp : H p = none) : ∀ b u, H b = some u → upd H p o b = some u := fun b u e => by rw [upd_ne (ne_of_none e hp)]; exact e

/-- a new tuple -/
theorem Rh.tup (r : Rh C G h H) {p : Addr} (hp : H p = none) (ys : List V) : Rh C G h (upd H p (.tup ys)) ∧ Ext lo h.length G H h.length G (upd H p (.tup ys)) :=
  ⟨r.grow (keeps_new hp), Ext.grow (keeps_new hp) r⟩

/-- where the next thing comes to stand -/
def Loc.at (G : Loc) (n : Nat) (p : Addr) : Loc := fun i => if i = n then p else G i
theorem Loc.at_new {p : Addr} : G.at n p n = p := if_pos rfl
theorem Loc.at_old {p : Addr} {i : Nat} (hi : i < n) : G.at n p i = G i := if_neg (Nat.ne_of_lt hi)
/-- a new thing -/
theorem Ext.new (r : Rh C G h H) {p : Addr} (hp : H p = none) (u : HO) : Ext lo h.length G H (h.length + 1) (G.at h.length p) (upd H p u) :=
  ⟨Nat.le_succ _, fun i hi => Loc.at_old hi, fun a o q _ => keeps_new hp a o q, fun a o v q => keeps_new hp a _ q, fun i _ hi => by
    rw [upd_ne (r.ne_none hi hp)], fun a x q => .inl (keeps_new hp a _ q)⟩
theorem Rh.new (r : Rh C G h H) {p : Addr} (hp : H p = none) {u : HO} {o : AO} (ho : RO C (G.at h.length p) (h.length + 1) (upd H p u) o p) : Rh C (G.at h.length p) (h ++ [o]) (upd H p u) := by
  have e := Ext.new (lo := 0) r hp u
  have len : (h ++ [o]).length = h.length + 1 := by simp
  refine ⟨fun i j hi hj q => ?_, fun i x hx => ?_, r.tab.ext (keeps_new hp)⟩
  · rw [len] at hi hj
    by_cases h1 : i = h.length
    · by_cases h2 : j = h.length
      · rw [h1, h2]
      · subst h1
        rw [Loc.at_new, Loc.at_old (by omega)] at q
        exact absurd q.symm (r.ne_none (by omega) hp)
    · by_cases h2 : j = h.length
      · subst h2
        rw [Loc.at_new, Loc.at_old (by omega)] at q
        exact absurd q (r.ne_none (by omega) hp)
      · rw [Loc.at_old (by omega), Loc.at_old (by omega)] at q
        exact r.inj i j (by omega) (by omega) q
  · rw [len]
    by_cases h1 : i < h.length
    · rw [List.getElem?_append_left h1] at hx
      rw [Loc.at_old h1]
      exact (r.obj i x hx).stay e (by rw [upd_ne (r.ne_none h1 hp)])
    · have hi : i = h.length := by
        have := Rh.lt hx
        rw [len] at this
        omega
      subst hi
      rw [List.getElem?_append_right (Nat.le_refl _), Nat.sub_self] at hx
      cases hx
      rw [Loc.at_new]
      exact ho

/-- what may be written over: no table, no code object, none of those that never change -/
def Free (a : Addr) (u : HO) : Prop := Stb u = false ∧ (∀ o v, u ≠ .frz o v) ∧ (∀ ps, u ≠ .tbl ps) ∧ (∀ q, u ≠ CodeO a q) ∧ ∀ x, u ≠ .own x
theorem free_lst {a : Addr} {xs : List V} : Free a (.lst xs) := ⟨rfl, fun _ _ z => (by cases z), fun _ z => (by cases z), fun _ z => (by unfold CodeO at z; cases z), fun _ z => (by cases z)⟩
theorem free_dk {a : Addr} {xs : List (Key × V)} : Free a (.dK xs) := ⟨rfl, fun _ _ z => (by cases z), fun _ z => (by cases z), fun _ z => (by unfold CodeO at z; cases z), fun _ z => (by cases z)⟩
theorem free_dt {a : Addr} {xs : List (List Key × V)} : Free a (.dT xs) := ⟨rfl, fun _ _ z => (by cases z), fun _ z => (by cases z), fun _ z => (by unfold CodeO at z; cases z), fun _ z => (by cases z)⟩
theorem Ext.put {i : Nat} (r : Rh C G h H) (hlo : lo ≤ i) (hi : i < h.length) {u u' : HO} (hu : H (G i) = some u) (f : Free (G i) u) : Ext lo h.length G H h.length G (upd H (G i) u') :=
  ⟨Nat.le_refl _, fun _ _ => rfl, fun a o q z => by
    have : a ≠ G i := fun w => by
      subst w
      rw [hu] at q
      cases q
      rw [f.1] at z
      cases z
    rw [upd_ne this]
    exact q, fun a o v q => by
    have : a ≠ G i := fun w => by
      subst w
      rw [hu] at q
      cases q
      exact f.2.1 _ _ rfl
    rw [upd_ne this]
    exact q, fun j hj hj2 => by
    have : G j ≠ G i := fun w => by
      have := r.inj j i hj2 hi w
      omega
    rw [upd_ne this], fun a x q => by
    have : a ≠ G i := fun w => by
      subst w
      rw [hu] at q
      cases q
      exact f.2.2.2.2 _ rfl
    rw [upd_ne this]
    exact .inl q⟩
theorem Tabs.upd {T : List (Addr × Str)} {a : Addr} {u u' : HO} (t : Tabs T H) (hu : H a = some u) (f : Free a u) : Tabs T (upd H a u') := fun p hp => by
  obtain ⟨ps, h1, h2, h3⟩ := t p hp
  refine ⟨ps, ?_, h2, fun pos cv hc => ?_⟩
  · have : p.1 ≠ a := fun w => by
      rw [w, hu] at h1
      cases h1
      exact f.2.2.1 _ rfl
    rw [upd_ne this]
    exact h1
  · obtain ⟨c, e1, e2⟩ := h3 pos cv hc
    refine ⟨c, e1, ?_⟩
    have : c ≠ a := fun w => by
      subst w
      rw [hu] at e2
      cases e2
      exact f.2.2.2.1 _ rfl
    rw [upd_ne this]
    exact e2
theorem Rh.put {i : Nat} (r : Rh C G h H) (hi : i < h.length) {u u' : HO} (hu : H (G i) = some u) (f : Free (G i) u) {o : AO} (ho : RO C G h.length (upd H (G i) u') o (G i)) : Rh C G (h.set i o) (upd H (G i) u') := by
  have e := Ext.put (lo := 0) (u' := u') r (Nat.zero_le _) hi hu f
  refine ⟨fun j k hj hk q => ?_, fun j x hx => ?_, Tabs.upd r.tab hu f⟩
  · rw [List.length_set] at hj hk
    exact r.inj j k hj hk q
  · rw [List.length_set]
    by_cases hji : j = i
    · subst hji
      rw [List.getElem?_set_self hi] at hx
      cases hx
      exact ho
    · rw [List.getElem?_set_ne (Ne.symm hji)] at hx
      have hj := Rh.lt hx
      exact (r.obj j x hx).stay e (by rw [upd_ne (fun w => hji (r.inj j i hj hi w))])
end

/-! ### what an abstract run says of a run -/
def RX (C : Kn) (G : Loc) (n : Nat) (H : Hp) (e : AX) (c : Value) (d : Option Addr) : Prop :=
  c = .ref (C.gt e.cls) ∧ match e.arg with
    | none => d = none
    | some x => ∃ dx v, d = some dx ∧ H dx = some (.xd [(C.xf e.cls, v)]) ∧ RV C G n H x v
/-- the end: Q of what comes, E of what is raised -/
def fin {α β : Type} (rel : Loc → Nat → Hp → α → β → Prop) (C : Kn) (E : XK) (G : Loc) (lo n : Nat) (H : Hp) (r : R α) (Q : β → Hp → Prop) : Prop := match r with
  | .ok x h' => ∀ G' H' v, Ext lo n G H h'.length G' H' → Rh C G' h' H' → rel G' h'.length H' x v → Q v H'
  | .ex e h' => ∀ G' H' c d, Ext lo n G H h'.length G' H' → Rh C G' h' H' → RX C G' h'.length H' e c d → E c d H'
  | .bad => False
abbrev MF (α : Type) := Nat → Sl → Hs → R α
def MF.bind {α β : Type} (f : MF α) (k : α → MF β) : MF β := fun lo s h => (f lo s h).bind fun x h1 => k x lo s h1
def Cont {α β : Type} (rel : Loc → Nat → Hp → α → β → Prop) (C : Kn) (E : XK) (f : MF α) (xs : List A) (vs : List V) (σ : L2.St) (H : Hp) (Q : β → Hp → Prop) : Prop :=
  ∃ (G : Loc) (lo : Nat) (h : Hs) (s : Sl), Rh C G h H ∧ RS C G h.length H s σ ∧ RVs C G h.length H xs vs ∧ fin rel C E G lo h.length H (f lo s h) Q

def relB : Loc → Nat → Hp → Bool → Bool → Prop := fun _ _ _ a b => a = b
def relV (C : Kn) : Loc → Nat → Hp → A → V → Prop := fun G n H => RV C G n H
def relVs (C : Kn) : Loc → Nat → Hp → List A → List V → Prop := fun G n H => RVs C G n H

def tE (C : Kn) (E : XK) (f : MF A) : TE := fun σ H Q => Cont (relV C) C E f [] [] σ H Q
def tT (C : Kn) (E : XK) (f : MF Bool) : TT := fun σ H Q => Cont relB C E f [] [] σ H Q
def tA (C : Kn) (E : XK) (f : MF (List A)) : TA := fun σ H Q => Cont (relVs C) C E f [] [] σ H Q

section
variable {α β γ δ : Type} {C : Kn} {E : XK} {xs : List A} {vs : List V} {σ : L2.St} {H : Hp}
theorem fin.mono {rel : Loc → Nat → Hp → α → β → Prop} {G : Loc} {lo n : Nat} {r : R α} {Q Q' : β → Hp → Prop} (f : fin rel C E G lo n H r Q) (k : ∀ v H', Q v H' → Q' v H') : fin rel C E G lo n H r Q' := by
  cases r with
  | ok x h' => exact fun G' H' v a b c => k _ _ (f G' H' v a b c)
  | ex e h' => exact f
  | bad => exact f
theorem Cont.mono {rel : Loc → Nat → Hp → α → β → Prop} {f : MF α} {Q Q' : β → Hp → Prop} (c : Cont rel C E f xs vs σ H Q) (k : ∀ v H', Q v H' → Q' v H') : Cont rel C E f xs vs σ H Q' := by
  obtain ⟨G, lo, h, s, a, b, d, e⟩ := c
  exact ⟨G, lo, h, s, a, b, d, e.mono k⟩
/-- one behind the other -/
theorem fin.ext {rel : Loc → Nat → Hp → α → β → Prop} {G G1 : Loc} {lo n n1 : Nat} {H1 : Hp} {r : R α} {Q : β → Hp → Prop} (e : Ext lo n G H n1 G1 H1) (f : fin rel C E G lo n H r Q) : fin rel C E G1 lo n1 H1 r Q := by
  cases r with
  | ok x h' => exact fun G' H' v a b c => f G' H' v (e.trans a) b c
  | ex x h' => exact fun G' H' c d a b z => f G' H' c d (e.trans a) b z
  | bad => exact f
theorem Cont.bind {rel : Loc → Nat → Hp → α → β → Prop} {fa : MF A} {k : A → MF α} {Q : β → Hp → Prop} (c : Cont rel C E (fa.bind k) xs vs σ H Q) :
    tE C E fa σ H fun v H1 => ∃ x, Cont rel C E (k x) (x :: xs) (v :: vs) σ H1 Q := by
  obtain ⟨G, lo, h, s, a, b, d, f⟩ := c
  refine ⟨G, lo, h, s, a, b, .nil, ?_⟩
  unfold MF.bind at f
  cases hr : fa lo s h with
  | ok x h1 =>
    rw [hr] at f
    exact fun G' H' v e1 r1 rv => ⟨x, G', lo, h1, s, r1, b.ext e1, .cons rv (d.ext e1), f.ext e1⟩
  | ex e h1 =>
    rw [hr] at f
    exact f
  | bad =>
    rw [hr] at f
    exact f
theorem Cont.bindT {rel : Loc → Nat → Hp → α → β → Prop} {fa : MF Bool} {k : Bool → MF α} {Q : β → Hp → Prop} (c : Cont rel C E (fa.bind k) xs vs σ H Q) :
    tT C E fa σ H fun b H1 => Cont rel C E (k b) xs vs σ H1 Q := by
  obtain ⟨G, lo, h, s, a, b, d, f⟩ := c
  refine ⟨G, lo, h, s, a, b, .nil, ?_⟩
  unfold MF.bind at f
  cases hr : fa lo s h with
  | ok x h1 =>
    rw [hr] at f
    intro G' H' v e1 r1 rv
    cases rv
    exact ⟨G', lo, h1, s, r1, b.ext e1, d.ext e1, f.ext e1⟩
  | ex e h1 =>
    rw [hr] at f
    exact f
  | bad =>
    rw [hr] at f
    exact f
theorem RVs.append {G : Loc} {n : Nat} : ∀ {xs ys : List A} {vs ws : List V}, RVs C G n H xs vs → RVs C G n H ys ws → RVs C G n H (xs ++ ys) (vs ++ ws)
  | _, _, _, _, .nil, r => r
  | _, _, _, _, .cons a b, r => .cons a (RVs.append b r)
theorem Cont.bindA {rel : Loc → Nat → Hp → α → β → Prop} {fa : MF (List A)} {k : List A → MF α} {Q : β → Hp → Prop} (c : Cont rel C E (fa.bind k) xs vs σ H Q) :
    tA C E fa σ H fun ws H1 => ∃ ys, Cont rel C E (k ys) (ys ++ xs) (ws ++ vs) σ H1 Q := by
  obtain ⟨G, lo, h, s, a, b, d, f⟩ := c
  refine ⟨G, lo, h, s, a, b, .nil, ?_⟩
  unfold MF.bind at f
  cases hr : fa lo s h with
  | ok x h1 =>
    rw [hr] at f
    exact fun G' H' v e1 r1 rv => ⟨x, G', lo, h1, s, r1, b.ext e1, RVs.append rv (d.ext e1), f.ext e1⟩
  | ex e h1 =>
    rw [hr] at f
    exact f
  | bad =>
    rw [hr] at f
    exact f
end
end MA

set_option linter.all false
namespace MA
open PySem L2 SlX LamX

/-! ### what is asked around an expression -/
structure Go (X : Cx) (C : Kn) (E : XK) (k : Nat) : Prop where
  K : X.K = C.K
  w : X.w = C.w
  calm : X.calm = true
  room : Room k X.A
  pass : Passes (L2.CX X.prog X.w) X E
  nd : X.N.Nodup

theorem imp {X : Cx} {e : Expr} {t t' : TE} (h : PE X e t) (k : ∀ σ H Q, t' σ H Q → t σ H Q) : PE X e t' := ⟨fun pins s σ H Q I q => h.run pins s σ H Q I (k σ H Q q)⟩
theorem impT {X : Cx} {e : Expr} {t t' : TT} (h : PT X e t) (k : ∀ σ H Q, t' σ H Q → t σ H Q) : PT X e t' := ⟨fun pins s σ H Q I q => h.run pins s σ H Q I (k σ H Q q)⟩
theorem impA {X : Cx} {es : List Expr} {t t' : TA} (h : PA X es t) (k : ∀ σ H Q, t' σ H Q → t σ H Q) : PA X es t' := ⟨fun pos pins s σ H Q I q => h.run pos pins s σ H Q I (k σ H Q q)⟩
theorem impS {X : Cx} {e : Stmt} {t t' : TS} (h : PS X e t) (k : ∀ D σ H, t' D σ H → t D σ H) : PS X e t' := ⟨fun pins s σ H D I q => h.run pins s σ H D I (k D σ H q)⟩
theorem impSs {X : Cx} {e : List Stmt} {t t' : TS} (h : PSs X e t) (k : ∀ D σ H, t' D σ H → t D σ H) : PSs X e t' := ⟨fun pins s σ H D I q => h.run pins s σ H D I (k D σ H q)⟩

/-! ### names, constants -/
def vA (i : Nat) : MF A := fun _ s h => match s[i]? with
  | some (some x) => .ok x h
  | _ => .bad
def cA (x : A) : MF A := fun _ _ h => .ok x h
section
variable {X : Cx} {C : Kn} {E : XK} {k : Nat}
theorem cA_use {x : A} {v : V} {σ : L2.St} {H : Hp} {Q : VK} (c : tE C E (cA x) σ H Q) (r : ∀ G n, RV C G n H x v) : Q v H := by
  obtain ⟨G, lo, h, s, rh, rs, rv, f⟩ := c
  exact f G H v Ext.refl rh (r _ _)
theorem je_var {i : Nat} {x : Str} {pos : Pos} (hN : X.N[i]? = some x) (hv : Vis X.env.scope x) (hd : (x == ("__debug__" : Str)) = false := by decide) (hcd : (x == ("__classdict__" : Str)) = false := by decide) : PE X (.Name x pos) (tE C E (vA i)) :=
  imp (pe_var hN hv hd hcd) fun σ H Q c => by
    obtain ⟨G, lo, h, s, rh, rs, rv, f⟩ := c
    unfold vA at f
    split at f
    · rename_i x hx
      obtain ⟨v, h1, h2⟩ := rs.2 i x hx
      exact ⟨v, h1, f G H v Ext.refl rh h2⟩
    · exact f.elim
theorem je_int {i : Int} {j pos} : PE X (.Constant (.int i) j pos) (tE C E (cA (.int i))) := imp pe_int fun _ _ _ c => cA_use c fun _ _ => .int i
theorem je_bl {b : Bool} {j pos} : PE X (.Constant (.bool b) j pos) (tE C E (cA (.bl b))) := imp pe_bl fun _ _ _ c => cA_use c fun _ _ => .bl b
theorem je_non {j pos} : PE X (.Constant .none j pos) (tE C E (cA .non)) := imp pe_non fun _ _ _ c => cA_use c fun _ _ => .non
theorem je_str {x y : Str} {j pos} (e : x = y) : PE X (.Constant (.str x) j pos) (tE C E (cA (.str y))) := imp pe_str fun _ _ _ c => by
  rw [e]
  exact cA_use c fun _ _ => .str y
theorem je_gl {g : Nat} {x : Str} {pos : Pos} (hg : Gl X x) (hm : X.mg x = some (.ref (C.gt g))) (hd : (x == ("__debug__" : Str)) = false := by decide) : PE X (.Name x pos) (tE C E (cA (.gl g))) :=
  imp (pe_glob (v := .ref (C.gt g)) hg hm rfl hd) fun _ _ _ c => cA_use c fun _ _ => .gl g
theorem je_gint {i : Int} {t : Tok} {x : Str} {pos : Pos} (hg : Gl X x) (hm : X.mg x = some (.int i t)) (hd : (x == ("__debug__" : Str)) = false := by decide) : PE X (.Name x pos) (tE C E (cA (.int i))) :=
  imp (pe_glob (v := .int i) hg hm ⟨t, rfl⟩ hd) fun _ _ _ c => cA_use c fun _ _ => .int i
theorem je_ty {T : String} {x : Str} {pos : Pos} (hg : Gl X x) (hm : X.mg x = none) (hv : bootBuiltins x = some (.type T)) (hn : x ≠ "__name__" := by decide) (hd : (x == ("__debug__" : Str)) = false := by decide) : PE X (.Name x pos) (tE C E (cA (.ty T))) :=
  imp (pe_bltn (v := .ty T) hg hm hv rfl hn hd) fun _ _ _ c => cA_use c fun _ _ => .ty T
/-- what is never evaluated -/
theorem je_never {e : Expr} : PE X e (tE C E fun _ _ _ => .bad) := ⟨fun _ _ _ _ _ _ c => by
  obtain ⟨G, lo, h, s, rh, rs, rv, f⟩ := c
  exact f.elim⟩

/-! ### two values -/
abbrev Op (α : Type) := Nat → Hs → R α
def Op2 (C : Kn) (E : XK) (o : A → A → Op A) (r : R2) : Prop := ∀ (G : Loc) (lo : Nat) (h : Hs) (H : Hp) (x y : A) (v w : V) (Q : VK),
  Rh C G h H → RV C G h.length H x v → RV C G h.length H y w → fin (relV C) C E G lo h.length H (o x y lo h) Q → r v w H Q
def bin (o : A → A → Op A) (fa fb : MF A) : MF A := fa.bind fun x => fb.bind fun y => fun lo _ h => o x y lo h
theorem bin_use {o : A → A → Op A} {r : R2} (hr : Op2 C E o r) {fa fb : MF A} {σ : L2.St} {H : Hp} {Q : VK} (c : tE C E (bin o fa fb) σ H Q) : tOp r (tE C E fa) (tE C E fb) σ H Q := by
  refine Cont.mono (Cont.bind c) fun v H1 ⟨x, c1⟩ => ?_
  refine Cont.mono (Cont.bind c1) fun w H2 ⟨y, c2⟩ => ?_
  obtain ⟨G, lo, h, s, rh, rs, rv, f⟩ := c2
  cases rv with
  | cons ry rv =>
    cases rv with
    | cons rx _ => exact hr G lo h H2 x y v w Q rh rx ry f
theorem je_op {op : Operator} {o : A → A → Op A} {r : R2} {a b : Expr} {fa fb : MF A} {pos : Pos} (ho : OpR X (binaryOp op) r) (hr : Op2 C E o r) (ha : PE X a (tE C E fa)) (hb : PE X b (tE C E fb)) : PE X (.BinOp a op b pos) (tE C E (bin o fa fb)) :=
  imp (pe_op ho ha hb) fun _ _ _ c => bin_use hr c
theorem je_cmp {op : CmpOp} {o : A → A → Op A} {r : R2} {a b : Expr} {fa fb : MF A} {pos : Pos} (ho : OpR X (compareOp op) r) (hr : Op2 C E o r) (ha : PE X a (tE C E fa)) (hb : PE X b (tE C E fb)) (hm : behindInMarks op b = false) : PE X (.Compare a [op] [b] pos) (tE C E (bin o fa fb)) :=
  imp (pe_cmpR ho ha hb hm) fun _ _ _ c => bin_use hr c

def okB (n : Nat) : Bool := Nat.ble n 100000
theorem okB_le {n : Nat} (h : okB n = true) : n ≤ sizeLine := Nat.le_trans (Nat.le_of_ble_eq_true h) (by decide)


/-! ### ends -/
section
variable {G : Loc} {lo : Nat} {h : Hs} {H : Hp} {Q : VK}
theorem fin_val {x : A} {v : V} (f : fin (relV C) C E G lo h.length H (.ok x h) Q) (rh : Rh C G h H) (r : RV C G h.length H x v) : Q v H := f G H v Ext.refl rh r
theorem fin_tup {xs : List A} {ys : List V} {p : Addr} (f : fin (relV C) C E G lo h.length H (.ok (.tup xs) h) Q) (rh : Rh C G h H) (r : RVs C G h.length H xs ys) (hp : H p = none) : Q (.ref p) (upd H p (.tup ys)) := by
  obtain ⟨a, e⟩ := rh.tup (lo := lo) hp ys
  exact f G _ _ e a (.tup upd_same (r.ext e))
theorem len1 {o : AO} : (h ++ [o]).length = h.length + 1 := by simp
theorem fin_new {u : HO} {o : AO} {p : Addr} (f : fin (relV C) C E G lo h.length H (.ok (.ref h.length) (h ++ [o])) Q) (rh : Rh C G h H) (hp : H p = none)
    (ho : ∀ (e : Ext lo h.length G H (h.length + 1) (G.at h.length p) (upd H p u)), RO C (G.at h.length p) (h.length + 1) (upd H p u) o p) : Q (.ref p) (upd H p u) := by
  have e := Ext.new (lo := lo) rh hp u
  have q : RV C (G.at h.length p) (h.length + 1) (upd H p u) (.ref h.length) (.ref (G.at h.length p h.length)) := .ref (Nat.lt_succ_self _)
  rw [Loc.at_new] at q
  exact f _ _ _ (by rw [len1]; exact e) (rh.new hp (ho e)) (by rw [len1]; exact q)
theorem fin_lst {xs : List A} {ys : List V} {p : Addr} (f : fin (relV C) C E G lo h.length H (.ok (.ref h.length) (h ++ [.lst xs])) Q) (rh : Rh C G h H) (r : RVs C G h.length H xs ys) (hp : H p = none) : Q (.ref p) (upd H p (.lst ys)) :=
  fin_new f rh hp fun e => .lst upd_same (r.ext e)
theorem fin_put {α β : Type} {rel : Loc → Nat → Hp → α → β → Prop} {Q : β → Hp → Prop} {i : Nat} {u u' : HO} {o : AO} {x : α} {v : β} (f : fin rel C E G lo h.length H (.ok x (h.set i o)) Q) (rh : Rh C G h H) (hlo : lo ≤ i) (hi : i < h.length) (hu : H (G i) = some u) (fr : Free (G i) u)
    (ho : ∀ (e : Ext lo h.length G H h.length G (upd H (G i) u')), RO C G h.length (upd H (G i) u') o (G i)) (hr : ∀ (e : Ext lo h.length G H h.length G (upd H (G i) u')), rel G h.length (upd H (G i) u') x v) : Q v (upd H (G i) u') := by
  have e := Ext.put (u' := u') rh hlo hi hu fr
  exact f G _ v (by rw [List.length_set]; exact e) (rh.put hi hu fr (ho e)) (by rw [List.length_set]; exact hr e)
end

/-! ### what may be read as a list or tuple -/
def Hs.seq (h : Hs) : A → Option (List A)
  | .tup xs => some xs
  | .ftup xs => some xs
  | .lit ns => some (ns.map .int)
  | .ref i => match h[i]? with
    | some (.lst xs) => some xs
    | some (.flst xs) => some xs
    | _ => none
  | _ => none
section
variable {G : Loc} {h : Hs} {H : Hp}
theorem rvs_ints0 {n : Nat} : ∀ (ns : List Int), RVs C G n H (ns.map .int) (ns.map V.int)
  | [] => .nil
  | i :: ns => .cons (.int i) (rvs_ints0 ns)
theorem Rh.sqL {i : Nat} {xs : List A} (rh : Rh C G h H) (e : h[i]? = some (.lst xs) ∨ h[i]? = some (.flst xs)) : ∃ ys, SqL C.K H (G i) ys ∧ RVs C G h.length H xs ys := by
  rcases e with e | e
  · cases rh.obj i _ e with
    | lst q r => exact ⟨_, SqL.of q, r⟩
  · cases rh.obj i _ e with
    | flst q r => exact ⟨_, .inl (.inr ⟨_, q⟩), r⟩
theorem Rh.lst {i : Nat} {xs : List A} (rh : Rh C G h H) (e : h[i]? = some (.lst xs)) : ∃ ys, H (G i) = some (.lst ys) ∧ RVs C G h.length H xs ys := by
  cases rh.obj i _ e with
  | lst q r => exact ⟨_, q, r⟩
theorem Rh.seq {x : A} {v : V} {xs : List A} (rh : Rh C G h H) (e : h.seq x = some xs) (r : RV C G h.length H x v) : ∃ a ys, v = .ref a ∧ (SqL C.K H a ys ∨ SqT C.K H a ys) ∧ RVs C G h.length H xs ys := by
  cases r with
  | tup q r => cases e; exact ⟨_, _, rfl, .inr (SqT.of q), r⟩
  | ftup q d r => cases e; exact ⟨_, _, rfl, .inr (.inl (.inr ⟨_, q⟩)), r⟩
  | ref hi =>
    unfold Hs.seq at e
    simp only at e
    split at e
    · rename_i ys hy
      cases e
      obtain ⟨zs, a, b⟩ := rh.sqL (.inl hy)
      exact ⟨_, zs, rfl, .inl a, b⟩
    · rename_i ys hy
      cases e
      obtain ⟨zs, a, b⟩ := rh.sqL (.inr hy)
      exact ⟨_, zs, rfl, .inl a, b⟩
    · cases e
  | non => cases e
  | bl => cases e
  | int => cases e
  | str => cases e
  | gl => cases e
  | ty => cases e
  | @lit ns a h =>
    cases e
    exact ⟨a, _, rfl, .inl h.seq, rvs_ints0 ns⟩
end

/-! ### data, as == sees it -/
def datL (g : A → Option PyData) : List A → Option (List PyData)
  | [] => some []
  | x :: xs => match g x with
    | some d => match datL g xs with
      | some ds => some (d :: ds)
      | none => none
    | none => none
def dat (h : Hs) : Nat → A → Option PyData
  | 0, _ => none
  | f + 1, x => match x with
    | .non => some .none
    | .bl b => some (.bool b)
    | .int i => some (.int i)
    | .str s => some (.str s)
    | .tup xs => (datL (dat h f) xs).map .tuple
    | .ftup xs => (datL (dat h f) xs).map .tuple
    | .ref i => match h[i]? with
      | some (.lst xs) => (datL (dat h f) xs).map .list
      | some (.flst xs) => (datL (dat h f) xs).map .list
      | _ => none
    | _ => none
theorem datL_all {G : Loc} {h : Hs} {H : Hp} {g : A → Option PyData} (ih : ∀ x v d, g x = some d → RV C G h.length H x v → Dp C.K H v d) : ∀ (xs : List A) (vs : List V) (ds : List PyData), datL g xs = some ds → RVs C G h.length H xs vs → DpAll C.K H vs ds
  | [], _, _, e, r => by
    cases e
    cases r
    exact .nil
  | x :: xs, _, _, e, r => by
    cases r with
    | cons r1 r2 =>
      unfold datL at e
      split at e
      · rename_i d hd
        split at e
        · rename_i ds hds
          cases e
          exact .cons (ih _ _ _ hd r1) (datL_all ih xs _ _ hds r2)
        · cases e
      · cases e
theorem dat_dp {G : Loc} {h : Hs} {H : Hp} (rh : Rh C G h H) : ∀ (f : Nat) (x : A) (v : V) (d : PyData), dat h f x = some d → RV C G h.length H x v → Dp C.K H v d
  | 0, _, _, _, e, _ => by cases e
  | f + 1, x, v, d, e, r => by
    cases r with
    | non => cases e; exact .non
    | bl b => cases e; exact .bl b
    | int i => cases e; exact .int i
    | str s => cases e; exact .str s
    | tup q r =>
      unfold dat at e
      simp only at e
      rw [Option.map_eq_some_iff] at e
      obtain ⟨ds, h1, h2⟩ := e
      cases h2
      exact .tup (SqT.of q) (datL_all (fun x v d h1 h2 => dat_dp rh f x v d h1 h2) _ _ _ h1 r)
    | ftup q _ r =>
      unfold dat at e
      simp only at e
      rw [Option.map_eq_some_iff] at e
      obtain ⟨ds, h1, h2⟩ := e
      cases h2
      exact .tup (.inl (.inr ⟨_, q⟩)) (datL_all (fun x v d h1 h2 => dat_dp rh f x v d h1 h2) _ _ _ h1 r)
    | ref hi =>
      unfold dat at e
      simp only at e
      split at e
      · rename_i xs hx
        rw [Option.map_eq_some_iff] at e
        obtain ⟨ds, h1, h2⟩ := e
        cases h2
        obtain ⟨ys, a, b⟩ := rh.sqL (.inl hx)
        exact .lst a (datL_all (fun x v d h1 h2 => dat_dp rh f x v d h1 h2) _ _ _ h1 b)
      · rename_i xs hx
        rw [Option.map_eq_some_iff] at e
        obtain ⟨ds, h1, h2⟩ := e
        cases h2
        obtain ⟨ys, a, b⟩ := rh.sqL (.inr hx)
        exact .lst a (datL_all (fun x v d h1 h2 => dat_dp rh f x v d h1 h2) _ _ _ h1 b)
      · cases e
    | gl k => cases e
    | ty s => cases e
    | lit _ => cases e

/-! ### the operations -/
def addO (x y : A) : Op A := fun _ h => match x, y with
  | .int i, .int j => .ok (.int (i + j)) h
  | .tup xs, .tup ys => if okB (xs.length + ys.length) then .ok (.tup (xs ++ ys)) h else .bad
  | .str a, .str b => if okB (a.length + b.length) then .ok (.str (a ++ b)) h else .bad
  | .ref i, .ref j => match h[i]?, h[j]? with
    | some (.lst xs), some (.lst ys) => if okB (xs.length + ys.length) then .ok (.ref h.length) (h ++ [.lst (xs ++ ys)]) else .bad
    | _, _ => .bad
  | _, _ => .bad
/-- the readings of x + y -/
def rAddA (K : PySem.W.Frag) : R2 := fun x y H Q => rI0 (fun i j => .int (i + j)) x y H Q ∨ rCatA K x y H Q ∨ (∃ i j, x = .str i ∧ y = .str j ∧ i.length + j.length ≤ sizeLine ∧ Q (.str (i ++ j)) H) ∨ rCat x y H Q
theorem op_addA : OpR X (binaryOp .Add) (rAddA X.K) := op_add.or (op_catA.or (op_add_str.or op_cat))
theorem rvs_nil {G : Loc} {n : Nat} {H : Hp} {xs : List A} {ys : List V} (r : RVs C G n H xs ys) : xs = [] ↔ ys = [] := by
  cases r with
  | nil => simp
  | cons _ _ => simp
theorem addO_ok : Op2 C E addO (rAddA C.K) := by
  intro G lo h H x y v w Q rh rx ry f
  unfold addO at f
  split at f
  · cases rx; cases ry
    exact .inl ⟨_, _, rfl, rfl, fin_val f rh (.int _)⟩
  · rename_i xs ys
    split at f
    · rename_i hz
      have hz := okB_le hz
      cases rx with
      | tup q1 r1 =>
        cases ry with
        | tup q2 r2 =>
          rename_i a vs b ws
          refine .inr (.inl ⟨a, b, vs, ws, rfl, rfl, SqT.of q1, SqT.of q2, by rw [← r1.length, ← r2.length]; exact hz, fun e => ?_, fun e1 e2 => ?_, fun e1 e2 p hp => ?_⟩)
          · have e' := (rvs_nil r1).mpr e
            subst e'
            exact fin_val f rh (.tup q2 r2)
          · have e' := (rvs_nil r2).mpr e2
            subst e'
            rw [List.append_nil] at f
            exact fin_val f rh (.tup q1 r1)
          · exact fin_tup f rh (RVs.append r1 r2) hp
    · exact f.elim
  · split at f
    · rename_i hz
      cases rx; cases ry
      exact .inr (.inr (.inl ⟨_, _, rfl, rfl, okB_le hz, fin_val f rh (.str _)⟩))
    · exact f.elim
  · split at f
    · rename_i i j xs ys hi hj
      split at f
      · rename_i hz
        have hz := okB_le hz
        cases rx; cases ry
        obtain ⟨vs, a1, a2⟩ := rh.lst hi
        obtain ⟨ws, b1, b2⟩ := rh.lst hj
        exact .inr (.inr (.inr ⟨_, _, vs, ws, rfl, rfl, a1, b1, by rw [← a2.length, ← b2.length]; exact hz, fun p hp => fin_lst f rh (RVs.append a2 b2) hp⟩))
      · exact f.elim
    · exact f.elim
  · exact f.elim

def subO (x y : A) : Op A := fun _ h => match x, y with
  | .int i, .int j => .ok (.int (i - j)) h
  | _, _ => .bad
theorem subO_ok : Op2 C E subO (rI0 fun i j => .int (i - j)) := by
  intro G lo h H x y v w Q rh rx ry f
  unfold subO at f
  split at f
  · cases rx; cases ry
    exact ⟨_, _, rfl, rfl, fin_val f rh (.int _)⟩
  · exact f.elim

def mulO (x y : A) : Op A := fun _ h => match x, y with
  | .int i, .int j => if Nat.blt (i.natAbs.log2 + j.natAbs.log2) 1000000 then .ok (.int (i * j)) h else .bad
  | .tup xs, .int k => if (!xs.isEmpty && decide (2 ≤ k) && decide (k ≤ 1000) && Nat.ble xs.length 1000) then .ok (.tup (List.replicate k.toNat xs).flatten) h else .bad
  | .ref i, .int k => match h[i]? with
    | some (.lst xs) => if (decide (-(2 ^ 63) ≤ k) && decide (k < 2 ^ 63) && okB (xs.length * k.toNat)) then .ok (.ref h.length) (h ++ [.lst (List.replicate k.toNat xs).flatten]) else .bad
    | _ => .bad
  | _, _ => .bad
def rMulA (K : PySem.W.Frag) : R2 := fun x y H Q => rI CMulW (fun i j => .int (i * j)) x y H Q ∨ rRepT K x y H Q ∨ rRep x y H Q
theorem op_mulA : OpR X (binaryOp .Mult) (rMulA X.K) := op_mulW.or (op_repT.or op_rep)
theorem RVs.rep {G : Loc} {n : Nat} {H : Hp} {xs : List A} {ys : List V} (r : RVs C G n H xs ys) : ∀ k : Nat, RVs C G n H (List.replicate k xs).flatten (List.replicate k ys).flatten
  | 0 => .nil
  | k + 1 => by
    rw [List.replicate_succ, List.replicate_succ, List.flatten_cons, List.flatten_cons]
    exact RVs.append r (RVs.rep r k)
theorem mulO_ok : Op2 C E mulO (rMulA C.K) := by
  intro G lo h H x y v w Q rh rx ry f
  unfold mulO at f
  split at f
  · split at f
    · rename_i hz
      cases rx; cases ry
      exact .inl ⟨_, _, rfl, rfl, Nat.le_of_ble_eq_true hz, fin_val f rh (.int _)⟩
    · exact f.elim
  · split at f
    · rename_i xs k hz
      simp only [Bool.and_eq_true, decide_eq_true_eq] at hz
      obtain ⟨⟨⟨h1, h2⟩, h3⟩, h4⟩ := hz
      have h4 := Nat.le_of_ble_eq_true h4
      cases rx with
      | tup q1 r1 =>
        cases ry
        refine .inr (.inl ⟨_, k, _, rfl, rfl, SqT.of q1, fun e => ?_, h2, h3, by rw [← r1.length]; exact h4, fun p hp => fin_tup f rh (RVs.rep r1 _) hp⟩)
        rw [(rvs_nil r1).mpr e] at h1
        cases h1
    · exact f.elim
  · split at f
    · rename_i i k _ xs hi
      split at f
      · rename_i hz
        simp only [Bool.and_eq_true, decide_eq_true_eq] at hz
        obtain ⟨⟨h1, h2⟩, h3⟩ := hz
        cases rx; cases ry
        obtain ⟨vs, a1, a2⟩ := rh.lst hi
        exact .inr (.inr ⟨_, k, vs, rfl, rfl, a1, h1, h2, by rw [← a2.length]; exact okB_le h3, fun p hp => fin_lst f rh (RVs.rep a2 _) hp⟩)
      · exact f.elim
    · exact f.elim
  · exact f.elim

def divO (x y : A) : Op A := fun _ h => match x, y with
  | .int i, .int j => if (decide (0 < j) && Nat.blt j.natAbs.log2 9000) then .ok (.int (i / j)) h else .bad
  | _, _ => .bad
theorem divO_ok : Op2 C E divO (rI CDivW fun i j => .int (i / j)) := by
  intro G lo h H x y v w Q rh rx ry f
  unfold divO at f
  split at f
  · split at f
    · rename_i hz
      simp only [Bool.and_eq_true, decide_eq_true_eq] at hz
      cases rx; cases ry
      exact ⟨_, _, rfl, rfl, ⟨hz.1, Nat.le_of_ble_eq_true hz.2⟩, fin_val f rh (.int _)⟩
    · exact f.elim
  · exact f.elim
def modO (x y : A) : Op A := fun _ h => match x, y with
  | .int i, .int j => if decide (0 < j) then .ok (.int (i % j)) h else .bad
  | _, _ => .bad
theorem modO_ok : Op2 C E modO (rI (fun _ j => 0 < j) fun i j => .int (i % j)) := by
  intro G lo h H x y v w Q rh rx ry f
  unfold modO at f
  split at f
  · split at f
    · rename_i hz
      simp only [decide_eq_true_eq] at hz
      cases rx; cases ry
      exact ⟨_, _, rfl, rfl, hz, fin_val f rh (.int _)⟩
    · exact f.elim
  · exact f.elim
def powO (x y : A) : Op A := fun _ h => match x, y with
  | .int i, .int j => if (decide (0 ≤ j) && decide ((Builtin.Int.intBits i : Int) * j ≤ 2 ^ 27)) then .ok (.int (i ^ j.toNat)) h else .bad
  | _, _ => .bad
theorem op_powA : OpR X (binaryOp .Pow) (rI (fun i j => 0 ≤ j ∧ (Builtin.Int.intBits i : Int) * j ≤ 2 ^ 27) fun i j => .int (i ^ j.toNat)) := opI fun _ _ _ _ _ _ _ hc q => PyProof.Rows.pow_int hc.1 hc.2 q
theorem powO_ok : Op2 C E powO (rI (fun i j => 0 ≤ j ∧ (Builtin.Int.intBits i : Int) * j ≤ 2 ^ 27) fun i j => .int (i ^ j.toNat)) := by
  intro G lo h H x y v w Q rh rx ry f
  unfold powO at f
  split at f
  · split at f
    · rename_i hz
      simp only [Bool.and_eq_true, decide_eq_true_eq] at hz
      cases rx; cases ry
      exact ⟨_, _, rfl, rfl, hz, fin_val f rh (.int _)⟩
    · exact f.elim
  · exact f.elim

/-- a comparison of ints -/
def cmpO (p : Int → Int → Bool) (x y : A) : Op A := fun _ h => match x, y with
  | .int i, .int j => .ok (.bl (p i j)) h
  | _, _ => .bad
theorem cmpO_ok (p : Int → Int → Bool) : Op2 C E (cmpO p) (rI0 fun i j => .bl (p i j)) := by
  intro G lo h H x y v w Q rh rx ry f
  unfold cmpO at f
  split at f
  · cases rx; cases ry
    exact ⟨_, _, rfl, rfl, fin_val f rh (.bl _)⟩
  · exact f.elim
/-- == and != of data -/
def eqO (neg : Bool) (x y : A) : Op A := fun _ h => match dat h 60 x, dat h 60 y with
  | some d, some e => if (SeqAt.shaped d && SeqAt.shaped e) then .ok (.bl (if neg then !PyData.eqv d e else PyData.eqv d e)) h else .bad
  | _, _ => .bad
theorem eqO_ok : Op2 C E (eqO false) (rEqD C.K) := by
  intro G lo h H x y v w Q rh rx ry f
  unfold eqO at f
  split at f
  · rename_i d e hd he
    split at f
    · rename_i hz
      rw [Bool.and_eq_true] at hz
      exact ⟨d, e, dat_dp rh _ _ _ _ hd rx, dat_dp rh _ _ _ _ he ry, hz.1, hz.2, fin_val f rh (.bl _)⟩
    · exact f.elim
  · exact f.elim
theorem neO_ok : Op2 C E (eqO true) (rNeD C.K) := by
  intro G lo h H x y v w Q rh rx ry f
  unfold eqO at f
  split at f
  · rename_i d e hd he
    split at f
    · rename_i hz
      rw [Bool.and_eq_true] at hz
      exact ⟨d, e, dat_dp rh _ _ _ _ hd rx, dat_dp rh _ _ _ _ he ry, hz.1, hz.2, fin_val f rh (.bl _)⟩
    · exact f.elim
  · exact f.elim
/-- is None, is not None: the right side is None -/
def isNO (neg : Bool) (x y : A) : Op A := fun _ h => match y with
  | .non => .ok (.bl (match x with | .non => !neg | _ => neg)) h
  | _ => .bad
theorem isNO_ok : Op2 C E (isNO false) (fun x y H Q => y = .non ∧ Q (.bl (decide (x = .non))) H) := by
  intro G lo h H x y v w Q rh rx ry f
  unfold isNO at f
  split at f
  · cases ry
    refine ⟨rfl, ?_⟩
    cases rx <;> exact fin_val f rh (.bl _)
  · exact f.elim
theorem isNotNO_ok : Op2 C E (isNO true) (fun x y H Q => y = .non ∧ Q (.bl (!decide (x = .non))) H) := by
  intro G lo h H x y v w Q rh rx ry f
  unfold isNO at f
  split at f
  · cases ry
    refine ⟨rfl, ?_⟩
    cases rx <;> exact fin_val f rh (.bl _)
  · exact f.elim
end
end MA

set_option linter.all false
namespace MA
open PySem L2 SlX LamX

section
variable {X : Cx} {C : Kn} {E : XK} {k : Nat}
theorem imp2 {e : Expr} {t t1 t2 : TE} (h1 : PE X e t1) (h2 : PE X e t2) (k : ∀ σ H Q, t σ H Q → t1 σ H Q ∨ t2 σ H Q) : PE X e t := ⟨fun pins s σ H Q I q => by
  rcases k σ H Q q with q | q
  · exact h1.run pins s σ H Q I q
  · exact h2.run pins s σ H Q I q⟩
theorem bin_or {o o1 o2 : A → A → Op A} (hk : ∀ x y lo h, o x y lo h = o1 x y lo h ∨ o x y lo h = o2 x y lo h) {fa fb : MF A} {σ : L2.St} {H : Hp} {Q : VK} (c : tE C E (bin o fa fb) σ H Q) :
    tE C E (bin o1 fa fb) σ H Q ∨ tE C E (bin o2 fa fb) σ H Q := by
  obtain ⟨G, lo, h, s, a, b, d, f⟩ := c
  have key : bin o fa fb lo s h = bin o1 fa fb lo s h ∨ bin o fa fb lo s h = bin o2 fa fb lo s h := by
    unfold bin MF.bind
    cases h1 : fa lo s h with
    | bad => exact .inl rfl
    | ex _ _ => exact .inl rfl
    | ok x g =>
      simp only [R.bind]
      cases h2 : fb lo s g with
      | bad => exact .inl rfl
      | ex _ _ => exact .inl rfl
      | ok y g2 => exact hk x y lo g2
  rcases key with q | q
  · exact .inl ⟨G, lo, h, s, a, b, d, by rw [← q]; exact f⟩
  · exact .inr ⟨G, lo, h, s, a, b, d, by rw [← q]; exact f⟩

/-! ### tests -/
def asB (f : MF A) : MF Bool := f.bind fun x => fun _ _ h => match x with
  | .bl b => .ok b h
  | _ => .bad
theorem asB_use {f : MF A} {σ : L2.St} {H : Hp} {Q : Bool → Hp → Prop} (c : tT C E (asB f) σ H Q) : tE C E f σ H fun v H1 => ∃ b, v = .bl b ∧ Q b H1 := by
  refine Cont.mono (Cont.bind c) fun v H1 ⟨x, c1⟩ => ?_
  obtain ⟨G, lo, h, s, rh, rs, rv, f⟩ := c1
  cases rv with
  | cons rx _ =>
    cases rx with
    | bl b => exact ⟨b, rfl, f G H1 b Ext.refl rh rfl⟩
    | _ => exact f.elim
theorem jt_cmp {op : CmpOp} {o : A → A → Op A} {r : R2} {a b : Expr} {fa fb : MF A} {pos : Pos} (ho : OpR X (compareOp op) r) (hr : Op2 C E o r) (ha : PE X a (tE C E fa)) (hb : PE X b (tE C E fb)) (hm : behindInMarks op b = false) : PT X (.Compare a [op] [b] pos) (tT C E (asB (bin o fa fb))) :=
  impT (pt_cmpR ho ha hb hm) fun _ _ _ c => bin_use hr (asB_use c)
/-- a value's truth -/
def truth (x : A) (h : Hs) : Option Bool := match x with
  | .non => some false
  | .bl b => some b
  | .int i => some (i != 0)
  | .tup xs => some (!xs.isEmpty)
  | .ftup xs => some (!xs.isEmpty)
  | .ref i => match h[i]? with
    | some (.lst xs) => some (!xs.isEmpty)
    | some (.flst xs) => some (!xs.isEmpty)
    | some (.dk kvs) => some (!kvs.isEmpty)
    | _ => none
  | _ => none
def asT (f : MF A) : MF Bool := f.bind fun x => fun _ _ h => match truth x h with
  | some b => .ok b h
  | none => .bad
theorem emp_of {G : Loc} {n : Nat} {H : Hp} {xs : List A} {ys : List V} (r : RVs C G n H xs ys) : (!xs.isEmpty) = !ys.isEmpty := by
  cases r <;> rfl
theorem emp_kv {κ : Type} {G : Loc} {n : Nat} {H : Hp} {xs : List (κ × A)} {ys : List (κ × V)} (r : RKs C G n H xs ys) : (!xs.isEmpty) = !ys.isEmpty := by
  cases r <;> rfl
theorem asT_use {f : MF A} {σ : L2.St} {H : Hp} {Q : Bool → Hp → Prop} (c : tT C E (asT f) σ H Q) : tE C E f σ H fun v H1 => ∃ b, TruV C.K v H1 b ∧ Q b H1 := by
  refine Cont.mono (Cont.bind c) fun v H1 ⟨x, c1⟩ => ?_
  obtain ⟨G, lo, h, s, rh, rs, rv, f⟩ := c1
  cases rv with
  | cons rx _ =>
    have f' : fin relB C E G lo h.length H1 (match truth x h with | some b => .ok b h | none => .bad) Q := f
    cases ht : truth x h with
    | none => rw [ht] at f'; exact f'.elim
    | some b =>
      rw [ht] at f'
      refine ⟨b, ?_, f' G H1 b Ext.refl rh rfl⟩
      unfold truth at ht
      cases rx with
      | non => cases ht; rfl
      | bl b => cases ht; rfl
      | int i => cases ht; rfl
      | str s => cases ht
      | tup q r =>
        cases ht
        exact .inr (.inl ⟨_, SqT.of q, emp_of r⟩)
      | ftup q _ r =>
        cases ht
        exact .inr (.inl ⟨_, .inl (.inr ⟨_, q⟩), emp_of r⟩)
      | ref hi =>
        simp only at ht
        split at ht
        · rename_i xs hx
          cases ht
          obtain ⟨ys, a, b⟩ := rh.sqL (.inl hx)
          exact .inl ⟨ys, a, emp_of b⟩
        · rename_i xs hx
          cases ht
          obtain ⟨ys, a, b⟩ := rh.sqL (.inr hx)
          exact .inl ⟨ys, a, emp_of b⟩
        · rename_i xs hx
          cases ht
          cases rh.obj _ _ hx with
          | dk q r => exact .inr (.inr ⟨_, q, emp_kv r⟩)
        · cases ht
      | gl k => cases ht
      | ty s => cases ht
      | lit _ => cases ht
theorem jt_truth {a : Expr} {fa : MF A} (hK : X.K = C.K) (ha : PE X a (tE C E fa)) (he : ∀ whole, isTrue a X.env whole = (do let v ← whole; standAt a.pos; holding [v] (truthy v)) := by intro _; rfl) : PT X a (tT C E (asT fa)) :=
  impT (pt_truth ha he) fun _ _ _ c => by
    rw [hK]
    exact asT_use c

def andF (f g : MF Bool) : MF Bool := f.bind fun b => match b with
  | true => g
  | false => fun _ _ h => .ok false h
def orF (f g : MF Bool) : MF Bool := f.bind fun b => match b with
  | true => fun _ _ h => .ok true h
  | false => g
def notF (f : MF Bool) : MF Bool := f.bind fun b => fun _ _ h => .ok (!b) h
theorem contB {b : Bool} {xs : List A} {vs : List V} {σ : L2.St} {H : Hp} {Q : Bool → Hp → Prop} (c : Cont relB C E (fun _ _ h => .ok b h) xs vs σ H Q) : Q b H := by
  obtain ⟨G, lo, h, s, rh, rs, rv, f⟩ := c
  exact f G H b Ext.refl rh rfl
theorem jw_and1 {a : Expr} {f : MF Bool} {pos : Pos} (ha : PT X a (tT C E f)) : PW X (.BoolOp .And [a] pos) (tT C E f) := pw_and1 ha
theorem jw_or1 {a : Expr} {f : MF Bool} {pos : Pos} (ha : PT X a (tT C E f)) : PW X (.BoolOp .Or [a] pos) (tT C E f) := pw_or1 ha
theorem impW {e : Expr} {t t' : TT} (h : PW X e t) (k : ∀ σ H Q, t' σ H Q → t σ H Q) : PW X e t' := ⟨fun w pins s σ H Q I q => h.run w pins s σ H Q I (k σ H Q q)⟩
theorem jw_and {a b : Expr} {rest : List Expr} {f g : MF Bool} {pos : Pos} (ha : PT X a (tT C E f)) (hb : PW X (.BoolOp .And (b :: rest) pos) (tT C E g)) : PW X (.BoolOp .And (a :: b :: rest) pos) (tT C E (andF f g)) :=
  impW (pw_and ha hb) fun _ _ _ c => by
    refine Cont.mono (Cont.bindT c) fun v H1 c1 => ?_
    cases v with
    | true => exact c1
    | false => exact contB c1
theorem jw_or {a b : Expr} {rest : List Expr} {f g : MF Bool} {pos : Pos} (ha : PT X a (tT C E f)) (hb : PW X (.BoolOp .Or (b :: rest) pos) (tT C E g)) : PW X (.BoolOp .Or (a :: b :: rest) pos) (tT C E (orF f g)) :=
  impW (pw_or ha hb) fun _ _ _ c => by
    refine Cont.mono (Cont.bindT c) fun v H1 c1 => ?_
    cases v with
    | true => exact contB c1
    | false => exact c1
theorem jt_not {a : Expr} {f : MF Bool} {pos : Pos} (ha : PT X a (tT C E f)) : PT X (.UnaryOp .Not a pos) (tT C E (notF f)) :=
  impT (pt_not ha) fun _ _ _ c => Cont.mono (Cont.bindT c) fun _ _ c1 => contB c1
def ifF {α : Type} (f : MF Bool) (g g' : MF α) : MF α := f.bind fun b => match b with
  | true => g
  | false => g'
theorem je_if {c a b : Expr} {f : MF Bool} {g g' : MF A} {pos : Pos} (hc : PT X c (tT C E f)) (ha : PE X a (tE C E g)) (hb : PE X b (tE C E g')) : PE X (.IfExp c a b pos) (tE C E (ifF f g g')) :=
  imp (pe_ifExp hc ha hb) fun _ _ _ c => by
    refine Cont.mono (Cont.bindT c) fun v H1 c1 => ?_
    cases v with
    | true => exact c1
    | false => exact c1
/-! .. as values: each but the last is a bool -/
def andV (f g : MF A) : MF A := f.bind fun x => match x with
  | .bl true => g
  | .bl false => fun _ _ h => .ok (.bl false) h
  | _ => fun _ _ _ => .bad
def orV (f g : MF A) : MF A := f.bind fun x => match x with
  | .bl true => fun _ _ h => .ok (.bl true) h
  | .bl false => g
  | _ => fun _ _ _ => .bad
def notV (f : MF A) : MF A := f.bind fun x => match x with
  | .bl b => fun _ _ h => .ok (.bl (!b)) h
  | _ => fun _ _ _ => .bad
theorem Cont.drop {α β : Type} {rel : Loc → Nat → Hp → α → β → Prop} {f : MF α} {xs : List A} {vs : List V} {σ : L2.St} {H : Hp} {Q : β → Hp → Prop} (c : Cont rel C E f xs vs σ H Q) : Cont rel C E f [] [] σ H Q := by
  obtain ⟨G, lo, h, s, rh, rs, rv, f⟩ := c
  exact ⟨G, lo, h, s, rh, rs, .nil, f⟩
theorem contV {x : A} {v : V} {xs : List A} {vs : List V} {σ : L2.St} {H : Hp} {Q : VK} (c : Cont (relV C) C E (fun _ _ h => .ok x h) xs vs σ H Q) (r : ∀ G n, RV C G n H x v) : Q v H := by
  obtain ⟨G, lo, h, s, rh, rs, rv, f⟩ := c
  exact f G H v Ext.refl rh (r _ _)
theorem contBad {α β : Type} {rel : Loc → Nat → Hp → α → β → Prop} {xs : List A} {vs : List V} {σ : L2.St} {H : Hp} {Q : β → Hp → Prop} (c : Cont rel C E (fun _ _ _ => .bad) xs vs σ H Q) : False := by
  obtain ⟨G, lo, h, s, rh, rs, rv, f⟩ := c
  exact f
theorem Cont.rv1 {α β : Type} {rel : Loc → Nat → Hp → α → β → Prop} {f : MF α} {x : A} {v : V} {xs : List A} {vs : List V} {σ : L2.St} {H : Hp} {Q : β → Hp → Prop} (c : Cont rel C E f (x :: xs) (v :: vs) σ H Q) : ∃ G n, RV C G n H x v := by
  obtain ⟨G, lo, h, s, rh, rs, rv, f⟩ := c
  cases rv with
  | cons r _ => exact ⟨_, _, r⟩
theorem je_one {op} {a : Expr} {f : MF A} {pos : Pos} (h : PE X a (tE C E f)) : PE X (.BoolOp op [a] pos) (tE C E f) := pe_one h
theorem je_and {a b : Expr} {rest : List Expr} {f g : MF A} {pos : Pos} (ha : PE X a (tE C E f)) (hb : PE X (.BoolOp .And (b :: rest) pos) (tE C E g)) : PE X (.BoolOp .And (a :: b :: rest) pos) (tE C E (andV f g)) :=
  imp (pe_and ha hb) fun _ _ _ c => by
    refine Cont.mono (Cont.bind c) fun v H1 ⟨x, c1⟩ => ?_
    obtain ⟨G, n, r⟩ := c1.rv1
    cases r with
    | bl b =>
      cases b with
      | true => exact ⟨true, rfl, by rw [if_pos rfl]; exact Cont.drop c1⟩
      | false => exact ⟨false, rfl, by rw [if_neg Bool.false_ne_true]; exact contV c1 fun _ _ => .bl false⟩
    | _ => exact (contBad c1).elim
theorem je_or {a b : Expr} {rest : List Expr} {f g : MF A} {pos : Pos} (ha : PE X a (tE C E f)) (hb : PE X (.BoolOp .Or (b :: rest) pos) (tE C E g)) : PE X (.BoolOp .Or (a :: b :: rest) pos) (tE C E (orV f g)) :=
  imp (pe_or ha hb) fun _ _ _ c => by
    refine Cont.mono (Cont.bind c) fun v H1 ⟨x, c1⟩ => ?_
    obtain ⟨G, n, r⟩ := c1.rv1
    cases r with
    | bl b =>
      cases b with
      | true => exact ⟨true, rfl, by rw [if_pos rfl]; exact contV c1 fun _ _ => .bl true⟩
      | false => exact ⟨false, rfl, by rw [if_neg Bool.false_ne_true]; exact Cont.drop c1⟩
    | _ => exact (contBad c1).elim
theorem je_not {a : Expr} {f : MF A} {pos : Pos} (ha : PE X a (tE C E f)) : PE X (.UnaryOp .Not a pos) (tE C E (notV f)) :=
  imp (pe_not ha) fun _ _ _ c => by
    refine Cont.mono (Cont.bind c) fun v H1 ⟨x, c1⟩ => ?_
    obtain ⟨G, n, r⟩ := c1.rv1
    cases r with
    | bl b => exact ⟨b, rfl, contV c1 fun _ _ => .bl _⟩
    | _ => exact (contBad c1).elim
def negO (f : MF A) : MF A := f.bind fun x => match x with
  | .int i => fun _ _ h => .ok (.int (-i)) h
  | _ => fun _ _ _ => .bad
theorem je_neg {a : Expr} {f : MF A} {pos : Pos} (ha : PE X a (tE C E f)) : PE X (.UnaryOp .USub a pos) (tE C E (negO f)) :=
  imp (pe_un un_neg ha) fun _ _ _ c => by
    refine Cont.mono (Cont.bind c) fun v H1 ⟨x, c1⟩ => ?_
    obtain ⟨G, n, r⟩ := c1.rv1
    cases r with
    | int i => exact ⟨i, rfl, contV c1 fun _ _ => .int _⟩
    | _ => exact (contBad c1).elim
/-- a op b op' c, of ints or data: each comparison gives a bool -/
def chainF (o o' : A → A → Op A) (fa fb fc : MF A) : MF A := fa.bind fun x => fb.bind fun y => MF.bind (fun lo _ h => o x y lo h) fun z => match z with
  | .bl true => fc.bind fun w => fun lo _ h => o' y w lo h
  | .bl false => fun _ _ h => .ok (.bl false) h
  | _ => fun _ _ _ => .bad
theorem chain_use {o o' : A → A → Op A} {r r' : R2} (hr : Op2 C E o r) (hr' : Op2 C E o' r') {fa fb fc : MF A} {σ : L2.St} {H : Hp} {Q : VK} (c : tE C E (chainF o o' fa fb fc) σ H Q) : tChain r r' (tE C E fa) (tE C E fb) (tE C E fc) σ H Q := by
  refine Cont.mono (Cont.bind c) fun v H1 ⟨x, c1⟩ => ?_
  refine Cont.mono (Cont.bind c1) fun w H2 ⟨y, c2⟩ => ?_
  obtain ⟨G, lo, h, s, rh, rs, rv, f⟩ := c2
  cases rv with
  | cons ry rv =>
    cases rv with
    | cons rx _ =>
      refine hr G lo h H2 x y v w _ rh rx ry ?_
      unfold MF.bind at f
      dsimp only at f
      cases hz : o x y lo h with
      | bad => rw [hz] at f; exact f
      | ex e g => rw [hz] at f; exact f
      | ok z g =>
        rw [hz] at f
        intro G' H' v' e' rh' rz
        cases rz with
        | bl b =>
          cases b with
          | true =>
            refine ⟨true, rfl, ?_⟩
            rw [if_pos rfl]
            have c3 : Cont (relV C) C E (fc.bind fun w => fun lo _ h => o' y w lo h) [y] [w] σ H' Q := ⟨G', lo, g, s, rh', rs.ext e', .cons (RV.ext e' ry) .nil, fin.ext e' f⟩
            refine Cont.mono (Cont.bind c3) fun w' H4 ⟨z, c4⟩ => ?_
            obtain ⟨G4, lo4, h4, s4, rh4, rs4, rv4, f4⟩ := c4
            cases rv4 with
            | cons rz rv4 =>
              cases rv4 with
              | cons ry4 _ => exact hr' G4 lo4 h4 H4 y z w w' Q rh4 ry4 rz f4
          | false =>
            refine ⟨false, rfl, ?_⟩
            rw [if_neg Bool.false_ne_true]
            exact (fin.ext e' f) G' H' _ Ext.refl rh' (.bl false)
        | _ => exact f.elim
theorem je_chain {op op' : CmpOp} {o o' : A → A → Op A} {r r' : R2} {a b c : Expr} {fa fb fc : MF A} {pos : Pos} (ho : OpR X (compareOp op) r) (hr : Op2 C E o r) (ho' : OpR X (compareOp op') r') (hr' : Op2 C E o' r') (ha : PE X a (tE C E fa)) (hb : PE X b (tE C E fb)) (hc : PE X c (tE C E fc))
    (hm : lastMarks [op, op'] [b, c] = false := by with_unfolding_all rfl) : PE X (.Compare a [op, op'] [b, c] pos) (tE C E (chainF o o' fa fb fc)) :=
  imp (pe_chain ho ho' ha hb hc hm) fun _ _ _ c => chain_use hr hr' c
theorem jt_chain {op op' : CmpOp} {o o' : A → A → Op A} {r r' : R2} {a b c : Expr} {fa fb fc : MF A} {pos : Pos} (ho : OpR X (compareOp op) r) (hr : Op2 C E o r) (ho' : OpR X (compareOp op') r') (hr' : Op2 C E o' r') (ha : PE X a (tE C E fa)) (hb : PE X b (tE C E fb)) (hc : PE X c (tE C E fc))
    (hm : lastMarks [op, op'] [b, c] = false := by with_unfolding_all rfl) : PT X (.Compare a [op, op'] [b, c] pos) (tT C E (asB (chainF o o' fa fb fc))) :=
  impT (pt_chain ho ho' ha hb hc hm) fun _ _ _ c => chain_use hr hr' (asB_use c)

/-! ### argument lists, displays -/
def nilF : MF (List A) := fun _ _ h => .ok [] h
def consF (f : MF A) (g : MF (List A)) : MF (List A) := f.bind fun x => MF.bind g fun xs => fun _ _ h => .ok (x :: xs) h
theorem ja_nil : PA X [] (tA C E nilF) := impA pa_nil fun _ _ _ c => by
  obtain ⟨G, lo, h, s, rh, rs, rv, f⟩ := c
  exact f G _ [] Ext.refl rh .nil
theorem ja_cons {e : Expr} {es : List Expr} {f : MF A} {g : MF (List A)} (ha : PE X e (tE C E f)) (hr : PA X es (tA C E g)) (hs : starEach (e :: es) X.env = (false, eval e X.env) :: starEach es X.env := by rfl) : PA X (e :: es) (tA C E (consF f g)) :=
  impA (pa_cons ha hr hs) fun _ _ _ c => by
    refine Cont.mono (Cont.bind c) fun v H1 ⟨x, c1⟩ => ?_
    refine Cont.mono (Cont.bindA c1) fun ws H2 ⟨ys, c2⟩ => ?_
    obtain ⟨G, lo, h, s, rh, rs, rv, f⟩ := c2
    have e : ∀ {zs : List A} {us : List V}, RVs C G h.length H2 (zs ++ [x]) (us ++ [v]) → RVs C G h.length H2 zs us ∧ RV C G h.length H2 x v := by
      intro zs
      induction zs with
      | nil =>
        intro us r
        cases us with
        | nil =>
          cases r with
          | cons a _ => exact ⟨.nil, a⟩
        | cons u us =>
          have := r.length
          simp at this
      | cons z zs ih =>
        intro us r
        cases us with
        | nil =>
          have := r.length
          simp at this
        | cons u us =>
          cases r with
          | cons a b =>
            obtain ⟨b1, b2⟩ := ih b
            exact ⟨.cons a b1, b2⟩
    obtain ⟨r1, r2⟩ := e rv
    exact f G H2 _ Ext.refl rh (.cons r2 r1)
def tupF (g : MF (List A)) : MF A := MF.bind g fun xs => fun _ _ h => if okB xs.length then .ok (.tup xs) h else .bad
def lstF (g : MF (List A)) : MF A := MF.bind g fun xs => fun _ _ h => if okB xs.length then .ok (.ref h.length) (h ++ [.lst xs]) else .bad
theorem contA {xs ys : List A} {vs ws : List V} (e : ys = xs ++ []) (e' : ws = vs ++ []) {α β : Type} {rel : Loc → Nat → Hp → α → β → Prop} {f : MF α} {σ : L2.St} {H : Hp} {Q : β → Hp → Prop} (c : Cont rel C E f ys ws σ H Q) : Cont rel C E f xs vs σ H Q := by
  rw [List.append_nil] at e e'
  rw [← e, ← e']
  exact c
theorem je_tup {es : List Expr} {g : MF (List A)} {j} {pos : Pos} (ha : PA X es (tA C E g)) : PE X (.Tuple es j pos) (tE C E (tupF g)) :=
  imp (pe_tup ha) fun _ _ _ c => by
    refine Cont.mono (Cont.bindA c) fun ws H2 ⟨ys, c2⟩ => ?_
    obtain ⟨G, lo, h, s, rh, rs, rv, f⟩ := contA rfl rfl c2
    have f' : fin (relV C) C E G lo h.length H2 (if okB ys.length then .ok (.tup ys) h else .bad) _ := f
    split at f'
    · rename_i hz
      exact ⟨by rw [← rv.length]; exact okB_le hz, fun p hp => fin_tup f' rh rv hp⟩
    · exact f'.elim
theorem je_lst {es : List Expr} {g : MF (List A)} {pos : Pos} (ha : PA X es (tA C E g)) : PE X (.List es pos) (tE C E (lstF g)) :=
  imp (pe_lst ha) fun _ _ _ c => by
    refine Cont.mono (Cont.bindA c) fun ws H2 ⟨ys, c2⟩ => ?_
    obtain ⟨G, lo, h, s, rh, rs, rv, f⟩ := contA rfl rfl c2
    have f' : fin (relV C) C E G lo h.length H2 (if okB ys.length then .ok (.ref h.length) (h ++ [.lst ys]) else .bad) _ := f
    split at f'
    · rename_i hz
      exact ⟨by rw [← rv.length]; exact okB_le hz, fun p hp => fin_lst f' rh rv hp⟩
    · exact f'.elim

/-! ### calls of built-ins -/
def OpL (C : Kn) (E : XK) (o : List A → Op A) (r : List V → Hp → VK → Prop) : Prop := ∀ (G : Loc) (lo : Nat) (h : Hs) (H : Hp) (xs : List A) (vs : List V) (Q : VK),
  Rh C G h H → RVs C G h.length H xs vs → fin (relV C) C E G lo h.length H (o xs lo h) Q → r vs H Q
def calF (o : List A → Op A) (g : MF (List A)) : MF A := MF.bind g fun xs => fun lo _ h => o xs lo h
theorem cal_use {o : List A → Op A} {r : List V → Hp → VK → Prop} (hr : OpL C E o r) {g : MF (List A)} {σ : L2.St} {H : Hp} {Q : VK} (c : tE C E (calF o g) σ H Q) : tCB r (tA C E g) σ H Q := by
  refine Cont.mono (Cont.bindA c) fun ws H2 ⟨ys, c2⟩ => ?_
  obtain ⟨G, lo, h, s, rh, rs, rv, f⟩ := contA rfl rfl c2
  exact hr G lo h H2 ys ws Q rh rv f
theorem je_callB {id : String} {o : List A → Op A} {r : List V → Hp → VK → Prop} {x : Str} {p pos : Pos} {e : Expr} {es : List Expr} {g : MF (List A)} (hc : CallR X (.builtin id) r) (hr : OpL C E o r) (hg : Gl X x) (hm : X.mg x = none) (hv : bootBuiltins x = some (.builtin id)) (ha : PA X (e :: es) (tA C E g))
    (hn : x ≠ "__name__" := by decide) (hdb : (x == ("__debug__" : Str)) = false := by decide) (he : starEach (e :: es) X.env = (false, eval e X.env) :: starEach es X.env := by rfl) (hpl : (backTo pos (starEach es X.env)).any (·.1) = false := by rfl) :
    PE X (.Call (.Name x p) (e :: es) [] pos) (tE C E (calF o g)) := imp (pe_callB hc hg hm hv ha hn hdb he hpl) fun _ _ _ c => cal_use hr c
theorem je_callTy {T : String} {o : List A → Op A} {r : List V → Hp → VK → Prop} {x : Str} {p pos : Pos} {e : Expr} {es : List Expr} {g : MF (List A)} (hc : CallR X (.type T) r) (hr : OpL C E o r) (hg : Gl X x) (hm : X.mg x = none) (hv : bootBuiltins x = some (.type T)) (ha : PA X (e :: es) (tA C E g))
    (hn : x ≠ "__name__" := by decide) (hdb : (x == ("__debug__" : Str)) = false := by decide) (he : starEach (e :: es) X.env = (false, eval e X.env) :: starEach es X.env := by rfl) (hpl : (backTo pos (starEach es X.env)).any (·.1) = false := by rfl) :
    PE X (.Call (.Name x p) (e :: es) [] pos) (tE C E (calF o g)) := imp (pe_callTy hc hg hm hv ha hn hdb he hpl) fun _ _ _ c => cal_use hr c
theorem rvs1 {G : Loc} {n : Nat} {H : Hp} {x : A} {vs : List V} (r : RVs C G n H [x] vs) : ∃ v, vs = [v] ∧ RV C G n H x v := by
  cases r with
  | cons a b => cases b; exact ⟨_, rfl, a⟩
theorem rvs2 {G : Loc} {n : Nat} {H : Hp} {x y : A} {vs : List V} (r : RVs C G n H [x, y] vs) : ∃ v w, vs = [v, w] ∧ RV C G n H x v ∧ RV C G n H y w := by
  cases r with
  | cons a b =>
    obtain ⟨w, rfl, q⟩ := rvs1 b
    exact ⟨_, _, rfl, a, q⟩

def lenO (xs : List A) : Op A := fun _ h => match xs with
  | [.str s] => if okB s.length then .ok (.int s.length) h else .bad
  | [x] => match h.seq x with
    | some ys => .ok (.int ys.length) h
    | none => match x with
      | .ref i => match h[i]? with
        | some (.dk kvs) => .ok (.int kvs.length) h
        | some (.dt kvs) => .ok (.int kvs.length) h
        | _ => .bad
      | _ => .bad
  | _ => .bad
def rLenA (K : PySem.W.Frag) : List V → Hp → VK → Prop := fun xs H Q => (∃ x n, xs = [x] ∧ LenV K x H n ∧ Q (.int n) H) ∨ (∃ a kvs, xs = [V.ref a] ∧ H a = some (.dK kvs) ∧ Q (.int kvs.length) H) ∨ rLenT xs H Q
theorem call_lenA : CallR X (.builtin "len") (rLenA X.K) := call_len.or (call_lenD.or call_len_dT)
theorem RKs.length {κ : Type} {G : Loc} {n : Nat} {H : Hp} : ∀ {xs : List (κ × A)} {ys : List (κ × V)}, RKs C G n H xs ys → xs.length = ys.length
  | _, _, .nil => rfl
  | _, _, .cons _ t => by rw [List.length_cons, List.length_cons, RKs.length t]
theorem lenO_ok : OpL C E lenO (rLenA C.K) := by
  intro G lo h H xs vs Q rh rv f
  unfold lenO at f
  split at f
  · split at f
    · rename_i hz
      obtain ⟨v, rfl, r⟩ := rvs1 rv
      cases r
      exact .inl ⟨_, _, rfl, ⟨okB_le hz, rfl⟩, fin_val f rh (.int _)⟩
    · exact f.elim
  · rename_i x _
    obtain ⟨v, rfl, r⟩ := rvs1 rv
    split at f
    · rename_i ys hy
      obtain ⟨a, zs, rfl, q, b⟩ := rh.seq hy r
      refine .inl ⟨_, ys.length, rfl, ?_, fin_val f rh (.int _)⟩
      rcases q with q | q
      · exact .inl ⟨zs, q, b.length⟩
      · exact .inr ⟨zs, q, b.length⟩
    · split at f
      · rename_i i _
        split at f
        · rename_i kvs hk
          cases r
          cases rh.obj _ _ hk with
          | dk q b =>
            refine .inr (.inl ⟨_, _, rfl, q, ?_⟩)
            rw [← RKs.length b]
            exact fin_val f rh (.int _)
        · rename_i kvs hk
          cases r
          cases rh.obj _ _ hk with
          | dt q b =>
            refine .inr (.inr ⟨_, _, rfl, q, ?_⟩)
            rw [← RKs.length b]
            exact fin_val f rh (.int _)
        · exact f.elim
      · exact f.elim
  · exact f.elim
def absO (xs : List A) : Op A := fun _ h => match xs with
  | [.int i] => .ok (.int (if i < 0 then -i else i)) h
  | _ => .bad
theorem absO_ok : OpL C E absO (fun xs H Q => ∃ i, xs = [.int i] ∧ Q (.int (if i < 0 then -i else i)) H) := by
  intro G lo h H xs vs Q rh rv f
  unfold absO at f
  split at f
  · obtain ⟨v, rfl, r⟩ := rvs1 rv
    cases r
    exact ⟨_, rfl, fin_val f rh (.int _)⟩
  · exact f.elim
def max2O (xs : List A) : Op A := fun _ h => match xs with
  | [.int i, .int j] => .ok (.int (if j > i then j else i)) h
  | _ => .bad
theorem max2O_ok : OpL C E max2O (fun xs H Q => ∃ i j, xs = [.int i, .int j] ∧ Q (.int (if j > i then j else i)) H) := by
  intro G lo h H xs vs Q rh rv f
  unfold max2O at f
  split at f
  · obtain ⟨v, w, rfl, r, r'⟩ := rvs2 rv
    cases r; cases r'
    exact ⟨_, _, rfl, fin_val f rh (.int _)⟩
  · exact f.elim
def min2O (xs : List A) : Op A := fun _ h => match xs with
  | [.int i, .int j] => .ok (.int (if j < i then j else i)) h
  | _ => .bad
theorem min2O_ok : OpL C E min2O (fun xs H Q => ∃ i j, xs = [.int i, .int j] ∧ Q (.int (if j < i then j else i)) H) := by
  intro G lo h H xs vs Q rh rv f
  unfold min2O at f
  split at f
  · obtain ⟨v, w, rfl, r, r'⟩ := rvs2 rv
    cases r; cases r'
    exact ⟨_, _, rfl, fin_val f rh (.int _)⟩
  · exact f.elim
def intO (xs : List A) : Op A := fun _ h => match xs with
  | [.int i] => .ok (.int i) h
  | [.bl b] => .ok (.int (if b then 1 else 0)) h
  | _ => .bad
theorem intO_ok : OpL C E intO (fun xs H Q => (∃ i, xs = [.int i] ∧ Q (.int i) H) ∨ ∃ k, xs = [.bl k] ∧ Q (.int (if k then 1 else 0)) H) := by
  intro G lo h H xs vs Q rh rv f
  unfold intO at f
  split at f
  · obtain ⟨v, rfl, r⟩ := rvs1 rv
    cases r
    exact .inl ⟨_, rfl, fin_val f rh (.int _)⟩
  · obtain ⟨v, rfl, r⟩ := rvs1 rv
    cases r
    exact .inr ⟨_, rfl, fin_val f rh (.int _)⟩
  · exact f.elim
/-- list(x), tuple(x) of a list or tuple -/
def listO (xs : List A) : Op A := fun _ h => match xs with
  | [x] => match h.seq x with
    | some ys => .ok (.ref h.length) (h ++ [.lst ys])
    | none => .bad
  | _ => .bad
theorem listO_ok : OpL C E listO (fun xs H Q => ∃ p ys, xs = [.ref p] ∧ (SqL C.K H p ys ∨ SqT C.K H p ys) ∧ ∀ l, H l = none → Q (.ref l) (upd H l (.lst ys))) := by
  intro G lo h H xs vs Q rh rv f
  unfold listO at f
  split at f
  · obtain ⟨v, rfl, r⟩ := rvs1 rv
    split at f
    · rename_i ys hy
      obtain ⟨a, zs, rfl, q, b⟩ := rh.seq hy r
      exact ⟨_, zs, rfl, q, fun p hp => fin_lst f rh b hp⟩
    · exact f.elim
  · exact f.elim
def tupleO (xs : List A) : Op A := fun _ h => match xs with
  | [.tup ys] => .ok (.tup ys) h
  | [.ref i] => match h[i]? with
    | some (.lst ys) => .ok (.tup ys) h
    | some (.flst ys) => .ok (.tup ys) h
    | _ => .bad
  | _ => .bad
theorem tupleO_ok : OpL C E tupleO (fun xs H Q => ∃ p ys, xs = [.ref p] ∧ ((SqL C.K H p ys ∧ ∀ l, H l = none → Q (.ref l) (upd H l (.tup ys))) ∨ (SqT C.K H p ys ∧ Q (.ref p) H))) := by
  intro G lo h H xs vs Q rh rv f
  unfold tupleO at f
  split at f
  · obtain ⟨v, rfl, r⟩ := rvs1 rv
    cases r with
    | tup q r => exact ⟨_, _, rfl, .inr ⟨SqT.of q, fin_val f rh (.tup q r)⟩⟩
  · obtain ⟨v, rfl, r⟩ := rvs1 rv
    cases r with
    | ref hi =>
      split at f
      · rename_i ys hy
        obtain ⟨zs, a, b⟩ := rh.sqL (.inl hy)
        exact ⟨_, zs, rfl, .inl ⟨a, fun p hp => fin_tup f rh b hp⟩⟩
      · rename_i ys hy
        obtain ⟨zs, a, b⟩ := rh.sqL (.inr hy)
        exact ⟨_, zs, rfl, .inl ⟨a, fun p hp => fin_tup f rh b hp⟩⟩
      · exact f.elim
  · exact f.elim
end
end MA

set_option linter.all false
namespace MA
open PySem L2 SlX LamX
open PySem.Spec PyProof.Rows

section
variable {X : Cx} {C : Kn} {E : XK} {k : Nat}
/-! ### a tuple whose object is known -/
theorem call_ftup : CallR X (.type "tuple") (fun xs H Q => ∃ p ys, xs = [.ref p] ∧ SqL X.K H p ys ∧ ∀ (l : Addr) (o : Obj), H l = none → o.dict = none → Q (.ref l) (upd H l (.frz o (.tup ys)))) := by
  intro pins s σ H xs us Q I r h
  obtain ⟨p, ys, rfl, hq, q⟩ := h
  obtain ⟨u, rfl, rx⟩ := vals1 r
  cases rx
  obtain ⟨its, r', pl, hz⟩ := I.list hq
  have hlen := r'.length
  refine call_tuple_list pl.isList (fun h' kp => ?_) (by simp only [List.size_toArray] <;> omega)
  have I1 : Inv X pins σ H { s with heap := h' } := I.kept (t' := s.toks) kp
  have I2 : Inv X pins σ (upd H h'.objs.size (.frz { cls := .type "tuple", data := .seq its.toArray } (.tup ys))) { s with heap := h'.push { cls := .type "tuple", data := .seq its.toArray } } :=
    I1.laid (t' := s.toks) (fun b o e => Heap.get?_push_of_some _ e) (Nat.le_refl _) ⟨Heap.get?_push_size _ rfl, hz, its, r', IsTup.new _ _⟩
  exact ⟨.ref h'.objs.size, _, I2, rfl, q _ _ (I1.hok.fresh (Nat.le_refl _)) rfl⟩
def ftupO (xs : List A) : Op A := fun _ h => match xs with
  | [.ref i] => match h[i]? with
    | some (.lst ys) => .ok (.ftup ys) h
    | _ => .bad
  | _ => .bad
theorem ftupO_ok : OpL C E ftupO (fun xs H Q => ∃ p ys, xs = [.ref p] ∧ SqL C.K H p ys ∧ ∀ (l : Addr) (o : Obj), H l = none → o.dict = none → Q (.ref l) (upd H l (.frz o (.tup ys)))) := by
  intro G lo h H xs vs Q rh rv f
  unfold ftupO at f
  split at f
  · obtain ⟨v, rfl, r⟩ := rvs1 rv
    cases r with
    | ref hi =>
      split at f
      · rename_i ys hy
        obtain ⟨zs, a, b⟩ := rh.sqL (.inl hy)
        refine ⟨_, zs, rfl, a, fun l o hl hd => ?_⟩
        have e : Ext lo h.length G H h.length G (upd H l (.frz o (.tup zs))) := Ext.grow (keeps_new hl) rh
        exact f G _ _ e (rh.grow (keeps_new hl)) (.ftup upd_same hd (b.ext e))
      · exact f.elim
  · exact f.elim
/-- t.index(x) of such a tuple, flat items, the first place -/
def rTIx : V → List V → Hp → VK → Prop := fun x xs H Q => ∃ (p : Addr) (o : Obj) (ys : List V) (y z : V) (j : Nat), x = .ref p ∧ xs = [y] ∧ H p = some (.frz o (.tup ys)) ∧ flatV y = true ∧ ys.all flatV = true ∧ ys[j]? = some z ∧ eqV z y = true ∧
  (∀ m w, m < j → ys[m]? = some w → eqV w y = false) ∧ Q (.int (j : Nat)) H
theorem mt_tix : MtR X "tuple.index" rTIx := by
  intro pins s σ H x xs v us Q I rx rs h
  obtain ⟨p, o, ys, y, z, j, rfl, rfl, hq, fy, fys, hj, hz, hno, q⟩ := h
  cases rx
  obtain ⟨u, rfl, ru⟩ := vals1 rs
  obtain ⟨its, r, pl, _⟩ := I.tuple (show SqT X.K H p ys from .inl (.inr ⟨o, hq⟩))
  obtain ⟨⟨cls, dd, dt, sl⟩, ho, hc, n, hd⟩ := pl
  simp only at hc hd
  subst hc
  subst hd
  have hl : its.toArray.size = ys.length := by rw [List.size_toArray, ← r.length]
  have hjl : j < its.toArray.size := by rw [hl]; exact (List.getElem?_eq_some_iff.mp hj).1
  have at' : ∀ (m : Nat) (hm : m < its.toArray.size) (w : V), ys[m]? = some w → eqU y its.toArray[m] = eqV w y := fun m hm w hw => by
    obtain ⟨w', hw', rw'⟩ := r.get (i := m) (x := w) hw
    have e := (List.getElem?_eq_some_iff.mp hw').2
    have e2 : its.toArray[m] = w' := by rw [← e]; simp
    rw [e2]
    exact eqU_of rw' (flat_at fys hw)
  refine call_meets PySem.F.slot_tuple_index ⟨_, ho, rfl⟩ PySem.F.entry_tuple_index (PySem.F.args_tuple_index_2 _ _) (TI.tuple_indexAt p its.toArray n dd sl u (eqU y) j hjl ?_ ?_)
    ⟨ho, fun w hw => mem_eqAt ru fy r fys w (by simpa using hw), ⟨.int (j : Nat), H, I.tok _, ⟨_, rfl⟩, q⟩⟩
  · rw [at' j hjl z hj, hz]
  · intro m hm hmj
    have hm' : m < ys.length := by rw [← hl]; exact hm
    rw [at' m hm ys[m] (List.getElem?_eq_getElem hm')]
    exact hno m _ hmj (List.getElem?_eq_getElem hm')
def isF (x : V) (H : Hp) : Prop := ∃ (p : Addr) (ob : Obj) (ys : List V), x = .ref p ∧ H p = some (.frz ob (.tup ys)) ∧ ob.dict = none
theorem pe_ftm {name : Str} {id : String} {r : V → List V → Hp → VK → Prop} {o e : Expr} {es : List Expr} {to : TE} {t : TA} {apos cpos : Pos} (slot : Slot "tuple" name id) (hty : typeOf (.builtin id) = pure (.type "method_descriptor")) (hm : MtR X id r) (ho : PE X o to) (ha : PA X (e :: es) t)
    (hbase : attributeBase o name X.env (eval o X.env) = eval o X.env := by rfl)
    (hfew : ((backTo cpos (starEach (e :: es) X.env)).all (fun x => !x.1) && (backToKw cpos (keywordEach [] X.env)).all (fun x => x.1.isSome)
      && decide ((e :: es).length + ([] : List Keyword).length + (if ([] : List Keyword).isEmpty then 0 else 1) < 30)) = true := by rfl)
    (hline : (apos.endLine == cpos.line) = true := by rfl) (hs : starEach (e :: es) X.env = (false, eval e X.env) :: starEach es X.env := by rfl) (hplain : (backTo cpos (starEach es X.env)).any (·.1) = false := by rfl) :
    PE X (.Call (.Attribute o name apos) (e :: es) [] cpos) (fun σ H Q => to σ H fun x H1 => isF x H1 ∧ t σ H1 fun xs H2 => r x xs H2 Q) := by
  refine ⟨fun pins s σ H Q I h => ?_⟩
  refine wpAny_Call_method_late hbase hfew hline rfl (thn (ho.run pins s σ H _ I h) fun v s1 ⟨x, H1, I1, r1, ⟨p, ob, ys, ex, hp, hd⟩, q1⟩ => ?_)
  subst ex
  have rv : RelV (.ref p) v := r1
  cases r1
  obtain ⟨ho1, _, its, _, o', ho2, hc, _⟩ := I1.hok p _ hp
  rw [ho1] at ho2
  cases ho2
  refine ⟨"tuple", id, PySem.F.plainAttrs_tuple, slot, hty, ⟨ob, ho1, hc⟩, fun a e => ?_, ?_⟩
  · cases e
    exact ⟨ob, ho1, hd⟩
  have hA := ha.run cpos pins s1 σ H1 _ I1 q1
  rw [hs] at hA ⊢
  refine Calls.callWith_builtin (by show (false || (backTo cpos (starEach es X.env)).any (·.1)) = false; rw [hplain] <;> rfl) (Calls.evalArgs_plain ?_)
  exact thn hA fun us s2 ⟨vs, H2, I2, r2, q2⟩ => hm pins s2 σ H2 (.ref p) vs _ us Q I2 rv r2 q2

/-! ### methods of built-in types -/
/-- the kind of thing that a method is looked up on -/
def tyA (T : String) (x : A) (h : Hs) : Bool := match x with
  | .str _ => T == "str"
  | .ftup _ => T == "ftuple"
  | .ref i => match h[i]? with
    | some (.lst _) => T == "list"
    | some (.flst _) => T == "list"
    | some (.dk _) => T == "dict"
    | some (.dt _) => T == "dict"
    | _ => false
  | _ => false
def OpM (C : Kn) (E : XK) (o : A → List A → Op A) (r : V → List V → Hp → VK → Prop) : Prop := ∀ (G : Loc) (lo : Nat) (h : Hs) (H : Hp) (x : A) (xs : List A) (v : V) (vs : List V) (Q : VK),
  Rh C G h H → RV C G h.length H x v → RVs C G h.length H xs vs → fin (relV C) C E G lo h.length H (o x xs lo h) Q → r v vs H Q
def metF (T : String) (o : A → List A → Op A) (fo : MF A) (ga : MF (List A)) : MF A := fo.bind fun x => fun lo s h => if tyA T x h then (MF.bind ga fun xs => fun lo _ h => o x xs lo h) lo s h else .bad
theorem tyA_list {G : Loc} {h : Hs} {H : Hp} {T : String} {x : A} {v : V} (hT : T = "list" ∨ T = "dict" ∨ T = "str") (rh : Rh C G h H) (r : RV C G h.length H x v) (e : tyA T x h = true) : tyV C.K T v H := by
  unfold tyA at e
  cases r with
  | str s => exact beq_iff_eq.mp e
  | ftup _ _ _ =>
    simp only at e
    rcases hT with rfl | rfl | rfl <;> exact absurd e (by decide)
  | ref hi =>
    simp only at e
    split at e
    · rename_i xs hx
      obtain ⟨ys, a, b⟩ := rh.sqL (.inl hx)
      exact .inl ⟨beq_iff_eq.mp e, ys, a⟩
    · rename_i xs hx
      obtain ⟨ys, a, b⟩ := rh.sqL (.inr hx)
      exact .inl ⟨beq_iff_eq.mp e, ys, a⟩
    · rename_i xs hx
      cases rh.obj _ _ hx with
      | dk q r => exact .inr (.inr (.inl ⟨beq_iff_eq.mp e, .inl ⟨_, q⟩⟩))
    · rename_i xs hx
      cases rh.obj _ _ hx with
      | dt q r => exact .inr (.inr (.inl ⟨beq_iff_eq.mp e, .inr ⟨_, q⟩⟩))
    · cases e
  | _ => cases e
theorem met_use {T : String} {o : A → List A → Op A} {r : V → List V → Hp → VK → Prop} {fo : MF A} {ga : MF (List A)} (hr : OpM C E o r) (P : V → Hp → Prop)
    (hP : ∀ (G : Loc) (h : Hs) (H : Hp) (x : A) (v : V), Rh C G h H → RV C G h.length H x v → tyA T x h = true → P v H) {σ : L2.St} {H : Hp} {Q : VK} (c : tE C E (metF T o fo ga) σ H Q) :
    tE C E fo σ H fun x H1 => P x H1 ∧ tA C E ga σ H1 fun xs H2 => r x xs H2 Q := by
  refine Cont.mono (Cont.bind c) fun v H1 ⟨x, c1⟩ => ?_
  obtain ⟨G, lo, h, s, rh, rs, rv, f⟩ := c1
  have f' : fin (relV C) C E G lo h.length H1 (if tyA T x h then (MF.bind ga fun xs => fun lo _ h => o x xs lo h) lo s h else .bad) Q := f
  split at f'
  · rename_i ht
    obtain ⟨w, ew, rw'⟩ := rvs1 rv
    cases ew
    refine ⟨hP G h H1 x v rh rw' ht, ?_⟩
    have c2 : Cont (relV C) C E (MF.bind ga fun xs => fun lo _ h => o x xs lo h) [x] [v] σ H1 Q := ⟨G, lo, h, s, rh, rs, rv, f'⟩
    refine Cont.mono (Cont.bindA c2) fun ws H2 ⟨ys, c3⟩ => ?_
    obtain ⟨G3, lo3, h3, s3, rh3, rs3, rv3, f3⟩ := c3
    have sp : ∀ {zs : List A} {us : List V}, RVs C G3 h3.length H2 (zs ++ [x]) (us ++ [v]) → RVs C G3 h3.length H2 zs us ∧ RV C G3 h3.length H2 x v := by
      intro zs
      induction zs with
      | nil =>
        intro us r
        cases us with
        | nil =>
          cases r with
          | cons a _ => exact ⟨.nil, a⟩
        | cons u us =>
          have := r.length
          simp at this
      | cons z zs ih =>
        intro us r
        cases us with
        | nil =>
          have := r.length
          simp at this
        | cons u us =>
          cases r with
          | cons a b =>
            obtain ⟨b1, b2⟩ := ih b
            exact ⟨.cons a b1, b2⟩
    obtain ⟨r1, r2⟩ := sp rv3
    exact hr G3 lo3 h3 H2 x ys v ws Q rh3 r2 r1 f3
  · exact f'.elim
theorem je_met {T : String} {name : Str} {id : String} {o : A → List A → Op A} {r : V → List V → Hp → VK → Prop} {ob e : Expr} {es : List Expr} {fo : MF A} {ga : MF (List A)} {apos cpos : Pos} (hK : X.K = C.K) (hT : T = "list" ∨ T = "dict" ∨ T = "str") (pa : PlainAttrs T) (slot : Slot T name id)
    (hty : typeOf (.builtin id) = pure (.type "method_descriptor")) (hm : MtR X id r) (hr : OpM C E o r) (ho : PE X ob (tE C E fo)) (ha : PA X (e :: es) (tA C E ga))
    (hbase : attributeBase ob name X.env (eval ob X.env) = eval ob X.env := by rfl)
    (hfew : ((backTo cpos (starEach (e :: es) X.env)).all (fun x => !x.1) && (backToKw cpos (keywordEach [] X.env)).all (fun x => x.1.isSome)
      && decide ((e :: es).length + ([] : List Keyword).length + (if ([] : List Keyword).isEmpty then 0 else 1) < 30)) = true := by rfl)
    (hline : (apos.endLine == cpos.line) = true := by rfl) (hs : starEach (e :: es) X.env = (false, eval e X.env) :: starEach es X.env := by rfl) (hplain : (backTo cpos (starEach es X.env)).any (·.1) = false := by rfl) :
    PE X (.Call (.Attribute ob name apos) (e :: es) [] cpos) (tE C E (metF T o fo ga)) :=
  imp (pe_bm pa slot hty hm ho ha hbase hfew hline hs hplain) fun _ _ _ c => by
    show tBM X.K T r _ _ _ _ _
    rw [hK]
    exact met_use hr (fun v H => tyV C.K T v H) (fun _ _ _ _ _ a b c => tyA_list hT a b c) c
theorem je_met0 {T : String} {name : Str} {id : String} {o : A → List A → Op A} {r : V → List V → Hp → VK → Prop} {ob : Expr} {fo : MF A} {apos cpos : Pos} (hK : X.K = C.K) (hT : T = "list" ∨ T = "dict" ∨ T = "str") (pa : PlainAttrs T) (slot : Slot T name id)
    (hty : typeOf (.builtin id) = pure (.type "method_descriptor")) (hm : MtR X id r) (hr : OpM C E o r) (ho : PE X ob (tE C E fo))
    (hbase : attributeBase ob name X.env (eval ob X.env) = eval ob X.env := by rfl) (hline : (apos.endLine == cpos.line) = true := by rfl) :
    PE X (.Call (.Attribute ob name apos) [] [] cpos) (tE C E (metF T o fo nilF)) :=
  imp (pe_bm0 pa slot hty hm ho hbase hline) fun _ _ _ c => by
    show tBM0 X.K T r _ _ _ _
    rw [hK]
    refine Cont.mono (met_use hr (fun v H => tyV C.K T v H) (fun _ _ _ _ _ a b c => tyA_list hT a b c) c) fun v H1 ⟨p, c1⟩ => ⟨p, ?_⟩
    obtain ⟨G, lo, h, s, rh, rs, rv, f⟩ := c1
    exact f G _ [] Ext.refl rh .nil
/-- t.index(x), ints -/
def tixO (x : A) (xs : List A) : Op A := fun _ h => match x, xs with
  | .ftup ys, [.int i] => match ys.findIdx? (fun y => match y with | .int j => j == i | _ => false) with
    | some j => if ys.all (fun y => match y with | .int _ => true | _ => false) then .ok (.int j) h else .bad
    | none => .bad
  | _, _ => .bad
theorem rvs_get {G : Loc} {n : Nat} {H : Hp} : ∀ {xs : List A} {vs : List V} {i : Nat} {v : V}, RVs C G n H xs vs → vs[i]? = some v → ∃ x, xs[i]? = some x ∧ RV C G n H x v
  | _, _, _, _, .nil, e => by simp at e
  | _, _, 0, _, .cons r _, e => by simp at e; subst e; exact ⟨_, rfl, r⟩
  | _, _, i + 1, v, .cons _ t, e => by
    obtain ⟨x, h1, h2⟩ := rvs_get (i := i) (v := v) t (by simpa using e)
    exact ⟨x, by simpa using h1, h2⟩
theorem rvs_at {G : Loc} {n : Nat} {H : Hp} : ∀ {xs : List A} {vs : List V} {i : Nat} {x : A}, RVs C G n H xs vs → xs[i]? = some x → ∃ v, vs[i]? = some v ∧ RV C G n H x v
  | _, _, _, _, .nil, e => by simp at e
  | _, _, 0, _, .cons r _, e => by simp at e; subst e; exact ⟨_, rfl, r⟩
  | _, _, i + 1, x, .cons _ t, e => by
    obtain ⟨v, h1, h2⟩ := rvs_at (i := i) (x := x) t (by simpa using e)
    exact ⟨v, by simpa using h1, h2⟩
theorem isF_of {G : Loc} {h : Hs} {H : Hp} {x : A} {v : V} (_ : Rh C G h H) (r : RV C G h.length H x v) (e : tyA "ftuple" x h = true) : isF v H := by
  unfold tyA at e
  cases r with
  | ftup q d r => exact ⟨_, _, _, rfl, q, d⟩
  | ref hi =>
    simp only at e
    split at e <;> first | exact absurd e (by decide) | cases e
  | str s =>
    simp only at e
    exact absurd e (by decide)
  | _ => cases e
theorem ints_flat {G : Loc} {n : Nat} {H : Hp} : ∀ {xs : List A} {vs : List V}, RVs C G n H xs vs → xs.all (fun y => match y with | .int _ => true | _ => false) = true → vs.all flatV = true
  | _, _, .nil, _ => rfl
  | _, _, .cons r t, e => by
    rw [List.all_cons, Bool.and_eq_true] at e
    rw [List.all_cons, ints_flat t e.2, Bool.and_true]
    cases r <;> first | rfl | exact absurd e.1 Bool.false_ne_true
theorem tixO_ok : OpM C E tixO rTIx := by
  intro G lo h H x xs v vs Q rh rx rvs f
  unfold tixO at f
  split at f
  · rename_i ys i
    split at f
    · rename_i j hj
      split at f
      · rename_i hall
        cases rx with
        | ftup q d r =>
          obtain ⟨w, rfl, rw'⟩ := rvs1 rvs
          cases rw'
          rw [List.findIdx?_eq_some_iff_getElem] at hj
          obtain ⟨hlt, h1, h2⟩ := hj
          obtain ⟨z, hz, rz⟩ := rvs_at r (List.getElem?_eq_getElem hlt)
          refine ⟨_, _, _, .int i, z, j, rfl, rfl, q, rfl, ints_flat r hall, hz, ?_, fun m w hm hw => ?_, fin_val f rh (.int _)⟩
          · cases hy : ys[j] with
            | int a =>
              rw [hy] at h1 rz
              cases rz
              have e : a = i := beq_iff_eq.mp h1
              subst e
              unfold eqV
              simp
            | _ => rw [hy] at h1; exact absurd h1 Bool.false_ne_true
          · obtain ⟨y, hy, ry⟩ := rvs_get r hw
            have hmlt : m < ys.length := (List.getElem?_eq_some_iff.mp hy).1
            have h3 := h2 m hm
            have e : ys[m] = y := (List.getElem?_eq_some_iff.mp hy).2
            rw [e] at h3
            have hall' := List.all_eq_true.mp hall y (List.mem_of_getElem? hy)
            cases ry with
            | int a =>
              have : ¬ (a == i) = true := h3
              unfold eqV
              simpa using this
            | _ => exact absurd hall' Bool.false_ne_true
      · exact f.elim
    · exact f.elim
  · exact f.elim
theorem je_tix {ob e : Expr} {es : List Expr} {fo : MF A} {ga : MF (List A)} {apos cpos : Pos} (ho : PE X ob (tE C E fo)) (ha : PA X (e :: es) (tA C E ga))
    (hbase : attributeBase ob "index" X.env (eval ob X.env) = eval ob X.env := by rfl)
    (hfew : ((backTo cpos (starEach (e :: es) X.env)).all (fun x => !x.1) && (backToKw cpos (keywordEach [] X.env)).all (fun x => x.1.isSome)
      && decide ((e :: es).length + ([] : List Keyword).length + (if ([] : List Keyword).isEmpty then 0 else 1) < 30)) = true := by rfl)
    (hline : (apos.endLine == cpos.line) = true := by rfl) (hs : starEach (e :: es) X.env = (false, eval e X.env) :: starEach es X.env := by rfl) (hplain : (backTo cpos (starEach es X.env)).any (·.1) = false := by rfl) :
    PE X (.Call (.Attribute ob "index" apos) (e :: es) [] cpos) (tE C E (metF "ftuple" tixO fo ga)) :=
  imp (pe_ftm PySem.F.slot_tuple_index PySem.F.type_tuple_index mt_tix ho ha hbase hfew hline hs hplain) fun _ _ _ c => met_use tixO_ok isF (fun _ _ _ _ _ a b c => isF_of a b c) c

/-! ### append, pop, extend -/
def appO (x : A) (xs : List A) : Op A := fun lo h => match x, xs with
  | .ref i, [y] => match h[i]? with
    | some (.lst zs) => if (Nat.ble lo i && okB zs.length) then .ok .non (h.set i (.lst (zs ++ [y]))) else .bad
    | _ => .bad
  | _, _ => .bad
theorem okB_lt {n : Nat} (h : okB n = true) : n < sizeLine := Nat.lt_of_le_of_lt (Nat.le_of_ble_eq_true h) (by decide)
theorem appO_ok : OpM C E appO rAppend := by
  intro G lo h H x xs v vs Q rh rx rvs f
  unfold appO at f
  split at f
  · rename_i i y
    split at f
    · rename_i zs hz
      split at f
      · rename_i hc
        rw [Bool.and_eq_true] at hc
        obtain ⟨w, rfl, rw'⟩ := rvs1 rvs
        cases rx with
        | ref hi =>
          obtain ⟨ys, q, r⟩ := rh.lst hz
          refine ⟨_, ys, w, rfl, rfl, q, by rw [← r.length]; exact okB_lt hc.2, ?_⟩
          exact fin_put (v := V.non) f rh (Nat.le_of_ble_eq_true hc.1) hi q free_lst (fun e => .lst upd_same (RVs.append (r.ext e) (.cons (rw'.ext e) .nil))) fun e => .non
      · exact f.elim
    · exact f.elim
  · exact f.elim
def popO (x : A) (xs : List A) : Op A := fun lo h => match x, xs with
  | .ref i, [] => match h[i]? with
    | some (.lst zs) => if Nat.ble lo i then (match zs[zs.length - 1]? with
      | some y => .ok y (h.set i (.lst zs.dropLast))
      | none => .bad) else .bad
    | _ => .bad
  | _, _ => .bad
theorem rvs_dropLast {G : Loc} {n : Nat} {H : Hp} : ∀ {xs : List A} {vs : List V}, RVs C G n H xs vs → RVs C G n H xs.dropLast vs.dropLast
  | _, _, .nil => .nil
  | _, _, .cons _ .nil => .nil
  | _, _, .cons r (.cons r2 t) => .cons r (rvs_dropLast (.cons r2 t))
theorem popO_ok : OpM C E popO rPop := by
  intro G lo h H x xs v vs Q rh rx rvs f
  unfold popO at f
  split at f
  · rename_i i
    split at f
    · rename_i zs hz
      split at f
      · rename_i hc
        split at f
        · rename_i y hy
          cases rvs
          cases rx with
          | ref hi =>
            obtain ⟨ys, q, r⟩ := rh.lst hz
            obtain ⟨w, hw, rw'⟩ := rvs_at r hy
            refine ⟨_, ys, w, rfl, rfl, q, by rw [← r.length]; exact hw, ?_⟩
            exact fin_put (v := w) f rh (Nat.le_of_ble_eq_true hc) hi q free_lst (fun e => .lst upd_same (rvs_dropLast (r.ext e))) fun e => rw'.ext e
        · exact f.elim
      · exact f.elim
    · exact f.elim
  · exact f.elim
def extO (x : A) (xs : List A) : Op A := fun lo h => match x, xs with
  | .ref i, [.ref j] => match h[i]?, h[j]? with
    | some (.lst zs), some (.lst ws) => if (Nat.ble lo i && okB (zs.length + ws.length)) then .ok .non (h.set i (.lst (zs ++ ws))) else .bad
    | _, _ => .bad
  | _, _ => .bad
theorem extO_ok : OpM C E extO rExtend := by
  intro G lo h H x xs v vs Q rh rx rvs f
  unfold extO at f
  split at f
  · rename_i i j
    split at f
    · rename_i zs ws hz hw
      split at f
      · rename_i hc
        rw [Bool.and_eq_true] at hc
        obtain ⟨w, rfl, rw'⟩ := rvs1 rvs
        cases rw' with
        | ref hj =>
          cases rx with
          | ref hi =>
            obtain ⟨ys, q, r⟩ := rh.lst hz
            obtain ⟨ys2, q2, r2⟩ := rh.lst hw
            refine ⟨_, _, ys, ys2, rfl, rfl, q, q2, by rw [← r.length, ← r2.length]; exact okB_le hc.2, ?_⟩
            exact fin_put (v := V.non) f rh (Nat.le_of_ble_eq_true hc.1) hi q free_lst (fun e => .lst upd_same (RVs.append (r.ext e) (r2.ext e))) fun e => .non
      · exact f.elim
    · exact f.elim
  · exact f.elim
end
end MA

set_option linter.all false
namespace MA
open PySem L2 SlX LamX
open PySem.Spec PyProof.Rows

/-! ### tables -/
def valA {κ : Type} [DecidableEq κ] : List (κ × A) → κ → Option A
  | [], _ => none
  | (k, x) :: r, j => if k = j then some x else valA r j
def putA {κ : Type} [DecidableEq κ] (kvs : List (κ × A)) (j : κ) (y : A) : List (κ × A) :=
  if (kvs.any fun kv => decide (kv.1 = j)) = true then kvs.map (fun kv => if kv.1 = j then (kv.1, y) else kv) else kvs ++ [(j, y)]
def keyOf : A → Option Key
  | .int i => some (.inl i)
  | .str s => some (.inr s)
  | _ => none
def keysOf : List A → Option (List Key)
  | [] => some []
  | x :: xs => match keyOf x with
    | some k => match keysOf xs with
      | some ks => some (k :: ks)
      | none => none
    | none => none
section
variable {X : Cx} {C : Kn} {E : XK} {k : Nat} {G : Loc} {n : Nat} {h : Hs} {H : Hp}
theorem keyOf_rv {x : A} {v : V} {k : Key} (e : keyOf x = some k) (r : RV C G n H x v) : v = kV k := by
  cases r <;> first | (cases e; rfl) | cases e
theorem keysOf_rvs : ∀ {xs : List A} {vs : List V} {ks : List Key}, keysOf xs = some ks → RVs C G n H xs vs → vs = ks.map kV
  | _, _, _, e, .nil => by cases e; rfl
  | x :: xs, _, ks, e, .cons r t => by
    unfold keysOf at e
    split at e
    · rename_i k hk
      split at e
      · rename_i ks' hks
        cases e
        rw [keyOf_rv hk r, keysOf_rvs hks t]
        rfl
      · cases e
    · cases e
theorem rks_val {κ : Type} [DecidableEq κ] : ∀ {kvs : List (κ × A)} {ks : List (κ × V)} (j : κ), RKs C G n H kvs ks → (∃ x v, valA kvs j = some x ∧ valV ks j = some v ∧ RV C G n H x v) ∨ (valA kvs j = none ∧ valV ks j = none)
  | _, _, j, .nil => .inr ⟨rfl, rfl⟩
  | (k, x) :: r, (k', v) :: r', j, .cons q t => by
    obtain ⟨e, rv⟩ := q
    have e : k = k' := e
    subst e
    by_cases hk : k = j
    · refine .inl ⟨x, v, ?_, valV_pos hk, rv⟩
      unfold valA
      rw [if_pos hk]
    · have e1 : valA ((k, x) :: r) j = valA r j := by
        conv => lhs; unfold valA
        rw [if_neg hk]
      have e2 : valV ((k, v) :: r') j = valV r' j := valV_neg hk
      rw [e1, e2]
      exact rks_val j t
theorem rks_val_some {κ : Type} [DecidableEq κ] {kvs : List (κ × A)} {ks : List (κ × V)} {j : κ} {x : A} (r : RKs C G n H kvs ks) (e : valA kvs j = some x) : ∃ v, valV ks j = some v ∧ RV C G n H x v := by
  rcases rks_val j r with ⟨y, v, a, b, c⟩ | ⟨a, b⟩
  · rw [a] at e
    cases e
    exact ⟨v, b, c⟩
  · rw [a] at e
    cases e
theorem rks_isSome {κ : Type} [DecidableEq κ] {kvs : List (κ × A)} {ks : List (κ × V)} (j : κ) (r : RKs C G n H kvs ks) : (valV ks j).isSome = (valA kvs j).isSome := by
  rcases rks_val j r with ⟨y, v, a, b, c⟩ | ⟨a, b⟩ <;> rw [a, b] <;> rfl
theorem rks_put {κ : Type} [DecidableEq κ] {x : A} {v : V} (rv : RV C G n H x v) (j : κ) {kvs : List (κ × A)} {ks : List (κ × V)} (r : RKs C G n H kvs ks) : RKs C G n H (putA kvs j x) (putK ks j v) := by
  have e : (kvs.any fun kv => decide (kv.1 = j)) = (ks.any fun kv => decide (kv.1 = j)) := by
    induction r with
    | nil => rfl
    | cons q t ih => rw [List.any_cons, List.any_cons, ih, q.1]
  unfold putA putK
  rw [e]
  clear e
  generalize (ks.any fun kv => decide (kv.1 = j)) = c
  cases c with
  | true =>
    rw [if_pos rfl, if_pos rfl]
    induction r with
    | nil => exact .nil
    | @cons p p' _ _ q t ih =>
      refine .cons ?_ ih
      show (if p.1 = j then (p.1, x) else p).1 = (if p'.1 = j then (p'.1, v) else p').1 ∧ _
      dsimp only
      rw [← q.1]
      by_cases hk : p.1 = j
      · rw [if_pos hk, if_pos hk]
        exact ⟨rfl, rv⟩
      · rw [if_neg hk, if_neg hk]
        exact q
  | false =>
    rw [if_neg Bool.false_ne_true, if_neg Bool.false_ne_true]
    induction r with
    | nil => exact .cons ⟨rfl, rv⟩ .nil
    | cons q t ih => exact .cons q ih

/-! ### subscripts -/
def seqIxO (x y : A) : Op A := fun _ h => match y with
  | .int i => match h.seq x with
    | some xs => match atI xs i with
      | some z => .ok z h
      | none => .bad
    | none => .bad
  | _ => .bad
theorem atI_rvs {xs : List A} {vs : List V} {i : Int} {x : A} (r : RVs C G n H xs vs) (e : atI xs i = some x) : ∃ v, atI vs i = some v ∧ RV C G n H x v := by
  unfold atI at e ⊢
  rw [← r.length]
  cases hx : ixN xs.length i with
  | none => rw [hx] at e; cases e
  | some j =>
    rw [hx] at e
    exact rvs_at r e
theorem seqIxO_ok : Op2 C E seqIxO (fun x y H Q => rIxL C.K x y H Q ∨ rIxT C.K x y H Q) := by
  intro G lo h H x y v w Q rh rx ry f
  unfold seqIxO at f
  split at f
  · split at f
    · rename_i xs hs
      split at f
      · rename_i z hz
        obtain ⟨a, ys, rfl, q, b⟩ := rh.seq hs rx
        cases ry
        obtain ⟨u, hu, ru⟩ := atI_rvs b hz
        rcases q with q | q
        · exact .inl ⟨_, ys, _, u, rfl, rfl, q, hu, fin_val f rh ru⟩
        · exact .inr ⟨_, ys, _, u, rfl, rfl, q, hu, fin_val f rh ru⟩
      · exact f.elim
    · exact f.elim
  · exact f.elim
/-- what the dict x holds at the key y: none, if there is no such dict or key kind -/
def dget (h : Hs) (x y : A) : Option (Option A) := match x with
  | .ref i => match h[i]? with
    | some (.dk kvs) => match keyOf y with
      | some k => some (valA kvs k)
      | none => none
    | some (.dt kvs) => match y with
      | .tup zs => match keysOf zs with
        | some ks => some (valA kvs ks)
        | none => none
      | _ => none
    | _ => none
  | _ => none
theorem dget_ok {G : Loc} {h : Hs} {x y : A} {v w : V} {o : Option A} (rh : Rh C G h H) (rx : RV C G h.length H x v) (ry : RV C G h.length H y w) (e : dget h x y = some o) :
    ∃ a r, v = .ref a ∧ DGet H a w r ∧ r.isSome = o.isSome ∧ ∀ z, o = some z → ∃ u, r = some u ∧ RV C G h.length H z u := by
  unfold dget at e
  cases rx with
  | ref hi =>
    simp only at e
    split at e
    · rename_i kvs hk
      cases rh.obj _ _ hk with
      | dk q r =>
        split at e
        · rename_i k hky
          cases e
          rw [keyOf_rv hky ry]
          exact ⟨_, _, rfl, DGet.k q, rks_isSome k r, fun z hz => rks_val_some r hz⟩
        · cases e
    · rename_i kvs hk
      cases rh.obj _ _ hk with
      | dt q r =>
        split at e
        · split at e
          · rename_i ks hks
            cases e
            cases ry with
            | tup qt rt =>
              have ek := keysOf_rvs hks rt
              subst ek
              exact ⟨_, _, rfl, DGet.t q qt, rks_isSome ks r, fun z hz => rks_val_some r hz⟩
          · cases e
        · cases e
    · cases e
  | _ => cases e
def dIxO (x y : A) : Op A := fun _ h => match dget h x y with
  | some (some z) => .ok z h
  | _ => .bad
def ixO (x y : A) : Op A := fun lo h => match h.seq x with
  | some _ => seqIxO x y lo h
  | none => dIxO x y lo h
theorem je_sub {a b : Expr} {fa fb : MF A} {pos : Pos} (hK : X.K = C.K) (hu : X.A.units + 1 < cLine) (ha : PE X a (tE C E fa)) (hb : PE X b (tE C E fb)) (hs : PlainIx b := by intro _ _; rfl) : PE X (.Subscript a b pos) (tE C E (bin ixO fa fb)) := by
  refine imp2 (pe_ix (r := fun x y H Q => rIxL X.K x y H Q ∨ rIxT X.K x y H Q) (ix_list.or ix_tup) ha hb hs) (pe_dget hu ha hb hs) fun σ H Q c => ?_
  rcases bin_or (o := ixO) (o1 := seqIxO) (o2 := dIxO) (fun x y lo h => by
    unfold ixO
    split
    · exact .inl rfl
    · exact .inr rfl) c with c | c
  · left
    rw [hK]
    exact bin_use seqIxO_ok c
  · right
    refine Cont.mono (Cont.bind c) fun v H1 ⟨x, c1⟩ => ?_
    refine Cont.mono (Cont.bind c1) fun w H2 ⟨y, c2⟩ => ?_
    obtain ⟨G, lo, h, s, rh, rs, rv, f⟩ := c2
    have f' : fin (relV C) C E G lo h.length H2 (dIxO x y lo h) Q := f
    unfold dIxO at f'
    split at f'
    · rename_i z hz
      obtain ⟨w', v', e, ry, rx⟩ : ∃ w' v', [w, v] = [w', v'] ∧ RV C G h.length H2 y w' ∧ RV C G h.length H2 x v' := by
        obtain ⟨a, b, e, p, q⟩ := rvs2 rv
        exact ⟨a, b, e, p, q⟩
      cases e
      obtain ⟨a, r, e1, g, _, hr⟩ := dget_ok rh rx ry hz
      obtain ⟨u, e2, ru⟩ := hr z rfl
      subst e2
      exact ⟨a, u, e1, g, fin_val f' rh ru⟩
    · exact f'.elim

/-! ### in, not in -/
def flatA : A → Bool
  | .non => true
  | .bl _ => true
  | .int _ => true
  | .str _ => true
  | _ => false
def eqF : A → A → Bool
  | .non, .non => true
  | .bl a, .bl b => a == b
  | .bl a, .int b => (if a then 1 else 0) == b
  | .int a, .bl b => a == (if b then 1 else 0)
  | .int a, .int b => a == b
  | .str a, .str b => a == b
  | _, _ => false
def dInO (neg : Bool) (y x : A) : Op A := fun _ h => match dget h x y with
  | some o => .ok (.bl (if neg then !o.isSome else o.isSome)) h
  | none => .bad
def seqInO (neg : Bool) (y x : A) : Op A := fun _ h => match h.seq x with
  | some xs => if (flatA y && xs.all flatA) then .ok (.bl (if neg then !xs.any (fun z => eqF z y) else xs.any (fun z => eqF z y))) h else .bad
  | none => .bad
def inO (neg : Bool) (y x : A) : Op A := fun lo h => match h.seq x with
  | some _ => seqInO neg y x lo h
  | none => dInO neg y x lo h
theorem flat_rv {x : A} {v : V} (r : RV C G n H x v) (e : flatA x = true) : flatV v = true := by
  cases r <;> first | rfl | exact absurd e Bool.false_ne_true
theorem flat_rvs : ∀ {xs : List A} {vs : List V}, RVs C G n H xs vs → xs.all flatA = true → vs.all flatV = true
  | _, _, .nil, _ => rfl
  | _, _, .cons r t, e => by
    rw [List.all_cons, Bool.and_eq_true] at e
    rw [List.all_cons, flat_rv r e.1, flat_rvs t e.2]
    rfl
theorem eqF_rv {x y : A} {v w : V} (r : RV C G n H x v) (r' : RV C G n H y w) (e : flatA x = true) (e' : flatA y = true) : eqV v w = eqF x y := by
  cases r <;> first | exact absurd e Bool.false_ne_true | (cases r' <;> first | rfl | exact absurd e' Bool.false_ne_true)
theorem any_rvs {y : A} {w : V} (r' : RV C G n H y w) (e' : flatA y = true) : ∀ {xs : List A} {vs : List V}, RVs C G n H xs vs → xs.all flatA = true → inV w vs = xs.any fun z => eqF z y
  | _, _, .nil, _ => rfl
  | _, _, .cons r t, e => by
    rw [List.all_cons, Bool.and_eq_true] at e
    have ih := any_rvs r' e' t e.2
    unfold inV at ih ⊢
    rw [List.any_cons, List.any_cons, ih, eqF_rv r r' e.1 e']
theorem seqInO_ok (neg : Bool) : Op2 C E (seqInO neg) (rIn C.K neg) := by
  intro G lo h H y x w v Q rh ry rx f
  unfold seqInO at f
  split at f
  · rename_i xs hs
    split at f
    · rename_i hz
      rw [Bool.and_eq_true] at hz
      obtain ⟨a, ys, rfl, q, b⟩ := rh.seq hs rx
      refine ⟨a, ys, rfl, q, flat_rv ry hz.1, flat_rvs b hz.2, ?_⟩
      rw [any_rvs ry hz.1 b hz.2]
      exact fin_val f rh (.bl _)
    · exact f.elim
  · exact f.elim
theorem bin_in {neg : Bool} {fa fb : MF A} {σ : L2.St} {H : Hp} {Q : VK} (c : tE C E (bin (inO neg) fa fb) σ H Q) : tE C E (bin (seqInO neg) fa fb) σ H Q ∨ tE C E (bin (dInO neg) fa fb) σ H Q :=
  bin_or (fun x y lo h => by
    unfold inO
    split
    · exact .inl rfl
    · exact .inr rfl) c
theorem dIn_use {neg : Bool} {fa fb : MF A} {σ : L2.St} {H : Hp} {Q : VK} (c : tE C E (bin (dInO neg) fa fb) σ H Q) : tE C E fa σ H fun y H1 => tE C E fb σ H1 fun x H2 => ∃ a o, x = .ref a ∧ DGet H2 a y o ∧ Q (.bl (if neg then !o.isSome else o.isSome)) H2 := by
  refine Cont.mono (Cont.bind c) fun w H1 ⟨y, c1⟩ => ?_
  refine Cont.mono (Cont.bind c1) fun v H2 ⟨x, c2⟩ => ?_
  obtain ⟨G, lo, h, s, rh, rs, rv, f⟩ := c2
  have f' : fin (relV C) C E G lo h.length H2 (dInO neg y x lo h) Q := f
  unfold dInO at f'
  split at f'
  · rename_i o ho
    obtain ⟨v', w', e, rx, ry⟩ := rvs2 rv
    cases e
    obtain ⟨a, r, e1, g, hs, _⟩ := dget_ok rh rx ry ho
    refine ⟨a, r, e1, g, ?_⟩
    rw [hs]
    exact fin_val f' rh (.bl _)
  · exact f'.elim
theorem je_in {a b : Expr} {fa fb : MF A} {pos : Pos} (hK : X.K = C.K) (hu : X.A.units + 1 < cLine) (ha : PE X a (tE C E fa)) (hb : PE X b (tE C E fb)) (hm : behindInMarks .In b = false) : PE X (.Compare a [.In] [b] pos) (tE C E (bin (inO false) fa fb)) := by
  refine imp2 (pe_cmpR op_in_seq ha hb hm) (pe_cmp (pc_din hu ha hb) hm) fun σ H Q c => ?_
  rcases bin_in c with c | c
  · left
    rw [hK]
    exact bin_use (seqInO_ok false) c
  · right
    exact dIn_use c
theorem je_notin {a b : Expr} {fa fb : MF A} {pos : Pos} (hK : X.K = C.K) (hu : X.A.units + 1 < cLine) (ha : PE X a (tE C E fa)) (hb : PE X b (tE C E fb)) (hm : behindInMarks .NotIn b = false) : PE X (.Compare a [.NotIn] [b] pos) (tE C E (bin (inO true) fa fb)) := by
  refine imp2 (pe_cmpR op_notIn_seq ha hb hm) (pe_cmp (pc_dnotin hu ha hb) hm) fun σ H Q c => ?_
  rcases bin_in c with c | c
  · left
    rw [hK]
    exact bin_use (seqInO_ok true) c
  · right
    exact dIn_use c
theorem imp2T {e : Expr} {t t1 t2 : TT} (h1 : PT X e t1) (h2 : PT X e t2) (k : ∀ σ H Q, t σ H Q → t1 σ H Q ∨ t2 σ H Q) : PT X e t := ⟨fun pins s σ H Q I q => by
  rcases k σ H Q q with q | q
  · exact h1.run pins s σ H Q I q
  · exact h2.run pins s σ H Q I q⟩
theorem asB_in {neg : Bool} {fa fb : MF A} {σ : L2.St} {H : Hp} {Q : Bool → Hp → Prop} (c : tT C E (asB (bin (inO neg) fa fb)) σ H Q) : tE C E (bin (inO neg) fa fb) σ H fun v H1 => ∃ b, v = .bl b ∧ Q b H1 := asB_use c
theorem jt_in {a b : Expr} {fa fb : MF A} {pos : Pos} (hK : X.K = C.K) (hu : X.A.units + 1 < cLine) (ha : PE X a (tE C E fa)) (hb : PE X b (tE C E fb)) (hm : behindInMarks .In b = false) : PT X (.Compare a [.In] [b] pos) (tT C E (asB (bin (inO false) fa fb))) := by
  refine imp2T (pt_cmpR op_in_seq ha hb hm) (pt_cmp (pc_din hu ha hb) hm) fun σ H Q c => ?_
  rcases bin_in (asB_in c) with c | c
  · left
    rw [hK]
    exact bin_use (seqInO_ok false) c
  · right
    exact dIn_use c
theorem jt_notin {a b : Expr} {fa fb : MF A} {pos : Pos} (hK : X.K = C.K) (hu : X.A.units + 1 < cLine) (ha : PE X a (tE C E fa)) (hb : PE X b (tE C E fb)) (hm : behindInMarks .NotIn b = false) : PT X (.Compare a [.NotIn] [b] pos) (tT C E (asB (bin (inO true) fa fb))) := by
  refine imp2T (pt_cmpR op_notIn_seq ha hb hm) (pt_cmp (pc_dnotin hu ha hb) hm) fun σ H Q c => ?_
  rcases bin_in (asB_in c) with c | c
  · left
    rw [hK]
    exact bin_use (seqInO_ok true) c
  · right
    exact dIn_use c

/-! ### all, any of a list of bools -/
def bools : List A → Option (List Bool)
  | [] => some []
  | .bl b :: r => match bools r with
    | some bs => some (b :: bs)
    | none => none
  | _ :: _ => none
theorem bools_rvs : ∀ {xs : List A} {vs : List V} {bs : List Bool}, bools xs = some bs → RVs C G n H xs vs → vs = bs.map V.bl
  | _, _, _, e, .nil => by cases e; rfl
  | _, _, _, e, .cons r t => by
    cases r with
    | bl b =>
      unfold bools at e
      split at e
      · rename_i bs hb
        cases e
        rw [bools_rvs hb t]
        rfl
      · cases e
    | _ => cases e
def allO (xs : List A) : Op A := fun _ h => match xs with
  | [.ref i] => match h[i]? with
    | some (.lst ys) => match bools ys with
      | some bs => .ok (.bl (bs.all id)) h
      | none => .bad
    | _ => .bad
  | _ => .bad
def anyO (xs : List A) : Op A := fun _ h => match xs with
  | [.ref i] => match h[i]? with
    | some (.lst ys) => match bools ys with
      | some bs => .ok (.bl (bs.any id)) h
      | none => .bad
    | _ => .bad
  | _ => .bad
theorem allO_ok : OpL C E allO (rAll C.K) := by
  intro G lo h H xs vs Q rh rv f
  unfold allO at f
  split at f
  · split at f
    · rename_i ys hy
      split at f
      · rename_i bs hb
        obtain ⟨v, rfl, r⟩ := rvs1 rv
        cases r
        obtain ⟨zs, a, b⟩ := rh.sqL (.inl hy)
        rw [bools_rvs hb b] at a
        exact ⟨_, bs, rfl, a, fin_val f rh (.bl _)⟩
      · exact f.elim
    · exact f.elim
  · exact f.elim
theorem anyO_ok : OpL C E anyO (rAny C.K) := by
  intro G lo h H xs vs Q rh rv f
  unfold anyO at f
  split at f
  · split at f
    · rename_i ys hy
      split at f
      · rename_i bs hb
        obtain ⟨v, rfl, r⟩ := rvs1 rv
        cases r
        obtain ⟨zs, a, b⟩ := rh.sqL (.inl hy)
        rw [bools_rvs hb b] at a
        exact ⟨_, bs, rfl, a, fin_val f rh (.bl _)⟩
      · exact f.elim
    · exact f.elim
  · exact f.elim
end
end MA

set_option linter.all false
namespace MA
open PySem L2 SlX LamX
open PySem.Spec PyProof.Rows

/-! ### statements -/
inductive Fl where
  | nx (s : Sl)
  | rt (x : A)
  | bk (s : Sl)
  | ct (s : Sl)
def finS (C : Kn) (E : XK) (G : Loc) (lo n : Nat) (H : Hp) (r : R Fl) (D : Ends) : Prop := match r with
  | .ok (.nx s') h' => ∀ G' H' σ', Ext lo n G H h'.length G' H' → Rh C G' h' H' → RS C G' h'.length H' s' σ' → D.nx σ' H'
  | .ok (.rt x) h' => ∀ G' H' v, Ext lo n G H h'.length G' H' → Rh C G' h' H' → RV C G' h'.length H' x v → D.rt v H'
  | .ok (.bk s') h' => ∀ G' H' σ', Ext lo n G H h'.length G' H' → Rh C G' h' H' → RS C G' h'.length H' s' σ' → D.bk σ' H'
  | .ok (.ct s') h' => ∀ G' H' σ', Ext lo n G H h'.length G' H' → Rh C G' h' H' → RS C G' h'.length H' s' σ' → D.ct σ' H'
  | .ex e h' => ∀ G' H' c d, Ext lo n G H h'.length G' H' → Rh C G' h' H' → RX C G' h'.length H' e c d → E c d H'
  | .bad => False
def ContS (C : Kn) (E : XK) (f : MF Fl) (xs : List A) (vs : List V) (σ : L2.St) (H : Hp) (D : Ends) : Prop :=
  ∃ (G : Loc) (lo : Nat) (h : Hs) (s : Sl), Rh C G h H ∧ RS C G h.length H s σ ∧ RVs C G h.length H xs vs ∧ finS C E G lo h.length H (f lo s h) D
def tS (C : Kn) (E : XK) (f : MF Fl) : TS := fun D σ H => ContS C E f [] [] σ H D

section
variable {X : Cx} {C : Kn} {E : XK} {k : Nat} {G : Loc} {n lo : Nat} {h : Hs} {H : Hp} {σ : L2.St} {D : Ends} {xs : List A} {vs : List V}
theorem finS.ext {G1 : Loc} {n1 : Nat} {H1 : Hp} {r : R Fl} (e : Ext lo n G H n1 G1 H1) (f : finS C E G lo n H r D) : finS C E G1 lo n1 H1 r D := by
  cases r with
  | ok x h' =>
    cases x with
    | nx s => exact fun G' H' v a b c => f G' H' v (e.trans a) b c
    | rt x => exact fun G' H' v a b c => f G' H' v (e.trans a) b c
    | bk s => exact fun G' H' v a b c => f G' H' v (e.trans a) b c
    | ct s => exact fun G' H' v a b c => f G' H' v (e.trans a) b c
  | ex x h' => exact fun G' H' c d a b z => f G' H' c d (e.trans a) b z
  | bad => exact f
theorem ContS.drop {f : MF Fl} (c : ContS C E f xs vs σ H D) : ContS C E f [] [] σ H D := by
  obtain ⟨G, lo, h, s, rh, rs, rv, f⟩ := c
  exact ⟨G, lo, h, s, rh, rs, .nil, f⟩
theorem ContS.bind {fa : MF A} {k : A → MF Fl} (c : ContS C E (fa.bind k) xs vs σ H D) : tE C E fa σ H fun v H1 => ∃ x, ContS C E (k x) (x :: xs) (v :: vs) σ H1 D := by
  obtain ⟨G, lo, h, s, a, b, d, f⟩ := c
  refine ⟨G, lo, h, s, a, b, .nil, ?_⟩
  unfold MF.bind at f
  cases hr : fa lo s h with
  | ok x h1 =>
    rw [hr] at f
    exact fun G' H' v e1 r1 rv => ⟨x, G', lo, h1, s, r1, b.ext e1, .cons rv (d.ext e1), finS.ext e1 f⟩
  | ex e h1 => rw [hr] at f; exact f
  | bad => rw [hr] at f; exact f
theorem ContS.bindT {fa : MF Bool} {k : Bool → MF Fl} (c : ContS C E (fa.bind k) xs vs σ H D) : tT C E fa σ H fun b H1 => ContS C E (k b) xs vs σ H1 D := by
  obtain ⟨G, lo, h, s, a, b, d, f⟩ := c
  refine ⟨G, lo, h, s, a, b, .nil, ?_⟩
  unfold MF.bind at f
  cases hr : fa lo s h with
  | ok x h1 =>
    rw [hr] at f
    intro G' H' v e1 r1 rv
    cases rv
    exact ⟨G', lo, h1, s, r1, b.ext e1, d.ext e1, finS.ext e1 f⟩
  | ex e h1 => rw [hr] at f; exact f
  | bad => rw [hr] at f; exact f
theorem ContS.bindA {fa : MF (List A)} {k : List A → MF Fl} (c : ContS C E (fa.bind k) xs vs σ H D) : tA C E fa σ H fun ws H1 => ∃ ys, ContS C E (k ys) (ys ++ xs) (ws ++ vs) σ H1 D := by
  obtain ⟨G, lo, h, s, a, b, d, f⟩ := c
  refine ⟨G, lo, h, s, a, b, .nil, ?_⟩
  unfold MF.bind at f
  cases hr : fa lo s h with
  | ok x h1 =>
    rw [hr] at f
    exact fun G' H' v e1 r1 rv => ⟨x, G', lo, h1, s, r1, b.ext e1, RVs.append rv (d.ext e1), finS.ext e1 f⟩
  | ex e h1 => rw [hr] at f; exact f
  | bad => rw [hr] at f; exact f

/-- one statement behind the other -/
def seqS (f g : MF Fl) : MF Fl := fun lo s h => match f lo s h with
  | .ok (.nx s') h' => g lo s' h'
  | r => r
theorem seqS_use {f g : MF Fl} (c : tS C E (seqS f g) D σ H) : tS C E f { D with nx := fun σ H => tS C E g D σ H } σ H := by
  obtain ⟨G, lo, h, s, a, b, d, q⟩ := c
  refine ⟨G, lo, h, s, a, b, .nil, ?_⟩
  unfold seqS at q
  cases hr : f lo s h with
  | ok x h1 =>
    rw [hr] at q
    cases x with
    | nx s' => exact fun G' H' σ' e1 r1 rs => ⟨G', lo, h1, s', r1, rs, .nil, finS.ext e1 q⟩
    | rt x => exact q
    | bk s => exact q
    | ct s => exact q
  | ex e h1 => rw [hr] at q; exact q
  | bad => rw [hr] at q; exact q
def nextS : MF Fl := fun _ s h => .ok (.nx s) h
theorem nextS_use (c : tS C E nextS D σ H) : D.nx σ H := by
  obtain ⟨G, lo, h, s, a, b, d, q⟩ := c
  exact q G H σ Ext.refl a b
theorem js_nil : PSs X [] (tS C E nextS) := impSs pss_nil fun _ _ _ c => nextS_use c
theorem js_cons {st : Stmt} {rest : List Stmt} {f g : MF Fl} (h1 : PS X st (tS C E f)) (h2 : PSs X rest (tS C E g)) : PSs X (st :: rest) (tS C E (seqS f g)) :=
  impSs (pss_cons h1 h2) fun _ _ _ c => seqS_use c
theorem js_one {st : Stmt} {f : MF Fl} (h1 : PS X st (tS C E f)) : PSs X [st] (tS C E f) := pss_one h1
theorem js_never {st : List Stmt} : PSs X st (tS C E fun _ _ _ => .bad) := ⟨fun _ _ _ _ _ _ c => by
  obtain ⟨G, lo, h, s, rh, rs, rv, f⟩ := c
  exact f.elim⟩
theorem js_never1 {st : Stmt} : PS X st (tS C E fun _ _ _ => .bad) := ⟨fun _ _ _ _ _ _ c => by
  obtain ⟨G, lo, h, s, rh, rs, rv, f⟩ := c
  exact f.elim⟩
theorem js_pass {pos : Pos} : PS X (.Pass pos) (tS C E nextS) := impS ps_pass fun _ _ _ c => nextS_use c
theorem js_doc {x j pos pos'} : PS X (.Expr (.Constant (.str x) j pos) pos') (tS C E nextS) := impS ps_doc fun _ _ _ c => nextS_use c
def exprS (f : MF A) : MF Fl := f.bind fun _ => nextS
theorem js_expr {e : Expr} {f : MF A} {pos : Pos} (he : PE X e (tE C E f)) (hs : swapsWith e none pos.line X.env = pure false := by rfl) : PS X (.Expr e pos) (tS C E (exprS f)) :=
  impS (ps_expr he hs) fun _ _ _ c => Cont.mono (ContS.bind c) fun v H1 ⟨x, c1⟩ => nextS_use c1.drop
def retS (f : MF A) : MF Fl := f.bind fun x => fun _ _ h => .ok (.rt x) h
theorem js_ret {e : Expr} {f : MF A} {pos : Pos} (he : PE X e (tE C E f)) : PS X (.Return (some e) pos) (tS C E (retS f)) :=
  impS (ps_ret he) fun _ _ _ c => Cont.mono (ContS.bind c) fun v H1 ⟨x, c1⟩ => by
    obtain ⟨G, lo, h, s, rh, rs, rv, f⟩ := c1
    obtain ⟨v', e, r⟩ := rvs1 rv
    cases e
    exact f G H1 v Ext.refl rh r
theorem js_retN {pos : Pos} : PS X (.Return none pos) (tS C E fun _ _ h => .ok (.rt .non) h) := impS ps_retN fun _ _ _ c => by
  obtain ⟨G, lo, h, s, rh, rs, rv, f⟩ := c
  exact f G _ _ Ext.refl rh .non
def ifS (f : MF Bool) (g g' : MF Fl) : MF Fl := f.bind fun b => match b with
  | true => g
  | false => g'
theorem js_if {c : Expr} {a b : List Stmt} {f : MF Bool} {g g' : MF Fl} {pos : Pos} (hc : PT X c (tT C E f)) (ha : PSs X a (tS C E g)) (hb : PSs X b (tS C E g')) : PS X (.If c a b pos) (tS C E (ifS f g g')) :=
  impS (ps_if hc ha hb) fun _ _ _ c => Cont.mono (ContS.bindT c) fun v H1 c1 => by
    cases v with
    | true => exact c1
    | false => exact c1
def setSl (i : Nat) (x : A) (s : Sl) : Sl := s.set i (some x)
theorem RS.set {s : Sl} {x : A} {v : V} (r : RS C G n H s σ) (rv : RV C G n H x v) (i : Nat) : RS C G n H (setSl i x s) (σ.set i (some v)) := by
  unfold setSl
  refine ⟨by rw [List.length_set, List.length_set, r.1], fun j y hy => ?_⟩
  by_cases hj : i = j
  · subst hj
    by_cases hi : i < s.length
    · rw [List.getElem?_set_self hi] at hy
      cases hy
      exact ⟨v, List.getElem?_set_self (by rw [← r.1]; exact hi), rv⟩
    · rw [List.getElem?_eq_none (by rw [List.length_set]; omega)] at hy
      cases hy
  · rw [List.getElem?_set_ne hj] at hy
    rw [List.getElem?_set_ne hj]
    exact r.2 j y hy
def asgS (i : Nat) (f : MF A) : MF Fl := f.bind fun x => fun _ s h => .ok (.nx (setSl i x s)) h
theorem asg_use {i : Nat} {f : MF A} (c : tS C E (asgS i f) D σ H) : tE C E f σ H fun v H1 => D.nx (σ.set i (some v)) H1 :=
  Cont.mono (ContS.bind c) fun v H1 ⟨x, c1⟩ => by
    obtain ⟨G, lo, h, s, rh, rs, rv, f⟩ := c1
    obtain ⟨v', e, r⟩ := rvs1 rv
    cases e
    exact f G H1 _ Ext.refl rh (rs.set r i)
theorem js_set {i : Nat} {x : Str} {e : Expr} {f : MF A} {pos pos' : Pos} (hN : X.N.Nodup) (hi : X.N[i]? = some x) (hx : L2.Loc X.env.scope x) (he : PE X e (tE C E f)) (hs : swapsWith e (some (.Name x pos')) pos.line X.env = pure false := by rfl)
    (hf : X.fn x = true ∨ X.env.scope.names.lookup x = some .local := by first | exact .inl rfl | exact .inr rfl | assumption) : PS X (.Assign [.Name x pos'] e pos) (tS C E (asgS i f)) :=
  impS (ps_set hN hi hx he hs hf) fun _ _ _ c => asg_use c
/-- a, b = x, y -/
def parS (i j : Nat) (g : MF (List A)) : MF Fl := MF.bind g fun zs => fun _ s h => match zs with
  | [x, y] => .ok (.nx (setSl j y (setSl i x s))) h
  | _ => .bad
theorem js_par {i j : Nat} {x y : Str} {a b : Expr} {g : MF (List A)} {px py pt : Pos} {kt k2 pt2} {pos : Pos} (hc : X.calm = true) (hN : X.N.Nodup) (hi : X.N[i]? = some x) (hj : X.N[j]? = some y) (hij : i ≠ j)
    (hx : X.env.scope.names.lookup x = some .local) (hy : X.env.scope.names.lookup y = some .local) (ha : PA X [a, b] (tA C E g))
    (hw : swappedStores [.Tuple [.Name x px, .Name y py] kt pt] (.Tuple [a, b] k2 pt2) X.env = pure (some [x, y]))
    (hs : swapsWithSole [.Tuple [.Name x px, .Name y py] kt pt] (.Tuple [a, b] k2 pt2) pos.line X.env = pure false := by rfl) :
    PS X (.Assign [.Tuple [.Name x px, .Name y py] kt pt] (.Tuple [a, b] k2 pt2) pos) (tS C E (parS i j g)) :=
  impS (ps_par hc hN hi hj hij hx hy ha hw hs) fun _ _ _ c => Cont.mono (ContS.bindA c) fun ws H1 ⟨ys, c1⟩ => by
    obtain ⟨G, lo, h, s, rh, rs, rv, f⟩ := c1
    rw [List.append_nil, List.append_nil] at rv
    dsimp only at f
    split at f
    · obtain ⟨v, w, rfl, r1, r2⟩ := rvs2 rv
      exact ⟨v, w, rfl, f G H1 _ Ext.refl rh ((rs.set r1 i).set r2 j)⟩
    · exact f.elim
/-- name op= e -/
def augS (i : Nat) (o : A → A → Op A) (f : MF A) : MF Fl := MF.bind (vA i) fun x => f.bind fun y => fun lo s h => match o x y lo h with
  | .ok z h' => .ok (.nx (setSl i z s)) h'
  | .ex e h' => .ex e h'
  | .bad => .bad
theorem js_aug {i : Nat} {x : Str} {e : Expr} {o : A → A → Op A} {r : R2} {f : MF A} {op : Operator} {pos pos' : Pos} (hN : X.N.Nodup) (hi : X.N[i]? = some x) (hx : L2.Loc X.env.scope x) (he : PE X e (tE C E f)) (ho : OpR X (inplaceOp op) r) (hr : Op2 C E o r)
    (hf : X.fn x = true ∨ X.env.scope.names.lookup x = some .local := by first | exact .inl rfl | exact .inr rfl | assumption) : PS X (.AugAssign (.Name x pos') op e pos) (tS C E (augS i o f)) :=
  impS (ps_aug (te := tE C E f) (ti := r) hN hi hx he (fun pins s σ H x y v u Q I r1 r2 h => ho pins s σ H x y v u Q I r1 r2 h) hf) fun D σ H c => by
    obtain ⟨G, lo, h, s, rh, rs, rv, f0⟩ := c
    unfold augS MF.bind vA at f0
    dsimp only at f0
    cases hx : s[i]? with
    | none => rw [hx] at f0; exact f0.elim
    | some o' =>
      rw [hx] at f0
      cases o' with
      | none => exact f0.elim
      | some x =>
        obtain ⟨v, h1, h2⟩ := rs.2 i x hx
        refine ⟨v, h1, ?_⟩
        have c1 : ContS C E (f.bind fun y => fun lo s h => match o x y lo h with
          | .ok z h' => .ok (.nx (setSl i z s)) h'
          | .ex e h' => .ex e h'
          | .bad => .bad) [x] [v] σ H D := ⟨G, lo, h, s, rh, rs, .cons h2 .nil, f0⟩
        refine Cont.mono (ContS.bind c1) fun w H1 ⟨y, c2⟩ => ?_
        obtain ⟨G2, lo2, hh, s2, rh2, rs2, rv2, f2⟩ := c2
        obtain ⟨a, b, e, r1, r2⟩ := rvs2 rv2
        cases e
        refine hr G2 lo2 hh H1 x y v w _ rh2 r2 r1 ?_
        dsimp only at f2
        cases hz : o x y lo2 hh with
        | bad => rw [hz] at f2; exact f2
        | ex e g => rw [hz] at f2; exact f2
        | ok z g =>
          rw [hz] at f2
          exact fun G' H' u e' rh' rz => f2 G' H' _ e' rh' ((rs2.ext e').set rz i)
end

/-! ### targets -/
/-- what a target makes of a value: the names' new values -/
abbrev MG := A → Sl → Hs → R Sl
def tG (C : Kn) (g : MG) : TG := fun v σ H Q => ∃ (G : Loc) (lo : Nat) (h : Hs) (s : Sl) (x : A), Rh C G h H ∧ RS C G h.length H s σ ∧ RV C G h.length H x v ∧ match g x s h with
  | .ok s' h' => h' = h ∧ ∀ G' H' σ', Ext lo h.length G H h.length G' H' → Rh C G' h H' → RS C G' h.length H' s' σ' → Q σ' H'
  | _ => False
def tGs (C : Kn) (g : List A → Sl → Hs → R Sl) : TGs := fun vs σ H Q => ∃ (G : Loc) (lo : Nat) (h : Hs) (s : Sl) (xs : List A), Rh C G h H ∧ RS C G h.length H s σ ∧ RVs C G h.length H xs vs ∧ match g xs s h with
  | .ok s' h' => h' = h ∧ ∀ G' H' σ', Ext lo h.length G H h.length G' H' → Rh C G' h H' → RS C G' h.length H' s' σ' → Q σ' H'
  | _ => False
theorem impG {X : Cx} {e : Expr} {t t' : TG} (h : PG X e t) (k : ∀ v σ H Q, t' v σ H Q → t v σ H Q) : PG X e t' := ⟨fun pins s σ H v u Q I r q => h.run pins s σ H v u Q I r (k v σ H Q q)⟩
theorem impGs {X : Cx} {e : List Expr} {t t' : TGs} (h : PGs X e t) (k : ∀ v σ H Q, t' v σ H Q → t v σ H Q) : PGs X e t' := ⟨fun pins s σ H v u Q I r q => h.run pins s σ H v u Q I r (k v σ H Q q)⟩
section
variable {X : Cx} {C : Kn} {E : XK} {k : Nat}
def nameG (i : Nat) : MG := fun x s h => .ok (setSl i x s) h
theorem jg_name {i : Nat} {x : Str} {pos : Pos} (hN : X.N.Nodup) (hi : X.N[i]? = some x) (hx : L2.Loc X.env.scope x) (hf : X.fn x = true ∨ X.env.scope.names.lookup x = some .local := by first | exact .inl rfl | exact .inr rfl | assumption) : PG X (.Name x pos) (tG C (nameG i)) :=
  impG (pg_name hN hi hx hf) fun v σ H Q c => by
    obtain ⟨G, lo, h, s, x, rh, rs, rv, _, q⟩ := c
    exact q G H _ Ext.refl rh (rs.set rv i)
def nilG : List A → Sl → Hs → R Sl := fun xs s h => match xs with
  | [] => .ok s h
  | _ => .bad
def consG (g : MG) (g' : List A → Sl → Hs → R Sl) : List A → Sl → Hs → R Sl := fun xs s h => match xs with
  | [] => .bad
  | x :: r => match g x s h with
    | .ok s' h' => g' r s' h'
    | .ex e h' => .ex e h'
    | .bad => .bad
theorem jgs_nil : PGs X [] (tGs C nilG) := impGs pgs_nil fun vs σ H Q c => by
  obtain ⟨G, lo, h, s, xs, rh, rs, rv, q⟩ := c
  cases rv with
  | nil => exact ⟨rfl, q.2 G H σ Ext.refl rh rs⟩
  | cons _ _ => exact q.elim
theorem jgs_cons {e : Expr} {es : List Expr} {g : MG} {g' : List A → Sl → Hs → R Sl} (hp : ∀ x s h s' h', g x s h = .ok s' h' → h' = h) (h1 : PG X e (tG C g)) (h2 : PGs X es (tGs C g'))
    (hs : (assignEach (e :: es) X.env).map (·.2) = assign e X.env :: (assignEach es X.env).map (·.2) := by rfl) : PGs X (e :: es) (tGs C (consG g g')) :=
  impGs (pgs_cons h1 h2 hs) fun vs σ H Q c => by
    obtain ⟨G, lo, h, s, xs, rh, rs, rv, q⟩ := c
    cases rv with
    | nil => exact q.elim
    | cons r t =>
      rename_i x v xs vs
      refine ⟨v, vs, rfl, G, lo, h, s, x, rh, rs, r, ?_⟩
      have q' : match (match g x s h with | .ok s' h' => g' xs s' h' | .ex e h' => .ex e h' | .bad => .bad) with
        | .ok s' h' => h' = h ∧ ∀ G' H' σ', Ext lo h.length G H h.length G' H' → Rh C G' h H' → RS C G' h.length H' s' σ' → Q σ' H'
        | _ => False := q
      cases hg : g x s h with
      | bad => rw [hg] at q'; exact q'.elim
      | ex e h' => rw [hg] at q'; exact q'.elim
      | ok s1 h1 =>
        have eh := hp _ _ _ _ _ hg
        subst eh
        rw [hg] at q'
        refine ⟨rfl, fun G' H' σ' e' rh' rs' => ⟨G', lo, _, s1, xs, rh', rs', t.ext e', ?_⟩⟩
        dsimp only at q'
        split
        · rename_i s2 h2 hg2
          rw [hg2] at q'
          exact ⟨q'.1, fun G2 H2 σ2 e2 rh2 rs2 => q'.2 G2 H2 σ2 (e'.trans e2) rh2 rs2⟩
        · rename_i hno
          split at q'
          · rename_i s2 h2 hg2
            exact hno _ _ hg2
          · exact q'
/-- a, b = a tuple of so many items -/
def tupG (m : Nat) (g : List A → Sl → Hs → R Sl) : MG := fun x s h => match x with
  | .tup xs => if Nat.beq xs.length m then g xs s h else .bad
  | .ftup xs => if Nat.beq xs.length m then g xs s h else .bad
  | _ => .bad
theorem jg_tup {es : List Expr} {j : Nat} {g : List A → Sl → Hs → R Sl} {m : Nat} {pos : Pos} (hK : X.K = C.K) (hc : X.calm = true) (h : PGs X es (tGs C g)) (hn : (assignEach es X.env).length = m := by rfl) (hst : (assignEach es X.env).findIdx? (·.1) = none := by rfl) : PG X (.Tuple es j pos) (tG C (tupG m g)) :=
  impG (pg_tup hc h hn hst) fun v σ H Q c => by
    obtain ⟨G, lo, h, s, x, rh, rs, rv, q⟩ := c
    cases rv with
    | tup qt r =>
      have q' : match (if Nat.beq _ m then g _ s h else .bad) with
        | .ok s' h' => h' = h ∧ ∀ G' H' σ', Ext lo h.length G H h.length G' H' → Rh C G' h H' → RS C G' h.length H' s' σ' → Q σ' H'
        | _ => False := q
      split at q'
      · rename_i hm
        split at hm
        · rename_i hl
          exact ⟨_, _, rfl, by rw [hK]; exact SqT.of qt, by rw [← r.length]; exact Nat.eq_of_beq_eq_true hl, G, lo, h, s, _, rh, rs, r, by rw [hm]; exact q'⟩
        · cases hm
      · exact q'.elim
    | ftup qt _ r =>
      have q' : match (if Nat.beq _ m then g _ s h else .bad) with
        | .ok s' h' => h' = h ∧ ∀ G' H' σ', Ext lo h.length G H h.length G' H' → Rh C G' h H' → RS C G' h.length H' s' σ' → Q σ' H'
        | _ => False := q
      split at q'
      · rename_i hm
        split at hm
        · rename_i hl
          exact ⟨_, _, rfl, by rw [hK]; exact .inl (.inr ⟨_, qt⟩), by rw [← r.length]; exact Nat.eq_of_beq_eq_true hl, G, lo, h, s, _, rh, rs, r, by rw [hm]; exact q'⟩
        · cases hm
      · exact q'.elim
    | _ => exact q.elim
/-- target = e -/
def tgtS (g : MG) (f : MF A) : MF Fl := f.bind fun x => fun _ s h => match g x s h with
  | .ok s' h' => .ok (.nx s') h'
  | .ex e h' => .ex e h'
  | .bad => .bad
theorem js_tgt {tg e : Expr} {f : MF A} {g : MG} {pos : Pos} (hp : ∀ x s h s' h', g x s h = .ok s' h' → h' = h) (hx : ∀ x s h e h', g x s h ≠ .ex e h') (he : PE X e (tE C E f)) (hg : PG X tg (tG C g)) (hs : swapsWithSole [tg] e pos.line X.env = pure false := by rfl) (hw : swappedStores [tg] e X.env = pure none := by rfl)
    (h1 : (assignEach [tg] X.env).map (·.2) = [assign tg X.env] := by rfl) : PS X (.Assign [tg] e pos) (tS C E (tgtS g f)) :=
  impS (ps_asg he hg hs hw h1) fun D σ H c => Cont.mono (ContS.bind c) fun v H1 ⟨x, c1⟩ => by
    obtain ⟨G, lo, h, s, rh, rs, rv, f⟩ := c1
    obtain ⟨v', e, r⟩ := rvs1 rv
    cases e
    refine ⟨G, lo, h, s, x, rh, rs, r, ?_⟩
    dsimp only at f
    cases hgx : g x s h with
    | bad => rw [hgx] at f; exact f.elim
    | ex e h' => exact absurd hgx (hx _ _ _ _ _)
    | ok s1 h1 =>
      have eh := hp _ _ _ _ _ hgx
      subst eh
      rw [hgx] at f
      exact ⟨rfl, fun G' H' σ' e' rh' rs' => f G' H' σ' e' rh' rs'⟩
end
end MA

set_option linter.all false
namespace MA
open PySem L2 SlX LamX
open PySem.Spec PyProof.Rows

/-! ### targets of loops: names and tuples of targets -/
inductive Tg where
  | nm (i : Nat)
  | tp (ts : List Tg)
mutual
def gOf (K : PySem.W.Frag) : Tg → TG
  | .nm i => gName i
  | .tp ts => gTup K ts.length (gsOf K ts)
def gsOf (K : PySem.W.Frag) : List Tg → TGs
  | [] => gNil
  | t :: ts => gCons (gOf K t) (gsOf K ts)
end
mutual
def bT : Tg → A → Sl → Option Sl
  | .nm i, x, s => some (setSl i x s)
  | .tp ts, x, s => match x with
    | .tup xs => bTs ts xs s
    | .ftup xs => bTs ts xs s
    | _ => none
def bTs : List Tg → List A → Sl → Option Sl
  | [], xs, s => match xs with
    | [] => some s
    | _ => none
  | t :: ts, xs, s => match xs with
    | [] => none
    | x :: xs => match bT t x s with
      | some s' => bTs ts xs s'
      | none => none
end
mutual
def tgs : Tg → List Nat
  | .nm i => [i]
  | .tp ts => tgss ts
def tgss : List Tg → List Nat
  | [] => []
  | t :: ts => tgs t ++ tgss ts
end
section
variable {C : Kn} {G : Loc} {n : Nat} {H : Hp}
theorem wipe_set {σ : L2.St} {i : Nat} {o : Option V} : ∀ {vs : List Nat}, i ∈ vs → wipe (σ.set i o) vs = wipe σ vs
  | [], h => by cases h
  | v :: vs, h => by
    unfold wipe
    by_cases hv : i ∈ vs
    · rw [wipe_set hv]
    · have e : i = v := by
        rcases List.mem_cons.mp h with h | h
        · exact h
        · exact absurd h hv
      subst e
      have key : ∀ vs : List Nat, i ∉ vs → wipe (σ.set i o) vs = (wipe σ vs).set i o := by
        intro vs
        induction vs with
        | nil => intro _; rfl
        | cons w ws ih =>
          intro hw
          unfold wipe
          rw [ih (fun z => hw (List.mem_cons_of_mem _ z)), List.set_comm _ _ (fun e => hw (by first | (rw [e]; exact List.mem_cons_self) | (rw [← e]; exact List.mem_cons_self)))]
      rw [key vs hv, List.set_set]
theorem bTs_len : ∀ {ts : List Tg} {xs : List A} {s s' : Sl}, bTs ts xs s = some s' → xs.length = ts.length
  | [], [], _, _, _ => rfl
  | [], _ :: _, _, _, e => by unfold bTs at e; cases e
  | _ :: _, [], _, _, e => by unfold bTs at e; cases e
  | t :: ts, x :: xs, s, s', e => by
    unfold bTs at e
    simp only at e
    split at e
    · rw [List.length_cons, List.length_cons, bTs_len e]
    · cases e
mutual
theorem gOf_use : ∀ (t : Tg) {x : A} {s s' : Sl} {v : V} {σ : L2.St} {Q : L2.St → Hp → Prop}, bT t x s = some s' → RV C G n H x v → RS C G n H s σ →
    (∀ σ', RS C G n H s' σ' → (∀ vs : List Nat, (∀ i ∈ tgs t, i ∈ vs) → wipe σ' vs = wipe σ vs) → Q σ' H) → gOf C.K t v σ H Q
  | .nm i, x, s, s', v, σ, Q, e, rv, rs, k => by
    unfold bT at e
    cases e
    unfold gOf gName
    exact k _ (rs.set rv i) fun vs hv => wipe_set (hv i (by unfold tgs; exact List.mem_singleton.mpr rfl))
  | .tp ts, x, s, s', v, σ, Q, e, rv, rs, k => by
    unfold bT at e
    unfold gOf gTup
    have k' : ∀ σ', RS C G n H s' σ' → (∀ vs : List Nat, (∀ i ∈ tgss ts, i ∈ vs) → wipe σ' vs = wipe σ vs) → Q σ' H := fun σ' a b => k σ' a (by unfold tgs; exact b)
    cases rv with
    | tup q r => exact ⟨_, _, rfl, SqT.of q, by rw [← r.length]; exact bTs_len e, gsOf_use ts e r rs k'⟩
    | ftup q _ r => exact ⟨_, _, rfl, .inl (.inr ⟨_, q⟩), by rw [← r.length]; exact bTs_len e, gsOf_use ts e r rs k'⟩
    | _ => cases e
theorem gsOf_use : ∀ (ts : List Tg) {xs : List A} {s s' : Sl} {vs : List V} {σ : L2.St} {Q : L2.St → Hp → Prop}, bTs ts xs s = some s' → RVs C G n H xs vs → RS C G n H s σ →
    (∀ σ', RS C G n H s' σ' → (∀ ws : List Nat, (∀ i ∈ tgss ts, i ∈ ws) → wipe σ' ws = wipe σ ws) → Q σ' H) → gsOf C.K ts vs σ H Q
  | [], xs, s, s', vs, σ, Q, e, rv, rs, k => by
    unfold bTs at e
    cases rv with
    | nil =>
      cases e
      unfold gsOf
      exact ⟨rfl, k σ rs fun _ _ => rfl⟩
    | cons _ _ => cases e
  | t :: ts, xs, s, s', vs, σ, Q, e, rv, rs, k => by
    unfold bTs at e
    cases rv with
    | nil => cases e
    | cons r t' =>
      simp only at e
      split at e
      · rename_i s1 h1
        unfold gsOf
        refine ⟨_, _, rfl, gOf_use t h1 r rs fun σ1 rs1 w1 => ?_⟩
        refine gsOf_use ts e t' rs1 fun σ2 rs2 w2 => ?_
        refine k σ2 rs2 fun ws hw => ?_
        rw [w2 ws fun i hi => hw i (by unfold tgss; exact List.mem_append_right _ hi), w1 ws fun i hi => hw i (by unfold tgss; exact List.mem_append_left _ hi)]
      · cases e
end
end

/-! ### while -/
section
variable {X : Cx} {C : Kn} {E : XK} {k : Nat}
/-- what a turn's end leads to -/
def turnF (f : MF Fl) (again : MF Fl) : MF Fl := fun lo s h => match f lo s h with
  | .ok (.nx s2) h2 => again lo s2 h2
  | .ok (.ct s2) h2 => again lo s2 h2
  | .ok (.bk s2) h2 => .ok (.nx s2) h2
  | .ok (.rt x) h2 => .ok (.rt x) h2
  | .ex e h2 => .ex e h2
  | .bad => .bad
theorem turn_use {f again : MF Fl} {xs : List A} {vs : List V} {σ : L2.St} {H : Hp} {D : Ends} {N : L2.St → Hp → Prop} (c : ContS C E (turnF f again) xs vs σ H D)
    (hN : ∀ (G G' : Loc) (n n' lo : Nat) (H' : Hp) (σ' : L2.St), Ext lo n G H n' G' H' → RVs C G n H xs vs → ContS C E again xs vs σ' H' D → N σ' H') :
    tS C E f { D with nx := N, ct := N, bk := D.nx } σ H := by
  obtain ⟨G, lo, h, s, rh, rs, rv, q⟩ := c
  refine ⟨G, lo, h, s, rh, rs, .nil, ?_⟩
  unfold turnF at q
  cases hr : f lo s h with
  | ok x h1 =>
    rw [hr] at q
    cases x with
    | nx s' => exact fun G' H' σ' e1 r1 rs' => hN G G' _ _ lo H' σ' e1 rv ⟨G', lo, h1, s', r1, rs', rv.ext e1, finS.ext e1 q⟩
    | ct s' => exact fun G' H' σ' e1 r1 rs' => hN G G' _ _ lo H' σ' e1 rv ⟨G', lo, h1, s', r1, rs', rv.ext e1, finS.ext e1 q⟩
    | bk s' => exact q
    | rt x => exact q
  | ex e h1 => rw [hr] at q; exact q
  | bad => rw [hr] at q; exact q
def whileF (c : MF Bool) (b : MF Fl) : Nat → MF Fl
  | 0 => fun _ _ _ => .bad
  | m + 1 => c.bind fun t => match t with
    | true => turnF b (whileF c b m)
    | false => nextS
theorem js_while {c : Expr} {body : List Stmt} {f : MF Bool} {g : MF Fl} {pos : Pos} (m : Nat) (hp : PassesOwn (model X.prog X.w) X.A X.env X.xe) (hc : PT X c (tT C E f)) (hb : PSs X body (tS C E g)) : PS X (.While c body [] pos) (tS C E (whileF f g m)) :=
  impS (ps_while hp hc hb) fun D σ H c => by
    refine ⟨fun m σ H => tS C E (whileF f g m) D σ H, ⟨m, c⟩, fun m σ H w => ?_⟩
    cases m with
    | zero =>
      obtain ⟨G, lo, h, s, rh, rs, rv, q⟩ := w
      exact q.elim
    | succ m =>
      refine Cont.mono (ContS.bindT w) fun b H1 c1 => ?_
      cases b with
      | true =>
        rw [if_pos rfl]
        exact ⟨fun σ' H' => tS C E (whileF f g m) D σ' H', fun σ' H' z => ⟨m, Nat.lt_succ_self _, z⟩, turn_use c1 fun _ _ _ _ _ H' σ' _ _ z => z.drop⟩
      | false =>
        rw [if_neg Bool.false_ne_true]
        exact nextS_use c1

/-! ### for -/
/-- over a list or a tuple, as it stands at each turn -/
def forA (t : Tg) (b : MF Fl) (src : A) : Nat → Nat → MF Fl
  | 0, _ => fun _ _ _ => .bad
  | m + 1, j => fun lo s h => match h.seq src with
    | none => .bad
    | some xs => match xs[j]? with
      | none => .ok (.nx s) h
      | some x => match bT t x s with
        | none => .bad
        | some s' => turnF b (forA t b src m (j + 1)) lo s' h
def forF (t : Tg) (it : MF A) (b : MF Fl) : MF Fl := it.bind fun src => fun lo s h => match h.seq src with
  | none => .bad
  | some xs => forA t b src (xs.length + 1) 0 lo s h
theorem impS2 {e : Stmt} {t t1 t2 : TS} (h1 : PS X e t1) (h2 : PS X e t2) (k : ∀ D σ H, t D σ H → t1 D σ H ∨ t2 D σ H) : PS X e t := ⟨fun pins s σ H D I q => by
  rcases k D σ H q with q | q
  · exact h1.run pins s σ H D I q
  · exact h2.run pins s σ H D I q⟩
/-- whether it is a tuple -/
def isTup : A → Bool
  | .tup _ => true
  | .ftup _ => true
  | _ => false
theorem seq_list {G : Loc} {h : Hs} {H : Hp} {x : A} {v : V} {xs : List A} (rh : Rh C G h H) (r : RV C G h.length H x v) (e : h.seq x = some xs) (nt : isTup x = false) : ∃ a ys, v = .ref a ∧ SqL C.K H a ys ∧ RVs C G h.length H xs ys := by
  cases r with
  | tup _ _ => cases nt
  | ftup _ _ _ => cases nt
  | ref hi =>
    unfold Hs.seq at e
    simp only at e
    split at e
    · rename_i zs hz
      cases e
      obtain ⟨ys, a, b⟩ := rh.sqL (.inl hz)
      exact ⟨_, ys, rfl, a, b⟩
    · rename_i zs hz
      cases e
      obtain ⟨ys, a, b⟩ := rh.sqL (.inr hz)
      exact ⟨_, ys, rfl, a, b⟩
    · cases e
  | @lit ns a h =>
    cases e
    exact ⟨a, _, rfl, h.seq, rvs_ints0 ns⟩
  | _ => cases e
theorem seq_tup {G : Loc} {h : Hs} {H : Hp} {x : A} {v : V} {xs : List A} (r : RV C G h.length H x v) (e : h.seq x = some xs) (nt : isTup x = true) : ∃ a ys, v = .ref a ∧ SqT C.K H a ys ∧ RVs C G h.length H xs ys := by
  cases r with
  | tup q r => cases e; exact ⟨_, _, rfl, SqT.of q, r⟩
  | ftup q _ r => cases e; exact ⟨_, _, rfl, .inl (.inr ⟨_, q⟩), r⟩
  | _ => cases nt
/-- the walk of a loop, by a way of telling what stands at a -/
theorem for_use {t : Tg} {f : MF Fl} {src : A} {a : Addr} (J : It) (S : Hp → List V → Prop)
    (hgo : ∀ i H ys x, S H ys → ys[i]? = some x → J.go i H) (hst : ∀ i H ys, S H ys → ys.length ≤ i → J.stop i H) (hy : ∀ i H ys x H', S H ys → J.yld i H x H' → H' = H ∧ ys[i]? = some x)
    (hS : ∀ (G : Loc) (h : Hs) (H : Hp) (xs : List A), Rh C G h H → RV C G h.length H src (.ref a) → h.seq src = some xs → ∃ ys, S H ys ∧ RVs C G h.length H xs ys)
    {m : Nat} {σ : L2.St} {H : Hp} {D : Ends} (c : ContS C E (forA t f src m 0) [src] [.ref a] σ H D) :
    ∃ W : Nat → Nat → L2.St → Hp → Prop, (∃ m, W 0 m σ H) ∧ ∀ i m σ H, W i m σ H →
      (J.stop i H ∧ D.nx σ H) ∨ (J.go i H ∧ ∃ N : L2.St → Hp → Prop, (∀ σ' H', N σ' H' → ∃ m', m' < m ∧ W (i + 1) m' σ' H') ∧ ∀ x H', J.yld i H x H' → gOf C.K t x σ H' fun σ2 H2 => tS C E f { D with nx := N, ct := N, bk := D.nx } σ2 H2) := by
  refine ⟨fun i m σ H => ContS C E (forA t f src m i) [src] [.ref a] σ H D, ⟨m, c⟩, fun i m σ H w => ?_⟩
  cases m with
  | zero =>
    obtain ⟨G, lo, h, s, rh, rs, rv, q⟩ := w
    exact q.elim
  | succ m =>
    obtain ⟨G, lo, h, s, rh, rs, rv, q⟩ := w
    obtain ⟨v', e, r⟩ := rvs1 rv
    cases e
    unfold forA at q
    split at q
    · exact q.elim
    · rename_i xs hxs
      obtain ⟨ys, hS1, rys⟩ := hS G h H xs rh r hxs
      split at q
      · rename_i hx
        left
        refine ⟨hst i H ys hS1 (by rw [← rys.length]; exact List.getElem?_eq_none_iff.mp hx), q G H σ Ext.refl rh rs⟩
      · rename_i x hx
        obtain ⟨u, hu, ru⟩ := rvs_at rys hx
        split at q
        · exact q.elim
        · rename_i s' hs'
          right
          refine ⟨hgo i H ys u hS1 hu, fun σ' H' => ContS C E (forA t f src m (i + 1)) [src] [.ref a] σ' H' D, fun σ' H' z => ⟨m, Nat.lt_succ_self _, z⟩, fun x' H' y => ?_⟩
          obtain ⟨rfl, hx'⟩ := hy i H ys x' H' hS1 y
          rw [hu] at hx'
          cases hx'
          refine gOf_use t hs' ru rs fun σ2 rs2 _ => ?_
          exact turn_use (xs := [src]) (vs := [.ref a]) ⟨G, lo, h, s', rh, rs2, .cons r .nil, q⟩ fun _ _ _ _ _ _ _ _ _ z => z
theorem for_split {t : Tg} {it : MF A} {f : MF Fl} {σ : L2.St} {H : Hp} {D : Ends} (c : tS C E (forF t it f) D σ H) :
    (tE C E it σ H fun v H1 => ∃ src a m, v = .ref a ∧ isTup src = false ∧ (∃ ys, SqL C.K H1 a ys) ∧ ContS C E (forA t f src m 0) [src] [.ref a] σ H1 D) ∨
    (tE C E it σ H fun v H1 => ∃ src a m, v = .ref a ∧ isTup src = true ∧ (∃ ys, SqT C.K H1 a ys) ∧ ContS C E (forA t f src m 0) [src] [.ref a] σ H1 D) := by
  obtain ⟨G, lo, h, s, rh, rs, rv, q⟩ := c
  unfold forF MF.bind at q
  cases hi : it lo s h with
  | bad => rw [hi] at q; exact q.elim
  | ex e h' =>
    rw [hi] at q
    left
    refine ⟨G, lo, h, s, rh, rs, .nil, ?_⟩
    rw [hi]
    exact q
  | ok src h1 =>
    rw [hi] at q
    simp only [R.bind] at q
    cases hs : h1.seq src with
    | none => rw [hs] at q; exact q.elim
    | some xs =>
      rw [hs] at q
      cases ht : isTup src with
      | false =>
        left
        refine ⟨G, lo, h, s, rh, rs, .nil, ?_⟩
        rw [hi]
        intro G' H' v e1 r1 rvv
        obtain ⟨a, ys, rfl, hq, b⟩ := seq_list r1 rvv hs ht
        exact ⟨src, a, xs.length + 1, rfl, ht, ⟨ys, hq⟩, G', lo, h1, s, r1, rs.ext e1, .cons rvv .nil, finS.ext e1 q⟩
      | true =>
        right
        refine ⟨G, lo, h, s, rh, rs, .nil, ?_⟩
        rw [hi]
        intro G' H' v e1 r1 rvv
        obtain ⟨a, ys, rfl, hq, b⟩ := seq_tup rvv hs ht
        exact ⟨src, a, xs.length + 1, rfl, ht, ⟨ys, hq⟩, G', lo, h1, s, r1, rs.ext e1, .cons rvv .nil, finS.ext e1 q⟩
theorem js_for {tg iter : Expr} {body : List Stmt} {t : Tg} {it : MF A} {f : MF Fl} {pos : Pos} (hK : X.K = C.K) (hp : PassesOwn (model X.prog X.w) X.A X.env X.xe) (hc : X.calm = true) (hi : PE X iter (tE C E it)) (hg : PG X tg (gOf X.K t)) (hb : PSs X body (tS C E f))
    (hs : ∀ x, foldedSetIterable iter X.env x = pure x := by intro _; rfl) : PS X (.For tg iter body [] pos) (tS C E (forF t it f)) :=
  impS2 (ps_for hp hc (pi_list hi) hg hb hs) (ps_for hp hc (pi_tup hi) hg hb hs) fun D σ H c => by
    rw [hK]
    rcases for_split c with c | c
    · left
      refine Cont.mono c fun v H1 ⟨src, a, m, e, nt, ⟨ys, hy⟩, c1⟩ => ⟨a, e, ⟨ys, hy⟩, ?_⟩
      refine for_use (Itl C.K a) (fun H ys => SqL C.K H a ys) (fun i H ys x h1 h2 => ⟨ys, x, h1, h2⟩) (fun i H ys h1 h2 => ⟨ys, h1, h2⟩) (fun i H ys x H' h1 h2 => ⟨h2.1, h2.2 ys h1⟩) (fun G h H xs rh r e => ?_) c1
      obtain ⟨a', ys, e', q, b⟩ := seq_list rh r e nt
      cases e'
      exact ⟨ys, q, b⟩
    · right
      refine Cont.mono c fun v H1 ⟨src, a, m, e, nt, ⟨ys, hy⟩, c1⟩ => ⟨a, e, ⟨ys, hy⟩, ?_⟩
      refine for_use (Itt C.K a) (fun H ys => SqT C.K H a ys) (fun i H ys x h1 h2 => ⟨ys, x, h1, h2⟩) (fun i H ys h1 h2 => ⟨ys, h1, h2⟩) (fun i H ys x H' h1 h2 => ⟨h2.1, h2.2 ys h1⟩) (fun G h H xs rh r e => ?_) c1
      obtain ⟨a', ys, e', q, b⟩ := seq_tup r e nt
      cases e'
      exact ⟨ys, q, b⟩
end
end MA

set_option linter.all false
namespace MA
open PySem L2 SlX LamX
open PySem.Spec PyProof.Rows

/-- no exception is let out -/
abbrev EF : XK := fun _ _ _ => False
def wipeA (s : Sl) : List Nat → Sl
  | [] => s
  | v :: vs => (wipeA s vs).set v none
section
variable {X : Cx} {C : Kn} {E : XK} {k : Nat} {G : Loc} {n : Nat} {H : Hp}
theorem RS.unset {s : Sl} {σ : L2.St} (r : RS C G n H s σ) (i : Nat) : RS C G n H (s.set i none) (σ.set i none) := by
  refine ⟨by rw [List.length_set, List.length_set, r.1], fun j y hy => ?_⟩
  by_cases hj : i = j
  · subst hj
    by_cases hi : i < s.length
    · rw [List.getElem?_set_self hi] at hy
      cases hy
    · rw [List.getElem?_eq_none (by rw [List.length_set]; omega)] at hy
      cases hy
  · rw [List.getElem?_set_ne hj] at hy
    rw [List.getElem?_set_ne hj]
    exact r.2 j y hy
theorem RS.wipe {s : Sl} {σ : L2.St} (r : RS C G n H s σ) : ∀ vs : List Nat, RS C G n H (wipeA s vs) (wipe σ vs)
  | [] => r
  | v :: vs => by
    unfold wipeA L2.wipe
    exact (RS.wipe r vs).unset v

/-- [elt for t in src if test], the list is the d-th thing -/
def lcA (t : Tg) (ft : MF Bool) (fe : MF A) (vs : List Nat) (src : A) (d : Nat) : Nat → Nat → MF A
  | 0, _ => fun _ _ _ => .bad
  | m + 1, j => fun lo s h => match h.seq src with
    | none => .bad
    | some xs => match xs[j]? with
      | none => .ok (.ref d) h
      | some x => match bT t x (wipeA s vs) with
        | none => .bad
        | some s2 => match ft lo s2 h with
          | .ok true h3 => match fe lo s2 h3 with
            | .ok y h4 => match h4[d]? with
              | some (.lst acc) => if okB acc.length then lcA t ft fe vs src d m (j + 1) lo s (h4.set d (.lst (acc ++ [y]))) else .bad
              | _ => .bad
            | _ => .bad
          | .ok false h3 => lcA t ft fe vs src d m (j + 1) lo s h3
          | _ => .bad
def lcF (t : Tg) (ft : MF Bool) (fe : MF A) (vs : List Nat) (it : MF A) : MF A := it.bind fun src => fun lo s h => match h.seq src with
  | none => .bad
  | some xs => if Nat.ble lo h.length then lcA t ft fe vs src h.length (xs.length + 1) 0 lo s (h ++ [.lst []]) else .bad
/-- the state between two turns -/
def LcW (C : Kn) (E : XK) (f : MF A) (src : A) (a : Addr) (d : Nat) (D : Addr) (σ : L2.St) (H : Hp) (Q : VK) : Prop :=
  ∃ (G : Loc) (lo : Nat) (h : Hs) (s : Sl), Rh C G h H ∧ RS C G h.length H s σ ∧ RV C G h.length H src (.ref a) ∧ d < h.length ∧ lo ≤ d ∧ G d = D ∧ fin (relV C) C E G lo h.length H (f lo s h) Q
theorem lc_use {t : Tg} {ft : MF Bool} {fe : MF A} {vs : List Nat} (hvs : ∀ i ∈ tgs t, i ∈ vs) {src : A} {a : Addr} (J : It) (S : Hp → List V → Prop)
    (hgo : ∀ i H ys x, S H ys → ys[i]? = some x → J.go i H) (hst : ∀ i H ys, S H ys → ys.length ≤ i → J.stop i H) (hy : ∀ i H ys x H', S H ys → J.yld i H x H' → H' = H ∧ ys[i]? = some x)
    (hS : ∀ (G : Loc) (h : Hs) (H : Hp) (xs : List A), Rh C G h H → RV C G h.length H src (.ref a) → h.seq src = some xs → ∃ ys, S H ys ∧ RVs C G h.length H xs ys)
    {m d : Nat} {D : Addr} {σ : L2.St} {H : Hp} {Q : VK} (c : LcW C E (lcA t ft fe vs src d m 0) src a d D σ H Q) :
    ∃ W : Nat → Nat → Hp → Prop, (∃ m, W 0 m H) ∧ ∀ i m H, W i m H →
      (J.stop i H ∧ Q (.ref D) H) ∨ (J.go i H ∧ ∃ Nx : Hp → Prop, (∀ H', Nx H' → ∃ m', m' < m ∧ W (i + 1) m' H') ∧ ∀ x H', J.yld i H x H' → gOf C.K t x (wipe σ vs) H' fun σ2 H2 => wipe σ2 vs = wipe σ vs ∧ tT C EF ft σ2 H2 fun b H3 =>
        if b = true then tE C EF fe σ2 H3 fun y H4 => ∃ acc, H4 D = some (.lst acc) ∧ acc.length < sizeLine ∧ Nx (upd H4 D (.lst (acc ++ [y]))) else Nx H3) := by
  refine ⟨fun i m H => LcW C E (lcA t ft fe vs src d m i) src a d D σ H Q, ⟨m, c⟩, fun i m H w => ?_⟩
  cases m with
  | zero =>
    obtain ⟨G, lo, h, s, rh, rs, r, hd, hlo, hGd, q⟩ := w
    exact q.elim
  | succ m =>
    obtain ⟨G, lo, h, s, rh, rs, r, hd, hlo, hGd, q⟩ := w
    unfold lcA at q
    split at q
    · exact q.elim
    · rename_i xs hxs
      obtain ⟨ys, hS1, rys⟩ := hS G h H xs rh r hxs
      split at q
      · rename_i hx
        left
        refine ⟨hst i H ys hS1 (by rw [← rys.length]; exact List.getElem?_eq_none_iff.mp hx), ?_⟩
        have := q G H (.ref (G d)) Ext.refl rh (.ref hd)
        rw [hGd] at this
        exact this
      · rename_i x hx
        obtain ⟨u, hu, ru⟩ := rvs_at rys hx
        split at q
        · exact q.elim
        · rename_i s2 hs2
          right
          refine ⟨hgo i H ys u hS1 hu, fun H' => LcW C E (lcA t ft fe vs src d m (i + 1)) src a d D σ H' Q, fun H' z => ⟨m, Nat.lt_succ_self _, z⟩, fun x' H' y => ?_⟩
          obtain ⟨rfl, hx'⟩ := hy i H ys x' H' hS1 y
          rw [hu] at hx'
          cases hx'
          refine gOf_use t hs2 ru (rs.wipe vs) fun σ2 rs2 w2 => ⟨?_, G, lo, h, s2, rh, rs2, .nil, ?_⟩
          · rw [w2 vs hvs]
            have key : ∀ (ws vs : List Nat), (∀ i ∈ ws, i ∈ vs) → wipe (wipe σ ws) vs = wipe σ vs := by
              intro ws
              induction ws with
              | nil => intro vs _; rfl
              | cons w ws ih =>
                intro vs hw
                show wipe ((wipe σ ws).set w none) vs = _
                rw [wipe_set (hw w List.mem_cons_self), ih vs fun i hi => hw i (List.mem_cons_of_mem _ hi)]
            exact key vs vs fun _ h => h
          · cases hf : ft lo s2 h with
            | bad => rw [hf] at q; exact q.elim
            | ex e h3 => rw [hf] at q; exact q.elim
            | ok b h3 =>
              rw [hf] at q
              intro G3 H3 b' e3 rh3 rb
              cases rb
              cases b with
              | false =>
                rw [if_neg Bool.false_ne_true]
                exact ⟨G3, lo, h3, s, rh3, rs.ext e3, r.ext e3, Nat.lt_of_lt_of_le hd e3.le, hlo, by rw [e3.at_ d hd]; exact hGd, fin.ext e3 q⟩
              | true =>
                rw [if_pos rfl]
                simp only at q
                refine ⟨G3, lo, h3, s2, rh3, rs2.ext e3, .nil, ?_⟩
                cases hfe : fe lo s2 h3 with
                | bad => rw [hfe] at q; exact q.elim
                | ex e h4 => rw [hfe] at q; exact q.elim
                | ok y h4 =>
                  rw [hfe] at q
                  intro G4 H4 v4 e4 rh4 rv4
                  simp only at q
                  have e34 := e3.trans e4
                  split at q
                  · rename_i acc hacc
                    split at q
                    · rename_i hz
                      obtain ⟨zs, hzs, rzs⟩ := rh4.lst hacc
                      have hGd4 : G4 d = D := by rw [e34.at_ d hd]; exact hGd
                      have hd4 : d < h4.length := Nat.lt_of_lt_of_le hd e34.le
                      refine ⟨zs, by rw [← hGd4]; exact hzs, by rw [← rzs.length]; exact okB_lt hz, ?_⟩
                      have e5 := Ext.put (lo := lo) (u' := .lst (zs ++ [v4])) rh4 hlo hd4 hzs free_lst
                      have rh5 := rh4.put hd4 hzs free_lst (o := .lst (acc ++ [y])) (u' := .lst (zs ++ [v4])) (.lst upd_same (RVs.append (rzs.ext e5) (.cons (RV.ext e5 rv4) .nil)))
                      rw [hGd4] at e5 rh5
                      have eAll := e34.trans e5
                      refine ⟨G4, lo, _, s, rh5, ?_, ?_, by rw [List.length_set]; exact hd4, hlo, hGd4, ?_⟩
                      · rw [List.length_set]; exact rs.ext eAll
                      · rw [List.length_set]; exact RV.ext eAll r
                      · rw [List.length_set]; exact fin.ext eAll q
                    · exact q.elim
                  · exact q.elim
theorem lc_split {t : Tg} {ft : MF Bool} {fe : MF A} {vs : List Nat} {it : MF A} {σ : L2.St} {H : Hp} {Q : VK} (c : tE C E (lcF t ft fe vs it) σ H Q) :
    (tE C E it σ H fun v H1 => ∃ src a m, v = .ref a ∧ isTup src = false ∧ (∃ ys, SqL C.K H1 a ys) ∧ ∀ D, H1 D = none → ∃ d, LcW C E (lcA t ft fe vs src d m 0) src a d D σ (upd H1 D (.lst [])) Q) ∨
    (tE C E it σ H fun v H1 => ∃ src a m, v = .ref a ∧ isTup src = true ∧ (∃ ys, SqT C.K H1 a ys) ∧ ∀ D, H1 D = none → ∃ d, LcW C E (lcA t ft fe vs src d m 0) src a d D σ (upd H1 D (.lst [])) Q) := by
  obtain ⟨G, lo, h, s, rh, rs, rv, q⟩ := c
  unfold lcF MF.bind at q
  cases hi : it lo s h with
  | bad => rw [hi] at q; exact q.elim
  | ex e h' =>
    rw [hi] at q
    left
    refine ⟨G, lo, h, s, rh, rs, .nil, ?_⟩
    rw [hi]
    exact q
  | ok src h1 =>
    rw [hi] at q
    simp only [R.bind] at q
    cases hs : h1.seq src with
    | none => rw [hs] at q; exact q.elim
    | some xs =>
      rw [hs] at q
      simp only at q
      split at q
      case isFalse => exact q.elim
      rename_i hlo'
      have hlo' := Nat.le_of_ble_eq_true hlo'
      have key : ∀ (G' : Loc) (H' : Hp) (a : Addr), Ext lo h.length G H h1.length G' H' → Rh C G' h1 H' → RV C G' h1.length H' src (.ref a) → lo ≤ h1.length →
          ∀ D, H' D = none → ∃ d, LcW C E (lcA t ft fe vs src d (xs.length + 1) 0) src a d D σ (upd H' D (.lst [])) Q := by
        intro G' H' a e1 r1 rvv hlo D hD
        have e2 := Ext.new (lo := lo) r1 hD (.lst [])
        have rh2 := r1.new hD (u := .lst []) (o := .lst []) (.lst upd_same .nil)
        have e12 := e1.trans e2
        refine ⟨h1.length, G'.at h1.length D, lo, h1 ++ [.lst []], s, rh2, ?_, ?_, ?_, hlo, Loc.at_new, ?_⟩
        · rw [len1]; exact rs.ext e12
        · rw [len1]; exact RV.ext e2 rvv
        · rw [len1]; exact Nat.lt_succ_self _
        · rw [len1]; exact fin.ext e12 q
      cases ht : isTup src with
      | false =>
        left
        refine ⟨G, lo, h, s, rh, rs, .nil, ?_⟩
        rw [hi]
        intro G' H' v e1 r1 rvv
        obtain ⟨a, ys, rfl, hq, b⟩ := seq_list r1 rvv hs ht
        exact ⟨src, a, xs.length + 1, rfl, ht, ⟨ys, hq⟩, key G' H' a e1 r1 rvv hlo'⟩
      | true =>
        right
        refine ⟨G, lo, h, s, rh, rs, .nil, ?_⟩
        rw [hi]
        intro G' H' v e1 r1 rvv
        obtain ⟨a, ys, rfl, hq, b⟩ := seq_tup rvv hs ht
        exact ⟨src, a, xs.length + 1, rfl, ht, ⟨ys, hq⟩, key G' H' a e1 r1 rvv hlo'⟩
theorem je_lc {elt tg iter : Expr} {ifs : List Expr} {scope : Scope} {own : List (Str × Nat)} {pos : Pos} {t : Tg} {it fe : MF A} {ft : MF Bool} (hK : X.K = C.K) (hvs : ∀ i ∈ tgs t, i ∈ own.map (·.2)) (hc : X.calm = true) (hN : X.N.Nodup) (hi : PE X iter (tE C E it)) (ok : BlkOk X.N X.env.scope scope own)
    (hg : ∀ (s : Shared) (H : Hp) (D : Addr) (cl : List (Str × Addr)) (fp : List Addr), PG (X.blk s H scope (compEnvC scope cl D X.env) fp) tg (gOf X.K t)) (ht : ∀ (s : Shared) (H : Hp) (D : Addr) (cl : List (Str × Addr)) (fp : List Addr), PTs (X.blk s H scope (compEnvC scope cl D X.env) fp) ifs (tT C EF ft))
    (he : ∀ (s : Shared) (H : Hp) (D : Addr) (cl : List (Str × Addr)) (fp : List Addr), PE (X.blk s H scope (compEnvC scope cl D X.env) fp) elt (tE C EF fe)) (hs : ∀ x, foldedSetIterable iter X.env x = pure x := by intro _; rfl) :
    PE X (.ListComp elt [⟨tg, iter, ifs, 0⟩] scope pos) (tE C E (lcF t ft fe (own.map (·.2)) it)) :=
  imp2 (pe_lc hc hN (pi_list hi) ok hg ht he hs) (pe_lc hc hN (pi_tup hi) ok hg ht he hs) fun σ H Q c => by
    rw [hK]
    rcases lc_split c with c | c
    · left
      refine Cont.mono c fun v H1 ⟨src, a, m, e, nt, ⟨ys, hy⟩, c1⟩ => ⟨a, e, ⟨ys, hy⟩, fun D hD => ?_⟩
      obtain ⟨d, c2⟩ := c1 D hD
      refine lc_use hvs (Itl C.K a) (fun H ys => SqL C.K H a ys) (fun i H ys x h1 h2 => ⟨ys, x, h1, h2⟩) (fun i H ys h1 h2 => ⟨ys, h1, h2⟩) (fun i H ys x H' h1 h2 => ⟨h2.1, h2.2 ys h1⟩) (fun G h H xs rh r e => ?_) c2
      obtain ⟨a', ys, e', q, b⟩ := seq_list rh r e nt
      cases e'
      exact ⟨ys, q, b⟩
    · right
      refine Cont.mono c fun v H1 ⟨src, a, m, e, nt, ⟨ys, hy⟩, c1⟩ => ⟨a, e, ⟨ys, hy⟩, fun D hD => ?_⟩
      obtain ⟨d, c2⟩ := c1 D hD
      refine lc_use hvs (Itt C.K a) (fun H ys => SqT C.K H a ys) (fun i H ys x h1 h2 => ⟨ys, x, h1, h2⟩) (fun i H ys h1 h2 => ⟨ys, h1, h2⟩) (fun i H ys x H' h1 h2 => ⟨h2.1, h2.2 ys h1⟩) (fun G h H xs rh r e => ?_) c2
      obtain ⟨a', ys, e', q, b⟩ := seq_tup r e nt
      cases e'
      exact ⟨ys, q, b⟩
def yesF : MF Bool := fun _ _ h => .ok true h
theorem jts_nil : PTs X [] (tT C E yesF) := ⟨fun pins s σ H Q I c => pts_nil.run pins s σ H Q I (by
  obtain ⟨G, lo, h, s, rh, rs, rv, f⟩ := c
  exact f G H true Ext.refl rh rfl)⟩
theorem jts_one {c : Expr} {f : MF Bool} (h : PT X c (tT C E f)) : PTs X [c] (tT C E f) := pts_one h
theorem jg_nm {i : Nat} {x : Str} {pos : Pos} (hN : X.N.Nodup) (hi : X.N[i]? = some x) (hx : L2.Loc X.env.scope x) (hf : X.fn x = true ∨ X.env.scope.names.lookup x = some .local := by first | exact .inl rfl | exact .inr rfl | assumption) : PG X (.Name x pos) (gOf X.K (.nm i)) := pg_name hN hi hx hf
theorem jg_tp {es : List Expr} {j : Nat} {ts : List Tg} {pos : Pos} (hc : X.calm = true) (h : PGs X es (gsOf X.K ts)) (hn : (assignEach es X.env).length = ts.length := by rfl) (hst : (assignEach es X.env).findIdx? (·.1) = none := by rfl) : PG X (.Tuple es j pos) (gOf X.K (.tp ts)) := pg_tup hc h hn hst
theorem jg_cons {e : Expr} {es : List Expr} {t : Tg} {ts : List Tg} (h1 : PG X e (gOf X.K t)) (h2 : PGs X es (gsOf X.K ts)) (hs : (assignEach (e :: es) X.env).map (·.2) = assign e X.env :: (assignEach es X.env).map (·.2) := by rfl) : PGs X (e :: es) (gsOf X.K (t :: ts)) := pgs_cons h1 h2 hs
theorem jg_nil : PGs X [] (gsOf X.K []) := pgs_nil

/-! ### over a known row of values: range -/
def forL (t : Tg) (b : MF Fl) : List A → MF Fl
  | [] => nextS
  | x :: xs => fun lo s h => match bT t x s with
    | none => .bad
    | some s' => turnF b (forL t b xs) lo s' h
theorem forL_use {t : Tg} {f : MF Fl} (J : It) {ws : List V} {xs : List A} (hws : ∀ (G : Loc) (n : Nat) (H : Hp), RVs C G n H xs ws)
    (hgo : ∀ i H, i < ws.length → J.go i H) (hst : ∀ i H, ws.length ≤ i → J.stop i H) (hy : ∀ i H x H', i < ws.length → J.yld i H x H' → H' = H ∧ ws[i]? = some x)
    {σ : L2.St} {H : Hp} {D : Ends} (c : tS C E (forL t f xs) D σ H) :
    ∃ W : Nat → Nat → L2.St → Hp → Prop, (∃ m, W 0 m σ H) ∧ ∀ i m σ H, W i m σ H →
      (J.stop i H ∧ D.nx σ H) ∨ (J.go i H ∧ ∃ N : L2.St → Hp → Prop, (∀ σ' H', N σ' H' → ∃ m', m' < m ∧ W (i + 1) m' σ' H') ∧ ∀ x H', J.yld i H x H' → gOf C.K t x σ H' fun σ2 H2 => tS C E f { D with nx := N, ct := N, bk := D.nx } σ2 H2) := by
  refine ⟨fun i m σ H => m = xs.length - i ∧ i ≤ xs.length ∧ tS C E (forL t f (xs.drop i)) D σ H, ⟨xs.length, by simp, Nat.zero_le _, c⟩, fun i m σ H ⟨hm, hi, w⟩ => ?_⟩
  have hlen : xs.length = ws.length := (hws (fun _ => 0) 0 H).length
  by_cases hlt : i < xs.length
  · right
    rw [List.drop_eq_getElem_cons hlt] at w
    obtain ⟨G, lo, h, s, rh, rs, rv, q⟩ := w
    unfold forL at q
    split at q
    · exact q.elim
    · rename_i s' hs'
      refine ⟨hgo i H (by rw [← hlen]; exact hlt), fun σ' H' => tS C E (forL t f (xs.drop (i + 1))) D σ' H', fun σ' H' z => ⟨xs.length - (i + 1), by omega, rfl, hlt, z⟩, fun x' H' y => ?_⟩
      obtain ⟨rfl, hx'⟩ := hy i H x' H' (by rw [← hlen]; exact hlt) y
      obtain ⟨u, hu, ru⟩ := rvs_at (hws G h.length H') (List.getElem?_eq_getElem hlt)
      rw [hx'] at hu
      cases hu
      refine gOf_use t hs' ru rs fun σ2 rs2 _ => ?_
      exact turn_use (xs := []) (vs := []) ⟨G, lo, h, s', rh, rs2, .nil, q⟩ fun _ _ _ _ _ _ _ _ _ z => z
  · left
    have e : xs.drop i = [] := List.drop_eq_nil_of_le (by omega)
    rw [e] at w
    exact ⟨hst i H (by rw [← hlen]; omega), nextS_use w⟩
def rangeA (a : Int) (m : Nat) : List A := (List.range m).map fun (i : Nat) => .int (a + i)
def rangeV (a : Int) (m : Nat) : List V := (List.range m).map fun (i : Nat) => V.int (a + i)
theorem range_rvs (a : Int) (m : Nat) (G : Loc) (n : Nat) (H : Hp) : RVs C G n H (rangeA a m) (rangeV a m) := by
  unfold rangeA rangeV
  induction List.range m with
  | nil => exact .nil
  | cons i r ih => exact .cons (.int _) ih
def rg1 (zs : List A) : Option (Int × Nat) := match zs with
  | [.int j] => if (decide (-(2 ^ 62) ≤ j) && decide (j < 2 ^ 62)) then some (0, j.toNat) else none
  | _ => none
def rg2 (zs : List A) : Option (Int × Nat) := match zs with
  | [.int i, .int j] => if (decide (-(2 ^ 62) ≤ i) && decide (i < 2 ^ 62) && decide (-(2 ^ 62) ≤ j) && decide (j < 2 ^ 62)) then some (i, (j - i).toNat) else none
  | _ => none
def forR (rg : List A → Option (Int × Nat)) (t : Tg) (ga : MF (List A)) (b : MF Fl) : MF Fl := MF.bind ga fun zs => fun lo s h => match rg zs with
  | some (a, m) => forL t b (rangeA a m) lo s h
  | none => .bad
theorem itr_use {t : Tg} {f : MF Fl} {a : Int} {m : Nat} {σ : L2.St} {H : Hp} {D : Ends} (c : tS C E (forL t f (rangeA a m)) D σ H) :
    ∃ W : Nat → Nat → L2.St → Hp → Prop, (∃ m, W 0 m σ H) ∧ ∀ i k σ H, W i k σ H →
      ((Itr a m).stop i H ∧ D.nx σ H) ∨ ((Itr a m).go i H ∧ ∃ N : L2.St → Hp → Prop, (∀ σ' H', N σ' H' → ∃ m', m' < k ∧ W (i + 1) m' σ' H') ∧ ∀ x H', (Itr a m).yld i H x H' → gOf C.K t x σ H' fun σ2 H2 => tS C E f { D with nx := N, ct := N, bk := D.nx } σ2 H2) := by
  have hl : (rangeV a m).length = m := by unfold rangeV; rw [List.length_map, List.length_range]
  refine forL_use (Itr a m) (ws := rangeV a m) (fun G n H => range_rvs a m G n H) (fun i H hi => ?_) (fun i H hi => ?_) (fun i H x H' hi hy => ⟨hy.1, ?_⟩) c
  · rw [hl] at hi; exact hi
  · rw [hl] at hi; exact hi
  · rw [hl] at hi
    rw [hy.2]
    unfold rangeV
    rw [List.getElem?_map, List.getElem?_range hi]
    rfl
theorem forR_use {rg : List A → Option (Int × Nat)} {t : Tg} {ga : MF (List A)} {f : MF Fl} {σ : L2.St} {H : Hp} {D : Ends} (c : tS C E (forR rg t ga f) D σ H) :
    tA C E ga σ H fun ws H1 => ∃ ys a m, (∃ G n, RVs C G n H1 ys ws) ∧ rg ys = some (a, m) ∧ tS C E (forL t f (rangeA a m)) D σ H1 := by
  refine Cont.mono (ContS.bindA c) fun ws H1 ⟨ys, c1⟩ => ?_
  obtain ⟨G, lo, h, s, rh, rs, rv, q⟩ := c1
  rw [List.append_nil, List.append_nil] at rv
  have q' : finS C E G lo h.length H1 (match rg ys with | some (a, m) => forL t f (rangeA a m) lo s h | none => .bad) D := q
  split at q'
  · rename_i a m he
    exact ⟨ys, a, m, ⟨G, _, rv⟩, he, G, lo, h, s, rh, rs, .nil, q'⟩
  · exact q'.elim
theorem rg1_some {ys : List A} {a : Int} {m : Nat} {G : Loc} {n : Nat} {H : Hp} {ws : List V} (e : rg1 ys = some (a, m)) (r : RVs C G n H ys ws) : ∃ j : Int, ws = [.int j] ∧ -(2 ^ 62) ≤ j ∧ j < 2 ^ 62 ∧ a = 0 ∧ m = j.toNat := by
  unfold rg1 at e
  split at e
  · split at e
    · rename_i hz
      cases e
      simp only [Bool.and_eq_true, decide_eq_true_eq] at hz
      obtain ⟨v, rfl, r'⟩ := rvs1 r
      cases r'
      exact ⟨_, rfl, hz.1, hz.2, rfl, rfl⟩
    · cases e
  · cases e
theorem rg2_some {ys : List A} {a : Int} {m : Nat} {G : Loc} {n : Nat} {H : Hp} {ws : List V} (e : rg2 ys = some (a, m)) (r : RVs C G n H ys ws) : ∃ i j : Int, ws = [.int i, .int j] ∧ (-(2 ^ 62) ≤ i ∧ i < 2 ^ 62 ∧ -(2 ^ 62) ≤ j ∧ j < 2 ^ 62) ∧ a = i ∧ m = (j - i).toNat := by
  unfold rg2 at e
  split at e
  · split at e
    · rename_i hz
      cases e
      simp only [Bool.and_eq_true, decide_eq_true_eq] at hz
      obtain ⟨v, w, rfl, r', r2⟩ := rvs2 r
      cases r'
      cases r2
      exact ⟨_, _, rfl, ⟨hz.1.1.1, hz.1.1.2, hz.1.2, hz.2⟩, rfl, rfl⟩
    · cases e
  · cases e
/-- for .. in range(e) -/
theorem js_range1 {tg a : Expr} {body : List Stmt} {t : Tg} {ga : MF (List A)} {f : MF Fl} {p pos pos' : Pos} (hK : X.K = C.K) (hp : PassesOwn (model X.prog X.w) X.A X.env X.xe) (hc : X.calm = true) (hg0 : Gl X "range") (hm : X.mg "range" = none) (ha : PA X [a] (tA C E ga)) (hg : PG X tg (gOf X.K t)) (hb : PSs X body (tS C E f))
    (hs1 : starEach [a] X.env = [(false, eval a X.env)] := by rfl) (hs : ∀ x, foldedSetIterable (.Call (.Name "range" p) [a] [] pos') X.env x = pure x := by intro _; rfl) : PS X (.For tg (.Call (.Name "range" p) [a] [] pos') body [] pos) (tS C E (forR rg1 t ga f)) :=
  impS (ps_for hp hc (pi_range1 hg0 hm ha hs1) hg hb hs) fun D σ H c => by
    rw [hK]
    refine Cont.mono (forR_use c) fun ws H1 ⟨ys, a, m, ⟨G, n, r⟩, e, c2⟩ => ?_
    obtain ⟨j, e1, h1, h2, e2, e3⟩ := rg1_some e r
    subst e2 e3
    exact ⟨j, e1, h1, h2, itr_use c2⟩
theorem js_range2 {tg a b : Expr} {body : List Stmt} {t : Tg} {ga : MF (List A)} {f : MF Fl} {p pos pos' : Pos} (hK : X.K = C.K) (hp : PassesOwn (model X.prog X.w) X.A X.env X.xe) (hc : X.calm = true) (hg0 : Gl X "range") (hm : X.mg "range" = none) (ha : PA X [a, b] (tA C E ga)) (hg : PG X tg (gOf X.K t)) (hb : PSs X body (tS C E f))
    (hs1 : starEach [a, b] X.env = [(false, eval a X.env), (false, eval b X.env)] := by rfl) (hs2 : starEach [b] X.env = [(false, eval b X.env)] := by rfl) (hs : ∀ x, foldedSetIterable (.Call (.Name "range" p) [a, b] [] pos') X.env x = pure x := by intro _; rfl) : PS X (.For tg (.Call (.Name "range" p) [a, b] [] pos') body [] pos) (tS C E (forR rg2 t ga f)) :=
  impS (ps_for hp hc (pi_range2 hg0 hm ha hs1 hs2) hg hb hs) fun D σ H c => by
    rw [hK]
    refine Cont.mono (forR_use c) fun ws H1 ⟨ys, a, m, ⟨G, n, r⟩, e, c2⟩ => ?_
    obtain ⟨i, j, e1, h1, e2, e3⟩ := rg2_some e r
    subst e2 e3
    exact ⟨a, j, e1, h1, itr_use c2⟩
end
end MA

set_option linter.all false
namespace MA
open PySem L2 SlX LamX
open PySem.Spec PyProof.Rows

/-! ### defs -/
/-- what a def makes of its arguments -/
abbrev AF := List A → Op A
def spF (C : Kn) (m : Nat) (f : AF) : Sp := fun vs H Q E => vs.length = m ∧ ∃ (G : Loc) (lo : Nat) (h : Hs) (xs : List A), Rh C G h H ∧ RVs C G h.length H xs vs ∧ fin (relV C) C E G lo h.length H (f xs lo h) Q
def startA (n : Nat) (xs : List A) : Sl := xs.map some ++ List.replicate (n - xs.length) none
/-- a def's body, run on its arguments -/
def bodyF (n : Nat) (b : MF Fl) : AF := fun xs lo h => match b lo (startA n xs) h with
  | .ok (.nx _) h' => .ok .non h'
  | .ok (.rt x) h' => .ok x h'
  | .ok (.bk _) _ => .bad
  | .ok (.ct _) _ => .bad
  | .ex e h' => .ex e h'
  | .bad => .bad
/-- run apart: what it writes is forgotten, as nothing elder is written and no new thing comes back -/
def pureF (f : AF) : AF := fun xs _ h => match f xs h.length h with
  | .ok x _ => if x.old h.length then .ok x h else .bad
  | .ex e _ => if e.old h.length then .ex e h else .bad
  | .bad => .bad
section
variable {C : Kn} {E : XK} {G : Loc} {lo : Nat} {h : Hs} {H : Hp} {Q : VK}
theorem rs_start {n : Nat} {N : List Str} {xs : List A} {vs : List V} (r : RVs C G n H xs vs) : RS C G n H (startA N.length xs) (L2.start N vs) := by
  have key : ∀ {xs : List A} {vs : List V} (k : Nat), RVs C G n H xs vs → ∀ (i : Nat) (x : A), (xs.map some ++ List.replicate k none)[i]? = some (some x) → ∃ v, (vs.map some ++ List.replicate k none)[i]? = some (some v) ∧ RV C G n H x v := by
    intro xs
    induction xs with
    | nil =>
      intro vs k r i x e
      cases r
      simp only [List.map_nil, List.nil_append, List.getElem?_replicate] at e
      split at e
      · cases e
      · cases e
    | cons y ys ih =>
      intro vs k r i x e
      cases r with
      | cons r t =>
        cases i with
        | zero =>
          simp only [List.map_cons, List.cons_append, List.getElem?_cons_zero, Option.some.injEq] at e
          subst e
          exact ⟨_, rfl, r⟩
        | succ i =>
          simp only [List.map_cons, List.cons_append, List.getElem?_cons_succ] at e ⊢
          exact ih k t i x e
  unfold startA L2.start
  refine ⟨?_, ?_⟩
  · simp only [List.length_append, List.length_map, List.length_replicate, r.length]
  · rw [r.length]
    exact key _ r
theorem rx_back {e : AX} {n n' : Nat} {G' : Loc} {H' : Hp} {c : Value} {d : Option Addr} (x : Ext lo n G H n' G' H') (r : RX C G' n' H' e c d) (ho : e.old n = true) : RX C G n H' e c d := by
  obtain ⟨h1, h2⟩ := r
  refine ⟨h1, ?_⟩
  unfold AX.old at ho
  cases ha : e.arg with
  | none => rw [ha] at h2; exact h2
  | some y =>
    rw [ha] at h2 ho
    obtain ⟨dx, v, a, b, r⟩ := h2
    exact ⟨dx, v, a, b, r.back x ho⟩
theorem pure_back {xs : List A} {f : AF} (rh : Rh C G h H) (q : fin (relV C) C E G lo h.length H (pureF f xs lo h) Q) : fin (relV C) C E G h.length h.length H (f xs h.length h) Q := by
  unfold pureF at q
  have key : ∀ {n' : Nat} {h' : Hs} {G' : Loc} {H' : Hp}, Ext h.length h.length G H h'.length G' H' → Rh C G' h' H' → Ext lo h.length G H h.length G H' ∧ Rh C G h H' := by
    intro n' h' G' H' e r
    have e1 : Ext lo h.length G H h.length G H' := ⟨Nat.le_refl _, fun _ _ => rfl, e.stb, e.frz, fun i _ hi => e.low i hi hi, e.own⟩
    exact ⟨e1, rh.inj, fun i o ho => (rh.obj i o ho).stay e1 (e.low i (Rh.lt ho) (Rh.lt ho)), r.tab⟩
  cases hr : f xs h.length h with
  | bad => rw [hr] at q; exact q
  | ok x h' =>
    rw [hr] at q
    simp only at q
    split at q
    · rename_i ho
      intro G' H' v e r rv
      obtain ⟨e1, r1⟩ := key (n' := 0) e r
      exact q G H' v e1 r1 (rv.back e ho)
    · exact q.elim
  | ex x h' =>
    rw [hr] at q
    simp only at q
    split at q
    · rename_i ho
      intro G' H' c d e r rx
      obtain ⟨e1, r1⟩ := key (n' := 0) e r
      exact q G H' c d e1 r1 (rx_back e rx ho)
    · exact q.elim
end

section
variable {P : Program} {w : World} {K : PySem.W.Frag} {mg : Str → Option Value} {base : Heap} {C : Kn}
/-- a def keeps to its mirror -/
abbrev FnM (P : Program) (w : World) (K : PySem.W.Frag) (mg : Str → Option Value) (base : Heap) (C : Kn) (k : Nat) (a : Addr) (m : Nat) (f : AF) : Prop := FnR P w K mg base (L2.CX P w) k a (spF C m f)
theorem FnM.pure {k : Nat} {a : Addr} {m : Nat} {f : AF} (F : FnM P w K mg base C k a m f) : FnM P w K mg base C k a m (pureF f) := FnR.imp F fun vs H Q E ⟨hl, G, lo, h, xs, rh, rv, q⟩ =>
  ⟨hl, G, h.length, h, xs, rh, rv, pure_back rh q⟩
theorem passX {X : Cx} {E : XK} (hs : X.stack = X.env :: X.outer) (hf : X.env.frame = some X.env.locals) (hex : X.ex = []) {E₁ : Value → Shared → Prop}
    (hx : X.xe = fun e s' => wpAny (model X.prog X.w) X.A (leaving X.env e) (fun _ s'' => L2.CX X.prog X.w X.outer X.H_0 X.s_0 E e s'') E₁ s') : Passes (L2.CX X.prog X.w) X E :=
  passes_call (takes_of hs hf hex hx) fun _ _ _ _ h => h
theorem fn_okO {x qual : Str} {st : Stmt} {fa : Addr} {N ps : List Str} {k m : Nat} {b : MF Fl} {oc : Value} {od an : Option Addr} {osl : Array (Option Value)} {kV doc pm cdv ct : Value}
    (l : K.lookup fa = some ⟨oc, od, .func (PySem.W.fnOf x qual (defArgs st) (defBody st) (defScope st) .none kV doc pm an cdv ct), osl⟩) (c : PySem.W.codeIn K cdv qual = true) (S : FnScope N ps (defScope st)) (hK : K = C.K) (hw : w = C.w) (hm : ps.length = m)
    (body : ∀ (A : Around) (outer : List Env) (s : Shared) (H : Hp) (E : XK), Go (cxOf (L2.CX P w) P w K mg base N qual (defScope st) fa cdv A outer s H E) C E k → Takes (cxOf (L2.CX P w) P w K mg base N qual (defScope st) fa cdv A outer s H E) (fun cls d _ H => E cls d H) → PSs (cxOf (L2.CX P w) P w K mg base N qual (defScope st) fa cdv A outer s H E) (defBody st) (tS C E b)) :
    FnOk P w K mg base (L2.CX P w) (k + 1) fa (PySem.W.fnOf x qual (defArgs st) (defBody st) (defScope st) .none kV doc pm an cdv ct) ps (spF C m (bodyF N.length b)) := by
  subst hm
  refine fn_of l c S (fun vs H Q E h => h.1) fun A outer s H vs Q E hr h => ?_
  have tk : Takes (cxOf (L2.CX P w) P w K mg base N qual (defScope st) fa cdv A outer s H E) (fun cls d _ H => E cls d H) := takes_of rfl rfl rfl rfl
  have pp : Passes (L2.CX P w) (cxOf (L2.CX P w) P w K mg base N qual (defScope st) fa cdv A outer s H E) E := passes_call tk fun _ _ _ _ h => h
  refine ⟨_, body A outer s H E ⟨hK, hw, rfl, hr, pp, S.nd⟩ tk, ?_⟩
  obtain ⟨hl, G, lo, h, xs, rh, rv, q⟩ := h
  refine ⟨G, lo, h, startA N.length xs, rh, rs_start rv, .nil, ?_⟩
  unfold bodyF at q
  cases hz : b lo (startA N.length xs) h with
  | bad => rw [hz] at q; exact q
  | ex e h' => rw [hz] at q; exact q
  | ok fl h' =>
    rw [hz] at q
    cases fl with
    | nx s' => exact fun G' H' σ' e r rs => q G' H' .non e r .non
    | rt x => exact fun G' H' v e r rv => q G' H' v e r rv
    | bk s => exact q.elim
    | ct s => exact q.elim
theorem fn_okM {x qual : Str} {st : Stmt} {fa : Addr} {N ps : List Str} {k m : Nat} {b : MF Fl} {oc : Value} {od an : Option Addr} {osl : Array (Option Value)} {kV doc pm cdv ct : Value}
    (l : K.lookup fa = some ⟨oc, od, .func (PySem.W.fnOf x qual (defArgs st) (defBody st) (defScope st) .none kV doc pm an cdv ct), osl⟩) (c : PySem.W.codeIn K cdv qual = true) (S : FnScope N ps (defScope st)) (hb : Binds K (PySem.W.fnOf x qual (defArgs st) (defBody st) (defScope st) .none kV doc pm an cdv ct) ps []) (hK : K = C.K) (hw : w = C.w) (hm : ps.length = m)
    (body : ∀ (A : Around) (outer : List Env) (s : Shared) (H : Hp) (E : XK), Go (cxOf (L2.CX P w) P w K mg base N qual (defScope st) fa cdv A outer s H E) C E k → Takes (cxOf (L2.CX P w) P w K mg base N qual (defScope st) fa cdv A outer s H E) (fun cls d _ H => E cls d H) → PSs (cxOf (L2.CX P w) P w K mg base N qual (defScope st) fa cdv A outer s H E) (defBody st) (tS C E b)) :
    FnM P w K mg base C (k + 1) fa m (bodyF N.length b) := by
  subst hm
  have ok := fn_okO (P := P) (mg := mg) (base := base) l c S hK hw rfl body
  refine FnR.imp (ok.raw hb .nil) fun vs H Q E h => ?_
  rw [List.append_nil]
  exact h
end

/-! ### calls -/
def lenF (m : Nat) (f : AF) : AF := fun xs lo h => if Nat.beq xs.length m then f xs lo h else .bad
section
variable {X : Cx} {C : Kn} {E : XK} {k j : Nat} {p pos apos : Pos}
theorem lenF_ok {m : Nat} {f : AF} : OpL C E (lenF m f) (fun vs H Q => spF C m f vs H Q E) := by
  intro G lo h H xs vs Q rh rv q
  unfold lenF at q
  split at q
  · rename_i hm
    exact ⟨by rw [← rv.length]; exact Nat.eq_of_beq_eq_true hm, G, lo, h, xs, rh, rv, q⟩
  · exact q.elim
/-- a def by its name -/
theorem je_call {x : Str} {g m : Nat} {f : AF} {fs : MF (List A)} {e : Expr} {es : List Expr} (W : Go X C E k) (F : FnM X.prog X.w X.K X.mg X.base C j (C.gt g) m f) (hj : j ≤ k) (hg : Gl X x) (hm : X.mg x = some (.ref (C.gt g))) (hk : PySem.W.keepIn X.K (.ref (C.gt g)) = true) (ha : PA X (e :: es) (tA C E fs)) (hdb : (x == ("__debug__" : Str)) = false := by decide)
    (he : starEach (e :: es) X.env = (false, eval e X.env) :: starEach es X.env := by rfl) (hpl : (backTo pos (starEach es X.env)).any (·.1) = false := by rfl) : PE X (.Call (.Name x p) (e :: es) [] pos) (tE C E (calF (lenF m f) fs)) := by
  refine ⟨fun pins s σ H Q I c => ?_⟩
  refine wpAny_Call_Name_kw (ld_glob I hg hm ?_ hdb)
  refine PySem.W.callWith_K (h₀ := X.base) I.ok.mod.kin hk (thn (ha.run pos pins s σ H _ I (cal_use (r := fun vs H Q => spF C m f vs H Q E) lenF_ok c)) fun us s1 ⟨vs, H1, I1, r, q⟩ => ⟨I1.kIn, ?_⟩) he hpl
  exact wpAny_call (run_fnR (F.mono hj) W.room W.pass I1 r q)
theorem je_call0 {x : Str} {g : Nat} {f : AF} (W : Go X C E k) (F : FnM X.prog X.w X.K X.mg X.base C j (C.gt g) 0 f) (hj : j ≤ k) (hg : Gl X x) (hm : X.mg x = some (.ref (C.gt g))) (hk : PySem.W.keepIn X.K (.ref (C.gt g)) = true) (hdb : (x == ("__debug__" : Str)) = false := by decide) :
    PE X (.Call (.Name x p) [] [] pos) (tE C E fun lo _ h => f [] lo h) := by
  refine ⟨fun pins s σ H Q I c => ?_⟩
  refine wpAny_Call_Name_kw (ld_glob I hg hm ?_ hdb)
  obtain ⟨G, lo, h, s, rh, rs, rv, q⟩ := c
  exact PySem.W.callWith_K0 I.kIn hk (wpAny_call (run_fnR (us := []) (vs := []) (F.mono hj) W.room W.pass I .nil ⟨rfl, G, lo, h, [], rh, .nil, q⟩))
/-- a def that a local name holds: one of several -/
def calV (i : Nat) (tb : List (Nat × AF)) (fs : MF (List A)) : MF A := fun lo s h => match s[i]? with
  | some (some (.gl g)) => match tb.lookup g with
    | some f => calF f fs lo s h
    | none => .bad
  | _ => .bad
theorem je_callV {x : Str} {i : Nat} {tb : List (Nat × AF)} {fs : MF (List A)} {e : Expr} {es : List Expr} (W : Go X C E k) (F : ∀ g f, tb.lookup g = some f → ∃ m f', f = lenF m f' ∧ FnM X.prog X.w X.K X.mg X.base C k (C.gt g) m f' ∧ PySem.W.keepIn X.K (.ref (C.gt g)) = true) (hN : X.N[i]? = some x) (hv : Vis X.env.scope x) (ha : PA X (e :: es) (tA C E fs))
    (hdb : (x == ("__debug__" : Str)) = false := by decide) (hcd : (x == ("__classdict__" : Str)) = false := by decide)
    (he : starEach (e :: es) X.env = (false, eval e X.env) :: starEach es X.env := by rfl) (hpl : (backTo pos (starEach es X.env)).any (·.1) = false := by rfl) : PE X (.Call (.Name x p) (e :: es) [] pos) (tE C E (calV i tb fs)) := by
  refine ⟨fun pins s σ H Q I c => ?_⟩
  obtain ⟨G, lo, h, sl, rh, rs, rv, q⟩ := c
  unfold calV at q
  split at q
  · rename_i g hsl
    split at q
    · rename_i f hf
      obtain ⟨m, f', rfl, F', hk⟩ := F g f hf
      obtain ⟨v, hs, r⟩ := rs.2 i _ hsl
      cases r
      refine wpAny_Call_Name_kw (thn ((pe_var (pos := p) (i := i) hN hv hdb hcd).run pins s σ H (fun v H1 => v = .ref (C.gt g) ∧ H1 = H) I ⟨.ref (C.gt g), hs, rfl, rfl⟩) fun u s1 ⟨v, H1, I1, r1, ev, eH⟩ => ?_)
      subst ev
      rw [eH] at I1
      cases r1
      have c' : tE C E (calF (lenF m f') fs) σ H Q := ⟨G, lo, h, sl, rh, rs, .nil, q⟩
      refine PySem.W.callWith_K (h₀ := X.base) I.ok.mod.kin hk (thn (ha.run pos pins s1 σ H _ I1 (cal_use (r := fun vs H Q => spF C m f' vs H Q E) lenF_ok c')) fun us s2 ⟨vs, H2, I2, r, q⟩ => ⟨I2.kIn, ?_⟩) he hpl
      exact wpAny_call (run_fnR F' W.room W.pass I2 r q)
    · exact q.elim
  · exact q.elim
end
end MA

set_option linter.all false
namespace MA
open PySem L2 SlX LamX
open PySem.Spec PyProof.Rows

/-! ### instances with slots -/
theorem slO_code {a D dx c : Addr} {vs : List (Option V)} {q : Str} : CodeO c q ≠ SlO a D dx vs := fun z => by
  unfold CodeO SlO at z
  injection z with z
  have z1 := congrFun z { objs := Array.replicate (c + 1) { cls := .none, data := .fields #[.none, .str q 0] } }
  have g : ∀ b : Addr, ∀ o, (Heap.get? { objs := Array.replicate (c + 1) { cls := .none, data := .fields #[.none, .str q 0] } } b) = some o → o = { cls := .none, data := .fields #[.none, .str q 0] } := by
    intro b o e
    unfold Heap.get? at e
    by_cases hb : b < c + 1
    · simp [Array.getElem?_replicate, hb] at e
      exact e.symm
    · simp [Array.getElem?_replicate, hb] at e
  have t : (Heap.get? { objs := Array.replicate (c + 1) { cls := .none, data := .fields #[.none, .str q 0] } } c) = some { cls := .none, data := .fields #[.none, .str q 0] } := by
    unfold Heap.get?
    simp
  obtain ⟨sl, e, _⟩ := (Eq.mp z1 ⟨_, _, 0, t, rfl, rfl⟩ : ∃ sl : Array (Option Value), Heap.get? _ a = some { PySem.W.instObj D dx with slots := sl } ∧ SlR vs sl)
  have := g _ _ e
  cases this
def setA (i : Nat) (y : A) (fs : List (Option A)) : List (Option A) := (fs ++ List.replicate (i + 1 - fs.length) none).set i (some y)
theorem setA_get {i : Nat} {y : A} {fs : List (Option A)} : (setA i y fs)[i]? = some (some y) := by
  unfold setA
  exact List.getElem?_set_self (by simp only [List.length_append, List.length_replicate]; omega)
theorem setA_ne {i j : Nat} {y x : A} {fs : List (Option A)} (h : j ≠ i) (e : (setA i y fs)[j]? = some (some x)) : fs[j]? = some (some x) := by
  unfold setA at e
  rw [List.getElem?_set_ne (Ne.symm h)] at e
  by_cases hj : j < fs.length
  · rw [List.getElem?_append_left hj] at e
    exact e
  · rw [List.getElem?_append_right (by omega), List.getElem?_replicate] at e
    split at e
    · cases e
    · cases e
section
variable {C : Kn} {G G' : Loc} {n lo : Nat} {h : Hs} {H H' : Hp}
theorem RSl.put {fs : List (Option A)} {vs : List (Option V)} {x : A} {v : V} (r : RSl C G n H fs vs) (rv : RV C G n H x v) (i : Nat) : RSl C G n H (setA i x fs) (putS i v vs) := fun j y e => by
  by_cases hj : j = i
  · subst hj
    rw [setA_get] at e
    cases e
    exact ⟨v, putS_get _ _ _, rv⟩
  · obtain ⟨w, e1, r1⟩ := r j y (setA_ne hj e)
    exact ⟨w, (putS_ne hj).mpr e1, r1⟩
theorem Rh.ins {i c : Nat} {fs : List (Option A)} (rh : Rh C G h H) (e : h[i]? = some (.ins c fs)) : ∃ vs dx, dx ≠ G i ∧ SlI H (G i) (C.gt c) dx vs ∧ RSl C G h.length H fs vs := by
  cases rh.obj i _ e with
  | ins d s r => exact ⟨_, _, d, s, r⟩
theorem SlI.dxs {a D dx : Addr} {vs : List (Option V)} (s : SlI H a D dx vs) : H dx = some (.own a) ∨ H dx = some (.xd []) := by
  rcases s with ⟨_, _, h⟩ | ⟨_, h⟩
  · exact h
  · exact .inr h
theorem SlI.obj {a D dx : Addr} {vs : List (Option V)} (s : SlI H a D dx vs) : ∃ u, H a = some u ∧ Stb u = false ∧ (∀ o v, u ≠ .frz o v) ∧ (∀ ps, u ≠ .tbl ps) ∧ (∀ c q, u ≠ CodeO c q) ∧ ∀ x, u ≠ .own x := by
  rcases s with ⟨h, _⟩ | ⟨h, _⟩
  · exact ⟨_, h, rfl, fun _ _ z => (nomatch z), fun _ z => (nomatch z), fun _ _ z => (by unfold CodeO at z; cases z), fun _ z => (nomatch z)⟩
  · exact ⟨_, h, slO_stb, fun _ _ z => (by unfold SlO at z; cases z), fun _ z => (by unfold SlO at z; cases z), fun _ _ z => slO_code z.symm, fun _ z => (by unfold SlO at z; cases z)⟩
theorem RO.notOwn {o : AO} {a x : Addr} (r : RO C G n H o a) : H a ≠ some (.own x) := fun z => by
  cases r with
  | lst h _ => rw [h] at z; cases z
  | flst h _ => rw [h] at z; cases z
  | dk h _ => rw [h] at z; cases z
  | dt h _ => rw [h] at z; cases z
  | ins _ s _ =>
    obtain ⟨u, e, _, _, _, _, k⟩ := s.obj
    rw [e] at z
    exact k x (Option.some.inj z)
  | set h _ =>
    rw [h] at z
    unfold SetO at z
    cases z
theorem Rh.ne_dx (rh : Rh C G h H) {j : Nat} {a D dx : Addr} {vs : List (Option V)} (hj : j < h.length) (s : SlI H a D dx vs) : G j ≠ dx := fun z => by
  have r := rh.obj j h[j] (List.getElem?_eq_getElem hj)
  rcases s.dxs with e | e
  · rw [← z] at e
    exact r.notOwn e
  · rw [← z] at e
    have := r.notStb e
    cases this
theorem Ext.slot {i c : Nat} {dx : Addr} {vs vs' : List (Option V)} (rh : Rh C G h H) (hlo : lo ≤ i) (hi : i < h.length) (d : dx ≠ G i) (s : SlI H (G i) (C.gt c) dx vs) : Ext lo h.length G H h.length G (slH H (G i) (C.gt c) dx vs') := by
  obtain ⟨u, hu, k1, k2, k3, k4, k5⟩ := s.obj
  have nb : ∀ b o, H b = some o → o ≠ u → b ≠ G i := fun b o e n z => by
    rw [z, hu] at e
    exact n (Option.some.inj e).symm
  have at_dx : slH H (G i) (C.gt c) dx vs' dx = some (.xd []) := by
    unfold slH
    rw [upd_ne d, upd_same]
  refine ⟨Nat.le_refl _, fun _ _ => rfl, fun b o e st => ?_, fun b o v e => ?_, fun j hj hj2 => ?_, fun b x e => ?_⟩
  · have h1 : b ≠ G i := nb b o e fun z => by rw [z, k1] at st; cases st
    by_cases h2 : b = dx
    · subst h2
      rcases s.dxs with z | z
      · rw [z] at e; cases e; cases st
      · rw [z] at e; cases e; exact at_dx
    · rw [slH_ne h1 h2]; exact e
  · have h1 : b ≠ G i := nb b _ e fun z => k2 _ _ z.symm
    have h2 : b ≠ dx := fun z => by
      subst z
      rcases s.dxs with z | z
      · rw [z] at e; cases e
      · rw [z] at e; cases e
    rw [slH_ne h1 h2]; exact e
  · have h1 : G j ≠ G i := fun z => by
      have := rh.inj j i hj2 hi z
      omega
    rw [slH_ne h1 (rh.ne_dx hj2 s)]
  · have h1 : b ≠ G i := nb b _ e fun z => k5 _ z.symm
    by_cases h2 : b = dx
    · subst h2
      exact .inr at_dx
    · rw [slH_ne h1 h2]; exact .inl e
theorem Rh.slot {i c j : Nat} {fs : List (Option A)} {dx : Addr} {vs : List (Option V)} {x : A} {v : V} (rh : Rh C G h H) (hi : i < h.length) (d : dx ≠ G i) (s : SlI H (G i) (C.gt c) dx vs) (r : RSl C G h.length H fs vs) (rv : RV C G h.length H x v) :
    Rh C G (h.set i (.ins c (setA j x fs))) (slH H (G i) (C.gt c) dx (putS j v vs)) := by
  have e := Ext.slot (lo := 0) (vs' := putS j v vs) rh (Nat.zero_le _) hi d s
  obtain ⟨u, hu, k1, k2, k3, k4, k5⟩ := s.obj
  have nb : ∀ b o, H b = some o → o ≠ u → b ≠ G i := fun b o e n z => by
    rw [z, hu] at e
    exact n (Option.some.inj e).symm
  have ndx : ∀ b o, H b = some o → (∀ x, o ≠ .own x) → o ≠ .xd [] → b ≠ dx := fun b o e0 n1 n2 z => by
    subst z
    rcases s.dxs with z | z
    · rw [z] at e0; exact n1 _ (Option.some.inj e0).symm
    · rw [z] at e0; exact n2 (Option.some.inj e0).symm
  refine ⟨fun j k hj hk q => ?_, fun k o ho => ?_, fun p hp => ?_⟩
  · rw [List.length_set] at hj hk
    exact rh.inj j k hj hk q
  · rw [List.length_set]
    by_cases hk : k = i
    · subst hk
      rw [List.getElem?_set_self hi] at ho
      cases ho
      refine .ins d (.inr ⟨?_, ?_⟩) ((r.put rv j).ext e)
      · unfold slH
        rw [upd_same]
      · unfold slH
        rw [upd_ne d, upd_same]
    · rw [List.getElem?_set_ne (Ne.symm hk)] at ho
      have hkl := Rh.lt ho
      exact (rh.obj k o ho).stay e (slH_ne (fun z => hk (rh.inj k i hkl hi z)) (rh.ne_dx hkl s))
  · obtain ⟨ps, h1, h2, h3⟩ := rh.tab p hp
    refine ⟨ps, ?_, h2, fun pos cv hc => ?_⟩
    · rw [slH_ne (nb _ _ h1 fun z => k3 _ z.symm) (ndx _ _ h1 (fun _ z => nomatch z) (fun z => nomatch z))]
      exact h1
    · obtain ⟨c', e1, e2⟩ := h3 pos cv hc
      refine ⟨c', e1, ?_⟩
      rw [slH_ne (nb _ _ e2 fun z => k4 _ _ z.symm) (ndx _ _ e2 (fun _ z => by unfold CodeO at z; cases z) (fun z => by unfold CodeO at z; cases z))]
      exact e2
end

/-- where the slot of this name is, class by class -/
structure SlT (C : Kn) (f : Str) (tb : List (Nat × Nat)) : Prop where
  all : ∀ c i, tb.lookup c = some i → SCls C.K (C.gt c) ∧ ∃ p, Slot1 C.K (C.gt c) f p i
theorem SlT.nil {C : Kn} {f : Str} : SlT C f [] := ⟨fun _ _ e => nomatch e⟩
theorem SlT.cons {C : Kn} {f : Str} {c i : Nat} {p : Addr} {tb : List (Nat × Nat)} (a : SCls C.K (C.gt c)) (b : Slot1 C.K (C.gt c) f p i) (t : SlT C f tb) : SlT C f ((c, i) :: tb) := ⟨fun c' i' e => by
  rw [List.lookup_cons] at e
  split at e
  · rename_i hc
    cases e
    have := eq_of_beq hc
    subst this
    exact ⟨a, _, b⟩
  · exact t.all _ _ e⟩
def slF (tb : List (Nat × Nat)) (f : MF A) : MF A := f.bind fun x => fun _ _ h => match x with
  | .ref a => match h[a]? with
    | some (.ins c fs) => match tb.lookup c with
      | some i => match fs[i]? with
        | some (some y) => .ok y h
        | _ => .bad
      | none => .bad
    | _ => .bad
  | _ => .bad
/-- o.f = e -/
def slS (tb : List (Nat × Nat)) (fo fv : MF A) : MF Fl := fv.bind fun y => fo.bind fun x => fun lo s h => match x with
  | .ref a => if Nat.ble lo a then match h[a]? with
      | some (.ins c fs) => match tb.lookup c with
        | some i => .ok (.nx s) (h.set a (.ins c (setA i y fs)))
        | none => .bad
      | _ => .bad
    else .bad
  | _ => .bad
section
variable {X : Cx} {C : Kn} {E : XK} {k j : Nat} {p pos apos : Pos}
theorem je_sl {f : Str} {tb : List (Nat × Nat)} {e : Expr} {fe : MF A} (W : Go X C E k) (T : SlT C f tb) (he : PE X e (tE C E fe)) (hb : attributeBase e f X.env (eval e X.env) = eval e X.env := by rfl) : PE X (.Attribute e f pos) (tE C E (slF tb fe)) :=
  imp (pe_sl he hb) fun σ H Q c => Cont.mono (Cont.bind c) fun v H1 ⟨x, c1⟩ => by
    obtain ⟨G, lo, h, s, rh, rs, rv, q⟩ := c1
    obtain ⟨v', e', r⟩ := rvs1 rv
    cases e'
    dsimp only at q
    split at q
    · split at q
      · rename_i hh
        split at q
        · rename_i hi
          split at q
          · rename_i hs
            cases r with
            | ref _ =>
              obtain ⟨vs, dx, d, s, rr⟩ := rh.ins hh
              obtain ⟨w, e1, r1⟩ := rr _ _ hs
              obtain ⟨a1, p, a2⟩ := T.all _ _ hi
              refine ⟨_, _, dx, p, vs, _, w, rfl, s.slt, ?_, ?_, e1, fin_val q rh r1⟩
              · rw [W.K]; exact a1
              · rw [W.K]; exact a2
          · exact q.elim
        · exact q.elim
      · exact q.elim
    · exact q.elim
theorem js_sl {f : Str} {tb : List (Nat × Nat)} {o e : Expr} {fo fe : MF A} {pos' : Pos} (W : Go X C E k) (T : SlT C f tb) (ho : PE X o (tE C E fo)) (he : PE X e (tE C E fe)) (hs : swapsWith e (some (.Attribute o f pos')) pos.line X.env = pure false := by rfl) :
    PS X (.Assign [.Attribute o f pos'] e pos) (tS C E (slS tb fo fe)) :=
  impS (ps_sl ho he hs) fun D σ H c => Cont.mono (ContS.bind c) fun v H1 ⟨x, c1⟩ => Cont.mono (ContS.bind c1) fun w H2 ⟨y, c2⟩ => by
    obtain ⟨G, lo, h, s, rh, rs, rv, q⟩ := c2
    obtain ⟨v1, v2, e', r1, r2⟩ := rvs2 rv
    cases e'
    dsimp only at q
    split at q
    · split at q
      · rename_i hlo
        split at q
        · rename_i hh
          split at q
          · rename_i i hi
            cases r1 with
            | ref hlt =>
              obtain ⟨vs, dx, d, s, rr⟩ := rh.ins hh
              obtain ⟨a1, p, a2⟩ := T.all _ _ hi
              refine ⟨_, _, dx, p, vs, i, rfl, s.slt, ?_, ?_, ?_⟩
              · rw [W.K]; exact a1
              · rw [W.K]; exact a2
              · have e := Ext.slot (vs' := putS i v vs) rh (Nat.le_of_ble_eq_true hlo) hlt d s
                exact q G _ σ (by rw [List.length_set]; exact e) (rh.slot hlt d s rr r2) (by rw [List.length_set]; exact rs.ext e)
          · exact q.elim
        · exact q.elim
      · exact q.elim
    · exact q.elim

/-! ### making instances; methods; properties -/
def makeO (c : Nat) (f : AF) : AF := fun xs lo h => match f (.ref h.length :: xs) lo (h ++ [.ins c []]) with
  | .ok .non h' => .ok (.ref h.length) h'
  | .ok _ _ => .bad
  | .ex e h' => .ex e h'
  | .bad => .bad
theorem makeO_ok {c m : Nat} {f : AF} : OpL C E (makeO c (lenF m f)) (fun vs H Q => ∀ x dx, H x = Option.none → H dx = Option.none → dx ≠ x → spF C m f (V.ref x :: vs) (upd (upd H dx (.own x)) x (.ins (C.gt c) dx [])) (fun v H2 => v = .non ∧ Q (.ref x) H2) E) := by
  intro G lo h H xs vs Q rh rv q x dx hx hdx hne
  unfold makeO lenF at q
  have e1 : Ext lo h.length G H h.length G (upd H dx (.own x)) := Ext.grow (keeps_new hdx) rh
  have r1 : Rh C G h (upd H dx (.own x)) := rh.grow (keeps_new hdx)
  have hx1 : upd H dx (.own x) x = none := by rw [upd_ne hne.symm]; exact hx
  have e2 := Ext.new (lo := lo) r1 hx1 (.ins (C.gt c) dx [])
  have r2 : Rh C (G.at h.length x) (h ++ [.ins c []]) (upd (upd H dx (.own x)) x (.ins (C.gt c) dx [])) := r1.new hx1 (.ins (vs := []) hne (.inl ⟨upd_same, rfl, .inl (by rw [upd_ne hne, upd_same])⟩) fun i x e => by cases e)
  have rx : RV C (G.at h.length x) (h ++ [AO.ins c []]).length (upd (upd H dx (.own x)) x (.ins (C.gt c) dx [])) (.ref h.length) (.ref x) := by
    have z : RV C (G.at h.length x) (h ++ [AO.ins c []]).length (upd (upd H dx (.own x)) x (.ins (C.gt c) dx [])) (.ref h.length) (.ref (G.at h.length x h.length)) := .ref (by rw [len1]; exact Nat.lt_succ_self _)
    rw [Loc.at_new] at z
    exact z
  have e12 := e1.trans e2
  by_cases hm : Nat.beq (A.ref h.length :: xs).length m = true
  · rw [if_pos hm] at q
    refine ⟨?_, G.at h.length x, lo, h ++ [.ins c []], .ref h.length :: xs, r2, .cons rx (by rw [len1]; exact rv.ext e12), ?_⟩
    · rw [← Nat.eq_of_beq_eq_true hm, List.length_cons, List.length_cons, rv.length]
    · rw [len1]
      cases hz : f (A.ref h.length :: xs) lo (h ++ [AO.ins c []]) with
      | bad => rw [hz] at q; exact q
      | ex e h' => rw [hz] at q; exact fun G' H' c d a b z => q G' H' c d (e12.trans a) b z
      | ok y h' =>
        rw [hz] at q
        cases y with
        | non =>
          intro G' H' v e r rv
          cases rv
          refine ⟨rfl, q G' H' _ (e12.trans e) r ?_⟩
          have hl : h.length < h'.length := Nat.lt_of_lt_of_le (Nat.lt_succ_self _) e.le
          have z : RV C G' h'.length H' (.ref h.length) (.ref (G' h.length)) := .ref hl
          rw [e.at_ _ (Nat.lt_succ_self _), Loc.at_new] at z
          exact z
        | _ => exact q.elim
  · rw [if_neg hm] at q
    exact q.elim
/-- C(e, ..) by the class's name -/
theorem je_make {x : Str} {c m : Nat} {f : AF} {fi : Addr} {fs : MF (List A)} {e : Expr} {es : List Expr} (W : Go X C E k) (M : Mk X.K (C.gt c) fi) (F : FnM X.prog X.w X.K X.mg X.base C j fi m f) (hj : j + 1 ≤ k) (hg : Gl X x) (hm : X.mg x = some (.ref (C.gt c))) (ha : PA X (e :: es) (tA C E fs)) (hdb : (x == ("__debug__" : Str)) = false := by decide)
    (he : starEach (e :: es) X.env = (false, eval e X.env) :: starEach es X.env := by rfl) (hpl : (backTo pos (starEach es X.env)).any (·.1) = false := by rfl) : PE X (.Call (.Name x p) (e :: es) [] pos) (tE C E (calF (makeO c (lenF m f)) fs)) :=
  imp (StX.pe_makeR M F (W.room.mono hj) hg hm W.pass ha hdb he hpl) fun _ _ _ c => cal_use makeO_ok c
/-- cls(e, ..), the class held by a name -/
def isGl (i c : Nat) (f : MF A) : MF A := fun lo s h => match s[i]? with
  | some (some (.gl g)) => if Nat.beq g c then f lo s h else .bad
  | _ => .bad
theorem je_makeV {x : Str} {i c m : Nat} {f : AF} {fi : Addr} {fs : MF (List A)} {e : Expr} {es : List Expr} (W : Go X C E k) (M : Mk X.K (C.gt c) fi) (F : FnM X.prog X.w X.K X.mg X.base C j fi m f) (hj : j + 1 ≤ k) (hN : X.N[i]? = some x) (hv : Vis X.env.scope x) (ha : PA X (e :: es) (tA C E fs))
    (hdb : (x == ("__debug__" : Str)) = false := by decide) (hcd : (x == ("__classdict__" : Str)) = false := by decide)
    (he : starEach (e :: es) X.env = (false, eval e X.env) :: starEach es X.env := by rfl) (hpl : (backTo pos (starEach es X.env)).any (·.1) = false := by rfl) : PE X (.Call (.Name x p) (e :: es) [] pos) (tE C E (isGl i c (calF (makeO c (lenF m f)) fs))) := by
  refine ⟨fun pins s σ H Q I c0 => ?_⟩
  obtain ⟨G, lo, h, sl, rh, rs, rv, q⟩ := c0
  unfold isGl at q
  split at q
  · rename_i g hsl
    split at q
    · rename_i hgc
      have hgc := Nat.eq_of_beq_eq_true hgc
      subst hgc
      obtain ⟨v, hs, r⟩ := rs.2 i _ hsl
      cases r
      refine wpAny_Call_Name_kw (thn ((pe_var (pos := p) (i := i) hN hv hdb hcd).run pins s σ H (fun v H1 => v = .ref (C.gt g) ∧ H1 = H) I ⟨.ref (C.gt g), hs, rfl, rfl⟩) fun u s1 ⟨v, H1, I1, r1, ev, eH⟩ => ?_)
      subst ev
      rw [eH] at I1
      cases r1
      have c' : tE C E (calF (makeO g (lenF m f)) fs) σ H Q := ⟨G, lo, h, sl, rh, rs, .nil, q⟩
      refine PySem.W.callWith_K (h₀ := X.base) I.ok.mod.kin M.kp (thn (ha.run pos pins s1 σ H _ I1 (cal_use makeO_ok c')) fun us s2 ⟨vs, H2, I2, r, q⟩ => ⟨I2.kIn, ?_⟩) he hpl
      exact StX.run_makeR M F (W.room.mono hj) W.pass I2 r q
    · exact q.elim
  · exact q.elim
/-- o.m(e, ..), o an instance of the class c -/
def methF (c : Nat) (f : AF) (fo : MF A) (fs : MF (List A)) : MF A := fo.bind fun x => fun lo s h => match x with
  | .ref a => match h[a]? with
    | some (.ins c' _) => if Nat.beq c' c then (MF.bind fs fun ys => fun lo _ h => f (x :: ys) lo h) lo s h else .bad
    | _ => .bad
  | _ => .bad
theorem je_meth {c m : Nat} {f : AF} {g : Addr} {nm : Str} {o e : Expr} {es : List Expr} {fo : MF A} {fs : MF (List A)} {pl : Sem Bool} (W : Go X C E k) (hc : SCls X.K (C.gt c)) (hm : Meth X.K (C.gt c) nm g) (F : FnM X.prog X.w X.K X.mg X.base C j g m f) (hj : j ≤ k) (ho : PE X o (tE C E fo)) (ha : PA X (e :: es) (tA C E fs))
    (hst : starEach (e :: es) X.env = (false, eval e X.env) :: starEach es X.env := by rfl) (hpl : (backTo pos (starEach es X.env)).any (·.1) = false := by rfl)
    (ht : eval (.Call (.Attribute o nm apos) (e :: es) [] pos) X.env = (do
      let ov ← eval o X.env
      standAt apos.atName
      let (f, first) ← holding [ov] (getMethod ov nm pl)
      callWith pos f first (backTo pos (starEach (e :: es) X.env)) (backToKw pos (keywordEach [] X.env))) := by rfl) :
    PE X (.Call (.Attribute o nm apos) (e :: es) [] pos) (tE C E (methF c (lenF m f) fo fs)) :=
  imp (pe_methSl ho hc hm (F.mono hj) W.room W.pass ha hst hpl ht) fun σ H Q c0 => Cont.mono (Cont.bind c0) fun v H1 ⟨x, c1⟩ => by
    obtain ⟨G, lo, h, s, rh, rs, rv, q⟩ := c1
    obtain ⟨v', e', r⟩ := rvs1 rv
    cases e'
    dsimp only at q
    split at q
    · rename_i a
      split at q
      · rename_i hh
        split at q
        · rename_i hgc
          have hgc := Nat.eq_of_beq_eq_true hgc
          subst hgc
          have rv' := rv
          cases r with
          | ref hlt =>
            obtain ⟨vs, dx, d, s1, rr⟩ := rh.ins hh
            refine ⟨_, dx, vs, rfl, s1.slt, ?_⟩
            have c2 : Cont (relV C) C E (MF.bind fs fun ys => fun lo _ h => lenF m f (.ref a :: ys) lo h) [.ref a] [.ref (G a)] σ H1 Q := ⟨G, lo, h, s, rh, rs, rv', q⟩
            refine Cont.mono (Cont.bindA c2) fun ws H2 ⟨ys, c3⟩ => ?_
            obtain ⟨G2, lo2, h2, s2, rh2, rs2, rv2, q2⟩ := c3
            have key : ∀ {ys : List A} {ws : List V} {x : A} {v : V} {n : Nat} {H : Hp} {G : Loc}, RVs C G n H (ys ++ [x]) (ws ++ [v]) → RVs C G n H (x :: ys) (v :: ws) := by
              intro ys
              induction ys with
              | nil =>
                intro ws x v n H G r
                cases ws with
                | nil => exact r
                | cons w ws =>
                  have := r.length
                  simp at this
              | cons y ys ih =>
                intro ws x v n H G r
                cases ws with
                | nil =>
                  have := r.length
                  simp at this
                | cons w ws =>
                  cases r with
                  | cons r1 r2 =>
                    cases ih r2 with
                    | cons a b => exact .cons a (.cons r1 b)
            exact lenF_ok G2 lo2 h2 H2 _ _ Q rh2 (key rv2) q2
        · exact q.elim
      · exact q.elim
    · exact q.elim
def methF0 (c : Nat) (f : AF) (fo : MF A) : MF A := fo.bind fun x => fun lo s h => match x with
  | .ref a => match h[a]? with
    | some (.ins c' _) => if Nat.beq c' c then f [x] lo h else .bad
    | _ => .bad
  | _ => .bad
theorem meth0_use {c m : Nat} {f : AF} {fo : MF A} {σ : L2.St} {H : Hp} {Q : VK} (c0 : tE C E (methF0 c f fo) σ H Q) : tE C E fo σ H fun x H1 => ∃ a dx vs, x = .ref a ∧ Slt H1 a (C.gt c) dx vs ∧ spF C 1 f [x] H1 Q E :=
  Cont.mono (Cont.bind c0) fun v H1 ⟨x, c1⟩ => by
    obtain ⟨G, lo, h, s, rh, rs, rv, q⟩ := c1
    obtain ⟨v', e', r⟩ := rvs1 rv
    cases e'
    dsimp only at q
    split at q
    · split at q
      · rename_i hh
        split at q
        · rename_i hgc
          have hgc := Nat.eq_of_beq_eq_true hgc
          subst hgc
          have rv' := rv
          cases r with
          | ref hlt =>
            obtain ⟨vs, dx, d, s1, rr⟩ := rh.ins hh
            exact ⟨_, dx, vs, rfl, s1.slt, rfl, G, lo, h, _, rh, rv', q⟩
        · exact q.elim
      · exact q.elim
    · exact q.elim
theorem je_meth0 {c : Nat} {f : AF} {g : Addr} {nm : Str} {o : Expr} {fo : MF A} {pl : Sem Bool} (W : Go X C E k) (hc : SCls X.K (C.gt c)) (hm : Meth X.K (C.gt c) nm g) (F : FnM X.prog X.w X.K X.mg X.base C j g 1 f) (hj : j ≤ k) (ho : PE X o (tE C E fo))
    (ht : eval (.Call (.Attribute o nm apos) [] [] pos) X.env = (do
      let ov ← eval o X.env
      standAt apos.atName
      let (f, first) ← holding [ov] (getMethod ov nm pl)
      callWith pos f first (backTo pos (starEach [] X.env)) (backToKw pos (keywordEach [] X.env))) := by rfl) :
    PE X (.Call (.Attribute o nm apos) [] [] pos) (tE C E (methF0 c f fo)) :=
  imp (pe_methSl0 ho hc hm (F.mono hj) W.room W.pass ht) fun σ H Q c0 => by
    refine Cont.mono (meth0_use (m := 1) c0) fun x H1 ⟨a, dx, vs, e, s, q⟩ => ?_
    exact ⟨a, dx, vs, e, s, q⟩
/-- e.f, a property; its getter raises nothing -/
def quietF (f : AF) : AF := fun xs lo h => match f xs lo h with
  | .ok x h' => .ok x h'
  | _ => .bad
theorem je_prop {c : Nat} {f : AF} {p g : Addr} {nm : Str} {e : Expr} {fo : MF A} (W : Go X C E k) (hc : SCls X.K (C.gt c)) (at_ : PySem.W.findIn X.K (.ref (C.gt c)) nm = some (some (.ref p))) (get : PySem.W.specialIn X.K (.ref p) "__get__" = some (some (.builtin "property.__get__")))
    (tk : PySem.W.takesIn X.K (.ref p) = some true) (rc : ∃ rest, PySem.W.recIn X.K p "property" = some (.ref g :: rest)) (F : FnM X.prog X.w X.K X.mg X.base C j g 1 f) (hj : j + 1 ≤ k) (he : PE X e (tE C E fo)) (hb : attributeBase e nm X.env (eval e X.env) = eval e X.env := by rfl) :
    PE X (.Attribute e nm pos) (tE C E (methF0 c (quietF f) fo)) := by
  have F0 : FnR X.prog X.w X.K X.mg X.base (fun o H s _ u s' => L2.CX X.prog X.w o H s (fun _ _ _ => False) u s') j g (fun vs H Q E => spF C 1 f vs H Q fun _ _ _ => False) := fun A outer s H us vs Q E hr e0 r h => F A outer s H us vs Q (fun _ _ _ => False) hr e0 r h
  refine imp (pe_propSl (E := E) he hc at_ get tk rc F0 (W.room.mono hj) (fun H s e s' z => ?_) hb) fun σ H Q c0 => ?_
  · obtain ⟨_, _, _, _, _, _, _, _, _, _, _, _, z⟩ := z
    exact z.elim
  · refine Cont.mono (meth0_use (m := 1) c0) fun x H1 ⟨a, dx, vs, e, s, q⟩ => ?_
    subst e
    obtain ⟨h1, G, lo, h, xs, rh, rv, q⟩ := q
    refine ⟨a, dx, vs, rfl, s, h1, G, lo, h, xs, rh, rv, ?_⟩
    unfold quietF at q
    cases hz : f xs lo h with
    | bad => rw [hz] at q; exact q.elim
    | ex e h' => rw [hz] at q; exact q.elim
    | ok y h' => rw [hz] at q; exact q
/-- C.m(e, ..), m a classmethod -/
def gl1 (c : Nat) (f : MF A) : MF A := f
theorem je_cmeth {c m : Nat} {f : AF} {p g : Addr} {mc : Value} {nm : Str} {o e : Expr} {es : List Expr} {fs : MF (List A)} {pl : Sem Bool} {fo : MF A} (W : Go X C E k) (r : ClX.CRead X.K (C.gt c) mc) (hc : ClX.CMet X.K (C.gt c) mc nm p g) (F : FnM X.prog X.w X.K X.mg X.base C j g m f) (hj : j ≤ k) (ho : PE X o (tE C E (cA (.gl c)))) (ha : PA X (e :: es) (tA C E fs))
    (hst : starEach (e :: es) X.env = (false, eval e X.env) :: starEach es X.env := by rfl) (hpl : (backTo pos (starEach es X.env)).any (·.1) = false := by rfl)
    (ht : eval (.Call (.Attribute o nm apos) (e :: es) [] pos) X.env = (do
      let ov ← eval o X.env
      standAt apos.atName
      let (f, first) ← holding [ov] (getMethod ov nm pl)
      callWith pos f first (backTo pos (starEach (e :: es) X.env)) (backToKw pos (keywordEach [] X.env))) := by rfl) :
    PE X (.Call (.Attribute o nm apos) (e :: es) [] pos) (tE C E (calF (fun xs => lenF m f (.gl c :: xs)) fs)) :=
  imp (ClX.pe_cmeth ho r hc (F.mono hj) W.room W.pass ha hst hpl ht) fun σ H Q c0 => by
    obtain ⟨G, lo, h, s, rh, rs, rv, q⟩ := c0
    refine ⟨G, lo, h, s, rh, rs, .nil, ?_⟩
    intro G1 H1 v e1 r1 rv1
    cases rv1
    refine ⟨rfl, ?_⟩
    have c1 : tE C E (calF (fun xs => lenF m f (.gl c :: xs)) fs) σ H1 Q := ⟨G1, lo, h, s, r1, rs.ext e1, .nil, fin.ext e1 q⟩
    refine cal_use (r := fun vs H Q => spF C m f (.ref (C.gt c) :: vs) H Q E) (fun G lo h H xs vs Q rh rv q => ?_) c1
    exact lenF_ok G lo h H _ _ Q rh (.cons (.gl c) rv) q
end
end MA

set_option linter.all false
namespace MA
open PySem L2 SlX LamX
open PySem.Spec PyProof.Rows

/-! ### isinstance -/
inductive Ty0 where
  | int | bool | tup | lst | str | dct
def Ty0.name : Ty0 → String
  | .int => "int"
  | .bool => "bool"
  | .tup => "tuple"
  | .lst => "list"
  | .str => "str"
  | .dct => "dict"
/-- own classes whose slotted instances are told apart from all built-in types -/
structure ClF (K : PySem.W.Frag) (D : Addr) : Prop where
  sc : SCls K D
  si : SIsi K D
  cl : (PySem.W.clsIn K D).isSome = true
  ty : PySem.W.typeIn K (.ref D) = some (.type "type")
  nb : ∀ t : Ty0, PySem.W.mroIn K D (.type t.name) = some false
def isB0 (cs : List Nat) (t : Ty0) (h : Hs) : A → Option Bool
  | .non => some false
  | .bl _ => match t with
    | .int => some true
    | .bool => some true
    | _ => some false
  | .int _ => match t with
    | .int => some true
    | _ => some false
  | .str _ => match t with
    | .str => some true
    | _ => some false
  | .tup _ => match t with
    | .tup => some true
    | _ => some false
  | .ftup _ => match t with
    | .tup => some true
    | _ => some false
  | .ref i => match h[i]? with
    | some (.lst _) => match t with
      | .lst => some true
      | _ => some false
    | some (.flst _) => match t with
      | .lst => some true
      | _ => some false
    | some (.dk _) => match t with
      | .dct => some true
      | _ => some false
    | some (.dt _) => match t with
      | .dct => some true
      | _ => some false
    | some (.ins c _) => if cs.contains c then some false else none
    | some (.set _) => none
    | none => none
  | _ => none
def isC0 (cs : List Nat) (d : Nat) (h : Hs) : A → Option Bool
  | .non => some false
  | .bl _ => some false
  | .int _ => some false
  | .str _ => some false
  | .tup _ => some false
  | .ftup _ => some false
  | .ref i => match h[i]? with
    | some (.lst _) => some false
    | some (.flst _) => some false
    | some (.dk _) => some false
    | some (.dt _) => some false
    | some (.ins c _) => if cs.contains c then some (Nat.beq c d) else none
    | some (.set _) => none
    | none => none
  | _ => none
def optF (o : Hs → A → Option Bool) (f : MF A) : MF A := f.bind fun x => fun _ _ h => match o h x with
  | some b => .ok (.bl b) h
  | none => .bad
section
variable {X : Cx} {C : Kn} {E : XK} {k : Nat} {p p2 pos : Pos} {G : Loc} {h : Hs} {H : Hp} {Q : VK} {x : A} {v : V} {b : Bool}
def rIs (K : PySem.W.Frag) (u : Value) : List V → Hp → VK → Prop := fun xs H Q => rIsi K xs H Q ∨ rIsiSl K u xs H Q
theorem call_is (u : Value) : CallR X (.builtin "isinstance") (rIs X.K u) := by
  intro pins s σ H xs us Q I r h
  rcases h with h | h
  · exact call_isi pins s σ H xs us Q I r h
  · exact call_isiSl u pins s σ H xs us Q I r h
/-- all that has a built-in type -/
theorem is_ty {K : PySem.W.Frag} {n : Nat} (rh : Rh C G h H) (r : RV C G h.length H x v) (hi : ∀ i, x = .ref i → ∃ o, h[i]? = some o ∧ (∀ c fs, o ≠ .ins c fs) ∧ ∀ ys, o ≠ .set ys) (hg : ∀ g, x ≠ .gl g) (ht : ∀ s, x ≠ .ty s) (hl : ∀ ns, x ≠ .lit ns) : ∃ s : String, TyX K H v (.type s) ∧
    (match x with
    | .non => s = "NoneType"
    | .bl _ => s = "bool"
    | .int _ => s = "int"
    | .str _ => s = "str"
    | .tup _ => s = "tuple"
    | .ftup _ => s = "tuple"
    | .ref i => match h[i]? with
      | some (.lst _) => s = "list"
      | some (.flst _) => s = "list"
      | _ => s = "dict"
    | _ => True) := by
  cases r with
  | non => exact ⟨_, .base .non, rfl⟩
  | bl b => exact ⟨_, .base (.bl b), rfl⟩
  | int b => exact ⟨_, .base (.int b), rfl⟩
  | str b => exact ⟨_, .base (.str b), rfl⟩
  | tup e _ => exact ⟨_, .base (.tup e), rfl⟩
  | ftup e _ _ => exact ⟨_, .fTuple e, rfl⟩
  | gl g => exact absurd rfl (hg g)
  | ty s => exact absurd rfl (ht s)
  | lit _ => exact absurd rfl (hl _)
  | @ref i hlt =>
    obtain ⟨o, e, hn, hs⟩ := hi i rfl
    dsimp only
    rw [e]
    cases rh.obj i o e with
    | lst e _ => exact ⟨_, .base (.lst e), rfl⟩
    | flst e _ => exact ⟨_, .base (.frz e), rfl⟩
    | dk e _ => exact ⟨_, .base (.dK e), rfl⟩
    | dt e _ => exact ⟨_, .base (.dT e), rfl⟩
    | ins _ _ _ => exact absurd rfl (hn _ _)
    | set _ _ => exact absurd rfl (hs _)
theorem kB : ∀ (s : String) (t : Ty0), s ∈ ["NoneType", "bool", "int", "str", "tuple", "list", "dict"] → kitB s t.name = some (match t with
    | .int => decide (s = "int") || decide (s = "bool")
    | .bool => decide (s = "bool")
    | .tup => decide (s = "tuple")
    | .lst => decide (s = "list")
    | .str => decide (s = "str")
    | .dct => decide (s = "dict")) := by
  intro s t hs
  simp only [List.mem_cons, List.not_mem_nil, or_false] at hs
  rcases hs with rfl | rfl | rfl | rfl | rfl | rfl | rfl <;> cases t <;> decide +kernel
theorem kC {K : PySem.W.Frag} {D : Addr} (h1 : (PySem.W.clsIn K D).isSome = true) (h2 : PySem.W.typeIn K (.ref D) = some (.type "type")) : ∀ s : String, s ∈ ["NoneType", "bool", "int", "str", "tuple", "list", "dict"] → PySem.W.kitOne K (.type s) (.ref D) = some false := by
  intro s hs
  have e : PySem.W.kitOne K (.type s) (.ref D) = PySem.W.subIn K (.type s) (.ref D) := by
    unfold PySem.W.kitOne
    rw [if_neg (by intro z; cases eq_of_beq z)]
    show (if ((PySem.W.clsIn K D).isSome && PySem.W.typeIn K (.ref D) == some (.type "type")) = true then _ else _) = _
    rw [h1, h2, if_pos (by decide +kernel)]
  rw [e]
  show (fastBuiltinMro s).map (fun l => l.contains (.ref D)) = some false
  have key : ∀ s ∈ ["NoneType", "bool", "int", "str", "tuple", "list", "dict"], ∃ l, fastBuiltinMro s = some l ∧ l.all (fun v => match v with | .type _ => true | _ => false) = true := by
    intro s hs
    have : ∀ s ∈ ["NoneType", "bool", "int", "str", "tuple", "list", "dict"], (match fastBuiltinMro s with | some l => l.all (fun v => match v with | .type _ => true | _ => false) | none => false) = true := by decide +kernel
    have q := this s hs
    cases hz : fastBuiltinMro s with
    | none => rw [hz] at q; cases q
    | some l => rw [hz] at q; exact ⟨l, rfl, q⟩
  obtain ⟨l, e1, e2⟩ := key s hs
  rw [e1]
  show some (l.contains (.ref D)) = some false
  congr 1
  rw [Bool.eq_false_iff]
  intro z
  have z := List.contains_iff_mem.mp z
  have := (List.all_eq_true.mp e2) _ z
  cases this
theorem isB_ok {cs : List Nat} {t : Ty0} (hcs : ∀ c ∈ cs, ClF C.K (C.gt c)) (rh : Rh C G h H) (r : RV C G h.length H x v) (e : isB0 cs t h x = some b) (q : Q (.bl b) H) : rIs C.K (.type t.name) [v, .ty t.name] H Q := by
  by_cases hins : ∃ i c fs, x = .ref i ∧ h[i]? = some (.ins c fs)
  · obtain ⟨i, c, fs, rfl, hh⟩ := hins
    unfold isB0 at e
    dsimp only at e
    rw [hh] at e
    dsimp only at e
    split at e
    · rename_i hc
      cases e
      cases r with
      | ref hlt =>
        obtain ⟨vs, dx, d, s, rr⟩ := rh.ins hh
        have f := hcs c (List.contains_iff_mem.mp hc)
        refine .inr ⟨_, _, dx, vs, _, false, rfl, (show Value.type t.name = Value.type t.name from rfl), fun w hw => hw, s.slt, f.sc, f.si, ?_, q⟩
        have e : PySem.W.kitOne C.K (.ref (C.gt c)) (.type t.name) = PySem.W.kitCls C.K (.ref (C.gt c)) (.type t.name) := by
          unfold PySem.W.kitOne
          rw [if_neg (by intro z; cases eq_of_beq z)]
        rw [e]
        show (if PySem.W.kitMeta t.name = true then PySem.W.subIn C.K (.ref (C.gt c)) (.type t.name) else none) = some false
        rw [if_pos (by cases t <;> decide +kernel)]
        exact f.nb t
    · cases e
  · have hi : ∀ i, x = .ref i → ∃ o, h[i]? = some o ∧ (∀ c fs, o ≠ .ins c fs) ∧ ∀ ys, o ≠ .set ys := fun i hx => by
      subst hx
      cases hh : h[i]? with
      | none => unfold isB0 at e; dsimp only at e; rw [hh] at e; cases e
      | some o => exact ⟨o, rfl, fun c fs z => hins ⟨i, c, fs, rfl, by rw [hh, z]⟩, fun ys z => by
          subst z
          unfold isB0 at e
          dsimp only at e
          rw [hh] at e
          cases e⟩
    obtain ⟨s, ty, hs⟩ := is_ty (K := C.K) (n := 0) rh r hi (fun g z => by subst z; cases e) (fun g z => by subst z; cases e) (fun g z => by subst z; cases e)
    have fin : ∀ b', kitB s t.name = some b' → b' = b → rIs C.K (.type t.name) [v, .ty t.name] H Q := fun b' e1 e2 => by
      subst e2
      exact .inl ⟨v, _, _, _, b', rfl, .ty _, ty, kit_ty e1, q⟩
    cases x with
    | non => subst hs; refine fin _ (kB _ t (by simp)) ?_; unfold isB0 at e; cases e; cases t <;> rfl
    | bl _ => subst hs; refine fin _ (kB _ t (by simp)) ?_; unfold isB0 at e; cases t <;> cases e <;> rfl
    | int _ => subst hs; refine fin _ (kB _ t (by simp)) ?_; unfold isB0 at e; cases t <;> cases e <;> rfl
    | str _ => subst hs; refine fin _ (kB _ t (by simp)) ?_; unfold isB0 at e; cases t <;> cases e <;> rfl
    | tup _ => subst hs; refine fin _ (kB _ t (by simp)) ?_; unfold isB0 at e; cases t <;> cases e <;> rfl
    | ftup _ => subst hs; refine fin _ (kB _ t (by simp)) ?_; unfold isB0 at e; cases t <;> cases e <;> rfl
    | gl _ => cases e
    | ty _ => cases e
    | lit _ => cases e
    | ref i =>
      obtain ⟨o, e1, hn, hns⟩ := hi i rfl
      dsimp only at hs
      unfold isB0 at e
      dsimp only at e
      rw [e1] at e hs
      cases o with
      | lst _ => subst hs; refine fin _ (kB _ t (by simp)) ?_; cases t <;> cases e <;> rfl
      | flst _ => subst hs; refine fin _ (kB _ t (by simp)) ?_; cases t <;> cases e <;> rfl
      | dk _ => subst hs; refine fin _ (kB _ t (by simp)) ?_; cases t <;> cases e <;> rfl
      | dt _ => subst hs; refine fin _ (kB _ t (by simp)) ?_; cases t <;> cases e <;> rfl
      | ins c fs => exact absurd rfl (hn c fs)
      | set ys => exact absurd rfl (hns ys)
theorem isC_ok {cs : List Nat} {d : Nat} (hcs : ∀ c ∈ cs, ClF C.K (C.gt c) ∧ (c ≠ d → C.gt c ≠ C.gt d ∧ PySem.W.mroIn C.K (C.gt c) (.ref (C.gt d)) = some false)) (hd : (PySem.W.clsIn C.K (C.gt d)).isSome = true) (hd2 : PySem.W.typeIn C.K (.ref (C.gt d)) = some (.type "type"))
    (rh : Rh C G h H) (r : RV C G h.length H x v) (e : isC0 cs d h x = some b) (q : Q (.bl b) H) : rIs C.K (.ref (C.gt d)) [v, .ref (C.gt d)] H Q := by
  by_cases hins : ∃ i c fs, x = .ref i ∧ h[i]? = some (.ins c fs)
  · obtain ⟨i, c, fs, rfl, hh⟩ := hins
    unfold isC0 at e
    dsimp only at e
    rw [hh] at e
    dsimp only at e
    split at e
    · rename_i hc
      cases e
      cases r with
      | ref hlt =>
        obtain ⟨vs, dx, dd, s, rr⟩ := rh.ins hh
        obtain ⟨f, f2⟩ := hcs c (List.contains_iff_mem.mp hc)
        refine .inr ⟨_, _, dx, vs, _, _, rfl, (show Value.ref (C.gt d) = Value.ref (C.gt d) from rfl), fun w hw => hw, s.slt, f.sc, f.si, ?_, q⟩
        by_cases hcd : c = d
        · subst hcd
          unfold PySem.W.kitOne
          rw [if_pos (beq_self_eq_true _), Nat.beq_refl]
        · obtain ⟨n1, n2⟩ := f2 hcd
          unfold PySem.W.kitOne
          rw [if_neg (by intro z; exact n1 (Value.ref.inj (eq_of_beq z)))]
          have : Nat.beq c d = false := by
            cases hz : Nat.beq c d with
            | false => rfl
            | true => exact absurd (Nat.eq_of_beq_eq_true hz) hcd
          rw [this]
          show (if ((PySem.W.clsIn C.K (C.gt d)).isSome && PySem.W.typeIn C.K (.ref (C.gt d)) == some (.type "type")) = true then PySem.W.subIn C.K (.ref (C.gt c)) (.ref (C.gt d)) else none) = some false
          rw [hd, hd2, if_pos (by decide +kernel)]
          exact n2
    · cases e
  · have hi : ∀ i, x = .ref i → ∃ o, h[i]? = some o ∧ (∀ c fs, o ≠ .ins c fs) ∧ ∀ ys, o ≠ .set ys := fun i hx => by
      subst hx
      cases hh : h[i]? with
      | none => unfold isC0 at e; dsimp only at e; rw [hh] at e; cases e
      | some o => exact ⟨o, rfl, fun c fs z => hins ⟨i, c, fs, rfl, by rw [hh, z]⟩, fun ys z => by
          subst z
          unfold isC0 at e
          dsimp only at e
          rw [hh] at e
          cases e⟩
    obtain ⟨s, ty, hs⟩ := is_ty (K := C.K) (n := 0) rh r hi (fun g z => by subst z; cases e) (fun g z => by subst z; cases e) (fun g z => by subst z; cases e)
    have fin : s ∈ ["NoneType", "bool", "int", "str", "tuple", "list", "dict"] → false = b → rIs C.K (.ref (C.gt d)) [v, .ref (C.gt d)] H Q := fun e1 e2 => by
      subst e2
      exact .inl ⟨v, _, _, _, false, rfl, .own _, ty, kC hd hd2 s e1, q⟩
    cases x with
    | non => subst hs; refine fin (by simp) ?_; unfold isC0 at e; cases e; rfl
    | bl _ => subst hs; refine fin (by simp) ?_; unfold isC0 at e; cases e; rfl
    | int _ => subst hs; refine fin (by simp) ?_; unfold isC0 at e; cases e; rfl
    | str _ => subst hs; refine fin (by simp) ?_; unfold isC0 at e; cases e; rfl
    | tup _ => subst hs; refine fin (by simp) ?_; unfold isC0 at e; cases e; rfl
    | ftup _ => subst hs; refine fin (by simp) ?_; unfold isC0 at e; cases e; rfl
    | gl _ => cases e
    | ty _ => cases e
    | lit _ => cases e
    | ref i =>
      obtain ⟨o, e1, hn, hns⟩ := hi i rfl
      dsimp only at hs
      unfold isC0 at e
      dsimp only at e
      rw [e1] at e hs
      cases o with
      | lst _ => subst hs; refine fin (by simp) ?_; cases e; rfl
      | flst _ => subst hs; refine fin (by simp) ?_; cases e; rfl
      | dk _ => subst hs; refine fin (by simp) ?_; cases e; rfl
      | dt _ => subst hs; refine fin (by simp) ?_; cases e; rfl
      | ins c fs => exact absurd rfl (hn c fs)
      | set ys => exact absurd rfl (hns ys)
theorem opt_use {o : Hs → A → Option Bool} {f : MF A} {R : V → Hp → VK → Prop} (hr : ∀ (G : Loc) (h : Hs) (H : Hp) (x : A) (v : V) (b : Bool) (Q : VK), Rh C G h H → RV C G h.length H x v → o h x = some b → Q (.bl b) H → R v H Q) {σ : L2.St} {H : Hp} {Q : VK} (c : tE C E (optF o f) σ H Q) : tE C E f σ H fun v H1 => R v H1 Q :=
  Cont.mono (Cont.bind c) fun v H1 ⟨x, c1⟩ => by
    obtain ⟨G, lo, h, s, rh, rs, rv, q⟩ := c1
    obtain ⟨v', e', r⟩ := rvs1 rv
    cases e'
    dsimp only at q
    split at q
    · rename_i b hb
      exact hr G h H1 x v b Q rh r hb (fin_val q rh (.bl b))
    · exact q.elim
theorem boot_isi : bootBuiltins "isinstance" = some (.builtin "isinstance") := by first | exact PySem.boot_isinstance | decide +kernel | rfl
/-- isinstance(e, T), T a built-in type -/
theorem je_isB {e : Expr} {cs : List Nat} {t : Ty0} {fe : MF A} {y : Str} (W : Go X C E k) (hcs : ∀ c ∈ cs, ClF C.K (C.gt c)) (hg : Gl X "isinstance") (hm : X.mg "isinstance" = none) (he : PE X e (tE C E fe)) (hgt : Gl X y) (hmt : X.mg y = none) (hv : bootBuiltins y = some (.type t.name))
    (hn : y ≠ "__name__" := by decide) (hd : (y == ("__debug__" : Str)) = false := by decide)
    (hs : starEach [e, .Name y p2] X.env = (false, eval e X.env) :: starEach [.Name y p2] X.env := by rfl) (hpl : (backTo pos (starEach [.Name y p2] X.env)).any (·.1) = false := by rfl) :
    PE X (.Call (.Name "isinstance" p) [e, .Name y p2] [] pos) (tE C E (optF (isB0 cs t) fe)) :=
  imp (pe_callB (call_is (.type t.name)) hg hm boot_isi (pa_cons he (pa_cons (pe_bltn (v := .ty t.name) hgt hmt hv rfl hn hd) pa_nil) hs) (by decide) (by decide) hs hpl) fun σ H Q c =>
    opt_use (R := fun v H Q => rIs X.K (.type t.name) [v, .ty t.name] H Q) (fun G h H x v b Q rh r e q => by rw [W.K]; exact isB_ok hcs rh r e q) c
/-- isinstance(e, C), C a class of the text -/
theorem je_isC {e : Expr} {cs : List Nat} {d : Nat} {fe : MF A} {y : Str} (W : Go X C E k) (hcs : ∀ c ∈ cs, ClF C.K (C.gt c) ∧ (c ≠ d → C.gt c ≠ C.gt d ∧ PySem.W.mroIn C.K (C.gt c) (.ref (C.gt d)) = some false)) (hd1 : (PySem.W.clsIn C.K (C.gt d)).isSome = true) (hd2 : PySem.W.typeIn C.K (.ref (C.gt d)) = some (.type "type"))
    (hg : Gl X "isinstance") (hm : X.mg "isinstance" = none) (he : PE X e (tE C E fe)) (hgt : Gl X y) (hmt : X.mg y = some (.ref (C.gt d))) (hd : (y == ("__debug__" : Str)) = false := by decide)
    (hs : starEach [e, .Name y p2] X.env = (false, eval e X.env) :: starEach [.Name y p2] X.env := by rfl) (hpl : (backTo pos (starEach [.Name y p2] X.env)).any (·.1) = false := by rfl) :
    PE X (.Call (.Name "isinstance" p) [e, .Name y p2] [] pos) (tE C E (optF (isC0 cs d) fe)) :=
  imp (pe_callB (call_is (.ref (C.gt d))) hg hm boot_isi (pa_cons he (pa_cons (pe_glob (v := .ref (C.gt d)) hgt hmt rfl hd) pa_nil) hs) (by decide) (by decide) hs hpl) fun σ H Q c =>
    opt_use (R := fun v H Q => rIs X.K (.ref (C.gt d)) [v, .ref (C.gt d)] H Q) (fun G h H x v b Q rh r e q => by rw [W.K]; exact isC_ok hcs hd1 hd2 rh r e q) c
end
end MA

set_option linter.all false
set_option maxRecDepth 100000
namespace MA
open PySem L2
open PySem.W PySem.Calls PySem.Spec PyProof.Rows

/-! ### an own exception class over a built-in one: def __init__(self, y): super().__init__('..'); self.y = y -/
/-- what of the text such a class must have -/
structure ExF (P : Program) (K : PySem.W.Frag) (mg : Str → Option Value) (D fI cc cda : Addr) (B newId initId : String) (bmB : List Value) (qual : Str) (st : Stmt) (y : Str) : Prop where
  base : ExcBaseFacts B newId initId bmB
  kxs : KxsFacts B initId
  sf : StoreFacts B bmB "object.__setattr__" "object"
  exc : excInitIn K D bmB newId = true
  ini : findIn K (.ref D) "__init__" = some (some (.ref fI))
  fty : typeIn K (.ref fI) = some (.type "function")
  fn : ∃ oc od dV kV doc pm an ct osl, K.lookup fI = some ⟨oc, od, .func (ksFn "__init__" qual (defArgs st) (defBody st) (defScope st) dV kV doc pm an (.ref cda) ct cc), osl⟩ ∧
    ∀ (s : Shared) (e : Addr) (u : Value), BindsTo s (ksFn "__init__" qual (defArgs st) (defBody st) (defScope st) dV kV doc pm an (.ref cda) ct cc) ⟨[.ref e, u], []⟩ [("self", .ref e), (y, u)]
  code : codeIn K (.ref cda) qual = true
  cell : ∃ cl cld csl, K.lookup cc = some ⟨cl, cld, .cell (some (.ref D)), csl⟩
  file : ∃ ccl cdd vs ccs fl tf, K.lookup cda = some ⟨ccl, cdd, .fields vs, ccs⟩ ∧ vs[2]? = some (.str fl tf) ∧ ((P.main.file : Str) == fl) = true
  top : (P.main.scope.names.lookup ("super" : Str)).isSome = false
  sup : mg "super" = none
  sin : ks_superIn K D D "__init__" = some (some (.builtin initId))
  self : mroIn K D (.ref D) = some true
  subB : subIn K (.ref D) (.type B) = some true
  opq : nsIn K cStatics "thirdparty.any" = some none
  sa : findIn K (.ref D) "__setattr__" = some (some (.builtin "object.__setattr__"))
  over : excOver K D bmB = true
  no : takerIn K D y = some none
  hd : hasDictIn K D = true
  exC : subIn K (.ref D) (.type "BaseException") = some true
  tyC : typeIn K (.ref D) = some (.type "type")
  kC : keepIn K (.ref D) = true
/-- the def's text -/
structure ExT (st : Stmt) (y : Str) : Prop where
  arg : ((defArgs st).posonlyargs ++ (defArgs st).args).head?.map (·.arg) = some "self"
  body : ∃ p0 p1 p2 p3 p4 p5 p6 p7 p8 p9 j txt, defBody st = [.Expr (.Call (.Attribute (.Call (.Name "super" p0) [] [] p1) "__init__" p2) [.Constant (.str txt) j p3] [] p4) p5, .Assign [.Attribute (.Name "self" p6) y p7] (.Name y p8) p9] ∧
    ∃ pl : Sem Bool, ∀ env : Env, eval (.Call (.Attribute (.Call (.Name "super" p0) [] [] p1) "__init__" p2) [.Constant (.str txt) j p3] [] p4) env = (do
      let ov ← attributeBase (.Call (.Name "super" p0) [] [] p1) "__init__" env (eval (.Call (.Name "super" p0) [] [] p1) env)
      standAt p2.atName
      let (f, first) ← holding [ov] (getMethod ov "__init__" pl)
      callWith p4 f first (backTo p4 (starEach [.Constant (.str txt) j p3] env)) [])
  kind : (defScope st).kind = .function
  co : (defScope st).isCoroutine = false
  gen : (defScope st).isGenerator = false
  nocell : ∀ x ∈ (defScope st).names, x.2 ≠ .cell
  s1 : (defScope st).names.lookup ("super" : Str) = some .globalImplicit
  s2 : (defScope st).names.lookup ("__class__" : Str) = some .free
  s3 : (defScope st).names.lookup ("self" : Str) = some .local
  s4 : (defScope st).names.lookup y = some .local
  ne : ¬ y = "self"
  nd : (y == ("__debug__" : Str)) = false

section
variable {P : Program} {w : World} {A : Around} {E : Value → Shared → Prop} {R : Result → Shared → Prop} {K : PySem.W.Frag} {mg mb : Str → Option Value} {D fI cc cda : Addr} {B newId initId : String} {bmB : List Value} {qual y : Str} {st : Stmt}
/-- the first field of an exception: its dict is made -/
theorem exs_store {s : Shared} {x t : Addr} {v : Value} {Q : Unit → Shared → Prop} (T : ExF P K mg D fI cc cda B newId initId bmB qual st y) (XK : K.In s.heap) (hx : s.heap.get? x = some (excObj D t none .none))
    (hq : ∀ h' tk' dx, (∀ b o, b ≠ x → s.heap.get? b = some o → h'.get? b = some o) → s.heap.objs.size ≤ dx → dx ≠ x → h'.get? x = some (excObj D t (some dx) .none) → h'.Ns1 dx (fun z => if z = y then some v else none) → Q () { s with heap := h', toks := tk' }) :
    wpAny (model P w) A (setAttr (.ref x) y v) Q E s := by
  have I0 : InstAt s.heap x (excObj D t none .none) D none := ⟨hx, rfl, rfl, trivial⟩
  refine set_plain XK I0 T.sa (osa_openX (s := { s with toks := s.toks + 1 }) (od := none) T.sf XK I0 T.over T.no fun b => ?_)
  obtain ⟨cd, hc, hdd⟩ := any_some T.hd
  have Lc : Looks (model P w) s.heap (classData D) cd := looks_clsIn XK hc
  have xs : x ≠ s.heap.objs.size := Nat.ne_of_lt (Heap.lt_size hx)
  obtain ⟨hp, g, d, tk, os⟩ := s
  dsimp only at hq hx Lc xs ⊢
  refine wpAny_bind (wpAny_pure (wpAny_bind (instanceDict_exc (s := ⟨hp, g, d, tk + 1, os⟩) hx Lc hdd ?_)))
  have hx1 : (hp.push (dictOf [] 0)).get? x = some (excObj D t none .none) := Heap.get?_push_of_some _ hx
  show wpAny _ _ (Builtin.ObjectAttr.storeInDict hp.objs.size _ _ _) _ _ _
  refine PySem.HandSPX.store_in_new ⟨_, #[], _, (Heap.get?_update_ne _ _ _ _ xs.symm).trans (Heap.get?_push_at rfl rfl), rfl, fun e he => absurd he (by simp), fun _ => rfl⟩ fun h' tk' hn hs => ?_
  refine hq h' tk' hp.objs.size (fun b' o nb e => ?_) (Nat.le_refl _) xs.symm ?_ hn
  · exact (hs.2 b' (Nat.ne_of_lt (Heap.lt_size e))).trans ((Heap.get?_update_ne _ _ _ _ nb).trans (Heap.get?_push_of_some _ e))
  · exact (hs.2 x xs).trans (Heap.get?_update_self _ hx1 rfl)
/-- the __init__ runs -/
theorem exs_init {s : Shared} {e t : Addr} {u : Value} (T : ExF P K mg D fI cc cda B newId initId bmB qual st y) (Tx : ExT st y) (XK : K.In s.heap) (hG : s.heap.Ns mainGlobals mg) (hB : s.heap.Ns builtinsNs mb) (hb : ∀ x : Str, x ≠ "__name__" → mb x = bootBuiltins x) (hl : s.heap.NoLimit)
    (hroom : A.depth < recursionLimit) (he : s.heap.get? e = some (excObj D t none .none)) (hn : e ≠ mainGlobals ∧ e ≠ builtinsNs) (hK : K.lookup e = none)
    (hq : ∀ h' tk' t' dx, (∀ b o, b ≠ e → s.heap.get? b = some o → h'.get? b = some o) → s.heap.objs.size ≤ dx → h'.get? e = some (excObj D t' (some dx) .none) → h'.Ns1 dx (fun z => if z = y then some u else none) → R (.ok (.ret .none)) { s with heap := h', toks := tk' }) :
    codeAny (model P w) A (.call (.ref fI) ⟨[.ref e, u], []⟩) R s := by
  obtain ⟨oc, od, dV, kV, doc, pm, an, ct, osl, lk, bnd⟩ := T.fn
  obtain ⟨p0, p1, p2, p3, p4, p5, p6, p7, p8, p9, j, txt, hbody, pl, hpl⟩ := Tx.body
  obtain ⟨cl, cld, csl, hcell⟩ := T.cell
  obtain ⟨ccl, cdd, vs, ccs, fl, tf, hcode, hvs, hfile⟩ := T.file
  have hbinds : ∀ x ∈ [(("self" : Str), Value.ref e), (y, u)], (defScope st).names.lookup x.1 = some .local := by
    intro x hx
    rcases List.mem_cons.mp hx with rfl | hx
    · exact Tx.s3
    · rcases List.mem_cons.mp hx with rfl | hx
      · exact Tx.s4
      · cases hx
  refine ks_codeAny_call_defAt hroom (XK _ _ lk) rfl hl (codeRec_of XK T.code) rfl (bnd s e u) Tx.nocell hbinds (fun h1 hns hk => ?_) Tx.co Tx.gen Tx.kind
  rw [hbody]
  have KI : ∀ h' : Heap, (∀ b o, s.heap.get? b = some o → h'.get? b = some o) → K.In h' := fun h' k b o z => k b o (XK b o z)
  have hself : [(("self" : Str), Value.ref e), (y, u)].reverse.lookup ("self" : Str) = some (.ref e) := by
    show [(y, u), (("self" : Str), Value.ref e)].lookup ("self" : Str) = some (.ref e)
    rw [List.lookup_cons]
    have : (("self" : Str) == y) = false := by
      rw [beq_eq_false_iff_ne]
      exact fun z => Tx.ne z.symm
    rw [this]
    simp
  have hy : [(("self" : Str), Value.ref e), (y, u)].reverse.lookup y = some u := by
    show [(y, u), (("self" : Str), Value.ref e)].lookup y = some u
    simp
  have K1 := KI h1 hk
  obtain ⟨hh, g, d, tk, os⟩ := s
  dsimp only at he hk hns hG hB XK hl
  let s0 : Heap := hh
  let L : Addr := hh.objs.size
  -- super()
  have hD : ∃ oD cdD, h1.get? D = some oD ∧ oD.data = .cls cdD ∧ clsIn K D = some cdD := by
    cases hc : clsIn K D with
    | none =>
      have := T.self
      unfold mroIn at this
      rw [hc] at this
      cases this
    | some cdD =>
      unfold clsIn at hc
      split at hc
      · rename_i c d cd' sl ho
        cases hc
        exact ⟨_, _, K1 _ _ ho, rfl, rfl⟩
      · cases hc
  obtain ⟨oD, cdD, hD1, hD2, hcd⟩ := hD
  have e1 : h1.get? e = some (excObj D t none .none) := hk _ _ he
  have I1 : InstAt h1 e (excObj D t none .none) D none := ⟨e1, rfl, rfl, trivial⟩
  have ar : ∃ ar : Arg, ((defArgs st).posonlyargs ++ (defArgs st).args).head? = some ar ∧ ar.arg = "self" := by
    have := Tx.arg
    cases hz : ((defArgs st).posonlyargs ++ (defArgs st).args).head? with
    | none => rw [hz] at this; cases this
    | some ar => rw [hz] at this; exact ⟨ar, rfl, Option.some.inj this⟩
  obtain ⟨ar, har, har2⟩ := ar
  refine ks_wpAt_execs_cons (ks_wpAt_Expr_any (hi := by unfold interactive; rw [show (callEnv _ _ _).scope = defScope st from rfl, Tx.kind]; rfl) (ks_wpAt_MethodCall (pl := pl) ?_ (hpl _)))
  refine ks_wpAt_super_base (env := ksEnv qual (defScope st) hh.objs.size fI (.ref cda) cc) Tx.s1 Tx.s2 rfl rfl (K1 _ _ lk) rfl har rfl (K1 _ _ hcode) rfl hvs hfile T.top ?_
  refine ks_loadName_global Tx.kind Tx.s1 (loadGlobal_builtin (env := ksEnv qual (defScope st) hh.objs.size fI (.ref cda) cc) (hG.keeps hk) T.sup (hB.keeps hk) ((hb _ (by decide +kernel)).trans (by first | exact PyProof.Rows.Boot.«super» | decide +kernel)) ⟨rfl, ?_⟩)
  refine wpAny_loadName_free Tx.kind Tx.s2 rfl ⟨_, K1 _ _ hcell, rfl⟩ ?_
  rw [har2]
  refine wpAny_loadName_local Tx.kind Tx.s3 hns hself ?_
  refine ks_wpAny_isType_cls hD1 hD2 ⟨rfl, ?_⟩
  refine ks_wpAny_call_super hD1 hD2 e1 rfl (fun c z => nomatch z) (looks_mroIn K1 T.self) fun h2 hso k2 => ?_
  -- super().__init__
  have K2 := KI h2 fun b o z => k2 _ _ (hk _ _ z)
  have e2 := k2 _ _ e1
  have I2 : InstAt h2 e (excObj D t none .none) D none := ⟨e2, rfl, rfl, trivial⟩
  have hsu := T.sin
  unfold ks_superIn at hsu
  rw [hcd] at hsu
  refine kxs_getMethod T.kxs hso (looks_opaque K2 T.opq) (l₀ := cdD.mro) (fun A Q E s k q => wpAny_bind ((looks_clsIn K2 hcd) A _ E s k (wpAny_pure q))) rfl K2 hsu (I2.type.andThen (looks_subIn K2 T.subB)) (ks_ne K2 I2 hcd) rfl ?_
  -- the call
  let N2 : Heap := h2.push (kxs_mw initId e)
  have kN : ∀ b o, h2.get? b = some o → N2.get? b = some o := fun b o z => Heap.get?_push_of_some _ z
  have hmw : N2.get? h2.objs.size = some (kxs_mw initId e) := Heap.get?_push_at rfl rfl
  have frees : ∀ b o, s0.get? b = some o → b < L := fun b o z => Heap.lt_size z
  let g0 : Heap := hideAll s0 [e]
  have eL : e < L := frees _ _ he
  have kAll : ∀ b o, s0.get? b = some o → N2.get? b = some o := fun b o z => kN _ _ (k2 _ _ (hk _ _ z))
  have lt2 : L < h2.objs.size := by
    obtain ⟨oL, _, _, hoL, _⟩ := hns
    exact Heap.lt_size (k2 _ _ hoL)
  have F0 : Fr g0 L N2 (fun x => [(("self" : Str), Value.ref e), (y, u)].reverse.lookup x) := by
    refine ⟨?_, fun b o z => kAll b o (of_hideAll _ z), Nat.le_of_eq (hideAll_size _ _)⟩
    exact (hns.keeps k2).keeps kN
  have N0 : News g0 L N2 [(h2.objs.size, kxs_mw initId e), (e, excObj D t none .none)] := by
    intro p hp
    rcases List.mem_cons.mp hp with rfl | hp
    · refine ⟨hmw, Nat.ne_of_gt lt2, ?_⟩
      cases hz : g0.get? h2.objs.size with
      | none => rfl
      | some o => exact absurd (Heap.lt_size (of_hideAll _ hz)) (Nat.not_lt.mpr (Nat.le_of_lt lt2))
    · rcases List.mem_cons.mp hp with rfl | hp
      · exact ⟨kAll _ _ he, Nat.ne_of_lt eL, hideAll_none _ List.mem_cons_self⟩
      · cases hp
  have K0 : K.In g0 := fun b o z => hideAll_get _ (XK b o z) fun hm => by
    rcases List.mem_cons.mp hm with q | q
    · rw [q, hK] at z; cases z
    · cases q
  refine kxs_callWith (i := initId) (x := e) (by rfl) ?_
  refine evalArgs_plain (Calls.spliced_cons (Calls.Constant_str (k := j) (pos := p3) (Calls.spliced_nil ?_)))
  refine ⟨hmw, ?_⟩
  refine kxs_call (s := ⟨N2, g, d, _, os⟩) (m := fun x => [(("self" : Str), Value.ref e), (y, u)].reverse.lookup x) F0 K0 N0 T.base T.exc List.mem_cons_self (.tail (Nat.ne_of_gt (Nat.lt_trans eL lt2)) (.head fun _ z => nomatch z)) (by show 1 ≤ sizeLine; decide) fun t' h3 F3 N3 _ => ?_
  dsimp only
  have e3 : h3.get? e = some (excObj D t' none .none) := (N3 (e, excObj D t' none .none) (by simp)).1
  have k3 : ∀ b o, b ≠ e → s0.get? b = some o → h3.get? b = some o := fun b o nb z => F3.keep b o (hideAll_get _ z fun hm => by
    rcases List.mem_cons.mp hm with q | q
    · exact nb q
    · cases q)
  -- self.y = y
  refine ks_wpAt_execs_cons (ks_wpAt_Assign_Attr ?_)
  refine wpAt_of_wpAny (wpAny_Name (wpAny_loadName_local Tx.kind Tx.s4 F3.ns hy ?_) Tx.nd)
  refine wpAny_Name (wpAny_loadName_local Tx.kind Tx.s3 F3.ns hself ?_) (by decide)
  refine exs_store T (K0.keeps F3.keep) e3 fun h4 tk4 dx k4 hdx ndx e4 n4 => ?_
  refine wpAt_of_wpAny (wpAny_execs_nil ?_)
  refine hq h4 tk4 t' dx (fun b o nb z => k4 b o nb (k3 b o nb z)) ?_ e4 n4
  refine Nat.le_trans (Nat.le_of_lt ?_) hdx
  obtain ⟨oL, _, _, hoL, _⟩ := F3.ns
  exact Heap.lt_size hoL
end
end MA

set_option linter.all false
set_option maxRecDepth 100000
namespace MA
open PySem L2 SlX LamX
open PySem.Spec PyProof.Rows

section
variable {X : Cx} {mg : Str → Option Value} {D fI cc cda : Addr} {B newId initId : String} {bmB : List Value} {qual y : Str} {st : Stmt} {k : Nat}
theorem pmk_ex {e : Expr} {te : TE} {x : Str} {p pos : Pos} (T : ExF X.prog X.K X.mg D fI cc cda B newId initId bmB qual st y) (Tx : ExT st y) (hr : Room (k + 1) X.A) (hg : Gl X x) (hm : X.mg x = some (.ref D)) (ha : PE X e te) (hdb : (x == ("__debug__" : Str)) = false := by decide)
    (he : starEach [e] X.env = (false, eval e X.env) :: starEach [] X.env := by rfl) (hpl : (backTo pos (starEach [] X.env)).any (·.1) = false := by rfl) :
    PMk X (.Call (.Name x p) [e] [] pos) (fun σ H Q => te σ H fun v H1 => ∀ d, H1 d = none → Q (.ref D) (some d) (upd H1 d (.xd [(y, v)]))) := by
  intro pins s σ H Q I h
  refine wpAny_Call_Name_kw (ld_glob I hg hm ?_ hdb)
  have ha2 := pa_cons ha pa_nil he
  refine PySem.W.callWith_K (h₀ := X.base) I.ok.mod.kin T.kC (thn (ha2.run pos pins s σ H (fun vs H1 => match vs with | [v] => ∀ d, H1 d = none → Q (.ref D) (some d) (upd H1 d (.xd [(y, v)])) | _ => False) I h) fun us s1 ⟨vs, H1, I1, r1, q⟩ => ⟨I1.kIn, ?_⟩) he hpl
  obtain ⟨v, rfl⟩ : ∃ v, vs = [v] := by
    dsimp only at q
    split at q
    · exact ⟨_, rfl⟩
    · exact q.elim
  dsimp only at q
  obtain ⟨u, rfl, ru⟩ : ∃ u, us = [u] ∧ RelV v u := by
    cases r1 with
    | cons a b =>
      cases b
      exact ⟨_, rfl, a⟩
  obtain ⟨nm, N, qn, bs, bm, hdct, sn, sub, ab, col, dd, k0, k1, k2, k3, k5, hC, hT⟩ := PySem.W.excInit_of I1.kIn T.exc
  obtain ⟨mb, hb1, hb2⟩ := I1.mod.blt
  have lt0 : ∀ b o, s1.heap.get? b = some o → b < s1.heap.objs.size := fun b o z => Heap.lt_size z
  have hA : X.A.handled = none := hr.hd
  obtain ⟨hp, g, d, tk, os⟩ := s1
  dsimp only at hC lt0
  have kk : ∀ b o, hp.get? b = some o → ((hp.push (PySem.W.kdv_tup [u])).push (PySem.HandSPX.excO D hp.objs.size)).get? b = some o := fun b o z => Heap.get?_push_of_some _ (Heap.get?_push_of_some _ z)
  have hget : ((hp.push (PySem.W.kdv_tup [u])).push (PySem.HandSPX.excO D hp.objs.size)).get? (hp.objs.size + 1) = some (PySem.HandSPX.excO D hp.objs.size) := by heap_get
  have hsz : hp.objs.size ≤ hp.objs.size + 1 := Nat.le_succ _
  have mk := hr.make D [u] []
  refine wpAny_call (PySem.HandSPX.call_own T.base hT hC (PySem.W.looks_findIn I1.kIn T.ini) (fun self => PySem.W.bind_fn I1.kIn self T.fty) (by show 1 ≤ sizeLine; decide) ?_)
  refine exs_init (K := X.K) (mg := X.mg) (mb := mb) T Tx (fun b o z => kk b o (I1.kIn b o z)) ((I1.mod.glob.keeps I1.bk).keeps kk) ((hb1.keeps I1.bk).keeps kk) hb2 ((I1.nolimit).keeps kk) mk.depth hget ⟨?_, ?_⟩ ?_ fun h' tk' t' dx k' hdx e' n' => ?_
  · intro z
    obtain ⟨o, _, _, ho, _⟩ := I1.mod.glob.keeps I1.bk
    have := lt0 _ _ ho
    rw [← z] at this
    exact absurd this (Nat.not_lt.mpr hsz)
  · intro z
    obtain ⟨o, _, _, ho, _⟩ := hb1.keeps I1.bk
    have := lt0 _ _ ho
    rw [← z] at this
    exact absurd this (Nat.not_lt.mpr hsz)
  · cases hz : X.K.lookup (hp.objs.size + 1) with
    | none => rfl
    | some o => exact absurd (lt0 _ _ (I1.kIn _ _ hz)) (Nat.not_lt.mpr hsz)
  · dsimp only at hdx
    rw [Heap.size_push, Heap.size_push] at hdx
    have hdx : hp.objs.size + 2 ≤ dx := hdx
    have ne : ∀ b o, hp.get? b = some o → b ≠ hp.objs.size + 1 := fun b o z => Nat.ne_of_lt (Nat.lt_succ_of_lt (lt0 b o z))
    have keep : ∀ b o, hp.get? b = some o → h'.get? b = some o := fun b o z => k' b o (ne b o z) (kk b o z)
    have hdx0 : hp.objs.size ≤ dx := Nat.le_trans (Nat.le_add_right _ 2) hdx
    have dne : dx ≠ hp.objs.size + 1 := Nat.ne_of_gt hdx
    have hn1 : H1 dx = none := I1.hok.fresh hdx0
    obtain ⟨GG, g1, g2⟩ := restrict h' fun b => decide (b ≠ hp.objs.size + 1)
    have gk : ∀ b, b ≠ hp.objs.size + 1 → GG.get? b = h'.get? b := fun b hb => g1 b (decide_eq_true hb)
    have ge : GG.get? (hp.objs.size + 1) = none := g2 _ (by simp)
    have J : Inv X pins σ (upd H1 dx (.xd [(y, v)])) ⟨GG, g, d, tk', os⟩ := I1.laid (t' := tk') (a := dx) (o := .xd [(y, v)]) (h' := GG) (fun b o z => (gk b (ne b o z)).trans (keep b o z)) hdx0 (by
      refine ⟨_, n'.at fun o z => (gk dx dne).trans z, fun f => ?_⟩
      by_cases hf : f = y
      · subst hf
        simp
        exact ru
      · have e : (f == y) = false := by simpa using hf
        simp [List.lookup, e, hf]
        exact True.intro)
    refine ⟨rfl, hp.objs.size + 1, _, _, ⟨GG, g, d, tk', os⟩, _, .ref D, some dx, rfl, J, fun b o z => ?_, ge, e', ⟨rfl, rfl⟩, rfl, rfl, ?_, rfl, J.bare, raises_own T.exC T.tyC, q dx hn1⟩
    · by_cases hba : b = hp.objs.size + 1
      · rw [hba, ge] at z
        cases z
      · exact (gk b hba).symm.trans z
    · rw [upd_ne (Ne.symm dne)]
      exact I1.hok.fresh hsz
end
section
variable {X : Cx} {C : Kn} {E : XK} {k : Nat} {p p2 pos : Pos}
/-- raise X('..'), X without an own __init__ -/
def raise0S (c : Nat) : MF Fl := fun _ _ h => .ex ⟨c, none⟩ h
theorem js_raise0 {c : Nat} {e : Expr} (W : Go X C E k) (tk : Takes X fun cls d _ H => E cls d H) (he : PMk X e fun _ H Q => Q (.ref (C.gt c)) none H) : PS X (.Raise (some e) none pos) (tS C E (raise0S c)) :=
  impS (ps_raise W.calm tk he) fun D σ H q => by
    obtain ⟨G, lo, h, s, rh, rs, rv, f⟩ := q
    exact f G H _ _ Ext.refl rh ⟨rfl, rfl⟩
/-- raise X(e), X with its one field -/
def raise1S (c : Nat) (f : MF A) : MF Fl := f.bind fun x => fun _ _ h => .ex ⟨c, some x⟩ h
theorem js_raise1 {c : Nat} {e e' : Expr} {f : MF A} (W : Go X C E k) (tk : Takes X fun cls d _ H => E cls d H)
    (he : PMk X e fun σ H Q => tE C E f σ H fun v H1 => ∀ d, H1 d = none → Q (.ref (C.gt c)) (some d) (upd H1 d (.xd [(C.xf c, v)]))) : PS X (.Raise (some e) none pos) (tS C E (raise1S c f)) :=
  impS (ps_raise W.calm tk he) fun D σ H q => Cont.mono (ContS.bind q) fun v H1 ⟨x, c1⟩ => by
    obtain ⟨G, lo, h, s, rh, rs, rv, q⟩ := c1
    obtain ⟨v', e', r⟩ := rvs1 rv
    cases e'
    intro d hd
    have e1 : Ext lo h.length G H1 h.length G (upd H1 d (.xd [(C.xf c, v)])) := Ext.grow (keeps_new hd) rh
    exact q G _ _ _ e1 (rh.grow (keeps_new hd)) ⟨rfl, d, v, rfl, upd_same, r.ext e1⟩
end
end MA

set_option linter.all false
set_option maxRecDepth 100000
namespace MA
open PySem L2 SlX LamX
open PySem.Spec PyProof.Rows

/-! ### try with several clauses, with names or without -/
abbrev Cls1 := Value × Option Nat × (Addr → Value → Option Addr → TS)
/-- the ends of a suite whose name goes -/
def wiped (i : Nat) (D : Ends) : Ends := { nx := fun τ K => D.nx (τ.set i none) K, rt := D.rt, bk := fun τ K => D.bk (τ.set i none) K, ct := fun τ K => D.ct (τ.set i none) K }
def wAll (K : PySem.W.Frag) (Wo : WX) (D : Ends) : List Cls1 → WX
  | [] => Wo
  | (c, oi, ts) :: r => fun cls d σ H => ∃ b, PySem.W.exmOne K cls c = some b ∧ (b = true → ∀ a, H a = none → match oi with
      | none => ts a cls d D σ H
      | some i => ts a cls d (wiped i D) (σ.set i (some (.ref a))) H) ∧ (b = false → wAll K Wo D r cls d σ H)
inductive HdA (X : Cx) : List ExceptHandler → List Cls1 → Prop
  | nil : HdA X [] []
  | plain {x : Str} {c : Value} {ts : Addr → Value → Option Addr → TS} {b0 : Stmt} {su : List Stmt} {np q : Pos} {hs : List ExceptHandler} {l : List Cls1} (hc : Names X x c)
      (hsu : ∀ (a : Addr) (oe : Obj) (cls : Value) (d : Option Addr) (pn : List (Addr × Obj)), Zc cls d oe → (∃ vs, oe.data = .fields vs) → PSs (X.suite a ((a, oe) :: pn)) (b0 :: su) (ts a cls d)) (r : HdA X hs l) :
      HdA X (.ExceptHandler (some (.Name x np)) none (b0 :: su) q :: hs) ((c, none, ts) :: l)
  | named {x n : Str} {i : Nat} {c : Value} {ts : Addr → Value → Option Addr → TS} {b0 : Stmt} {su : List Stmt} {np q : Pos} {hs : List ExceptHandler} {l : List Cls1} (hi : X.N[i]? = some n) (hln : X.env.kindOf n = some .local) (hc : Names X x c)
      (hsu : ∀ (a : Addr) (oe : Obj) (cls : Value) (d : Option Addr) (pn : List (Addr × Obj)), Zc cls d oe → (∃ vs, oe.data = .fields vs) → PSs (X.suite a ((a, oe) :: pn)) (b0 :: su) (ts a cls d)) (r : HdA X hs l) :
      HdA X (.ExceptHandler (some (.Name x np)) (some n) (b0 :: su) q :: hs) ((c, some i, ts) :: l)
section
variable {X : Cx} {body : List Stmt} {h₀ : ExceptHandler} {hds : List ExceptHandler} {l : List Cls1} {pos : Pos} {tb : WX → TS} {Wo : WX}
theorem ps_try_all (hs : X.stack = X.env :: X.outer) (hf : X.env.frame = some X.env.locals) (hN : X.N.Nodup) (tk : Takes X Wo)
    (hb : ∀ (W : WX) (ps : List (Addr × Obj)) (xe : Value → Shared → Prop), Takes (X.tr ps xe) W → PassesOwn (model X.prog X.w) X.A X.env xe → PSs (X.tr ps xe) body (tb W))
    (hh : HdA X (h₀ :: hds) l) : PS X (.Try body (h₀ :: hds) [] [] pos) (fun D τ K => tb (wAll X.K Wo D l) D τ K) := by
  refine ⟨fun pins s τ H D I0 w0 => ?_⟩
  have okX := I0.ok
  have frX : X.A.frames = some (X.env :: X.outer) := by rw [okX.frames, hs]
  refine wpAny_Try_except ?_
  have B := (hb (wAll X.K Wo D l) (X.pn ++ pins) (fun e s1 => wpAny (model X.prog X.w) X.A (noteFrame e X.env) (fun _ s2 => wpAny (model X.prog X.w) X.A (setFlight e none) (fun _ s3 =>
    wpAny (model X.prog X.w) X.A (handleBy e X.env (h₀ :: hds)) (SP X pins D) X.xe s3) X.xe s2) X.xe s1) (fun u s' caught => ?_) PassesOwn.looking).run [] s τ H D (I0.toTry _) w0
  · refine wpAny_mono B (fun fl s1 done => ?_) fun _ _ z => z
    cases fl with
    | ret u =>
      obtain ⟨v, τ1, H1, I1, rv, q⟩ := done
      exact ⟨v, τ1, H1, I1.ofTry okX, rv, q⟩
    | next =>
      obtain ⟨τ1, H1, I1, q⟩ := done
      exact wpAny_execs_nil ⟨τ1, H1, I1.ofTry okX, q⟩
    | brk =>
      obtain ⟨τ1, H1, I1, q⟩ := done
      exact ⟨τ1, H1, I1.ofTry okX, q⟩
    | cont =>
      obtain ⟨τ1, H1, I1, q⟩ := done
      exact ⟨τ1, H1, I1.ofTry okX, q⟩
  · obtain ⟨a, BB, sI, pins1, τ1, H1, cls, d, rfl, I1, nb, up, sky, na, eos, bare, w1⟩ := caught
    have J1 : Inv X pins τ1 H1 sI := I1.ofTry okX
    have sky1 : Sky BB (X.env :: X.outer) a (Zc cls d) X.env.locals s'.heap := by rw [← hs]; exact sky
    show wpAny (model X.prog X.w) X.A (noteFrame (.ref a) X.env) _ _ _
    refine Sky.land Zc.steady frX hf sky1 fun h3 fl3 up3 => ?_
    have J3 : Inv X pins τ1 H1 { s' with heap := h3 } := J1.landed nb fl3.1 (up.trans up3) eos bare
    obtain ⟨o3, v3, at3, z3, d3⟩ := fl3.there
    have out : a ∉ frs (X.env :: X.outer) := fun hm => by
      obtain ⟨_, o', e', hno⟩ := fl3.2.2.1.mem hm
      have e' : h3.get? a = some o' := e'
      rw [at3] at e'
      cases e'
      exact hno _ d3
    have outL : a ≠ X.env.locals := fun z => out (List.mem_filterMap.mpr ⟨X.env, List.mem_cons_self, by rw [hf, z]⟩)
    have outF : a ∉ X.fs := fun hm => by
      obtain ⟨e, he, q⟩ := List.mem_filterMap.mp hm
      exact out (List.mem_filterMap.mpr ⟨e, List.mem_cons_of_mem _ he, q⟩)
    have S3 := J3.suite at3 d3 na outL outF
    have LT : PySem.W.Looks (model X.prog X.w) h3 (typeOf (.ref a)) cls := fun _ _ _ _ k q => wpAny_typeOf_ref (k _ _ at3) (by rw [z3.1]; exact q)
    have name : ∀ {x : Str} {np : Pos} {c : Value} {Q : Value → Shared → Prop} {E : Value → Shared → Prop}, Names X x c → Q c { s' with heap := h3 } → wpAny (model X.prog X.w) (X.A.mark (some (.ref a))) (eval (.Name x np) X.env) Q E { s' with heap := h3 } := fun {x np c Q E} hc q => by
      obtain ⟨hg, hdbg, hm | ⟨hm, hv, hnn⟩⟩ := hc
      · exact ld_glob (X := X.suite a ((a, o3) :: (X.pn ++ pins))) S3 hg hm q hdbg
      · exact ld_blt (X := X.suite a ((a, o3) :: (X.pn ++ pins))) S3 hg hm hv q hnn hdbg
    have run : ∀ {hs' : List ExceptHandler} {l' : List Cls1}, HdA X hs' l' → wAll X.K Wo D l' cls d τ1 H1 → wpAny (model X.prog X.w) X.A (handleBy (.ref a) X.env hs') (SP X pins D) X.xe { s' with heap := h3 } := by
      intro hs' l' hk
      induction hk with
      | nil =>
        intro w
        refine wpAny_handleBy_nil ?_
        obtain ⟨k1, k2, k3, oo, ws, TT, oT, ts', hoo, hzz, hdd, h11, hrr⟩ := id fl3
        unfold PySem.passOn
        refine wpAny_bind (wpAny_field hoo hdd h11 ?_)
        rw [if_neg (show ¬ ((Value.ref TT == Value.none) = true) from by simp)]
        have off : wpAny (model X.prog X.w) X.A (setFlight (.ref a) X.env.frame) (fun _ s4 => wpAny (model X.prog X.w) X.A (throw (.ref a) : Sem Flow) (SP X pins D) X.xe s4) X.xe { s' with heap := h3 } := by
          rw [hf]
          refine HandSPX.setFlight_upZ fl3 fun h4 hh4 up4 => wpAny_throw (tk _ _ ?_)
          exact ⟨a, BB, sI, pins, τ1, H1, cls, d, rfl, J1, nb, (up.trans up3).trans up4, .inr (.inr (by rw [hs]; exact hh4)), na, eos, bare, w⟩
        first
          | exact wpAny_bind (wpAny_pure (wpAny_bind off))
          | exact wpAny_bind off
      | @plain x c ts b0 su np q hs2 l2 hc hsu r ih =>
        intro w
        obtain ⟨b, e1, yes, no⟩ := w
        refine wpAny_handleBy_cons (codeAny_handlers_test ?_) (by intro z; cases z)
        refine name hc ((PySem.W.exm_one (M := model X.prog X.w) J3.kIn LT e1).here ?_)
        cases b with
        | false => exact ih (no rfl)
        | true =>
          refine codeAny_handlers_suite ?_
          refine HandSPX.lands_againZ fl3 fun h4 fl4 up4 => ?_
          have J4 : Inv X pins τ1 H1 { s' with heap := h4 } := J1.landed nb fl4.1 ((up.trans up3).trans up4) eos bare
          obtain ⟨o4, v4, at4, z4, d4⟩ := fl4.there
          have S4 := J4.suite at4 d4 na outL outF
          refine wpAny_mono ((hsu a o4 cls d (X.pn ++ pins) z4 ⟨_, d4⟩).run [] _ _ H1 _ S4 (yes rfl a na)) (fun fl s6 done => ?_) fun _ _ z => z.elim
          cases fl with
          | ret u =>
            obtain ⟨v6, τ6, H6, S6, r6, q6⟩ := done
            exact ⟨_, _, _, S6.unsuite okX, r6, q6⟩
          | next =>
            obtain ⟨τ6, H6, S6, q6⟩ := done
            exact ⟨_, _, S6.unsuite okX, q6⟩
          | brk =>
            obtain ⟨τ6, H6, S6, q6⟩ := done
            exact ⟨_, _, S6.unsuite okX, q6⟩
          | cont =>
            obtain ⟨τ6, H6, S6, q6⟩ := done
            exact ⟨_, _, S6.unsuite okX, q6⟩
      | @named x n i c ts b0 su np q hs2 l2 hi hln hc hsu r ih =>
        intro w
        obtain ⟨b, e1, yes, no⟩ := w
        refine wpAny_handleBy_cons (codeAny_handlers_test ?_) (by intro z; cases z)
        refine name hc ((PySem.W.exm_one (M := model X.prog X.w) J3.kIn LT e1).here ?_)
        cases b with
        | false => exact ih (no rfl)
        | true =>
          refine codeAny_handlers_suite_as ?_
          refine HandSPX.lands_againZ fl3 fun h4 fl4 up4 => ?_
          have J4 : Inv X pins τ1 H1 { s' with heap := h4 } := J1.landed nb fl4.1 ((up.trans up3).trans up4) eos bare
          obtain ⟨o4, v4, at4, z4, d4⟩ := fl4.there
          have S4 := J4.suite at4 d4 na outL outF
          refine store_ok (X := X.suite a ((a, o4) :: (X.pn ++ pins))) (v := .ref a) S4 hN hi (.inl hln) rfl (fun s5 S5 => ?_) (.inr hln)
          refine wpAny_mono ((hsu a o4 cls d (X.pn ++ pins) z4 ⟨_, d4⟩).run [] s5 _ H1 _ S5 (yes rfl a na)) (fun fl s6 done => ?_) fun _ _ z => z.elim
          have gone : ∀ {τ6 : L2.St} {H6 : Hp} {Q : Shared → Prop}, Inv (X.suite a ((a, o4) :: (X.pn ++ pins))) [] τ6 H6 s6 → (∀ s7, Inv X pins (τ6.set i none) H6 s7 → Q s7) →
              wpAny (model X.prog X.w) X.A (do bindName X.env n .none; unbindBehindTheSuite X.env n q) (fun _ s7 => Q s7) X.xe s6 := fun S6 hq => gone_ok (S6.unsuite okX) hN hi hln hq
          cases fl with
          | ret u =>
            obtain ⟨v6, τ6, H6, S6, r6, q6⟩ := done
            exact gone S6 fun s7 J7 => ⟨_, _, _, J7, r6, q6⟩
          | next =>
            obtain ⟨τ6, H6, S6, q6⟩ := done
            exact gone S6 fun s7 J7 => ⟨_, _, J7, q6⟩
          | brk =>
            obtain ⟨τ6, H6, S6, q6⟩ := done
            exact gone S6 fun s7 J7 => ⟨_, _, J7, q6⟩
          | cont =>
            obtain ⟨τ6, H6, S6, q6⟩ := done
            exact gone S6 fun s7 J7 => ⟨_, _, J7, q6⟩
    exact run hh w1
end
end MA

set_option linter.all false
set_option maxRecDepth 100000
namespace MA
open PySem L2 SlX LamX
open PySem.Spec PyProof.Rows

/-! ### run apart, any expression -/
def pureE (f : MF A) : MF A := fun lo s h => pureF (fun _ l h => f l s h) [] lo h
theorem je_pure {X : Cx} {C : Kn} {E : XK} {e : Expr} {f : MF A} (he : PE X e (tE C E f)) : PE X e (tE C E (pureE f)) := imp he fun σ H Q c => by
  obtain ⟨G, lo, h, s, rh, rs, rv, q⟩ := c
  exact ⟨G, h.length, h, s, rh, rs, rv, pure_back (f := fun _ l h => f l s h) (xs := []) rh q⟩

/-! ### lambdas handed to a def that catches -/
section
variable {C : Kn} {G : Loc} {n lo : Nat} {h : Hs} {H H1 : Hp}
theorem ext_ofN (r : Rh C G h H) (e : ExtN H H1) (t : Tabs C.T H1) : Ext lo h.length G H h.length G H1 ∧ Rh C G h H1 := by
  have kn : ∀ i o, h[i]? = some o → H1 (G i) = H (G i) := fun i o ho => by
    have ro := r.obj i o ho
    obtain ⟨u, hu⟩ := ro.there
    rw [hu]
    refine e _ _ hu fun ps z => ?_
    subst z
    cases ro with
    | lst h _ => rw [h] at hu; cases hu
    | flst h _ => rw [h] at hu; cases hu
    | dk h _ => rw [h] at hu; cases hu
    | dt h _ => rw [h] at hu; cases hu
    | ins _ s _ =>
      obtain ⟨u, e1, _, _, k3, _⟩ := s.obj
      rw [e1] at hu
      exact k3 _ (Option.some.inj hu)
    | set h _ =>
      rw [h] at hu
      unfold SetO at hu
      cases hu
  have x : ∀ lo, Ext lo h.length G H h.length G H1 := fun lo => ⟨Nat.le_refl _, fun _ _ => rfl, fun a o q z => e a o q fun ps y => (by subst y; cases z), fun a o u q => e a _ q fun ps y => (nomatch y), fun i _ hi => kn i _ (List.getElem?_eq_getElem hi), fun a x q => .inl (e a _ q fun ps y => (nomatch y))⟩
  exact ⟨x lo, r.inj, fun i o ho => (r.obj i o ho).stay (x 0) (kn i o ho), t⟩
end
theorem takes_len {X : Cx} {W : WX} (tk : Takes X W) : Takes X fun cls d σ H => σ.length = X.N.length → W cls d σ H := fun u s' x => by
  obtain ⟨a, B, sI, pins, σ, H, cls, d, e1, I, e2, e3, e4, e5, e6, e7, w⟩ := x
  exact tk u s' ⟨a, B, sI, pins, σ, H, cls, d, e1, I, e2, e3, e4, e5, e6, e7, w I.len⟩

theorem pe_mono {X : Cx} {e : Expr} {t : TE} (h : PE X e t) : PE X e fun σ H Q => ∃ Q' : VK, (∀ v H', Q' v H' → Q v H') ∧ t σ H Q' := ⟨fun pins s σ H Q I ⟨Q', k, q⟩ =>
  wpAny_mono (h.run pins s σ H Q' I q) (fun u s' ⟨v, H', I', r, z⟩ => ⟨v, H', I', r, k v H' z⟩) fun _ _ z => z⟩
/-- what a clause's suite makes of the exception: told of a state in which the clause's name alone is known -/
def tsX (C : Kn) (oi : Option Nat) (n : Nat) (g : AX → MF Fl) : Addr → Value → Option Addr → TS := fun a cls d D σ H => ∃ (e : AX) (G : Loc) (lo : Nat) (h : Hs), Rh C G h H ∧ σ.length = n ∧ (∀ i, oi = some i → i < n → σ[i]? = some (some (.ref a))) ∧ RX C G h.length H e cls d ∧
  finS C C8.E0 G lo h.length H (g e lo (List.replicate n none) h) D
theorem rs_none {C : Kn} {G : Loc} {m n : Nat} {H : Hp} {σ : L2.St} (h : σ.length = n) : RS C G m H (List.replicate n none) σ := ⟨by rw [List.length_replicate, h], fun i x e => by
  rw [List.getElem?_replicate] at e
  split at e
  · cases e
  · cases e⟩
theorem tsX_plain {X : Cx} {C : Kn} {oi : Option Nat} {n : Nat} {g : MF Fl} {su : List Stmt} {a : Addr} {cls : Value} {d : Option Addr} (h : PSs X su (tS C C8.E0 g)) : PSs X su (tsX C oi n (fun _ => g) a cls d) := impSs h fun D σ H q => by
  obtain ⟨e, G, lo, h, rh, hl, _, _, q⟩ := q
  exact ⟨G, lo, h, _, rh, rs_none hl, .nil, q⟩
abbrev HnM := Nat × Option Nat × (AX → MF Fl)
def hdlF (exb : Nat → Nat → Option Bool) : List HnM → AX → MF Fl
  | [], _ => fun _ _ _ => .bad
  | (c, oi, g) :: r, e => match exb e.cls c with
    | some true => match oi with
      | none => g e
      | some _ => fun lo s h => match g e lo s h with
        | .ok (.rt x) h' => .ok (.rt x) h'
        | _ => .bad
    | some false => hdlF exb r e
    | none => fun _ _ _ => .bad
def toRet : R Fl → R A
  | .ok (.nx _) h' => .ok .non h'
  | .ok (.rt x) h' => .ok x h'
  | .ok (.bk _) _ => .bad
  | .ok (.ct _) _ => .bad
  | .ex _ _ => .bad
  | .bad => .bad
def metB (exb : Nat → Nat → Option Bool) (hl : List HnM) (ret : MF Fl) (n lo : Nat) : R A → R A
  | .ok _ h' => toRet (ret lo (List.replicate n none) h')
  | .ex e h' => toRet (seqS (hdlF exb hl e) ret lo (List.replicate n none) h')
  | .bad => .bad
def metL (exb : Nat → Nat → Option Bool) (hl : List HnM) (ret : MF Fl) (n : Nat) (fb : MF A) : MF A := fun lo s h => metB exb hl ret n lo (fb lo s h)

/-- the classes' answers -/
structure ExB (C : Kn) (exb : Nat → Nat → Option Bool) : Prop where
  all : ∀ e c b, exb e c = some b → PySem.W.exmOne C.K (.ref (C.gt e)) (.ref (C.gt c)) = some b
/-- the def's end -/
def endD (Q : VK) : Ends := { nx := fun _ H => Q .non H, rt := Q }
def clsOf (C : Kn) (n : Nat) (hl : List HnM) : List Cls1 := hl.map fun p => (.ref (C.gt p.1), p.2.1, tsX C p.2.1 n p.2.2)
def TTm (C : Kn) (n : Nat) (hl : List HnM) (ret : MF Fl) : (XK → Hp → VK → Prop) → Hp → VK → Prop := fun tl H Q =>
  tl (fun cls d H' => ∀ σ : L2.St, σ.length = n → wAll C.K (fun _ _ _ _ => False) { endD Q with nx := fun σ H => tS C C8.E0 ret (endD Q) σ H } (clsOf C n hl) cls d σ H') H
    (fun _ H' => ∀ σ : L2.St, σ.length = n → tS C C8.E0 ret (endD Q) σ H')
section
variable {X : Cx} {C : Kn} {E : XK} {k : Nat}
theorem met_gives {Ng : List Str} {x a q : Str} {sg : Scope} {g : Addr} {cdg : Value} {h₀ : ExceptHandler} {hs : List ExceptHandler} {hl : List HnM} {ret : MF Fl} {re : Stmt} {p1 p2 p3 p4 : Pos} (hK : X.K = C.K) (nd : Ng.Nodup) (n0 : 0 < Ng.length)
    (hhd : ∀ (s : Shared) (H : Hp), HdA (cxOf C8.CX0 X.prog X.w X.K X.mg X.base Ng x sg g cdg X.A X.stack s H C8.E0).nox (h₀ :: hs) (clsOf C Ng.length hl))
    (hr : ∀ (s : Shared) (H : Hp), PS (cxOf C8.CX0 X.prog X.w X.K X.mg X.base Ng x sg g cdg X.A X.stack s H C8.E0).nox re (tS C C8.E0 ret)) :
    GivesTo X Ng x sg g cdg [.Try [.Expr (.Call (.Name a p1) [] [] p2) p3] (h₀ :: hs) [] [] p4, re] a q (TTm C Ng.length hl ret) := by
  intro f c' s H Q tl act hc h
  have st0 : (L2.start Ng [V.ref f])[0]? = some (some (V.ref f)) := by
    unfold L2.start
    rfl
  have stl : (L2.start Ng [V.ref f]).length = Ng.length := by
    unfold L2.start
    simp only [List.length_append, List.length_map, List.length_replicate, List.length_singleton]
    omega
  refine ⟨_, pss_cons (ps_try_all (X := (cxOf C8.CX0 X.prog X.w X.K X.mg X.base Ng x sg g cdg X.A X.stack s H C8.E0).nox)
    (tb := fun W D σ H => ∃ Ech : XK, (∀ cls d σ' H', Ech cls d H' → (σ'.length = Ng.length → W cls d σ' H')) ∧ σ[0]? = some (some (.ref f)) ∧ H c' = some (CodeO c' q) ∧ ∃ Q' : VK, (∀ v H', Q' v H' → D.nx σ H') ∧ tl Ech H Q')
    rfl rfl nd LamX.takes0 (fun W pn xe tk _ => ?_) (hhd s H)) (pss_one (hr s H)), ?_⟩
  · refine ⟨fun pins s' σ H' D I h' => ?_⟩
    obtain ⟨Ech, hW, h1, h2, Q', k, h3⟩ := h'
    have hp := act _ pn xe Ech p1 p2 (takes_len tk) hW
    exact (pss_one (ps_expr (pos := p3) (pe_mono hp))).run pins s' σ H' D I ⟨Q', k, h1, h2, h3⟩
  · refine ⟨_, fun cls d σ' H' z hl' => ?_, st0, hc, _, fun v H' z => z _ stl, h⟩
    have z := z σ' hl'
    rw [← hK] at z
    exact z

theorem toRet_use {G : Loc} {lo n : Nat} {H : Hp} {r : R Fl} {Q : VK} (q : fin (relV C) C E G lo n H (toRet r) Q) : finS C C8.E0 G lo n H r (endD Q) := by
  cases r with
  | bad => exact q
  | ex e h => exact q.elim
  | ok x h =>
    cases x with
    | nx s => exact fun G' H' σ' e r rs => q G' H' .non e r .non
    | rt x => exact q
    | bk s => exact q.elim
    | ct s => exact q.elim
theorem hdl_use {exb : Nat → Nat → Option Bool} (B : ExB C exb) {e : AX} {n lo : Nat} {G : Loc} {h : Hs} {H : Hp} {c : Value} {d : Option Addr} {ret : MF Fl} {Q : VK} {σ : L2.St} (rh : Rh C G h H) (hl : σ.length = n) (rx : RX C G h.length H e c d) : ∀ {l : List HnM},
    finS C C8.E0 G lo h.length H (seqS (hdlF exb l e) ret lo (List.replicate n none) h) (endD Q) → wAll C.K (fun _ _ _ _ => False) { endD Q with nx := fun σ H => tS C C8.E0 ret (endD Q) σ H } (clsOf C n l) c d σ H
  | [], q => by
    unfold hdlF seqS at q
    exact q.elim
  | (ci, oi, g) :: r, q => by
    unfold hdlF at q
    cases hx : exb e.cls ci with
    | none =>
      rw [hx] at q
      unfold seqS at q
      exact q.elim
    | some b =>
      rw [hx] at q
      have eb := B.all _ _ _ hx
      rw [← rx.1] at eb
      refine ⟨b, eb, fun hb a ha => ?_, fun hb => ?_⟩
      · subst hb
        cases oi with
        | none =>
          refine ⟨e, G, lo, h, rh, hl, fun i z => (nomatch z), rx, ?_⟩
          show finS C C8.E0 G lo h.length H (g e lo (List.replicate n none) h) _
          dsimp only at q
          unfold seqS at q
          cases hg : g e lo (List.replicate n none) h with
          | bad => rw [hg] at q; exact q
          | ex e' h' => rw [hg] at q; exact q
          | ok x h' =>
            rw [hg] at q
            cases x with
            | rt x => exact q
            | bk s => exact q
            | ct s => exact q
            | nx s => exact fun G' H' σ' e1 r1 rs => ⟨G', lo, h', s, r1, rs, .nil, finS.ext e1 q⟩
        | some i =>
          refine ⟨e, G, lo, h, rh, by rw [List.length_set]; exact hl, fun j hj hlt => ?_, rx, ?_⟩
          · cases hj
            exact List.getElem?_set_self (by rw [hl]; exact hlt)
          · show finS C C8.E0 G lo h.length H (g e lo (List.replicate n none) h) _
            dsimp only at q
            unfold seqS at q
            dsimp only at q
            cases hg : g e lo (List.replicate n none) h with
            | bad => rw [hg] at q; exact q
            | ex e' h' => rw [hg] at q; exact q.elim
            | ok x h' =>
              rw [hg] at q
              cases x with
              | rt x => exact q
              | bk s => exact q.elim
              | ct s => exact q.elim
              | nx s => exact q.elim
      · subst hb
        exact hdl_use B rh hl rx q
theorem metl_use {exb : Nat → Nat → Option Bool} (B : ExB C exb) {hl : List HnM} {ret : MF Fl} {n : Nat} {fb : MF A} {σ : L2.St} {H : Hp} {Q : VK} (c : tE C E (metL exb hl ret n fb) σ H Q) : tLam C.T (TTm C n hl ret) (fun E => tE C E fb) σ H Q := by
  obtain ⟨G, lo, h, s, rh, rs, rv, q⟩ := c
  refine ⟨rh.tab, fun H1 eN t1 => ?_⟩
  obtain ⟨e1, r1⟩ := ext_ofN (lo := lo) rh eN t1
  refine ⟨G, lo, h, s, r1, rs.ext e1, .nil, ?_⟩
  unfold metL at q
  cases hz : fb lo s h with
  | bad => rw [hz] at q; exact q
  | ok x h' =>
    rw [hz] at q
    intro G' H' v e2 r2 rv σ' hl
    exact ⟨G', lo, h', _, r2, rs_none hl, .nil, finS.ext (e1.trans e2) (toRet_use q)⟩
  | ex e h' =>
    rw [hz] at q
    intro G' H' c d e2 r2 rx σ' hl
    exact hdl_use B r2 hl rx (finS.ext (e1.trans e2) (toRet_use q))
theorem je_met_lam {exb : Nat → Nat → Option Bool} (B : ExB C exb) {hl : List HnM} {ret : MF Fl} {fb : MF A} {x a : Str} {g c P : Addr} {j : Nat} {pg : Arguments} {sg : Scope} {dV kV doc pm cdv ct oc : Value} {an od : Option Addr} {osl : Array (Option Value)} {Ng : List Str}
    {params : Arguments} {body : Expr} {scope : Scope} {h₀ : ExceptHandler} {hs : List ExceptHandler} {re : Stmt} {p lpos pos p1 p2 p3 p4 : Pos} (W : Go X C E k) (hg : Gl X x) (hm : X.mg x = some (.ref g)) (hk : PySem.W.keepIn X.K (.ref g) = true)
    (lk : X.K.lookup g = some ⟨oc, od, .func (PySem.W.fnOf x x pg [.Try [.Expr (.Call (.Name a p1) [] [] p2) p3] (h₀ :: hs) [] [] p4, re] sg dV kV doc pm an cdv ct), osl⟩) (hcg : PySem.W.codeIn X.K cdv x = true)
    (hb : L2.Binds X.K (PySem.W.fnOf x x pg [.Try [.Expr (.Call (.Name a p1) [] [] p2) p3] (h₀ :: hs) [] [] p4, re] sg dV kV doc pm an cdv ct) [a] []) (Sg : FnScope Ng [a] sg) (hNg : Ng[0]? = some a) (hva : Vis sg a)
    (hhd : ∀ (s : Shared) (H : Hp), HdA (cxOf C8.CX0 X.prog X.w X.K X.mg X.base Ng x sg g cdv X.A X.stack s H C8.E0).nox (h₀ :: hs) (clsOf C Ng.length hl))
    (hre : ∀ (s : Shared) (H : Hp), PS (cxOf C8.CX0 X.prog X.w X.K X.mg X.base Ng x sg g cdv X.A X.stack s H C8.E0).nox re (tS C C8.E0 ret))
    (TB : TabB X.base X.mg c P) (hcode : X.env.code = .ref c) (hmT : (P, X.env.qual ++ "<lambda>") ∈ C.T) (hu : ∀ p ∈ C.T, p.1 = P → p.2 = X.env.qual ++ "<lambda>") (hj : j + 2 ≤ k) (L : LamS X.env.scope scope) (hdef : defaultsOf params X.env = ([], []))
    (hbind : ∀ (q : Str) (cl : List (Str × Addr)) (pm cv ctv : Value), bindArgs (PySem.W.kla_fn "<lambda>" q params body scope cl pm cv ctv) ⟨[], []⟩ = pure [])
    (hbody : ∀ (A : Around) (outer : List Env) (s : Shared) (H : Hp) (E : XK) (f c' : Addr), Go (lamCx X A outer s H E scope f c') C E j → PE (lamCx X A outer s H E scope f c') body (tE C E fb))
    (hdb : (x == ("__debug__" : Str)) = false := by decide) (hd : (a == ("__debug__" : Str)) = false := by decide) (hcd : (a == ("__classdict__" : Str)) = false := by decide) :
    PE X (.Call (.Name x p) [.Lambda params body scope lpos] [] pos) (tE C E (metL exb hl ret Ng.length fb)) :=
  imp (pe_lamcall (k := j) (t := fun E => tE C E fb) hg hm hk lk hcg hb Sg hNg hva (met_gives W.K Sg.nd (by
      cases Ng with
      | nil => cases hNg
      | cons _ _ => exact Nat.succ_pos _) hhd hre) TB hcode hmT hu (W.room.mono hj) L hdef hbind (fun A outer s H E f c' hr => hbody A outer s H E f c' ⟨W.K, W.w, rfl, hr, passes_call (takes_of rfl rfl rfl rfl) fun _ _ _ _ h => h, W.nd⟩) hdb hd hcd) fun σ H Q c => metl_use B c
end
end MA

set_option linter.all false
set_option maxRecDepth 100000
namespace MA
open PySem L2 SlX LamX
open PySem.Spec PyProof.Rows

/-! ### sorted -/
/-- what is met when v is walked to its end -/
def Col (X : Cx) (v : V) (xs : List V) (H : Hp) : Prop := ∀ (pins : List (Addr × Obj)) (s : Shared) (σ : L2.St) (u : Value) (R : List Value → Shared → Prop), L2.Inv X pins σ H s → L2.RelV v u →
  (∀ us s1, L2.Inv X pins σ H s1 → Vals xs us → R us s1) → wpAny (model X.prog X.w) X.A.in1 (collect u) R X.xe s
section
variable {X : Cx} {H : Hp} {a : Addr} {xs : List V}
theorem col_list (h : SqL X.K H a xs) : Col X (.ref a) xs H := fun pins s σ u R I r k => by
  cases r
  obtain ⟨its, rv, ⟨o, n, ho, hc, _, hd⟩, hz⟩ := I.list h
  refine wpAny_collect_seq a (.inl rfl) ho hc hd (fun h' kp => ?_) (by rw [List.size_toArray, ← rv.length]; exact hz)
  exact k _ _ (I.kept (t' := s.toks) kp) (by simpa using rv)
theorem col_tup (h : SqT X.K H a xs) : Col X (.ref a) xs H := fun pins s σ u R I r k => by
  cases r
  obtain ⟨its, rv, ⟨o, ho, hc, n, hd⟩, hz⟩ := I.tuple h
  refine wpAny_collect_seq a (.inr rfl) ho hc hd (fun h' kp => ?_) (by rw [List.size_toArray, ← rv.length]; exact hz)
  exact k _ _ (I.kept (t' := s.toks) kp) (by simpa using rv)
theorem col_dK {kvs : List (Key × V)} (hc : X.calm = true) (h : H a = some (.dK kvs)) : Col X (.ref a) (kvs.map fun p => kV p.1) H := fun pins s σ u R I r k => by
  cases r
  obtain ⟨z, lo, vs, rk, hd⟩ := (show ObjOk X.prog X.w H s.heap a (.dK kvs) from I.hok a _ h)
  obtain ⟨ep, hat⟩ := hd.dictAt
  have hl : kvs.length = vs.length := Paired.length rk
  refine PySem.W.kdu_collect (PySem.W.kdl_dict (knd := mixKind X.prog X.w) (kvs := vs) (ep := ep) lo) (I.ok.hd hc) hat (by omega) fun h' tk acc kp it => ?_
  refine k _ _ (I.kept (t' := tk) kp) (vals_of_at (by rw [List.length_map]; have := it.1; have e : acc.toList.length = acc.size := Array.length_toList; omega) fun j x w h1 h2 => ?_)
  obtain ⟨q, y, hky, hi⟩ := it.2 j w (by rw [← Array.getElem?_toList]; exact h2)
  have e1 : (kvs.map (·.1))[j]? = some q := by
    rw [KV.keys rk, List.getElem?_map, hky]
    rfl
  have e2 : (kvs.map fun p => kV p.1) = (kvs.map (·.1)).map kV := by
    rw [List.map_map]
    rfl
  rw [e2, List.getElem?_map, e1] at h1
  cases h1
  exact keyIs_rel hi
/-- a dict with tuple keys: its key tuples -/
theorem col_dT {pins : List (Addr × Obj)} {s : Shared} {σ : L2.St} {kvs : List (List Key × V)} {R : List Value → Shared → Prop} (hc : X.calm = true) (h : H a = some (.dT kvs)) (I : L2.Inv X pins σ H s)
    (k : ∀ bs us s1, IsKeys H kvs bs → L2.Inv X pins σ H s1 → Vals (bs.map V.ref) us → R us s1) : wpAny (model X.prog X.w) X.A.in1 (collect (.ref a)) R X.xe s := by
  obtain ⟨z, hs, ks, pr, o, es, ep, ho, hx, hdt, he, hn⟩ := (show ObjOk X.prog X.w H s.heap a (.dT kvs) from I.hok a _ h)
  have l1 : es.size = ks.length := size_of_entries he
  have l2 : kvs.length = ks.length := Paired.length pr
  refine PySem.W.kdu_collect (kdl_raw hs hx hdt) (I.ok.hd hc) ho (by omega) fun h' tk acc kp it => ?_
  refine k _ _ _ (isKeys_of pr) (I.kept (t' := tk) kp) (vals_of_at (by rw [List.length_map, List.length_map]; have := it.1; have e : acc.toList.length = acc.size := Array.length_toList; omega) fun j x w h1 h2 => ?_)
  obtain ⟨en, hen, hv⟩ := it.2 j w (by rw [← Array.getElem?_toList]; exact h2)
  have qe := entry_at he j
  rw [hen] at qe
  rw [List.map_map, List.getElem?_map] at h1
  cases hb : ks[j]? with
  | none => rw [hb] at h1; cases h1
  | some b =>
    rw [hb] at h1 qe
    cases h1
    have e2 : en = entryOfKey (tupleKind (mixKind X.prog X.w)) b := Option.some.inj qe
    rw [hv, e2]
    rfl

/-- behind the walk: sorted as ints -/
theorem sorted_ints_of {pins : List (Addr × Obj)} {s : Shared} {σ : L2.St} {u : Value} {ns : List Int} {Q : VK} (hz : ns.length ≤ sizeLine)
    (hcol : ∀ R : List Value → Shared → Prop, (∀ us s1, L2.Inv X pins σ H s1 → Vals (ns.map V.int) us → R us s1) → wpAny (model X.prog X.w) X.A.in1 (collect u) R X.xe s)
    (q : ∀ (ns' : List Int) (p : Addr), ns'.Perm ns → ns'.Pairwise (· ≤ ·) → H p = none → Q (.ref p) (upd H p (.lst (ns'.map V.int)))) :
    wpAny (model X.prog X.w) X.A (call (.builtin "sorted") [u]) (EP X pins σ Q) X.xe s := by
  refine Calls.call_function_entry PyProof.Rows.kind_sorted PyProof.Rows.plain_sorted PyProof.Rows.entry_sorted (PyProof.Rows.args_sorted1 _) ?_
  unfold Builtin.«sorted»
  refine wpAny_bind (m := checkCount "sorted" 1 1 _) (wpAny_pure (wpAny_bind (hcol _ fun us s1 I1 rv => ?_)))
  have hi := rv.ints
  have hl : us.length ≤ sizeLine := by
    rw [← rv.length, List.length_map]
    exact hz
  refine wpAny_bind (wpAny_newList ?_ hl)
  have at0 : (s1.heap.push (seqObj "list" us.toArray 0)).get? s1.heap.objs.size = some (seqObj "list" us.toArray 0) := Heap.get?_push_size _ rfl
  show wpAny _ _ _ _ _ { s1 with heap := s1.heap.push (seqObj "list" us.toArray 0) }
  refine wpAny_bind (wpAny_holding (wpAny_call_entry PyProof.Rows.slot_list_sort ⟨_, at0, rfl⟩ PyProof.Rows.entry_list_sort
    (SrtO.list_sort_ord (s := { s1 with heap := s1.heap.push (seqObj "list" us.toArray 0) }) SrtO.swo_int at0 hl (fun h2 => SrtO.ints_sortable hi h2) fun out o1 o2 => ⟨_, rfl, ?_⟩) (PyProof.Rows.args_list_sort _)))
  obtain ⟨k1, k2, k3⟩ := SrtO.ints_out hi o1 o2
  obtain ⟨e', he'⟩ := PyProof.Rows.sortedHeap_at (vs := us) (out := out.toArray) at0
  have hlen : ((out.map SrtO.iv).map V.int).length ≤ sizeLine := by
    rw [List.length_map, k2.length_eq]
    exact hz
  refine wpAny_pure ⟨_, rfl, .ref s1.heap.objs.size, upd H s1.heap.objs.size (.lst ((out.map SrtO.iv).map V.int)), I1.laid (t' := s1.toks) (fun b w e => ?_) (Nat.le_refl _) ⟨hlen, out, e', vals_of_ints k1, he'⟩, rfl, q _ _ k2 k3 (I1.hok.fresh (Nat.le_refl _))⟩
  have hb : b < s1.heap.objs.size := Heap.lt_size e
  rw [PyProof.Rows.sortedHeap_old (Nat.ne_of_lt hb) (by rw [size_push']; exact Nat.lt_succ_of_lt hb)]
  exact Heap.get?_push_of_some _ e
/-- .. as tuples of d ints from 0 below B -/
theorem sorted_tups_of {pins : List (Addr × Obj)} {s : Shared} {σ : L2.St} {u : Value} {d : Nat} {B : Int} {Q : VK} (hd : 1 ≤ d)
    (hcol : ∀ R : List Value → Shared → Prop, (∀ xs us s1, L2.Inv X pins σ H s1 → Vals xs us → xs.length < 64 → (∀ x ∈ xs, ∃ ns, TupI X.K H x ns ∧ ns.length = d ∧ TS.Bd B ns) → (∀ (ys : List V) (p : Addr), ys.Perm xs → ys.Pairwise (fun x y => ∀ n m, TupI X.K H x n → TupI X.K H y m → TS.code B n ≤ TS.code B m) → H p = none → Q (.ref p) (upd H p (.lst ys))) → R us s1) →
      wpAny (model X.prog X.w) X.A.in1 (collect u) R X.xe s) :
    wpAny (model X.prog X.w) X.A (call (.builtin "sorted") [u]) (EP X pins σ Q) X.xe s := by
  refine Calls.call_function_entry PyProof.Rows.kind_sorted PyProof.Rows.plain_sorted PyProof.Rows.entry_sorted (PyProof.Rows.args_sorted1 _) ?_
  unfold Builtin.«sorted»
  refine wpAny_bind (m := checkCount "sorted" 1 1 _) (wpAny_pure (wpAny_bind (hcol _ fun xs us s1 I1 rv h64 hx q => ?_)))
  have hl : us.length < 64 := by
    rw [← rv.length]
    exact h64
  have hl2 : us.length ≤ sizeLine := by
    rw [sizeLine_eq]
    omega
  obtain ⟨e1, e2⟩ := bkV_refs rv fun x m => by
    obtain ⟨ns, ⟨t, e, _⟩, _⟩ := hx x m
    exact ⟨t, e⟩
  refine wpAny_bind (wpAny_newList ?_ hl2)
  have at0 : (s1.heap.push (seqObj "list" us.toArray 0)).get? s1.heap.objs.size = some (seqObj "list" us.toArray 0) := Heap.get?_push_size _ rfl
  show wpAny _ _ _ _ _ { s1 with heap := s1.heap.push (seqObj "list" us.toArray 0) }
  have tk : TS.TupsOk s1.heap d B us := fun v hv => by
    obtain ⟨t, rfl⟩ := e2 v hv
    have hm : V.ref t ∈ xs := by
      rw [e1]
      exact List.mem_map.mpr ⟨_, hv, rfl⟩
    obtain ⟨ns, ⟨t', e, ht⟩, hn, hb⟩ := hx _ hm
    cases e
    exact ⟨ns, tupI_raw I1 ht, hn, hb⟩
  refine wpAny_bind (wpAny_holding (wpAny_call_entry PyProof.Rows.slot_list_sort ⟨_, at0, rfl⟩ PyProof.Rows.entry_list_sort
    (TS.sort_tups (s := { s1 with heap := s1.heap.push (seqObj "list" us.toArray 0) }) at0 hl hd (tk.keeps fun b o e _ => Heap.get?_push_of_some _ e) (fun v => TS.code B (TS.intsOf s1.heap v)) (fun v hv ns t => ?_) fun out o1 o2 => ⟨_, rfl, ?_⟩) (PyProof.Rows.args_list_sort _)))
  · obtain ⟨ns0, t0, _⟩ := tk v hv
    have e : ns = ns0 := t.ints.symm.trans (t0.keeps fun b o e _ => Heap.get?_push_of_some _ e).ints
    rw [e]
    show TS.code B (TS.intsOf s1.heap v) = TS.code B ns0
    rw [t0.ints]
  · obtain ⟨e', he'⟩ := PyProof.Rows.sortedHeap_at (vs := us) (out := out) at0
    have h3 : ∀ w ∈ out.toList, ∃ a, w = Value.ref a := fun w hw => e2 w (o1.mem_iff.mp hw)
    have hp : (out.toList.map bkV).Perm xs := by
      rw [e1]
      exact o1.map bkV
    have hlen : (out.toList.map bkV).length ≤ sizeLine := by
      rw [hp.length_eq, sizeLine_eq]
      omega
    refine wpAny_pure ⟨_, rfl, .ref s1.heap.objs.size, upd H s1.heap.objs.size (.lst (out.toList.map bkV)), I1.laid (t' := s1.toks) (fun b w e => ?_) (Nat.le_refl _) ⟨hlen, out.toList, e', bkV_vals h3, by rw [Array.toArray_toList]; exact he'⟩, rfl, q _ _ hp ?_ (I1.hok.fresh (Nat.le_refl _))⟩
    · have hb : b < s1.heap.objs.size := Heap.lt_size e
      rw [PyProof.Rows.sortedHeap_old (Nat.ne_of_lt hb) (by rw [size_push']; exact Nat.lt_succ_of_lt hb)]
      exact Heap.get?_push_of_some _ e
    · rw [List.pairwise_map]
      refine List.Pairwise.imp (fun {y z} hyz n m hn hm => ?_) o2
      obtain ⟨t, et, ht⟩ := hn
      obtain ⟨t', et', ht'⟩ := hm
      have i1 : TS.intsOf s1.heap y = n := by
        rw [bkV_ref et]
        exact (tupI_raw I1 ht).ints
      have i2 : TS.intsOf s1.heap z = m := by
        rw [bkV_ref et']
        exact (tupI_raw I1 ht').ints
      rw [← i1, ← i2]
      exact hyz
end
end MA

set_option linter.all false
set_option maxRecDepth 100000
namespace MA
open PySem L2 SlX LamX
open PySem.Spec PyProof.Rows

/-! ### sorting, plainly -/
def leI (i j : Int) : Bool := decide (i ≤ j)
def insBy {α : Type} (le : α → α → Bool) (x : α) : List α → List α
  | [] => [x]
  | y :: ys => match le x y with
    | true => x :: y :: ys
    | false => y :: insBy le x ys
def sortBy {α : Type} (le : α → α → Bool) : List α → List α
  | [] => []
  | x :: xs => insBy le x (sortBy le xs)
section
variable {α : Type} {le : α → α → Bool}
theorem insBy_perm {x : α} : ∀ {l : List α}, (insBy le x l).Perm (x :: l)
  | [] => .refl _
  | y :: ys => by
    unfold insBy
    cases le x y with
    | true => exact .refl _
    | false => exact (insBy_perm.cons y).trans (List.Perm.swap x y ys)
theorem sortBy_perm : ∀ {l : List α}, (sortBy le l).Perm l
  | [] => .refl _
  | x :: xs => insBy_perm.trans (sortBy_perm.cons x)
theorem insBy_sorted {P : α → Prop} (tot : ∀ a b, P a → P b → le a b = true ∨ le b a = true) (tr : ∀ a b c, P a → P b → P c → le a b = true → le b c = true → le a c = true) {x : α} : ∀ {l : List α}, P x → (∀ y ∈ l, P y) → l.Pairwise (fun a b => le a b = true) → (insBy le x l).Pairwise (fun a b => le a b = true)
  | [], _, _, _ => List.pairwise_singleton _ _
  | y :: ys, hx, hl, hp => by
    have hy := hl y List.mem_cons_self
    rw [List.pairwise_cons] at hp
    unfold insBy
    cases h : le x y with
    | true =>
      refine List.pairwise_cons.mpr ⟨fun z hz => ?_, List.pairwise_cons.mpr hp⟩
      rcases List.mem_cons.mp hz with rfl | hz
      · exact h
      · exact tr x y z hx hy (hl z (List.mem_cons_of_mem _ hz)) h (hp.1 z hz)
    | false =>
      refine List.pairwise_cons.mpr ⟨fun z hz => ?_, insBy_sorted tot tr hx (fun z hz => hl z (List.mem_cons_of_mem _ hz)) hp.2⟩
      rcases List.mem_cons.mp (insBy_perm.mem_iff.mp hz) with rfl | hz
      · rcases tot z y hx hy with q | q
        · rw [h] at q; cases q
        · exact q
      · exact hp.1 z hz
theorem sortBy_sorted {P : α → Prop} (tot : ∀ a b, P a → P b → le a b = true ∨ le b a = true) (tr : ∀ a b c, P a → P b → P c → le a b = true → le b c = true → le a c = true) : ∀ {l : List α}, (∀ y ∈ l, P y) → (sortBy le l).Pairwise (fun a b => le a b = true)
  | [], _ => .nil
  | x :: xs, h => insBy_sorted tot tr (h x List.mem_cons_self) (fun y hy => h y (List.mem_cons_of_mem _ (sortBy_perm.mem_iff.mp hy))) (sortBy_sorted tot tr fun y hy => h y (List.mem_cons_of_mem _ hy))
theorem sortBy_only {P : α → Prop} (tot : ∀ a b, P a → P b → le a b = true ∨ le b a = true) (tr : ∀ a b c, P a → P b → P c → le a b = true → le b c = true → le a c = true) (anti : ∀ a b, P a → P b → le a b = true → le b a = true → a = b)
    {l l' : List α} (h : ∀ y ∈ l, P y) (hp : l'.Perm l) (hs : l'.Pairwise (fun a b => le a b = true)) : l' = sortBy le l :=
  List.Perm.eq_of_pairwise (fun a b ha hb => anti a b (h a (hp.mem_iff.mp ha)) (h b (sortBy_perm.mem_iff.mp hb))) hs (sortBy_sorted tot tr h) (hp.trans sortBy_perm.symm)
end
theorem sortI_only {l l' : List Int} (hp : l'.Perm l) (hs : l'.Pairwise (· ≤ ·)) : l' = sortBy leI l :=
  sortBy_only (P := fun _ => True) (fun a b _ _ => by unfold leI; simp; omega) (fun a b c _ _ _ => by unfold leI; simp; omega) (fun a b _ _ => by unfold leI; simp; omega) (fun _ _ => trivial) hp (hs.imp fun h => by unfold leI; exact decide_eq_true h)
/-- tuples of ints of one length -/
def leL : List Int → List Int → Bool
  | [], _ => true
  | _ :: _, [] => false
  | x :: xs, y :: ys => match decide (x < y) with
    | true => true
    | false => match decide (y < x) with
      | true => false
      | false => leL xs ys
theorem leL_tot : ∀ (a b : List Int), a.length = b.length → leL a b = true ∨ leL b a = true
  | [], _, _ => .inl rfl
  | x :: xs, [], h => by simp at h
  | x :: xs, y :: ys, h => by
    unfold leL
    by_cases h1 : x < y
    · simp [h1]
    · by_cases h2 : y < x
      · simp [h2]
      · simp [h1, h2]
        exact leL_tot xs ys (by simpa using h)
theorem leL_anti : ∀ (a b : List Int), a.length = b.length → leL a b = true → leL b a = true → a = b
  | [], [], _, _, _ => rfl
  | [], _ :: _, h, _, _ => by simp at h
  | _ :: _, [], h, _, _ => by simp at h
  | x :: xs, y :: ys, h, h1, h2 => by
    unfold leL at h1 h2
    by_cases a : x < y
    · have b : ¬ y < x := by omega
      simp [a, b] at h2
    · by_cases b : y < x
      · simp [a, b] at h1
      · simp [a, b] at h1 h2
        have e : x = y := by omega
        rw [e, leL_anti xs ys (by simpa using h) h1 h2]
theorem leL_tr : ∀ (a b c : List Int), a.length = b.length → b.length = c.length → leL a b = true → leL b c = true → leL a c = true
  | [], _, _, _, _, _, _ => rfl
  | _ :: _, [], _, h, _, _, _ => by simp at h
  | _ :: _, _ :: _, [], _, h, _, _ => by simp at h
  | x :: xs, y :: ys, z :: zs, h, h', h1, h2 => by
    unfold leL at h1 h2 ⊢
    by_cases a : x < y
    · by_cases b : y < z
      · have c : x < z := by omega
        simp [c]
      · by_cases b2 : z < y
        · simp [b, b2] at h2
        · have c : x < z := by omega
          simp [c]
    · by_cases a2 : y < x
      · simp [a, a2] at h1
      · simp [a, a2] at h1
        by_cases b : y < z
        · have c : x < z := by omega
          simp [c]
        · by_cases b2 : z < y
          · simp [b, b2] at h2
          · simp [b, b2] at h2
            have c1 : ¬ x < z := by omega
            have c2 : ¬ z < x := by omega
            simp [c1, c2]
            exact leL_tr xs ys zs (by simpa using h) (by simpa using h') h1 h2
theorem leL_code {B : Int} : ∀ (a b : List Int), a.length = b.length → TS.Bd B a → TS.Bd B b → TS.code B a ≤ TS.code B b → leL a b = true
  | [], _, _, _, _, _ => rfl
  | _ :: _, [], h, _, _, _ => by simp at h
  | x :: xs, y :: ys, h, ha, hb, hc => by
    have hl : xs.length = ys.length := by simpa using h
    unfold leL
    by_cases h1 : x < y
    · simp [h1]
    · by_cases h2 : y < x
      · have := TS.code_lt hl.symm hb.tail ha.tail h2
        omega
      · simp [h1, h2]
        have e : x = y := by omega
        subst e
        refine leL_code xs ys hl ha.tail hb.tail ?_
        by_cases z : TS.code B ys < TS.code B xs
        · have := (TS.code_same (B := B) (d := x) hl.symm).mpr z
          omega
        · omega

/-! ### sorted -/
def intsA : List A → Option (List Int)
  | [] => some []
  | x :: xs => match x with
    | .int i => match intsA xs with
      | some r => some (i :: r)
      | none => none
    | _ => none
def tupsA : List A → Option (List (List Int))
  | [] => some []
  | x :: xs => match x with
    | .tup ys => match intsA ys with
      | some y => match tupsA xs with
        | some r => some (y :: r)
        | none => none
      | none => none
    | _ => none
def intsK : List Key → Option (List Int)
  | [] => some []
  | k :: ks => match k with
    | .inl i => match intsK ks with
      | some r => some (i :: r)
      | none => none
    | .inr _ => none
def tupsK : List (List Key × A) → Option (List (List Int))
  | [] => some []
  | p :: ps => match intsK p.1 with
    | some y => match tupsK ps with
      | some r => some (y :: r)
      | none => none
    | none => none
def keysI : List (Key × A) → Option (List Int)
  | [] => some []
  | p :: ps => match p.1 with
    | .inl i => match keysI ps with
      | some r => some (i :: r)
      | none => none
    | .inr _ => none
/-- all of length d, all from 0 below B -/
def okTs (d : Nat) (B : Int) (L : List (List Int)) : Bool := L.all fun ns => Nat.beq ns.length d && ns.all fun m => decide (0 ≤ m) && decide (m < B)
def mostOf (L : List (List Int)) : Int := L.foldl (fun a ns => ns.foldl (fun b m => if b ≤ m then m + 1 else b) a) 0
def sortTs (L : List (List Int)) : Option (List A) := match L with
  | [] => none
  | ns :: _ => if Nat.ble 1 ns.length && Nat.ble L.length 63 && okTs ns.length (mostOf L) L then some ((sortBy leL L).map fun ns => .tup (ns.map .int)) else none
def sortA (xs : List A) : Option (List A) := match intsA xs with
  | some ns => if okB ns.length then some ((sortBy leI ns).map .int) else none
  | none => match tupsA xs with
    | some L => sortTs L
    | none => none
def sortedO (xs : List A) : Op A := fun _ h => match xs with
  | [x] => match h.seq x with
    | some ys => match sortA ys with
      | some zs => .ok (.ref h.length) (h ++ [.lst zs])
      | none => .bad
    | none => match x with
      | .ref i => match h[i]? with
        | some (.dk kvs) => match keysI kvs with
          | some ns => if okB ns.length then .ok (.ref h.length) (h ++ [.lst ((sortBy leI ns).map .int)]) else .bad
          | none => .bad
        | some (.dt kvs) => match tupsK kvs with
          | some L => match sortTs L with
            | some zs => .ok (.ref h.length) (h ++ [.lst zs])
            | none => .bad
          | none => .bad
        | _ => .bad
      | _ => .bad
  | _ => .bad
section
variable {C : Kn} {G : Loc} {n : Nat} {h : Hs} {H : Hp}
theorem rvs_ints : ∀ {xs : List A} {vs : List V} {ns : List Int}, RVs C G n H xs vs → intsA xs = some ns → vs = ns.map V.int ∧ ns.length = xs.length
  | [], _, _, r, e => by
    cases r
    cases e
    exact ⟨rfl, rfl⟩
  | x :: xs, _, _, r, e => by
    cases r with
    | cons r t =>
      unfold intsA at e
      cases x with
      | int i =>
        dsimp only at e
        cases hz : intsA xs with
        | none => rw [hz] at e; cases e
        | some ms =>
          rw [hz] at e
          cases e
          cases r
          obtain ⟨e1, e2⟩ := rvs_ints t hz
          exact ⟨by rw [e1] <;> rfl, by rw [List.length_cons, List.length_cons, e2]⟩
      | _ => cases e
theorem ints_rvs : ∀ (ns : List Int), RVs C G n H (ns.map .int) (ns.map V.int)
  | [] => .nil
  | i :: ns => .cons (.int i) (ints_rvs ns)
/-- a tuple of ints that stands in the heap -/
def TupH (H : Hp) (x : V) (ns : List Int) : Prop := ∃ t, x = .ref t ∧ H t = some (.tup (ns.map V.int))
theorem map_int_inj : ∀ {a b : List Int}, a.map V.int = b.map V.int → a = b
  | [], [], _ => rfl
  | [], _ :: _, h => by cases h
  | _ :: _, [], h => by cases h
  | x :: xs, y :: ys, h => by
    rw [List.map_cons, List.map_cons] at h
    injection h with h1 h2
    injection h1 with h1
    rw [h1, map_int_inj h2]
theorem TupH.only {x : V} {a b : List Int} (p : TupH H x a) (q : TupH H x b) : a = b := by
  obtain ⟨t, e, p⟩ := p
  obtain ⟨t', e', q⟩ := q
  rw [e] at e'
  cases e'
  rw [p] at q
  injection q with q
  injection q with q
  exact map_int_inj q
theorem TupH.of {K : PySem.W.Frag} {x : V} {a : List Int} (p : TupH H x a) : TupI K H x a := let ⟨t, e, p⟩ := p; ⟨t, e, SqT.of p⟩
theorem rvs_tups : ∀ {xs : List A} {vs : List V} {L : List (List Int)}, RVs C G n H xs vs → tupsA xs = some L → Paired (TupH H) vs L
  | [], _, _, r, e => by
    cases r
    cases e
    exact .nil
  | x :: xs, _, _, r, e => by
    cases r with
    | cons r t =>
      unfold tupsA at e
      cases x with
      | tup ys =>
        dsimp only at e
        cases hz : intsA ys with
        | none => rw [hz] at e; cases e
        | some ms =>
          rw [hz] at e
          dsimp only at e
          cases hw : tupsA xs with
          | none => rw [hw] at e; cases e
          | some r' =>
            rw [hw] at e
            cases e
            cases r with
            | tup q rr =>
              obtain ⟨e1, _⟩ := rvs_ints rr hz
              rw [e1] at q
              exact .cons ⟨_, rfl, q⟩ (rvs_tups t hw)
      | _ => cases e
theorem intsK_map : ∀ {ks : List Key} {ns : List Int}, intsK ks = some ns → ks.map kV = ns.map V.int
  | [], _, e => by cases e; rfl
  | k :: ks, _, e => by
    unfold intsK at e
    cases k with
    | inr _ => cases e
    | inl i =>
      dsimp only at e
      cases hz : intsK ks with
      | none => rw [hz] at e; cases e
      | some r => rw [hz] at e; cases e; rw [List.map_cons, List.map_cons, intsK_map hz]; rfl
theorem keys_tups : ∀ {kvs : List (List Key × A)} {ks : List (List Key × V)} {bs : List Addr} {L : List (List Int)}, RKs C G n H kvs ks → IsKeys H ks bs → tupsK kvs = some L → Paired (TupH H) (bs.map V.ref) L
  | [], _, _, _, r, b, e => by
    cases r
    cases b
    cases e
    exact .nil
  | p :: ps, _, _, _, r, b, e => by
    cases r with
    | cons r rt =>
      cases b with
      | cons b bt =>
        unfold tupsK at e
        cases hz : intsK p.1 with
        | none => rw [hz] at e; cases e
        | some y =>
          rw [hz] at e
          dsimp only at e
          cases hw : tupsK ps with
          | none => rw [hw] at e; cases e
          | some r' =>
            rw [hw] at e
            cases e
            refine .cons ⟨_, rfl, ?_⟩ (keys_tups rt bt hw)
            rw [b, ← r.1, intsK_map hz]
theorem keysI_map : ∀ {kvs : List (Key × A)} {ks : List (Key × V)} {ns : List Int}, RKs C G n H kvs ks → keysI kvs = some ns → (ks.map fun p => kV p.1) = ns.map V.int
  | [], _, _, r, e => by
    cases r
    cases e
    rfl
  | p :: ps, _, _, r, e => by
    cases r with
    | cons r rt =>
      unfold keysI at e
      obtain ⟨k, x⟩ := p
      cases k with
      | inr _ => cases e
      | inl i =>
        dsimp only at e
        cases hz : keysI ps with
        | none => rw [hz] at e; cases e
        | some r' =>
          rw [hz] at e
          cases e
          rw [List.map_cons, List.map_cons, keysI_map rt hz, ← r.1]
          rfl
theorem okTs_of {d : Nat} {B : Int} {L : List (List Int)} (h : okTs d B L = true) : ∀ ns ∈ L, ns.length = d ∧ TS.Bd B ns := fun ns hn => by
  unfold okTs at h
  have q := List.all_eq_true.mp h ns hn
  rw [Bool.and_eq_true] at q
  refine ⟨Nat.eq_of_beq_eq_true q.1, fun m hm => ?_⟩
  have z := List.all_eq_true.mp q.2 m hm
  rw [Bool.and_eq_true] at z
  exact ⟨of_decide_eq_true z.1, of_decide_eq_true z.2⟩
/-- what comes of sorting tuples -/
theorem tups_out {xs ys : List V} {L : List (List Int)} {B : Int} {d : Nat} {K : PySem.W.Frag} (p : Paired (TupH H) xs L) (hL : ∀ ns ∈ L, ns.length = d ∧ TS.Bd B ns) (hp : ys.Perm xs)
    (hs : ys.Pairwise (fun x y => ∀ n m, TupI K H x n → TupI K H y m → TS.code B n ≤ TS.code B m)) : RVs C G n H ((sortBy leL L).map fun ns => .tup (ns.map .int)) ys := by
  classical
  let f : V → List Int := fun x => if h : ∃ ns, TupH H x ns then Classical.choose h else []
  have fx : ∀ x ns, TupH H x ns → f x = ns := fun x ns h => by
    have hh : ∃ ns, TupH H x ns := ⟨ns, h⟩
    show (if h : ∃ ns, TupH H x ns then Classical.choose h else []) = ns
    rw [dif_pos hh]
    exact (Classical.choose_spec hh).only h
  have mem : ∀ x ∈ xs, ∃ ns ∈ L, TupH H x ns := by
    clear hs hp hL
    intro x hx
    induction p with
    | nil => cases hx
    | cons r t ih =>
      rcases List.mem_cons.mp hx with rfl | hx
      · exact ⟨_, List.mem_cons_self, r⟩
      · obtain ⟨ns, a, b⟩ := ih hx
        exact ⟨ns, List.mem_cons_of_mem _ a, b⟩
  have eL : xs.map f = L := by
    clear hs hp hL mem
    induction p with
    | nil => rfl
    | cons r t ih => rw [List.map_cons, ih, fx _ _ r]
  have hP : (ys.map f).Perm L := by
    rw [← eL]
    exact hp.map f
  have key : ys.map f = sortBy leL L := by
    refine sortBy_only (P := fun ns => ns.length = d) (fun a b ha hb => leL_tot a b (ha.trans hb.symm)) (fun a b c ha hb hc => leL_tr a b c (ha.trans hb.symm) (hb.trans hc.symm)) (fun a b ha hb => leL_anti a b (ha.trans hb.symm)) (fun ns hn => (hL ns hn).1) hP ?_
    rw [List.pairwise_map]
    refine List.Pairwise.imp_of_mem (fun {x y} hx hy hxy => ?_) hs
    obtain ⟨a, ma, ta⟩ := mem x (hp.mem_iff.mp hx)
    obtain ⟨b, mb, tb⟩ := mem y (hp.mem_iff.mp hy)
    rw [fx x a ta, fx y b tb]
    exact leL_code a b ((hL a ma).1.trans (hL b mb).1.symm) (hL a ma).2 (hL b mb).2 (hxy a b ta.of tb.of)
  rw [← key]
  have all : ∀ y ∈ ys, ∃ ns, TupH H y ns := fun y hy => by
    obtain ⟨ns, _, t⟩ := mem y (hp.mem_iff.mp hy)
    exact ⟨ns, t⟩
  clear hs hp hP key
  induction ys with
  | nil => exact .nil
  | cons y ys ih =>
    obtain ⟨ns, t⟩ := all y List.mem_cons_self
    rw [List.map_cons, List.map_cons, fx y ns t]
    obtain ⟨a, rfl, q⟩ := t
    exact .cons (.tup q (ints_rvs ns)) (ih fun z hz => all z (List.mem_cons_of_mem _ hz))
end

section
variable {X : Cx} {C : Kn} {E : XK} {k : Nat}
/-- what is asked of sorted's argument -/
def rSrt (X : Cx) : List V → Hp → VK → Prop := fun vs H Q => ∃ v, vs = [v] ∧
  ((∃ ns : List Int, ns.length ≤ sizeLine ∧ Col X v (ns.map V.int) H ∧ ∀ p, H p = none → Q (.ref p) (upd H p (.lst ((sortBy leI ns).map V.int)))) ∨
   (∃ (xs : List V) (L : List (List Int)) (d : Nat) (B : Int), 1 ≤ d ∧ xs.length < 64 ∧ Col X v xs H ∧ Paired (TupH H) xs L ∧ (∀ ns ∈ L, ns.length = d ∧ TS.Bd B ns) ∧ ∀ (ys : List V) (p : Addr), ys.Perm xs → ys.Pairwise (fun x y => ∀ n m, TupI X.K H x n → TupI X.K H y m → TS.code B n ≤ TS.code B m) → H p = none → Q (.ref p) (upd H p (.lst ys))) ∨
   (∃ (a : Addr) (ks : List (List Key × V)) (L : List (List Int)) (d : Nat) (B : Int), v = .ref a ∧ X.calm = true ∧ H a = some (.dT ks) ∧ 1 ≤ d ∧ ks.length < 64 ∧ (∀ bs, IsKeys H ks bs → Paired (TupH H) (bs.map V.ref) L) ∧ (∀ ns ∈ L, ns.length = d ∧ TS.Bd B ns) ∧
      ∀ (bs : List Addr) (ys : List V) (p : Addr), IsKeys H ks bs → ys.Perm (bs.map V.ref) → ys.Pairwise (fun x y => ∀ n m, TupI X.K H x n → TupI X.K H y m → TS.code B n ≤ TS.code B m) → H p = none → Q (.ref p) (upd H p (.lst ys))))
theorem paired_mem {H : Hp} {xs : List V} {L : List (List Int)} (p : Paired (TupH H) xs L) : ∀ x ∈ xs, ∃ ns ∈ L, TupH H x ns := by
  intro x hx
  induction p with
  | nil => cases hx
  | cons r t ih =>
    rcases List.mem_cons.mp hx with rfl | hx
    · exact ⟨_, List.mem_cons_self, r⟩
    · obtain ⟨ns, a, b⟩ := ih hx
      exact ⟨ns, List.mem_cons_of_mem _ a, b⟩
theorem call_srt : CallR X (.builtin "sorted") (rSrt X) := by
  intro pins s σ H vs us Q I r h
  obtain ⟨v, rfl, h⟩ := h
  obtain ⟨u, rfl, ru⟩ := r.one
  rcases h with ⟨ns, hz, hc, q⟩ | ⟨xs, L, d, B, hd, hl, hc, hp, hL, q⟩ | ⟨a, ks, L, d, B, rfl, hcalm, ha, hd, hl, hp, hL, q⟩
  · refine sorted_ints_of hz (fun R k => hc pins s σ u R I ru k) fun ns' p h1 h2 h3 => ?_
    rw [sortI_only h1 h2]
    exact q p h3
  · refine sorted_tups_of (d := d) (B := B) hd fun R k => hc pins s σ u R I ru fun us s1 I1 rv => k xs us s1 I1 rv hl (fun x hx => ?_) fun ys p a b c => q ys p a b c
    obtain ⟨ns, m, t⟩ := paired_mem hp x hx
    exact ⟨ns, t.of, hL ns m⟩
  · cases ru
    refine sorted_tups_of (d := d) (B := B) hd fun R k => col_dT hcalm ha I fun bs us s1 hb I1 rv => k (bs.map V.ref) us s1 I1 rv ?_ (fun x hx => ?_) fun ys p a b c => q bs ys p hb a b c
    · rw [List.length_map, ← Paired.length hb]
      exact hl
    · obtain ⟨ns, m, t⟩ := paired_mem (hp bs hb) x hx
      exact ⟨ns, t.of, hL ns m⟩
theorem sortTs_of {L : List (List Int)} {zs : List A} (h : sortTs L = some zs) : ∃ d, 1 ≤ d ∧ L.length < 64 ∧ (∀ ns ∈ L, ns.length = d ∧ TS.Bd (mostOf L) ns) ∧ zs = (sortBy leL L).map fun ns => .tup (ns.map .int) := by
  unfold sortTs at h
  split at h
  · cases h
  · split at h
    · rename_i ns rest hc
      cases h
      rw [Bool.and_eq_true, Bool.and_eq_true] at hc
      exact ⟨_, Nat.le_of_ble_eq_true hc.1.1, Nat.lt_succ_of_le (Nat.le_of_ble_eq_true hc.1.2), okTs_of hc.2, rfl⟩
    · cases h
theorem sortedO_ok (W : Go X C E k) : OpL C E sortedO (rSrt X) := by
  intro G lo h H xs vs Q rh rv q
  unfold sortedO at q
  split at q
  · rename_i x
    obtain ⟨v, rfl, r⟩ := rvs1 rv
    refine ⟨v, rfl, ?_⟩
    have fin : ∀ {zs : List A} {ys : List V} {p : Addr}, fin (relV C) C E G lo h.length H (.ok (.ref h.length) (h ++ [.lst zs])) Q → RVs C G h.length H zs ys → H p = none → Q (.ref p) (upd H p (.lst ys)) := fun f r hp => fin_lst f rh r hp
    split at q
    · rename_i ys hy
      obtain ⟨a, ws, rfl, hsq, rw'⟩ := rh.seq hy r
      have col : Col X (.ref a) ws H := by
        rcases hsq with z | z
        · exact col_list (by rw [W.K]; exact z)
        · exact col_tup (by rw [W.K]; exact z)
      split at q
      · rename_i zs hz
        unfold sortA at hz
        split at hz
        · rename_i ns hn
          split at hz
          · rename_i hb
            cases hz
            obtain ⟨e1, _⟩ := rvs_ints rw' hn
            rw [e1] at col
            exact .inl ⟨ns, okB_le hb, col, fun p hp => fin q (ints_rvs _) hp⟩
          · cases hz
        · split at hz
          · rename_i L hL
            obtain ⟨d, hd, hl, hb, rfl⟩ := sortTs_of hz
            have pr := rvs_tups rw' hL
            exact .inr (.inl ⟨ws, L, d, mostOf L, hd, by rw [Paired.length pr]; exact hl, col, pr, hb, fun ys p h1 h2 h3 => fin q (tups_out pr hb h1 h2) h3⟩)
          · cases hz
      · exact q.elim
    · split at q
      · rename_i i hy
        cases r with
        | ref hlt =>
          split at q
          · rename_i kvs hk
            split at q
            · rename_i ns hn
              split at q
              · rename_i hb
                cases rh.obj _ _ hk with
                | dk e rk =>
                  have col := col_dK W.calm e
                  rw [keysI_map rk hn] at col
                  exact .inl ⟨ns, okB_le hb, col, fun p hp => fin q (ints_rvs _) hp⟩
              · exact q.elim
            · exact q.elim
          · rename_i kvs hk
            split at q
            · rename_i L hL
              split at q
              · rename_i zs hz
                obtain ⟨d, hd, hl, hb, rfl⟩ := sortTs_of hz
                cases rh.obj _ _ hk with
                | @dt _ ks _ e rk =>
                  refine .inr (.inr ⟨_, ks, L, d, mostOf L, rfl, W.calm, e, hd, ?_, fun bs hbs => keys_tups rk hbs hL, hb, fun bs ys p h1 h2 h3 h4 => fin q (tups_out (keys_tups rk h1 hL) hb h2 h3) h4⟩)
                  have e1 : kvs.length = L.length := by
                    clear q hz hb hd rk hk fin hl
                    induction kvs generalizing L with
                    | nil => cases hL; rfl
                    | cons p ps ih =>
                      unfold tupsK at hL
                      split at hL
                      · split at hL
                        · rename_i r' hr
                          cases hL
                          rw [List.length_cons, List.length_cons, ih _ hr]
                        · cases hL
                      · cases hL
                  rw [← Paired.length rk, e1]
                  exact hl
              · exact q.elim
            · exact q.elim
          · exact q.elim
      · exact q.elim
  · exact q.elim
end
end MA

set_option linter.all false
set_option maxRecDepth 100000
namespace MA
open PySem L2 SlX LamX
open PySem.Spec PyProof.Rows

section
variable {X : Cx} {pins : List (Addr × Obj)} {σ : L2.St} {H : Hp} {s : Shared} {a b : Addr} {A : Around} {E : Value → Shared → Prop}
/-- an empty dict is one of tuple keys, too -/
theorem dk0_T {P : Program} {w : World} {h : Heap} (ok : HOk P w H h) (e : H a = some (.dK [])) : (a == sysModules) = false ∧ h.DictOfH (tupleKind (mixKind P w)) a [] := by
  obtain ⟨_, lo, vs, rel, dd⟩ := dk_of ok e
  refine ⟨lo, ?_⟩
  have e0 : vs = [] := by
    have := Paired.length rel
    exact List.length_eq_zero_iff.mp this.symm
  subst e0
  obtain ⟨o, es, ep, ho, hx, hd, _, hp, _⟩ := dd
  refine ⟨o, es, ep, ho, hx, hd, ?_, fun x hx => (by cases hx), List.nodup_nil⟩
  have := hp.length
  exact List.length_eq_zero_iff.mp (by simpa using this)
theorem dt_one {P : Program} {w : World} {h' : Heap} {k : List Key} {v : V} {r : Value} {o : HO} (hd : (a == sysModules) = false) (eb : H b = some (.tup (k.map kV))) (ea : H a = some o) (ne : HO.tup (k.map kV) ≠ o) (rv : L2.RelV v r) (dd : h'.DictOfH (tupleKind (mixKind P w)) a [(k, b, r)]) : ObjOk P w (upd H a (.dT [(k, v)])) h' a (.dT [(k, v)]) := by
  obtain ⟨q, es, ep, hq, h2, h3, h4, _, h5⟩ := dd
  refine ⟨by show 1 ≤ sizeLine; decide, hd, [(k, b, r)], .cons ⟨rfl, ?_, rv⟩ .nil, q, es, ep, hq, h2, h3, h4, h5⟩
  rw [upd_ne (ne_of eb ea ne)]
  exact eb
/-- a[y] = v, a an empty dict, y a tuple -/
theorem d_setT0 {k : List Key} {v : V} {r : Value} {Q : Unit → Shared → Prop} (hu : A.units + 1 < cLine) (I : L2.Inv X pins σ H s) (e : H a = some (.dK [])) (eb : H b = some (.tup (k.map kV))) (rv : L2.RelV v r) (h : ∀ s', L2.Inv X pins σ (upd H a (.dT [(k, v)])) s' → Q () s') :
    wpAny (model X.prog X.w) A (setItem (.ref a) (.ref b) r) Q E s := by
  obtain ⟨lo, dd⟩ := dk0_T I.hok e
  refine wpAny_setItem_heap (hsz := Nat.zero_le _) (tupleKind_room_in1 hu) (key_of I.hok eb) dd fun h' dd' hs => h _ ?_
  have hx : ∃ q, h'.get? a = some q := let ⟨q, _, _, hq, _⟩ := dd'; ⟨q, hq⟩
  exact d_write I (by rw [e]; exact True.intro) hs hx (dt_one lo eb e (fun z => nomatch z) rv dd')

/-! ### o[i] = e -/
def rPut (X : Cx) : TSet := fun o i v H Q => rSetL o i v H Q ∨ rSetD o i v H Q ∨ ∃ a b k, o = .ref a ∧ i = .ref b ∧ H a = some (.dK []) ∧ H b = some (.tup (k.map kV)) ∧ Q (upd H a (.dT [(k, v)]))
theorem set_put (hu : X.A.units + 1 < cLine) : PSet X (rPut X) := by
  intro pins s σ H o i v ov iv u Q I ro ri rv h
  rcases h with h | h | ⟨a, b, k, rfl, rfl, ha, hb, q⟩
  · exact set_list pins s σ H o i v ov iv u Q I ro ri rv h
  · exact set_dict hu pins s σ H o i v ov iv u Q I ro ri rv h
  · cases ro
    cases ri
    exact d_setT0 hu I ha hb rv fun s' I' => ⟨_, I', q⟩
end
def small (n : Nat) : Bool := Nat.ble (n + 1) 100000
theorem small_lt {n : Nat} (h : small n = true) : n < sizeLine := Nat.lt_of_succ_le (Nat.le_trans (Nat.le_of_ble_eq_true h) (by decide))
def storeF (lo : Nat) (h : Hs) (x y v : A) : Option Hs := match x with
  | .ref i => if Nat.ble lo i then match h[i]? with
      | some (.lst xs) => match y with
        | .int j => match ixN xs.length j with
          | some k => some (h.set i (.lst (xs.set k v)))
          | none => none
        | _ => none
      | some (.dk kvs) => match keyOf y with
        | some k => if small kvs.length then some (h.set i (.dk (putA kvs k v))) else none
        | none => match y with
          | .tup ys => match kvs with
            | [] => match keysOf ys with
              | some ks => some (h.set i (.dt [(ks, v)]))
              | none => none
            | _ => none
          | _ => none
      | some (.dt kvs) => match y with
        | .tup ys => match keysOf ys with
          | some ks => if small kvs.length then some (h.set i (.dt (putA kvs ks v))) else none
          | none => none
        | _ => none
      | _ => none
    else none
  | _ => none
def putS' (fo fi fv : MF A) : MF Fl := fv.bind fun v => fo.bind fun x => fi.bind fun y => fun lo s h => match storeF lo h x y v with
  | some h' => .ok (.nx s) h'
  | none => .bad
section
variable {X : Cx} {C : Kn} {E : XK} {k : Nat} {p p2 pos : Pos} {G : Loc} {lo : Nat} {h h' : Hs} {H : Hp}
theorem rvs_set {n : Nat} {x : A} {v : V} (rv : RV C G n H x v) : ∀ {xs : List A} {vs : List V} (i : Nat), RVs C G n H xs vs → RVs C G n H (xs.set i x) (vs.set i v)
  | _, _, _, .nil => .nil
  | _, _, 0, .cons _ t => .cons rv t
  | _, _, i + 1, .cons r t => .cons r (rvs_set rv i t)
theorem free_dk0 {a : Addr} : Free a (.dK []) := free_dk
theorem store_use {x y z : A} {v w u : V} {Q : Hp → Prop} (rh : Rh C G h H) (rx : RV C G h.length H x v) (ry : RV C G h.length H y w) (rz : RV C G h.length H z u) (e : storeF lo h x y z = some h')
    (q : ∀ H', Ext lo h.length G H h'.length G H' → Rh C G h' H' → Q H') : rPut X v w u H Q := by
  unfold storeF at e
  cases x with
  | ref i =>
    cases rx with
    | ref hlt =>
      dsimp only at e
      split at e
      · rename_i hlo
        have hlo := Nat.le_of_ble_eq_true hlo
        split at e
        · rename_i xs hh
          split at e
          · rename_i j
            split at e
            · rename_i k hk
              cases e
              cases ry
              cases rh.obj _ _ hh with
              | lst hl r =>
                refine .inl ⟨_, _, j, k, rfl, rfl, hl, by rw [← r.length]; exact hk, q _ ?_ ?_⟩
                · rw [List.length_set]; exact Ext.put rh hlo hlt hl free_lst
                · exact rh.put hlt hl free_lst (.lst upd_same (rvs_set (rz.ext (Ext.put rh hlo hlt hl free_lst)) k (r.ext (Ext.put rh hlo hlt hl free_lst))))
            · cases e
          · cases e
        · rename_i kvs hh
          cases rh.obj _ _ hh with
          | dk hl r =>
            split at e
            · rename_i k hk
              split at e
              · rename_i hs
                cases e
                rw [keyOf_rv hk ry]
                refine .inr (.inl ⟨_, _, rfl, DPut.k hl (by rw [← Paired.length r]; exact small_lt hs), q _ ?_ ?_⟩)
                · rw [List.length_set]; exact Ext.put rh hlo hlt hl free_dk
                · exact rh.put hlt hl free_dk (.dk upd_same (rks_put (rz.ext (Ext.put rh hlo hlt hl free_dk)) k (r.ext (Ext.put rh hlo hlt hl free_dk))))
              · cases e
            · split at e
              · rename_i ys
                split at e
                · split at e
                  · rename_i ks hks
                    cases e
                    cases r
                    cases ry with
                    | tup ht rt =>
                      rw [keysOf_rvs hks rt] at ht
                      refine .inr (.inr ⟨_, _, ks, rfl, rfl, hl, ht, q _ ?_ ?_⟩)
                      · rw [List.length_set]; exact Ext.put rh hlo hlt hl free_dk
                      · exact rh.put hlt hl free_dk (.dt upd_same (.cons ⟨rfl, rz.ext (Ext.put rh hlo hlt hl free_dk)⟩ .nil))
                  · cases e
                · cases e
              · cases e
        · rename_i kvs hh
          cases rh.obj _ _ hh with
          | dt hl r =>
            split at e
            · rename_i ys
              split at e
              · rename_i ks hks
                split at e
                · rename_i hs
                  cases e
                  cases ry with
                  | tup ht rt =>
                    rw [keysOf_rvs hks rt] at ht
                    refine .inr (.inl ⟨_, _, rfl, DPut.t hl ht (by rw [← Paired.length r]; exact small_lt hs), q _ ?_ ?_⟩)
                    · rw [List.length_set]; exact Ext.put rh hlo hlt hl free_dt
                    · exact rh.put hlt hl free_dt (.dt upd_same (rks_put (rz.ext (Ext.put rh hlo hlt hl free_dt)) ks (r.ext (Ext.put rh hlo hlt hl free_dt))))
                · cases e
              · cases e
            · cases e
        · cases e
      · cases e
  | _ => cases e
theorem js_put {o i e : Expr} {fo fi fe : MF A} (W : Go X C E k) (ho : PE X o (tE C E fo)) (hi : PE X i (tE C E fi)) (he : PE X e (tE C E fe)) (hs : swapsWith e (some (.Subscript o i p2)) pos.line X.env = pure false := by rfl) : PS X (.Assign [.Subscript o i p2] e pos) (tS C E (putS' fo fi fe)) := by
  have hu : X.A.units + 1 < cLine := hu_of W.room
  refine impS (t := fun D τ H => (tE C E fe) τ H fun v H1 => (tE C E fo) τ H1 fun x H2 => (tE C E fi) τ H2 fun y H3 => rPut X x y v H3 fun H4 => D.nx τ H4) ⟨fun pins s τ H D I q => ?_⟩ fun D τ H c => ?_
  · refine wpAny_Assign_Subscript (thn (he.run pins s τ H _ I q) fun r s1 ⟨v, H1, I1, rv, q1⟩ => thn (ho.run pins s1 τ H1 _ I1 q1) fun u s2 ⟨x, H2, I2, rx, q2⟩ => thn (hi.run pins s2 τ H2 _ I2 q2) fun iv s3 ⟨y, H3, I3, ry, q3⟩ => ?_) hs
    exact wpAny_mono (set_put hu pins s3 τ H3 x y v u iv r _ I3 rx ry rv q3) (fun _ s4 ⟨H4, I4, z⟩ => ⟨τ, H4, I4, z⟩) fun _ _ z => z
  · refine Cont.mono (ContS.bind c) fun v H1 ⟨z, c1⟩ => Cont.mono (ContS.bind c1) fun x H2 ⟨a, c2⟩ => Cont.mono (ContS.bind c2) fun y H3 ⟨b, c3⟩ => ?_
    obtain ⟨G, lo, h, sl, rh, rs, rv, q⟩ := c3
    dsimp only at q
    cases rv with
    | cons rb rv =>
      cases rv with
      | cons ra rv =>
        obtain ⟨v', e', rz⟩ := rvs1 rv
        cases e'
        split at q
        · rename_i h' hst
          exact store_use rh ra rb rz hst fun H' e1 r1 => q G H' τ e1 r1 (by
            have hl : h'.length = h.length := by
              unfold storeF at hst
              cases a <;> dsimp only at hst <;> (first | cases hst | skip)
              repeat' (first | (split at hst) | (cases hst; rw [List.length_set]) | (cases hst))
            rw [hl] at e1 ⊢
            exact rs.ext e1)
        · exact q.elim

/-! ### {}, {k: v} -/
def dict0F : MF A := fun _ _ h => .ok (.ref h.length) (h ++ [.dk []])
theorem je_dict0 : PE X (.Dict [] [] pos) (tE C E dict0F) := imp pe_dnewK fun σ H Q c p hp => by
  obtain ⟨G, lo, h, s, rh, rs, rv, q⟩ := c
  exact fin_new q rh hp fun e => .dk upd_same .nil
def tDict1 (tk tv : TE) : TE := fun σ H Q => ∀ p, H p = none → tk σ (upd H p (.dK [])) fun y H1 => tv σ H1 fun v H2 => H2 p = some (.dK []) ∧
  ((∃ k, y = kV k ∧ Q (.ref p) (upd H2 p (.dK [(k, v)]))) ∨ ∃ k b, y = .ref b ∧ H2 b = some (.tup (k.map kV)) ∧ Q (.ref p) (upd H2 p (.dT [(k, v)])))
theorem pe_dict1 {kx vx : Expr} {tk tv : TE} (hu : X.A.units < cLine) (hk : PE X kx tk) (hv : PE X vx tv) : PE X (.Dict [some kx] [vx] pos) (tDict1 tk tv) := by
  refine ⟨fun pins s σ H Q I q => ?_⟩
  have hn := I.hok.fresh (Nat.le_refl s.heap.objs.size)
  have I1 := I.laid (a := s.heap.objs.size) (o := .dK []) (h' := s.heap.push { cls := .type "dict", data := .dict #[] }) (t' := s.toks) (fun _ _ q => Heap.get?_push_of_some _ q) (Nat.le_refl _) (dk_empty s.heap I.big)
  have q := q _ hn
  rw [arm_eval_Dict]
  refine wpAny_bind (wpAny_standAt ?_)
  have sh : (evalEachOpt [some kx] X.env).zip ((evalEach [vx] X.env).map fun v => do let x ← v; standAt pos; pure x) = [(eval kx X.env, do let x ← eval vx X.env; standAt pos; pure x)].map fun p => (some p.1, p.2) := rfl
  rw [sh, dictDisplay_pairs _ (by simp) (by simp)]
  refine wpAny_bind ?_
  unfold subDict
  refine wpAny_bind (wpAny_alloc ?_)
  refine wpAny_bind (wpAny_holding ?_)
  rw [if_pos (by show 1 ≤ 15; decide)]
  refine wpAny_bind (evalPairs_cons ?_)
  refine thn (hk.run pins _ σ _ _ I1 q) fun ku s2 ⟨y, H1, I2, ry, q1⟩ => ?_
  refine wpAny_bind (thn (hv.run pins s2 σ H1 _ I2 q1) fun vu s3 ⟨v, H2, I3, rv, e, q2⟩ => wpAny_bind (wpAny_standAt (wpAny_pure (evalPairs_nil ?_))))
  refine wpAny_holding ?_
  rw [List.forIn_cons]
  refine wpAny_bind (wpAny_bind (wpAny_bind ?_))
  rcases q2 with ⟨k, rfl, q2⟩ | ⟨k, b, rfl, eb, q2⟩
  · obtain ⟨z, hd, vs0, r0, dd⟩ := dk_of I3.hok e
    cases r0
    refine wpAny_dictSet_pairs (hsz := Nat.zero_le _) (kV_is ry) dd fun h' dd' hs => ?_
    refine wpAny_pure ?_
    dsimp only
    rw [List.forIn_nil]
    refine wpAny_pure (wpAny_pure (wpAny_pure (wpAny_pure ⟨.ref s.heap.objs.size, upd H2 s.heap.objs.size (.dK [(k, v)]), ?_, rfl, q2⟩)))
    have hx : ∃ q, h'.get? s.heap.objs.size = some q := let ⟨q, _, _, hq, _⟩ := dd'; ⟨q, hq⟩
    exact d_write I3 (by rw [e]; exact True.intro) hs hx (dk_new (by show 1 ≤ sizeLine; decide) hd (.cons ⟨rfl, rv⟩ .nil) dd')
  · cases (show ku = Value.ref b from ry)
    obtain ⟨hd, dd⟩ := dk0_T I3.hok e
    refine wpAny_dictSet_heap (hsz := Nat.zero_le _) hu (key_of I3.hok eb) dd fun h' dd' hs => ?_
    refine wpAny_pure ?_
    dsimp only
    rw [List.forIn_nil]
    refine wpAny_pure (wpAny_pure (wpAny_pure (wpAny_pure ⟨.ref s.heap.objs.size, upd H2 s.heap.objs.size (.dT [(k, v)]), ?_, rfl, q2⟩)))
    have hx : ∃ q, h'.get? s.heap.objs.size = some q := let ⟨q, _, _, hq, _⟩ := dd'; ⟨q, hq⟩
    exact d_write I3 (by rw [e]; exact True.intro) hs hx (dt_one hd eb e (fun z => nomatch z) rv dd')
def dict1F (fk fv : MF A) : MF A := fun lo s h => if Nat.ble lo h.length then match fk lo s (h ++ [.dk []]) with
  | .ok y h1 => match fv lo s h1 with
    | .ok v h2 => match h2[h.length]? with
      | some (.dk []) => match keyOf y with
        | some k => .ok (.ref h.length) (h2.set h.length (.dk [(k, v)]))
        | none => match y with
          | .tup ys => match keysOf ys with
            | some ks => .ok (.ref h.length) (h2.set h.length (.dt [(ks, v)]))
            | none => .bad
          | _ => .bad
      | _ => .bad
    | .ex e h2 => .ex e h2
    | .bad => .bad
  | .ex e h1 => .ex e h1
  | .bad => .bad
  else .bad
theorem je_dict1 {kx vx : Expr} {fk fv : MF A} (W : Go X C E k) (hk : PE X kx (tE C E fk)) (hv : PE X vx (tE C E fv)) : PE X (.Dict [some kx] [vx] pos) (tE C E (dict1F fk fv)) :=
  imp (pe_dict1 (Nat.lt_of_succ_lt (hu_of W.room)) hk hv) fun σ H Q c p hp => by
    obtain ⟨G, lo, h, s, rh, rs, rv, q⟩ := c
    unfold dict1F at q
    split at q
    · rename_i hlo
      have hlo := Nat.le_of_ble_eq_true hlo
      have e1 := Ext.new (lo := lo) rh hp (.dK [])
      have r1 : Rh C (G.at h.length p) (h ++ [.dk []]) (upd H p (.dK [])) := rh.new hp (.dk upd_same .nil)
      refine ⟨G.at h.length p, lo, h ++ [.dk []], s, r1, by rw [len1]; exact rs.ext e1, .nil, ?_⟩
      rw [len1]
      cases hz : fk lo s (h ++ [.dk []]) with
      | bad => rw [hz] at q; exact q
      | ex e h1 => rw [hz] at q; exact fun G' H' c d a b z => q G' H' c d (e1.trans a) b z
      | ok y h1 =>
        rw [hz] at q
        intro G1 H1 w e2 r2 ry
        refine ⟨G1, lo, h1, s, r2, rs.ext (e1.trans e2), .nil, ?_⟩
        dsimp only at q
        cases hw : fv lo s h1 with
        | bad => rw [hw] at q; exact q
        | ex e h2 => rw [hw] at q; exact fun G' H' c d a b z => q G' H' c d ((e1.trans e2).trans a) b z
        | ok v h2 =>
          rw [hw] at q
          intro G2 H2 u e3 r3 rz
          have e13 := (e1.trans e2).trans e3
          have gp : G2 h.length = p := by
            rw [e3.at_ _ (Nat.lt_of_lt_of_le (Nat.lt_succ_self _) e2.le), e2.at_ _ (Nat.lt_succ_self _), Loc.at_new]
          have hlt : h.length < h2.length := Nat.lt_of_lt_of_le (Nat.lt_succ_self _) (Nat.le_trans e2.le e3.le)
          dsimp only at q
          split at q
          · rename_i hd
            cases r3.obj _ _ hd with
            | dk hl r =>
              cases r
              have ry2 := ry.ext e3
              split at q
              · rename_i k hk
                refine ⟨by rw [← gp]; exact hl, .inl ⟨k, keyOf_rv hk ry, ?_⟩⟩
                have ep := Ext.put (u' := .dK [(k, u)]) r3 hlo hlt hl free_dk
                have z : RV C G2 h2.length (upd H2 (G2 h.length) (.dK [(k, u)])) (.ref h.length) (.ref (G2 h.length)) := .ref hlt
                have w := q G2 _ _ (by rw [List.length_set]; exact e13.trans ep) (r3.put hlt hl free_dk (.dk upd_same (.cons ⟨rfl, rz.ext ep⟩ .nil))) (by rw [List.length_set]; exact z)
                rw [gp] at w
                exact w
              · split at q
                · rename_i ys
                  split at q
                  · rename_i ks hks
                    cases ry2 with
                    | tup ht rt =>
                      rw [keysOf_rvs hks rt] at ht
                      refine ⟨by rw [← gp]; exact hl, .inr ⟨ks, _, rfl, ht, ?_⟩⟩
                      have ep := Ext.put (u' := .dT [(ks, u)]) r3 hlo hlt hl free_dk
                      have z : RV C G2 h2.length (upd H2 (G2 h.length) (.dT [(ks, u)])) (.ref h.length) (.ref (G2 h.length)) := .ref hlt
                      have w := q G2 _ _ (by rw [List.length_set]; exact e13.trans ep) (r3.put hlt hl free_dk (.dt upd_same (.cons ⟨rfl, rz.ext ep⟩ .nil))) (by rw [List.length_set]; exact z)
                      rw [gp] at w
                      exact w
                  · exact q.elim
                · exact q.elim
          · exact q.elim
    · exact q.elim
end
end MA

set_option linter.all false
set_option maxRecDepth 100000
namespace MA
open PySem L2 SlX LamX
open PySem.Spec PyProof.Rows

/-! ### what is walked, whatever it is -/
/-- its items, read off the heap at each turn -/
abbrev Src := Hs → Option (List A)
abbrev VP := Loc → Nat → Hp → Prop
structure ItM (C : Kn) (J : It) (src : Src) (V0 : VP) : Prop where
  st : ∀ {lo n n' : Nat} {G G' : Loc} {H H' : Hp}, Ext lo n G H n' G' H' → V0 G n H → V0 G' n' H'
  go : ∀ {G : Loc} {h : Hs} {H : Hp} {xs : List A} {i : Nat}, Rh C G h H → V0 G h.length H → src h = some xs → i < xs.length → J.go i H
  stop : ∀ {G : Loc} {h : Hs} {H : Hp} {xs : List A} {i : Nat}, Rh C G h H → V0 G h.length H → src h = some xs → xs.length ≤ i → J.stop i H
  yld : ∀ {G : Loc} {h : Hs} {H H' : Hp} {xs : List A} {i : Nat} {x : A} {v : V}, Rh C G h H → V0 G h.length H → src h = some xs → xs[i]? = some x → J.yld i H v H' → (∀ b o, H b = some o → H' b = some o) ∧ RV C G h.length H' x v
def relJ (C : Kn) : Loc → Nat → Hp → Src → It → Prop := fun G n H src J => ∃ V0 : VP, V0 G n H ∧ ItM C J src V0
def tI (C : Kn) (E : XK) (fs : MF Src) : TI := fun σ H R => Cont (relJ C) C E fs [] [] σ H R
theorem impI {X : Cx} {tg iter : Expr} {t t' : TI} (h : PI X tg iter t) (k : ∀ σ H R, t' σ H R → t σ H R) : PI X tg iter t' := ⟨fun pins s σ H R I q => h.run pins s σ H R I (k σ H R q)⟩
theorem impI2 {X : Cx} {tg iter : Expr} {t t1 t2 : TI} (h1 : PI X tg iter t1) (h2 : PI X tg iter t2) (k : ∀ σ H R, t σ H R → t1 σ H R ∨ t2 σ H R) : PI X tg iter t := ⟨fun pins s σ H R I q => by
  rcases k σ H R q with q | q
  · exact h1.run pins s σ H R I q
  · exact h2.run pins s σ H R I q⟩
/-- without any wish about the next state -/
theorem cont_at {C : Kn} {E : XK} {fa : MF A} {k : A → MF Src} {σ : L2.St} {H : Hp} {R : It → Hp → Prop} (c : Cont (relJ C) C E (fa.bind k) [] [] σ H R) :
    tE C E fa σ H fun v H1 => ∃ x, Cont (relJ C) C E (k x) [x] [v] σ H1 R := Cont.bind c

section
variable {X : Cx} {C : Kn} {E : XK} {k : Nat} {p pos : Pos}
/-! ### for -/
def forB (t : Tg) (b : MF Fl) (src : Src) : Nat → Nat → MF Fl
  | 0, _ => fun _ _ _ => .bad
  | m + 1, j => fun lo s h => match src h with
    | none => .bad
    | some xs => match xs[j]? with
      | none => .ok (.nx s) h
      | some x => match bT t x s with
        | none => .bad
        | some s' => turnF b (forB t b src m (j + 1)) lo s' h
def forG (t : Tg) (fs : MF Src) (b : MF Fl) : MF Fl := fun lo s h => match fs lo s h with
  | .ok src h1 => match src h1 with
    | none => .bad
    | some xs => forB t b src (xs.length + 1) 0 lo s h1
  | .ex e h1 => .ex e h1
  | .bad => .bad
theorem js_forG {tg iter : Expr} {body : List Stmt} {t : Tg} {fs : MF Src} {f : MF Fl} (W : Go X C E k) (hp : PassesOwn (model X.prog X.w) X.A X.env X.xe) (hi : PI X tg iter (tI C E fs)) (hg : PG X tg (gOf X.K t)) (hb : PSs X body (tS C E f))
    (hs : ∀ x, foldedSetIterable iter X.env x = pure x := by intro _; rfl) : PS X (.For tg iter body [] pos) (tS C E (forG t fs f)) :=
  impS (ps_for hp W.calm hi hg hb hs) fun D σ H c => by
    rw [W.K]
    obtain ⟨G, lo, h, s, rh, rs, rv, q⟩ := c
    refine ⟨G, lo, h, s, rh, rs, .nil, ?_⟩
    unfold forG at q
    cases hz : fs lo s h with
    | bad => rw [hz] at q; exact q
    | ex e h1 => rw [hz] at q; exact q
    | ok src h1 =>
      rw [hz] at q
      intro G1 H1 J e1 r1 ⟨V0, hv, M⟩
      dsimp only at q
      split at q
      · exact q.elim
      rename_i xs0 hx0
      refine ⟨fun i m σ H => ∃ (G : Loc) (lo : Nat) (h : Hs) (s : Sl), Rh C G h H ∧ RS C G h.length H s σ ∧ V0 G h.length H ∧ finS C E G lo h.length H (forB t f src m i lo s h) D, ⟨_, G1, lo, h1, s, r1, rs.ext e1, hv, finS.ext e1 q⟩, fun i m σ H w => ?_⟩
      obtain ⟨G, lo, h, s, rh, rs, hv, q⟩ := w
      cases m with
      | zero => exact q.elim
      | succ m =>
        unfold forB at q
        split at q
        · exact q.elim
        · rename_i xs hxs
          split at q
          · rename_i hx
            exact .inl ⟨M.stop rh hv hxs (List.getElem?_eq_none_iff.mp hx), q G H σ Ext.refl rh rs⟩
          · rename_i x hx
            split at q
            · exact q.elim
            · rename_i s' hs'
              refine .inr ⟨M.go rh hv hxs (List.getElem?_eq_some_iff.mp hx).1, fun σ' H' => ∃ (G : Loc) (lo : Nat) (h : Hs) (s : Sl), Rh C G h H' ∧ RS C G h.length H' s σ' ∧ V0 G h.length H' ∧ finS C E G lo h.length H' (forB t f src m (i + 1) lo s h) D, fun σ' H' z => ⟨m, Nat.lt_succ_self _, z⟩, fun v H' y => ?_⟩
              obtain ⟨kp, rx⟩ := M.yld rh hv hxs hx y
              have e2 : Ext lo h.length G H h.length G H' := Ext.grow kp rh
              have r2 := rh.grow kp
              refine gOf_use t hs' rx (rs.ext e2) fun σ2 rs2 _ => ⟨G, lo, h, s', r2, rs2, .nil, ?_⟩
              unfold turnF at q
              have hv2 := M.st e2 hv
              cases hr : f lo s' h with
              | bad => rw [hr] at q; exact q
              | ex e h1 => rw [hr] at q; exact finS.ext (D := D) e2 q
              | ok x h1 =>
                rw [hr] at q
                cases x with
                | nx s2 => exact fun G' H' σ' e3 r3 rs' => ⟨G', lo, h1, s2, r3, rs', M.st e3 hv2, finS.ext (e2.trans e3) q⟩
                | ct s2 => exact fun G' H' σ' e3 r3 rs' => ⟨G', lo, h1, s2, r3, rs', M.st e3 hv2, finS.ext (e2.trans e3) q⟩
                | bk s2 => exact finS.ext (D := D) e2 q
                | rt x => exact finS.ext (D := D) e2 q

/-! ### comprehensions -/
/-- the turns of a comprehension: what is made of an item is put into the d-th thing by pt -/
def cpB {α : Type} (t : Tg) (ft : MF Bool) (fe : MF α) (pt : Nat → Hs → α → Option Hs) (vs : List Nat) (src : Src) (d : Nat) : Nat → Nat → MF A
  | 0, _ => fun _ _ _ => .bad
  | m + 1, j => fun lo s h => match src h with
    | none => .bad
    | some xs => match xs[j]? with
      | none => .ok (.ref d) h
      | some x => match bT t x (wipeA s vs) with
        | none => .bad
        | some s2 => match ft lo s2 h with
          | .ok true h3 => match fe lo s2 h3 with
            | .ok y h4 => match pt d h4 y with
              | some h5 => cpB t ft fe pt vs src d m (j + 1) lo s h5
              | none => .bad
            | _ => .bad
          | .ok false h3 => cpB t ft fe pt vs src d m (j + 1) lo s h3
          | _ => .bad
def cpF {α : Type} (t : Tg) (ft : MF Bool) (fe : MF α) (pt : Nat → Hs → α → Option Hs) (o : AO) (vs : List Nat) (fs : MF Src) : MF A := fun lo s h => match fs lo s h with
  | .ok src h1 => match src h1 with
    | none => .bad
    | some xs => if Nat.ble lo h1.length then cpB t ft fe pt vs src h1.length (xs.length + 1) 0 lo s (h1 ++ [o]) else .bad
  | .ex e h1 => .ex e h1
  | .bad => .bad
theorem wipe_wipe {σ : L2.St} : ∀ (ws vs : List Nat), (∀ i ∈ ws, i ∈ vs) → wipe (wipe σ ws) vs = wipe σ vs
  | [], _, _ => rfl
  | w :: ws, vs, hw => by
    show wipe ((wipe σ ws).set w none) vs = _
    rw [wipe_set (hw w List.mem_cons_self), wipe_wipe ws vs fun i hi => hw i (List.mem_cons_of_mem _ hi)]
/-- the state between two turns -/
def CpW (C : Kn) (E : XK) (f : MF A) (V0 : VP) (d : Nat) (D : Addr) (σ : L2.St) (H : Hp) (Q : VK) : Prop :=
  ∃ (G : Loc) (lo : Nat) (h : Hs) (s : Sl), Rh C G h H ∧ RS C G h.length H s σ ∧ V0 G h.length H ∧ d < h.length ∧ lo ≤ d ∧ G d = D ∧ fin (relV C) C E G lo h.length H (f lo s h) Q
theorem cp_use {α β : Type} {rel : Loc → Nat → Hp → α → β → Prop} {t : Tg} {ft : MF Bool} {fe : MF α} {pt : Nat → Hs → α → Option Hs} {vs : List Nat} (hvs : ∀ i ∈ tgs t, i ∈ vs) {src : Src} {J : It} {V0 : VP} (M : ItM C J src V0)
    {Pt : Addr → β → Hp → (Hp → Prop) → Prop} {RE : L2.St → Hp → (β → Hp → Prop) → Prop} (hre : ∀ σ H R, Cont rel C EF fe [] [] σ H R → RE σ H R)
    (hpt : ∀ {G : Loc} {lo d : Nat} {h h' : Hs} {H : Hp} {y : α} {w : β} {Z : Hp → Prop}, Rh C G h H → d < h.length → lo ≤ d → rel G h.length H y w → pt d h y = some h' → (∀ H', Ext lo h.length G H h'.length G H' → Rh C G h' H' → Z H') → Pt (G d) w H Z)
    {m d : Nat} {D : Addr} {σ : L2.St} {H : Hp} {Q : VK} (c : CpW C E (cpB t ft fe pt vs src d m 0) V0 d D σ H Q) :
    ∃ W : Nat → Nat → Hp → Prop, (∃ m, W 0 m H) ∧ ∀ i m H, W i m H →
      (J.stop i H ∧ Q (.ref D) H) ∨ (J.go i H ∧ ∃ Nx : Hp → Prop, (∀ H', Nx H' → ∃ m', m' < m ∧ W (i + 1) m' H') ∧ ∀ x H', J.yld i H x H' → gOf C.K t x (wipe σ vs) H' fun σ2 H2 => wipe σ2 vs = wipe σ vs ∧ tT C EF ft σ2 H2 fun b H3 =>
        if b = true then RE σ2 H3 fun w H4 => Pt D w H4 Nx else Nx H3) := by
  refine ⟨fun i m H => CpW C E (cpB t ft fe pt vs src d m i) V0 d D σ H Q, ⟨m, c⟩, fun i m H w => ?_⟩
  cases m with
  | zero =>
    obtain ⟨G, lo, h, s, rh, rs, r, hd, hlo, hGd, q⟩ := w
    exact q.elim
  | succ m =>
    obtain ⟨G, lo, h, s, rh, rs, hv, hd, hlo, hGd, q⟩ := w
    unfold cpB at q
    split at q
    · exact q.elim
    · rename_i xs hxs
      split at q
      · rename_i hx
        left
        refine ⟨M.stop rh hv hxs (List.getElem?_eq_none_iff.mp hx), ?_⟩
        have := q G H (.ref (G d)) Ext.refl rh (.ref hd)
        rw [hGd] at this
        exact this
      · rename_i x hx
        split at q
        · exact q.elim
        · rename_i s2 hs2
          right
          refine ⟨M.go rh hv hxs (List.getElem?_eq_some_iff.mp hx).1, fun H' => CpW C E (cpB t ft fe pt vs src d m (i + 1)) V0 d D σ H' Q, fun H' z => ⟨m, Nat.lt_succ_self _, z⟩, fun x' H' y => ?_⟩
          obtain ⟨kp, rx⟩ := M.yld rh hv hxs hx y
          have e2 : Ext lo h.length G H h.length G H' := Ext.grow kp rh
          have r2 := rh.grow kp
          refine gOf_use t hs2 rx ((rs.ext e2).wipe vs) fun σ2 rs2 w2 => ⟨?_, G, lo, h, s2, r2, rs2, .nil, ?_⟩
          · rw [w2 vs hvs, wipe_wipe vs vs fun _ h => h]
          · have q := fin.ext e2 q
            have hv2 := M.st e2 hv
            have rs' := rs.ext e2
            cases hf : ft lo s2 h with
            | bad => rw [hf] at q; exact q.elim
            | ex e h3 => rw [hf] at q; exact q.elim
            | ok b h3 =>
              rw [hf] at q
              intro G3 H3 b' e3 rh3 rb
              cases rb
              cases b with
              | false =>
                rw [if_neg Bool.false_ne_true]
                exact ⟨G3, lo, h3, s, rh3, rs'.ext e3, M.st e3 hv2, Nat.lt_of_lt_of_le hd e3.le, hlo, by rw [e3.at_ d hd]; exact hGd, fin.ext e3 q⟩
              | true =>
                rw [if_pos rfl]
                simp only at q
                refine hre _ _ _ ⟨G3, lo, h3, s2, rh3, rs2.ext e3, .nil, ?_⟩
                cases hfe : fe lo s2 h3 with
                | bad => rw [hfe] at q; exact q.elim
                | ex e h4 => rw [hfe] at q; exact q.elim
                | ok y h4 =>
                  rw [hfe] at q
                  intro G4 H4 v4 e4 rh4 rv4
                  simp only at q
                  have e34 := e3.trans e4
                  split at q
                  · rename_i h5 hp5
                    have hGd4 : G4 d = D := by rw [e34.at_ d hd]; exact hGd
                    have hd4 : d < h4.length := Nat.lt_of_lt_of_le hd e34.le
                    rw [← hGd4]
                    refine hpt rh4 hd4 hlo rv4 hp5 fun H5 e5 rh5 => ?_
                    have eA := e34.trans e5
                    rw [hGd4]
                    exact ⟨G4, lo, h5, s, rh5, rs'.ext eA, M.st eA hv2, Nat.lt_of_lt_of_le hd4 e5.le, hlo, hGd4, fin.ext eA q⟩
                  · exact q.elim
/-- the start of a comprehension -/
theorem cp_start {α : Type} {t : Tg} {ft : MF Bool} {fe : MF α} {pt : Nat → Hs → α → Option Hs} {o : AO} {vs : List Nat} {fs : MF Src} {u : HO} (ho : ∀ (G : Loc) (n : Nat) (H : Hp) (a : Addr), H a = some u → RO C G n H o a) {σ : L2.St} {H : Hp} {Q : VK} (c : tE C E (cpF t ft fe pt o vs fs) σ H Q) :
    tI C E fs σ H fun J H1 => ∃ src V0, ItM C J src V0 ∧ ∀ D, H1 D = none → ∃ m d, CpW C E (cpB t ft fe pt vs src d m 0) V0 d D σ (upd H1 D u) Q := by
  obtain ⟨G, lo, h, s, rh, rs, rv, q⟩ := c
  refine ⟨G, lo, h, s, rh, rs, .nil, ?_⟩
  unfold cpF at q
  cases hz : fs lo s h with
  | bad => rw [hz] at q; exact q
  | ex e h1 => rw [hz] at q; exact q
  | ok src h1 =>
    rw [hz] at q
    intro G1 H1 J e1 r1 ⟨V0, hv, M⟩
    refine ⟨src, V0, M, fun D hD => ?_⟩
    dsimp only at q
    split at q
    · exact q.elim
    · rename_i xs hx
      split at q
      · rename_i hlo
        have e2 := Ext.new (lo := lo) r1 hD u
        have rh2 := r1.new hD (u := u) (o := o) (ho _ _ _ _ upd_same)
        have e12 := e1.trans e2
        refine ⟨xs.length + 1, h1.length, G1.at h1.length D, lo, h1 ++ [o], s, rh2, ?_, ?_, ?_, Nat.le_of_ble_eq_true hlo, Loc.at_new, ?_⟩
        · rw [len1]; exact rs.ext e12
        · rw [len1]; exact M.st e2 hv
        · rw [len1]; exact Nat.lt_succ_self _
        · rw [len1]; exact fin.ext e12 q
      · exact q.elim
def ptL (d : Nat) (h : Hs) (y : A) : Option Hs := match h[d]? with
  | some (.lst acc) => if okB acc.length then some (h.set d (.lst (acc ++ [y]))) else none
  | _ => none
theorem je_lcG {elt tg iter : Expr} {ifs : List Expr} {scope : Scope} {own : List (Str × Nat)} {t : Tg} {fe : MF A} {fs : MF Src} {ft : MF Bool} (W : Go X C E k) (hvs : ∀ i ∈ tgs t, i ∈ own.map (·.2)) (hi : PI X tg iter (tI C E fs)) (ok : BlkOk X.N X.env.scope scope own)
    (hg : ∀ (s : Shared) (H : Hp) (D : Addr) (cl : List (Str × Addr)) (fp : List Addr), PG (X.blk s H scope (compEnvC scope cl D X.env) fp) tg (gOf X.K t)) (ht : ∀ (s : Shared) (H : Hp) (D : Addr) (cl : List (Str × Addr)) (fp : List Addr), PTs (X.blk s H scope (compEnvC scope cl D X.env) fp) ifs (tT C EF ft))
    (he : ∀ (s : Shared) (H : Hp) (D : Addr) (cl : List (Str × Addr)) (fp : List Addr), PE (X.blk s H scope (compEnvC scope cl D X.env) fp) elt (tE C EF fe)) (hs : ∀ x, foldedSetIterable iter X.env x = pure x := by intro _; rfl) :
    PE X (.ListComp elt [⟨tg, iter, ifs, 0⟩] scope pos) (tE C E (cpF t ft fe ptL (.lst []) (own.map (·.2)) fs)) :=
  imp (pe_lc W.calm W.nd hi ok hg ht he hs) fun σ H Q c => by
    rw [W.K]
    refine Cont.mono (cp_start (u := .lst []) (fun G n H a e => .lst e .nil) c) fun J H1 ⟨src, V0, M, c1⟩ D hD => ?_
    obtain ⟨m, d, c2⟩ := c1 D hD
    refine cp_use (rel := relV C) (Pt := fun D w H Z => ∃ acc, H D = some (.lst acc) ∧ acc.length < sizeLine ∧ Z (upd H D (.lst (acc ++ [w])))) hvs M (fun _ _ _ c => c) (fun {G lo d h h' H y w Z} rh hd hlo rw' e z => ?_) c2
    unfold ptL at e
    split at e
    · rename_i acc hacc
      split at e
      · rename_i hz
        cases e
        obtain ⟨zs, hzs, rzs⟩ := rh.lst hacc
        have e5 := Ext.put (lo := lo) (u' := .lst (zs ++ [w])) rh hlo hd hzs free_lst
        refine ⟨zs, hzs, by rw [← rzs.length]; exact okB_lt hz, z _ (by rw [List.length_set]; exact e5) (rh.put hd hzs free_lst (.lst upd_same (RVs.append (rzs.ext e5) (.cons (RV.ext e5 rw') .nil))))⟩
      · cases e
    · cases e
end

/-! ### sources -/
section
variable {X : Cx} {C : Kn} {E : XK} {k : Nat} {p pos : Pos}
def seqI (f : MF A) : MF Src := f.bind fun x => fun _ _ h => match h.seq x with
  | some _ => .ok (fun h => h.seq x) h
  | none => .bad
theorem itm_list {x : A} {a : Addr} (nt : isTup x = false) : ItM C (Itl C.K a) (fun h => h.seq x) (fun G n H => RV C G n H x (.ref a)) where
  st e r := r.ext e
  go rh r e hi := by
    obtain ⟨a', ys, e', q, b⟩ := seq_list rh r e nt
    cases e'
    exact ⟨ys, _, q, List.getElem?_eq_getElem (by rw [← b.length]; exact hi)⟩
  stop rh r e hi := by
    obtain ⟨a', ys, e', q, b⟩ := seq_list rh r e nt
    cases e'
    exact ⟨ys, q, by rw [← b.length]; exact hi⟩
  yld rh r e hx y := by
    obtain ⟨a', ys, e', q, b⟩ := seq_list rh r e nt
    cases e'
    obtain ⟨rfl, y⟩ := y
    obtain ⟨u, hu, ru⟩ := rvs_at b hx
    rw [y ys q] at hu
    cases hu
    exact ⟨fun _ _ h => h, ru⟩
theorem itm_tup {x : A} {a : Addr} (nt : isTup x = true) : ItM C (Itt C.K a) (fun h => h.seq x) (fun G n H => RV C G n H x (.ref a)) where
  st e r := r.ext e
  go rh r e hi := by
    obtain ⟨a', ys, e', q, b⟩ := seq_tup r e nt
    cases e'
    exact ⟨ys, _, q, List.getElem?_eq_getElem (by rw [← b.length]; exact hi)⟩
  stop rh r e hi := by
    obtain ⟨a', ys, e', q, b⟩ := seq_tup r e nt
    cases e'
    exact ⟨ys, q, by rw [← b.length]; exact hi⟩
  yld rh r e hx y := by
    obtain ⟨a', ys, e', q, b⟩ := seq_tup r e nt
    cases e'
    obtain ⟨rfl, y⟩ := y
    obtain ⟨u, hu, ru⟩ := rvs_at b hx
    rw [y ys q] at hu
    cases hu
    exact ⟨fun _ _ h => h, ru⟩
theorem ji_seq {tg iter : Expr} {f : MF A} (W : Go X C E k) (h : PE X iter (tE C E f)) : PI X tg iter (tI C E (seqI f)) := impI2 (pi_list h) (pi_tup h) fun σ H R c => by
  rw [W.K]
  obtain ⟨G, lo, h, s, rh, rs, rv, q⟩ := c
  unfold seqI MF.bind at q
  cases hz : f lo s h with
  | bad => rw [hz] at q; exact q.elim
  | ex e h1 => rw [hz] at q; exact .inl ⟨G, lo, h, s, rh, rs, .nil, by rw [hz]; exact q⟩
  | ok x h1 =>
    rw [hz] at q
    simp only [MA.R.bind] at q
    cases hs : h1.seq x with
    | none => rw [hs] at q; exact q.elim
    | some xs =>
      rw [hs] at q
      cases ht : isTup x with
      | false =>
        refine .inl ⟨G, lo, h, s, rh, rs, .nil, ?_⟩
        rw [hz]
        intro G1 H1 v e1 r1 rx
        obtain ⟨a, ys, rfl, hq, b⟩ := seq_list r1 rx hs ht
        exact ⟨a, rfl, ⟨ys, hq⟩, q G1 H1 _ e1 r1 ⟨_, rx, itm_list ht⟩⟩
      | true =>
        refine .inr ⟨G, lo, h, s, rh, rs, .nil, ?_⟩
        rw [hz]
        intro G1 H1 v e1 r1 rx
        obtain ⟨a, ys, rfl, hq, b⟩ := seq_tup rx hs ht
        exact ⟨a, rfl, ⟨ys, hq⟩, q G1 H1 _ e1 r1 ⟨_, rx, itm_tup ht⟩⟩
theorem itm_range {a : Int} {m : Nat} : ItM C (Itr a m) (fun _ => some (rangeA a m)) (fun _ _ _ => True) where
  st _ _ := trivial
  go _ _ e hi := by
    cases e
    unfold rangeA at hi
    rw [List.length_map, List.length_range] at hi
    exact hi
  stop _ _ e hi := by
    cases e
    unfold rangeA at hi
    rw [List.length_map, List.length_range] at hi
    exact hi
  yld := fun {G h H H' xs i x v} _ _ e hx y => by
    cases e
    obtain ⟨rfl, rfl⟩ := y
    unfold rangeA at hx
    rw [List.getElem?_map] at hx
    refine ⟨fun _ _ h => h, ?_⟩
    cases hr : (List.range m)[i]? with
    | none => rw [hr] at hx; cases hx
    | some j =>
      rw [hr] at hx
      cases hx
      have := (List.getElem?_eq_some_iff.mp hr)
      obtain ⟨hlt, e⟩ := this
      rw [List.getElem_range] at e
      subst e
      exact .int _
def rangeI (rg : List A → Option (Int × Nat)) (ga : MF (List A)) : MF Src := MF.bind ga fun zs => fun _ _ h => match rg zs with
  | some (a, m) => .ok (fun _ => some (rangeA a m)) h
  | none => .bad
theorem rangeI_use {rg : List A → Option (Int × Nat)} {ga : MF (List A)} {σ : L2.St} {H : Hp} {R : It → Hp → Prop} (c : tI C E (rangeI rg ga) σ H R) : tA C E ga σ H fun ws H1 => ∃ ys a m, (∃ G n, RVs C G n H1 ys ws) ∧ rg ys = some (a, m) ∧ R (Itr a m) H1 := by
  refine Cont.mono (Cont.bindA c) fun ws H1 ⟨ys, c1⟩ => ?_
  obtain ⟨G, lo, h, s, rh, rs, rv, q⟩ := c1
  rw [List.append_nil, List.append_nil] at rv
  dsimp only at q
  split at q
  · rename_i a m he
    exact ⟨ys, a, m, ⟨G, _, rv⟩, he, q G H1 _ Ext.refl rh ⟨_, trivial, itm_range⟩⟩
  · exact q.elim
theorem ji_range1 {tg a : Expr} {ga : MF (List A)} (hg0 : Gl X "range") (hm : X.mg "range" = none) (ha : PA X [a] (tA C E ga)) (hs1 : starEach [a] X.env = [(false, eval a X.env)] := by rfl) : PI X tg (.Call (.Name "range" p) [a] [] pos) (tI C E (rangeI rg1 ga)) :=
  impI (pi_range1 hg0 hm ha hs1) fun σ H R c => Cont.mono (rangeI_use c) fun ws H1 ⟨ys, a, m, ⟨G, n, r⟩, e, z⟩ => by
    obtain ⟨j, e1, h1, h2, e2, e3⟩ := rg1_some e r
    subst e2 e3
    exact ⟨j, e1, h1, h2, z⟩
theorem ji_range2 {tg a b : Expr} {ga : MF (List A)} (hg0 : Gl X "range") (hm : X.mg "range" = none) (ha : PA X [a, b] (tA C E ga)) (hs1 : starEach [a, b] X.env = [(false, eval a X.env), (false, eval b X.env)] := by rfl) (hs2 : starEach [b] X.env = [(false, eval b X.env)] := by rfl) :
    PI X tg (.Call (.Name "range" p) [a, b] [] pos) (tI C E (rangeI rg2 ga)) :=
  impI (pi_range2 hg0 hm ha hs1 hs2) fun σ H R c => Cont.mono (rangeI_use c) fun ws H1 ⟨ys, a, m, ⟨G, n, r⟩, e, z⟩ => by
    obtain ⟨i, j, e1, h1, e2, e3⟩ := rg2_some e r
    subst e2 e3
    exact ⟨a, j, e1, h1, z⟩
end
end MA

set_option linter.all false
set_option maxRecDepth 100000
namespace PySem
open Sem (wp)
open AutoSeq1 (wpAny_loadPart')
set_option maxHeartbeats 1000000 in
theorem mets_enum_begins {v : Value} {o : Obj} {Hb : Heap → Prop} (B : Begins v o Hb) :
    Meets (Builtin.«enumerate.__new__» ⟨[.type "enumerate", v], []⟩) (fun _ R s => Hb s.heap ∧
      R (.ok (.ret (.ref (s.heap.push o).objs.size))) { s with heap := (s.heap.push o).push { cls := .type "enumerate", data := .fields #[.none, .bool false, .ref s.heap.objs.size, rawInt 0, .none, .none] } }) :=
  .of_wp fun prog w A R s hh => by
    obtain ⟨hp, g, d, tk, os⟩ := s
    obtain ⟨hb, hr⟩ := hh
    have subE := sub_enumerate
    have begin : ∀ {A' : Around} {E : Value → Shared → Prop} {Q : Value → Shared → Prop}, Q (.ref hp.objs.size) ⟨hp.push o, g, d, tk, os⟩ → wpAny (model prog w) A' (pyIter v) Q E ⟨hp, g, d, tk, os⟩ := fun q => B.iter prog w _ _ ⟨hp, g, d, tk, os⟩ _ hb q
    wp_walk using begin
    refine wpAny_stack_any fun st => wpAny_pure ?_
    split
    · rename_i c _ _ _ _ _
      cases (c == Value.type "enumerate") <;> (wp_walk using begin; exact ⟨_, rfl, hr⟩)
    · wp_walk using begin
      exact ⟨_, rfl, hr⟩
section
variable {prog : Program} {w : World} {A : Around} {E : Value → Shared → Prop} {s : Shared}
theorem enum_of_begins {v : Value} {o : Obj} {Hb : Heap → Prop} {Q : Value → Shared → Prop} (B : Begins v o Hb) (hb : Hb s.heap)
    (k : ∀ h', IsEnum h' (s.heap.objs.size + 1) s.heap.objs.size 0 .none → h'.get? s.heap.objs.size = some o → h'.objs.size = s.heap.objs.size + 2 → (∀ b o, s.heap.get? b = some o → h'.get? b = some o) → Q (.ref (s.heap.objs.size + 1)) { s with heap := h' }) :
    wpAny (model prog w) A (call (.type "enumerate") [v]) Q E s := by
  refine callType_new F.called_enumerate (by decide) (F.typeCall_enumerate_1 _) (F.newCall_enumerate_1 _) (fun obj => F.args_object_init_2 obj _) F.entry_enumerate_new (mets_enum_begins B) ⟨hb, ?_⟩
  have sz : (s.heap.push o).objs.size = s.heap.objs.size + 1 := Heap.size_push ..
  show _ ∧ _
  rw [sz]
  have en : IsEnum ((s.heap.push o).push { cls := .type "enumerate", data := .fields #[.none, .bool false, .ref s.heap.objs.size, rawInt 0, .none, .none] }) (s.heap.objs.size + 1) s.heap.objs.size 0 .none := by
    have z := Heap.get?_push_size (s.heap.push o) (o := { cls := .type "enumerate", data := .fields #[.none, .bool false, .ref s.heap.objs.size, rawInt 0, .none, .none] }) rfl
    rw [sz] at z
    exact z
  exact ⟨⟨_, en, rfl⟩, k _ en (Heap.get?_push_of_some _ (Heap.get?_push_size _ B.free)) (by rw [Heap.size_push, sz]) fun b o' x => Heap.get?_push_of_some _ (Heap.get?_push_of_some _ x)⟩
end
end PySem
namespace MA
open PySem L2 SlX LamX
open PySem.Spec PyProof.Rows

/-! ### enumerate over a tuple -/
def IteT (K : PySem.W.Frag) (a : Addr) : It :=
  ⟨fun i H => ∃ (xs : List V) (x : V), SqT K H a xs ∧ xs[i]? = some x, fun i H v H' => ∃ T x, v = .ref T ∧ H T = none ∧ H' = upd H T (.tup [.int (i : Nat), x]) ∧ ∀ xs, SqT K H a xs → xs[i]? = some x, fun i H => ∃ xs : List V, SqT K H a xs ∧ xs.length ≤ i⟩
theorem turn_enumT {P : Program} {w : World} {K : PySem.W.Frag} {elts : List Expr} {kk : Nat} {tpos : Pos} (a e it : Addr) :
    Turn P w K (.Tuple elts kk tpos) (IteT K a) [e, it] e (fun i h => (∃ old, IsEnum h e it ((i : Nat) : Int) old) ∧ h.IsTupleIter it a i ∧ e ≠ it) where
  mem := by simp
  obj := fun i h stt b hb => by
    obtain ⟨⟨old, he⟩, ⟨o, ho, hc, hd⟩, _⟩ := stt
    have eb : b = e ∨ b = it := by simpa using hb
    rcases eb with rfl | rfl
    · exact ⟨_, he, fun v q => nomatch q⟩
    · exact ⟨o, ho, fun v q => by rw [hd] at q; cases q⟩
  keep := fun i h h' stt k => let ⟨⟨old, he⟩, hi, hne⟩ := stt; ⟨⟨old, k e (by simp) _ he⟩, hi.at fun o q => k it (by simp) o q, hne⟩
  item := by
    intro X hP hw hK hc i pins s σ H E I hf stt hg
    subst hP hw hK
    obtain ⟨⟨old, he⟩, hit, hne⟩ := stt
    obtain ⟨xs, x, hq, hx⟩ := hg
    obtain ⟨its, rv, p, hz⟩ := I.tuple hq
    obtain ⟨u, hu, ru⟩ := rv.get hx
    have le : e < s.heap.objs.size := Heap.lt_size he
    have li : it < s.heap.objs.size := by obtain ⟨_, q, _⟩ := hit; exact Heap.lt_size q
    have hta : a ≠ e := fun z => by
      obtain ⟨o, ho, hcl, _⟩ := p
      have he' : s.heap.get? e = some _ := he
      rw [z, he'] at ho
      cases ho
      injection hcl with q
      exact absurd q (by decide)
    have hti : a ≠ it := fun z => by
      obtain ⟨o, ho, hcl, _⟩ := p
      obtain ⟨o2, ho2, hc2, _⟩ := hit
      rw [z, ho2] at ho
      cases ho
      rw [hc2] at hcl
      injection hcl with q
      exact absurd q (by decide)
    have hlt : i < its.toArray.size := by
      rw [List.size_toArray]
      exact (List.getElem?_eq_some_iff.mp hu).1
    refine wpAny_pyNext_enum_itemD (Draws.tuple (A := X.A.in1) (I.ok.hd hc) it a hti its.toArray) he ⟨hit, (show s.heap.IsTuple a its.toArray from p)⟩ hlt hne (by simp [hne, Ne.symm hta]) fun y h' tk hy ho st2 hT hsz hk => ?_
    have ey : y = u := by
      have hu' : its.toArray[i]? = some u := by simpa using hu
      have hy' : its.toArray[i]? = some y := hy
      rw [hu'] at hy'
      exact (Option.some.inj hy').symm
    subst ey
    refine ⟨_, rfl, wpAny_letOwnedTupleGo_enum (s := { s with heap := h', toks := tk + 1 }) ho fun h2 he2 sb => ?_⟩
    have hT2 : h2.get? s.heap.objs.size = some { cls := .type "tuple", data := .seq #[.int i tk, y] } := (sb.2 _ (Nat.ne_of_gt le)).trans hT
    have new : ObjOk X.prog X.w (upd H s.heap.objs.size (.tup [.int (i : Nat), x])) h2 s.heap.objs.size (.tup [.int (i : Nat), x]) :=
      ⟨by show 2 ≤ sizeLine; decide, [.int i tk, y], .cons ⟨_, rfl⟩ (.cons ru .nil), ⟨_, hT2, rfl, _, rfl⟩⟩
    have I1 : L2.Inv X pins σ (upd H s.heap.objs.size (.tup [.int (i : Nat), x])) { s with heap := h2, toks := tk + 1 } :=
      I.turnedNew (ch := [e, it]) (fun b ob hb q => (sb.2 b (fun z => hb (by simp [z]))).trans (hk b ob (fun z => hb (by simp [z])) (fun z => hb (by simp [z])) q)) hf (Nat.le_refl _) new
    refine ⟨.ref s.heap.objs.size, _, I1, rfl, ⟨_, x, rfl, I.hok.fresh (Nat.le_refl _), rfl, fun ys hy => by rw [I.tuple_inj hy hq]; exact hx⟩, ⟨⟨y, ?_⟩, st2.1.at fun o q => (sb.2 it (Ne.symm hne)).trans q, hne⟩, fun b hb => ?_⟩
    · have e1 : ((i + 1 : Nat) : Int) = (i : Int) + 1 := by omega
      rw [e1]
      exact he2
    · have hb' : b < s.heap.objs.size := by
        have eb : b = e ∨ b = it := by simpa using hb
        rcases eb with z | z
        · rw [z]; exact le
        · rw [z]; exact li
      rw [upd_ne (Nat.ne_of_lt hb')]
      exact (hf b hb).1
  done := by
    intro X hP hw hK hc i pins s σ H E I hf stt hg
    subst hP hw hK
    obtain ⟨⟨old, he⟩, hit, hne⟩ := stt
    obtain ⟨xs, hq, hx⟩ := hg
    obtain ⟨its, rv, p, hz⟩ := I.tuple hq
    obtain ⟨f0, f1, f2, f3, f4, f5⟩ := hf it (by simp)
    have hti : a ≠ it := fun z => by
      obtain ⟨o, ho, hcl, _⟩ := p
      obtain ⟨o2, ho2, hc2, _⟩ := hit
      rw [z, ho2] at ho
      cases ho
      rw [hc2] at hcl
      injection hcl with q
      exact absurd q (by decide)
    have hl := rv.length
    have over : its.toArray[i]? = none := Array.getElem?_eq_none (by rw [List.size_toArray]; omega)
    have D : Draws X.prog X.w X.A.in1 it [it, a] i (fun _ _ => False) (fun j h => j = i ∧ h.IsTupleIter it a i ∧ h.IsTuple a its.toArray) := {
      live := fun _ _ st => let ⟨o, ho, _⟩ := st.2.1; ⟨o, ho⟩
      frame := fun _ _ _ st hk => ⟨st.1, st.2.1.at fun o e => hk it (by simp) o e, st.2.2.at fun o e => hk a (by simp) o e⟩
      item := fun j s Q E hj st _ => absurd st.1 (Nat.ne_of_lt hj)
      done := fun s Q E st hE => wpAny_nextOf_tuple_end (I.ok.hd hc) st.2.1 st.2.2 over hE }
    exact wpAny_pyNext_enum_endD D he ⟨rfl, hit, (show s.heap.IsTuple a its.toArray from p)⟩ fun h' eb => ⟨rfl, I.turned (t' := s.toks) (fun b o hb q => eb b o hb q) f0 f1 f3 f4 f5⟩
  self := fun A i s Q E stt h => let ⟨⟨_, he⟩, _⟩ := stt; wpAny_pyIter_enum he h
theorem begins_tup (a : Addr) (items : Array Value) : Begins (.ref a) { cls := .type "tuple_iterator", data := .fields #[.ref a, .int 0 0] } fun h => h.IsTuple a items where
  iter := fun prog w A E s Q hl h => wpAny_pyIter_tuple hl h
  keeps := fun h h' x hk => x.at fun o e => hk a o e
  free := rfl
def iEnumT (K : PySem.W.Frag) (ta : TA) : TI := fun σ H R => ta σ H fun vs H1 => ∃ a xs, vs = [.ref a] ∧ SqT K H1 a xs ∧ R (IteT K a) H1
theorem pi_enumT {X : Cx} {e : Expr} {ta : TA} {p pos tpos : Pos} {elts : List Expr} {kk : Nat} (hg : Gl X "enumerate") (hm : X.mg "enumerate" = none) (ha : PA X [e] ta) (hs : starEach [e] X.env = [(false, eval e X.env)] := by rfl) :
    PI X (.Tuple elts kk tpos) (.Call (.Name "enumerate" p) [e] [] pos) (iEnumT X.K ta) := by
  refine ⟨fun pins s σ H R I h => ?_⟩
  refine Call_ (ld_blt I hg hm boot_enumerate (PyProof.Rows.callWith_type1 (thn (ha.run pos pins s σ H _ I h) fun us s1 ⟨vs, H1, I1, r1, a, xs, ev, hq, q⟩ => ?_) hs rfl))
  subst ev
  cases r1 with
  | cons r rr =>
    cases rr
    cases r
    obtain ⟨its, rv, pt, hz⟩ := I1.tuple hq
    refine enum_of_begins (begins_tup a its.toArray) (show s1.heap.IsTuple a its.toArray from pt) fun h' he hit sz kp => wpAny_pyIter_enum he ?_
    have I2 : L2.Inv X pins σ H1 { s1 with heap := h' } := I1.kept (t' := s1.toks) kp
    refine ⟨s1.heap.objs.size + 1, [s1.heap.objs.size + 1, s1.heap.objs.size], _, _, H1, rfl, I2, turn_enumT a (s1.heap.objs.size + 1) s1.heap.objs.size, ⟨⟨.none, he⟩, ⟨_, hit, rfl, rfl⟩, Nat.succ_ne_self _⟩, fun b hb => ?_, q⟩
    have le : s1.heap.objs.size ≤ b := by
      have e' : b = s1.heap.objs.size + 1 ∨ b = s1.heap.objs.size := by simpa using hb
      rcases e' with z | z
      · rw [z]; exact Nat.le_add_right _ _
      · rw [z]; exact Nat.le_refl _
    exact I1.fpOk le (I1.hok.fresh le)

/-- the items of enumerate -/
def enumA (n : Nat) : List A → List A
  | [] => []
  | x :: xs => .tup [.int (n : Int), x] :: enumA (n + 1) xs
theorem enumA_len : ∀ (n : Nat) (xs : List A), (enumA n xs).length = xs.length
  | _, [] => rfl
  | n, x :: xs => by
    unfold enumA
    rw [List.length_cons, List.length_cons, enumA_len (n + 1) xs]
theorem enumA_get : ∀ (n : Nat) (xs : List A) (i : Nat) (y : A), (enumA n xs)[i]? = some y → ∃ x, xs[i]? = some x ∧ y = .tup [.int ((n + i : Nat) : Int), x]
  | _, [], i, y, h => by unfold enumA at h; simp at h
  | n, x :: xs, 0, y, h => by
    unfold enumA at h
    cases h
    exact ⟨x, rfl, rfl⟩
  | n, x :: xs, i + 1, y, h => by
    unfold enumA at h
    obtain ⟨z, h1, h2⟩ := enumA_get (n + 1) xs i y (by simpa using h)
    exact ⟨z, by simpa using h1, by rw [h2, Nat.add_right_comm n 1 i, Nat.add_assoc n i 1]⟩
section
variable {X : Cx} {C : Kn} {E : XK} {k : Nat} {p pos tpos : Pos}
def enumI (f : MF A) : MF Src := f.bind fun x => fun _ _ h => match h.seq x with
  | some _ => .ok (fun h => match h.seq x with
    | some xs => some (enumA 0 xs)
    | none => none) h
  | none => .bad
theorem enum_src {x : A} {h : Hs} {zs : List A} (e : (match h.seq x with | some xs => some (enumA 0 xs) | none => none) = some zs) : ∃ xs, h.seq x = some xs ∧ zs = enumA 0 xs := by
  split at e
  · rename_i xs hx
    cases e
    exact ⟨xs, hx, rfl⟩
  · cases e
theorem rv_pair {G : Loc} {n : Nat} {H : Hp} {T : Addr} {x : A} {v : V} {i : Nat} (hT : H T = none) (r : RV C G n H x v) (e : ∀ lo, Ext lo n G H n G (upd H T (.tup [.int (i : Nat), v]))) : RV C G n (upd H T (.tup [.int (i : Nat), v])) (.tup [.int ((0 + i : Nat) : Int), x]) (.ref T) :=
  .tup upd_same (.cons (by rw [Nat.zero_add]; exact .int _) (.cons (r.ext (e 0)) .nil))
theorem itm_enumL {x : A} {a : Addr} (nt : isTup x = false) : ItM C (Ite C.K a) (fun h => match h.seq x with | some xs => some (enumA 0 xs) | none => none) (fun G n H => RV C G n H x (.ref a)) where
  st e r := r.ext e
  go rh r e hi := by
    obtain ⟨xs, e0, rfl⟩ := enum_src e
    rw [enumA_len] at hi
    obtain ⟨a', ys, e', q, b⟩ := seq_list rh r e0 nt
    cases e'
    exact ⟨ys, _, q, List.getElem?_eq_getElem (by rw [← b.length]; exact hi)⟩
  stop rh r e hi := by
    obtain ⟨xs, e0, rfl⟩ := enum_src e
    rw [enumA_len] at hi
    obtain ⟨a', ys, e', q, b⟩ := seq_list rh r e0 nt
    cases e'
    exact ⟨ys, q, by rw [← b.length]; exact hi⟩
  yld rh r e hx y := by
    obtain ⟨xs, e0, rfl⟩ := enum_src e
    obtain ⟨z, hz, rfl⟩ := enumA_get 0 xs _ _ hx
    obtain ⟨a', ys, e', q, b⟩ := seq_list rh r e0 nt
    cases e'
    obtain ⟨T, w, rfl, hT, rfl, hy⟩ := y
    obtain ⟨u, hu, ru⟩ := rvs_at b hz
    rw [hy ys q] at hu
    cases hu
    exact ⟨keeps_new hT, rv_pair hT ru fun lo => Ext.grow (keeps_new hT) rh⟩
theorem itm_enumT {x : A} {a : Addr} (nt : isTup x = true) : ItM C (IteT C.K a) (fun h => match h.seq x with | some xs => some (enumA 0 xs) | none => none) (fun G n H => RV C G n H x (.ref a)) where
  st e r := r.ext e
  go rh r e hi := by
    obtain ⟨xs, e0, rfl⟩ := enum_src e
    rw [enumA_len] at hi
    obtain ⟨a', ys, e', q, b⟩ := seq_tup r e0 nt
    cases e'
    exact ⟨ys, _, q, List.getElem?_eq_getElem (by rw [← b.length]; exact hi)⟩
  stop rh r e hi := by
    obtain ⟨xs, e0, rfl⟩ := enum_src e
    rw [enumA_len] at hi
    obtain ⟨a', ys, e', q, b⟩ := seq_tup r e0 nt
    cases e'
    exact ⟨ys, q, by rw [← b.length]; exact hi⟩
  yld rh r e hx y := by
    obtain ⟨xs, e0, rfl⟩ := enum_src e
    obtain ⟨z, hz, rfl⟩ := enumA_get 0 xs _ _ hx
    obtain ⟨a', ys, e', q, b⟩ := seq_tup r e0 nt
    cases e'
    obtain ⟨T, w, rfl, hT, rfl, hy⟩ := y
    obtain ⟨u, hu, ru⟩ := rvs_at b hz
    rw [hy ys q] at hu
    cases hu
    exact ⟨keeps_new hT, rv_pair hT ru fun lo => Ext.grow (keeps_new hT) rh⟩
theorem ji_enum {e : Expr} {elts : List Expr} {kk : Nat} {f : MF A} (W : Go X C E k) (hg : Gl X "enumerate") (hm : X.mg "enumerate" = none) (h : PE X e (tE C E f)) (hs : starEach [e] X.env = [(false, eval e X.env)] := by rfl) :
    PI X (.Tuple elts kk tpos) (.Call (.Name "enumerate" p) [e] [] pos) (tI C E (enumI f)) := impI2 (pi_enum hg hm (pa_cons h pa_nil hs) hs) (pi_enumT hg hm (pa_cons h pa_nil hs) hs) fun σ H R c => by
  rw [W.K]
  obtain ⟨G, lo, h, s, rh, rs, rv, q⟩ := c
  unfold enumI MF.bind at q
  cases hz : f lo s h with
  | bad => rw [hz] at q; exact q.elim
  | ex e h1 => rw [hz] at q; exact .inl ⟨G, lo, h, s, rh, rs, .nil, by rw [hz]; exact q⟩
  | ok x h1 =>
    rw [hz] at q
    simp only [MA.R.bind] at q
    cases hs : h1.seq x with
    | none => rw [hs] at q; exact q.elim
    | some xs =>
      rw [hs] at q
      cases ht : isTup x with
      | false =>
        refine .inl ⟨G, lo, h, s, rh, rs, .nil, ?_⟩
        rw [hz]
        intro G1 H1 v e1 r1 rx
        obtain ⟨a, ys, rfl, hq, b⟩ := seq_list r1 rx hs ht
        exact ⟨a, ys, rfl, hq, q G1 H1 _ e1 r1 ⟨_, rx, itm_enumL ht⟩⟩
      | true =>
        refine .inr ⟨G, lo, h, s, rh, rs, .nil, ?_⟩
        rw [hz]
        intro G1 H1 v e1 r1 rx
        obtain ⟨a, ys, rfl, hq, b⟩ := seq_tup rx hs ht
        exact ⟨a, ys, rfl, hq, q G1 H1 _ e1 r1 ⟨_, rx, itm_enumT ht⟩⟩
end
end MA

set_option linter.all false
set_option maxRecDepth 100000
namespace MA
open PySem L2 SlX LamX
open PySem.Spec PyProof.Rows

/-! ### dicts made by comprehensions, keys of any kind -/
/-- d[y] = v by a comprehension: the dict at D behind it -/
def PutD (D : Addr) (y v : V) (H : Hp) (Z : Hp → Prop) : Prop :=
  (∃ kvs k, y = kV k ∧ H D = some (.dK kvs) ∧ kvs.length < sizeLine ∧ Z (upd H D (.dK (putK kvs k v)))) ∨
  (∃ k b, y = .ref b ∧ H D = some (.dK []) ∧ H b = some (.tup (k.map kV)) ∧ Z (upd H D (.dT [(k, v)]))) ∨
  ∃ kvs k b, y = .ref b ∧ H D = some (.dT kvs) ∧ H b = some (.tup (k.map kV)) ∧ kvs.length < sizeLine ∧ Z (upd H D (.dT (putK kvs k v)))
section
variable {X : Cx} {pins : List (Addr × Obj)} {σ : L2.St} {H : Hp} {s : Shared} {E : Value → Shared → Prop} {D : Addr}
theorem putD_ok {y v : V} {u r : Value} {Z : Hp → Prop} {Q : Unit → Shared → Prop} (hu : X.A.units < cLine) (I : L2.Inv X pins σ H s) (p : PutD D y v H Z) (ry : L2.RelV y u) (rv : L2.RelV v r) (h : ∀ H' s', L2.Inv X pins σ H' s' → Z H' → Q () s') :
    wpAny (model X.prog X.w) X.A (dictSet D u r) Q E s := by
  rcases p with ⟨kvs, k, rfl, hD, hz, z⟩ | ⟨k, b, rfl, hD, hb, z⟩ | ⟨kvs, k, b, rfl, hD, hb, hz, z⟩
  · exact d_dictSet I hD hz ry rv fun s' I' => h _ s' I' z
  · cases ry
    obtain ⟨lo, dd⟩ := dk0_T I.hok hD
    refine wpAny_dictSet_heap (hsz := Nat.zero_le _) hu (key_of I.hok hb) dd fun h' dd' hs => ?_
    have hx : ∃ q, h'.get? D = some q := let ⟨q, _, _, hq, _⟩ := dd'; ⟨q, hq⟩
    exact h _ _ (d_write I (by rw [hD]; exact True.intro) hs hx (dt_one lo hb hD (fun z => nomatch z) rv dd')) z
  · cases ry
    obtain ⟨zz, hd, xs, rel, dd⟩ := dt_of I.hok hD
    have hsz : xs.length ≤ sizeLine := by rw [← Paired.length rel]; exact zz
    have hl : (putK kvs k v).length ≤ sizeLine := by have := length_putK kvs k v; omega
    refine wpAny_dictSet_heap (hsz := hsz) hu (key_of I.hok hb) dd fun h' dd' hs => ?_
    obtain ⟨q, es, ep, hq, a2, a3, a4, _, a5⟩ := dd'
    refine h _ _ (d_write (ob := .dT (putK kvs k v)) I (by rw [hD]; exact True.intro) hs ⟨q, hq⟩ ⟨hl, hd, _, (rel.put k hb rv).keeps fun c ys ec => ?_, q, es, ep, hq, a2, a3, a4, a5⟩) z
    rw [upd_ne (ne_of ec hD (fun z => nomatch z))]
    exact ec
end
section
variable {X : Cx}
def tDcG (wi : TI) (g : TG) (tt : TT) (tk tv : TE) (vs : List Nat) : TE := fun τ H Q => wi τ H fun J H1 => ∀ D, H1 D = none → ∃ W : Nat → Nat → Hp → Prop, (∃ m, W 0 m (upd H1 D (.dK []))) ∧ ∀ i m H, W i m H →
  (J.stop i H ∧ Q (.ref D) H) ∨ (J.go i H ∧ ∃ Nx : Hp → Prop, (∀ H', Nx H' → ∃ m', m' < m ∧ W (i + 1) m' H') ∧ ∀ x H', J.yld i H x H' → g x (wipe τ vs) H' fun τ2 H2 => wipe τ2 vs = wipe τ vs ∧ tt τ2 H2 fun b H3 =>
    if b = true then tk τ2 H3 fun y H4 => tv τ2 H4 fun z H5 => PutD D y z H5 Nx else Nx H3)
theorem pe_dcG {kx vx tg iter : Expr} {ifs : List Expr} {scope : Scope} {own : List (Str × Nat)} {pos : Pos} {wi : TI} {g : TG} {tt : TT} {tk tv : TE} (hu : X.A.units < cLine) (calm : X.calm = true) (nd : X.N.Nodup) (pi : PI X tg iter wi) (blk : BlkOk X.N X.env.scope scope own)
    (hg : ∀ (s : Shared) (H : Hp) (C : Addr) (cl : List (Str × Addr)) (fp : List Addr), PG (X.blk s H scope (compEnvC scope cl C X.env) fp) tg g) (ht : ∀ (s : Shared) (H : Hp) (C : Addr) (cl : List (Str × Addr)) (fp : List Addr), PTs (X.blk s H scope (compEnvC scope cl C X.env) fp) ifs tt)
    (hk : ∀ (s : Shared) (H : Hp) (C : Addr) (cl : List (Str × Addr)) (fp : List Addr), PE (X.blk s H scope (compEnvC scope cl C X.env) fp) kx tk)
    (hv : ∀ (s : Shared) (H : Hp) (C : Addr) (cl : List (Str × Addr)) (fp : List Addr), PE (X.blk s H scope (compEnvC scope cl C X.env) fp) vx tv) (hs : ∀ x, foldedSetIterable iter X.env x = pure x := by intro _; rfl) :
    PE X (.DictComp kx vx [⟨tg, iter, ifs, 0⟩] scope pos) (tDcG wi g tt tk tv (own.map (·.2))) := by
  refine ⟨fun pins s τ H Q I0 w0 => ?_⟩
  rw [arm_eval_DictComp]
  have bound : ∀ y ∈ scope.names, y.2 = .free → ∃ c, X.env.cells.lookup y.1 = some c := fun y hy e => (blk.free y hy e).elim (fun k => I0.ok.has _ (.inl k)) fun k => I0.ok.has _ (.inr k)
  refine wpAny_comprehension_free rfl hs (closure_ok bound) blk.kind (fun y hy e => by rw [blk.uniq y hy, e]) (thn (pi.run pins s τ H _ I0 w0) fun xv s1 hx => thn hx fun itv s2 got => ?_)
  obtain ⟨it, fp, tn, J, H2, e, I2, T, t2, fp2, w2⟩ := got
  subst e
  refine wpAny_newObj_type (newEnv_comp ?_)
  generalize hD : s2.heap.objs.size = D
  have freeD : H2 D = none := I2.hok.fresh (Nat.le_of_eq hD)
  obtain ⟨W, ⟨m0, first⟩, turn⟩ := w2 D freeD
  generalize e3 : ({ s2 with heap := s2.heap.push { cls := .type "dict", data := .dict #[] } } : Shared) = s3
  have hp3 : s3.heap = s2.heap.push { cls := .type "dict", data := .dict #[] } := by rw [← e3]
  have I3 : L2.Inv X pins τ (upd H2 D (.dK [])) s3 := by
    rw [← e3]
    refine I2.laid (t' := s2.toks) (fun b o e => Heap.get?_push_of_some _ e) (Nat.le_of_eq hD) ?_
    rw [← hD]
    exact dk_empty s2.heap I2.big
  have small : ∀ b ∈ fp, b < s2.heap.objs.size := fun b hb => let ⟨o, e, _⟩ := T.obj _ _ t2 b hb; Heap.lt_size e
  have fp3 : ∀ b ∈ fp, FpOk X pins (upd H2 D (.dK [])) b ∧ b < s3.heap.objs.size := fun b hb => by
    have lt := small b hb
    refine ⟨⟨?_, (fp2 b hb).2⟩, by rw [hp3, Heap.size_push]; exact Nat.lt_succ_of_lt lt⟩
    rw [upd_ne (by rw [← hD]; exact Nat.ne_of_lt lt)]
    exact (fp2 b hb).1
  have t3 : tn 0 s3.heap := T.keep _ _ _ t2 fun b _ o e => by rw [hp3]; exact Heap.get?_push_of_some _ e
  have I4 := block_start I3 blk nd fp3
  have pg := hg s3 (upd H2 D (.dK [])) s3.heap.objs.size (cellsFrom (s3.heap.objs.size + 1) scope.names (cloFrom X.env.cells scope.names [])) fp
  have pt := ht s3 (upd H2 D (.dK [])) s3.heap.objs.size (cellsFrom (s3.heap.objs.size + 1) scope.names (cloFrom X.env.cells scope.names [])) fp
  have pk := hk s3 (upd H2 D (.dK [])) s3.heap.objs.size (cellsFrom (s3.heap.objs.size + 1) scope.names (cloFrom X.env.cells scope.names [])) fp
  have pv := hv s3 (upd H2 D (.dK [])) s3.heap.objs.size (cellsFrom (s3.heap.objs.size + 1) scope.names (cloFrom X.env.cells scope.names [])) fp
  show codeAny _ _ (.compStart (.DictComp kx vx [⟨tg, iter, ifs, 0⟩] scope pos) 0 (.ref it) (.ref D) (compEnvC scope (cellsFrom (s3.heap.objs.size + 1) scope.names (cloFrom X.env.cells scope.names [])) s3.heap.objs.size X.env)) (compPost (model X.prog X.w) X.A X.xe none _ (.ref D) s3.heap.objs.size) { s3 with heap := pushCells (s3.heap.push { cls := .type "dict", data := .dict #[] }) scope.names }
  have out3 : ∀ b ∈ fp, (upd H2 D (.dK [])) b = none := fun b hb => (fp3 b hb).1.1
  generalize hce : compEnvC scope (cellsFrom (s3.heap.objs.size + 1) scope.names (cloFrom X.env.cells scope.names [])) s3.heap.objs.size X.env = ce at I4 pg pt pk pv ⊢
  have loc : ce.locals = s3.heap.objs.size := by subst hce; rfl
  generalize hH3 : upd H2 D (.dK []) = H3 at I3 I4 pg pt pk pv first out3 fp3
  generalize e4 : ({ s3 with heap := pushCells (s3.heap.push { cls := .type "dict", data := .dict #[] }) scope.names } : Shared) = s4 at I4 ⊢
  have t4 : tn 0 s4.heap := T.keep _ _ _ t3 fun b _ o e => by rw [← e4]; exact pushCells_keeps _ _ _ _ (Heap.get?_push_of_some _ e)
  have inner : ∀ {τ' : L2.St} {H' : Hp} {s' : Shared}, L2.Inv (X.blk s3 H3 scope ce fp) [] τ' H' s' → (∀ b ∈ fp, H' b = none) → ∀ b ∈ fp, FpOk (X.blk s3 H3 scope ce fp) [] H' b := fun {τ' H' s'} I' hn b hb =>
    ⟨hn b hb, (I'.ok.exf b hb).1, I'.ok.exfs b hb, .inl hb, fun x c e => (I'.ok.exf b hb).2 x c e, fun p hp => absurd (show p ∈ ([] : List (Addr × Obj)) ++ [] from hp) (by simp)⟩
  have loop : codeAny (model X.prog X.w) X.A (.compLoop (.DictComp kx vx [⟨tg, iter, ifs, 0⟩] scope pos) 0 (.ref it) (.ref D) ce) (compPost (model X.prog X.w) X.A X.xe none (EP X pins τ Q) (.ref D) s3.heap.objs.size) s4 := by
    refine compLoop_anyD (fun n s' => ∃ i H', L2.Inv (X.blk s3 H3 scope ce fp) [] (wipe τ (own.map (·.2))) H' s' ∧ tn i s'.heap ∧ (∀ b ∈ fp, H' b = none) ∧ W i n H') ?_ m0 ⟨0, H3, I4, t4, out3, first⟩
    rintro n s5 ⟨i, H5, I5, t5, out5, w5⟩
    rcases turn i n H5 w5 with ⟨stop, fine⟩ | ⟨go, Nx, less, step⟩
    · have endd := T.done (X.blk s3 H3 scope ce fp) rfl rfl rfl calm i [] s5 _ H5 (fun _ _ => False) I5 (inner I5 out5) t5 stop
      refine thnF endd fun r s6 ⟨hr, I6⟩ => ?_
      subst hr
      have I7 : L2.Inv X pins τ H5 s6 := I3.call' (ch := fp) I6.os I6.base I6.hok I6.bare fun b hb => ⟨(fp3 b hb).1.2.2.2.1, (fp3 b hb).1.2.1, (fp3 b hb).1.2.2.2.2.1, (fp3 b hb).1.2.2.2.2.2⟩
      have nC : H5 s3.heap.objs.size = none := by
        have z : H5 ce.locals = none := I6.free
        rw [loc] at z
        exact z
      obtain ⟨m, hn, _⟩ := I6.loc
      have hn : s6.heap.Ns ce.locals m := hn
      rw [loc] at hn
      obtain ⟨f0, f1, f2, f3, f4, f5⟩ := I3.fpOk (Nat.le_refl _) nC
      exact ⟨m, hn, fun h'' sb => ⟨.ref D, H5, I7.turned (t' := s6.toks) (fun b o hb e => (sb.2 b hb).trans e) f0 f1 f3 f4 f5, rfl, fine⟩⟩
    · have nextd := T.item (X.blk s3 H3 scope ce fp) rfl rfl rfl calm i [] s5 _ H5 (fun _ _ => False) I5 (inner I5 out5) t5 go
      refine thnF nextd fun r s6 ⟨u, hr, h6⟩ => ?_
      subst hr
      refine thnF h6 fun _ s7 ⟨x, H7, I7, r7, y7, t7, out7⟩ => ?_
      have J7 := I7.pinned (inner I7 out7) (T.obj _ _ t7)
      refine thnF (pg.run _ s7 _ H7 x u _ J7 r7 (step x H7 y7)) fun _ s8 ⟨τ8, H8, I8, kept8, q8⟩ => ?_
      refine thnF (pt.run _ s8 τ8 H8 _ I8 q8) fun b s9 ⟨H9, I9, q9⟩ => ?_
      have back : ∀ {s' : Shared} {H' : Hp}, L2.Inv (X.blk s3 H3 scope ce fp) ([] ++ pinsAt fp s7.heap) τ8 H' s' → Nx H' → ∃ m, m < n ∧ ∃ i H', L2.Inv (X.blk s3 H3 scope ce fp) [] (wipe τ (own.map (·.2))) H' s' ∧ tn i s'.heap ∧ (∀ b ∈ fp, H' b = none) ∧ W i m H' := fun {s' H'} I' nx => by
        obtain ⟨m', hm, w'⟩ := less H' nx
        have still : ∀ b ∈ fp, ∀ o, s7.heap.get? b = some o → s'.heap.get? b = some o ∧ H' b = none := fun b hb o e =>
          let z := I'.pin (b, o) (List.mem_append_right _ (List.mem_append_right _ (mem_pinsAt hb e)))
          ⟨z.1, z.2.1⟩
        have hl : (wipe τ (own.map (·.2))).length = τ8.length := by rw [← kept8, wipe_length]
        refine ⟨m', hm, i + 1, H', (I'.unpinned (pins := [])).weak hl (fun j v e => ?_), T.keep _ _ _ t7 fun b hb o e => (still b hb o e).1, fun b hb => ?_, w'⟩
        · rw [← kept8] at e
          exact (wipe_some e).1
        · obtain ⟨o, e, _⟩ := T.obj _ _ t7 b hb
          exact (still b hb o e).2
      cases b with
      | false =>
        simp only [Bool.false_eq_true, if_false] at q9 ⊢
        exact back I9 q9
      | true =>
        simp only [if_true] at q9 ⊢
        refine thnF (pk.run _ s9 τ8 H9 _ I9 q9) fun z sa ⟨yk, Ha, Ia, ra, qa⟩ => ?_
        refine thnF (pv.run _ sa τ8 Ha _ Ia qa) fun z2 sb ⟨yv, Hb, Ib, rb, put⟩ => ?_
        exact putD_ok (X := X.blk s3 H3 scope ce fp) hu Ib put ra rb fun H' sc Ic nx => back Ic nx
  exact codeAny_compStart_dict loop (T.self X.A 0 _ _ _ t4 loop)
end
/-- what a turn puts: a key and a value -/
def pairF (fk fv : MF A) : MF (A × A) := fk.bind fun x => fv.bind fun y => fun _ _ h => .ok (x, y) h
def ptD (d : Nat) (h : Hs) (p : A × A) : Option Hs := match h[d]? with
  | some (.dk kvs) => match keyOf p.1 with
    | some k => if small kvs.length then some (h.set d (.dk (putA kvs k p.2))) else none
    | none => match p.1 with
      | .tup ys => match kvs with
        | [] => match keysOf ys with
          | some ks => some (h.set d (.dt [(ks, p.2)]))
          | none => none
        | _ => none
      | _ => none
  | some (.dt kvs) => match p.1 with
    | .tup ys => match keysOf ys with
      | some ks => if small kvs.length then some (h.set d (.dt (putA kvs ks p.2))) else none
      | none => none
    | _ => none
  | _ => none
section
variable {X : Cx} {C : Kn} {E : XK} {k : Nat} {pos : Pos}
def relP (C : Kn) : Loc → Nat → Hp → A × A → V × V → Prop := fun G n H p q => RV C G n H p.1 q.1 ∧ RV C G n H p.2 q.2
theorem pair_use {fk fv : MF A} {σ : L2.St} {H : Hp} {R : V × V → Hp → Prop} (c : Cont (relP C) C E (pairF fk fv) [] [] σ H R) : tE C E fk σ H fun y H1 => tE C E fv σ H1 fun z H2 => R (y, z) H2 :=
  Cont.mono (Cont.bind c) fun y H1 ⟨a, c1⟩ => Cont.mono (Cont.bind c1) fun z H2 ⟨b, c2⟩ => by
    obtain ⟨G, lo, h, s, rh, rs, rv, q⟩ := c2
    obtain ⟨v, w, e, r1, r2⟩ := rvs2 rv
    cases e
    exact q G H2 (y, z) Ext.refl rh ⟨r2, r1⟩
theorem je_dcG {kx vx tg iter : Expr} {ifs : List Expr} {scope : Scope} {own : List (Str × Nat)} {t : Tg} {fk fv : MF A} {fs : MF Src} {ft : MF Bool} (W : Go X C E k) (hvs : ∀ i ∈ tgs t, i ∈ own.map (·.2)) (hi : PI X tg iter (tI C E fs)) (ok : BlkOk X.N X.env.scope scope own)
    (hg : ∀ (s : Shared) (H : Hp) (D : Addr) (cl : List (Str × Addr)) (fp : List Addr), PG (X.blk s H scope (compEnvC scope cl D X.env) fp) tg (gOf X.K t)) (ht : ∀ (s : Shared) (H : Hp) (D : Addr) (cl : List (Str × Addr)) (fp : List Addr), PTs (X.blk s H scope (compEnvC scope cl D X.env) fp) ifs (tT C EF ft))
    (hk : ∀ (s : Shared) (H : Hp) (D : Addr) (cl : List (Str × Addr)) (fp : List Addr), PE (X.blk s H scope (compEnvC scope cl D X.env) fp) kx (tE C EF fk)) (hv : ∀ (s : Shared) (H : Hp) (D : Addr) (cl : List (Str × Addr)) (fp : List Addr), PE (X.blk s H scope (compEnvC scope cl D X.env) fp) vx (tE C EF fv))
    (hs : ∀ x, foldedSetIterable iter X.env x = pure x := by intro _; rfl) :
    PE X (.DictComp kx vx [⟨tg, iter, ifs, 0⟩] scope pos) (tE C E (cpF t ft (pairF fk fv) ptD (.dk []) (own.map (·.2)) fs)) :=
  imp (pe_dcG (Nat.lt_of_succ_lt (hu_of W.room)) W.calm W.nd hi ok hg ht hk hv hs) fun σ H Q c => by
    rw [W.K]
    refine Cont.mono (cp_start (u := .dK []) (fun G n H a e => .dk e .nil) c) fun J H1 ⟨src, V0, M, c1⟩ D hD => ?_
    obtain ⟨m, d, c2⟩ := c1 D hD
    refine cp_use (rel := relP C) (Pt := fun D p H Z => PutD D p.1 p.2 H Z) (RE := fun σ H R => tE C EF fk σ H fun y H1 => tE C EF fv σ H1 fun z H2 => R (y, z) H2) hvs M (fun _ _ _ c => pair_use c) (fun {G lo d h h' H p w Z} rh hd hlo rw' e z => ?_) c2
    obtain ⟨rk, rx⟩ := rw'
    unfold ptD at e
    split at e
    · rename_i kvs hh
      cases rh.obj _ _ hh with
      | dk hl r =>
        split at e
        · rename_i k hk
          split at e
          · rename_i hs
            cases e
            refine .inl ⟨_, k, keyOf_rv hk rk, hl, by rw [← Paired.length r]; exact small_lt hs, z _ ?_ ?_⟩
            · rw [List.length_set]; exact Ext.put rh hlo hd hl free_dk
            · exact rh.put hd hl free_dk (.dk upd_same (rks_put (rx.ext (Ext.put rh hlo hd hl free_dk)) k (r.ext (Ext.put rh hlo hd hl free_dk))))
          · cases e
        · split at e
          · rename_i ys hys
            split at e
            · split at e
              · rename_i ks hks
                cases e
                cases r
                rw [hys] at rk
                cases hw : w.1 with
                | ref b =>
                  rw [hw] at rk
                  cases rk with
                  | tup ht rt =>
                    rw [keysOf_rvs hks rt] at ht
                    refine .inr (.inl ⟨ks, b, rfl, hl, ht, z _ ?_ ?_⟩)
                    · rw [List.length_set]; exact Ext.put rh hlo hd hl free_dk
                    · exact rh.put hd hl free_dk (.dt upd_same (.cons ⟨rfl, rx.ext (Ext.put rh hlo hd hl free_dk)⟩ .nil))
                | _ => rw [hw] at rk; cases rk
              · cases e
            · cases e
          · cases e
    · rename_i kvs hh
      cases rh.obj _ _ hh with
      | dt hl r =>
        split at e
        · rename_i ys hys
          split at e
          · rename_i ks hks
            split at e
            · rename_i hs
              cases e
              rw [hys] at rk
              cases hw : w.1 with
              | ref b =>
                rw [hw] at rk
                cases rk with
                | tup ht rt =>
                  rw [keysOf_rvs hks rt] at ht
                  refine .inr (.inr ⟨_, ks, b, rfl, hl, ht, by rw [← Paired.length r]; exact small_lt hs, z _ ?_ ?_⟩)
                  · rw [List.length_set]; exact Ext.put rh hlo hd hl free_dt
                  · exact rh.put hd hl free_dt (.dt upd_same (rks_put (rx.ext (Ext.put rh hlo hd hl free_dt)) ks (r.ext (Ext.put rh hlo hd hl free_dt))))
              | _ => rw [hw] at rk; cases rk
            · cases e
          · cases e
        · cases e
    · cases e
end
end MA

set_option linter.all false
set_option maxRecDepth 100000
namespace MA
open PySem L2 SlX LamX
open PySem.Spec PyProof.Rows

/-! ### range as an argument; starred items -/
def relR : Loc → Nat → Hp → Int × Int → Int × Int → Prop := fun _ _ _ p q => p = q
def tR (C : Kn) (E : XK) (f : MF (Int × Int)) : L2.St → Hp → (Int → Int → Hp → Prop) → Prop := fun σ H Q => Cont relR C E f [] [] σ H fun p H' => Q p.1 p.2 H'
def rgF1 (fa : MF A) : MF (Int × Int) := fa.bind fun x => fun _ _ h => match x with
  | .int n => .ok (0, n) h
  | _ => .bad
def rgF2 (fa fb : MF A) : MF (Int × Int) := fa.bind fun x => fb.bind fun y => fun _ _ h => match x, y with
  | .int i, .int j => .ok (i, j) h
  | _, _ => .bad
def okR (p : Int × Int) : Bool := decide (-(2 ^ 62) ≤ p.1) && decide (p.1 < 2 ^ 62) && decide (-(2 ^ 62) ≤ p.2) && decide (p.2 < 2 ^ 62) && Nat.ble (p.2 - p.1).toNat 100000
theorem okR_of {p : Int × Int} (h : okR p = true) : RgOk p.1 p.2 := by
  unfold okR at h
  simp only [Bool.and_eq_true, decide_eq_true_eq] at h
  exact ⟨h.1.1.1.1, h.1.1.1.2, h.1.1.2, h.1.2, Nat.le_trans (Nat.le_of_ble_eq_true h.2) (by decide)⟩
theorem rg_rvs {C : Kn} (a b : Int) (G : Loc) (n : Nat) (H : Hp) : RVs C G n H (rangeA a (b - a).toNat) (rgV a b) := range_rvs a _ G n H
section
variable {X : Cx} {C : Kn} {E : XK} {k : Nat} {p sp_ pos : Pos}
theorem jr_1 {a : Expr} {fa : MF A} (hg : Gl X "range") (hm : X.mg "range" = none) (ha : PE X a (tE C E fa)) (na : starEach [a] X.env = (false, eval a X.env) :: starEach [] X.env := by rfl) : PRg X (.Call (.Name "range" p) [a] [] pos) (tR C E (rgF1 fa)) := by
  intro pins s σ H Q I c
  refine prg_1 hg hm ha na pins s σ H Q I (Cont.mono (Cont.bind c) fun v H1 ⟨x, c1⟩ => ?_)
  obtain ⟨G, lo, h, sl, rh, rs, rv, q⟩ := c1
  obtain ⟨v', e', r⟩ := rvs1 rv
  cases e'
  dsimp only at q
  split at q
  · rename_i n
    cases r
    exact ⟨n, rfl, q G H1 (0, n) Ext.refl rh rfl⟩
  · exact q.elim
theorem jr_2 {a b : Expr} {fa fb : MF A} (hg : Gl X "range") (hm : X.mg "range" = none) (ha : PE X a (tE C E fa)) (hb : PE X b (tE C E fb)) (na : starEach [a, b] X.env = (false, eval a X.env) :: starEach [b] X.env := by rfl) (nb : starEach [b] X.env = (false, eval b X.env) :: starEach [] X.env := by rfl) (hpl : (backTo pos (starEach [b] X.env)).any (·.1) = false := by rfl) :
    PRg X (.Call (.Name "range" p) [a, b] [] pos) (tR C E (rgF2 fa fb)) := by
  intro pins s σ H Q I c
  refine prg_2 hg hm ha hb na nb hpl pins s σ H Q I (Cont.mono (Cont.bind c) fun v H1 ⟨x, c1⟩ => Cont.mono (Cont.bind c1) fun w H2 ⟨y, c2⟩ => ?_)
  obtain ⟨G, lo, h, sl, rh, rs, rv, q⟩ := c2
  obtain ⟨v1, v2, e', r1, r2⟩ := rvs2 rv
  cases e'
  dsimp only at q
  split at q
  · cases r1
    cases r2
    exact ⟨_, _, rfl, rfl, q G H2 (_, _) Ext.refl rh rfl⟩
  · exact q.elim
def lstR (f : MF (Int × Int)) : MF A := f.bind fun p => fun _ _ h => if okR p then .ok (.ref h.length) (h ++ [.lst (rangeA p.1 (p.2 - p.1).toNat)]) else .bad
def tupR (f : MF (Int × Int)) : MF A := f.bind fun p => fun _ _ h => if okR p then .ok (.tup (rangeA p.1 (p.2 - p.1).toNat)) h else .bad
theorem rgb {α : Type} {β : Type} {rel : Loc → Nat → Hp → α → β → Prop} {f : MF (Int × Int)} {k : Int × Int → MF α} {xs : List A} {vs : List V} {σ : L2.St} {H : Hp} {Q : β → Hp → Prop} (c : Cont rel C E (MF.bind f k) xs vs σ H Q) :
    tR C E f σ H fun a b H1 => Cont rel C E (k (a, b)) xs vs σ H1 Q := by
  obtain ⟨G, lo, h, s, a, b, d, q⟩ := c
  refine ⟨G, lo, h, s, a, b, .nil, ?_⟩
  unfold MF.bind at q
  cases hr : f lo s h with
  | bad => rw [hr] at q; exact q
  | ex e h1 => rw [hr] at q; exact q
  | ok p h1 =>
    rw [hr] at q
    intro G' H' p' e1 r1 e
    have e : p = p' := e
    subst e
    exact ⟨G', lo, h1, s, r1, b.ext e1, d.ext e1, fin.ext e1 q⟩
theorem je_listRg {e : Expr} {f : MF (Int × Int)} (W : Go X C E k) (hg : Gl X "list") (hm : X.mg "list" = none) (he : PRg X e (tR C E f)) (na : starEach [e] X.env = (false, eval e X.env) :: starEach [] X.env := by rfl) : PE X (.Call (.Name "list" p) [e] [] pos) (tE C E (lstR f)) :=
  imp (pe_listRg W.calm hg hm he na) fun σ H Q c => Cont.mono (rgb c) fun p H1 c1 => by
    obtain ⟨G, lo, h, s, rh, rs, rv, q⟩ := c1
    dsimp only at q
    split at q
    · rename_i ho
      exact ⟨okR_of ho, fun l hl => fin_lst q rh (rg_rvs _ _ _ _ _) hl⟩
    · exact q.elim
theorem je_tupRg {e : Expr} {f : MF (Int × Int)} (W : Go X C E k) (hg : Gl X "tuple") (hm : X.mg "tuple" = none) (he : PRg X e (tR C E f)) (na : starEach [e] X.env = (false, eval e X.env) :: starEach [] X.env := by rfl) : PE X (.Call (.Name "tuple" p) [e] [] pos) (tE C E (tupR f)) :=
  imp (pe_tupRg W.calm hg hm he na) fun σ H Q c => Cont.mono (rgb c) fun p H1 c1 => by
    obtain ⟨G, lo, h, s, rh, rs, rv, q⟩ := c1
    dsimp only at q
    split at q
    · rename_i ho
      exact ⟨okR_of ho, fun l hl => fin_tup q rh (rg_rvs _ _ _ _ _) hl⟩
    · exact q.elim
/-- *e, e a list or a tuple -/
def starF (f : MF A) (g : MF (List A)) : MF (List A) := f.bind fun x => fun lo s h => match h.seq x with
  | some xs => (MF.bind g fun ys => fun _ _ h => .ok (xs ++ ys) h) lo s h
  | none => .bad
/-- *range(..) -/
def starR (f : MF (Int × Int)) (g : MF (List A)) : MF (List A) := f.bind fun p => fun lo s h => if okR p then (MF.bind g fun ys => fun _ _ h => .ok (rangeA p.1 (p.2 - p.1).toNat ++ ys) h) lo s h else .bad
theorem slot_rg : PySem.Slot "range" "__iter__" "range.__iter__" := by
  first
  | exact PySem.F.slot_range_iter
  | exact .of (owner := "range") (n := "__iter__") (by rw [typeLookup_type, builtinLookup_eq_fast]; kernel_rfl) (by decide +kernel) (by decide +kernel) (by decide +kernel) (by first | exact .inl (by decide +kernel) | exact .inr (by decide +kernel)) (by rw [isSubtype_type]; kernel_rfl)
theorem pa_starR {e : Expr} {es : List Expr} {t : TA} {te : L2.St → Hp → (Int → Int → Hp → Prop) → Prop} (hc : X.calm = true) (he : PRg X e te) (hr : PA X es t) (hs : starEach (.Starred e sp_ :: es) X.env = (true, eval e X.env) :: starEach es X.env := by rfl) :
    PA X (.Starred e sp_ :: es) (fun σ H Q => te σ H fun a b H1 => RgOk a b ∧ t σ H1 fun ys H2 => Q (rgV a b ++ ys) H2) := by
  refine ⟨fun pos pins s σ H Q I h => ?_⟩
  refine PySem.W.items_star (thn (he pins s σ H _ I h) fun v s1 ⟨r, a, b, t1, t2, t3, H1, ey, hR, I1, ok, q⟩ => ?_) hs
  subst ey
  obtain ⟨b1, b2, b3, b4, b5⟩ := ok
  have hT : s1.TypeIs (.ref r) "range" := by
    first
    | exact hR.typeIs
    | exact ⟨_, hR, rfl⟩
  unfold PySem.W.StarOf notIterableAtAll
  refine wpAny_bind (wpAny_specialOf hT slot_rg.lookup (wpAny_pure ⟨rfl, ?_⟩))
  refine L2.collect_range (n := (b - a).toNat) (I1.ok.hd hc) hR (small_one b1 b2 b3 b4) (rangeSize_nat a b) b5 fun h' tk acc kp it => ?_
  exact thn (hr.run pos pins _ σ H1 _ (I1.kept (t' := tk) kp) q) fun ws s3 ⟨vs, H3, I3, r3, q3⟩ => ⟨rgV a b ++ vs, H3, I3, (vals_rg it).append r3, q3⟩
theorem ja_starR {e : Expr} {es : List Expr} {f : MF (Int × Int)} {g : MF (List A)} (W : Go X C E k) (he : PRg X e (tR C E f)) (hr : PA X es (tA C E g)) (hs : starEach (.Starred e sp_ :: es) X.env = (true, eval e X.env) :: starEach es X.env := by rfl) : PA X (.Starred e sp_ :: es) (tA C E (starR f g)) :=
  impA (pa_starR W.calm he hr hs) fun σ H Q c => Cont.mono (rgb c) fun p H1 c1 => by
    obtain ⟨G, lo, h, s, rh, rs, rv, q⟩ := c1
    dsimp only at q
    split at q
    · rename_i ho
      refine ⟨okR_of ho, ?_⟩
      have c2 : Cont (relVs C) C E (MF.bind g fun ys => fun _ _ h => .ok (rangeA p.1 (p.2 - p.1).toNat ++ ys) h) [] [] σ H1 Q := ⟨G, lo, h, s, rh, rs, .nil, q⟩
      refine Cont.mono (Cont.bindA c2) fun ws H2 ⟨ys, c3⟩ => ?_
      obtain ⟨G2, lo2, h2, s2, rh2, rs2, rv2, q2⟩ := c3
      rw [List.append_nil, List.append_nil] at rv2
      exact q2 G2 H2 _ Ext.refl rh2 (RVs.append (rg_rvs _ _ _ _ _) rv2)
    · exact q.elim
theorem ja_star {e : Expr} {es : List Expr} {f : MF A} {g : MF (List A)} (W : Go X C E k) (he : PE X e (tE C E f)) (hr : PA X es (tA C E g)) (hs : starEach (.Starred e sp_ :: es) X.env = (true, eval e X.env) :: starEach es X.env := by rfl) : PA X (.Starred e sp_ :: es) (tA C E (starF f g)) :=
  impA (StX.pa_star he hr hs) fun σ H Q c => Cont.mono (Cont.bind c) fun v H1 ⟨x, c1⟩ => by
    obtain ⟨G, lo, h, s, rh, rs, rv, q⟩ := c1
    obtain ⟨v', e', r⟩ := rvs1 rv
    cases e'
    dsimp only at q
    split at q
    · rename_i xs hx
      obtain ⟨a, ys, rfl, hq, b⟩ := rh.seq hx r
      refine ⟨a, ys, rfl, ?_, ?_⟩
      · rw [W.K]
        exact hq.symm
      · have c2 : Cont (relVs C) C E (MF.bind g fun zs => fun _ _ h => .ok (xs ++ zs) h) xs ys σ H1 Q := ⟨G, lo, h, s, rh, rs, b, q⟩
        refine Cont.mono (Cont.bindA c2) fun ws H2 ⟨zs, c3⟩ => ?_
        obtain ⟨G2, lo2, h2, s2, rh2, rs2, rv2, q2⟩ := c3
        have spl : ∀ {zs : List A} {ws : List V} {G : Loc} {n : Nat} {H : Hp}, zs.length = ws.length → RVs C G n H (zs ++ xs) (ws ++ ys) → RVs C G n H zs ws ∧ RVs C G n H xs ys := by
          intro zs
          induction zs with
          | nil =>
            intro ws G n H hl r
            cases ws with
            | nil => exact ⟨.nil, r⟩
            | cons _ _ => cases hl
          | cons z zs ih =>
            intro ws G n H hl r
            cases ws with
            | nil => cases hl
            | cons w ws =>
              cases r with
              | cons r1 r2 =>
                obtain ⟨a, b⟩ := ih (by simpa using hl) r2
                exact ⟨.cons r1 a, b⟩
        have hl : zs.length = ws.length := by
          have := rv2.length
          rw [List.length_append, List.length_append, b.length] at this
          omega
        obtain ⟨ra, rb⟩ := spl hl rv2
        exact q2 G2 H2 _ Ext.refl rh2 (RVs.append rb ra)
    · exact q.elim
end
end MA

set_option linter.all false
set_option maxRecDepth 100000
namespace MA
open PySem L2 SlX LamX
open PySem.Spec PyProof.Rows

/-! ### sets of ints made by comprehensions -/
section
variable {X : Cx}
def tScI (w : World) (wi : TI) (g : TG) (tt : TT) (te : TE) (vs : List Nat) : TE := fun τ H Q => wi τ H fun J H1 => ∀ D, H1 D = none → ∃ W : Nat → Nat → Hp → Prop, (∃ m, W 0 m (upd H1 D (SetO w D (fun _ => false) 0))) ∧ ∀ i m H, W i m H →
  (J.stop i H ∧ Q (.ref D) H) ∨ (J.go i H ∧ ∃ Nx : Hp → Prop, (∀ H', Nx H' → ∃ m', m' < m ∧ W (i + 1) m' H') ∧ ∀ x H', J.yld i H x H' → g x (wipe τ vs) H' fun τ2 H2 => wipe τ2 vs = wipe τ vs ∧ tt τ2 H2 fun b H3 =>
    if b = true then te τ2 H3 fun y H4 => ∃ (c : Int) (S : Int → Bool) (n : Nat), y = .int c ∧ H4 D = some (SetO w D S n) ∧ n + 1 < scanBound ∧ Nx (upd H4 D (SetO w D (fun j => S j || decide (j = c)) (if S c = true then n else n + 1))) else Nx H3)
theorem pe_scI {elt tg iter : Expr} {ifs : List Expr} {scope : Scope} {own : List (Str × Nat)} {pos : Pos} {wi : TI} {g : TG} {tt : TT} {te : TE} (calm : X.calm = true) (nd : X.N.Nodup) (pi : PI X tg iter wi) (blk : BlkOk X.N X.env.scope scope own)
    (hg : ∀ (s : Shared) (H : Hp) (C : Addr) (cl : List (Str × Addr)) (fp : List Addr), PG (X.blk s H scope (compEnvC scope cl C X.env) fp) tg g) (ht : ∀ (s : Shared) (H : Hp) (C : Addr) (cl : List (Str × Addr)) (fp : List Addr), PTs (X.blk s H scope (compEnvC scope cl C X.env) fp) ifs tt)
    (hk : ∀ (s : Shared) (H : Hp) (C : Addr) (cl : List (Str × Addr)) (fp : List Addr), PE (X.blk s H scope (compEnvC scope cl C X.env) fp) elt te) (hs : ∀ x, foldedSetIterable iter X.env x = pure x := by intro _; rfl) :
    PE X (.SetComp elt [⟨tg, iter, ifs, 0⟩] scope pos) (tScI X.w wi g tt te (own.map (·.2))) := by
  refine ⟨fun pins s τ H Q I0 w0 => ?_⟩
  rw [PpSet.eval_SetComp]
  have bound : ∀ y ∈ scope.names, y.2 = .free → ∃ c, X.env.cells.lookup y.1 = some c := fun y hy e => (blk.free y hy e).elim (fun k => I0.ok.has _ (.inl k)) fun k => I0.ok.has _ (.inr k)
  refine wpAny_comprehension_free rfl hs (closure_ok bound) blk.kind (fun y hy e => by rw [blk.uniq y hy, e]) (thn (pi.run pins s τ H _ I0 w0) fun xv s1 hx => thn hx fun itv s2 got => ?_)
  obtain ⟨it, fp, tn, J, H2, e, I2, T, t2, fp2, w2⟩ := got
  subst e
  refine PpSet.newSet_ok (newEnv_comp ?_)
  generalize hD : s2.heap.objs.size = D
  have freeD : H2 D = none := I2.hok.fresh (Nat.le_of_eq hD)
  obtain ⟨W, ⟨m0, first⟩, turn⟩ := w2 D freeD
  generalize e3 : ({ s2 with heap := s2.heap.push { cls := .type "set", dict := none, data := .set #[] 0 (.fresh 0 0 (!X.w.params.followText "set-order")) } } : Shared) = s3
  have hp3 : s3.heap = s2.heap.push { cls := .type "set", dict := none, data := .set #[] 0 (.fresh 0 0 (!X.w.params.followText "set-order")) } := by rw [← e3]
  have I3 : L2.Inv X pins τ (upd H2 D (SetO X.w D (fun _ => false) 0)) s3 := by
    rw [← e3]
    refine I2.laid (t' := s2.toks) (fun b o e => Heap.get?_push_of_some _ e) (Nat.le_of_eq hD) ?_
    rw [← hD]
    exact setO_new (setR_fresh X.w)
  have small : ∀ b ∈ fp, b < s2.heap.objs.size := fun b hb => let ⟨o, e, _⟩ := T.obj _ _ t2 b hb; Heap.lt_size e
  have fp3 : ∀ b ∈ fp, FpOk X pins (upd H2 D (SetO X.w D (fun _ => false) 0)) b ∧ b < s3.heap.objs.size := fun b hb => by
    have lt := small b hb
    refine ⟨⟨?_, (fp2 b hb).2⟩, by rw [hp3, Heap.size_push]; exact Nat.lt_succ_of_lt lt⟩
    rw [upd_ne (by rw [← hD]; exact Nat.ne_of_lt lt)]
    exact (fp2 b hb).1
  have t3 : tn 0 s3.heap := T.keep _ _ _ t2 fun b _ o e => by rw [hp3]; exact Heap.get?_push_of_some _ e
  have I4 := block_start I3 blk nd fp3
  have pg := hg s3 (upd H2 D (SetO X.w D (fun _ => false) 0)) s3.heap.objs.size (cellsFrom (s3.heap.objs.size + 1) scope.names (cloFrom X.env.cells scope.names [])) fp
  have pt := ht s3 (upd H2 D (SetO X.w D (fun _ => false) 0)) s3.heap.objs.size (cellsFrom (s3.heap.objs.size + 1) scope.names (cloFrom X.env.cells scope.names [])) fp
  have pk := hk s3 (upd H2 D (SetO X.w D (fun _ => false) 0)) s3.heap.objs.size (cellsFrom (s3.heap.objs.size + 1) scope.names (cloFrom X.env.cells scope.names [])) fp
  show codeAny _ _ (.compStart (.SetComp elt [⟨tg, iter, ifs, 0⟩] scope pos) 0 (.ref it) (.ref D) (compEnvC scope (cellsFrom (s3.heap.objs.size + 1) scope.names (cloFrom X.env.cells scope.names [])) s3.heap.objs.size X.env)) (compPost (model X.prog X.w) X.A X.xe none _ (.ref D) s3.heap.objs.size) { s3 with heap := pushCells (s3.heap.push { cls := .type "dict", data := .dict #[] }) scope.names }
  have out3 : ∀ b ∈ fp, (upd H2 D (SetO X.w D (fun _ => false) 0)) b = none := fun b hb => (fp3 b hb).1.1
  generalize hce : compEnvC scope (cellsFrom (s3.heap.objs.size + 1) scope.names (cloFrom X.env.cells scope.names [])) s3.heap.objs.size X.env = ce at I4 pg pt pk ⊢
  have loc : ce.locals = s3.heap.objs.size := by subst hce; rfl
  generalize hH3 : upd H2 D (SetO X.w D (fun _ => false) 0) = H3 at I3 I4 pg pt pk first out3 fp3
  generalize e4 : ({ s3 with heap := pushCells (s3.heap.push { cls := .type "dict", data := .dict #[] }) scope.names } : Shared) = s4 at I4 ⊢
  have t4 : tn 0 s4.heap := T.keep _ _ _ t3 fun b _ o e => by rw [← e4]; exact pushCells_keeps _ _ _ _ (Heap.get?_push_of_some _ e)
  have inner : ∀ {τ' : L2.St} {H' : Hp} {s' : Shared}, L2.Inv (X.blk s3 H3 scope ce fp) [] τ' H' s' → (∀ b ∈ fp, H' b = none) → ∀ b ∈ fp, FpOk (X.blk s3 H3 scope ce fp) [] H' b := fun {τ' H' s'} I' hn b hb =>
    ⟨hn b hb, (I'.ok.exf b hb).1, I'.ok.exfs b hb, .inl hb, fun x c e => (I'.ok.exf b hb).2 x c e, fun p hp => absurd (show p ∈ ([] : List (Addr × Obj)) ++ [] from hp) (by simp)⟩
  have loop : codeAny (model X.prog X.w) X.A (.compLoop (.SetComp elt [⟨tg, iter, ifs, 0⟩] scope pos) 0 (.ref it) (.ref D) ce) (compPost (model X.prog X.w) X.A X.xe none (EP X pins τ Q) (.ref D) s3.heap.objs.size) s4 := by
    refine PpSet.compLoopS_any (fun n s' => ∃ i H', L2.Inv (X.blk s3 H3 scope ce fp) [] (wipe τ (own.map (·.2))) H' s' ∧ tn i s'.heap ∧ (∀ b ∈ fp, H' b = none) ∧ W i n H') ?_ m0 ⟨0, H3, I4, t4, out3, first⟩
    rintro n s5 ⟨i, H5, I5, t5, out5, w5⟩
    rcases turn i n H5 w5 with ⟨stop, fine⟩ | ⟨go, Nx, less, step⟩
    · have endd := T.done (X.blk s3 H3 scope ce fp) rfl rfl rfl calm i [] s5 _ H5 (fun _ _ => False) I5 (inner I5 out5) t5 stop
      refine thnF endd fun r s6 ⟨hr, I6⟩ => ?_
      subst hr
      have I7 : L2.Inv X pins τ H5 s6 := I3.call' (ch := fp) I6.os I6.base I6.hok I6.bare fun b hb => ⟨(fp3 b hb).1.2.2.2.1, (fp3 b hb).1.2.1, (fp3 b hb).1.2.2.2.2.1, (fp3 b hb).1.2.2.2.2.2⟩
      have nC : H5 s3.heap.objs.size = none := by
        have z : H5 ce.locals = none := I6.free
        rw [loc] at z
        exact z
      obtain ⟨m, hn, _⟩ := I6.loc
      have hn : s6.heap.Ns ce.locals m := hn
      rw [loc] at hn
      obtain ⟨f0, f1, f2, f3, f4, f5⟩ := I3.fpOk (Nat.le_refl _) nC
      exact ⟨m, hn, fun h'' sb => ⟨.ref D, H5, I7.turned (t' := s6.toks) (fun b o hb e => (sb.2 b hb).trans e) f0 f1 f3 f4 f5, rfl, fine⟩⟩
    · have nextd := T.item (X.blk s3 H3 scope ce fp) rfl rfl rfl calm i [] s5 _ H5 (fun _ _ => False) I5 (inner I5 out5) t5 go
      refine thnF nextd fun r s6 ⟨u, hr, h6⟩ => ?_
      subst hr
      refine thnF h6 fun _ s7 ⟨x, H7, I7, r7, y7, t7, out7⟩ => ?_
      have J7 := I7.pinned (inner I7 out7) (T.obj _ _ t7)
      refine thnF (pg.run _ s7 _ H7 x u _ J7 r7 (step x H7 y7)) fun _ s8 ⟨τ8, H8, I8, kept8, q8⟩ => ?_
      refine thnF (pt.run _ s8 τ8 H8 _ I8 q8) fun b s9 ⟨H9, I9, q9⟩ => ?_
      have back : ∀ {s' : Shared} {H' : Hp}, L2.Inv (X.blk s3 H3 scope ce fp) ([] ++ pinsAt fp s7.heap) τ8 H' s' → Nx H' → ∃ m, m < n ∧ ∃ i H', L2.Inv (X.blk s3 H3 scope ce fp) [] (wipe τ (own.map (·.2))) H' s' ∧ tn i s'.heap ∧ (∀ b ∈ fp, H' b = none) ∧ W i m H' := fun {s' H'} I' nx => by
        obtain ⟨m', hm, w'⟩ := less H' nx
        have still : ∀ b ∈ fp, ∀ o, s7.heap.get? b = some o → s'.heap.get? b = some o ∧ H' b = none := fun b hb o e =>
          let z := I'.pin (b, o) (List.mem_append_right _ (List.mem_append_right _ (mem_pinsAt hb e)))
          ⟨z.1, z.2.1⟩
        have hl : (wipe τ (own.map (·.2))).length = τ8.length := by rw [← kept8, wipe_length]
        refine ⟨m', hm, i + 1, H', (I'.unpinned (pins := [])).weak hl (fun j v e => ?_), T.keep _ _ _ t7 fun b hb o e => (still b hb o e).1, fun b hb => ?_, w'⟩
        · rw [← kept8] at e
          exact (wipe_some e).1
        · obtain ⟨o, e, _⟩ := T.obj _ _ t7 b hb
          exact (still b hb o e).2
      cases b with
      | false =>
        simp only [Bool.false_eq_true, if_false] at q9 ⊢
        exact back I9 q9
      | true =>
        simp only [if_true] at q9 ⊢
        refine thnF (pk.run _ s9 τ8 H9 _ I9 q9) fun z sa ⟨yk, Ha, Ia, ra, qa⟩ => ?_
        obtain ⟨c, S, nn, rfl, hDa, few, nx⟩ := qa
        obtain ⟨tk, rfl⟩ := ra
        have R := setO_get (X := X.blk s3 H3 scope ce fp) Ia hDa
        refine setR_add R few fun h' sb new => ?_
        have hx : ∃ u, h'.get? D = some u := by
          have ⟨o, _, _, _, ho, _⟩ := new
          exact ⟨o, ho⟩
        exact back (Ia.write (e := D) (t' := sa.toks + 1) (by rw [hDa]; trivial) (.inl rfl) (fun b u hb hu => (sb.2 b hb).trans hu) hx (setO_new new)) nx
  exact PpSet.codeAny_compStart_set loop (T.self X.A 0 _ _ _ t4 loop)
end

/-! ### abstract sets -/
section
variable {C : Kn} {G : Loc} {n lo : Nat} {h : Hs} {H : Hp}
theorem setO_code {w : World} {a c : Addr} {S : Int → Bool} {k : Nat} {q : Str} : CodeO c q ≠ SetO w a S k := fun z => by
  unfold CodeO SetO at z
  injection z with z
  have z1 := congrFun z { objs := Array.replicate (c + 1) { cls := .none, data := .fields #[.none, .str q 0] } }
  have g : ∀ b : Addr, ∀ o, (Heap.get? { objs := Array.replicate (c + 1) { cls := .none, data := .fields #[.none, .str q 0] } } b) = some o → o = { cls := .none, data := .fields #[.none, .str q 0] } := by
    intro b o e
    unfold Heap.get? at e
    by_cases hb : b < c + 1
    · simp [Array.getElem?_replicate, hb] at e
      exact e.symm
    · simp [Array.getElem?_replicate, hb] at e
  have t : (Heap.get? { objs := Array.replicate (c + 1) { cls := .none, data := .fields #[.none, .str q 0] } } c) = some { cls := .none, data := .fields #[.none, .str q 0] } := by
    unfold Heap.get?
    simp
  have R : SetR w _ a S k := (Eq.mp z1 ⟨_, _, 0, t, rfl, rfl⟩)
  obtain ⟨o, es, ep, tt, ho, _, hd, _⟩ := R
  have := g _ _ ho
  rw [this] at hd
  cases hd
theorem free_set {w : World} {a : Addr} {S : Int → Bool} {k : Nat} : Free a (SetO w a S k) := ⟨setO_stb, fun _ _ z => (by unfold SetO at z; cases z), fun _ z => (by unfold SetO at z; cases z), fun _ z => setO_code z.symm, fun _ z => (by unfold SetO at z; cases z)⟩
def addS (xs : List Int) (c : Int) : List Int := if xs.contains c then xs else xs ++ [c]
theorem addS_len {xs : List Int} {c : Int} {S : Int → Bool} (hS : ∀ k, S k = xs.contains k) : (addS xs c).length = if S c = true then xs.length else xs.length + 1 := by
  unfold addS
  rw [hS c]
  cases xs.contains c with
  | true => rfl
  | false => simp
theorem addS_mem {xs : List Int} {c : Int} {S : Int → Bool} (hS : ∀ k, S k = xs.contains k) (j : Int) : (S j || decide (j = c)) = (addS xs c).contains j := by
  unfold addS
  rw [hS j]
  cases hc : xs.contains c with
  | true =>
    rw [if_pos rfl]
    by_cases e : j = c
    · subst e
      rw [hc]
      rfl
    · simp [e]
  | false =>
    rw [if_neg Bool.false_ne_true, Bool.eq_iff_iff]
    simp
end
def ptS (d : Nat) (h : Hs) (y : A) : Option Hs := match h[d]? with
  | some (.set xs) => match y with
    | .int c => if Nat.ble (xs.length + 2) 1000 then some (h.set d (.set (addS xs c))) else none
    | _ => none
  | _ => none
section
variable {X : Cx} {C : Kn} {E : XK} {k : Nat} {p pos : Pos}
theorem je_scI {elt tg iter : Expr} {ifs : List Expr} {scope : Scope} {own : List (Str × Nat)} {t : Tg} {fe : MF A} {fs : MF Src} {ft : MF Bool} (W : Go X C E k) (hvs : ∀ i ∈ tgs t, i ∈ own.map (·.2)) (hi : PI X tg iter (tI C E fs)) (ok : BlkOk X.N X.env.scope scope own)
    (hg : ∀ (s : Shared) (H : Hp) (D : Addr) (cl : List (Str × Addr)) (fp : List Addr), PG (X.blk s H scope (compEnvC scope cl D X.env) fp) tg (gOf X.K t)) (ht : ∀ (s : Shared) (H : Hp) (D : Addr) (cl : List (Str × Addr)) (fp : List Addr), PTs (X.blk s H scope (compEnvC scope cl D X.env) fp) ifs (tT C EF ft))
    (he : ∀ (s : Shared) (H : Hp) (D : Addr) (cl : List (Str × Addr)) (fp : List Addr), PE (X.blk s H scope (compEnvC scope cl D X.env) fp) elt (tE C EF fe)) (hs : ∀ x, foldedSetIterable iter X.env x = pure x := by intro _; rfl) :
    PE X (.SetComp elt [⟨tg, iter, ifs, 0⟩] scope pos) (tE C E (cpF t ft fe ptS (.set []) (own.map (·.2)) fs)) :=
  imp (pe_scI W.calm W.nd hi ok hg ht he hs) fun σ H Q c => by
    rw [W.K, W.w]
    have hst : ∀ D, H D = none → True := fun _ _ => trivial
    obtain ⟨G, lo, h, s, rh, rs, rv, q⟩ := c
    refine ⟨G, lo, h, s, rh, rs, .nil, ?_⟩
    unfold cpF at q
    cases hz : fs lo s h with
    | bad => rw [hz] at q; exact q
    | ex e h1 => rw [hz] at q; exact q
    | ok src h1 =>
      rw [hz] at q
      intro G1 H1 J e1 r1 ⟨V0, hv, M⟩ D hD
      dsimp only at q
      split at q
      · exact q.elim
      · rename_i xs hx
        split at q
        · rename_i hlo
          have e2 := Ext.new (lo := lo) r1 hD (SetO C.w D (fun _ => false) 0)
          have rh2 := r1.new hD (u := SetO C.w D (fun _ => false) 0) (o := .set []) (.set (xs := []) upd_same fun k => rfl)
          have e12 := e1.trans e2
          have c2 : CpW C E (cpB t ft fe ptS (own.map (·.2)) src h1.length (xs.length + 1) 0) V0 h1.length D σ (upd H1 D (SetO C.w D (fun _ => false) 0)) Q := by
            refine ⟨G1.at h1.length D, lo, h1 ++ [.set []], s, rh2, ?_, ?_, ?_, Nat.le_of_ble_eq_true hlo, Loc.at_new, ?_⟩
            · rw [len1]; exact rs.ext e12
            · rw [len1]; exact M.st e2 hv
            · rw [len1]; exact Nat.lt_succ_self _
            · rw [len1]; exact fin.ext e12 q
          refine cp_use (rel := relV C) (Pt := fun D y H Z => ∃ (c : Int) (S : Int → Bool) (n : Nat), y = .int c ∧ H D = some (SetO C.w D S n) ∧ n + 1 < scanBound ∧ Z (upd H D (SetO C.w D (fun j => S j || decide (j = c)) (if S c = true then n else n + 1)))) hvs M (fun _ _ _ c => c) (fun {G lo d h h' H y w Z} rh hd hlo rw' e z => ?_) c2
          unfold ptS at e
          split at e
          · rename_i xs hh
            split at e
            · rename_i c
              split at e
              · rename_i hb
                cases e
                cases rw'
                cases rh.obj _ _ hh with
                | @set _ S _ hl hS =>
                  refine ⟨c, S, xs.length, rfl, hl, Nat.lt_of_lt_of_le (Nat.lt_of_succ_le (Nat.le_of_ble_eq_true hb)) (by decide), z _ ?_ ?_⟩
                  · rw [List.length_set]; exact Ext.put rh hlo hd hl free_set
                  · refine rh.put hd hl free_set (.set ?_ fun j => addS_mem hS j)
                    rw [upd_same, addS_len hS]
              · cases e
            · cases e
          · cases e
        · exact q.elim
/-- len(e), e a set -/
def lenS (f : MF A) : MF A := f.bind fun x => fun _ _ h => match x with
  | .ref i => match h[i]? with
    | some (.set xs) => .ok (.int (xs.length : Int)) h
    | _ => .bad
  | _ => .bad
def rLenS (w : World) : List V → Hp → VK → Prop := fun xs H Q => ∃ a S n, xs = [.ref a] ∧ H a = some (SetO w a S n) ∧ Q (.int (n : Int)) H
theorem call_lenS : CallR X (.builtin "len") (rLenS X.w) := by
  intro pins s σ H xs us Q I r h
  obtain ⟨a, S, n, rfl, ha, q⟩ := h
  obtain ⟨u, rfl, ru⟩ := r.one
  cases ru
  obtain ⟨o, es, ep, t, ho, hex, hd, _, _, _, hb, hf, hn, _⟩ := setO_get I ha
  have hb' : es.size < 2 ^ 62 := Nat.lt_of_lt_of_le hb (by decide)
  exact call_len_set ho hex hd hf (by omega) ⟨.int (n : Int), H, I.tok _, ⟨_, by rw [hn]⟩, q⟩
theorem je_lenS {e : Expr} {fe : MF A} (W : Go X C E k) (hg : Gl X "len") (hm : X.mg "len" = none) (he : PE X e (tE C E fe)) (hs : starEach [e] X.env = (false, eval e X.env) :: starEach [] X.env := by rfl) (hpl : (backTo pos (starEach [] X.env)).any (·.1) = false := by rfl) :
    PE X (.Call (.Name "len" p) [e] [] pos) (tE C E (lenS fe)) :=
  imp (pe_callB call_lenS hg hm PySem.boot_len (pa_cons he pa_nil hs) (by decide) (by decide) hs hpl) fun σ H Q c => Cont.mono (Cont.bind c) fun v H1 ⟨x, c1⟩ => by
    obtain ⟨G, lo, h, s, rh, rs, rv, q⟩ := c1
    obtain ⟨v', e', r⟩ := rvs1 rv
    cases e'
    dsimp only at q
    split at q
    · split at q
      · rename_i xs hh
        cases r with
        | ref hlt =>
          cases rh.obj _ _ hh with
          | set hl hS => exact ⟨_, _, _, rfl, by rw [W.w]; exact hl, fin_val q rh (.int _)⟩
      · exact q.elim
    · exact q.elim
end
end MA

set_option linter.all false
set_option maxRecDepth 100000
namespace MA
open PySem L2 SlX LamX
open PySem.Spec PyProof.Rows

/-! ### list(d.values()), sorted(d.items()) -/
section
variable {X : Cx} {e : Expr} {te : TE} {p apos cpos pos : Pos}
theorem pe_listVals (hc : X.calm = true) (he : PE X e te) (hg : Gl X "list") (hm : X.mg "list" = none) (hv : bootBuiltins "list" = some (.type "list")) (hbase : attributeBase e "values" X.env (eval e X.env) = eval e X.env := by rfl) (hline : (apos.endLine == cpos.line) = true := by rfl)
    (hs : starEach [.Call (.Attribute e "values" apos) [] [] cpos] X.env = (false, eval (.Call (.Attribute e "values" apos) [] [] cpos) X.env) :: starEach [] X.env := by rfl) :
    PE X (.Call (.Name "list" p) [.Call (.Attribute e "values" apos) [] [] cpos] [] pos) (fun σ H Q => te σ H fun x H1 => ∃ (d : Addr) (kvs : List (Key × V)), x = .ref d ∧ H1 d = some (.dK kvs) ∧ ∀ l, H1 l = none → Q (.ref l) (upd H1 l (.lst (kvs.map (·.2))))) := by
  refine ⟨fun pins s σ H Q I hq => ?_⟩
  refine wpAny_Call_Name_kw (ld_blt I hg hm hv ?_)
  refine PyProof.Rows.callWith_type1 ?_ hs rfl
  rw [hs]
  show wpAny _ _ (spliced ((false, eval (.Call (.Attribute e "values" apos) [] [] cpos) X.env) :: backTo pos (starEach [] X.env))) _ _ s
  refine Calls.spliced_cons ?_
  refine wpAny_Call_method (T := "dict") (id := "dict.values") hbase rfl hline PySem.F.plainAttrs_dict PySem.F.slot_dict_values PySem.F.type_dict_values (thn (he.run pins s σ H _ I hq) fun u s1 ⟨x, H1, I1, rx, d, kvs, ex, hd, q⟩ => ?_)
  subst ex
  obtain rfl : u = Value.ref d := rx
  obtain ⟨hz, hs0, vs, kv, hdo⟩ := I1.hok d _ hd
  obtain ⟨ep, hat⟩ := hdo.dictAt
  have lk : kvs.length = vs.length := Paired.length kv
  have I2 : L2.Inv X pins σ H1 { s1 with heap := s1.heap.push { cls := .type "dict_values", data := .fields #[.ref d] } } := I1.kept (t' := s1.toks) fun b ob q => Heap.get?_push_of_some _ q
  refine ⟨hdo.typeIs, hdo.mapOf.noDict, ?_⟩
  show wpAny _ _ (callWith cpos (.builtin "dict.values") [.ref d] [] []) _ X.xe s1
  refine method_meetsIn PySem.F.slot_dict_values PySem.F.entry_dict_values rfl (PySem.evalArgs_none ⟨rfl, hdo.typeIs, PySem.F.args_dict_values_1 _, _, meets_dict_values (mixKind X.prog X.w) d hs0, ⟨vs, hdo⟩, ?_⟩)
  refine Calls.spliced_nil ?_
  refine PySem.W.kdl_call (PySem.W.kdl_values (knd := mixKind X.prog X.w) (kvs := vs) (ep := ep)) (I1.ok.hd hc) ⟨⟨_, Heap.get?_push_size _ rfl, rfl, rfl⟩, hat.push _⟩ (by omega) fun h' tk acc c hk hS hacc => ?_
  generalize hSs : (s1.heap.push { cls := .type "dict_values", data := .fields #[.ref d] }).objs.size = S at hS
  have hp : H1 S = none := by
    rw [← hSs]
    exact I2.hok.fresh (Nat.le_refl _)
  have J : L2.Inv X pins σ (upd H1 S (.lst (kvs.map (·.2)))) { s1 with heap := h', toks := tk } := by
    refine I2.laid (t' := tk) hk (Nat.le_of_eq hSs) ⟨by rw [List.length_map]; omega, acc.toList, c, vals_of_at (by
      have e1 := hacc.1
      have e2 : acc.toList.length = acc.size := Array.length_toList
      rw [List.length_map]
      omega) fun j x w h1 h2 => ?_, by rw [Array.toArray_toList]; exact hS⟩
    obtain ⟨k, hk2⟩ := hacc.2 j w (by rw [← Array.getElem?_toList]; exact h2)
    rw [List.getElem?_map] at h1
    cases h3 : kvs[j]? with
    | none => rw [h3] at h1; cases h1
    | some pk =>
      rw [h3] at h1
      cases h1
      obtain ⟨qv, g1, _, g3⟩ := LiI.paired_get kv h3
      rw [hk2] at g1
      cases g1
      exact g3
  exact ⟨.ref S, _, J, rfl, q S hp⟩
end
def listVals (fo : MF A) : MF A := fo.bind fun x => fun _ _ h => match x with
  | .ref i => match h[i]? with
    | some (.dk kvs) => .ok (.ref h.length) (h ++ [.lst (kvs.map (·.2))])
    | _ => .bad
  | _ => .bad
section
variable {X : Cx} {C : Kn} {E : XK} {k : Nat} {p apos cpos pos : Pos}
theorem rks_vals {κ : Type} {C : Kn} {G : Loc} {n : Nat} {H : Hp} : ∀ {kvs : List (κ × A)} {ks : List (κ × V)}, RKs C G n H kvs ks → RVs C G n H (kvs.map (·.2)) (ks.map (·.2))
  | _, _, .nil => .nil
  | _, _, .cons r t => .cons r.2 (rks_vals t)
theorem je_listVals {e : Expr} {f : MF A} (W : Go X C E k) (he : PE X e (tE C E f)) (hg : Gl X "list") (hm : X.mg "list" = none) (hv : bootBuiltins "list" = some (.type "list") := by rfl) (hbase : attributeBase e "values" X.env (eval e X.env) = eval e X.env := by rfl) (hline : (apos.endLine == cpos.line) = true := by rfl)
    (hs : starEach [.Call (.Attribute e "values" apos) [] [] cpos] X.env = (false, eval (.Call (.Attribute e "values" apos) [] [] cpos) X.env) :: starEach [] X.env := by rfl) :
    PE X (.Call (.Name "list" p) [.Call (.Attribute e "values" apos) [] [] cpos] [] pos) (tE C E (listVals f)) :=
  imp (pe_listVals W.calm he hg hm hv hbase hline hs) fun σ H Q c => Cont.mono (Cont.bind c) fun v H1 ⟨x, c1⟩ => by
    obtain ⟨G, lo, h, s, rh, rs, rv, q⟩ := c1
    obtain ⟨v', e', r⟩ := rvs1 rv
    cases e'
    dsimp only at q
    split at q
    · rename_i i
      cases r with
      | ref hi =>
        split at q
        · rename_i kvs hk
          cases rh.obj _ _ hk with
          | dk ha rk => exact ⟨_, _, rfl, ha, fun l hl => fin_lst q rh (rks_vals rk) hl⟩
        · exact q.elim
    · exact q.elim
end
end MA

set_option linter.all false
set_option maxRecDepth 100000
namespace MA
open PySem L2 SlX LamX
open PySem.Spec PyProof.Rows

section
variable {X : Cx} {p apos cpos pos : Pos}
/-- sorted as tuples of d ints; the heap behind the walk may have grown -/
theorem sorted_tups_grown {pins : List (Addr × Obj)} {s : Shared} {σ : L2.St} {u : Value} {d : Nat} {B : Int} {Q : VK} (hd : 1 ≤ d)
    (hcol : ∀ R : List Value → Shared → Prop, (∀ H xs us s1, L2.Inv X pins σ H s1 → Vals xs us → xs.length < 64 → (∀ x ∈ xs, ∃ ns, TupI X.K H x ns ∧ ns.length = d ∧ TS.Bd B ns) → (∀ (ys : List V) (p : Addr), ys.Perm xs → ys.Pairwise (fun x y => ∀ n m, TupI X.K H x n → TupI X.K H y m → TS.code B n ≤ TS.code B m) → H p = none → Q (.ref p) (upd H p (.lst ys))) → R us s1) →
      wpAny (model X.prog X.w) X.A.in1 (collect u) R X.xe s) :
    wpAny (model X.prog X.w) X.A (call (.builtin "sorted") [u]) (EP X pins σ Q) X.xe s := by
  refine Calls.call_function_entry PyProof.Rows.kind_sorted PyProof.Rows.plain_sorted PyProof.Rows.entry_sorted (PyProof.Rows.args_sorted1 _) ?_
  unfold Builtin.«sorted»
  refine wpAny_bind (m := checkCount "sorted" 1 1 _) (wpAny_pure (wpAny_bind (hcol _ fun H xs us s1 I1 rv h64 hx q => ?_)))
  have hl : us.length < 64 := by
    rw [← rv.length]
    exact h64
  have hl2 : us.length ≤ sizeLine := by
    rw [sizeLine_eq]
    omega
  obtain ⟨e1, e2⟩ := bkV_refs rv fun x m => by
    obtain ⟨ns, ⟨t, e, _⟩, _⟩ := hx x m
    exact ⟨t, e⟩
  refine wpAny_bind (wpAny_newList ?_ hl2)
  have at0 : (s1.heap.push (seqObj "list" us.toArray 0)).get? s1.heap.objs.size = some (seqObj "list" us.toArray 0) := Heap.get?_push_size _ rfl
  show wpAny _ _ _ _ _ { s1 with heap := s1.heap.push (seqObj "list" us.toArray 0) }
  have tk : TS.TupsOk s1.heap d B us := fun v hv => by
    obtain ⟨t, rfl⟩ := e2 v hv
    have hm : V.ref t ∈ xs := by
      rw [e1]
      exact List.mem_map.mpr ⟨_, hv, rfl⟩
    obtain ⟨ns, ⟨t', e, ht⟩, hn, hb⟩ := hx _ hm
    cases e
    exact ⟨ns, tupI_raw I1 ht, hn, hb⟩
  refine wpAny_bind (wpAny_holding (wpAny_call_entry PyProof.Rows.slot_list_sort ⟨_, at0, rfl⟩ PyProof.Rows.entry_list_sort
    (TS.sort_tups (s := { s1 with heap := s1.heap.push (seqObj "list" us.toArray 0) }) at0 hl hd (tk.keeps fun b o e _ => Heap.get?_push_of_some _ e) (fun v => TS.code B (TS.intsOf s1.heap v)) (fun v hv ns t => ?_) fun out o1 o2 => ⟨_, rfl, ?_⟩) (PyProof.Rows.args_list_sort _)))
  · obtain ⟨ns0, t0, _⟩ := tk v hv
    have e : ns = ns0 := t.ints.symm.trans (t0.keeps fun b o e _ => Heap.get?_push_of_some _ e).ints
    rw [e]
    show TS.code B (TS.intsOf s1.heap v) = TS.code B ns0
    rw [t0.ints]
  · obtain ⟨e', he'⟩ := PyProof.Rows.sortedHeap_at (vs := us) (out := out) at0
    have h3 : ∀ w ∈ out.toList, ∃ a, w = Value.ref a := fun w hw => e2 w (o1.mem_iff.mp hw)
    have hp : (out.toList.map bkV).Perm xs := by
      rw [e1]
      exact o1.map bkV
    have hlen : (out.toList.map bkV).length ≤ sizeLine := by
      rw [hp.length_eq, sizeLine_eq]
      omega
    refine wpAny_pure ⟨_, rfl, .ref s1.heap.objs.size, upd H s1.heap.objs.size (.lst (out.toList.map bkV)), I1.laid (t' := s1.toks) (fun b w e => ?_) (Nat.le_refl _) ⟨hlen, out.toList, e', bkV_vals h3, by rw [Array.toArray_toList]; exact he'⟩, rfl, q _ _ hp ?_ (I1.hok.fresh (Nat.le_refl _))⟩
    · have hb : b < s1.heap.objs.size := Heap.lt_size e
      rw [PyProof.Rows.sortedHeap_old (Nat.ne_of_lt hb) (by rw [size_push']; exact Nat.lt_succ_of_lt hb)]
      exact Heap.get?_push_of_some _ e
    · rw [List.pairwise_map]
      refine List.Pairwise.imp (fun {y z} hyz n m hn hm => ?_) o2
      obtain ⟨t, et, ht⟩ := hn
      obtain ⟨t', et', ht'⟩ := hm
      have i1 : TS.intsOf s1.heap y = n := by
        rw [bkV_ref et]
        exact (tupI_raw I1 ht).ints
      have i2 : TS.intsOf s1.heap z = m := by
        rw [bkV_ref et']
        exact (tupI_raw I1 ht').ints
      rw [← i1, ← i2]
      exact hyz
/-- the pairs laid as tuples, nothing else -/
theorem pairs_laid {pins : List (Addr × Obj)} {σ : L2.St} {H : Hp} {s : Shared} {h' : Heap} {tk : Nat} {lo : Addr} {kvs : List (Key × V)} {vs : List (Key × Value)} {as : List Addr} (I : L2.Inv X pins σ H s) (kv : KV kvs vs)
    (hk : ∀ b o, s.heap.get? b = some o → h'.get? b = some o) (hlo : s.heap.objs.size ≤ lo) (hl : as.length = vs.length) (hG : PySem.W.KdxG (mixKind X.prog X.w) vs lo h' as) :
    (∀ b o, H b = some o → LiI.putT H as kvs b = some o) ∧ Paired (fun (t : Addr) (q : Key × V) => LiI.putT H as kvs t = some (.tup [kV q.1, q.2])) as kvs ∧ L2.Inv X pins σ (LiI.putT H as kvs) { s with heap := h', toks := tk } := by
  have lk : kvs.length = vs.length := Paired.length kv
  have nd : as.Nodup := List.Pairwise.imp (fun {a b} (h : a < b) => Nat.ne_of_lt h) hG.rise
  have new : ∀ t ∈ as, H t = none := fun t ht => I.hok.fresh (Nat.le_trans hlo (Nat.le_of_lt (hG.above t ht)))
  have atP := LiI.putT_at as kvs H (by omega) nd
  have off : ∀ b, b ∉ as → LiI.putT H as kvs b = H b := fun b h1 => LiI.putT_off as kvs _ h1
  have low : ∀ b o, s.heap.get? b = some o → b ∉ as := fun b o e z => absurd (Heap.lt_size e) (Nat.not_lt.mpr (Nat.le_trans hlo (Nat.le_of_lt (hG.above b z))))
  have kp : ∀ b u, H b = some u → LiI.putT H as kvs b = some u := fun b u e => by
    rw [off b fun z => by rw [new b z] at e; cases e]
    exact e
  refine ⟨kp, atP, ?_⟩
  refine I.call' (ch := []) rfl ⟨fun b o q _ _ _ => hk b o q, fun b o q _ _ _ => ⟨o.slots, hk b o q⟩, fun b o q n _ => ?_, fun b o q _ => ⟨o, hk b o q⟩, fun b xs q => kp b _ q, fun b o u q => kp b _ q, fun b ps q => ⟨#[], by rw [kp b _ q]; simp⟩⟩ (fun b u q => ?_) I.bare fun b z => by simp at z
  · rw [off b (low b o q)]
    exact n
  · by_cases hb : b ∈ as
    · obtain ⟨j, pk, e1, e2, e3⟩ := LiI.paired_ix atP hb
      rw [e3] at q
      cases q
      obtain ⟨key, k, x, f1, f2, f3⟩ := hG.pairs j b e1
      obtain ⟨qv, g1, g2, g3⟩ := LiI.paired_get kv e2
      rw [f1] at g1
      cases g1
      have rk : L2.RelV (kV pk.1) key := by
        rw [g2]
        exact keyIs_rel (show keyIs k key = true from f2)
      exact ⟨by show 2 ≤ sizeLine; decide, [key, x], .cons rk (.cons g3 .nil), ⟨_, f3, rfl, _, rfl⟩⟩
    · rw [off b hb] at q
      exact (I.hok b u q).stay (fun d v _ y => hk d v y) (fun d y => kp d _ y) fun d xs y => kp d _ y
theorem pe_sortItems {e : Expr} {te : TE} (hc : X.calm = true) (he : PE X e te) (hg : Gl X "sorted") (hm : X.mg "sorted" = none) (hv : bootBuiltins "sorted" = some (.builtin "sorted")) (hbase : attributeBase e "items" X.env (eval e X.env) = eval e X.env := by rfl) (hline : (apos.endLine == cpos.line) = true := by rfl)
    (hs : starEach [.Call (.Attribute e "items" apos) [] [] cpos] X.env = (false, eval (.Call (.Attribute e "items" apos) [] [] cpos) X.env) :: starEach [] X.env := by rfl) :
    PE X (.Call (.Name "sorted" p) [.Call (.Attribute e "items" apos) [] [] cpos] [] pos) (fun σ H Q => te σ H fun x H1 => ∃ (a : Addr) (kvs : List (Key × V)) (d : Nat) (B : Int), x = .ref a ∧ H1 a = some (.dK kvs) ∧ 1 ≤ d ∧ kvs.length < 64 ∧
      ∀ (H' : Hp) (ts : List Addr), (∀ b o, H1 b = some o → H' b = some o) → Paired (fun (t : Addr) (q : Key × V) => H' t = some (.tup [kV q.1, q.2])) ts kvs →
        (∀ t ∈ ts, ∃ ns, TupI X.K H' (.ref t) ns ∧ ns.length = d ∧ TS.Bd B ns) ∧
        ∀ (ys : List V) (p : Addr), ys.Perm (ts.map V.ref) → ys.Pairwise (fun x y => ∀ n m, TupI X.K H' x n → TupI X.K H' y m → TS.code B n ≤ TS.code B m) → H' p = none → Q (.ref p) (upd H' p (.lst ys))) := by
  refine ⟨fun pins s σ H Q I hq => ?_⟩
  refine wpAny_Call_Name_kw (ld_blt I hg hm hv ?_)
  refine Calls.callWith_builtin ?_ (Calls.evalArgs_plain ?_)
  · rw [hs] <;> rfl
  show wpAny _ _ (spliced ((false, eval (.Call (.Attribute e "items" apos) [] [] cpos) X.env) :: backTo pos (starEach [] X.env))) _ _ s
  refine Calls.spliced_cons ?_
  refine wpAny_Call_method (T := "dict") (id := "dict.items") hbase rfl hline PySem.F.plainAttrs_dict PySem.F.slot_dict_items PySem.F.type_dict_items (thn (he.run pins s σ H _ I hq) fun u s1 ⟨x, H1, I1, rx, a, kvs, d, B, ex, hd, h1, h64, q⟩ => ?_)
  subst ex
  obtain rfl : u = Value.ref a := rx
  obtain ⟨hz, hs0, vs, kv, hdo⟩ := I1.hok a _ hd
  obtain ⟨ep, hat⟩ := hdo.dictAt
  have lk : kvs.length = vs.length := Paired.length kv
  have I2 : L2.Inv X pins σ H1 { s1 with heap := s1.heap.push { cls := .type "dict_items", data := .fields #[.ref a] } } := I1.kept (t' := s1.toks) fun b ob q => Heap.get?_push_of_some _ q
  refine ⟨hdo.typeIs, hdo.mapOf.noDict, ?_⟩
  show wpAny _ _ (callWith cpos (.builtin "dict.items") [.ref a] [] []) _ X.xe s1
  refine method_meetsIn PySem.F.slot_dict_items PySem.F.entry_dict_items rfl (PySem.evalArgs_none ⟨rfl, hdo.typeIs, PySem.F.args_dict_items_1 _, _, meets_dict_items (mixKind X.prog X.w) a hs0, ⟨vs, hdo⟩, ?_⟩)
  refine Calls.spliced_nil ?_
  refine sorted_tups_grown (d := d) (B := B) h1 fun R k => ?_
  refine PySem.W.kdx_collect (knd := mixKind X.prog X.w) (kvs := vs) (ep := ep) (I1.ok.hd hc) ⟨_, Heap.get?_push_size _ rfl, rfl, rfl⟩ (hat.push _) (by omega) fun h' tk as hk hl hG => ?_
  obtain ⟨k1, k2, J⟩ := pairs_laid (tk := tk) I2 kv hk (Nat.le_refl _) hl hG
  obtain ⟨q1, q2⟩ := q _ as k1 k2
  refine k _ (as.map V.ref) _ _ J (LiI.vals_refs as) (by rw [List.length_map, hl, ← lk]; exact h64) (fun x hx => ?_) q2
  obtain ⟨t, ht, rfl⟩ := List.mem_map.mp hx
  exact q1 t ht
end
def pairsI : List (Key × A) → Option (List (List Int))
  | [] => some []
  | p :: ps => match p.1, p.2 with
    | .inl i, .int j => match pairsI ps with
      | some r => some ([i, j] :: r)
      | none => none
    | _, _ => none
/-- sorted(d.items()), keys and values ints -/
def sortItems (fo : MF A) : MF A := fo.bind fun x => fun _ _ h => match x with
  | .ref i => match h[i]? with
    | some (.dk kvs) => match pairsI kvs with
      | some L => match sortTs L with
        | some zs => .ok (.ref h.length) (h ++ [.lst zs])
        | none => .bad
      | none => .bad
    | _ => .bad
  | _ => .bad
section
variable {X : Cx} {C : Kn} {E : XK} {k : Nat} {p apos cpos pos : Pos}
theorem pairsI_len : ∀ {kvs : List (Key × A)} {L : List (List Int)}, pairsI kvs = some L → kvs.length = L.length
  | [], _, e => by cases e; rfl
  | p :: ps, _, e => by
    unfold pairsI at e
    split at e
    · split at e
      · rename_i r hr
        cases e
        rw [List.length_cons, List.length_cons, pairsI_len hr]
      · cases e
    · cases e
theorem pairs_tups {G : Loc} {n : Nat} {H H' : Hp} : ∀ {kvs : List (Key × A)} {ks : List (Key × V)} {ts : List Addr} {L : List (List Int)}, RKs C G n H kvs ks → Paired (fun (t : Addr) (q : Key × V) => H' t = some (.tup [kV q.1, q.2])) ts ks → pairsI kvs = some L → Paired (TupH H') (ts.map V.ref) L
  | [], _, _, _, r, b, e => by
    cases r
    cases b
    cases e
    exact .nil
  | p :: ps, _, _, _, r, b, e => by
    cases r with
    | cons r rt =>
      cases b with
      | cons b bt =>
        unfold pairsI at e
        split at e
        · rename_i i j h1 h2
          split at e
          · rename_i r' hr
            cases e
            refine .cons ⟨_, rfl, ?_⟩ (pairs_tups rt bt hr)
            obtain ⟨r1, r2⟩ := r
            rw [h2] at r2
            rw [b, ← r1, h1]
            cases hq : (Prod.snd _ : V)
            all_goals first
              | (rw [hq] at r2; cases r2; rfl)
              | (rw [hq] at r2; cases r2)
          · cases e
        · cases e
theorem je_sortItems {e : Expr} {f : MF A} (W : Go X C E k) (he : PE X e (tE C E f)) (hg : Gl X "sorted") (hm : X.mg "sorted" = none) (hv : bootBuiltins "sorted" = some (.builtin "sorted") := by rfl) (hbase : attributeBase e "items" X.env (eval e X.env) = eval e X.env := by rfl) (hline : (apos.endLine == cpos.line) = true := by rfl)
    (hs : starEach [.Call (.Attribute e "items" apos) [] [] cpos] X.env = (false, eval (.Call (.Attribute e "items" apos) [] [] cpos) X.env) :: starEach [] X.env := by rfl) :
    PE X (.Call (.Name "sorted" p) [.Call (.Attribute e "items" apos) [] [] cpos] [] pos) (tE C E (sortItems f)) :=
  imp (pe_sortItems W.calm he hg hm hv hbase hline hs) fun σ H Q c => Cont.mono (Cont.bind c) fun v H1 ⟨x, c1⟩ => by
    obtain ⟨G, lo, h, s, rh, rs, rv, q⟩ := c1
    obtain ⟨v', e', r⟩ := rvs1 rv
    cases e'
    dsimp only at q
    split at q
    · rename_i i
      cases r with
      | ref hi =>
        split at q
        · rename_i kvs hk
          split at q
          · rename_i L hL
            split at q
            · rename_i zs hz
              obtain ⟨d, hd, hl, hb, rfl⟩ := sortTs_of hz
              cases rh.obj _ _ hk with
              | @dk _ ks _ ha rk =>
                refine ⟨_, ks, d, mostOf L, rfl, ha, hd, ?_, fun H' ts kp pr => ?_⟩
                · rw [← Paired.length rk, pairsI_len hL]
                  exact hl
                · have pt := pairs_tups rk pr hL
                  refine ⟨fun t ht => ?_, fun ys p h1 h2 h3 => ?_⟩
                  · obtain ⟨ns, m, tt⟩ := paired_mem pt (.ref t) (List.mem_map.mpr ⟨t, ht, rfl⟩)
                    exact ⟨ns, tt.of, hb ns m⟩
                  · have e1 : Ext lo h.length G H1 h.length G H' := Ext.grow kp rh
                    exact fin_lst (fin.ext e1 q) (rh.grow kp) (tups_out pt hb h1 h2) h3
            · exact q.elim
          · exact q.elim
        · exact q.elim
    · exact q.elim
end
end MA

set_option linter.all false
set_option maxRecDepth 100000
namespace MA
open PySem L2 SlX LamX
open PySem.Spec PyProof.Rows

/-! ### generators that hand out nothing (they end, or raise at their first step), in list(..) -/
def finG (C : Kn) (E : XK) (G : Loc) (lo n : Nat) (H : Hp) (r : R A) (Q : List V → Hp → Prop) : Prop := match r with
  | .ok _ h' => ∀ G' H', Ext lo n G H h'.length G' H' → Rh C G' h' H' → Q [] H'
  | .ex e h' => ∀ G' H' c d, Ext lo n G H h'.length G' H' → Rh C G' h' H' → RX C G' h'.length H' e c d → E c d H'
  | .bad => False
def spGF (C : Kn) (m : Nat) (f : AF) : SpG := fun vs H Q E => vs.length = m ∧ ∃ (G : Loc) (lo : Nat) (h : Hs) (xs : List A), Rh C G h H ∧ RVs C G h.length H xs vs ∧ finG C E G lo h.length H (f xs lo h) Q
def bodyGn (n : Nat) (b : MF Fl) : AF := fun xs lo h => match b lo (startA n xs) h with
  | .ok (.nx _) h' => .ok .non h'
  | .ok (.rt .non) h' => .ok .non h'
  | .ok _ _ => .bad
  | .ex e h' => .ex e h'
  | .bad => .bad
/-- a generator def keeps to its mirror -/
structure GnM (P : Program) (w : World) (K : PySem.W.Frag) (mg : Str → Option Value) (base : Heap) (C : Kn) (k : Nat) (a : Addr) (m : Nat) (f : AF) : Prop where
  ok : ∃ (fd : FuncData) (ps : List Str), GFn P w K mg base k a fd ps (spGF C m f) ∧ Binds K fd ps []
section
variable {P : Program} {w : World} {K : PySem.W.Frag} {mg : Str → Option Value} {base : Heap} {C : Kn}
theorem gn_okM {x qual : Str} {st : Stmt} {fa : Addr} {N ps : List Str} {k m : Nat} {b : MF Fl} {oc : Value} {od an : Option Addr} {osl : Array (Option Value)} {kV doc pm cdv ct : Value}
    (l : K.lookup fa = some ⟨oc, od, .func (PySem.W.fnOf x qual (defArgs st) (defBody st) (defScope st) .none kV doc pm an cdv ct), osl⟩) (c : PySem.W.codeIn K cdv qual = true) (S : GScope N ps (defScope st)) (hb : Binds K (PySem.W.fnOf x qual (defArgs st) (defBody st) (defScope st) .none kV doc pm an cdv ct) ps []) (hK : K = C.K) (hw : w = C.w) (hm : ps.length = m)
    (body : ∀ (A : Around) (outer : List Env) (s : Shared) (H : Hp) (E : XK) (pn : List (Addr × Obj)), Go (gcxOf P w K mg base N qual (defScope st) fa cdv A outer s H E pn) C E k → Takes (gcxOf P w K mg base N qual (defScope st) fa cdv A outer s H E pn) (fun cls d _ H => E cls d H) → PSs (gcxOf P w K mg base N qual (defScope st) fa cdv A outer s H E pn) (defBody st) (tS C E b)) :
    GnM P w K mg base C (k + 1) fa m (bodyGn N.length b) := by
  subst hm
  refine ⟨_, ps, gfn_of l c S (fun vs H Q E h => h.1) fun A outer s H vs Q E pn hr h => ?_, hb⟩
  have tk : Takes (gcxOf P w K mg base N qual (defScope st) fa cdv A outer s H E pn) (fun cls d _ H => E cls d H) := takes_gcx
  have pp : Passes (L2.CX P w) (gcxOf P w K mg base N qual (defScope st) fa cdv A outer s H E pn) E := passes_call tk fun _ _ _ _ h => h
  refine ⟨_, gss_pss (body A outer s H E pn ⟨hK, hw, rfl, hr, pp, S.nd⟩ tk), ?_⟩
  obtain ⟨hl, G, lo, h, xs, rh, rv, q⟩ := h
  refine ⟨G, lo, h, startA N.length xs, rh, rs_start rv, .nil, ?_⟩
  unfold bodyGn at q
  cases hz : b lo (startA N.length xs) h with
  | bad => rw [hz] at q; exact q
  | ex e h' => rw [hz] at q; exact q
  | ok fl h' =>
    rw [hz] at q
    cases fl with
    | nx s' => exact fun G' H' σ' e r rs => q G' H' e r
    | rt x =>
      cases x with
      | non =>
        intro G' H' v e r rv
        cases rv
        exact ⟨rfl, q G' H' e r⟩
      | _ => exact q.elim
    | bk s => exact q.elim
    | ct s => exact q.elim
end
/-- list(f(..)), f such a generator def; cs: the classes that are no StopIteration -/
def listGn (cs : List Nat) (f : AF) (fs : MF (List A)) : MF A := fs.bind fun xs => fun lo _ h => match f xs lo h with
  | .ok _ h' => .ok (.ref h'.length) (h' ++ [.lst []])
  | .ex e h' => if cs.contains e.cls then .ex e h' else .bad
  | .bad => .bad
section
variable {X : Cx} {C : Kn} {E : XK} {k j : Nat} {p p2 pos pos2 : Pos}
theorem je_listGn {x : Str} {g m : Nat} {f : AF} {fs : MF (List A)} {e : Expr} {es : List Expr} {cs : List Nat} (W : Go X C E k) (F : GnM X.prog X.w X.K X.mg X.base C j (C.gt g) m f) (hj : j + 3 ≤ k) (hg : Gl X x) (hm : X.mg x = some (.ref (C.gt g))) (hk : PySem.W.keepIn X.K (.ref (C.gt g)) = true) (ha : PA X (e :: es) (tA C E fs)) (hgl : Gl X "list") (hml : X.mg "list" = none)
    (hcs : ∀ c ∈ cs, PySem.W.subIn X.K (.ref (C.gt c)) (.type "StopIteration") = some false) (hv : bootBuiltins "list" = some (.type "list") := by rfl) (hdb : (x == ("__debug__" : Str)) = false := by decide)
    (he : starEach (e :: es) X.env = (false, eval e X.env) :: starEach es X.env := by rfl) (hpl : (backTo pos (starEach es X.env)).any (·.1) = false := by rfl) (he2 : starEach [.Call (.Name x p) (e :: es) [] pos] X.env = (false, eval (.Call (.Name x p) (e :: es) [] pos) X.env) :: starEach [] X.env := by rfl) :
    PE X (.Call (.Name "list" p2) [.Call (.Name x p) (e :: es) [] pos] [] pos2) (tE C E (listGn cs (lenF m f) fs)) := by
  obtain ⟨fd, ps, F, hb⟩ := F.ok
  have E' : XK := fun c d H => E c d H ∧ PySem.W.subIn X.K c (.type "StopIteration") = some false
  have pp : Passes (L2.CX X.prog X.w) X (fun c d H => E c d H ∧ PySem.W.subIn X.K c (.type "StopIteration") = some false) := fun pins σ H s e s' I c => W.pass pins σ H s e s' I (by
    obtain ⟨a, B, H', cls, d, z1, fl, z2, ub, z3, z4, z5, z6⟩ := c
    exact ⟨a, B, H', cls, d, z1, fl, z2, ub, z3, z4, z5, z6.1⟩)
  refine imp (pe_listG (pgen_call (E := fun c d H => E c d H ∧ PySem.W.subIn X.K c (.type "StopIteration") = some false) F (W.room.mono (by omega)) hg hm hk hb .nil ha hdb he hpl) pp (fun c d H h => h.2) (W.room.mono hj) hgl hml hv (by decide) (by decide) he2) fun σ H Q c => ?_
  show tA C E fs σ H fun vs H1 => spGF C m f (vs ++ []) H1 (fun out H2 => ∀ p, H2 p = none → Q (.ref p) (upd H2 p (.lst out))) _
  refine Cont.mono (Cont.bindA c) fun vs H1 ⟨xs, c1⟩ => ?_
  obtain ⟨G, lo, h, s, rh, rs, rv, q⟩ := c1
  rw [List.append_nil, List.append_nil] at rv
  rw [List.append_nil]
  dsimp only at q
  unfold lenF at q
  by_cases hl : Nat.beq xs.length m = true
  · rw [if_pos hl] at q
    refine ⟨by rw [← rv.length]; exact Nat.eq_of_beq_eq_true hl, G, lo, h, xs, rh, rv, ?_⟩
    cases hz : f xs lo h with
    | bad => rw [hz] at q; exact q
    | ok y h' =>
      rw [hz] at q
      intro G' H' e1 r1 p hp
      exact fin_lst (fin.ext e1 q) r1 .nil hp
    | ex e h' =>
      rw [hz] at q
      dsimp only at q
      split at q
      · rename_i hc
        intro G' H' c d e1 r1 rx
        exact ⟨q G' H' c d e1 r1 rx, by rw [rx.1]; exact hcs e.cls (by simpa using hc)⟩
      · exact q.elim
  · rw [if_neg hl] at q
    exact q.elim
end
end MA

set_option linter.all false
set_option maxRecDepth 100000
namespace MA
open PySem L2 SlX LamX
open PySem.Spec PyProof.Rows

/-! ### what the written part says of a def; its body's context -/
structure DefAt (K : PySem.W.Frag) (x qual : Str) (st : Stmt) (a : Addr) : Prop where
  ok : ∃ (oc kV doc pm cdv ct : Value) (od an : Option Addr) (osl : Array (Option Value)), K.lookup a = some ⟨oc, od, .func (PySem.W.fnOf x qual (defArgs st) (defBody st) (defScope st) .none kV doc pm an cdv ct), osl⟩ ∧ PySem.W.codeIn K cdv qual = true
theorem Go.blk {X : Cx} {C : Kn} {E : XK} {k : Nat} (W : Go X C E k) {s : Shared} {H : Hp} {scope : Scope} {ce : Env} {fp : List Addr} : Go (X.blk s H scope ce fp) C EF k :=
  ⟨W.K, W.w, W.calm, W.room, fun pins σ H s e s' I c => by
    obtain ⟨a, B, H', cls, d, z1, fl, z2, ub, z3, z4, z5, z6⟩ := c
    exact z6.elim, W.nd⟩
/-- all that is known where a def's body runs -/
structure At (X : Cx) (C : Kn) (E : XK) (k : Nat) : Prop where
  W : Go X C E k
  tk : Takes X fun cls d _ H => E cls d H
  own : PassesOwn (model X.prog X.w) X.A X.env X.xe
section
variable {P : Program} {w : World} {K : PySem.W.Frag} {mg : Str → Option Value} {base : Heap} {C : Kn}
theorem DefAt.fn {x qual : Str} {st : Stmt} {fa : Addr} {N ps : List Str} {k m : Nat} {b : MF Fl} (D : DefAt K x qual st fa) (S : FnScope N ps (defScope st))
    (hb : ∀ (kV doc pm cdv ct : Value) (an : Option Addr) (us : List Value), us.length = ps.length → bindArgs (PySem.W.fnOf x qual (defArgs st) (defBody st) (defScope st) .none kV doc pm an cdv ct) ⟨us, []⟩ = pure (ps.zip us)) (hK : K = C.K) (hw : w = C.w) (hm : ps.length = m)
    (body : ∀ (cdv : Value) (A : Around) (outer : List Env) (s : Shared) (H : Hp) (E : XK), At (cxOf (L2.CX P w) P w K mg base N qual (defScope st) fa cdv A outer s H E) C E k → PSs (cxOf (L2.CX P w) P w K mg base N qual (defScope st) fa cdv A outer s H E) (defBody st) (tS C E b)) :
    FnM P w K mg base C (k + 1) fa m (bodyF N.length b) := by
  obtain ⟨oc, kV, doc, pm, cdv, ct, od, an, osl, l, c⟩ := D.ok
  refine fn_okM l c S (Binds.all (hb kV doc pm cdv ct an)) hK hw hm fun A outer s H E W tk => body cdv A outer s H E ⟨W, tk, ?_⟩
  exact passes_of (X := cxOf (L2.CX P w) P w K mg base N qual (defScope st) fa cdv A outer s H E) (K := fun e s'' => L2.CX P w outer H s E e s'') rfl
theorem DefAt.gn {x qual : Str} {st : Stmt} {fa : Addr} {N ps : List Str} {k m : Nat} {b : MF Fl} (D : DefAt K x qual st fa) (S : GScope N ps (defScope st))
    (hb : ∀ (kV doc pm cdv ct : Value) (an : Option Addr) (us : List Value), us.length = ps.length → bindArgs (PySem.W.fnOf x qual (defArgs st) (defBody st) (defScope st) .none kV doc pm an cdv ct) ⟨us, []⟩ = pure (ps.zip us)) (hK : K = C.K) (hw : w = C.w) (hm : ps.length = m)
    (body : ∀ (cdv : Value) (A : Around) (outer : List Env) (s : Shared) (H : Hp) (E : XK) (pn : List (Addr × Obj)), At (gcxOf P w K mg base N qual (defScope st) fa cdv A outer s H E pn) C E k → PSs (gcxOf P w K mg base N qual (defScope st) fa cdv A outer s H E pn) (defBody st) (tS C E b)) :
    GnM P w K mg base C (k + 1) fa m (bodyGn N.length b) := by
  obtain ⟨oc, kV, doc, pm, cdv, ct, od, an, osl, l, c⟩ := D.ok
  refine gn_okM l c S (Binds.all (hb kV doc pm cdv ct an)) hK hw hm fun A outer s H E pn W tk => body cdv A outer s H E pn ⟨W, tk, owns_gcx⟩
end
end MA

set_option linter.all false
set_option maxRecDepth 100000
namespace MA
open PySem L2 SlX LamX
open PySem.Spec PyProof.Rows
/-- an own exception class without an own __init__, by its name -/
structure Exn0 (K : PySem.W.Frag) (mg : Str → Option Value) (C : Kn) (x : Str) (c : Nat) : Prop where
  base : ∃ (B newId initId : String) (bmB : List Value), ExcBaseFacts B newId initId bmB ∧ PySem.W.excIn K (C.gt c) bmB newId = true
  m : mg x = some (.ref (C.gt c))
  kp : PySem.W.keepIn K (.ref (C.gt c)) = true
  sub : PySem.W.subIn K (.ref (C.gt c)) (.type "BaseException") = some true
  ty : PySem.W.typeIn K (.ref (C.gt c)) = some (.type "type")
/-- a def whose code object is told -/
structure DefC (K : PySem.W.Frag) (x qual : Str) (st : Stmt) (a cd : Addr) : Prop where
  ok : ∃ (oc kV doc pm ct : Value) (od an : Option Addr) (osl : Array (Option Value)), K.lookup a = some ⟨oc, od, .func (PySem.W.fnOf x qual (defArgs st) (defBody st) (defScope st) .none kV doc pm an (.ref cd) ct), osl⟩ ∧ PySem.W.codeIn K (.ref cd) qual = true
section
variable {X : Cx} {C : Kn} {E : XK} {k : Nat}
theorem je_gintx {i : Int} {x : Str} {pos : Pos} (hg : Gl X x) (hm : ∃ t, X.mg x = some (.int i t)) (hd : (x == ("__debug__" : Str)) = false := by decide) : PE X (.Name x pos) (tE C E (cA (.int i))) := by
  obtain ⟨t, h⟩ := hm
  exact je_gint hg h hd
theorem jt_never {e : Expr} : PT X e (tT C E fun _ _ _ => .bad) := ⟨fun _ _ _ _ _ _ c => by
  obtain ⟨G, lo, h, s, rh, rs, rv, f⟩ := c
  exact f.elim⟩
theorem Exn0.mk' {x : Str} {c : Nat} (T : Exn0 X.K X.mg C x c) (hg : Gl X x) {m : Str} {j : Nat} {p p2 pos : Pos} (hdb : (x == ("__debug__" : Str)) = false := by decide) :
    PMk X (.Call (.Name x p) [.Constant (.str m) j p2] [] pos) (fun _ H Q => Q (.ref (C.gt c)) none H) := by
  obtain ⟨B, newId, initId, bmB, F, q⟩ := T.base
  exact pmk_own F q T.m T.kp (raises_own T.sub T.ty) hg hdb
end
section
variable {P : Program} {w : World} {K : PySem.W.Frag} {mg : Str → Option Value} {base : Heap} {C : Kn}
theorem DefC.fn {x qual : Str} {st : Stmt} {fa cd : Addr} {N ps : List Str} {k m : Nat} {b : MF Fl} (D : DefC K x qual st fa cd) (S : FnScope N ps (defScope st))
    (hb : ∀ (kV doc pm cdv ct : Value) (an : Option Addr) (us : List Value), us.length = ps.length → bindArgs (PySem.W.fnOf x qual (defArgs st) (defBody st) (defScope st) .none kV doc pm an cdv ct) ⟨us, []⟩ = pure (ps.zip us)) (hK : K = C.K) (hw : w = C.w) (hm : ps.length = m)
    (body : ∀ (A : Around) (outer : List Env) (s : Shared) (H : Hp) (E : XK), At (cxOf (L2.CX P w) P w K mg base N qual (defScope st) fa (.ref cd) A outer s H E) C E k → PSs (cxOf (L2.CX P w) P w K mg base N qual (defScope st) fa (.ref cd) A outer s H E) (defBody st) (tS C E b)) :
    FnM P w K mg base C (k + 1) fa m (bodyF N.length b) := by
  obtain ⟨oc, kV, doc, pm, ct, od, an, osl, l, c⟩ := D.ok
  refine fn_okM l c S (Binds.all (hb kV doc pm (.ref cd) ct an)) hK hw hm fun A outer s H E W tk => body A outer s H E ⟨W, tk, ?_⟩
  exact passes_of (X := cxOf (L2.CX P w) P w K mg base N qual (defScope st) fa (.ref cd) A outer s H E) (K := fun e s'' => L2.CX P w outer H s E e s'') rfl
end
/-- a, b = a pair, stored one behind the other -/
def g2 (i j : Nat) : MG := tupG 2 (consG (nameG i) (consG (nameG j) nilG))
theorem g2_list {i j : Nat} : ∀ (xs : List A) (s : Sl) (h : Hs), (∃ s', consG (nameG i) (consG (nameG j) nilG) xs s h = .ok s' h) ∨ consG (nameG i) (consG (nameG j) nilG) xs s h = .bad
  | [], _, _ => .inr rfl
  | [_], _, _ => .inr rfl
  | [_, _], _, _ => .inl ⟨_, rfl⟩
  | _ :: _ :: _ :: _, _, _ => .inr rfl
theorem g2_all {i j : Nat} (x : A) (s : Sl) (h : Hs) : (∃ s', g2 i j x s h = .ok s' h) ∨ g2 i j x s h = .bad := by
  unfold g2 tupG
  cases x with
  | tup xs =>
    dsimp only
    split
    · exact g2_list xs s h
    · exact .inr rfl
  | ftup xs =>
    dsimp only
    split
    · exact g2_list xs s h
    · exact .inr rfl
  | _ => exact .inr rfl
theorem nameG_h {i : Nat} : ∀ x s h s' h', nameG i x s h = .ok s' h' → h' = h := fun x s h s' h' e => by
  unfold nameG at e
  cases e
  rfl
section
variable {X : Cx} {C : Kn} {E : XK} {k : Nat}
theorem js_two {i j : Nat} {x y : Str} {e : Expr} {f : MF A} {px py pt pos : Pos} {kt : Nat} (W : Go X C E k) (hi : X.N[i]? = some x) (hj : X.N[j]? = some y) (hx : L2.Loc X.env.scope x) (hy : L2.Loc X.env.scope y) (he : PE X e (tE C E f))
    (hf : X.fn x = true ∨ X.env.scope.names.lookup x = some .local := by first | exact .inl rfl | exact .inr rfl | assumption) (hf2 : X.fn y = true ∨ X.env.scope.names.lookup y = some .local := by first | exact .inl rfl | exact .inr rfl | assumption)
    (hs : swapsWithSole [.Tuple [.Name x px, .Name y py] kt pt] e pos.line X.env = pure false := by rfl) (hw : swappedStores [.Tuple [.Name x px, .Name y py] kt pt] e X.env = pure none := by rfl)
    (h1 : (assignEach [.Tuple [.Name x px, .Name y py] kt pt] X.env).map (·.2) = [assign (.Tuple [.Name x px, .Name y py] kt pt) X.env] := by rfl) (h2 : (assignEach [.Name x px, .Name y py] X.env).length = 2 := by rfl) (h3 : (assignEach [.Name x px, .Name y py] X.env).findIdx? (·.1) = none := by rfl)
    (h4 : (assignEach [.Name x px, .Name y py] X.env).map (·.2) = assign (.Name x px) X.env :: (assignEach [.Name y py] X.env).map (·.2) := by rfl) (h5 : (assignEach [.Name y py] X.env).map (·.2) = assign (.Name y py) X.env :: (assignEach [] X.env).map (·.2) := by rfl) :
    PS X (.Assign [.Tuple [.Name x px, .Name y py] kt pt] e pos) (tS C E (tgtS (g2 i j) f)) :=
  js_tgt (fun x s h s' h' e => by
    rcases g2_all (i := i) (j := j) x s h with ⟨s2, z⟩ | z
    · rw [z] at e
      cases e
      rfl
    · rw [z] at e
      cases e) (fun x s h e h' z => by
    rcases g2_all (i := i) (j := j) x s h with ⟨s2, q⟩ | q
    · rw [q] at z
      cases z
    · rw [q] at z
      cases z) he (jg_tup W.K W.calm (jgs_cons nameG_h (jg_name W.nd hi hx hf) (jgs_cons nameG_h (jg_name W.nd hj hy hf2) jgs_nil h5) h4) h2 h3) hs hw h1
/-- a table of defs -/
def TbV (X : Cx) (C : Kn) (k : Nat) (tb : List (Nat × AF)) : Prop := ∀ g f, tb.lookup g = some f → ∃ m f', f = lenF m f' ∧ FnM X.prog X.w X.K X.mg X.base C k (C.gt g) m f' ∧ PySem.W.keepIn X.K (.ref (C.gt g)) = true
theorem tbV_nil : TbV X C k [] := fun _ _ e => nomatch e
theorem tbV_cons {j g m : Nat} {f : AF} {tb : List (Nat × AF)} (F : FnM X.prog X.w X.K X.mg X.base C j (C.gt g) m f) (hj : j ≤ k) (hk : PySem.W.keepIn X.K (.ref (C.gt g)) = true) (t : TbV X C k tb) : TbV X C k ((g, lenF m f) :: tb) := fun g' f' e => by
  rw [List.lookup_cons] at e
  split at e
  · rename_i hg
    have : g' = g := by simpa using hg
    subst this
    cases e
    exact ⟨m, f, rfl, F.mono hj, hk⟩
  · exact t g' f' e
end
end MA

set_option linter.all false
set_option maxRecDepth 100000
namespace MA
open PySem
/-! ### the plain law: steps of a mirror by equations -/
def Ret (x : A) (r : R Fl) : Prop := ∃ h', r = .ok (.rt x) h'
def retV : R Fl → Option A
  | .ok (.rt x) _ => some x
  | _ => none
theorem ret_of {x : A} {r : R Fl} (e : retV r = some x) : Ret x r := by
  cases r with
  | ok f h =>
    cases f with
    | rt y => cases e; exact ⟨h, rfl⟩
    | nx s => cases e
    | bk s => cases e
    | ct s => cases e
  | ex e' h => cases e
  | bad => cases e
/-- what is handed back, and the elder things behind it -/
def retT (m : Nat) : R Fl → Option (A × Hs)
  | .ok (.rt x) h => some (x, h.take m)
  | _ => none
theorem body_ret {n : Nat} {b : MF Fl} {xs : List A} {lo : Nat} {h : Hs} {x : A} (e : Ret x (b lo (startA n xs) h)) : ∃ h', bodyF n b xs lo h = .ok x h' := by
  obtain ⟨h', e⟩ := e
  refine ⟨h', ?_⟩
  unfold bodyF
  rw [e]
theorem step {p q : MF Fl} {lo : Nat} {s s' : Sl} {h h' : Hs} {P : R Fl → Prop} (e : p lo s h = .ok (.nx s') h') (k : P (q lo s' h')) : P (seqS p q lo s h) := by
  unfold seqS
  rw [e]
  exact k
theorem last {p : MF Fl} {lo : Nat} {s : Sl} {h h' : Hs} {x : A} (e : p lo s h = .ok (.rt x) h') : Ret x (p lo s h) := ⟨h', e⟩
/-- x is one of .. -/
def Alts (x : A) : List A → Prop
  | [] => False
  | [a] => x = a
  | a :: b :: l => x = a ∨ Alts x (b :: l)
theorem alts_mem {x : A} : ∀ {l : List A}, x ∈ l → Alts x l
  | [], h => nomatch h
  | [a], h => by
    cases h with
    | head => exact rfl
    | tail _ h => nomatch h
  | a :: b :: l, h => by
    cases h with
    | head => exact .inl rfl
    | tail _ h => exact .inr (alts_mem h)
theorem log2_lt {n k : Nat} (h : n < 2 ^ k) (hk : 0 < k) : n.log2 < k := by
  by_cases z : n = 0
  · subst z; rw [Nat.log2_zero]; exact hk
  · exact (Nat.log2_lt z).mpr h
section
variable {h : Hs} {t lo : Nat} {xs : List A} {i j : Int} {z v : A} {k : Nat}
theorem seq_h (e : h[t]? = some (.lst xs)) : h.seq (.ref t) = some xs := by
  show (match h[t]? with | some (.lst xs) => some xs | some (.flst xs) => some xs | _ => none) = some xs
  rw [e]
theorem ix_seq {x : A} (e : h.seq x = some xs) (e2 : L2.atI xs i = some z) : ixO x (.int i) lo h = .ok z h := by
  show (match h.seq x with | some _ => seqIxO x (.int i) lo h | none => dIxO x (.int i) lo h) = _
  rw [e]
  show (match h.seq x with | some xs => (match L2.atI xs i with | some z => R.ok z h | none => .bad) | none => .bad) = _
  rw [e]
  show (match L2.atI xs i with | some z => R.ok z h | none => .bad) = _
  rw [e2]
theorem ix_h (e : h[t]? = some (.lst xs)) (e2 : L2.atI xs i = some z) : ixO (.ref t) (.int i) lo h = .ok z h := ix_seq (seq_h e) e2
theorem mul_ok (hi : i.natAbs < 2 ^ 200) (hj : j.natAbs < 2 ^ 200) : mulO (.int i) (.int j) lo h = .ok (.int (i * j)) h := by
  have a := log2_lt hi (by decide)
  have b := log2_lt hj (by decide)
  have c : Nat.blt (i.natAbs.log2 + j.natAbs.log2) 1000000 = true := by rw [Nat.blt_eq]; omega
  show (if Nat.blt (i.natAbs.log2 + j.natAbs.log2) 1000000 then R.ok (A.int (i * j)) h else .bad) = _
  rw [if_pos c]
theorem mod_ok (hj : 0 < j) : modO (.int i) (.int j) lo h = .ok (.int (i % j)) h := by
  show (if decide (0 < j) then R.ok (A.int (i % j)) h else .bad) = _
  rw [if_pos (decide_eq_true hj)]
theorem div_ok (hj : 0 < j) (hj2 : j < 2 ^ 200) : divO (.int i) (.int j) lo h = .ok (.int (i / j)) h := by
  have a : j.natAbs.log2 < 9000 := by
    have q : j.natAbs < 2 ^ 200 := by omega
    have := log2_lt q (by decide)
    omega
  have c : (decide (0 < j) && Nat.blt j.natAbs.log2 9000) = true := by rw [decide_eq_true hj, Nat.blt_eq.mpr a]; rfl
  show (if (decide (0 < j) && Nat.blt j.natAbs.log2 9000) then R.ok (A.int (i / j)) h else .bad) = _
  rw [if_pos c]
theorem store_h (hlo : lo ≤ t) (e : h[t]? = some (.lst xs)) (e2 : L2.ixN xs.length j = some k) : storeF lo h (.ref t) (.int j) v = some (h.set t (.lst (xs.set k v))) := by
  have c : Nat.ble lo t = true := Nat.ble_eq.mpr hlo
  unfold storeF
  simp only [c, if_true, e, e2]
theorem set_get {x o : AO} (e : h[t]? = some o) : (h.set t x)[t]? = some x := by
  rw [List.getElem?_set_self]
  exact (List.getElem?_eq_some_iff.mp e).1
theorem len_seq {x : A} (e : h.seq x = some xs) : lenO [x] lo h = .ok (.int xs.length) h := by
  cases x with
  | str s => cases e
  | non => cases e
  | bl b => cases e
  | int b => cases e
  | gl b => cases e
  | ty b => cases e
  | tup ys => cases e; rfl
  | ftup ys => cases e; rfl
  | lit ys => cases e; rfl
  | ref i =>
    show (match h.seq (.ref i) with | some ys => R.ok (A.int ys.length) h | none => _) = _
    rw [e]
theorem atI_nat {r : Int} (h0 : 0 ≤ r) (h1 : r < xs.length) : ∃ x ∈ xs, L2.atI xs r = some x := by
  have hl : r.toNat < xs.length := by omega
  refine ⟨xs[r.toNat], List.getElem_mem hl, ?_⟩
  unfold L2.atI L2.ixN
  rw [if_pos h0, if_pos h1]
  exact List.getElem?_eq_getElem hl
/-- r is one of j, j + 1, .. (m of them) -/
def AltF (r : Nat) : Nat → Nat → Prop
  | _, 0 => False
  | j, 1 => r = j
  | j, m + 2 => r = j ∨ AltF r (j + 1) (m + 1)
theorem altF {r : Nat} : ∀ {m j : Nat}, j ≤ r → r < j + m → AltF r j m
  | 0, j, h1, h2 => by omega
  | 1, j, h1, h2 => show r = j by omega
  | m + 2, j, h1, h2 => by
    by_cases c : r = j
    · exact .inl c
    · exact .inr (altF (by omega) (by omega))
theorem alt0 {r m : Nat} (h : r < m) : AltF r 0 m := altF (Nat.zero_le r) (by omega)
theorem getD_of {xs : List A} {r : Nat} {x : A} (e : xs[r]? = some x) : x = xs.getD r .non := by
  rw [List.getD_eq_getElem?_getD, e]
  rfl
/-- a contract of a drawing def: of a tank of three ints a value below the bound -/
def Drops (f : AF) : Prop := ∀ {lo t : Nat} {h : Hs} {a b c n : Int}, h[t]? = some (.lst [.int a, .int b, .int c]) → lo ≤ t → 0 < n → n < 2 ^ 64 → 0 ≤ c → c < 2 ^ 64 →
    ∃ r a' c' : Int, 0 ≤ r ∧ r < n ∧ 0 ≤ c' ∧ c' ≤ c + 1 ∧ f [.ref t, .int n] lo h = .ok (.int r) (h.set t (.lst [.int a', .int b, .int c']))
def Cn (k : Nat) (c : Int) : Prop := 0 ≤ c ∧ c ≤ k
def Chooses (f : AF) : Prop := ∀ {lo t : Nat} {h : Hs} {a b c : Int} {it : A} {xs : List A} {k : Nat}, h[t]? = some (.lst [.int a, .int b, .int c]) → lo ≤ t → Cn k c → k < 1000000 → h.seq it = some xs → (∀ o, Hs.seq (h.set t o) it = some xs) →
    0 < xs.length → xs.length < 1000000 → ∃ (x : A) (a' c' : Int), Alts x xs ∧ Cn (k + 1) c' ∧ f [.ref t, it] lo h = .ok x (h.set t (.lst [.int a', .int b, .int c']))
theorem choice_of {f : AF} (D : Drops f) : Chooses (bodyF 2 (retS (bin ixO (vA 1) (calF (lenF 2 f) (consF (vA 0) (consF (calF lenO (consF (vA 1) nilF)) nilF)))))) := by
  intro lo t h a b c it xs k ht hlo hc hk hx hx2 hl hl2
  obtain ⟨r, a', c', r0, r1, c0, c1, e⟩ := D ht hlo (n := xs.length) (by omega) (by omega) hc.1 (by have := hc.2; omega)
  obtain ⟨x, hm, ex⟩ := atI_nat r0 r1
  refine ⟨x, a', c', alts_mem hm, ⟨c0, by have := hc.2; omega⟩, ?_⟩
  have el : lenO [it] lo h = .ok (.int xs.length) h := len_seq hx
  have ei : ixO it (.int r) lo (h.set t (.lst [.int a', .int b, .int c'])) = .ok x (h.set t (.lst [.int a', .int b, .int c'])) := ix_seq (hx2 _) ex
  have ef : lenF 2 f [.ref t, .int xs.length] lo h = .ok (.int r) (h.set t (.lst [.int a', .int b, .int c'])) := e
  simp only [bodyF, retS, bin, MF.bind, R.bind, vA, startA, calF, consF, nilF, List.length_cons, List.length_nil, List.map_cons, List.map_nil, List.replicate, List.cons_append, List.nil_append, List.getElem?_cons_zero, List.getElem?_cons_succ, el, ef, ei]
def ChoosesI (f : AF) : Prop := ∀ {lo t : Nat} {h : Hs} {a b c : Int} {it : A} {xs : List A} {k : Nat}, h[t]? = some (.lst [.int a, .int b, .int c]) → lo ≤ t → Cn k c → k < 1000000 → h.seq it = some xs → (∀ o, Hs.seq (h.set t o) it = some xs) →
    0 < xs.length → xs.length < 1000000 → ∃ (r : Nat) (a' c' : Int), r < xs.length ∧ Cn (k + 1) c' ∧ f [.ref t, it] lo h = .ok (xs.getD r .non) (h.set t (.lst [.int a', .int b, .int c']))
theorem choiceI_of {f : AF} (D : Drops f) : ChoosesI (bodyF 2 (retS (bin ixO (vA 1) (calF (lenF 2 f) (consF (vA 0) (consF (calF lenO (consF (vA 1) nilF)) nilF)))))) := by
  intro lo t h a b c it xs k ht hlo hc hk hx hx2 hl hl2
  obtain ⟨r, a', c', r0, r1, c0, c1, e⟩ := D ht hlo (n := xs.length) (by omega) (by omega) hc.1 (by have := hc.2; omega)
  have hr : r.toNat < xs.length := by omega
  have ex : L2.atI xs r = some (xs.getD r.toNat .non) := by
    unfold L2.atI L2.ixN
    rw [if_pos r0, if_pos r1, ← getD_of (List.getElem?_eq_getElem hr)]
    exact List.getElem?_eq_getElem hr
  refine ⟨r.toNat, a', c', hr, ⟨c0, by have := hc.2; omega⟩, ?_⟩
  have el : lenO [it] lo h = .ok (.int xs.length) h := len_seq hx
  have ei : ixO it (.int r) lo (h.set t (.lst [.int a', .int b, .int c'])) = .ok (xs.getD r.toNat .non) (h.set t (.lst [.int a', .int b, .int c'])) := ix_seq (hx2 _) ex
  have ef : lenF 2 f [.ref t, .int xs.length] lo h = .ok (.int r) (h.set t (.lst [.int a', .int b, .int c'])) := e
  simp only [bodyF, retS, bin, MF.bind, R.bind, vA, startA, calF, consF, nilF, List.length_cons, List.length_nil, List.map_cons, List.map_nil, List.replicate, List.cons_append, List.nil_append, List.getElem?_cons_zero, List.getElem?_cons_succ, el, ef, ei]
theorem draw_stepI {f : AF} (D : ChoosesI f) {P : R Fl → Prop} {i ti t k : Nat} {fm : MF A} {q : MF Fl} {lo : Nat} {s : Sl} {h h2 : Hs} {it : A} {a b c : Int} {xs : List A} {s' : Nat → Sl} {h' : Nat → Int → Int → Hs} (e : fm lo s h = .ok it h2) (hs : s[ti]? = some (some (.ref t)))
    (e0 : h2[t]? = some (.lst [.int a, .int b, .int c])) (hlo : Nat.ble lo t = true) (hc : Cn k c) (hk : k < 1000000) (hx : h2.seq it = some xs) (hx2 : ∀ o, Hs.seq (h2.set t o) it = some xs) (hl : (Nat.ble 1 xs.length && Nat.ble xs.length 1000) = true)
    (es : ∀ r, setSl i (xs.getD r .non) s = s' r) (eh : ∀ r a' c', h2.set t (.lst [.int a', .int b, .int c']) = h' r a' c') (kk : ∀ r a' c', r < xs.length → Cn (k + 1) c' → P (q lo (s' r) (h' r a' c'))) :
    P (seqS (asgS i (calF (lenF 2 f) (consF (vA ti) (consF fm nilF)))) q lo s h) := by
  rw [Bool.and_eq_true, Nat.ble_eq, Nat.ble_eq] at hl
  obtain ⟨r, a', c', hr, hc', ee⟩ := D e0 (Nat.ble_eq.mp hlo) hc hk hx hx2 hl.1 (by omega)
  have ef : lenF 2 f [.ref t, it] lo h2 = .ok (xs.getD r .non) (h2.set t (.lst [.int a', .int b, .int c'])) := ee
  refine step (s' := s' r) (h' := h' r a' c') ?_ (kk r a' c' hr hc')
  have v0 : vA ti lo s h = .ok (.ref t) h := by
    unfold vA
    rw [hs]
  simp only [asgS, MF.bind, R.bind, calF, consF, nilF, v0, e, ef, es, eh r]
theorem draw_step {f : AF} (D : Chooses f) {P : R Fl → Prop} {i ti t k : Nat} {fm : MF A} {q : MF Fl} {lo : Nat} {s : Sl} {h h2 : Hs} {it : A} {a b c : Int} {xs : List A} {s' : A → Sl} {h' : A → Int → Int → Hs} (e : fm lo s h = .ok it h2) (hs : s[ti]? = some (some (.ref t)))
    (e0 : h2[t]? = some (.lst [.int a, .int b, .int c])) (hlo : Nat.ble lo t = true) (hc : Cn k c) (hk : k < 1000000) (hx : h2.seq it = some xs) (hx2 : ∀ o, Hs.seq (h2.set t o) it = some xs) (hl : (Nat.ble 1 xs.length && Nat.ble xs.length 1000) = true)
    (es : ∀ x, setSl i x s = s' x) (eh : ∀ x a' c', h2.set t (.lst [.int a', .int b, .int c']) = h' x a' c') (kk : ∀ x a' c', Alts x xs → Cn (k + 1) c' → P (q lo (s' x) (h' x a' c'))) :
    P (seqS (asgS i (calF (lenF 2 f) (consF (vA ti) (consF fm nilF)))) q lo s h) := by
  rw [Bool.and_eq_true, Nat.ble_eq, Nat.ble_eq] at hl
  obtain ⟨x, a', c', ha, hc', ee⟩ := D e0 (Nat.ble_eq.mp hlo) hc hk hx hx2 hl.1 (by omega)
  have ef : lenF 2 f [.ref t, it] lo h2 = .ok x (h2.set t (.lst [.int a', .int b, .int c'])) := ee
  refine step (s' := s' x) (h' := h' x a' c') ?_ (kk x a' c' ha hc')
  have v0 : vA ti lo s h = .ok (.ref t) h := by
    unfold vA
    rw [hs]
  simp only [asgS, MF.bind, R.bind, calF, consF, nilF, v0, e, ef, es, eh x]
theorem if_not_true {f : MF A} {b : MF Fl} {lo : Nat} {s : Sl} {h : Hs} (e : f lo s h = .ok (.bl true) h) : ifS (notF (asT f)) b nextS lo s h = .ok (.nx s) h := by
  simp only [ifS, notF, asT, MF.bind, R.bind, e, truth, Bool.not_true, nextS]
theorem pure_ok {f : MF A} {lo : Nat} {s : Sl} {h h' : Hs} {x : A} (e : f h.length s h = .ok x h') (ho : x.old h.length = true) : pureE f lo s h = .ok x h := by
  unfold pureE pureF
  simp only [e, ho, if_true]
/-- true is handed back; the elder things are as at the start but for the tank's ints -/
def RetT (m k : Nat) (H : Int → Int → Hs) (r : R Fl) : Prop := ∃ a c : Int, Cn k c ∧ retT m r = some (.bl true, H a c)
/-! ### loops whose turns leave the heap as it was -/
theorem forG_of {tg : Tg} {fs : MF Src} {b : MF Fl} {lo : Nat} {s : Sl} {h : Hs} {src : Src} {xs : List A} {r : R Fl} (e : fs lo s h = .ok src h) (e2 : src h = some xs) (k : forB tg b src (xs.length + 1) 0 lo s h = r) : forG tg fs b lo s h = r := by
  unfold forG
  rw [e]
  show (match src h with | none => R.bad | some xs => forB tg b src (xs.length + 1) 0 lo s h) = r
  rw [e2]
  exact k
theorem forB_turn {tg : Tg} {b : MF Fl} {src : Src} {m j lo : Nat} {s s1 s2 : Sl} {h h2 : Hs} {xs : List A} {x : A} {r : R Fl} (e : src h = some xs) (ex : xs[j]? = some x) (et : bT tg x s = some s1) (eb : b lo s1 h = .ok (.nx s2) h2) (k : forB tg b src m (j + 1) lo s2 h2 = r) :
    forB tg b src (m + 1) j lo s h = r := by
  show (match src h with | none => R.bad | some xs => match xs[j]? with | none => R.ok (Fl.nx s) h | some x => match bT tg x s with | none => .bad | some s' => turnF b (forB tg b src m (j + 1)) lo s' h) = r
  rw [e]
  show (match xs[j]? with | none => R.ok (Fl.nx s) h | some x => match bT tg x s with | none => .bad | some s' => turnF b (forB tg b src m (j + 1)) lo s' h) = r
  rw [ex]
  show (match bT tg x s with | none => R.bad | some s' => turnF b (forB tg b src m (j + 1)) lo s' h) = r
  rw [et]
  show turnF b (forB tg b src m (j + 1)) lo s1 h = r
  unfold turnF
  rw [eb]
  exact k
theorem forB_end {tg : Tg} {b : MF Fl} {src : Src} {m j lo : Nat} {s : Sl} {h : Hs} {xs : List A} (e : src h = some xs) (ex : xs[j]? = none) : forB tg b src (m + 1) j lo s h = .ok (.nx s) h := by
  show (match src h with | none => R.bad | some xs => match xs[j]? with | none => R.ok (Fl.nx s) h | some x => match bT tg x s with | none => .bad | some s' => turnF b (forB tg b src m (j + 1)) lo s' h) = _
  rw [e]
  show (match xs[j]? with | none => R.ok (Fl.nx s) h | some x => match bT tg x s with | none => .bad | some s' => turnF b (forB tg b src m (j + 1)) lo s' h) = _
  rw [ex]
theorem minmax {n : Nat} {k : Int} (hk : 1 ≤ k) : ∃ m : Nat, 1 ≤ m ∧ m ≤ k.toNat ∧ ∀ lo h, min2O [.int k, .int n] lo h = .ok (.int (if (n : Int) < k then n else k)) h ∧ max2O [.int 1, .int (if (n : Int) < k then n else k)] lo h = .ok (.int (m : Nat)) h := by
  generalize hz : (if (n : Int) < k then (n : Int) else k) = z
  have z1 : z ≤ k := by
    rw [← hz]
    split <;> omega
  by_cases c : z > 1
  · refine ⟨z.toNat, by omega, by omega, fun lo h => ⟨?_, ?_⟩⟩
    · rw [← hz]; exact congrArg (fun y => R.ok (A.int y) h) rfl
    · show R.ok (A.int (if z > 1 then z else 1)) h = _
      rw [if_pos c, Int.toNat_of_nonneg (by omega)]
  · refine ⟨1, by omega, by omega, fun lo h => ⟨?_, ?_⟩⟩
    · rw [← hz]; exact congrArg (fun y => R.ok (A.int y) h) rfl
    · show R.ok (A.int (if z > 1 then z else 1)) h = _
      rw [if_neg c]
      rfl
theorem rg1_small : ∀ m : Nat, m < 10 → rg1 [.int (m : Nat)] = some (0, m) := by decide +kernel
theorem cells_rg {rg : List A → Option (Int × Nat)} {i0 : Nat} {k : Int} {m : Nat} {lo : Nat} {s : Sl} {h : Hs} {sc : A} {xs : List A} (es : s[i0]? = some (some sc)) (hx : h.seq sc = some xs) (er : rg [.int (m : Nat)] = some (0, m))
    (h3 : min2O [.int k, .int xs.length] lo h = .ok (.int (if (xs.length : Int) < k then xs.length else k)) h ∧ max2O [.int 1, .int (if (xs.length : Int) < k then xs.length else k)] lo h = .ok (.int (m : Nat)) h) :
    rangeI rg (consF (calF max2O (consF (cA (.int 1)) (consF (calF min2O (consF (cA (.int k)) (consF (calF lenO (consF (vA i0) nilF)) nilF))) nilF))) nilF) lo s h = .ok (fun _ => some (rangeA 0 m)) h := by
  have v0 : vA i0 lo s h = .ok sc h := by
    unfold vA
    rw [es]
  have el : lenO [sc] lo h = .ok (.int xs.length) h := len_seq hx
  simp only [rangeI, MF.bind, R.bind, calF, consF, nilF, cA, v0, el, h3.1, h3.2, er]
/-- for spot in range(max(1, min(k, len(script)))) -/
theorem cells {i0 : Nat} {k : Int} {lo : Nat} {s : Sl} {h : Hs} {sc : A} {xs : List A} (hk : 1 ≤ k) (hk2 : k < 10) (es : s[i0]? = some (some sc)) (hx : h.seq sc = some xs) :
    ∃ m : Nat, 1 ≤ m ∧ m ≤ k.toNat ∧ rangeI rg1 (consF (calF max2O (consF (cA (.int 1)) (consF (calF min2O (consF (cA (.int k)) (consF (calF lenO (consF (vA i0) nilF)) nilF))) nilF))) nilF) lo s h = .ok (fun _ => some (rangeA 0 m)) h := by
  obtain ⟨m, h1, h2, h3⟩ := minmax (n := xs.length) hk
  exact ⟨m, h1, h2, cells_rg es hx (rg1_small m (by omega)) (h3 lo h)⟩
end
end MA

set_option linter.all false
set_option maxRecDepth 100000
namespace MA
open PySem L2 SlX LamX
open PySem.Spec PyProof.Rows
/-! ### the head: what k_is shows of a def, a class, an exception -/
structure DefAll (K : PySem.W.Frag) (mg : Str → Option Value) (x : Str) (st : Stmt) (g : Addr) : Prop where
  d : DefAt K x x st g
  m : mg x = some (.ref g)
  k : PySem.W.keepIn K (.ref g) = true
structure DefAllC (K : PySem.W.Frag) (mg : Str → Option Value) (x : Str) (st : Stmt) (g cd P : Addr) (ts : List Addr) : Prop where
  d : DefC K x x st g cd
  m : mg x = some (.ref g)
  k : PySem.W.keepIn K (.ref g) = true
  hd : PySem.W.codeHdIn K cd P = true
  ts : ts.contains P = true
  no : (K.lookup P).isNone = true
/-- the table of a code object -/
def tabOf (K : PySem.W.Frag) (c : Addr) : Addr := match K.lookup c with
  | some ⟨_, _, .fields vs, _⟩ => (match (vs[11]? : Option Value) with | some (.ref P) => P | _ => 0)
  | _ => 0
section
variable {K : PySem.W.Frag} {h : Heap} {mg : Str → Option Value} {x : Str} {st : Stmt} {g cd C f : Addr} {oc kV dc pm cv ct : Value} {od an : Option Addr} {sl : Array (Option Value)} {ts : List Addr}
theorem def_all (st : Stmt) (KX : K.In h) (G : h.Ns mainGlobals mg) (a : PySem.W.nsIn K mainGlobals x = some (some (.ref g))) (l : K.lookup g = some ⟨oc, od, .func (PySem.W.fnOf x x (defArgs st) (defBody st) (defScope st) .none kV dc pm an cv ct), sl⟩)
    (c : PySem.W.codeIn K cv x = true) (k : PySem.W.keepIn K (.ref g) = true) : DefAll K mg x st g := ⟨⟨⟨_, _, _, _, _, _, _, _, _, l, c⟩⟩, PySem.W.mg_of KX G a, k⟩
theorem def_allC (st : Stmt) (ts : List Addr) (KX : K.In h) (G : h.Ns mainGlobals mg) (a : PySem.W.nsIn K mainGlobals x = some (some (.ref g))) (l : K.lookup g = some ⟨oc, od, .func (PySem.W.fnOf x x (defArgs st) (defBody st) (defScope st) .none kV dc pm an (.ref cd) ct), sl⟩)
    (c : PySem.W.codeIn K (.ref cd) x = true) (k : PySem.W.keepIn K (.ref g) = true) (hd : PySem.W.codeHdIn K cd (tabOf K cd) = true) (ht : ts.contains (tabOf K cd) = true) (no : (K.lookup (tabOf K cd)).isNone = true) : DefAllC K mg x st g cd (tabOf K cd) ts :=
  ⟨⟨⟨_, _, _, _, _, _, _, _, l, c⟩⟩, PySem.W.mg_of KX G a, k, hd, ht, no⟩
theorem def_at (st : Stmt) {y q : Str} (KX : K.In h) (l : K.lookup g = some ⟨oc, od, .func (PySem.W.fnOf y q (defArgs st) (defBody st) (defScope st) .none kV dc pm an cv ct), sl⟩) (c : PySem.W.codeIn K cv q = true) : DefAt K y q st g := ⟨⟨_, _, _, _, _, _, _, _, _, l, c⟩⟩
/-- an own exception class: its name, where it is -/
structure ExnAll (K : PySem.W.Frag) (mg : Str → Option Value) (x : Str) (g : Addr) : Prop where
  base : ∃ (B newId initId : String) (bmB : List Value), ExcBaseFacts B newId initId bmB ∧ PySem.W.excIn K g bmB newId = true
  m : mg x = some (.ref g)
  kp : PySem.W.keepIn K (.ref g) = true
  sub : PySem.W.subIn K (.ref g) (.type "BaseException") = some true
  ty : PySem.W.typeIn K (.ref g) = some (.type "type")
theorem exn_all {B newId initId : String} {bmB : List Value} (F : ExcBaseFacts B newId initId bmB) (KX : K.In h) (G : h.Ns mainGlobals mg) (a : PySem.W.nsIn K mainGlobals x = some (some (.ref g))) (e : PySem.W.excIn K g bmB newId = true) (kp : PySem.W.keepIn K (.ref g) = true)
    (sub : PySem.W.subIn K (.ref g) (.type "BaseException") = some true) (ty : PySem.W.typeIn K (.ref g) = some (.type "type")) : ExnAll K mg x g := ⟨⟨B, newId, initId, bmB, F, e⟩, PySem.W.mg_of KX G a, kp, sub, ty⟩
theorem ExnAll.exn0 {C : Kn} {c : Nat} (X : ExnAll K mg x g) (e : C.gt c = g) : Exn0 K mg C x c := by
  subst e
  exact ⟨X.base, X.m, X.kp, X.sub, X.ty⟩
/-- an own class -/
structure ClsAll (K : PySem.W.Frag) (mg : Str → Option Value) (x : Str) (g : Addr) : Prop where
  m : mg x = some (.ref g)
  f : ClF K g
theorem cls_all (KX : K.In h) (G : h.Ns mainGlobals mg) (a : PySem.W.nsIn K mainGlobals x = some (some (.ref g))) (pg : PySem.W.plainGet K g Str.empty = true) (ic : PySem.W.isClsIn K g = true) (po : PySem.W.plainOver K g = true) (sa : PySem.W.findIn K (.ref g) "__setattr__" = some (some (.builtin "object.__setattr__")))
    (ca : PySem.W.findIn K (.ref g) "__class__" = some (some (.builtin "object.__class__"))) (cn : PySem.W.specialIn K (.builtin "object.__class__") "__get__" = some (some (.builtin "getset_descriptor.__get__"))) (ct : PySem.W.takesIn K (.builtin "object.__class__") = some true) (cm : PySem.W.mroIn K g (.type "object") = some true)
    (cl : (PySem.W.clsIn K g).isSome = true) (ty : PySem.W.typeIn K (.ref g) = some (.type "type")) (n1 : PySem.W.mroIn K g (.type "int") = some false) (n2 : PySem.W.mroIn K g (.type "bool") = some false) (n3 : PySem.W.mroIn K g (.type "tuple") = some false) (n4 : PySem.W.mroIn K g (.type "list") = some false)
    (n5 : PySem.W.mroIn K g (.type "str") = some false) (n6 : PySem.W.mroIn K g (.type "dict") = some false) : ClsAll K mg x g :=
  ⟨PySem.W.mg_of KX G a, ⟨⟨pg, ic, po, sa⟩, ⟨ca, cn, ct, cm⟩, cl, ty, fun t => by cases t <;> assumption⟩⟩
theorem mk_all (KX : K.In h) (a : PySem.W.findIn K (.ref C) "__init__" = some (some (.ref f))) (b : PySem.W.makesIn K C = true) (c : PySem.W.isFn K (.ref f) = true) (d : PySem.W.keepIn K (.ref C) = true) : Mk K C f := ⟨b, a, c, d⟩
theorem rd_all (KX : K.In h) (a : PySem.W.readsIn K C (.type "type") = true) (b : PySem.W.specialIn K (.ref C) "__getattribute__" = some (some (.builtin "type.__getattribute__"))) : ClX.CRead K C (.type "type") := ⟨a, b⟩
theorem cm_all {p : Addr} {rest : List Value} {m : Str} (KX : K.In h) (a : PySem.W.findCls K (.ref C) (.type "type") m = some (.get (.builtin "classmethod.__get__") (.ref p) .none (.ref C))) (b : PySem.W.recIn K p "classmethod" = some (.ref f :: rest)) (c : PySem.W.fnIn K f = true) : ClX.CMet K C (.type "type") m p f := ⟨a, ⟨rest, b⟩, c⟩
theorem slot_all {p : Addr} {y : Str} {i : Nat} (KX : K.In h) (a : PySem.W.findIn K (.ref C) y = some (some (.ref p))) (b : PySem.W.specialIn K (.ref p) "__get__" = some (some (.builtin "member_descriptor.__get__"))) (c : PySem.W.takesIn K (.ref p) = some true) (d : PySem.W.typeIn K (.ref p) = some (.type "member_descriptor"))
    (e : PySem.W.slotIn K p C = some i) (lt : Nat.blt i 1000 = true) : Slot1 K C y p i := ⟨a, b, c, d, e, Nat.blt_eq.mp lt⟩
theorem glob_int {i : Int} {t : Tok} (KX : K.In h) (G : h.Ns mainGlobals mg) (a : PySem.W.nsIn K mainGlobals x = some (some (.int i t))) : ∃ t, mg x = some (.int i t) := ⟨t, PySem.W.mg_of KX G a⟩
end
theorem cx_false {P : Program} {w : World} (H : Hp) (s : Shared) (e : Value) (s' : Shared) (c : L2.CX P w [] H s (fun _ _ _ => False) e s') : False := by
  obtain ⟨a, B, H', cls, d, z1, fl, z2, ub, z3, z4, z5, z6⟩ := c
  exact z6
/-- a def's contract for every base at once -/
theorem DefC.okAll {P : Program} {w : World} {K : PySem.W.Frag} {mg : Str → Option Value} {C : Kn} {x qual : Str} {st : Stmt} {fa cd : Addr} {N ps : List Str} {k m : Nat} {b : MF Fl} {Tb : Heap → Prop} (D : DefC K x qual st fa cd) (S : FnScope N ps (defScope st))
    (hb : ∀ (kV doc pm cdv ct : Value) (an : Option Addr) (us : List Value), us.length = ps.length → bindArgs (PySem.W.fnOf x qual (defArgs st) (defBody st) (defScope st) .none kV doc pm an cdv ct) ⟨us, []⟩ = pure (ps.zip us)) (hK : K = C.K) (hw : w = C.w) (hm : ps.length = m)
    (body : ∀ (base : Heap), Tb base → ∀ (A : Around) (outer : List Env) (s : Shared) (H : Hp) (E : XK), At (cxOf (L2.CX P w) P w K mg base N qual (defScope st) fa (.ref cd) A outer s H E) C E k → PSs (cxOf (L2.CX P w) P w K mg base N qual (defScope st) fa (.ref cd) A outer s H E) (defBody st) (tS C E b)) :
    ∃ fd : FuncData, (∀ us : List Value, us.length = ps.length → bindArgs fd ⟨us, []⟩ = pure (ps.zip us)) ∧ ∀ base : Heap, Tb base → FnOk P w K mg base (L2.CX P w) (k + 1) fa fd ps (spF C m (bodyF N.length b)) := by
  obtain ⟨oc, kV, doc, pm, ct, od, an, osl, l, c⟩ := D.ok
  refine ⟨_, fun us hl => hb kV doc pm (.ref cd) ct an us hl, fun base hT => ?_⟩
  exact fn_okO l c S hK hw hm fun A outer s H E W tk => body base hT A outer s H E ⟨W, tk, passes_of (X := cxOf (L2.CX P w) P w K mg base N qual (defScope st) fa (.ref cd) A outer s H E) (K := fun e s'' => L2.CX P w outer H s E e s'') rfl⟩
theorem DefAt.okAll {P : Program} {w : World} {K : PySem.W.Frag} {mg : Str → Option Value} {C : Kn} {x qual : Str} {st : Stmt} {fa : Addr} {N ps : List Str} {k m : Nat} {b : MF Fl} {Tb : Heap → Prop} (D : DefAt K x qual st fa) (S : FnScope N ps (defScope st))
    (hb : ∀ (kV doc pm cdv ct : Value) (an : Option Addr) (us : List Value), us.length = ps.length → bindArgs (PySem.W.fnOf x qual (defArgs st) (defBody st) (defScope st) .none kV doc pm an cdv ct) ⟨us, []⟩ = pure (ps.zip us)) (hK : K = C.K) (hw : w = C.w) (hm : ps.length = m)
    (body : ∀ (base : Heap), Tb base → ∀ (cdv : Value) (A : Around) (outer : List Env) (s : Shared) (H : Hp) (E : XK), At (cxOf (L2.CX P w) P w K mg base N qual (defScope st) fa cdv A outer s H E) C E k → PSs (cxOf (L2.CX P w) P w K mg base N qual (defScope st) fa cdv A outer s H E) (defBody st) (tS C E b)) :
    ∃ fd : FuncData, (∀ us : List Value, us.length = ps.length → bindArgs fd ⟨us, []⟩ = pure (ps.zip us)) ∧ ∀ base : Heap, Tb base → FnOk P w K mg base (L2.CX P w) (k + 1) fa fd ps (spF C m (bodyF N.length b)) := by
  obtain ⟨oc, kV, doc, pm, cdv, ct, od, an, osl, l, c⟩ := D.ok
  refine ⟨_, fun us hl => hb kV doc pm cdv ct an us hl, fun base hT => ?_⟩
  exact fn_okO l c S hK hw hm fun A outer s H E W tk => body base hT cdv A outer s H E ⟨W, tk, passes_of (X := cxOf (L2.CX P w) P w K mg base N qual (defScope st) fa cdv A outer s H E) (K := fun e s'' => L2.CX P w outer H s E e s'') rfl⟩
/-- the law's promise holds of each script -/
theorem law_sp {C : Kn} {f : AF} {H : Hp} {a : Addr} {ns : List Int} (hT : Tabs C.T H) (hS : SqL C.K H a (ns.map V.int)) (law0 : ∀ ns : List Int, ∃ h', f [.lit ns] 0 [] = .ok (.bl true) h') (law1 : ∀ ns : List Int, ∃ h', f [.ref 0] 0 [.lst (ns.map A.int)] = .ok (.bl true) h') :
    spF C 1 f [.ref a] H (fun v _ => v = .bl true) fun _ _ _ => False := by
  have done : ∀ {G : Loc} {h' : Hs} {lo n : Nat} {r : R A}, r = .ok (.bl true) h' → fin (relV C) C (fun _ _ _ => False) G lo n H r (fun v _ => v = .bl true) := fun e => by
    subst e
    intro G' H' v _ _ rv
    cases rv
    rfl
  have lit : LitL C.K H a ns → spF C 1 f [.ref a] H (fun v _ => v = .bl true) fun _ _ _ => False := fun hl => by
    obtain ⟨h', e⟩ := law0 ns
    exact ⟨rfl, fun _ => a, 0, [], [.lit ns], ⟨fun i j hi => absurd hi (Nat.not_lt_zero _), fun i o z => (by cases i <;> cases z), hT⟩, .cons (.lit hl) .nil, done e⟩
  rcases hS with (hl | ⟨o, hl⟩) | hk
  · obtain ⟨h', e⟩ := law1 ns
    have rvs : ∀ {G : Loc} {n : Nat} (l : List Int), RVs C G n H (l.map A.int) (l.map V.int) := fun l => by
      induction l with
      | nil => exact .nil
      | cons x l ih => exact .cons (.int x) ih
    refine ⟨rfl, fun _ => a, 0, [.lst (ns.map A.int)], [.ref 0], ⟨fun i j hi hj _ => ?_, fun i o z => ?_, hT⟩, .cons (.ref (G := fun _ => a) (Nat.succ_pos 0)) .nil, done e⟩
    · have hi' : i < 1 := hi
      have hj' : j < 1 := hj
      omega
    · cases i with
      | zero => cases z; exact .lst hl (rvs ns)
      | succ i => cases z
  · exact lit (.inl ⟨o, hl⟩)
  · exact lit (.inr hk)
theorem tabs_empty {T : List (Addr × Str)} {H : Hp} (h : ∀ p ∈ T, H p.1 = some (.tbl #[])) : Tabs T H := fun p hp => ⟨#[], h p hp, by first | exact .nil | trivial | simp [TriplesOk], fun pos cv e => by cases e⟩
theorem lawAt {l : PySem.W.OpenLaw} {w : World} {K : PySem.W.Frag} {C : Kn} {k n : Nat} {f : AF} {mg : Str → Option Value} {fa : Addr} {h : Heap} {x : Str} {cs : List (Addr × Addr)} (hKC : K = C.K)
    (h1 : ∀ p ∈ cs, h.get? p.2 = some { cls := .none, data := .fields #[] }) (h2 : ∀ p ∈ cs, K.lookup p.2 = none) (h3 : ∀ p ∈ cs, PySem.W.CodeHd h p.1 p.2) (hT : ∀ p ∈ C.T, p.1 ∈ cs.map (·.2))
    (ok : ∃ fd : FuncData, (∀ us : List Value, us.length = [x].length → bindArgs fd ⟨us, []⟩ = pure ([x].zip us)) ∧ ∀ base : Heap, (∀ p ∈ cs, TabB base mg p.1 p.2) → FnOk l.prog w K mg base (L2.CX l.prog w) k fa fd [x] (spF C 1 f))
    (law0 : ∀ ns : List Int, ∃ h', f [.lit ns] 0 [] = .ok (.bl true) h') (law1 : ∀ ns : List Int, ∃ h', f [.ref 0] 0 [.lst (ns.map A.int)] = .ok (.bl true) h') : LawAtS l w K (L2.CX l.prog w) k n x mg fa h := by
  obtain ⟨fd, hb, hF⟩ := ok
  refine ⟨fd, cs, spF C 1 f, h1, h2, h3, fun s u => BindsTo.of_eq (hb [u] rfl), fun H a ns _ _ hH hS => ?_, fun base _ _ hB => hF base hB⟩
  subst hKC
  refine law_sp (tabs_empty fun p hp => ?_) hS law0 law1
  obtain ⟨q, hq, e⟩ := List.mem_map.mp (hT p hp)
  rw [← e]
  exact hH q hq
end MA

set_option linter.all false
set_option maxRecDepth 100000
namespace MA
open PySem L2 SlX LamX
open PySem.Spec PyProof.Rows
/-! ### repr(x), x told by data, where no repr is under way -/
def rRepr (K : PySem.W.Frag) : List V → Hp → VK → Prop := fun xs H Q => ∃ (x : V) (d : PyData), xs = [x] ∧ Dp K H x d ∧ d.showable = true ∧ d.hasDict = false ∧ d.depth ≤ 60 ∧ d.shown.length ≤ sizeLine ∧ Q (.str d.shown) H
theorem call_reprD {X : Cx} (hg : X.A.guards = some []) (hu : X.A.units + 100 < cLine) : CallR X (.builtin "repr") (rRepr X.K) := by
  intro pins s σ H xs us Q I r h
  obtain ⟨x, d, rfl, hd, hs, hn, hp, hz, q⟩ := h
  obtain ⟨u, rfl, ru⟩ := vals1 r
  cases hd with
  | non =>
    cases ru
    exact PySem.P.repr_of_none ⟨.str _, H, I.tok _, ⟨_, rfl⟩, by rw [PyData.shown_none] at q; exact q⟩
  | bl b =>
    cases ru
    exact PySem.P.repr_of_bool ⟨.str _, H, I.tok _, ⟨_, rfl⟩, by rw [PyData.shown_bool] at q; exact q⟩
  | int i =>
    obtain ⟨t, rfl⟩ := ru
    have hl : i.natAbs.log2 < 1920 := by simpa [PyData.showable] using hs
    exact PySem.P.repr_of_int hl ⟨.str _, H, I.tok _, ⟨_, rfl⟩, by rw [PyData.shown_int] at q; exact q⟩
  | str z =>
    obtain ⟨t, rfl⟩ := ru
    rw [PyData.shown_str] at hz q
    exact PySem.P.repr_of_str ⟨.str _, H, I.tok _, ⟨_, rfl⟩, q⟩ hz
  | lst h1 h2 =>
    obtain ⟨as, rd⟩ := Dp.reads I _ _ _ (Dp.lst h1 h2) ru
    cases ru
    exact repr_of_reads' rd hs (fun z => by rw [hn] at z; cases z) hg (by omega) (fun b o e => e) (fun h' t tk k => ⟨.str _, H, I.kept k, ⟨_, rfl⟩, q⟩) hz
  | tup h1 h2 =>
    obtain ⟨as, rd⟩ := Dp.reads I _ _ _ (Dp.tup h1 h2) ru
    cases ru
    exact repr_of_reads' rd hs (fun z => by rw [hn] at z; cases z) hg (by omega) (fun b o e => e) (fun h' t tk k => ⟨.str _, H, I.kept k, ⟨_, rfl⟩, q⟩) hz
def reprT (h : Hs) (x : A) : Option Str := match dat h 60 x with
  | some d => if (d.showable && !d.hasDict && Nat.ble d.depth 60 && Nat.ble d.shown.length 100000) then some d.shown else none
  | none => none
def reprO (xs : List A) : Op A := fun _ h => match xs with
  | [x] => match reprT h x with
    | some t => .ok (.str t) h
    | none => .bad
  | _ => .bad
theorem reprT_dp {C : Kn} {G : Loc} {h : Hs} {H : Hp} (rh : Rh C G h H) {x : A} {v : V} {t : Str} (e : reprT h x = some t) (r : RV C G h.length H x v) : ∃ d : PyData, Dp C.K H v d ∧ d.showable = true ∧ d.hasDict = false ∧ d.depth ≤ 60 ∧ d.shown.length ≤ sizeLine ∧ t = d.shown := by
  unfold reprT at e
  cases hd : dat h 60 x with
  | none => rw [hd] at e; cases e
  | some d =>
    rw [hd] at e
    by_cases c : (d.showable && !d.hasDict && Nat.ble d.depth 60 && Nat.ble d.shown.length 100000) = true
    · have e' : some d.shown = some t := (if_pos c).symm.trans e
      cases e'
      rw [Bool.and_eq_true, Bool.and_eq_true, Bool.and_eq_true, Nat.ble_eq, Nat.ble_eq] at c
      obtain ⟨⟨⟨c1, c2⟩, c3⟩, c4⟩ := c
      exact ⟨d, dat_dp rh _ _ _ _ hd r, c1, by simpa using c2, c3, by rw [sizeLine_eq]; omega, rfl⟩
    · have e' : (none : Option Str) = some t := (if_neg c).symm.trans e
      cases e'
theorem reprO_ok {C : Kn} {E : XK} : OpL C E reprO (rRepr C.K) := fun G lo h H xs vs Q rh rv f => by
  cases rv with
  | nil => exact f.elim
  | cons r1 r2 =>
    cases r2 with
    | cons _ _ => exact f.elim
    | nil =>
      rename_i x v
      have f' : fin (relV C) C E G lo h.length H (match reprT h x with | some t => R.ok (A.str t) h | none => .bad) Q := f
      cases ht : reprT h x with
      | none => rw [ht] at f'; exact f'.elim
      | some t =>
        rw [ht] at f'
        obtain ⟨d, h1, h2, h3, h4, h5, rfl⟩ := reprT_dp rh ht r1
        exact ⟨v, d, rfl, h1, h2, h3, h4, h5, f' G H (.str _) Ext.refl rh (.str _)⟩
end MA

set_option linter.all false
set_option maxRecDepth 100000
namespace MA
open PySem L2 SlX LamX
open PySem.Spec PyProof.Rows
/-! ### defs that are run where no repr is under way -/
def FnGd (P : Program) (w : World) (K : PySem.W.Frag) (mg : Str → Option Value) (base : Heap) (C : Kn) (k : Nat) (a : Addr) (m : Nat) (f : AF) : Prop :=
  ∀ (A : Around) (outer : List Env) (s : Shared) (H : Hp) (us : List Value) (vs : List V) (Q : VK) (E : XK), A.guards = some [] → Room k A → Env0 P w K mg base A outer s H → Vals vs us → spF C m f vs H Q E →
    codeAny (model P w) A (.call (.ref a) ⟨us, []⟩) (CR (L2.CX P w) outer P w H s Q E) s
structure AtG (X : Cx) (C : Kn) (E : XK) (k : Nat) : Prop extends At X C E k where
  gd : X.A.guards = some []
section
variable {P : Program} {w : World} {K : PySem.W.Frag} {mg : Str → Option Value} {base : Heap} {C : Kn}
theorem FnGd.mono {j k m : Nat} {a : Addr} {f : AF} (F : FnGd P w K mg base C j a m f) (h : j ≤ k) : FnGd P w K mg base C k a m f := fun A outer s H us vs Q E g r => F A outer s H us vs Q E g (r.mono h)
theorem FnGd.ofM {k m : Nat} {a : Addr} {f : AF} (F : FnM P w K mg base C k a m f) : FnGd P w K mg base C k a m f := fun A outer s H us vs Q E _ r => F A outer s H us vs Q E r
theorem fn_gd {x qual : Str} {st : Stmt} {fa : Addr} {N ps : List Str} {k m : Nat} {b : MF Fl} {oc : Value} {od an : Option Addr} {osl : Array (Option Value)} {kV doc pm cdv ct : Value}
    (l : K.lookup fa = some ⟨oc, od, .func (PySem.W.fnOf x qual (defArgs st) (defBody st) (defScope st) .none kV doc pm an cdv ct), osl⟩) (c : PySem.W.codeIn K cdv qual = true) (S : FnScope N ps (defScope st))
    (hb : ∀ us : List Value, us.length = ps.length → bindArgs (PySem.W.fnOf x qual (defArgs st) (defBody st) (defScope st) .none kV doc pm an cdv ct) ⟨us, []⟩ = pure (ps.zip us)) (hK : K = C.K) (hw : w = C.w) (hm : ps.length = m)
    (body : ∀ (A : Around) (outer : List Env) (s : Shared) (H : Hp) (E : XK), AtG (cxOf (L2.CX P w) P w K mg base N qual (defScope st) fa cdv A outer s H E) C E k → PSs (cxOf (L2.CX P w) P w K mg base N qual (defScope st) fa cdv A outer s H E) (defBody st) (tS C E b)) :
    FnGd P w K mg base C (k + 1) fa m (bodyF N.length b) := by
  subst hm
  intro A outer s0 H us vs Q E hg hr e0 rv hsp
  obtain ⟨hvl, G, lo, h, xs, rh, rvs, q⟩ := hsp
  have kin : K.In s0.heap := e0.mod.kin.keeps fun b o z => (e0.bs b o z).1
  have nolim : s0.heap.NoLimit := e0.mod.nolimit.keeps fun b o z => (e0.bs b o z).1
  have kinds : ∀ y ∈ ps.zip us, (defScope st).names.lookup y.1 = some .local ∨ ((defScope st).names.lookup y.1 = some .cell ∧ ((cellsFrom (s0.heap.objs.size + 1) (defScope st).names []).lookup y.1).isSome = true) := by
    intro y hy
    have hy1 : y.1 ∈ ps := (List.of_mem_zip (a := y.1) (b := y.2) hy).1
    exact (S.par y.1 hy1).imp id fun z => ⟨z, PySem.W.cellsFrom_some _ _ _ (.inl z)⟩
  have ul : us.length = ps.length := by rw [← rv.length, hvl]
  have bnd : BindsTo s0 (PySem.W.fnOf x qual (defArgs st) (defBody st) (defScope st) .none kV doc pm an cdv ct) ⟨us, []⟩ (ps.zip us) := BindsTo.of_eq (hb us ul)
  have run1 := fun (y1 : Shared) xx =>
    (body A outer s0 H E ⟨⟨⟨hK, hw, rfl, hr.deeper _, passes_call (takes_of rfl rfl rfl rfl) fun _ _ _ _ z => z, S.nd⟩, takes_of rfl rfl rfl rfl, passes_of (X := cxOf (L2.CX P w) P w K mg base N qual (defScope st) fa cdv A outer s0 H E) (K := fun e s'' => L2.CX P w outer H s0 E e s'') rfl⟩, hg⟩).run [] y1 (start N vs) H
      { nx := fun _ H' => Q .non H', rt := Q } (inv_start S hr.hd e0 hvl rv xx)
      ⟨G, lo, h, startA N.length xs, rh, rs_start rvs, .nil, by
        unfold bodyF at q
        cases hz : b lo (startA N.length xs) h with
        | bad => rw [hz] at q; exact q
        | ex e h' => rw [hz] at q; exact q
        | ok fl h' =>
          rw [hz] at q
          cases fl with
          | nx s' => exact fun G' H' σ' e r rs => q G' H' .non e r .non
          | rt x => exact fun G' H' v e r rv => q G' H' v e r rv
          | bk s => exact q.elim
          | ct s => exact q.elim⟩
  refine codeAny_call_function hr.depth (kin _ _ l) rfl S.co S.gen rfl (PySem.W.codeRec_of kin c) (bnd _ _ _ _ ?_)
  refine wpAny_newFunctionEnv_cells S.kind kinds fun env ee y1 xx => ?_
  cases ee
  refine ⟨nolim.keeps xx.toInCall.keep, codeAny_func (wpAny_mono (run1 y1 xx) (fun fl s' z => ?_) fun e s' z => z)⟩
  cases fl with
  | next =>
    obtain ⟨σ', H', J, z⟩ := z
    exact ⟨.non, H', J.os, J.bare, J.base, J.hok, rfl, z⟩
  | ret u =>
    obtain ⟨v, σ', H', J, rz, z⟩ := z
    exact ⟨v, H', J.os, J.bare, J.base, J.hok, rz, z⟩
  | brk => exact z.elim fun _ z => z.elim fun _ z => z.2.elim
  | cont => exact z.elim fun _ z => z.elim fun _ z => z.2.elim
theorem DefC.fnG {x qual : Str} {st : Stmt} {fa cd : Addr} {N ps : List Str} {k m : Nat} {b : MF Fl} (D : DefC K x qual st fa cd) (S : FnScope N ps (defScope st))
    (hb : ∀ (kV doc pm cdv ct : Value) (an : Option Addr) (us : List Value), us.length = ps.length → bindArgs (PySem.W.fnOf x qual (defArgs st) (defBody st) (defScope st) .none kV doc pm an cdv ct) ⟨us, []⟩ = pure (ps.zip us)) (hK : K = C.K) (hw : w = C.w) (hm : ps.length = m)
    (body : ∀ (A : Around) (outer : List Env) (s : Shared) (H : Hp) (E : XK), AtG (cxOf (L2.CX P w) P w K mg base N qual (defScope st) fa (.ref cd) A outer s H E) C E k → PSs (cxOf (L2.CX P w) P w K mg base N qual (defScope st) fa (.ref cd) A outer s H E) (defBody st) (tS C E b)) :
    FnGd P w K mg base C (k + 1) fa m (bodyF N.length b) := by
  obtain ⟨oc, kV, doc, pm, ct, od, an, osl, l, c⟩ := D.ok
  exact fn_gd l c S (hb kV doc pm (.ref cd) ct an) hK hw hm body
theorem DefAt.fnG {x qual : Str} {st : Stmt} {fa : Addr} {N ps : List Str} {k m : Nat} {b : MF Fl} (D : DefAt K x qual st fa) (S : FnScope N ps (defScope st))
    (hb : ∀ (kV doc pm cdv ct : Value) (an : Option Addr) (us : List Value), us.length = ps.length → bindArgs (PySem.W.fnOf x qual (defArgs st) (defBody st) (defScope st) .none kV doc pm an cdv ct) ⟨us, []⟩ = pure (ps.zip us)) (hK : K = C.K) (hw : w = C.w) (hm : ps.length = m)
    (body : ∀ (cdv : Value) (A : Around) (outer : List Env) (s : Shared) (H : Hp) (E : XK), AtG (cxOf (L2.CX P w) P w K mg base N qual (defScope st) fa cdv A outer s H E) C E k → PSs (cxOf (L2.CX P w) P w K mg base N qual (defScope st) fa cdv A outer s H E) (defBody st) (tS C E b)) :
    FnGd P w K mg base C (k + 1) fa m (bodyF N.length b) := by
  obtain ⟨oc, kV, doc, pm, cdv, ct, od, an, osl, l, c⟩ := D.ok
  exact fn_gd l c S (hb kV doc pm cdv ct an) hK hw hm fun A outer s H E W => body cdv A outer s H E W
end
section
variable {X : Cx} {C : Kn} {E : XK} {k j : Nat} {p pos apos : Pos}
/-- the callee runs -/
theorem run_gd {pins : List (Addr × Obj)} {σ : L2.St} {H : Hp} {s : Shared} {Q : VK} {us : List Value} {vs : List V} {a : Addr} {m : Nat} {f : AF} (F : FnGd X.prog X.w X.K X.mg X.base C k a m f) (gd : X.A.guards = some []) (hr : Room k X.A) (hx : Passes (L2.CX X.prog X.w) X E) (I : Inv X pins σ H s) (r : Vals vs us) (h : spF C m f vs H Q E) :
    wpAny (model X.prog X.w) X.A (call (.ref a) us) (EP X pins σ Q) X.xe s := by
  refine wpAny_call (codeAny_mono (F X.A X.stack s H us vs Q E gd hr I.env0 r h) fun z s' hz => ?_)
  match z, hz with
  | .error e, hz => exact hx pins σ H s e s' I hz
  | .ok (.ret u), hz => exact I.after hz
  | .ok .next, hz => exact hz.elim
  | .ok .brk, hz => exact hz.elim
  | .ok .cont, hz => exact hz.elim
/-- a def by its name -/
theorem je_callG {x : Str} {g m : Nat} {f : AF} {fs : MF (List A)} {e : Expr} {es : List Expr} (W : Go X C E k) (gd : X.A.guards = some []) (F : FnGd X.prog X.w X.K X.mg X.base C j (C.gt g) m f) (hj : j ≤ k) (hg : Gl X x) (hm : X.mg x = some (.ref (C.gt g))) (hk : PySem.W.keepIn X.K (.ref (C.gt g)) = true) (ha : PA X (e :: es) (tA C E fs)) (hdb : (x == ("__debug__" : Str)) = false := by decide)
    (he : starEach (e :: es) X.env = (false, eval e X.env) :: starEach es X.env := by rfl) (hpl : (backTo pos (starEach es X.env)).any (·.1) = false := by rfl) : PE X (.Call (.Name x p) (e :: es) [] pos) (tE C E (calF (lenF m f) fs)) := by
  refine ⟨fun pins s σ H Q I c => wpAny_Call_Name_kw (ld_glob I hg hm ?_ hdb)⟩
  exact PySem.W.callWith_K (h₀ := X.base) I.ok.mod.kin hk (thn (ha.run pos pins s σ H _ I (cal_use (r := fun vs H Q => spF C m f vs H Q E) lenF_ok c)) fun us s1 ⟨vs, H1, I1, r, q⟩ => ⟨I1.kIn, run_gd (F.mono hj) gd W.room W.pass I1 r q⟩) he hpl
theorem je_repr {e : Expr} {fs : MF (List A)} (W : Go X C E k) (gd : X.A.guards = some []) (hg : Gl X "repr") (hm : X.mg "repr" = none) (hb : bootBuiltins "repr" = some (.builtin "repr")) (ha : PA X (e :: []) (tA C E fs))
    (hs : starEach (e :: []) X.env = (false, eval e X.env) :: starEach [] X.env := by rfl) (hpl : (backTo pos (starEach [] X.env)).any (·.1) = false := by rfl) : PE X (.Call (.Name "repr" p) [e] [] pos) (tE C E (calF reprO fs)) := by
  have c := call_reprD (X := X) gd (by have := W.room.un; omega)
  rw [W.K] at c
  exact je_callB c reprO_ok hg hm hb ha (he := hs) (hpl := hpl)
end
end MA

set_option linter.all false
set_option maxRecDepth 100000
namespace MA
open PySem L2 SlX LamX
open PySem.Spec PyProof.Rows
/-! ### except c as error: return ("..", "..", error.f) or (.., repr(error.f)) -/
def ret3 (s1 s2 : Str) (th : AX → Hs → Option A) : AX → MF Fl := fun e _ _ h => match th e h with
  | some x => .ok (.rt (.tup [.str s1, .str s2, x])) h
  | none => .bad
/-- what an exception of the class numbered c bears -/
def argT (c : Nat) : AX → Hs → Option A := fun e _ => if Nat.beq e.cls c then e.arg else none
def repT (c : Nat) : AX → Hs → Option A := fun e h => match argT c e h with
  | some x => (reprT h x).map .str
  | none => none
/-- e3 hands on what th tells -/
def Gives (X : Cx) (C : Kn) (i : Nat) (a : Addr) (cls : Value) (d : Option Addr) (e3 : Expr) (th : AX → Hs → Option A) : Prop := ∃ t3 : TE, PE X e3 t3 ∧
  ∀ (e : AX) (G : Loc) (h : Hs) (σ : L2.St) (H : Hp) (x : A) (Q : VK), Rh C G h H → σ[i]? = some (some (.ref a)) → RX C G h.length H e cls d → th e h = some x → (∀ v, RV C G h.length H x v → Q v H) → t3 σ H Q
theorem hd_ret3 {X : Cx} {C : Kn} {i n : Nat} {a : Addr} {cls : Value} {d : Option Addr} {s1 s2 : Str} {e3 : Expr} {th : AX → Hs → Option A} {j1 j2 kk} {p1 p2 p3 p4 : Pos} (hi : i < n) (g : Gives X C i a cls d e3 th)
    (st2 : starEach [.Constant (.str s2) j2 p2, e3] X.env = (false, eval (.Constant (.str s2) j2 p2) X.env) :: starEach [e3] X.env := by rfl) (st1 : starEach [.Constant (.str s1) j1 p1, .Constant (.str s2) j2 p2, e3] X.env = (false, eval (.Constant (.str s1) j1 p1) X.env) :: starEach [.Constant (.str s2) j2 p2, e3] X.env := by rfl)
    (st3 : starEach [e3] X.env = (false, eval e3 X.env) :: starEach [] X.env := by rfl) :
    PSs X [.Return (some (.Tuple [.Constant (.str s1) j1 p1, .Constant (.str s2) j2 p2, e3] kk p3)) p4] (tsX C (some i) n (ret3 s1 s2 th) a cls d) := by
  obtain ⟨t3, he, use⟩ := g
  refine impSs (pss_one (ps_ret (pe_tup (pa_cons pe_str (pa_cons pe_str (pa_cons he pa_nil st3) st2) st1)))) fun D σ H c => ?_
  obtain ⟨e, G, lo, h, rh, hl, hσ, rx, q⟩ := c
  cases hx : th e h with
  | none =>
    unfold ret3 at q
    rw [hx] at q
    exact q.elim
  | some x =>
    unfold ret3 at q
    rw [hx] at q
    refine use e G h σ H x _ rh (hσ i rfl hi) rx hx fun v rv => ⟨by show 3 ≤ sizeLine; rw [sizeLine_eq]; omega, fun p hp => ?_⟩
    have f : fin (relV C) C (fun _ _ _ => False) G lo h.length H (.ok (.tup [.str s1, .str s2, x]) h) fun w H' => D.rt w H' := fun G' H' w e r rw => q G' H' w e r rw
    exact fin_tup f rh (.cons (.str s1) (.cons (.str s2) (.cons rv .nil))) hp
section
variable {X : Cx} {C : Kn} {i c : Nat} {a : Addr} {oe : Obj} {cls : Value} {d : Option Addr} {pn : List (Addr × Obj)} {n f : Str} {pos p : Pos}
theorem gives_arg (hK : X.K = C.K) (T : XfC C.K (C.gt c)) (hno : PySem.W.findIn C.K (.ref (C.gt c)) f = some none) (hf : C.xf c = f) (hz : Zc cls d oe) (hd : ∃ vs, oe.data = .fields vs) (hN : X.N[i]? = some n) (hv : Vis X.env.scope n)
    (hb : attributeBase (.Name n p) f X.env (eval (.Name n p) X.env) = eval (.Name n p) X.env := by rfl) (hdb : (n == ("__debug__" : Str)) = false := by decide) (hcd : (n == ("__classdict__" : Str)) = false := by decide) :
    Gives (X.suite a ((a, oe) :: pn)) C i a cls d (.Attribute (.Name n p) f pos) (argT c) := by
  rw [← hK] at T hno
  refine ⟨_, pe_xf T hno hz hd (pe_var (X := X.suite a ((a, oe) :: pn)) (i := i) hN hv hdb hcd) hb, fun e G h σ H x Q rh hσ rx hx k => ?_⟩
  unfold argT at hx
  by_cases hc : Nat.beq e.cls c = true
  · have hx' : e.arg = some x := (if_pos hc).symm.trans hx
    have ec : e.cls = c := Nat.eq_of_beq_eq_true hc
    obtain ⟨r1, r2⟩ := rx
    rw [hx'] at r2
    obtain ⟨dx, v, ed, eH, rv⟩ := r2
    rw [ec] at r1 eH
    refine ⟨.ref a, hσ, rfl, r1, dx, _, v, ed, eH, ?_, k v rv⟩
    rw [hf]
    exact List.lookup_cons_self
  · have z := (if_neg hc).symm.trans hx
    cases z
theorem gives_rep {e : Expr} {q : Pos} {th : AX → Hs → Option A} (hK : X.K = C.K) (gd : X.A.guards = some []) (hu : X.A.units + 100 < cLine) (hg : Gl X "repr") (hm : X.mg "repr" = none) (hb : bootBuiltins "repr" = some (.builtin "repr")) (g : Gives X C i a cls d e th)
    (hs : starEach (e :: []) X.env = (false, eval e X.env) :: starEach [] X.env := by rfl) (hpl : (backTo pos (starEach [] X.env)).any (·.1) = false := by rfl) :
    Gives X C i a cls d (.Call (.Name "repr" q) [e] [] pos) (fun e h => match th e h with | some x => (reprT h x).map .str | none => none) := by
  obtain ⟨t3, he, use⟩ := g
  have cr := call_reprD gd hu
  refine ⟨_, pe_callB cr hg hm hb (pa_cons he pa_nil hs) (he := hs) (hpl := hpl), fun e G h σ H x Q rh hσ rx hx k => ?_⟩
  replace hx : (match th e h with | some x => (reprT h x).map A.str | none => none) = some x := hx
  cases ht : th e h with
  | none => rw [ht] at hx; cases hx
  | some y =>
    rw [ht] at hx
    replace hx : (reprT h y).map A.str = some x := hx
    cases hr : reprT h y with
    | none => rw [hr] at hx; cases hx
    | some t =>
      rw [hr] at hx
      cases hx
      refine use e G h σ H y _ rh hσ rx ht fun v rv => ?_
      obtain ⟨dd, h1, h2, h3, h4, h5, rfl⟩ := reprT_dp rh hr rv
      rw [← hK] at h1
      exact ⟨v, dd, rfl, h1, h2, h3, h4, h5, k _ (.str _)⟩
end
end MA

set_option linter.all false
set_option maxRecDepth 100000
namespace MA
open PySem L2 SlX LamX
open PySem.Spec PyProof.Rows
/-! ### the end of a law whose def is promised where no repr is under way -/
def EndG (l : PySem.W.OpenLaw) (w : World) (K : PySem.W.Frag) (k : Nat) (mg : Str → Option Value) (fa : Addr) (h : Heap) : Prop :=
  ∃ (C : Kn) (f : AF) (cs : List (Addr × Addr)), K = C.K ∧ (∀ p ∈ cs, h.get? p.2 = some { cls := .none, data := .fields #[] }) ∧ (∀ p ∈ cs, K.lookup p.2 = none) ∧ (∀ p ∈ cs, PySem.W.CodeHd h p.1 p.2) ∧ (∀ p ∈ C.T, p.1 ∈ cs.map (·.2)) ∧
    (∀ base : Heap, (∀ p ∈ cs, TabB base mg p.1 p.2) → FnGd l.prog w K mg base C k fa 1 f) ∧ ∀ ns : List Int, ∃ h', f [.lit ns] 0 [] = .ok (.bl true) h'
/-- what is tracked at the start: the tables, and the script where it is not of the written part -/
def startH (T : List Addr) (a : Addr) (u : Option HO) : Hp := fun b => if b ∈ T then some (.tbl #[]) else if b = a then u else none
section
variable {T : List Addr} {a b : Addr} {u : Option HO}
theorem startH_in (h : b ∈ T) : startH T a u b = some (.tbl #[]) := if_pos h
theorem startH_a (h : a ∉ T) : startH T a u a = u := (if_neg h).trans (if_pos rfl)
theorem startH_out (h : b ∉ T) (h2 : b ≠ a) : startH T a u b = none := (if_neg h).trans (if_neg h2)
theorem startH_some {o : HO} (e : startH T a u b = some o) : (b ∈ T ∧ o = .tbl #[]) ∨ (b ∉ T ∧ b = a ∧ u = some o) := by
  by_cases h : b ∈ T
  · rw [startH_in h] at e
    exact .inl ⟨h, (Option.some.inj e).symm⟩
  · by_cases h2 : b = a
    · subst h2
      rw [startH_a h] at e
      exact .inr ⟨h, rfl, e⟩
    · rw [startH_out h h2] at e
      cases e
end
theorem end_run {P : Program} {w : World} {C : Kn} {mg mb : Str → Option Value} {k : Nat} {fa a : Addr} {cs : List (Addr × Addr)} {s₁ : Shared} {vs : List Value} {ns : List Int} {f : AF} (KX : C.K.In s₁.heap) (nsG : s₁.heap.Ns mainGlobals mg) (nsB : s₁.heap.Ns builtinsNs mb)
    (boot : ∀ x : Str, x ≠ "__name__" → mb x = bootBuiltins x) (lim : s₁.heap.NoLimit) (gens : s₁.gens = #[]) (tab : ∀ p ∈ cs, s₁.heap.get? p.2 = some { cls := .none, data := .fields #[] }) (notK : ∀ p ∈ cs, C.K.lookup p.2 = none) (heads : ∀ p ∈ cs, PySem.W.CodeHd s₁.heap p.1 p.2)
    (bmod : ∃ (bm : Addr) (ob : Obj), mg "__builtins__" = some (.ref bm) ∧ bm ≠ builtinsNs ∧ s₁.heap.get? bm = some ob ∧ ob.cls = .type "module" ∧ ob.dict = some builtinsNs ∧ ob.data = .plain) (tabs : ∀ p ∈ C.T, p.1 ∈ cs.map (·.2))
    (script : s₁.heap.get? a = some { cls := .type "list", data := .seq vs.toArray }) (hint : IntsAre vs ns) (len : ns.length ≤ sizeLine) (room : Room k callerA) (F : ∀ base : Heap, (∀ p ∈ cs, TabB base mg p.1 p.2) → FnGd P w C.K mg base C k fa 1 f) (law0 : ∀ ns : List Int, ∃ h', f [.lit ns] 0 [] = .ok (.bl true) h') :
    codeAny (model P w) callerA (.call (.ref fa) ⟨[.ref a], []⟩) (fun r s' => r = .ok (.ret (.bool true)) ∧ OldK s₁.heap s'.heap ∧ s'.os = s₁.os ∧ AllBare s'.gens) s₁ := by
  have vints := vals_ints hint
  have vlen := hint.length
  obtain ⟨T, hTT⟩ : ∃ T : List Addr, T = cs.map (·.2) := ⟨_, rfl⟩
  have inT : ∀ p ∈ cs, p.2 ∈ T := fun p hp => by rw [hTT]; exact List.mem_map.mpr ⟨p, hp, rfl⟩
  have ofT : ∀ {b}, b ∈ T → ∃ p ∈ cs, p.2 = b := fun hb => by
    rw [hTT] at hb
    exact List.mem_map.mp hb
  have emptyT : ∀ {b}, b ∈ T → s₁.heap.get? b = some { cls := .none, data := .fields #[] } := fun hb => by
    obtain ⟨p, hp, rfl⟩ := ofT hb
    exact tab p hp
  have aT : a ∉ T := fun hb => by
    have z := emptyT hb
    rw [script] at z
    have z2 := congrArg Obj.cls (Option.some.inj z)
    cases z2
  obtain ⟨u, lit, uo, uk⟩ : ∃ u : Option HO, LitL C.K (startH T a u) a ns ∧ (∀ o, u = some o → ObjOk P w (startH T a u) s₁.heap a o ∧ ∃ ob xs, o = .frz ob (.lst xs)) ∧ (u ≠ none → C.K.lookup a = none) := by
    cases hk : C.K.lookup a with
    | some o =>
      have e := KX a o hk
      rw [script] at e
      have e' := Option.some.inj e
      subst e'
      refine ⟨none, .inr ⟨_, vs.toArray, _, hk, rfl, rfl, rfl, ?_, ?_⟩, fun o z => (by cases z), fun z => absurd rfl z⟩
      · rw [List.size_toArray, vlen]
        exact len
      · simpa using vints
    | none =>
      refine ⟨some (.frz { cls := .type "list", data := .seq vs.toArray } (.lst (ns.map V.int))), .inl ⟨_, startH_a aT⟩, fun o z => ?_, fun _ => rfl⟩
      cases z
      exact ⟨⟨script, by rw [List.length_map]; exact len, vs, _, vints, script⟩, _, _, rfl⟩
  obtain ⟨H, hH⟩ : ∃ H : Hp, H = startH T a u := ⟨_, rfl⟩
  rw [← hH] at lit uo
  have hin : ∀ {b}, b ∈ T → H b = some (.tbl #[]) := fun hb => by rw [hH]; exact startH_in hb
  have free : ∀ {b : Addr} {o : Obj}, s₁.heap.get? b = some o → b ≠ a → o.data ≠ .fields #[] → H b = none := fun {b o} e na nd => by
    rw [hH]
    refine startH_out (fun hb => ?_) na
    rw [emptyT hb] at e
    cases e
    exact nd rfl
  have freeD : ∀ {b : Addr} {o : Obj} {es : Array DictEntry} {ep : Nat}, s₁.heap.get? b = some o → o.data = .dict es ep → H b = none := fun {b o es ep} e d => by
    refine free e (fun z => ?_) (fun z => ?_)
    · subst z
      rw [script] at e
      cases e
      cases d
    · rw [z] at d
      cases d
  have hb0 : ∀ {b : Addr} {o : Obj}, s₁.heap.get? b = some o → H b = none → (hidT s₁.heap H).get? b = some o := fun e n => hidT_get e n
  have nsOf : ∀ {b : Addr} {m : Str → Option Value}, s₁.heap.Ns b m → (hidT s₁.heap H).Ns b m := fun {b m} z => by
    obtain ⟨o, es, ep, e, d, r⟩ := z
    exact ⟨o, es, ep, hb0 e (freeD e d), d, r⟩
  have kin : C.K.In (hidT s₁.heap H) := fun b o e => by
    refine hb0 (KX b o e) ?_
    cases hz : H b with
    | none => rfl
    | some q =>
      rw [hH] at hz
      rcases startH_some hz with ⟨hb, _⟩ | ⟨_, rfl, hu⟩
      · obtain ⟨p, hp, rfl⟩ := ofT hb
        rw [notK p hp] at e
        cases e
      · rw [uk (by rw [hu]; exact Option.some_ne_none _)] at e
        cases e
  have md : L2.Mod C.K mg (hidT s₁.heap H) := by
    refine ⟨kin, nsOf nsG, ⟨mb, nsOf nsB, boot⟩, ?_⟩
    obtain ⟨mc, z1, z2⟩ := lim
    exact ⟨mc, nsOf z1, z2⟩
  have tb : ∀ p ∈ cs, TabB (hidT s₁.heap H) mg p.1 p.2 := fun p hp => by
    obtain ⟨og, es, ep, eg, dg, _⟩ := nsG
    refine ⟨?_, ?_, fun z => ?_⟩
    · obtain ⟨o, us, file, tf, flags, tg, inF, text, tt, c1, c2, c3, rest⟩ := heads p hp
      refine ⟨o, us, file, tf, flags, tg, inF, text, tt, hb0 c1 (free c1 (fun z => ?_) fun z => ?_), c2, c3, rest⟩
      · rw [z, script] at c1
        cases c1
        cases c3
      · rw [c3] at z
        cases z
        simp at rest
    · obtain ⟨bm, ob, m1, m2, m3, m4, m5, m6⟩ := bmod
      refine ⟨bm, ob, m1, m2, fun z => ?_, fun z => ?_, hb0 m3 (free m3 (fun z => ?_) fun z => ?_), m4, m5, m6⟩
      · rw [z, eg] at m3
        cases m3
        rw [dg] at m6
        cases m6
      · rw [z, tab p hp] at m3
        cases m3
        cases m6
      · rw [z, script] at m3
        cases m3
        cases m6
      · rw [m6] at z
        cases z
    · rw [z, tab p hp] at eg
      cases eg
      cases dg
  have hok : HOk P w H s₁.heap := fun b o e => by
    have e' := e
    rw [hH] at e'
    rcases startH_some e' with ⟨hb, rfl⟩ | ⟨_, rfl, hu⟩
    · exact emptyT hb
    · exact (uo o hu).1
  have frB : ∀ b ∈ frs ([] : List Env), H b = none := fun b hb => (List.not_mem_nil hb).elim
  have env : Env0 P w C.K mg (hidT s₁.heap H) callerA [] s₁ H := { frames := rfl, mod := md, bs := fun b o e => of_hidT e, bsz := Nat.le_of_eq (hidT_size _ _), funs := trivial, frf := frB, hok := hok, bare := .of_eq gens }
  have tk : Tabs C.T H := tabs_empty fun p hp => hin (by rw [hTT]; exact tabs p hp)
  obtain ⟨h', e'⟩ := law0 ns
  have sp : spF C 1 f [.ref a] H (fun v _ => v = .bl true) fun _ _ _ => False := by
    refine ⟨rfl, fun _ => a, 0, [], [.lit ns], ⟨fun i j hi => absurd hi (Nat.not_lt_zero _), fun i o z => (by cases i <;> cases z), tk⟩, .cons (.lit lit) .nil, ?_⟩
    rw [e']
    intro G' H' v _ _ rv
    cases rv
    rfl
  refine codeAny_mono (F _ tb callerA [] s₁ H [.ref a] [.ref a] _ _ rfl room env (.cons rfl .nil) sp) fun r s' z => ?_
  match r, z with
  | .error e, z => exact (cx_false H s₁ e s' z).elim
  | .ok .next, z => exact z.elim
  | .ok .brk, z => exact z.elim
  | .ok .cont, z => exact z.elim
  | .ok (.ret v), ⟨x, H', os, bare, un, hok', rx, hx⟩ =>
    subst hx
    cases rx
    have keep : ∀ b o, b ∉ T → s₁.heap.get? b = some o → s'.heap.get? b = some o := fun b o nb e => by
      cases hz : H b with
      | none => exact un.keep b o e hz List.not_mem_nil List.not_mem_nil
      | some q =>
        have hz' := hz
        rw [hH] at hz'
        rcases startH_some hz' with ⟨hb, _⟩ | ⟨_, rfl, hu⟩
        · exact (nb hb).elim
        · obtain ⟨_, ob, xs, rfl⟩ := uo q hu
          have o1 : s₁.heap.get? b = some ob := (hok b _ hz).1
          have o2 : s'.heap.get? b = some ob := (hok' b _ (un.frzs b ob _ hz)).1
          rw [o1] at e
          cases e
          exact o2
    have more : ∀ {b}, b ∈ T → ∃ ps : Array Value, s'.heap.get? b = some { cls := .none, data := .fields ps } := fun hb => by
      obtain ⟨ps, z⟩ := un.tbls _ #[] (hin hb)
      exact ⟨_, hok' _ _ z⟩
    refine ⟨rfl, ⟨fun b o e => ?_, fun b o e => ?_⟩, os, bare⟩
    · by_cases hb : b ∈ T
      · obtain ⟨p, hp, rfl⟩ := ofT hb
        obtain ⟨ps, z⟩ := more hb
        rw [tab p hp] at e
        cases e
        exact .inr (.inl ⟨((heads p hp).tab (tab p hp)).isCodeTable, rfl, #[], ps, rfl, by rw [Array.empty_append]; exact z⟩)
      · exact .inl (keep b o hb e)
    · by_cases hb : b ∈ T
      · obtain ⟨ps, z⟩ := more hb
        exact ⟨_, z⟩
      · exact ⟨o, keep b o hb e⟩
theorem walkG {l : PySem.W.OpenLaw} {n k : Nat} {q : Program} {loose : List Str} {XP : (Str → Option Value) → Heap → Prop} {YP : World → Heap → Prop} {d : DefRec} {K : Params → PySem.W.Frag} (hn : l.most = some n) (hs : n ≤ sizeLine) (df : d.params.defaults = []) (room : Room k callerA)
    (inY : ∀ (w : World) (h : Heap), YP w h → (K w.params).In h) (F : ∀ (w : World) (mg : Str → Option Value) (fa : Addr) (h : Heap), YP w h → (K w.params).In h → h.Ns mainGlobals mg → mg d.name = some (.ref fa) → EndG l w (K w.params) k mg fa h) :
    PySem.W.WalkO q loose XP YP l.row.toRowW d [] (fun f vs => PySem.call f vs) :=
  Att.attach_callB hn df fun w s₀ s₁ mg mb fa o pm cd doc a vs ns G Y ho hd hcd hmg script hint len bits gens => by
    have KX := inY w _ Y
    obtain ⟨C, f, cs, hK, t1, t2, t3, t4, hF, l0⟩ := F w mg fa _ Y KX G.T.g hmg
    rw [hK] at KX t2 hF
    exact end_run KX G.T.g G.T.b G.T.builtins G.T.nolimit gens t1 t2 t3 G.T.bmain t4 script hint (Nat.le_trans len hs) room hF l0
end MA

set_option linter.all false
set_option maxRecDepth 100000
namespace MA
open PySem L2 SlX LamX
open PySem.Spec PyProof.Rows
/-! ### an own exception class with one field -/
structure Exn1 (P : Program) (K : PySem.W.Frag) (mg : Str → Option Value) (C : Kn) (x : Str) (c : Nat) (qual : Str) (st : Stmt) (y : Str) : Prop where
  ex : ∃ (fI cc cda : Addr) (B newId initId : String) (bmB : List Value), ExF P K mg (C.gt c) fI cc cda B newId initId bmB qual st y
  m : mg x = some (.ref (C.gt c))
  xf : C.xf c = y
  arg : XfC K (C.gt c)
  no : PySem.W.findIn K (.ref (C.gt c)) y = some none
section
variable {X : Cx} {C : Kn} {E : XK} {k : Nat}
theorem Exn1.mk' {x y qual : Str} {c : Nat} {st : Stmt} {e : Expr} {f : MF A} {p pos : Pos} (T : Exn1 X.prog X.K X.mg C x c qual st y) (Tx : ExT st y) (hr : Room (k + 1) X.A) (hg : Gl X x) (he : PE X e (tE C E f)) (hdb : (x == ("__debug__" : Str)) = false := by decide)
    (hs : starEach [e] X.env = (false, eval e X.env) :: starEach [] X.env := by rfl) (hpl : (backTo pos (starEach [] X.env)).any (·.1) = false := by rfl) :
    PMk X (.Call (.Name x p) [e] [] pos) (fun σ H Q => tE C E f σ H fun v H1 => ∀ d, H1 d = none → Q (.ref (C.gt c)) (some d) (upd H1 d (.xd [(C.xf c, v)]))) := by
  obtain ⟨fI, cc, cda, B, newId, initId, bmB, z⟩ := T.ex
  rw [T.xf]
  exact pmk_ex z Tx hr hg T.m he hdb hs hpl
end
/-- the same, told of a known address -/
structure ExnF (P : Program) (K : PySem.W.Frag) (mg : Str → Option Value) (x : Str) (g : Addr) (qual : Str) (st : Stmt) (y : Str) : Prop where
  ex : ∃ (fI cc cda : Addr) (B newId initId : String) (bmB : List Value), ExF P K mg g fI cc cda B newId initId bmB qual st y
  m : mg x = some (.ref g)
  arg : XfC K g
  no : PySem.W.findIn K (.ref g) y = some none
theorem ExnF.exn1 {P : Program} {K : PySem.W.Frag} {mg : Str → Option Value} {C : Kn} {x qual y : Str} {c : Nat} {g : Addr} {st : Stmt} (X : ExnF P K mg x g qual st y) (e : C.gt c = g) (e2 : C.xf c = y) : Exn1 P K mg C x c qual st y := by
  subst e
  exact ⟨X.ex, X.m, e2, X.arg, X.no⟩
section
open PySem.W
variable {P : Program} {K : Frag} {h : Heap} {mg : Str → Option Value} {x qual y : Str} {st : Stmt} {g fI cc cda : Addr} {B newId initId : String} {bmB : List Value} {oc kV doc pm ct cl ccl : Value} {od an cld cdd : Option Addr} {osl csl ccs : Array (Option Value)} {vs : Array Value} {fl : Str} {tf : Tok}
theorem exn1_all (st : Stmt) (F : ExcBaseFacts B newId initId bmB) (Fx : KxsFacts B initId) (Fs : StoreFacts B bmB "object.__setattr__" "object") (KX : K.In h) (G : h.Ns mainGlobals mg) (a : nsIn K mainGlobals x = some (some (.ref g))) (exc : excInitIn K g bmB newId = true) (ini : findIn K (.ref g) "__init__" = some (some (.ref fI))) (fty : typeIn K (.ref fI) = some (.type "function"))
    (l : K.lookup fI = some ⟨oc, od, .func (ksFn "__init__" qual (defArgs st) (defBody st) (defScope st) .none kV doc pm an (.ref cda) ct cc), osl⟩)
    (code : codeIn K (.ref cda) qual = true) (cell : K.lookup cc = some ⟨cl, cld, .cell (some (.ref g)), csl⟩) (file : K.lookup cda = some ⟨ccl, cdd, .fields vs, ccs⟩) (file2 : vs[2]? = some (.str fl tf)) (file3 : ((P.main.file : Str) == fl) = true) (top : (P.main.scope.names.lookup ("super" : Str)).isSome = false) (sup : nsIn K mainGlobals "super" = some none)
    (sin : ks_superIn K g g "__init__" = some (some (.builtin initId))) (self : mroIn K g (.ref g) = some true) (subB : subIn K (.ref g) (.type B) = some true) (opq : nsIn K cStatics "thirdparty.any" = some none) (sa : findIn K (.ref g) "__setattr__" = some (some (.builtin "object.__setattr__"))) (over : excOver K g bmB = true) (no : takerIn K g y = some none)
    (hd : hasDictIn K g = true) (exC : subIn K (.ref g) (.type "BaseException") = some true) (tyC : typeIn K (.ref g) = some (.type "type")) (kC : keepIn K (.ref g) = true) (ga : findIn K (.ref g) "__getattribute__" = some (some (.builtin "BaseException.__getattribute__"))) (gg : findIn K (.ref g) "__getattr__" = some none) (no2 : findIn K (.ref g) y = some none)
    (bd : ∀ (s : Shared) (e : Addr) (u : Value), BindsTo s (ksFn "__init__" qual (defArgs st) (defBody st) (defScope st) .none kV doc pm an (.ref cda) ct cc) ⟨[.ref e, u], []⟩ [("self", .ref e), (y, u)]) :
    ExnF P K mg x g qual st y :=
  ⟨⟨fI, cc, cda, B, newId, initId, bmB, { base := F, kxs := Fx, sf := Fs, exc := exc, ini := ini, fty := fty, fn := ⟨_, _, _, _, _, _, _, _, _, l, bd⟩, code := code, cell := ⟨_, _, _, cell⟩, file := ⟨_, _, _, _, _, _, file, file2, file3⟩, top := top, sup := mg_none_of KX G sup, sin := sin, self := self, subB := subB, opq := opq, sa := sa, over := over, no := no, hd := hd, exC := exC, tyC := tyC, kC := kC }⟩,
    mg_of KX G a, ⟨ga, gg, exC, hd⟩, no2⟩
theorem meth_all {C f : Addr} {m : Str} (KX : K.In h) (a : Meth K C m f) : Meth K C m f := a
end
end MA

set_option linter.all false
set_option maxRecDepth 100000
namespace MA
open PySem L2 SlX LamX
open PySem.Spec PyProof.Rows
/-! ### what is new is forgotten: behind a call (the elder things may have changed), behind a block (they may not) -/
def AO.old (n : Nat) : AO → Bool
  | .lst xs => A.olds n xs
  | .flst xs => A.olds n xs
  | .dk kvs => kvs.all fun p => p.2.old n
  | .dt kvs => kvs.all fun p => p.2.old n
  | .ins _ fs => fs.all fun o => match o with | some x => x.old n | none => true
  | .set _ => true
section
variable {C : Kn} {G : Loc} {n n' : Nat} {H : Hp}
theorem ext_le (h : n ≤ n') : Ext 0 n G H n' G H := ⟨h, fun _ _ => rfl, fun _ _ e _ => e, fun _ _ _ e => e, fun _ _ _ => rfl, fun _ _ e => .inl e⟩
theorem rvs_back (h : n ≤ n') : ∀ {xs : List A} {vs : List V}, RVs C G n' H xs vs → A.olds n xs = true → RVs C G n H xs vs
  | _, _, .nil, _ => .nil
  | _, _, .cons r t, o => by
    have o' := Bool.and_eq_true_iff.mp (show (_ && _) = true from o)
    exact .cons (r.back (ext_le h) o'.1) (rvs_back h t o'.2)
theorem rks_back {κ : Type} (h : n ≤ n') : ∀ {xs : List (κ × A)} {ys : List (κ × V)}, RKs C G n' H xs ys → (xs.all fun p => p.2.old n) = true → RKs C G n H xs ys := by
  intro xs ys r
  induction r with
  | nil => exact fun _ => .nil
  | cons r t ih =>
    intro o
    rw [List.all_cons, Bool.and_eq_true] at o
    exact .cons ⟨r.1, r.2.back (ext_le h) o.1⟩ (ih o.2)
theorem ro_back (h : n ≤ n') {o : AO} {a : Addr} (r : RO C G n' H o a) (q : o.old n = true) : RO C G n H o a := by
  cases r with
  | lst e t => exact .lst e (rvs_back h t q)
  | flst e t => exact .flst e (rvs_back h t q)
  | dk e t => exact .dk e (rks_back h t q)
  | dt e t => exact .dt e (rks_back h t q)
  | ins ne s t =>
    refine .ins ne s fun i x e => ?_
    obtain ⟨v, e2, rv⟩ := t i x e
    have m := List.all_eq_true.mp (show (List.all _ _) = true from q) (some x) (List.mem_of_getElem? e)
    exact ⟨v, e2, rv.back (ext_le h) m⟩
  | set e k => exact .set e k
theorem rh_take {h' : Hs} (le : n ≤ h'.length) (r : Rh C G h' H) (q : (h'.take n).all (AO.old n) = true) : Rh C G (h'.take n) H := by
  have hl : (h'.take n).length = n := by rw [List.length_take]; omega
  refine ⟨fun i j hi hj e => ?_, fun i o e => ?_, r.tab⟩
  · rw [hl] at hi hj
    exact r.inj i j (by omega) (by omega) e
  · have hi : i < n := by have := Rh.lt e; omega
    rw [hl]
    have e' : h'[i]? = some o := by rw [List.getElem?_take] at e; rw [if_pos hi] at e; exact e
    exact ro_back le (r.obj i o e') (List.all_eq_true.mp q o (List.mem_of_getElem? e))
end
def trimF (f : AF) : AF := fun xs lo h => match f xs lo h with
  | .ok x h' => if (x.old h.length && (h'.take h.length).all (AO.old h.length)) then .ok x (h'.take h.length) else .bad
  | .ex e h' => if (e.old h.length && (h'.take h.length).all (AO.old h.length)) then .ex e (h'.take h.length) else .bad
  | .bad => .bad
theorem trimF_ok {C : Kn} {E : XK} {f : AF} {r : List V → Hp → VK → Prop} (o : OpL C E f r) : OpL C E (trimF f) r := fun G lo h H xs vs Q rh rv q => by
  refine o G lo h H xs vs Q rh rv ?_
  unfold trimF at q
  cases hz : f xs lo h with
  | bad => rw [hz] at q; exact q
  | ok x h' =>
    rw [hz] at q
    by_cases c : (x.old h.length && (h'.take h.length).all (AO.old h.length)) = true
    · have q' : fin (relV C) C E G lo h.length H (.ok x (h'.take h.length)) Q := by simpa only [c, if_true] using q
      rw [Bool.and_eq_true] at c
      intro G' H' v e r rv
      have hl : (h'.take h.length).length = h.length := by rw [List.length_take]; have := e.le; omega
      have e1 : Ext lo h.length G H (h'.take h.length).length G' H' := by
        rw [hl]
        exact ⟨Nat.le_refl _, e.at_, e.stb, e.frz, e.low, e.own⟩
      refine q' G' H' v e1 (rh_take e.le r c.2) ?_
      rw [hl]
      exact rv.back (ext_le e.le) c.1
    · have q' : fin (relV C) C E G lo h.length H (R.bad) Q := by simpa only [c, Bool.false_eq_true, if_false] using q
      exact q'.elim
  | ex x h' =>
    rw [hz] at q
    by_cases c : (x.old h.length && (h'.take h.length).all (AO.old h.length)) = true
    · have q' : fin (relV C) C E G lo h.length H (.ex x (h'.take h.length)) Q := by simpa only [c, if_true] using q
      rw [Bool.and_eq_true] at c
      intro G' H' cl d e r rx
      have hl : (h'.take h.length).length = h.length := by rw [List.length_take]; have := e.le; omega
      have e1 : Ext lo h.length G H (h'.take h.length).length G' H' := by
        rw [hl]
        exact ⟨Nat.le_refl _, e.at_, e.stb, e.frz, e.low, e.own⟩
      refine q' G' H' cl d e1 (rh_take e.le r c.2) ?_
      rw [hl]
      exact rx_back (ext_le e.le) rx c.1
    · have q' : fin (relV C) C E G lo h.length H (R.bad) Q := by simpa only [c, Bool.false_eq_true, if_false] using q
      exact q'.elim
section
variable {X : Cx} {C : Kn} {E : XK} {k j : Nat} {p pos apos : Pos}
theorem je_callT {x : Str} {g m : Nat} {f : AF} {fs : MF (List A)} {e : Expr} {es : List Expr} (W : Go X C E k) (F : FnM X.prog X.w X.K X.mg X.base C j (C.gt g) m f) (hj : j ≤ k) (hg : Gl X x) (hm : X.mg x = some (.ref (C.gt g))) (hk : PySem.W.keepIn X.K (.ref (C.gt g)) = true) (ha : PA X (e :: es) (tA C E fs)) (hdb : (x == ("__debug__" : Str)) = false := by decide)
    (he : starEach (e :: es) X.env = (false, eval e X.env) :: starEach es X.env := by rfl) (hpl : (backTo pos (starEach es X.env)).any (·.1) = false := by rfl) : PE X (.Call (.Name x p) (e :: es) [] pos) (tE C E (calF (trimF (lenF m f)) fs)) := by
  refine ⟨fun pins s σ H Q I c => wpAny_Call_Name_kw (ld_glob I hg hm ?_ hdb)⟩
  exact PySem.W.callWith_K (h₀ := X.base) I.ok.mod.kin hk (thn (ha.run pos pins s σ H _ I (cal_use (r := fun vs H Q => spF C m f vs H Q E) (trimF_ok lenF_ok) c)) fun us s1 ⟨vs, H1, I1, r, q⟩ => ⟨I1.kIn, wpAny_call (run_fnR (F.mono hj) W.room W.pass I1 r q)⟩) he hpl
theorem je_callGT {x : Str} {g m : Nat} {f : AF} {fs : MF (List A)} {e : Expr} {es : List Expr} (W : Go X C E k) (gd : X.A.guards = some []) (F : FnGd X.prog X.w X.K X.mg X.base C j (C.gt g) m f) (hj : j ≤ k) (hg : Gl X x) (hm : X.mg x = some (.ref (C.gt g))) (hk : PySem.W.keepIn X.K (.ref (C.gt g)) = true) (ha : PA X (e :: es) (tA C E fs)) (hdb : (x == ("__debug__" : Str)) = false := by decide)
    (he : starEach (e :: es) X.env = (false, eval e X.env) :: starEach es X.env := by rfl) (hpl : (backTo pos (starEach es X.env)).any (·.1) = false := by rfl) : PE X (.Call (.Name x p) (e :: es) [] pos) (tE C E (calF (trimF (lenF m f)) fs)) := by
  refine ⟨fun pins s σ H Q I c => wpAny_Call_Name_kw (ld_glob I hg hm ?_ hdb)⟩
  exact PySem.W.callWith_K (h₀ := X.base) I.ok.mod.kin hk (thn (ha.run pos pins s σ H _ I (cal_use (r := fun vs H Q => spF C m f vs H Q E) (trimF_ok lenF_ok) c)) fun us s1 ⟨vs, H1, I1, r, q⟩ => ⟨I1.kIn, run_gd (F.mono hj) gd W.room W.pass I1 r q⟩) he hpl
end
/-! ### a block -/
def keepO (n : Nat) (s : Sl) : Sl := s.map fun o => match o with | some x => if x.old n then some x else none | none => none
def pureS (b : MF Fl) : MF Fl := fun _ s h => match b h.length s h with
  | .ok (.nx s') _ => .ok (.nx (keepO h.length s')) h
  | .ok (.bk s') _ => .ok (.bk (keepO h.length s')) h
  | .ok (.ct s') _ => .ok (.ct (keepO h.length s')) h
  | .ok (.rt x) _ => if x.old h.length then .ok (.rt x) h else .bad
  | .ex e _ => if e.old h.length then .ex e h else .bad
  | .bad => .bad
theorem keepO_rs {C : Kn} {G G' : Loc} {lo n n' : Nat} {H H' : Hp} {s : Sl} {σ : L2.St} (e : Ext lo n G H n' G' H') (r : RS C G' n' H' s σ) : RS C G n H' (keepO n s) σ := by
  refine ⟨by rw [← r.1]; exact List.length_map .., fun i x z => ?_⟩
  unfold keepO at z
  rw [List.getElem?_map] at z
  cases hs : s[i]? with
  | none => rw [hs] at z; cases z
  | some o =>
    rw [hs] at z
    cases o with
    | none => cases z
    | some y =>
      have z' : (some (if y.old n then some y else none) : Option (Option A)) = some (some x) := z
      by_cases c : y.old n = true
      · rw [if_pos c] at z'
        cases z'
        obtain ⟨v, h1, h2⟩ := r.2 i x hs
        exact ⟨v, h1, h2.back e c⟩
      · rw [if_neg c] at z'
        cases z'
theorem pureS_back {C : Kn} {E : XK} {b : MF Fl} {G : Loc} {lo : Nat} {h : Hs} {s : Sl} {H : Hp} {D : Ends} (rh : Rh C G h H) (q : finS C E G lo h.length H (pureS b lo s h) D) : finS C E G h.length h.length H (b h.length s h) D := by
  unfold pureS at q
  have key : ∀ {h' : Hs} {G' : Loc} {H' : Hp}, Ext h.length h.length G H h'.length G' H' → Rh C G' h' H' → Ext lo h.length G H h.length G H' ∧ Rh C G h H' := by
    intro h' G' H' e r
    have e1 : Ext lo h.length G H h.length G H' := ⟨Nat.le_refl _, fun _ _ => rfl, e.stb, e.frz, fun i _ hi => e.low i hi hi, e.own⟩
    exact ⟨e1, rh.inj, fun i o ho => (rh.obj i o ho).stay e1 (e.low i (Rh.lt ho) (Rh.lt ho)), r.tab⟩
  cases hz : b h.length s h with
  | bad => rw [hz] at q; exact q
  | ex x h' =>
    rw [hz] at q
    by_cases c : x.old h.length = true
    · have q' : finS C E G lo h.length H (.ex x h) D := by simpa only [c, if_true] using q
      intro G' H' cl d e r rx
      obtain ⟨e1, r1⟩ := key e r
      exact q' G H' cl d e1 r1 (rx_back e rx c)
    · have q' : finS C E G lo h.length H R.bad D := by simpa only [c, Bool.false_eq_true, if_false] using q
      exact q'.elim
  | ok fl h' =>
    rw [hz] at q
    cases fl with
    | nx s' =>
      intro G' H' σ' e r rs
      obtain ⟨e1, r1⟩ := key e r
      exact q G H' σ' e1 r1 (keepO_rs e rs)
    | bk s' =>
      intro G' H' σ' e r rs
      obtain ⟨e1, r1⟩ := key e r
      exact q G H' σ' e1 r1 (keepO_rs e rs)
    | ct s' =>
      intro G' H' σ' e r rs
      obtain ⟨e1, r1⟩ := key e r
      exact q G H' σ' e1 r1 (keepO_rs e rs)
    | rt x =>
      by_cases c : x.old h.length = true
      · have q' : finS C E G lo h.length H (.ok (.rt x) h) D := by simpa only [c, if_true] using q
        intro G' H' v e r rv
        obtain ⟨e1, r1⟩ := key e r
        exact q' G H' v e1 r1 (rv.back e c)
      · have q' : finS C E G lo h.length H R.bad D := by simpa only [c, Bool.false_eq_true, if_false] using q
        exact q'.elim
theorem js_pure {X : Cx} {C : Kn} {E : XK} {l : List Stmt} {b : MF Fl} (hb : PSs X l (tS C E b)) : PSs X l (tS C E (pureS b)) := impSs hb fun D σ H c => by
  obtain ⟨G, lo, h, s, rh, rs, rv, q⟩ := c
  exact ⟨G, h.length, h, s, rh, rs, rv, pureS_back rh q⟩
theorem body_retT {n m k : Nat} {b : MF Fl} {xs : List A} {lo : Nat} {h : Hs} {H : Int → Int → Hs} (e : RetT m k H (b lo (startA n xs) h)) (hm : h.length = m) (ho : ∀ a c, (H a c).all (AO.old m) = true) : ∃ a c, Cn k c ∧ trimF (bodyF n b) xs lo h = .ok (.bl true) (H a c) := by
  obtain ⟨a, c, hc, e⟩ := e
  refine ⟨a, c, hc, ?_⟩
  unfold trimF bodyF
  cases hz : b lo (startA n xs) h with
  | bad => rw [hz] at e; cases e
  | ex x h' => rw [hz] at e; cases e
  | ok fl h' =>
    rw [hz] at e
    cases fl with
    | nx s => cases e
    | bk s => cases e
    | ct s => cases e
    | rt x =>
      have e' : some (x, h'.take m) = some (A.bl true, H a c) := e
      have e1 : x = .bl true := congrArg Prod.fst (Option.some.inj e')
      have e2 : h'.take m = H a c := congrArg Prod.snd (Option.some.inj e')
      subst e1
      simp only [hm, e2, ho, A.old, Bool.true_and, if_true]
theorem trim_len {m : Nat} {f : AF} {xs : List A} {lo : Nat} {h : Hs} (e : Nat.beq xs.length m = true) : trimF (lenF m f) xs lo h = trimF f xs lo h := by
  unfold trimF lenF
  rw [if_pos e]
/-! ### a property -/
structure PropF (K : PySem.W.Frag) (D : Addr) (nm : Str) (g : Addr) : Prop where
  ok : ∃ p, PySem.W.findIn K (.ref D) nm = some (some (.ref p)) ∧ PySem.W.specialIn K (.ref p) "__get__" = some (some (.builtin "property.__get__")) ∧ PySem.W.takesIn K (.ref p) = some true ∧ ∃ rest, PySem.W.recIn K p "property" = some (.ref g :: rest)
theorem je_propF {X : Cx} {C : Kn} {E : XK} {k j c : Nat} {pos : Pos} {f : AF} {g : Addr} {nm : Str} {e : Expr} {fo : MF A} (W : Go X C E k) (hc : SCls X.K (C.gt c)) (pf : PropF X.K (C.gt c) nm g) (F : FnM X.prog X.w X.K X.mg X.base C j g 1 f) (hj : j + 1 ≤ k) (he : PE X e (tE C E fo)) (hb : attributeBase e nm X.env (eval e X.env) = eval e X.env := by rfl) :
    PE X (.Attribute e nm pos) (tE C E (methF0 c (quietF f) fo)) := by
  obtain ⟨p, h1, h2, h3, h4⟩ := pf.ok
  exact je_prop W hc h1 h2 h3 h4 F hj he hb
theorem prop_all {K : PySem.W.Frag} {h : Heap} {D p g : Addr} {nm : Str} {rest : List Value} (KX : K.In h) (a : PySem.W.findIn K (.ref D) nm = some (some (.ref p))) (b : PySem.W.specialIn K (.ref p) "__get__" = some (some (.builtin "property.__get__"))) (c : PySem.W.takesIn K (.ref p) = some true) (d : PySem.W.recIn K p "property" = some (.ref g :: rest)) : PropF K D nm g := ⟨p, a, b, c, rest, d⟩
end MA

set_option Elab.async false
set_option linter.all false
set_option maxRecDepth 100000
set_option maxHeartbeats 4000000
namespace Law
open PySem L2 SlX LamX MA
open PySem.Spec PyProof.Rows

def top (i : Nat) : Stmt := PySem.Challenge.pw_treerooms_k02_errors_of_rooms.main.body.getD i (.Pass ⟨0, 0, 0, 0⟩)
def inner (s : Stmt) (j : Nat) : Stmt := match s with
  | .ClassDef _ _ _ body _ _ _ _ _ _ _ => body.getD j (.Pass ⟨0, 0, 0, 0⟩)
  | _ => .Pass ⟨0, 0, 0, 0⟩
abbrev st_is_whole : Stmt := top 7
abbrev st_is_within : Stmt := top 8
abbrev st_are_wholes : Stmt := top 9
abbrev st_are_within : Stmt := top 10
abbrev st_require_within : Stmt := top 11
abbrev st_behind : Stmt := top 18
abbrev st_idle_of : Stmt := top 19
abbrev st_closed_under : Stmt := top 20
abbrev st_is_permutation : Stmt := top 21
abbrev st_are_makers : Stmt := top 22
abbrev st_Room___init__ : Stmt := inner (top 23) 1
abbrev st_Room_round : Stmt := inner (top 23) 2
abbrev st_Room_whole : Stmt := inner (top 23) 3
abbrev st_Room_members : Stmt := inner (top 23) 5
abbrev st_Room_product : Stmt := inner (top 23) 7
abbrev st_Room_contrary : Stmt := inner (top 23) 8
abbrev st_Room_power : Stmt := inner (top 23) 9
abbrev st_Room_order : Stmt := inner (top 23) 10
abbrev st_Room_number_of : Stmt := inner (top 23) 11
abbrev st_table_of : Stmt := top 24
abbrev st_power_in : Stmt := top 25
abbrev st_lot_in : Stmt := top 28
abbrev st_is_member_in : Stmt := top 34
abbrev st_is_lot_in : Stmt := top 35
abbrev st_require_room : Stmt := top 36
abbrev st_require_member : Stmt := top 37
abbrev st_require_lot : Stmt := top 38
abbrev st_lot_of : Stmt := top 39
abbrev st_is_lot : Stmt := top 40
abbrev st_left_lots : Stmt := top 41
abbrev st_parted : Stmt := top 42
abbrev st_turned : Stmt := top 43
abbrev st_classes : Stmt := top 44
abbrev st_lots : Stmt := top 45
abbrev st__law_trough : Stmt := top 47
abbrev st__law_poured : Stmt := top 48
abbrev st__law_wanted : Stmt := top 49
abbrev st__law_met : Stmt := top 50
abbrev st__law_rooms_right : Stmt := top 51
abbrev st__law_members_right : Stmt := top 52
abbrev st__law_lots_right : Stmt := top 53
abbrev st_law : Stmt := top 54
theorem bt_abs : bootBuiltins "abs" = some (.builtin "abs") := by decide +kernel
theorem bt_all : bootBuiltins "all" = some (.builtin "all") := by decide +kernel
theorem bt_bool : bootBuiltins "bool" = some (.type "bool") := by decide +kernel
theorem bt_enumerate : bootBuiltins "enumerate" = some (.type "enumerate") := by decide +kernel
theorem bt_int : bootBuiltins "int" = some (.type "int") := by decide +kernel
theorem bt_isinstance : bootBuiltins "isinstance" = some (.builtin "isinstance") := by decide +kernel
theorem bt_len : bootBuiltins "len" = some (.builtin "len") := by decide +kernel
theorem bt_list : bootBuiltins "list" = some (.type "list") := by decide +kernel
theorem bt_max : bootBuiltins "max" = some (.builtin "max") := by decide +kernel
theorem bt_min : bootBuiltins "min" = some (.builtin "min") := by decide +kernel
theorem bt_range : bootBuiltins "range" = some (.type "range") := by decide +kernel
theorem bt_repr : bootBuiltins "repr" = some (.builtin "repr") := by decide +kernel
theorem bt_sorted : bootBuiltins "sorted" = some (.builtin "sorted") := by decide +kernel
theorem bt_tuple : bootBuiltins "tuple" = some (.type "tuple") := by decide +kernel
def exb : Nat → Nat → Option Bool
  | 1, 1 => some true
  | 1, 2 => some false
  | 1, 3 => some false
  | 1, 5 => some false
  | 2, 1 => some false
  | 2, 2 => some true
  | 2, 3 => some false
  | 2, 5 => some false
  | 3, 1 => some false
  | 3, 2 => some false
  | 3, 3 => some true
  | 3, 5 => some false
  | 5, 1 => some false
  | 5, 2 => some false
  | 5, 3 => some false
  | 5, 5 => some true
  | _, _ => none
abbrev st_InvalidNumber___init__ : Stmt := inner (top 4) 0
theorem xt_InvalidNumber : ExT st_InvalidNumber___init__ "given" := ⟨rfl, ⟨_, _, _, _, _, _, _, _, _, _, _, _, rfl, _, fun env => rfl⟩, rfl, rfl, rfl, by decide +kernel, rfl, rfl, rfl, rfl, by decide, by decide⟩
abbrev st_TooMany___init__ : Stmt := inner (top 5) 0
theorem xt_TooMany : ExT st_TooMany___init__ "most" := ⟨rfl, ⟨_, _, _, _, _, _, _, _, _, _, _, _, rfl, _, fun env => rfl⟩, rfl, rfl, rfl, by decide +kernel, rfl, rfl, rfl, rfl, by decide, by decide⟩
/-- what the written part says -/
structure Txt (P : Program) (mg : Str → Option Value) (C : Kn) : Prop where
  b_abs : mg "abs" = none
  b_all : mg "all" = none
  b_bool : mg "bool" = none
  b_enumerate : mg "enumerate" = none
  b_int : mg "int" = none
  b_isinstance : mg "isinstance" = none
  b_len : mg "len" = none
  b_list : mg "list" = none
  b_max : mg "max" = none
  b_min : mg "min" = none
  b_range : mg "range" = none
  b_repr : mg "repr" = none
  b_sorted : mg "sorted" = none
  b_tuple : mg "tuple" = none
  i_MAX_MAKERS : ∃ t, mg "MAX_MAKERS" = some (.int 4 t)
  i_MAX_MEMBERS : ∃ t, mg "MAX_MEMBERS" = some (.int 24 t)
  i_MAX_POINTS : ∃ t, mg "MAX_POINTS" = some (.int 6 t)
  i_MOST_POWER : ∃ t, mg "MOST_POWER" = some (.int 20 t)
  i_MOST_WHOLE : ∃ t, mg "MOST_WHOLE" = some (.int 4 t)
  x_InvalidRoom : Exn0 C.K mg C "InvalidRoom" 1
  x_InvalidOperation : Exn0 C.K mg C "InvalidOperation" 2
  e_InvalidNumber : Exn1 P C.K mg C "InvalidNumber" 3 "InvalidNumber.__init__" st_InvalidNumber___init__ "given"
  e_TooMany : Exn1 P C.K mg C "TooMany" 5 "TooMany.__init__" st_TooMany___init__ "most"
  m_InvalidRoom : mg "InvalidRoom" = some (.ref (C.gt 1))
  m_InvalidOperation : mg "InvalidOperation" = some (.ref (C.gt 2))
  m_Room : mg "Room" = some (.ref (C.gt 17))
  d_is_whole : DefAt C.K "is_whole" "is_whole" st_is_whole (C.gt 7)
  m_is_whole : mg "is_whole" = some (.ref (C.gt 7))
  k_is_whole : PySem.W.keepIn C.K (.ref (C.gt 7)) = true
  d_is_within : DefAt C.K "is_within" "is_within" st_is_within (C.gt 8)
  m_is_within : mg "is_within" = some (.ref (C.gt 8))
  k_is_within : PySem.W.keepIn C.K (.ref (C.gt 8)) = true
  d_are_wholes : DefAt C.K "are_wholes" "are_wholes" st_are_wholes (C.gt 9)
  m_are_wholes : mg "are_wholes" = some (.ref (C.gt 9))
  k_are_wholes : PySem.W.keepIn C.K (.ref (C.gt 9)) = true
  d_are_within : DefAt C.K "are_within" "are_within" st_are_within (C.gt 10)
  m_are_within : mg "are_within" = some (.ref (C.gt 10))
  k_are_within : PySem.W.keepIn C.K (.ref (C.gt 10)) = true
  d_require_within : DefAt C.K "require_within" "require_within" st_require_within (C.gt 11)
  m_require_within : mg "require_within" = some (.ref (C.gt 11))
  k_require_within : PySem.W.keepIn C.K (.ref (C.gt 11)) = true
  d_behind : DefAt C.K "behind" "behind" st_behind (C.gt 12)
  m_behind : mg "behind" = some (.ref (C.gt 12))
  k_behind : PySem.W.keepIn C.K (.ref (C.gt 12)) = true
  d_idle_of : DefAt C.K "idle_of" "idle_of" st_idle_of (C.gt 13)
  m_idle_of : mg "idle_of" = some (.ref (C.gt 13))
  k_idle_of : PySem.W.keepIn C.K (.ref (C.gt 13)) = true
  d_closed_under : DefAt C.K "closed_under" "closed_under" st_closed_under (C.gt 14)
  m_closed_under : mg "closed_under" = some (.ref (C.gt 14))
  k_closed_under : PySem.W.keepIn C.K (.ref (C.gt 14)) = true
  d_is_permutation : DefAt C.K "is_permutation" "is_permutation" st_is_permutation (C.gt 15)
  m_is_permutation : mg "is_permutation" = some (.ref (C.gt 15))
  k_is_permutation : PySem.W.keepIn C.K (.ref (C.gt 15)) = true
  d_are_makers : DefAt C.K "are_makers" "are_makers" st_are_makers (C.gt 16)
  m_are_makers : mg "are_makers" = some (.ref (C.gt 16))
  k_are_makers : PySem.W.keepIn C.K (.ref (C.gt 16)) = true
  d_Room___init__ : DefAt C.K "__init__" "Room.__init__" st_Room___init__ (C.gt 18)
  d_Room_round : DefAt C.K "round" "Room.round" st_Room_round (C.gt 19)
  d_Room_whole : DefAt C.K "whole" "Room.whole" st_Room_whole (C.gt 20)
  d_Room_members : DefAt C.K "members" "Room.members" st_Room_members (C.gt 22)
  d_Room_product : DefAt C.K "product" "Room.product" st_Room_product (C.gt 24)
  d_Room_contrary : DefAt C.K "contrary" "Room.contrary" st_Room_contrary (C.gt 25)
  d_Room_power : DefAt C.K "power" "Room.power" st_Room_power (C.gt 26)
  d_Room_order : DefAt C.K "order" "Room.order" st_Room_order (C.gt 27)
  d_Room_number_of : DefAt C.K "number_of" "Room.number_of" st_Room_number_of (C.gt 28)
  d_table_of : DefAt C.K "table_of" "table_of" st_table_of (C.gt 33)
  m_table_of : mg "table_of" = some (.ref (C.gt 33))
  k_table_of : PySem.W.keepIn C.K (.ref (C.gt 33)) = true
  d_power_in : DefAt C.K "power_in" "power_in" st_power_in (C.gt 34)
  m_power_in : mg "power_in" = some (.ref (C.gt 34))
  k_power_in : PySem.W.keepIn C.K (.ref (C.gt 34)) = true
  d_lot_in : DefAt C.K "lot_in" "lot_in" st_lot_in (C.gt 37)
  m_lot_in : mg "lot_in" = some (.ref (C.gt 37))
  k_lot_in : PySem.W.keepIn C.K (.ref (C.gt 37)) = true
  d_is_member_in : DefAt C.K "is_member_in" "is_member_in" st_is_member_in (C.gt 43)
  m_is_member_in : mg "is_member_in" = some (.ref (C.gt 43))
  k_is_member_in : PySem.W.keepIn C.K (.ref (C.gt 43)) = true
  d_is_lot_in : DefAt C.K "is_lot_in" "is_lot_in" st_is_lot_in (C.gt 44)
  m_is_lot_in : mg "is_lot_in" = some (.ref (C.gt 44))
  k_is_lot_in : PySem.W.keepIn C.K (.ref (C.gt 44)) = true
  d_require_room : DefAt C.K "require_room" "require_room" st_require_room (C.gt 45)
  m_require_room : mg "require_room" = some (.ref (C.gt 45))
  k_require_room : PySem.W.keepIn C.K (.ref (C.gt 45)) = true
  d_require_member : DefAt C.K "require_member" "require_member" st_require_member (C.gt 46)
  m_require_member : mg "require_member" = some (.ref (C.gt 46))
  k_require_member : PySem.W.keepIn C.K (.ref (C.gt 46)) = true
  d_require_lot : DefAt C.K "require_lot" "require_lot" st_require_lot (C.gt 47)
  m_require_lot : mg "require_lot" = some (.ref (C.gt 47))
  k_require_lot : PySem.W.keepIn C.K (.ref (C.gt 47)) = true
  d_lot_of : DefAt C.K "lot_of" "lot_of" st_lot_of (C.gt 48)
  m_lot_of : mg "lot_of" = some (.ref (C.gt 48))
  k_lot_of : PySem.W.keepIn C.K (.ref (C.gt 48)) = true
  d_is_lot : DefAt C.K "is_lot" "is_lot" st_is_lot (C.gt 49)
  m_is_lot : mg "is_lot" = some (.ref (C.gt 49))
  k_is_lot : PySem.W.keepIn C.K (.ref (C.gt 49)) = true
  d_left_lots : DefAt C.K "left_lots" "left_lots" st_left_lots (C.gt 50)
  m_left_lots : mg "left_lots" = some (.ref (C.gt 50))
  k_left_lots : PySem.W.keepIn C.K (.ref (C.gt 50)) = true
  d_parted : DefAt C.K "parted" "parted" st_parted (C.gt 51)
  m_parted : mg "parted" = some (.ref (C.gt 51))
  k_parted : PySem.W.keepIn C.K (.ref (C.gt 51)) = true
  d_turned : DefAt C.K "turned" "turned" st_turned (C.gt 52)
  m_turned : mg "turned" = some (.ref (C.gt 52))
  k_turned : PySem.W.keepIn C.K (.ref (C.gt 52)) = true
  d_classes : DefAt C.K "classes" "classes" st_classes (C.gt 53)
  m_classes : mg "classes" = some (.ref (C.gt 53))
  k_classes : PySem.W.keepIn C.K (.ref (C.gt 53)) = true
  d_lots : DefAt C.K "lots" "lots" st_lots (C.gt 54)
  m_lots : mg "lots" = some (.ref (C.gt 54))
  k_lots : PySem.W.keepIn C.K (.ref (C.gt 54)) = true
  d__law_trough : DefAt C.K "_law_trough" "_law_trough" st__law_trough (C.gt 55)
  m__law_trough : mg "_law_trough" = some (.ref (C.gt 55))
  k__law_trough : PySem.W.keepIn C.K (.ref (C.gt 55)) = true
  d__law_poured : DefAt C.K "_law_poured" "_law_poured" st__law_poured (C.gt 56)
  m__law_poured : mg "_law_poured" = some (.ref (C.gt 56))
  k__law_poured : PySem.W.keepIn C.K (.ref (C.gt 56)) = true
  d__law_wanted : DefAt C.K "_law_wanted" "_law_wanted" st__law_wanted (C.gt 57)
  m__law_wanted : mg "_law_wanted" = some (.ref (C.gt 57))
  k__law_wanted : PySem.W.keepIn C.K (.ref (C.gt 57)) = true
  d__law_met : DefAt C.K "_law_met" "_law_met" st__law_met (C.gt 58)
  m__law_met : mg "_law_met" = some (.ref (C.gt 58))
  k__law_met : PySem.W.keepIn C.K (.ref (C.gt 58)) = true
  d__law_rooms_right : DefC C.K "_law_rooms_right" "_law_rooms_right" st__law_rooms_right (C.gt 59) (C.gt 559)
  m__law_rooms_right : mg "_law_rooms_right" = some (.ref (C.gt 59))
  k__law_rooms_right : PySem.W.keepIn C.K (.ref (C.gt 59)) = true
  mT__law_rooms_right : (C.gt 659, (("_law_rooms_right" : Str) ++ ".<locals>." ++ "<lambda>")) ∈ C.T
  uT__law_rooms_right : ∀ p ∈ C.T, p.1 = C.gt 659 → p.2 = ("_law_rooms_right" : Str) ++ ".<locals>." ++ "<lambda>"
  d__law_members_right : DefC C.K "_law_members_right" "_law_members_right" st__law_members_right (C.gt 60) (C.gt 560)
  m__law_members_right : mg "_law_members_right" = some (.ref (C.gt 60))
  k__law_members_right : PySem.W.keepIn C.K (.ref (C.gt 60)) = true
  mT__law_members_right : (C.gt 660, (("_law_members_right" : Str) ++ ".<locals>." ++ "<lambda>")) ∈ C.T
  uT__law_members_right : ∀ p ∈ C.T, p.1 = C.gt 660 → p.2 = ("_law_members_right" : Str) ++ ".<locals>." ++ "<lambda>"
  d__law_lots_right : DefC C.K "_law_lots_right" "_law_lots_right" st__law_lots_right (C.gt 61) (C.gt 561)
  m__law_lots_right : mg "_law_lots_right" = some (.ref (C.gt 61))
  k__law_lots_right : PySem.W.keepIn C.K (.ref (C.gt 61)) = true
  mT__law_lots_right : (C.gt 661, (("_law_lots_right" : Str) ++ ".<locals>." ++ "<lambda>")) ∈ C.T
  uT__law_lots_right : ∀ p ∈ C.T, p.1 = C.gt 661 → p.2 = ("_law_lots_right" : Str) ++ ".<locals>." ++ "<lambda>"
  d_law : DefAt C.K "law" "law" st_law (C.gt 62)
  m_law : mg "law" = some (.ref (C.gt 62))
  k_law : PySem.W.keepIn C.K (.ref (C.gt 62)) = true
  sl_own_contraries : SlT C "own_contraries" [(17, 0)]
  sl_own_members : SlT C "own_members" [(17, 1)]
  sl_own_numbers : SlT C "own_numbers" [(17, 2)]
  sl_own_points : SlT C "own_points" [(17, 3)]
  sl_own_products : SlT C "own_products" [(17, 4)]
  sl_own_size : SlT C "own_size" [(17, 5)]
  sc_Room : SCls C.K (C.gt 17)
  me_Room_contrary : Meth C.K (C.gt 17) "contrary" (C.gt 25)
  me_Room_number_of : Meth C.K (C.gt 17) "number_of" (C.gt 28)
  me_Room_order : Meth C.K (C.gt 17) "order" (C.gt 27)
  me_Room_power : Meth C.K (C.gt 17) "power" (C.gt 26)
  me_Room_product : Meth C.K (C.gt 17) "product" (C.gt 24)
  pr_Room_members : PropF C.K (C.gt 17) "members" (C.gt 22)
  mk_Room : Mk C.K (C.gt 17) (C.gt 18)
  rd_Room : ClX.CRead C.K (C.gt 17) (.type "type")
  cm_Room_round : ClX.CMet C.K (C.gt 17) (.type "type") "round" (C.gt 1019) (C.gt 19)
  cm_Room_whole : ClX.CMet C.K (C.gt 17) (.type "type") "whole" (C.gt 1020) (C.gt 20)
  isB : ∀ c ∈ ([17] : List Nat), ClF C.K (C.gt c)
  isC_Room : ∀ c ∈ ([17] : List Nat), ClF C.K (C.gt c) ∧ (c ≠ 17 → C.gt c ≠ C.gt 17 ∧ PySem.W.mroIn C.K (C.gt c) (.ref (C.gt 17)) = some false)
  cl_Room : (PySem.W.clsIn C.K (C.gt 17)).isSome = true
  ty_Room : PySem.W.typeIn C.K (.ref (C.gt 17)) = some (.type "type")
  exB : ExB C exb
structure Tbs (base : Heap) (mg : Str → Option Value) (C : Kn) : Prop where
  tb__law_rooms_right : TabB base mg (C.gt 559) (C.gt 659)
  tb__law_members_right : TabB base mg (C.gt 560) (C.gt 660)
  tb__law_lots_right : TabB base mg (C.gt 561) (C.gt 661)
section
variable {P : Program} {mg : Str → Option Value} {base : Heap} {C : Kn}
def b_is_whole : MF Fl := (retS (andV (optF (isB0 [17] .int) (vA 0)) (notV (optF (isB0 [17] .bool) (vA 0)))))
abbrev f_is_whole : AF := bodyF 1 b_is_whole
theorem s_is_whole : FnScope ["value"] ["value"] (defScope st_is_whole) := ⟨rfl, rfl, rfl, by decide +kernel, rfl, by decide +kernel, by decide +kernel⟩
theorem t_is_whole (T : Txt P mg C) : FnM P C.w C.K mg base C 4 (C.gt 7) 1 f_is_whole :=
  T.d_is_whole.fn (k := 3) s_is_whole (fun kV doc pm cdv ct an us hl => match us, hl with | [_], _ => rfl) rfl rfl rfl fun cdv A outer s H E W =>
    (js_one (js_ret (je_and (je_isB (t := .int) W.W T.isB rfl T.b_isinstance (je_var (i := 0) rfl (by first | exact Or.inl rfl | exact Or.inr (Or.inl rfl) | exact Or.inr (Or.inr rfl))) rfl T.b_int bt_int) (je_one (je_not (je_isB (t := .bool) W.W T.isB rfl T.b_isinstance (je_var (i := 0) rfl (by first | exact Or.inl rfl | exact Or.inr (Or.inl rfl) | exact Or.inr (Or.inr rfl))) rfl T.b_bool bt_bool))))))
def b_is_within : MF Fl := (retS (andV (calF (lenF 1 f_is_whole) (consF (vA 0) nilF)) (chainF (cmpO fun i j => decide (i ≤ j)) (cmpO fun i j => decide (i ≤ j)) (vA 1) (vA 0) (vA 2))))
abbrev f_is_within : AF := bodyF 3 b_is_within
theorem s_is_within : FnScope ["value", "least", "greatest"] ["value", "least", "greatest"] (defScope st_is_within) := ⟨rfl, rfl, rfl, by decide +kernel, rfl, by decide +kernel, by decide +kernel⟩
theorem t_is_within (T : Txt P mg C) : FnM P C.w C.K mg base C 8 (C.gt 8) 3 f_is_within :=
  T.d_is_within.fn (k := 7) s_is_within (fun kV doc pm cdv ct an us hl => match us, hl with | [_, _, _], _ => rfl) rfl rfl rfl fun cdv A outer s H E W =>
    (js_one (js_ret (je_and (je_call (g := 7) W.W (t_is_whole T) (by decide) rfl T.m_is_whole T.k_is_whole (ja_cons (je_var (i := 0) rfl (by first | exact Or.inl rfl | exact Or.inr (Or.inl rfl) | exact Or.inr (Or.inr rfl))) ja_nil)) (je_one (je_chain op_le (cmpO_ok _) op_le (cmpO_ok _) (je_var (i := 1) rfl (by first | exact Or.inl rfl | exact Or.inr (Or.inl rfl) | exact Or.inr (Or.inr rfl))) (je_var (i := 0) rfl (by first | exact Or.inl rfl | exact Or.inr (Or.inl rfl) | exact Or.inr (Or.inr rfl))) (je_var (i := 2) rfl (by first | exact Or.inl rfl | exact Or.inr (Or.inl rfl) | exact Or.inr (Or.inr rfl))))))))
def b_are_wholes : MF Fl := (retS (andV (optF (isB0 [17] .tup) (vA 0)) (calF allO (consF (cpF (.nm 1) yesF (calF (lenF 1 f_is_whole) (consF (vA 1) nilF)) ptL (.lst []) [1] (seqI (vA 0))) nilF))))
abbrev f_are_wholes : AF := bodyF 2 b_are_wholes
theorem s_are_wholes : FnScope ["value", "entry"] ["value"] (defScope st_are_wholes) := ⟨rfl, rfl, rfl, by decide +kernel, rfl, by decide +kernel, by decide +kernel⟩
theorem t_are_wholes (T : Txt P mg C) : FnM P C.w C.K mg base C 8 (C.gt 9) 1 f_are_wholes :=
  T.d_are_wholes.fn (k := 7) s_are_wholes (fun kV doc pm cdv ct an us hl => match us, hl with | [_], _ => rfl) rfl rfl rfl fun cdv A outer s H E W =>
    (js_one (js_ret (je_and (je_isB (t := .tup) W.W T.isB rfl T.b_isinstance (je_var (i := 0) rfl (by first | exact Or.inl rfl | exact Or.inr (Or.inl rfl) | exact Or.inr (Or.inr rfl))) rfl T.b_tuple bt_tuple) (je_one (je_callB (cr_all W.W.calm) allO_ok rfl T.b_all bt_all (ja_cons (je_lcG (own := [("entry", 1)]) (t := (.nm 1)) W.W (by decide) (ji_seq W.W (je_var (i := 0) rfl (by first | exact Or.inl rfl | exact Or.inr (Or.inl rfl) | exact Or.inr (Or.inr rfl)))) (blkOk_by (N := ["value", "entry"]) (sc := defScope st_are_wholes) (by decide +kernel)) (fun _ _ _ _ _ => (jg_nm (i := 1) W.W.nd rfl (by first | exact Or.inl rfl | exact Or.inr rfl))) (fun _ _ _ _ _ => jts_nil) (fun _ _ _ _ _ => (je_call (g := 7) W.W.blk (t_is_whole T) (by decide) rfl T.m_is_whole T.k_is_whole (ja_cons (je_var (i := 1) rfl (by first | exact Or.inl rfl | exact Or.inr (Or.inl rfl) | exact Or.inr (Or.inr rfl))) ja_nil)))) ja_nil))))))
def b_are_within : MF Fl := (retS (andV (calF (lenF 1 f_are_wholes) (consF (vA 0) nilF)) (calF allO (consF (cpF (.nm 3) yesF (chainF (cmpO fun i j => decide (i ≤ j)) (cmpO fun i j => decide (i ≤ j)) (vA 1) (vA 3) (vA 2)) ptL (.lst []) [3] (seqI (vA 0))) nilF))))
abbrev f_are_within : AF := bodyF 4 b_are_within
theorem s_are_within : FnScope ["value", "least", "greatest", "entry"] ["value", "least", "greatest"] (defScope st_are_within) := ⟨rfl, rfl, rfl, by decide +kernel, rfl, by decide +kernel, by decide +kernel⟩
theorem t_are_within (T : Txt P mg C) : FnM P C.w C.K mg base C 12 (C.gt 10) 3 f_are_within :=
  T.d_are_within.fn (k := 11) s_are_within (fun kV doc pm cdv ct an us hl => match us, hl with | [_, _, _], _ => rfl) rfl rfl rfl fun cdv A outer s H E W =>
    (js_one (js_ret (je_and (je_call (g := 9) W.W (t_are_wholes T) (by decide) rfl T.m_are_wholes T.k_are_wholes (ja_cons (je_var (i := 0) rfl (by first | exact Or.inl rfl | exact Or.inr (Or.inl rfl) | exact Or.inr (Or.inr rfl))) ja_nil)) (je_one (je_callB (cr_all W.W.calm) allO_ok rfl T.b_all bt_all (ja_cons (je_lcG (own := [("entry", 3)]) (t := (.nm 3)) W.W (by decide) (ji_seq W.W (je_var (i := 0) rfl (by first | exact Or.inl rfl | exact Or.inr (Or.inl rfl) | exact Or.inr (Or.inr rfl)))) (blkOk_by (N := ["value", "least", "greatest", "entry"]) (sc := defScope st_are_within) (by decide +kernel)) (fun _ _ _ _ _ => (jg_nm (i := 3) W.W.nd rfl (by first | exact Or.inl rfl | exact Or.inr rfl))) (fun _ _ _ _ _ => jts_nil) (fun _ _ _ _ _ => (je_chain op_le (cmpO_ok _) op_le (cmpO_ok _) (je_var (i := 1) rfl (by first | exact Or.inl rfl | exact Or.inr (Or.inl rfl) | exact Or.inr (Or.inr rfl))) (je_var (i := 3) rfl (by first | exact Or.inl rfl | exact Or.inr (Or.inl rfl) | exact Or.inr (Or.inr rfl))) (je_var (i := 2) rfl (by first | exact Or.inl rfl | exact Or.inr (Or.inl rfl) | exact Or.inr (Or.inr rfl)))))) ja_nil))))))
def b_require_within : MF Fl := (ifS (notF (asT (calF (lenF 3 f_is_within) (consF (vA 0) (consF (vA 1) (consF (vA 2) nilF)))))) (raise1S 3 (vA 0)) nextS)
abbrev f_require_within : AF := bodyF 3 b_require_within
theorem s_require_within : FnScope ["value", "least", "greatest"] ["value", "least", "greatest"] (defScope st_require_within) := ⟨rfl, rfl, rfl, by decide +kernel, rfl, by decide +kernel, by decide +kernel⟩
theorem t_require_within (T : Txt P mg C) : FnM P C.w C.K mg base C 12 (C.gt 11) 3 f_require_within :=
  T.d_require_within.fn (k := 11) s_require_within (fun kV doc pm cdv ct an us hl => match us, hl with | [_, _, _], _ => rfl) rfl rfl rfl fun cdv A outer s H E W =>
    (js_one (js_if (jt_not (jt_truth W.W.K (je_call (g := 8) W.W (t_is_within T) (by decide) rfl T.m_is_within T.k_is_within (ja_cons (je_var (i := 0) rfl (by first | exact Or.inl rfl | exact Or.inr (Or.inl rfl) | exact Or.inr (Or.inr rfl))) (ja_cons (je_var (i := 1) rfl (by first | exact Or.inl rfl | exact Or.inr (Or.inl rfl) | exact Or.inr (Or.inr rfl))) (ja_cons (je_var (i := 2) rfl (by first | exact Or.inl rfl | exact Or.inr (Or.inl rfl) | exact Or.inr (Or.inr rfl))) ja_nil)))))) (js_one (js_raise1 (e' := .Constant .none 0 ⟨0, 0, 0, 0⟩) W.W W.tk (T.e_InvalidNumber.mk' (k := 0) xt_InvalidNumber (W.W.room.mono (by decide)) rfl (je_var (i := 0) rfl (by first | exact Or.inl rfl | exact Or.inr (Or.inl rfl) | exact Or.inr (Or.inr rfl)))))) js_nil))
def b_behind : MF Fl := (retS (calF tupleO (consF (cpF (.nm 2) yesF (bin ixO (vA 1) (vA 2)) ptL (.lst []) [2] (seqI (vA 0))) nilF)))
abbrev f_behind : AF := bodyF 3 b_behind
theorem s_behind : FnScope ["one", "other", "point"] ["one", "other"] (defScope st_behind) := ⟨rfl, rfl, rfl, by decide +kernel, rfl, by decide +kernel, by decide +kernel⟩
theorem t_behind (T : Txt P mg C) : FnM P C.w C.K mg base C 4 (C.gt 12) 2 f_behind :=
  T.d_behind.fn (k := 3) s_behind (fun kV doc pm cdv ct an us hl => match us, hl with | [_, _], _ => rfl) rfl rfl rfl fun cdv A outer s H E W =>
    (js_one (js_ret (je_callTy call_tuple_of tupleO_ok rfl T.b_tuple bt_tuple (ja_cons (je_lcG (own := [("point", 2)]) (t := (.nm 2)) W.W (by decide) (ji_seq W.W (je_var (i := 0) rfl (by first | exact Or.inl rfl | exact Or.inr (Or.inl rfl) | exact Or.inr (Or.inr rfl)))) (blkOk_by (N := ["one", "other", "point"]) (sc := defScope st_behind) (by decide +kernel)) (fun _ _ _ _ _ => (jg_nm (i := 2) W.W.nd rfl (by first | exact Or.inl rfl | exact Or.inr rfl))) (fun _ _ _ _ _ => jts_nil) (fun _ _ _ _ _ => (je_sub W.W.blk.K (L2.hu_of W.W.blk.room) (je_var (i := 1) rfl (by first | exact Or.inl rfl | exact Or.inr (Or.inl rfl) | exact Or.inr (Or.inr rfl))) (je_var (i := 2) rfl (by first | exact Or.inl rfl | exact Or.inr (Or.inl rfl) | exact Or.inr (Or.inr rfl)))))) ja_nil))))
def b_idle_of : MF Fl := (retS (tupR (rgF1 (vA 0))))
abbrev f_idle_of : AF := bodyF 1 b_idle_of
theorem s_idle_of : FnScope ["points"] ["points"] (defScope st_idle_of) := ⟨rfl, rfl, rfl, by decide +kernel, rfl, by decide +kernel, by decide +kernel⟩
theorem t_idle_of (T : Txt P mg C) : FnM P C.w C.K mg base C 4 (C.gt 13) 1 f_idle_of :=
  T.d_idle_of.fn (k := 3) s_idle_of (fun kV doc pm cdv ct an us hl => match us, hl with | [_], _ => rfl) rfl rfl rfl fun cdv A outer s H E W =>
    (js_one (js_ret (je_tupRg W.W rfl T.b_tuple (jr_1 rfl T.b_range (je_var (i := 0) rfl (by first | exact Or.inl rfl | exact Or.inr (Or.inl rfl) | exact Or.inr (Or.inr rfl)))))))
def b_closed_under : MF Fl := (seqS (parS 2 3 (consF (dict1F (pureE (calF (lenF 1 f_idle_of) (consF (vA 0) nilF))) (cA (.bl true))) (consF (lstF (consF (pureE (calF (lenF 1 f_idle_of) (consF (vA 0) nilF))) nilF)) nilF))) (seqS (whileF (asB (bin (eqO true) (vA 3) (lstF nilF))) (seqS (asgS 4 (metF "list" popO (vA 3) nilF)) (seqS (forG (.nm 5) (seqI (vA 1)) (seqS (asgS 6 (pureE (calF (lenF 2 f_behind) (consF (vA 4) (consF (vA 5) nilF))))) (ifS (asB (bin (inO true) (vA 6) (vA 2))) (seqS (putS' (vA 2) (vA 6) (cA (.bl true))) (exprS (metF "list" appO (vA 3) (consF (vA 6) nilF)))) nextS))) (ifS (asB (bin (cmpO fun i j => decide (j < i)) (calF lenO (consF (vA 2) nilF)) (cA (.int 24)))) (raise1S 5 (cA (.int 24))) nextS))) 400) (retS (calF tupleO (consF (calF sortedO (consF (vA 2) nilF)) nilF)))))
abbrev f_closed_under : AF := bodyF 7 b_closed_under
theorem s_closed_under : FnScope ["points", "makers", "found", "waiting", "here", "maker", "later"] ["points", "makers"] (defScope st_closed_under) := ⟨rfl, rfl, rfl, by decide +kernel, rfl, by decide +kernel, by decide +kernel⟩
theorem t_closed_under (T : Txt P mg C) : FnM P C.w C.K mg base C 8 (C.gt 14) 2 f_closed_under :=
  T.d_closed_under.fn (k := 7) s_closed_under (fun kV doc pm cdv ct an us hl => match us, hl with | [_, _], _ => rfl) rfl rfl rfl fun cdv A outer s H E W =>
    (js_cons (js_par (i := 2) (j := 3) W.W.calm W.W.nd rfl rfl (by decide) rfl rfl (ja_cons (je_dict1 W.W (je_pure (je_call (g := 13) W.W (t_idle_of T) (by decide) rfl T.m_idle_of T.k_idle_of (ja_cons (je_var (i := 0) rfl (by first | exact Or.inl rfl | exact Or.inr (Or.inl rfl) | exact Or.inr (Or.inr rfl))) ja_nil))) je_bl) (ja_cons (je_lst (ja_cons (je_pure (je_call (g := 13) W.W (t_idle_of T) (by decide) rfl T.m_idle_of T.k_idle_of (ja_cons (je_var (i := 0) rfl (by first | exact Or.inl rfl | exact Or.inr (Or.inl rfl) | exact Or.inr (Or.inr rfl))) ja_nil))) ja_nil)) ja_nil)) rfl) (js_cons (js_while 400 W.own (jt_cmp (op_neD W.W.room.units) neO_ok (je_var (i := 3) rfl (by first | exact Or.inl rfl | exact Or.inr (Or.inl rfl) | exact Or.inr (Or.inr rfl))) (je_lst ja_nil) (nomark _)) (js_cons (js_set (i := 4) W.W.nd rfl (by first | exact Or.inl rfl | exact Or.inr rfl) (je_met0 W.W.K (Or.inl rfl) F.plainAttrs_list F.slot_list_pop F.type_list_pop mt_pop popO_ok (je_var (i := 3) rfl (by first | exact Or.inl rfl | exact Or.inr (Or.inl rfl) | exact Or.inr (Or.inr rfl))))) (js_cons (js_forG W.W W.own (ji_seq W.W (je_var (i := 1) rfl (by first | exact Or.inl rfl | exact Or.inr (Or.inl rfl) | exact Or.inr (Or.inr rfl)))) (jg_nm (i := 5) W.W.nd rfl (by first | exact Or.inl rfl | exact Or.inr rfl)) (js_cons (js_set (i := 6) W.W.nd rfl (by first | exact Or.inl rfl | exact Or.inr rfl) (je_pure (je_call (g := 12) W.W (t_behind T) (by decide) rfl T.m_behind T.k_behind (ja_cons (je_var (i := 4) rfl (by first | exact Or.inl rfl | exact Or.inr (Or.inl rfl) | exact Or.inr (Or.inr rfl))) (ja_cons (je_var (i := 5) rfl (by first | exact Or.inl rfl | exact Or.inr (Or.inl rfl) | exact Or.inr (Or.inr rfl))) ja_nil))))) (js_one (js_if (jt_notin W.W.K (L2.hu_of W.W.room) (je_var (i := 6) rfl (by first | exact Or.inl rfl | exact Or.inr (Or.inl rfl) | exact Or.inr (Or.inr rfl))) (je_var (i := 2) rfl (by first | exact Or.inl rfl | exact Or.inr (Or.inl rfl) | exact Or.inr (Or.inr rfl))) rfl) (js_cons (js_put W.W (je_var (i := 2) rfl (by first | exact Or.inl rfl | exact Or.inr (Or.inl rfl) | exact Or.inr (Or.inr rfl))) (je_var (i := 6) rfl (by first | exact Or.inl rfl | exact Or.inr (Or.inl rfl) | exact Or.inr (Or.inr rfl))) je_bl) (js_one (js_expr (je_met W.W.K (Or.inl rfl) F.plainAttrs_list F.slot_list_append F.type_list_append mt_append appO_ok (je_var (i := 3) rfl (by first | exact Or.inl rfl | exact Or.inr (Or.inl rfl) | exact Or.inr (Or.inr rfl))) (ja_cons (je_var (i := 6) rfl (by first | exact Or.inl rfl | exact Or.inr (Or.inl rfl) | exact Or.inr (Or.inr rfl))) ja_nil))))) js_nil)))) (js_one (js_if (jt_cmp op_gt (cmpO_ok _) (je_callB call_lenA lenO_ok rfl T.b_len bt_len (ja_cons (je_var (i := 2) rfl (by first | exact Or.inl rfl | exact Or.inr (Or.inl rfl) | exact Or.inr (Or.inr rfl))) ja_nil)) (je_gintx rfl T.i_MAX_MEMBERS) (nomark _)) (js_one (js_raise1 (e' := .Constant .none 0 ⟨0, 0, 0, 0⟩) W.W W.tk (T.e_TooMany.mk' (k := 0) xt_TooMany (W.W.room.mono (by decide)) rfl (je_gintx rfl T.i_MAX_MEMBERS)))) js_nil))))) (js_one (js_ret (je_callTy call_tuple_of tupleO_ok rfl T.b_tuple bt_tuple (ja_cons (je_callB call_srt (sortedO_ok W.W) rfl T.b_sorted bt_sorted (ja_cons (je_var (i := 2) rfl (by first | exact Or.inl rfl | exact Or.inr (Or.inl rfl) | exact Or.inr (Or.inr rfl))) ja_nil)) ja_nil))))))
def b_is_permutation : MF Fl := (retS (andV (pureE (calF (lenF 3 f_are_within) (consF (vA 1) (consF (cA (.int 0)) (consF (bin subO (vA 0) (cA (.int 1))) nilF))))) (bin (eqO false) (calF sortedO (consF (vA 1) nilF)) (lstR (rgF1 (vA 0))))))
abbrev f_is_permutation : AF := bodyF 2 b_is_permutation
theorem s_is_permutation : FnScope ["points", "value"] ["points", "value"] (defScope st_is_permutation) := ⟨rfl, rfl, rfl, by decide +kernel, rfl, by decide +kernel, by decide +kernel⟩
theorem t_is_permutation (T : Txt P mg C) : FnM P C.w C.K mg base C 16 (C.gt 15) 2 f_is_permutation :=
  T.d_is_permutation.fn (k := 15) s_is_permutation (fun kV doc pm cdv ct an us hl => match us, hl with | [_, _], _ => rfl) rfl rfl rfl fun cdv A outer s H E W =>
    (js_one (js_ret (je_and (je_pure (je_call (g := 10) W.W (t_are_within T) (by decide) rfl T.m_are_within T.k_are_within (ja_cons (je_var (i := 1) rfl (by first | exact Or.inl rfl | exact Or.inr (Or.inl rfl) | exact Or.inr (Or.inr rfl))) (ja_cons je_int (ja_cons (je_op op_sub subO_ok (je_var (i := 0) rfl (by first | exact Or.inl rfl | exact Or.inr (Or.inl rfl) | exact Or.inr (Or.inr rfl))) je_int) ja_nil))))) (je_one (je_cmp (op_eqD W.W.room.units) eqO_ok (je_callB call_srt (sortedO_ok W.W) rfl T.b_sorted bt_sorted (ja_cons (je_var (i := 1) rfl (by first | exact Or.inl rfl | exact Or.inr (Or.inl rfl) | exact Or.inr (Or.inr rfl))) ja_nil)) (je_listRg W.W rfl T.b_list (jr_1 rfl T.b_range (je_var (i := 0) rfl (by first | exact Or.inl rfl | exact Or.inr (Or.inl rfl) | exact Or.inr (Or.inr rfl))))) (nomark _))))))
def b_are_makers : MF Fl := (seqS (ifS (orF (notF (asT (optF (isB0 [17] .tup) (vA 1)))) (asB (bin (cmpO fun i j => decide (j < i)) (calF lenO (consF (vA 1) nilF)) (cA (.int 4))))) (retS (cA (.bl false))) nextS) (retS (calF allO (consF (cpF (.nm 2) yesF (calF (lenF 2 f_is_permutation) (consF (vA 0) (consF (vA 2) nilF))) ptL (.lst []) [2] (seqI (vA 1))) nilF))))
abbrev f_are_makers : AF := bodyF 3 b_are_makers
theorem s_are_makers : FnScope ["points", "value", "maker"] ["points", "value"] (defScope st_are_makers) := ⟨rfl, rfl, rfl, by decide +kernel, rfl, by decide +kernel, by decide +kernel⟩
theorem t_are_makers (T : Txt P mg C) : FnM P C.w C.K mg base C 20 (C.gt 16) 2 f_are_makers :=
  T.d_are_makers.fn (k := 19) s_are_makers (fun kV doc pm cdv ct an us hl => match us, hl with | [_, _], _ => rfl) rfl rfl rfl fun cdv A outer s H E W =>
    (js_cons (js_if (PW.pt (jw_or (jt_not (jt_truth W.W.K (je_isB (t := .tup) W.W T.isB rfl T.b_isinstance (je_var (i := 1) rfl (by first | exact Or.inl rfl | exact Or.inr (Or.inl rfl) | exact Or.inr (Or.inr rfl))) rfl T.b_tuple bt_tuple))) (jw_or1 (jt_cmp op_gt (cmpO_ok _) (je_callB call_lenA lenO_ok rfl T.b_len bt_len (ja_cons (je_var (i := 1) rfl (by first | exact Or.inl rfl | exact Or.inr (Or.inl rfl) | exact Or.inr (Or.inr rfl))) ja_nil)) (je_gintx rfl T.i_MAX_MAKERS) (nomark _))))) (js_one (js_ret je_bl)) js_nil) (js_one (js_ret (je_callB (cr_all W.W.calm) allO_ok rfl T.b_all bt_all (ja_cons (je_lcG (own := [("maker", 2)]) (t := (.nm 2)) W.W (by decide) (ji_seq W.W (je_var (i := 1) rfl (by first | exact Or.inl rfl | exact Or.inr (Or.inl rfl) | exact Or.inr (Or.inr rfl)))) (blkOk_by (N := ["points", "value", "maker"]) (sc := defScope st_are_makers) (by decide +kernel)) (fun _ _ _ _ _ => (jg_nm (i := 2) W.W.nd rfl (by first | exact Or.inl rfl | exact Or.inr rfl))) (fun _ _ _ _ _ => jts_nil) (fun _ _ _ _ _ => (je_call (g := 15) W.W.blk (t_is_permutation T) (by decide) rfl T.m_is_permutation T.k_is_permutation (ja_cons (je_var (i := 0) rfl (by first | exact Or.inl rfl | exact Or.inr (Or.inl rfl) | exact Or.inr (Or.inr rfl))) (ja_cons (je_var (i := 2) rfl (by first | exact Or.inl rfl | exact Or.inr (Or.inl rfl) | exact Or.inr (Or.inr rfl))) ja_nil))))) ja_nil)))))
def b_table_of : MF Fl := (retS (calF tupleO (consF (cpF (.nm 3) yesF (calF ftupO (consF (cpF (.nm 2) yesF (bin ixO (vA 1) (pureE (calF (lenF 2 f_behind) (consF (vA 3) (consF (vA 2) nilF))))) ptL (.lst []) [2] (seqI (vA 0))) nilF)) ptL (.lst []) [3] (seqI (vA 0))) nilF)))
abbrev f_table_of : AF := bodyF 4 b_table_of
theorem s_table_of : FnScope ["members", "numbers", "other", "one"] ["members", "numbers"] (defScope st_table_of) := ⟨rfl, rfl, rfl, by decide +kernel, rfl, by decide +kernel, by decide +kernel⟩
theorem t_table_of (T : Txt P mg C) : FnM P C.w C.K mg base C 8 (C.gt 33) 2 f_table_of :=
  T.d_table_of.fn (k := 7) s_table_of (fun kV doc pm cdv ct an us hl => match us, hl with | [_, _], _ => rfl) rfl rfl rfl fun cdv A outer s H E W =>
    (js_one (js_ret (je_callTy call_tuple_of tupleO_ok rfl T.b_tuple bt_tuple (ja_cons (je_lcG (own := [("one", 3)]) (t := (.nm 3)) W.W (by decide) (ji_seq W.W (je_var (i := 0) rfl (by first | exact Or.inl rfl | exact Or.inr (Or.inl rfl) | exact Or.inr (Or.inr rfl)))) (blkOk_by (N := ["members", "numbers", "other", "one"]) (sc := defScope st_table_of) (by decide +kernel)) (fun _ _ _ _ _ => (jg_nm (i := 3) W.W.nd rfl (by first | exact Or.inl rfl | exact Or.inr rfl))) (fun _ _ _ _ _ => jts_nil) (fun _ _ _ _ _ => (je_callTy call_ftup ftupO_ok rfl T.b_tuple bt_tuple (ja_cons (je_lcG (own := [("other", 2)]) (t := (.nm 2)) W.W.blk (by decide) (ji_seq W.W.blk (je_var (i := 0) rfl (by first | exact Or.inl rfl | exact Or.inr (Or.inl rfl) | exact Or.inr (Or.inr rfl)))) (blkOk_by rfl) (fun _ _ _ _ _ => (jg_nm (i := 2) W.W.blk.nd rfl (by first | exact Or.inl rfl | exact Or.inr rfl))) (fun _ _ _ _ _ => jts_nil) (fun _ _ _ _ _ => (je_sub W.W.blk.blk.K (L2.hu_of W.W.blk.blk.room) (je_var (i := 1) rfl (by first | exact Or.inl rfl | exact Or.inr (Or.inl rfl) | exact Or.inr (Or.inr rfl))) (je_pure (je_call (g := 12) W.W.blk.blk (t_behind T) (by decide) rfl T.m_behind T.k_behind (ja_cons (je_var (i := 3) rfl (by first | exact Or.inl rfl | exact Or.inr (Or.inl rfl) | exact Or.inr (Or.inr rfl))) (ja_cons (je_var (i := 2) rfl (by first | exact Or.inl rfl | exact Or.inr (Or.inl rfl) | exact Or.inr (Or.inr rfl))) ja_nil))))))) ja_nil)))) ja_nil))))
def b_Room___init__ : MF Fl := (seqS (exprS (calF (lenF 3 f_require_within) (consF (vA 1) (consF (cA (.int 1)) (consF (cA (.int 6)) nilF))))) (seqS (ifS (notF (asT (pureE (calF (lenF 2 f_are_makers) (consF (vA 1) (consF (vA 2) nilF)))))) (raise0S 1) nextS) (seqS (slS [(17, 3)] (vA 0) (vA 1)) (seqS (slS [(17, 1)] (vA 0) (pureE (calF (lenF 2 f_closed_under) (consF (vA 1) (consF (vA 2) nilF))))) (seqS (slS [(17, 5)] (vA 0) (calF lenO (consF (slF [(17, 1)] (vA 0)) nilF))) (seqS (slS [(17, 2)] (vA 0) (cpF (.tp ((.nm 3) :: [(.nm 4)])) yesF (pairF (vA 4) (vA 3)) ptD (.dk []) [3, 4] (enumI (slF [(17, 1)] (vA 0))))) (seqS (slS [(17, 4)] (vA 0) (pureE (calF (lenF 2 f_table_of) (consF (slF [(17, 1)] (vA 0)) (consF (slF [(17, 2)] (vA 0)) nilF))))) (slS [(17, 0)] (vA 0) (calF tupleO (consF (cpF (.nm 5) yesF (metF "ftuple" tixO (vA 5) (consF (cA (.int 0)) nilF)) ptL (.lst []) [5] (seqI (slF [(17, 4)] (vA 0)))) nilF))))))))))
abbrev f_Room___init__ : AF := bodyF 6 b_Room___init__
theorem s_Room___init__ : FnScope ["self", "points", "makers", "place", "member", "line"] ["self", "points", "makers"] (defScope st_Room___init__) := ⟨rfl, rfl, rfl, by decide +kernel, rfl, by decide +kernel, by decide +kernel⟩
theorem t_Room___init__ (T : Txt P mg C) : FnM P C.w C.K mg base C 24 (C.gt 18) 3 f_Room___init__ :=
  T.d_Room___init__.fn (k := 23) s_Room___init__ (fun kV doc pm cdv ct an us hl => match us, hl with | [_, _, _], _ => rfl) rfl rfl rfl fun cdv A outer s H E W =>
    (js_cons (js_expr (je_call (g := 11) W.W (t_require_within T) (by decide) rfl T.m_require_within T.k_require_within (ja_cons (je_var (i := 1) rfl (by first | exact Or.inl rfl | exact Or.inr (Or.inl rfl) | exact Or.inr (Or.inr rfl))) (ja_cons je_int (ja_cons (je_gintx rfl T.i_MAX_POINTS) ja_nil))))) (js_cons (js_if (jt_not (jt_truth W.W.K (je_pure (je_call (g := 16) W.W (t_are_makers T) (by decide) rfl T.m_are_makers T.k_are_makers (ja_cons (je_var (i := 1) rfl (by first | exact Or.inl rfl | exact Or.inr (Or.inl rfl) | exact Or.inr (Or.inr rfl))) (ja_cons (je_var (i := 2) rfl (by first | exact Or.inl rfl | exact Or.inr (Or.inl rfl) | exact Or.inr (Or.inr rfl))) ja_nil)))))) (js_one (js_raise0 W.W W.tk (by refine Exn0.mk' ?_ ?_ <;> first | exact T.x_InvalidRoom | rfl))) js_nil) (js_cons (js_sl W.W T.sl_own_points (je_var (i := 0) rfl (by first | exact Or.inl rfl | exact Or.inr (Or.inl rfl) | exact Or.inr (Or.inr rfl))) (je_var (i := 1) rfl (by first | exact Or.inl rfl | exact Or.inr (Or.inl rfl) | exact Or.inr (Or.inr rfl)))) (js_cons (js_sl W.W T.sl_own_members (je_var (i := 0) rfl (by first | exact Or.inl rfl | exact Or.inr (Or.inl rfl) | exact Or.inr (Or.inr rfl))) (je_pure (je_call (g := 14) W.W (t_closed_under T) (by decide) rfl T.m_closed_under T.k_closed_under (ja_cons (je_var (i := 1) rfl (by first | exact Or.inl rfl | exact Or.inr (Or.inl rfl) | exact Or.inr (Or.inr rfl))) (ja_cons (je_var (i := 2) rfl (by first | exact Or.inl rfl | exact Or.inr (Or.inl rfl) | exact Or.inr (Or.inr rfl))) ja_nil))))) (js_cons (js_sl W.W T.sl_own_size (je_var (i := 0) rfl (by first | exact Or.inl rfl | exact Or.inr (Or.inl rfl) | exact Or.inr (Or.inr rfl))) (je_callB call_lenA lenO_ok rfl T.b_len bt_len (ja_cons (je_sl W.W T.sl_own_members (je_var (i := 0) rfl (by first | exact Or.inl rfl | exact Or.inr (Or.inl rfl) | exact Or.inr (Or.inr rfl)))) ja_nil))) (js_cons (js_sl W.W T.sl_own_numbers (je_var (i := 0) rfl (by first | exact Or.inl rfl | exact Or.inr (Or.inl rfl) | exact Or.inr (Or.inr rfl))) (je_dcG (own := [("place", 3), ("member", 4)]) (t := (.tp ((.nm 3) :: [(.nm 4)]))) W.W (by decide) (ji_enum W.W rfl T.b_enumerate (je_sl W.W T.sl_own_members (je_var (i := 0) rfl (by first | exact Or.inl rfl | exact Or.inr (Or.inl rfl) | exact Or.inr (Or.inr rfl))))) (blkOk_by (N := ["self", "points", "makers", "place", "member", "line"]) (sc := defScope st_Room___init__) (by decide +kernel)) (fun _ _ _ _ _ => (jg_tp W.W.calm (jg_cons (jg_nm (i := 3) W.W.nd rfl (by first | exact Or.inl rfl | exact Or.inr rfl)) (jg_cons (jg_nm (i := 4) W.W.nd rfl (by first | exact Or.inl rfl | exact Or.inr rfl)) jg_nil)))) (fun _ _ _ _ _ => jts_nil) (fun _ _ _ _ _ => (je_var (i := 4) rfl (by first | exact Or.inl rfl | exact Or.inr (Or.inl rfl) | exact Or.inr (Or.inr rfl)))) (fun _ _ _ _ _ => (je_var (i := 3) rfl (by first | exact Or.inl rfl | exact Or.inr (Or.inl rfl) | exact Or.inr (Or.inr rfl)))))) (js_cons (js_sl W.W T.sl_own_products (je_var (i := 0) rfl (by first | exact Or.inl rfl | exact Or.inr (Or.inl rfl) | exact Or.inr (Or.inr rfl))) (je_pure (je_call (g := 33) W.W (t_table_of T) (by decide) rfl T.m_table_of T.k_table_of (ja_cons (je_sl W.W T.sl_own_members (je_var (i := 0) rfl (by first | exact Or.inl rfl | exact Or.inr (Or.inl rfl) | exact Or.inr (Or.inr rfl)))) (ja_cons (je_sl W.W T.sl_own_numbers (je_var (i := 0) rfl (by first | exact Or.inl rfl | exact Or.inr (Or.inl rfl) | exact Or.inr (Or.inr rfl)))) ja_nil))))) (js_one (js_sl W.W T.sl_own_contraries (je_var (i := 0) rfl (by first | exact Or.inl rfl | exact Or.inr (Or.inl rfl) | exact Or.inr (Or.inr rfl))) (je_callTy call_tuple_of tupleO_ok rfl T.b_tuple bt_tuple (ja_cons (je_lcG (own := [("line", 5)]) (t := (.nm 5)) W.W (by decide) (ji_seq W.W (je_sl W.W T.sl_own_products (je_var (i := 0) rfl (by first | exact Or.inl rfl | exact Or.inr (Or.inl rfl) | exact Or.inr (Or.inr rfl))))) (blkOk_by (N := ["self", "points", "makers", "place", "member", "line"]) (sc := defScope st_Room___init__) (by decide +kernel)) (fun _ _ _ _ _ => (jg_nm (i := 5) W.W.nd rfl (by first | exact Or.inl rfl | exact Or.inr rfl))) (fun _ _ _ _ _ => jts_nil) (fun _ _ _ _ _ => (je_tix (je_var (i := 5) rfl (by first | exact Or.inl rfl | exact Or.inr (Or.inl rfl) | exact Or.inr (Or.inr rfl))) (ja_cons je_int ja_nil)))) ja_nil)))))))))))
def b_Room_round : MF Fl := (seqS (exprS (calF (lenF 3 f_require_within) (consF (vA 1) (consF (cA (.int 1)) (consF (cA (.int 6)) nilF))))) (retS (isGl 0 17 (calF (makeO 17 (lenF 3 f_Room___init__)) (consF (vA 1) (consF (tupF (consF (tupF (starR (rgF2 (cA (.int 1)) (vA 1)) (consF (cA (.int 0)) nilF))) nilF)) nilF))))))
abbrev f_Room_round : AF := bodyF 2 b_Room_round
theorem s_Room_round : FnScope ["cls", "size"] ["cls", "size"] (defScope st_Room_round) := ⟨rfl, rfl, rfl, by decide +kernel, rfl, by decide +kernel, by decide +kernel⟩
theorem t_Room_round (T : Txt P mg C) : FnM P C.w C.K mg base C 28 (C.gt 19) 2 f_Room_round :=
  T.d_Room_round.fn (k := 27) s_Room_round (fun kV doc pm cdv ct an us hl => match us, hl with | [_, _], _ => rfl) rfl rfl rfl fun cdv A outer s H E W =>
    (js_cons (js_expr (je_call (g := 11) W.W (t_require_within T) (by decide) rfl T.m_require_within T.k_require_within (ja_cons (je_var (i := 1) rfl (by first | exact Or.inl rfl | exact Or.inr (Or.inl rfl) | exact Or.inr (Or.inr rfl))) (ja_cons je_int (ja_cons (je_gintx rfl T.i_MAX_POINTS) ja_nil))))) (js_one (js_ret (je_makeV (i := 0) (c := 17) W.W T.mk_Room (t_Room___init__ T) (by decide) rfl (by first | exact Or.inl rfl | exact Or.inr (Or.inl rfl) | exact Or.inr (Or.inr rfl)) (ja_cons (je_var (i := 1) rfl (by first | exact Or.inl rfl | exact Or.inr (Or.inl rfl) | exact Or.inr (Or.inr rfl))) (ja_cons (je_tup (ja_cons (je_tup (ja_starR W.W (jr_2 rfl T.b_range je_int (je_var (i := 1) rfl (by first | exact Or.inl rfl | exact Or.inr (Or.inl rfl) | exact Or.inr (Or.inr rfl)))) (ja_cons je_int ja_nil))) ja_nil)) ja_nil))))))
def b_Room_whole : MF Fl := (seqS (exprS (calF (lenF 3 f_require_within) (consF (vA 1) (consF (cA (.int 1)) (consF (cA (.int 4)) nilF))))) (seqS (asgS 2 (tupF (starR (rgF2 (cA (.int 1)) (vA 1)) (consF (cA (.int 0)) nilF)))) (retS (isGl 0 17 (calF (makeO 17 (lenF 3 f_Room___init__)) (consF (vA 1) (consF (ifF (asB (bin (cmpO fun i j => decide (j < i)) (vA 1) (cA (.int 1)))) (tupF (consF (vA 2) (consF (tupF (consF (cA (.int 1)) (consF (cA (.int 0)) (starR (rgF2 (cA (.int 2)) (vA 1)) nilF)))) nilF))) (fun _ _ _ => .bad)) nilF)))))))
abbrev f_Room_whole : AF := bodyF 3 b_Room_whole
theorem s_Room_whole : FnScope ["cls", "points", "turned"] ["cls", "points"] (defScope st_Room_whole) := ⟨rfl, rfl, rfl, by decide +kernel, rfl, by decide +kernel, by decide +kernel⟩
theorem t_Room_whole (T : Txt P mg C) : FnM P C.w C.K mg base C 28 (C.gt 20) 2 f_Room_whole :=
  T.d_Room_whole.fn (k := 27) s_Room_whole (fun kV doc pm cdv ct an us hl => match us, hl with | [_, _], _ => rfl) rfl rfl rfl fun cdv A outer s H E W =>
    (js_cons (js_expr (je_call (g := 11) W.W (t_require_within T) (by decide) rfl T.m_require_within T.k_require_within (ja_cons (je_var (i := 1) rfl (by first | exact Or.inl rfl | exact Or.inr (Or.inl rfl) | exact Or.inr (Or.inr rfl))) (ja_cons je_int (ja_cons (je_gintx rfl T.i_MOST_WHOLE) ja_nil))))) (js_cons (js_set (i := 2) W.W.nd rfl (by first | exact Or.inl rfl | exact Or.inr rfl) (je_tup (ja_starR W.W (jr_2 rfl T.b_range je_int (je_var (i := 1) rfl (by first | exact Or.inl rfl | exact Or.inr (Or.inl rfl) | exact Or.inr (Or.inr rfl)))) (ja_cons je_int ja_nil)))) (js_one (js_ret (je_makeV (i := 0) (c := 17) W.W T.mk_Room (t_Room___init__ T) (by decide) rfl (by first | exact Or.inl rfl | exact Or.inr (Or.inl rfl) | exact Or.inr (Or.inr rfl)) (ja_cons (je_var (i := 1) rfl (by first | exact Or.inl rfl | exact Or.inr (Or.inl rfl) | exact Or.inr (Or.inr rfl))) (ja_cons (je_if (jt_cmp op_gt (cmpO_ok _) (je_var (i := 1) rfl (by first | exact Or.inl rfl | exact Or.inr (Or.inl rfl) | exact Or.inr (Or.inr rfl))) je_int (nomark _)) (je_tup (ja_cons (je_var (i := 2) rfl (by first | exact Or.inl rfl | exact Or.inr (Or.inl rfl) | exact Or.inr (Or.inr rfl))) (ja_cons (je_tup (ja_cons je_int (ja_cons je_int (ja_starR W.W (jr_2 rfl T.b_range je_int (je_var (i := 1) rfl (by first | exact Or.inl rfl | exact Or.inr (Or.inl rfl) | exact Or.inr (Or.inr rfl)))) ja_nil)))) ja_nil))) je_never) ja_nil)))))))
def b_Room_members : MF Fl := (retS (slF [(17, 1)] (vA 0)))
abbrev f_Room_members : AF := bodyF 1 b_Room_members
theorem s_Room_members : FnScope ["self"] ["self"] (defScope st_Room_members) := ⟨rfl, rfl, rfl, by decide +kernel, rfl, by decide +kernel, by decide +kernel⟩
theorem t_Room_members (T : Txt P mg C) : FnM P C.w C.K mg base C 4 (C.gt 22) 1 f_Room_members :=
  T.d_Room_members.fn (k := 3) s_Room_members (fun kV doc pm cdv ct an us hl => match us, hl with | [_], _ => rfl) rfl rfl rfl fun cdv A outer s H E W =>
    (js_one (js_ret (je_sl W.W T.sl_own_members (je_var (i := 0) rfl (by first | exact Or.inl rfl | exact Or.inr (Or.inl rfl) | exact Or.inr (Or.inr rfl))))))
def b_is_member_in : MF Fl := (retS (calF (lenF 3 f_is_within) (consF (vA 1) (consF (cA (.int 0)) (consF (bin subO (calF lenO (consF (slF [(17, 1)] (vA 0)) nilF)) (cA (.int 1))) nilF)))))
abbrev f_is_member_in : AF := bodyF 2 b_is_member_in
theorem s_is_member_in : FnScope ["room", "value"] ["room", "value"] (defScope st_is_member_in) := ⟨rfl, rfl, rfl, by decide +kernel, rfl, by decide +kernel, by decide +kernel⟩
theorem t_is_member_in (T : Txt P mg C) : FnM P C.w C.K mg base C 12 (C.gt 43) 2 f_is_member_in :=
  T.d_is_member_in.fn (k := 11) s_is_member_in (fun kV doc pm cdv ct an us hl => match us, hl with | [_, _], _ => rfl) rfl rfl rfl fun cdv A outer s H E W =>
    (js_one (js_ret (je_call (g := 8) W.W (t_is_within T) (by decide) rfl T.m_is_within T.k_is_within (ja_cons (je_var (i := 1) rfl (by first | exact Or.inl rfl | exact Or.inr (Or.inl rfl) | exact Or.inr (Or.inr rfl))) (ja_cons je_int (ja_cons (je_op op_sub subO_ok (je_callB call_lenA lenO_ok rfl T.b_len bt_len (ja_cons (je_sl W.W T.sl_own_members (je_var (i := 0) rfl (by first | exact Or.inl rfl | exact Or.inr (Or.inl rfl) | exact Or.inr (Or.inr rfl)))) ja_nil)) je_int) ja_nil))))))
def b_require_member : MF Fl := (ifS (notF (asT (calF (lenF 2 f_is_member_in) (consF (vA 0) (consF (vA 1) nilF))))) (raise1S 3 (vA 1)) nextS)
abbrev f_require_member : AF := bodyF 2 b_require_member
theorem s_require_member : FnScope ["room", "value"] ["room", "value"] (defScope st_require_member) := ⟨rfl, rfl, rfl, by decide +kernel, rfl, by decide +kernel, by decide +kernel⟩
theorem t_require_member (T : Txt P mg C) : FnM P C.w C.K mg base C 16 (C.gt 46) 2 f_require_member :=
  T.d_require_member.fn (k := 15) s_require_member (fun kV doc pm cdv ct an us hl => match us, hl with | [_, _], _ => rfl) rfl rfl rfl fun cdv A outer s H E W =>
    (js_one (js_if (jt_not (jt_truth W.W.K (je_call (g := 43) W.W (t_is_member_in T) (by decide) rfl T.m_is_member_in T.k_is_member_in (ja_cons (je_var (i := 0) rfl (by first | exact Or.inl rfl | exact Or.inr (Or.inl rfl) | exact Or.inr (Or.inr rfl))) (ja_cons (je_var (i := 1) rfl (by first | exact Or.inl rfl | exact Or.inr (Or.inl rfl) | exact Or.inr (Or.inr rfl))) ja_nil))))) (js_one (js_raise1 (e' := .Constant .none 0 ⟨0, 0, 0, 0⟩) W.W W.tk (T.e_InvalidNumber.mk' (k := 0) xt_InvalidNumber (W.W.room.mono (by decide)) rfl (je_var (i := 1) rfl (by first | exact Or.inl rfl | exact Or.inr (Or.inl rfl) | exact Or.inr (Or.inr rfl)))))) js_nil))
def b_Room_product : MF Fl := (seqS (exprS (calF (lenF 2 f_require_member) (consF (vA 0) (consF (vA 1) nilF)))) (seqS (exprS (calF (lenF 2 f_require_member) (consF (vA 0) (consF (vA 2) nilF)))) (fun _ _ _ => .bad)))
abbrev f_Room_product : AF := bodyF 3 b_Room_product
theorem s_Room_product : FnScope ["self", "one", "other"] ["self", "one", "other"] (defScope st_Room_product) := ⟨rfl, rfl, rfl, by decide +kernel, rfl, by decide +kernel, by decide +kernel⟩
theorem t_Room_product (T : Txt P mg C) : FnM P C.w C.K mg base C 20 (C.gt 24) 3 f_Room_product :=
  T.d_Room_product.fn (k := 19) s_Room_product (fun kV doc pm cdv ct an us hl => match us, hl with | [_, _, _], _ => rfl) rfl rfl rfl fun cdv A outer s H E W =>
    (js_cons (js_expr (je_call (g := 46) W.W (t_require_member T) (by decide) rfl T.m_require_member T.k_require_member (ja_cons (je_var (i := 0) rfl (by first | exact Or.inl rfl | exact Or.inr (Or.inl rfl) | exact Or.inr (Or.inr rfl))) (ja_cons (je_var (i := 1) rfl (by first | exact Or.inl rfl | exact Or.inr (Or.inl rfl) | exact Or.inr (Or.inr rfl))) ja_nil)))) (js_cons (js_expr (je_call (g := 46) W.W (t_require_member T) (by decide) rfl T.m_require_member T.k_require_member (ja_cons (je_var (i := 0) rfl (by first | exact Or.inl rfl | exact Or.inr (Or.inl rfl) | exact Or.inr (Or.inr rfl))) (ja_cons (je_var (i := 2) rfl (by first | exact Or.inl rfl | exact Or.inr (Or.inl rfl) | exact Or.inr (Or.inr rfl))) ja_nil)))) js_never))
def b_Room_contrary : MF Fl := (seqS (exprS (calF (lenF 2 f_require_member) (consF (vA 0) (consF (vA 1) nilF)))) (fun _ _ _ => .bad))
abbrev f_Room_contrary : AF := bodyF 2 b_Room_contrary
theorem s_Room_contrary : FnScope ["self", "member"] ["self", "member"] (defScope st_Room_contrary) := ⟨rfl, rfl, rfl, by decide +kernel, rfl, by decide +kernel, by decide +kernel⟩
theorem t_Room_contrary (T : Txt P mg C) : FnM P C.w C.K mg base C 20 (C.gt 25) 2 f_Room_contrary :=
  T.d_Room_contrary.fn (k := 19) s_Room_contrary (fun kV doc pm cdv ct an us hl => match us, hl with | [_, _], _ => rfl) rfl rfl rfl fun cdv A outer s H E W =>
    (js_cons (js_expr (je_call (g := 46) W.W (t_require_member T) (by decide) rfl T.m_require_member T.k_require_member (ja_cons (je_var (i := 0) rfl (by first | exact Or.inl rfl | exact Or.inr (Or.inl rfl) | exact Or.inr (Or.inr rfl))) (ja_cons (je_var (i := 1) rfl (by first | exact Or.inl rfl | exact Or.inr (Or.inl rfl) | exact Or.inr (Or.inr rfl))) ja_nil)))) js_never)
def b_power_in : MF Fl := (seqS (asgS 3 (ifF (asB (bin (cmpO fun i j => decide (j ≤ i)) (vA 2) (cA (.int 0)))) (fun _ _ _ => .bad) (bin ixO (slF [(17, 0)] (vA 0)) (vA 1)))) (seqS (asgS 4 (cA (.int 0))) (seqS (forG (.nm 5) (rangeI rg1 (consF (calF absO (consF (vA 2) nilF)) nilF)) (asgS 4 (bin ixO (bin ixO (slF [(17, 4)] (vA 0)) (vA 4)) (vA 3)))) (retS (vA 4)))))
abbrev f_power_in : AF := bodyF 6 b_power_in
theorem s_power_in : FnScope ["room", "member", "many", "base", "found", "turn"] ["room", "member", "many"] (defScope st_power_in) := ⟨rfl, rfl, rfl, by decide +kernel, rfl, by decide +kernel, by decide +kernel⟩
theorem t_power_in (T : Txt P mg C) : FnM P C.w C.K mg base C 4 (C.gt 34) 3 f_power_in :=
  T.d_power_in.fn (k := 3) s_power_in (fun kV doc pm cdv ct an us hl => match us, hl with | [_, _, _], _ => rfl) rfl rfl rfl fun cdv A outer s H E W =>
    (js_cons (js_set (i := 3) W.W.nd rfl (by first | exact Or.inl rfl | exact Or.inr rfl) (je_if (jt_cmp op_ge (cmpO_ok _) (je_var (i := 2) rfl (by first | exact Or.inl rfl | exact Or.inr (Or.inl rfl) | exact Or.inr (Or.inr rfl))) je_int (nomark _)) je_never (je_sub W.W.K (L2.hu_of W.W.room) (je_sl W.W T.sl_own_contraries (je_var (i := 0) rfl (by first | exact Or.inl rfl | exact Or.inr (Or.inl rfl) | exact Or.inr (Or.inr rfl)))) (je_var (i := 1) rfl (by first | exact Or.inl rfl | exact Or.inr (Or.inl rfl) | exact Or.inr (Or.inr rfl)))))) (js_cons (js_set (i := 4) W.W.nd rfl (by first | exact Or.inl rfl | exact Or.inr rfl) je_int) (js_cons (js_forG W.W W.own (ji_range1 rfl T.b_range (ja_cons (je_callB call_abs absO_ok rfl T.b_abs bt_abs (ja_cons (je_var (i := 2) rfl (by first | exact Or.inl rfl | exact Or.inr (Or.inl rfl) | exact Or.inr (Or.inr rfl))) ja_nil)) ja_nil)) (jg_nm (i := 5) W.W.nd rfl (by first | exact Or.inl rfl | exact Or.inr rfl)) (js_one (js_set (i := 4) W.W.nd rfl (by first | exact Or.inl rfl | exact Or.inr rfl) (je_sub W.W.K (L2.hu_of W.W.room) (je_sub W.W.K (L2.hu_of W.W.room) (je_sl W.W T.sl_own_products (je_var (i := 0) rfl (by first | exact Or.inl rfl | exact Or.inr (Or.inl rfl) | exact Or.inr (Or.inr rfl)))) (je_var (i := 4) rfl (by first | exact Or.inl rfl | exact Or.inr (Or.inl rfl) | exact Or.inr (Or.inr rfl)))) (je_var (i := 3) rfl (by first | exact Or.inl rfl | exact Or.inr (Or.inl rfl) | exact Or.inr (Or.inr rfl))))))) (js_one (js_ret (je_var (i := 4) rfl (by first | exact Or.inl rfl | exact Or.inr (Or.inl rfl) | exact Or.inr (Or.inr rfl))))))))
def b_Room_power : MF Fl := (seqS (exprS (calF (lenF 2 f_require_member) (consF (vA 0) (consF (vA 1) nilF)))) (seqS (exprS (calF (lenF 3 f_require_within) (consF (vA 2) (consF (negO (cA (.int 20))) (consF (cA (.int 20)) nilF))))) (retS (calF (lenF 3 f_power_in) (consF (vA 0) (consF (vA 1) (consF (vA 2) nilF)))))))
abbrev f_Room_power : AF := bodyF 3 b_Room_power
theorem s_Room_power : FnScope ["self", "member", "many"] ["self", "member", "many"] (defScope st_Room_power) := ⟨rfl, rfl, rfl, by decide +kernel, rfl, by decide +kernel, by decide +kernel⟩
theorem t_Room_power (T : Txt P mg C) : FnM P C.w C.K mg base C 20 (C.gt 26) 3 f_Room_power :=
  T.d_Room_power.fn (k := 19) s_Room_power (fun kV doc pm cdv ct an us hl => match us, hl with | [_, _, _], _ => rfl) rfl rfl rfl fun cdv A outer s H E W =>
    (js_cons (js_expr (je_call (g := 46) W.W (t_require_member T) (by decide) rfl T.m_require_member T.k_require_member (ja_cons (je_var (i := 0) rfl (by first | exact Or.inl rfl | exact Or.inr (Or.inl rfl) | exact Or.inr (Or.inr rfl))) (ja_cons (je_var (i := 1) rfl (by first | exact Or.inl rfl | exact Or.inr (Or.inl rfl) | exact Or.inr (Or.inr rfl))) ja_nil)))) (js_cons (js_expr (je_call (g := 11) W.W (t_require_within T) (by decide) rfl T.m_require_within T.k_require_within (ja_cons (je_var (i := 2) rfl (by first | exact Or.inl rfl | exact Or.inr (Or.inl rfl) | exact Or.inr (Or.inr rfl))) (ja_cons (je_neg (je_gintx rfl T.i_MOST_POWER)) (ja_cons (je_gintx rfl T.i_MOST_POWER) ja_nil))))) (js_one (js_ret (je_call (g := 34) W.W (t_power_in T) (by decide) rfl T.m_power_in T.k_power_in (ja_cons (je_var (i := 0) rfl (by first | exact Or.inl rfl | exact Or.inr (Or.inl rfl) | exact Or.inr (Or.inr rfl))) (ja_cons (je_var (i := 1) rfl (by first | exact Or.inl rfl | exact Or.inr (Or.inl rfl) | exact Or.inr (Or.inr rfl))) (ja_cons (je_var (i := 2) rfl (by first | exact Or.inl rfl | exact Or.inr (Or.inl rfl) | exact Or.inr (Or.inr rfl))) ja_nil))))))))
def b_Room_order : MF Fl := (seqS (exprS (calF (lenF 2 f_require_member) (consF (vA 0) (consF (vA 1) nilF)))) (fun _ _ _ => .bad))
abbrev f_Room_order : AF := bodyF 2 b_Room_order
theorem s_Room_order : FnScope ["self", "member"] ["self", "member"] (defScope st_Room_order) := ⟨rfl, rfl, rfl, by decide +kernel, rfl, by decide +kernel, by decide +kernel⟩
theorem t_Room_order (T : Txt P mg C) : FnM P C.w C.K mg base C 20 (C.gt 27) 2 f_Room_order :=
  T.d_Room_order.fn (k := 19) s_Room_order (fun kV doc pm cdv ct an us hl => match us, hl with | [_, _], _ => rfl) rfl rfl rfl fun cdv A outer s H E W =>
    (js_cons (js_expr (je_call (g := 46) W.W (t_require_member T) (by decide) rfl T.m_require_member T.k_require_member (ja_cons (je_var (i := 0) rfl (by first | exact Or.inl rfl | exact Or.inr (Or.inl rfl) | exact Or.inr (Or.inr rfl))) (ja_cons (je_var (i := 1) rfl (by first | exact Or.inl rfl | exact Or.inr (Or.inl rfl) | exact Or.inr (Or.inr rfl))) ja_nil)))) js_never)
def b_Room_number_of : MF Fl := (seqS (ifS (orF (notF (asT (calF (lenF 2 f_is_permutation) (consF (slF [(17, 3)] (vA 0)) (consF (vA 1) nilF))))) (asB (bin (inO true) (vA 1) (slF [(17, 2)] (vA 0))))) (raise0S 2) nextS) (fun _ _ _ => .bad))
abbrev f_Room_number_of : AF := bodyF 2 b_Room_number_of
theorem s_Room_number_of : FnScope ["self", "permutation"] ["self", "permutation"] (defScope st_Room_number_of) := ⟨rfl, rfl, rfl, by decide +kernel, rfl, by decide +kernel, by decide +kernel⟩
theorem t_Room_number_of (T : Txt P mg C) : FnM P C.w C.K mg base C 20 (C.gt 28) 2 f_Room_number_of :=
  T.d_Room_number_of.fn (k := 19) s_Room_number_of (fun kV doc pm cdv ct an us hl => match us, hl with | [_, _], _ => rfl) rfl rfl rfl fun cdv A outer s H E W =>
    (js_cons (js_if (PW.pt (jw_or (jt_not (jt_truth W.W.K (je_call (g := 15) W.W (t_is_permutation T) (by decide) rfl T.m_is_permutation T.k_is_permutation (ja_cons (je_sl W.W T.sl_own_points (je_var (i := 0) rfl (by first | exact Or.inl rfl | exact Or.inr (Or.inl rfl) | exact Or.inr (Or.inr rfl)))) (ja_cons (je_var (i := 1) rfl (by first | exact Or.inl rfl | exact Or.inr (Or.inl rfl) | exact Or.inr (Or.inr rfl))) ja_nil))))) (jw_or1 (jt_notin W.W.K (L2.hu_of W.W.room) (je_var (i := 1) rfl (by first | exact Or.inl rfl | exact Or.inr (Or.inl rfl) | exact Or.inr (Or.inr rfl))) (je_sl W.W T.sl_own_numbers (je_var (i := 0) rfl (by first | exact Or.inl rfl | exact Or.inr (Or.inl rfl) | exact Or.inr (Or.inr rfl)))) rfl)))) (js_one (js_raise0 W.W W.tk (by refine Exn0.mk' ?_ ?_ <;> first | exact T.x_InvalidOperation | rfl))) js_nil) js_never)
def b_lot_in : MF Fl := (seqS (parS 2 3 (consF (dict1F (cA (.int 0)) (cA (.bl true))) (consF (lstF (consF (cA (.int 0)) nilF)) nilF))) (seqS (whileF (asB (bin (eqO true) (vA 3) (lstF nilF))) (seqS (asgS 4 (metF "list" popO (vA 3) nilF)) (forG (.nm 5) (seqI (vA 1)) (seqS (asgS 6 (bin ixO (bin ixO (slF [(17, 4)] (vA 0)) (vA 4)) (vA 5))) (ifS (asB (bin (inO true) (vA 6) (vA 2))) (seqS (putS' (vA 2) (vA 6) (cA (.bl true))) (exprS (metF "list" appO (vA 3) (consF (vA 6) nilF)))) nextS)))) 400) (retS (calF tupleO (consF (calF sortedO (consF (vA 2) nilF)) nilF)))))
abbrev f_lot_in : AF := bodyF 7 b_lot_in
theorem s_lot_in : FnScope ["room", "members", "found", "waiting", "here", "member", "later"] ["room", "members"] (defScope st_lot_in) := ⟨rfl, rfl, rfl, by decide +kernel, rfl, by decide +kernel, by decide +kernel⟩
theorem t_lot_in (T : Txt P mg C) : FnM P C.w C.K mg base C 4 (C.gt 37) 2 f_lot_in :=
  T.d_lot_in.fn (k := 3) s_lot_in (fun kV doc pm cdv ct an us hl => match us, hl with | [_, _], _ => rfl) rfl rfl rfl fun cdv A outer s H E W =>
    (js_cons (js_par (i := 2) (j := 3) W.W.calm W.W.nd rfl rfl (by decide) rfl rfl (ja_cons (je_dict1 W.W je_int je_bl) (ja_cons (je_lst (ja_cons je_int ja_nil)) ja_nil)) rfl) (js_cons (js_while 400 W.own (jt_cmp (op_neD W.W.room.units) neO_ok (je_var (i := 3) rfl (by first | exact Or.inl rfl | exact Or.inr (Or.inl rfl) | exact Or.inr (Or.inr rfl))) (je_lst ja_nil) (nomark _)) (js_cons (js_set (i := 4) W.W.nd rfl (by first | exact Or.inl rfl | exact Or.inr rfl) (je_met0 W.W.K (Or.inl rfl) F.plainAttrs_list F.slot_list_pop F.type_list_pop mt_pop popO_ok (je_var (i := 3) rfl (by first | exact Or.inl rfl | exact Or.inr (Or.inl rfl) | exact Or.inr (Or.inr rfl))))) (js_one (js_forG W.W W.own (ji_seq W.W (je_var (i := 1) rfl (by first | exact Or.inl rfl | exact Or.inr (Or.inl rfl) | exact Or.inr (Or.inr rfl)))) (jg_nm (i := 5) W.W.nd rfl (by first | exact Or.inl rfl | exact Or.inr rfl)) (js_cons (js_set (i := 6) W.W.nd rfl (by first | exact Or.inl rfl | exact Or.inr rfl) (je_sub W.W.K (L2.hu_of W.W.room) (je_sub W.W.K (L2.hu_of W.W.room) (je_sl W.W T.sl_own_products (je_var (i := 0) rfl (by first | exact Or.inl rfl | exact Or.inr (Or.inl rfl) | exact Or.inr (Or.inr rfl)))) (je_var (i := 4) rfl (by first | exact Or.inl rfl | exact Or.inr (Or.inl rfl) | exact Or.inr (Or.inr rfl)))) (je_var (i := 5) rfl (by first | exact Or.inl rfl | exact Or.inr (Or.inl rfl) | exact Or.inr (Or.inr rfl))))) (js_one (js_if (jt_notin W.W.K (L2.hu_of W.W.room) (je_var (i := 6) rfl (by first | exact Or.inl rfl | exact Or.inr (Or.inl rfl) | exact Or.inr (Or.inr rfl))) (je_var (i := 2) rfl (by first | exact Or.inl rfl | exact Or.inr (Or.inl rfl) | exact Or.inr (Or.inr rfl))) rfl) (js_cons (js_put W.W (je_var (i := 2) rfl (by first | exact Or.inl rfl | exact Or.inr (Or.inl rfl) | exact Or.inr (Or.inr rfl))) (je_var (i := 6) rfl (by first | exact Or.inl rfl | exact Or.inr (Or.inl rfl) | exact Or.inr (Or.inr rfl))) je_bl) (js_one (js_expr (je_met W.W.K (Or.inl rfl) F.plainAttrs_list F.slot_list_append F.type_list_append mt_append appO_ok (je_var (i := 3) rfl (by first | exact Or.inl rfl | exact Or.inr (Or.inl rfl) | exact Or.inr (Or.inr rfl))) (ja_cons (je_var (i := 6) rfl (by first | exact Or.inl rfl | exact Or.inr (Or.inl rfl) | exact Or.inr (Or.inr rfl))) ja_nil))))) js_nil))))))) (js_one (js_ret (je_callTy call_tuple_of tupleO_ok rfl T.b_tuple bt_tuple (ja_cons (je_callB call_srt (sortedO_ok W.W) rfl T.b_sorted bt_sorted (ja_cons (je_var (i := 2) rfl (by first | exact Or.inl rfl | exact Or.inr (Or.inl rfl) | exact Or.inr (Or.inr rfl))) ja_nil)) ja_nil))))))
def b_is_lot_in : MF Fl := (seqS (ifS (orF (notF (asT (pureE (calF (lenF 3 f_are_within) (consF (vA 1) (consF (cA (.int 0)) (consF (bin subO (calF lenO (consF (slF [(17, 1)] (vA 0)) nilF)) (cA (.int 1))) nilF))))))) (asB (bin (eqO false) (vA 1) (tupF nilF)))) (retS (cA (.bl false))) nextS) (retS (andV (bin (cmpO fun i j => decide (i ≤ j)) (calF lenO (consF (vA 1) nilF)) (cA (.int 24))) (bin (eqO false) (pureE (calF (lenF 2 f_lot_in) (consF (vA 0) (consF (vA 1) nilF)))) (vA 1)))))
abbrev f_is_lot_in : AF := bodyF 2 b_is_lot_in
theorem s_is_lot_in : FnScope ["room", "value"] ["room", "value"] (defScope st_is_lot_in) := ⟨rfl, rfl, rfl, by decide +kernel, rfl, by decide +kernel, by decide +kernel⟩
theorem t_is_lot_in (T : Txt P mg C) : FnM P C.w C.K mg base C 16 (C.gt 44) 2 f_is_lot_in :=
  T.d_is_lot_in.fn (k := 15) s_is_lot_in (fun kV doc pm cdv ct an us hl => match us, hl with | [_, _], _ => rfl) rfl rfl rfl fun cdv A outer s H E W =>
    (js_cons (js_if (PW.pt (jw_or (jt_not (jt_truth W.W.K (je_pure (je_call (g := 10) W.W (t_are_within T) (by decide) rfl T.m_are_within T.k_are_within (ja_cons (je_var (i := 1) rfl (by first | exact Or.inl rfl | exact Or.inr (Or.inl rfl) | exact Or.inr (Or.inr rfl))) (ja_cons je_int (ja_cons (je_op op_sub subO_ok (je_callB call_lenA lenO_ok rfl T.b_len bt_len (ja_cons (je_sl W.W T.sl_own_members (je_var (i := 0) rfl (by first | exact Or.inl rfl | exact Or.inr (Or.inl rfl) | exact Or.inr (Or.inr rfl)))) ja_nil)) je_int) ja_nil))))))) (jw_or1 (jt_cmp (op_eqD W.W.room.units) eqO_ok (je_var (i := 1) rfl (by first | exact Or.inl rfl | exact Or.inr (Or.inl rfl) | exact Or.inr (Or.inr rfl))) (je_tup ja_nil) (nomark _))))) (js_one (js_ret je_bl)) js_nil) (js_one (js_ret (je_and (je_cmp op_le (cmpO_ok _) (je_callB call_lenA lenO_ok rfl T.b_len bt_len (ja_cons (je_var (i := 1) rfl (by first | exact Or.inl rfl | exact Or.inr (Or.inl rfl) | exact Or.inr (Or.inr rfl))) ja_nil)) (je_gintx rfl T.i_MAX_MEMBERS) (nomark _)) (je_one (je_cmp (op_eqD W.W.room.units) eqO_ok (je_pure (je_call (g := 37) W.W (t_lot_in T) (by decide) rfl T.m_lot_in T.k_lot_in (ja_cons (je_var (i := 0) rfl (by first | exact Or.inl rfl | exact Or.inr (Or.inl rfl) | exact Or.inr (Or.inr rfl))) (ja_cons (je_var (i := 1) rfl (by first | exact Or.inl rfl | exact Or.inr (Or.inl rfl) | exact Or.inr (Or.inr rfl))) ja_nil)))) (je_var (i := 1) rfl (by first | exact Or.inl rfl | exact Or.inr (Or.inl rfl) | exact Or.inr (Or.inr rfl))) (nomark _)))))))
def b_require_room : MF Fl := (ifS (notF (asT (optF (isC0 [17] 17) (vA 0)))) (raise0S 1) nextS)
abbrev f_require_room : AF := bodyF 1 b_require_room
theorem s_require_room : FnScope ["value"] ["value"] (defScope st_require_room) := ⟨rfl, rfl, rfl, by decide +kernel, rfl, by decide +kernel, by decide +kernel⟩
theorem t_require_room (T : Txt P mg C) : FnM P C.w C.K mg base C 4 (C.gt 45) 1 f_require_room :=
  T.d_require_room.fn (k := 3) s_require_room (fun kV doc pm cdv ct an us hl => match us, hl with | [_], _ => rfl) rfl rfl rfl fun cdv A outer s H E W =>
    (js_one (js_if (jt_not (jt_truth W.W.K (je_isC W.W T.isC_Room T.cl_Room T.ty_Room rfl T.b_isinstance (je_var (i := 0) rfl (by first | exact Or.inl rfl | exact Or.inr (Or.inl rfl) | exact Or.inr (Or.inr rfl))) rfl T.m_Room))) (js_one (js_raise0 W.W W.tk (by refine Exn0.mk' ?_ ?_ <;> first | exact T.x_InvalidRoom | rfl))) js_nil))
def b_require_lot : MF Fl := (ifS (notF (asT (pureE (calF (lenF 2 f_is_lot_in) (consF (vA 0) (consF (vA 1) nilF)))))) (raise0S 2) nextS)
abbrev f_require_lot : AF := bodyF 2 b_require_lot
theorem s_require_lot : FnScope ["room", "value"] ["room", "value"] (defScope st_require_lot) := ⟨rfl, rfl, rfl, by decide +kernel, rfl, by decide +kernel, by decide +kernel⟩
theorem t_require_lot (T : Txt P mg C) : FnM P C.w C.K mg base C 20 (C.gt 47) 2 f_require_lot :=
  T.d_require_lot.fn (k := 19) s_require_lot (fun kV doc pm cdv ct an us hl => match us, hl with | [_, _], _ => rfl) rfl rfl rfl fun cdv A outer s H E W =>
    (js_one (js_if (jt_not (jt_truth W.W.K (je_pure (je_call (g := 44) W.W (t_is_lot_in T) (by decide) rfl T.m_is_lot_in T.k_is_lot_in (ja_cons (je_var (i := 0) rfl (by first | exact Or.inl rfl | exact Or.inr (Or.inl rfl) | exact Or.inr (Or.inr rfl))) (ja_cons (je_var (i := 1) rfl (by first | exact Or.inl rfl | exact Or.inr (Or.inl rfl) | exact Or.inr (Or.inr rfl))) ja_nil)))))) (js_one (js_raise0 W.W W.tk (by refine Exn0.mk' ?_ ?_ <;> first | exact T.x_InvalidOperation | rfl))) js_nil))
def b_lot_of : MF Fl := (seqS (exprS (calF (lenF 1 f_require_room) (consF (vA 0) nilF))) (seqS (ifS (orF (notF (asT (pureE (calF (lenF 3 f_are_within) (consF (vA 1) (consF (cA (.int 0)) (consF (bin subO (calF lenO (consF (slF [(17, 1)] (vA 0)) nilF)) (cA (.int 1))) nilF))))))) (asB (bin (cmpO fun i j => decide (j < i)) (calF lenO (consF (vA 1) nilF)) (cA (.int 24))))) (raise0S 2) nextS) (retS (pureE (calF (lenF 2 f_lot_in) (consF (vA 0) (consF (vA 1) nilF)))))))
abbrev f_lot_of : AF := bodyF 2 b_lot_of
theorem s_lot_of : FnScope ["room", "members"] ["room", "members"] (defScope st_lot_of) := ⟨rfl, rfl, rfl, by decide +kernel, rfl, by decide +kernel, by decide +kernel⟩
theorem t_lot_of (T : Txt P mg C) : FnM P C.w C.K mg base C 16 (C.gt 48) 2 f_lot_of :=
  T.d_lot_of.fn (k := 15) s_lot_of (fun kV doc pm cdv ct an us hl => match us, hl with | [_, _], _ => rfl) rfl rfl rfl fun cdv A outer s H E W =>
    (js_cons (js_expr (je_call (g := 45) W.W (t_require_room T) (by decide) rfl T.m_require_room T.k_require_room (ja_cons (je_var (i := 0) rfl (by first | exact Or.inl rfl | exact Or.inr (Or.inl rfl) | exact Or.inr (Or.inr rfl))) ja_nil))) (js_cons (js_if (PW.pt (jw_or (jt_not (jt_truth W.W.K (je_pure (je_call (g := 10) W.W (t_are_within T) (by decide) rfl T.m_are_within T.k_are_within (ja_cons (je_var (i := 1) rfl (by first | exact Or.inl rfl | exact Or.inr (Or.inl rfl) | exact Or.inr (Or.inr rfl))) (ja_cons je_int (ja_cons (je_op op_sub subO_ok (je_callB call_lenA lenO_ok rfl T.b_len bt_len (ja_cons (je_sl W.W T.sl_own_members (je_var (i := 0) rfl (by first | exact Or.inl rfl | exact Or.inr (Or.inl rfl) | exact Or.inr (Or.inr rfl)))) ja_nil)) je_int) ja_nil))))))) (jw_or1 (jt_cmp op_gt (cmpO_ok _) (je_callB call_lenA lenO_ok rfl T.b_len bt_len (ja_cons (je_var (i := 1) rfl (by first | exact Or.inl rfl | exact Or.inr (Or.inl rfl) | exact Or.inr (Or.inr rfl))) ja_nil)) (je_gintx rfl T.i_MAX_MEMBERS) (nomark _))))) (js_one (js_raise0 W.W W.tk (by refine Exn0.mk' ?_ ?_ <;> first | exact T.x_InvalidOperation | rfl))) js_nil) (js_one (js_ret (je_pure (je_call (g := 37) W.W (t_lot_in T) (by decide) rfl T.m_lot_in T.k_lot_in (ja_cons (je_var (i := 0) rfl (by first | exact Or.inl rfl | exact Or.inr (Or.inl rfl) | exact Or.inr (Or.inr rfl))) (ja_cons (je_var (i := 1) rfl (by first | exact Or.inl rfl | exact Or.inr (Or.inl rfl) | exact Or.inr (Or.inr rfl))) ja_nil))))))))
def b_is_lot : MF Fl := (seqS (exprS (calF (lenF 1 f_require_room) (consF (vA 0) nilF))) (retS (pureE (calF (lenF 2 f_is_lot_in) (consF (vA 0) (consF (vA 1) nilF))))))
abbrev f_is_lot : AF := bodyF 2 b_is_lot
theorem s_is_lot : FnScope ["room", "value"] ["room", "value"] (defScope st_is_lot) := ⟨rfl, rfl, rfl, by decide +kernel, rfl, by decide +kernel, by decide +kernel⟩
theorem t_is_lot (T : Txt P mg C) : FnM P C.w C.K mg base C 20 (C.gt 49) 2 f_is_lot :=
  T.d_is_lot.fn (k := 19) s_is_lot (fun kV doc pm cdv ct an us hl => match us, hl with | [_, _], _ => rfl) rfl rfl rfl fun cdv A outer s H E W =>
    (js_cons (js_expr (je_call (g := 45) W.W (t_require_room T) (by decide) rfl T.m_require_room T.k_require_room (ja_cons (je_var (i := 0) rfl (by first | exact Or.inl rfl | exact Or.inr (Or.inl rfl) | exact Or.inr (Or.inr rfl))) ja_nil))) (js_one (js_ret (je_pure (je_call (g := 44) W.W (t_is_lot_in T) (by decide) rfl T.m_is_lot_in T.k_is_lot_in (ja_cons (je_var (i := 0) rfl (by first | exact Or.inl rfl | exact Or.inr (Or.inl rfl) | exact Or.inr (Or.inr rfl))) (ja_cons (je_var (i := 1) rfl (by first | exact Or.inl rfl | exact Or.inr (Or.inl rfl) | exact Or.inr (Or.inr rfl))) ja_nil)))))))
def b_left_lots : MF Fl := (seqS (exprS (calF (lenF 1 f_require_room) (consF (vA 0) nilF))) (seqS (exprS (calF (lenF 2 f_require_lot) (consF (vA 0) (consF (vA 1) nilF)))) (fun _ _ _ => .bad)))
abbrev f_left_lots : AF := bodyF 2 b_left_lots
theorem s_left_lots : FnScope ["room", "lot"] ["room", "lot"] (defScope st_left_lots) := ⟨rfl, rfl, rfl, by decide +kernel, rfl, by decide +kernel, by decide +kernel⟩
theorem t_left_lots (T : Txt P mg C) : FnM P C.w C.K mg base C 24 (C.gt 50) 2 f_left_lots :=
  T.d_left_lots.fn (k := 23) s_left_lots (fun kV doc pm cdv ct an us hl => match us, hl with | [_, _], _ => rfl) rfl rfl rfl fun cdv A outer s H E W =>
    (js_cons (js_expr (je_call (g := 45) W.W (t_require_room T) (by decide) rfl T.m_require_room T.k_require_room (ja_cons (je_var (i := 0) rfl (by first | exact Or.inl rfl | exact Or.inr (Or.inl rfl) | exact Or.inr (Or.inr rfl))) ja_nil))) (js_cons (js_expr (je_call (g := 47) W.W (t_require_lot T) (by decide) rfl T.m_require_lot T.k_require_lot (ja_cons (je_var (i := 0) rfl (by first | exact Or.inl rfl | exact Or.inr (Or.inl rfl) | exact Or.inr (Or.inr rfl))) (ja_cons (je_var (i := 1) rfl (by first | exact Or.inl rfl | exact Or.inr (Or.inl rfl) | exact Or.inr (Or.inr rfl))) ja_nil)))) js_never))
def b_parted : MF Fl := (seqS (exprS (calF (lenF 1 f_require_room) (consF (vA 0) nilF))) (seqS (exprS (calF (lenF 2 f_require_lot) (consF (vA 0) (consF (vA 1) nilF)))) (seqS (exprS (calF (lenF 2 f_require_member) (consF (vA 0) (consF (vA 2) nilF)))) (fun _ _ _ => .bad))))
abbrev f_parted : AF := bodyF 3 b_parted
theorem s_parted : FnScope ["room", "lot", "member"] ["room", "lot", "member"] (defScope st_parted) := ⟨rfl, rfl, rfl, by decide +kernel, rfl, by decide +kernel, by decide +kernel⟩
theorem t_parted (T : Txt P mg C) : FnM P C.w C.K mg base C 24 (C.gt 51) 3 f_parted :=
  T.d_parted.fn (k := 23) s_parted (fun kV doc pm cdv ct an us hl => match us, hl with | [_, _, _], _ => rfl) rfl rfl rfl fun cdv A outer s H E W =>
    (js_cons (js_expr (je_call (g := 45) W.W (t_require_room T) (by decide) rfl T.m_require_room T.k_require_room (ja_cons (je_var (i := 0) rfl (by first | exact Or.inl rfl | exact Or.inr (Or.inl rfl) | exact Or.inr (Or.inr rfl))) ja_nil))) (js_cons (js_expr (je_call (g := 47) W.W (t_require_lot T) (by decide) rfl T.m_require_lot T.k_require_lot (ja_cons (je_var (i := 0) rfl (by first | exact Or.inl rfl | exact Or.inr (Or.inl rfl) | exact Or.inr (Or.inr rfl))) (ja_cons (je_var (i := 1) rfl (by first | exact Or.inl rfl | exact Or.inr (Or.inl rfl) | exact Or.inr (Or.inr rfl))) ja_nil)))) (js_cons (js_expr (je_call (g := 46) W.W (t_require_member T) (by decide) rfl T.m_require_member T.k_require_member (ja_cons (je_var (i := 0) rfl (by first | exact Or.inl rfl | exact Or.inr (Or.inl rfl) | exact Or.inr (Or.inr rfl))) (ja_cons (je_var (i := 2) rfl (by first | exact Or.inl rfl | exact Or.inr (Or.inl rfl) | exact Or.inr (Or.inr rfl))) ja_nil)))) js_never)))
def b_turned : MF Fl := (seqS (exprS (calF (lenF 1 f_require_room) (consF (vA 0) nilF))) (seqS (exprS (calF (lenF 2 f_require_member) (consF (vA 0) (consF (vA 1) nilF)))) (seqS (exprS (calF (lenF 2 f_require_member) (consF (vA 0) (consF (vA 2) nilF)))) (fun _ _ _ => .bad))))
abbrev f_turned : AF := bodyF 3 b_turned
theorem s_turned : FnScope ["room", "member", "by"] ["room", "member", "by"] (defScope st_turned) := ⟨rfl, rfl, rfl, by decide +kernel, rfl, by decide +kernel, by decide +kernel⟩
theorem t_turned (T : Txt P mg C) : FnM P C.w C.K mg base C 20 (C.gt 52) 3 f_turned :=
  T.d_turned.fn (k := 19) s_turned (fun kV doc pm cdv ct an us hl => match us, hl with | [_, _, _], _ => rfl) rfl rfl rfl fun cdv A outer s H E W =>
    (js_cons (js_expr (je_call (g := 45) W.W (t_require_room T) (by decide) rfl T.m_require_room T.k_require_room (ja_cons (je_var (i := 0) rfl (by first | exact Or.inl rfl | exact Or.inr (Or.inl rfl) | exact Or.inr (Or.inr rfl))) ja_nil))) (js_cons (js_expr (je_call (g := 46) W.W (t_require_member T) (by decide) rfl T.m_require_member T.k_require_member (ja_cons (je_var (i := 0) rfl (by first | exact Or.inl rfl | exact Or.inr (Or.inl rfl) | exact Or.inr (Or.inr rfl))) (ja_cons (je_var (i := 1) rfl (by first | exact Or.inl rfl | exact Or.inr (Or.inl rfl) | exact Or.inr (Or.inr rfl))) ja_nil)))) (js_cons (js_expr (je_call (g := 46) W.W (t_require_member T) (by decide) rfl T.m_require_member T.k_require_member (ja_cons (je_var (i := 0) rfl (by first | exact Or.inl rfl | exact Or.inr (Or.inl rfl) | exact Or.inr (Or.inr rfl))) (ja_cons (je_var (i := 2) rfl (by first | exact Or.inl rfl | exact Or.inr (Or.inl rfl) | exact Or.inr (Or.inr rfl))) ja_nil)))) js_never)))
def b_classes : MF Fl := (seqS (exprS (calF (lenF 1 f_require_room) (consF (vA 0) nilF))) (fun _ _ _ => .bad))
abbrev f_classes : AF := bodyF 2 b_classes
theorem s_classes : FnScope ["room", "member"] ["room"] (defScope st_classes) := ⟨rfl, rfl, rfl, by decide +kernel, rfl, by decide +kernel, by decide +kernel⟩
theorem t_classes (T : Txt P mg C) : FnM P C.w C.K mg base C 8 (C.gt 53) 1 f_classes :=
  T.d_classes.fn (k := 7) s_classes (fun kV doc pm cdv ct an us hl => match us, hl with | [_], _ => rfl) rfl rfl rfl fun cdv A outer s H E W =>
    (js_cons (js_expr (je_call (g := 45) W.W (t_require_room T) (by decide) rfl T.m_require_room T.k_require_room (ja_cons (je_var (i := 0) rfl (by first | exact Or.inl rfl | exact Or.inr (Or.inl rfl) | exact Or.inr (Or.inr rfl))) ja_nil))) js_never)
def b_lots : MF Fl := (seqS (exprS (calF (lenF 1 f_require_room) (consF (vA 0) nilF))) (fun _ _ _ => .bad))
abbrev f_lots : AF := bodyF 1 b_lots
theorem s_lots : FnScope ["room"] ["room"] (defScope st_lots) := ⟨rfl, rfl, rfl, by decide +kernel, rfl, by decide +kernel, by decide +kernel⟩
theorem t_lots (T : Txt P mg C) : FnM P C.w C.K mg base C 8 (C.gt 54) 1 f_lots :=
  T.d_lots.fn (k := 7) s_lots (fun kV doc pm cdv ct an us hl => match us, hl with | [_], _ => rfl) rfl rfl rfl fun cdv A outer s H E W =>
    (js_cons (js_expr (je_call (g := 45) W.W (t_require_room T) (by decide) rfl T.m_require_room T.k_require_room (ja_cons (je_var (i := 0) rfl (by first | exact Or.inl rfl | exact Or.inr (Or.inl rfl) | exact Or.inr (Or.inr rfl))) ja_nil))) js_never)
def b__law_trough : MF Fl := (seqS (asgS 2 (ifF (asB (bin (cmpO fun i j => decide (i < j)) (vA 1) (calF lenO (consF (vA 0) nilF)))) (calF intO (consF (bin ixO (vA 0) (vA 1)) nilF)) (bin addO (bin mulO (cA (.int 191)) (vA 1)) (cA (.int 83))))) (seqS (asgS 3 (bin modO (calF intO (consF (calF absO (consF (vA 2) nilF)) nilF)) (bin powO (bin powO (cA (.int 10)) (cA (.int 59))) (cA (.int 6))))) (retS (lstF (consF (calF max2O (consF (cA (.int 0)) (consF (bin subO (vA 3) (bin powO (cA (.int 10)) (cA (.int 16)))) nilF))) (consF (bin addO (bin addO (bin addO (bin mulO (bin modO (calF intO (consF (vA 3) nilF)) (cA (.int 2147483423))) (cA (.int 137))) (bin mulO (cA (.int 661)) (vA 1))) (bin mulO (cA (.int 59)) (calF intO (consF (bin (cmpO fun i j => decide (i < j)) (vA 2) (cA (.int 0))) nilF)))) (cA (.int 7))) (consF (cA (.int 0)) nilF)))))))
abbrev f__law_trough : AF := bodyF 4 b__law_trough
theorem s__law_trough : FnScope ["script", "spot", "cell", "great"] ["script", "spot"] (defScope st__law_trough) := ⟨rfl, rfl, rfl, by decide +kernel, rfl, by decide +kernel, by decide +kernel⟩
theorem t__law_trough (T : Txt P mg C) : FnM P C.w C.K mg base C 4 (C.gt 55) 2 f__law_trough :=
  T.d__law_trough.fn (k := 3) s__law_trough (fun kV doc pm cdv ct an us hl => match us, hl with | [_, _], _ => rfl) rfl rfl rfl fun cdv A outer s H E W =>
    (js_cons (js_set (i := 2) W.W.nd rfl (by first | exact Or.inl rfl | exact Or.inr rfl) (je_if (jt_cmp op_lt (cmpO_ok _) (je_var (i := 1) rfl (by first | exact Or.inl rfl | exact Or.inr (Or.inl rfl) | exact Or.inr (Or.inr rfl))) (je_callB call_lenA lenO_ok rfl T.b_len bt_len (ja_cons (je_var (i := 0) rfl (by first | exact Or.inl rfl | exact Or.inr (Or.inl rfl) | exact Or.inr (Or.inr rfl))) ja_nil)) (nomark _)) (je_callTy call_int1 intO_ok rfl T.b_int bt_int (ja_cons (je_sub W.W.K (L2.hu_of W.W.room) (je_var (i := 0) rfl (by first | exact Or.inl rfl | exact Or.inr (Or.inl rfl) | exact Or.inr (Or.inr rfl))) (je_var (i := 1) rfl (by first | exact Or.inl rfl | exact Or.inr (Or.inl rfl) | exact Or.inr (Or.inr rfl)))) ja_nil)) (je_op op_addA addO_ok (je_op op_mulA mulO_ok je_int (je_var (i := 1) rfl (by first | exact Or.inl rfl | exact Or.inr (Or.inl rfl) | exact Or.inr (Or.inr rfl)))) je_int))) (js_cons (js_set (i := 3) W.W.nd rfl (by first | exact Or.inl rfl | exact Or.inr rfl) (je_op op_mod modO_ok (je_callTy call_int1 intO_ok rfl T.b_int bt_int (ja_cons (je_callB call_abs absO_ok rfl T.b_abs bt_abs (ja_cons (je_var (i := 2) rfl (by first | exact Or.inl rfl | exact Or.inr (Or.inl rfl) | exact Or.inr (Or.inr rfl))) ja_nil)) ja_nil)) (je_op op_powA powO_ok (je_op op_powA powO_ok je_int je_int) je_int))) (js_one (js_ret (je_lst (ja_cons (je_callB (call_max2 W.W.calm) max2O_ok rfl T.b_max bt_max (ja_cons je_int (ja_cons (je_op op_sub subO_ok (je_var (i := 3) rfl (by first | exact Or.inl rfl | exact Or.inr (Or.inl rfl) | exact Or.inr (Or.inr rfl))) (je_op op_powA powO_ok je_int je_int)) ja_nil))) (ja_cons (je_op op_addA addO_ok (je_op op_addA addO_ok (je_op op_addA addO_ok (je_op op_mulA mulO_ok (je_op op_mod modO_ok (je_callTy call_int1 intO_ok rfl T.b_int bt_int (ja_cons (je_var (i := 3) rfl (by first | exact Or.inl rfl | exact Or.inr (Or.inl rfl) | exact Or.inr (Or.inr rfl))) ja_nil)) je_int) je_int) (je_op op_mulA mulO_ok je_int (je_var (i := 1) rfl (by first | exact Or.inl rfl | exact Or.inr (Or.inl rfl) | exact Or.inr (Or.inr rfl))))) (je_op op_mulA mulO_ok je_int (je_callTy call_int1 intO_ok rfl T.b_int bt_int (ja_cons (je_cmp op_lt (cmpO_ok _) (je_var (i := 2) rfl (by first | exact Or.inl rfl | exact Or.inr (Or.inl rfl) | exact Or.inr (Or.inr rfl))) je_int (nomark _)) ja_nil)))) je_int) (ja_cons je_int ja_nil))))))))
def b__law_poured : MF Fl := (seqS (ifS (asB (bin (cmpO fun i j => decide (j < i)) (bin ixO (vA 0) (cA (.int 0))) (cA (.int 0)))) (seqS (asgS 2 (bin modO (calF intO (consF (bin ixO (vA 0) (cA (.int 0))) nilF)) (vA 1))) (seqS (putS' (vA 0) (cA (.int 0)) (bin divO (bin ixO (vA 0) (cA (.int 0))) (vA 1))) (retS (vA 2)))) nextS) (seqS (putS' (vA 0) (cA (.int 2)) (bin addO (bin ixO (vA 0) (cA (.int 2))) (cA (.int 1)))) (seqS (asgS 3 (bin modO (calF intO (consF (bin addO (bin ixO (vA 0) (cA (.int 1))) (bin mulO (cA (.int 9999973)) (bin ixO (vA 0) (cA (.int 2))))) nilF)) (cA (.int 2305843009213693951)))) (seqS (asgS 4 (bin addO (bin mulO (bin modO (calF intO (consF (bin addO (bin mulO (vA 3) (vA 3)) (bin mulO (cA (.int 227)) (bin ixO (vA 0) (cA (.int 2))))) nilF)) (cA (.int 2305843009213693951))) (cA (.int 8388593))) (vA 3))) (retS (bin modO (calF intO (consF (bin divO (vA 4) (cA (.int 131072))) nilF)) (vA 1)))))))
abbrev f__law_poured : AF := bodyF 5 b__law_poured
theorem s__law_poured : FnScope ["trough", "total", "found", "one", "two"] ["trough", "total"] (defScope st__law_poured) := ⟨rfl, rfl, rfl, by decide +kernel, rfl, by decide +kernel, by decide +kernel⟩
theorem t__law_poured (T : Txt P mg C) : FnM P C.w C.K mg base C 4 (C.gt 56) 2 f__law_poured :=
  T.d__law_poured.fn (k := 3) s__law_poured (fun kV doc pm cdv ct an us hl => match us, hl with | [_, _], _ => rfl) rfl rfl rfl fun cdv A outer s H E W =>
    (js_cons (js_if (jt_cmp op_gt (cmpO_ok _) (je_sub W.W.K (L2.hu_of W.W.room) (je_var (i := 0) rfl (by first | exact Or.inl rfl | exact Or.inr (Or.inl rfl) | exact Or.inr (Or.inr rfl))) je_int) je_int (nomark _)) (js_cons (js_set (i := 2) W.W.nd rfl (by first | exact Or.inl rfl | exact Or.inr rfl) (je_op op_mod modO_ok (je_callTy call_int1 intO_ok rfl T.b_int bt_int (ja_cons (je_sub W.W.K (L2.hu_of W.W.room) (je_var (i := 0) rfl (by first | exact Or.inl rfl | exact Or.inr (Or.inl rfl) | exact Or.inr (Or.inr rfl))) je_int) ja_nil)) (je_var (i := 1) rfl (by first | exact Or.inl rfl | exact Or.inr (Or.inl rfl) | exact Or.inr (Or.inr rfl))))) (js_cons (js_put W.W (je_var (i := 0) rfl (by first | exact Or.inl rfl | exact Or.inr (Or.inl rfl) | exact Or.inr (Or.inr rfl))) je_int (je_op op_fdivW divO_ok (je_sub W.W.K (L2.hu_of W.W.room) (je_var (i := 0) rfl (by first | exact Or.inl rfl | exact Or.inr (Or.inl rfl) | exact Or.inr (Or.inr rfl))) je_int) (je_var (i := 1) rfl (by first | exact Or.inl rfl | exact Or.inr (Or.inl rfl) | exact Or.inr (Or.inr rfl))))) (js_one (js_ret (je_var (i := 2) rfl (by first | exact Or.inl rfl | exact Or.inr (Or.inl rfl) | exact Or.inr (Or.inr rfl))))))) js_nil) (js_cons (js_put W.W (je_var (i := 0) rfl (by first | exact Or.inl rfl | exact Or.inr (Or.inl rfl) | exact Or.inr (Or.inr rfl))) je_int (je_op op_addA addO_ok (je_sub W.W.K (L2.hu_of W.W.room) (je_var (i := 0) rfl (by first | exact Or.inl rfl | exact Or.inr (Or.inl rfl) | exact Or.inr (Or.inr rfl))) je_int) je_int)) (js_cons (js_set (i := 3) W.W.nd rfl (by first | exact Or.inl rfl | exact Or.inr rfl) (je_op op_mod modO_ok (je_callTy call_int1 intO_ok rfl T.b_int bt_int (ja_cons (je_op op_addA addO_ok (je_sub W.W.K (L2.hu_of W.W.room) (je_var (i := 0) rfl (by first | exact Or.inl rfl | exact Or.inr (Or.inl rfl) | exact Or.inr (Or.inr rfl))) je_int) (je_op op_mulA mulO_ok je_int (je_sub W.W.K (L2.hu_of W.W.room) (je_var (i := 0) rfl (by first | exact Or.inl rfl | exact Or.inr (Or.inl rfl) | exact Or.inr (Or.inr rfl))) je_int))) ja_nil)) je_int)) (js_cons (js_set (i := 4) W.W.nd rfl (by first | exact Or.inl rfl | exact Or.inr rfl) (je_op op_addA addO_ok (je_op op_mulA mulO_ok (je_op op_mod modO_ok (je_callTy call_int1 intO_ok rfl T.b_int bt_int (ja_cons (je_op op_addA addO_ok (je_op op_mulA mulO_ok (je_var (i := 3) rfl (by first | exact Or.inl rfl | exact Or.inr (Or.inl rfl) | exact Or.inr (Or.inr rfl))) (je_var (i := 3) rfl (by first | exact Or.inl rfl | exact Or.inr (Or.inl rfl) | exact Or.inr (Or.inr rfl)))) (je_op op_mulA mulO_ok je_int (je_sub W.W.K (L2.hu_of W.W.room) (je_var (i := 0) rfl (by first | exact Or.inl rfl | exact Or.inr (Or.inl rfl) | exact Or.inr (Or.inr rfl))) je_int))) ja_nil)) je_int) je_int) (je_var (i := 3) rfl (by first | exact Or.inl rfl | exact Or.inr (Or.inl rfl) | exact Or.inr (Or.inr rfl))))) (js_one (js_ret (je_op op_mod modO_ok (je_callTy call_int1 intO_ok rfl T.b_int bt_int (ja_cons (je_op op_fdivW divO_ok (je_var (i := 4) rfl (by first | exact Or.inl rfl | exact Or.inr (Or.inl rfl) | exact Or.inr (Or.inr rfl))) je_int) ja_nil)) (je_var (i := 1) rfl (by first | exact Or.inl rfl | exact Or.inr (Or.inl rfl) | exact Or.inr (Or.inr rfl))))))))))
def b__law_wanted : MF Fl := (retS (bin ixO (vA 1) (calF (lenF 2 f__law_poured) (consF (vA 0) (consF (calF lenO (consF (vA 1) nilF)) nilF)))))
abbrev f__law_wanted : AF := bodyF 2 b__law_wanted
theorem s__law_wanted : FnScope ["trough", "items"] ["trough", "items"] (defScope st__law_wanted) := ⟨rfl, rfl, rfl, by decide +kernel, rfl, by decide +kernel, by decide +kernel⟩
theorem t__law_wanted (T : Txt P mg C) : FnM P C.w C.K mg base C 8 (C.gt 57) 2 f__law_wanted :=
  T.d__law_wanted.fn (k := 7) s__law_wanted (fun kV doc pm cdv ct an us hl => match us, hl with | [_, _], _ => rfl) rfl rfl rfl fun cdv A outer s H E W =>
    (js_one (js_ret (je_sub W.W.K (L2.hu_of W.W.room) (je_var (i := 1) rfl (by first | exact Or.inl rfl | exact Or.inr (Or.inl rfl) | exact Or.inr (Or.inr rfl))) (je_call (g := 56) W.W (t__law_poured T) (by decide) rfl T.m__law_poured T.k__law_poured (ja_cons (je_var (i := 0) rfl (by first | exact Or.inl rfl | exact Or.inr (Or.inl rfl) | exact Or.inr (Or.inr rfl))) (ja_cons (je_callB call_lenA lenO_ok rfl T.b_len bt_len (ja_cons (je_var (i := 1) rfl (by first | exact Or.inl rfl | exact Or.inr (Or.inl rfl) | exact Or.inr (Or.inr rfl))) ja_nil)) ja_nil))))))
def m_hl : List HnM := [(1, none, fun _ => (retS (tupF (consF (cA (.str "raised")) (consF (cA (.str "room")) nilF))))), (2, none, fun _ => (retS (tupF (consF (cA (.str "raised")) (consF (cA (.str "operation")) nilF))))), (3, some 1, ret3 "raised" "number" (repT 3)), (5, some 1, ret3 "raised" "many" (argT 5))]
def m_ret : MF Fl := (retS (tupF (consF (cA (.str "let")) nilF)))
theorem s__law_met : FnScope ["call", "error"] ["call"] (defScope st__law_met) := ⟨rfl, rfl, rfl, by decide +kernel, rfl, by decide +kernel, by decide +kernel⟩
theorem j_met {X : Cx} {E : XK} {k j : Nat} {fb : MF A} {c Q : Addr} {params : Arguments} {body : Expr} {scope : Scope} {p lpos pos : Pos} (T : Txt X.prog X.mg C) (W : Go X C E k) (gd : X.A.guards = some []) (hg : Gl X "_law_met") (TB : TabB X.base X.mg c Q) (hcode : X.env.code = .ref c) (hmT : (Q, X.env.qual ++ "<lambda>") ∈ C.T) (hu : ∀ p ∈ C.T, p.1 = Q → p.2 = X.env.qual ++ "<lambda>") (hj : j + 2 ≤ k) (L : LamS X.env.scope scope) (hdef : defaultsOf params X.env = ([], []))
    (hbind : ∀ (q : Str) (cl : List (Str × Addr)) (pm cv ctv : Value), bindArgs (PySem.W.kla_fn "<lambda>" q params body scope cl pm cv ctv) ⟨[], []⟩ = pure [])
    (hbody : ∀ (A : Around) (outer : List Env) (s : Shared) (H : Hp) (E : XK) (f c' : Addr), Go (lamCx X A outer s H E scope f c') C E j → PE (lamCx X A outer s H E scope f c') body (tE C E fb)) :
    PE X (.Call (.Name "_law_met" p) [.Lambda params body scope lpos] [] pos) (tE C E (metL exb m_hl m_ret 2 fb)) := by
  obtain ⟨oc, kV, doc, pm, cdv, ct, od, an, osl, l, hc⟩ := T.d__law_met.ok
  rw [← W.K] at l hc
  exact je_met_lam (Ng := ["call", "error"]) T.exB W hg T.m__law_met (by rw [W.K]; exact T.k__law_met) l hc (Binds.all fun us hl => match us, hl with | [_], _ => rfl) s__law_met rfl (by first | exact Or.inl rfl | exact Or.inr (Or.inl rfl))
    (fun s H => (.plain ⟨rfl, by decide, .inl T.m_InvalidRoom⟩ (fun _ _ _ _ _ _ _ => tsX_plain (js_one (js_ret (je_tup (ja_cons (je_str rfl) (ja_cons (je_str rfl) ja_nil)))))) (.plain ⟨rfl, by decide, .inl T.m_InvalidOperation⟩ (fun _ _ _ _ _ _ _ => tsX_plain (js_one (js_ret (je_tup (ja_cons (je_str rfl) (ja_cons (je_str rfl) ja_nil)))))) (.named (i := 1) rfl rfl ⟨rfl, by decide, .inl T.e_InvalidNumber.m⟩ (fun a oe cls d pn hz hd => hd_ret3 (by decide) (gives_rep W.K gd (by have := W.room.un; show X.A.units + 3 + 100 < cLine; omega) rfl T.b_repr bt_repr (gives_arg W.K T.e_InvalidNumber.arg T.e_InvalidNumber.no T.e_InvalidNumber.xf hz hd rfl (by first | exact Or.inl rfl | exact Or.inr (Or.inl rfl))))) (.named (i := 1) rfl rfl ⟨rfl, by decide, .inl T.e_TooMany.m⟩ (fun a oe cls d pn hz hd => hd_ret3 (by decide) (gives_arg W.K T.e_TooMany.arg T.e_TooMany.no T.e_TooMany.xf hz hd rfl (by first | exact Or.inl rfl | exact Or.inr (Or.inl rfl)))) .nil))))) (fun s H => (js_ret (je_tup (ja_cons (je_str rfl) ja_nil)))) TB hcode hmT hu hj L hdef hbind hbody
def m__law_rooms_right_0 : MF A := (lstF (consF (cA .non) (consF (cA (.int 0)) (consF (cA (.int 7)) (consF (negO (cA (.int 1))) (consF (cA (.bl true)) (consF (cA (.str "3")) (consF (tupF (consF (cA (.int 3)) nilF)) (consF (bin powO (cA (.int 10)) (cA (.int 60))) nilF)))))))))
def p__law_rooms_right_0 : MF Fl := (asgS 1 (calF (lenF 2 f__law_wanted) (consF (vA 0) (consF m__law_rooms_right_0 nilF))))
def p__law_rooms_right_1 : MF Fl := (asgS 2 (lstF (consF (cA .non) (consF (lstF (consF (tupF (consF (cA (.int 1)) (consF (cA (.int 0)) (consF (cA (.int 2)) nilF)))) nilF)) (consF (tupF (consF (cA (.int 1)) (consF (cA (.int 0)) (consF (cA (.int 2)) nilF)))) (consF (tupF (consF (tupF (consF (cA (.int 1)) (consF (cA (.int 0)) nilF))) nilF)) (consF (tupF (consF (tupF (consF (cA (.int 1)) (consF (cA (.int 1)) (consF (cA (.int 2)) nilF)))) nilF)) (consF (tupF (consF (tupF (consF (cA (.int 0)) (consF (cA (.int 1)) (consF (cA (.int 3)) nilF)))) nilF)) (consF (tupF (consF (tupF (consF (cA (.int 1)) (consF (cA (.int 0)) (consF (cA (.bl true)) nilF)))) nilF)) (consF (tupF (consF (tupF (consF (cA (.int 2)) (consF (cA (.int 1)) (consF (cA (.str "0")) nilF)))) nilF)) (consF dict0F nilF)))))))))))
def m__law_rooms_right_2 : MF A := (bin addO (vA 2) (lstF (consF (cA (.str "120")) (consF (tupF (consF (tupF (consF (cA (.int 1)) (consF (cA (.int 0)) (consF (cA (.int 2)) nilF)))) (consF (cA .non) nilF))) (consF (bin mulO (tupF (consF (tupF (consF (cA (.int 0)) (consF (cA (.int 1)) (consF (cA (.int 2)) nilF)))) nilF)) (cA (.int 5))) (consF (tupF (consF (lstF (consF (cA (.int 1)) (consF (cA (.int 0)) (consF (cA (.int 2)) nilF)))) nilF)) (consF (tupF (consF (tupF (consF (cA (.int 1)) (consF (cA (.int 0)) (consF (negO (cA (.int 2))) nilF)))) nilF)) nilF)))))))
def p__law_rooms_right_2 : MF Fl := (asgS 3 (calF (lenF 2 f__law_wanted) (consF (vA 0) (consF m__law_rooms_right_2 nilF))))
def m__law_rooms_right_3 : MF A := (lstF (consF (cA .non) (consF (cA (.int 0)) (consF (cA (.int 7)) (consF (cA (.bl true)) (consF (cA (.str "2")) (consF (tupF (consF (cA (.int 1)) nilF)) nilF)))))))
def p__law_rooms_right_3 : MF Fl := (asgS 4 (calF (lenF 2 f__law_wanted) (consF (vA 0) (consF m__law_rooms_right_3 nilF))))
def p__law_rooms_right_4 : MF Fl := (asgS 5 (lstF (consF (pureE (metL exb m_hl m_ret 2 (calF (makeO 17 (lenF 3 f_Room___init__)) (consF (vA 1) (consF (vA 3) nilF))))) nilF)))
def p__law_rooms_right_5 : MF Fl := (exprS (metF "list" appO (vA 5) (consF (pureE (metL exb m_hl m_ret 2 (calF (makeO 17 (lenF 3 f_Room___init__)) (consF (cA (.int 3)) (consF (vA 3) nilF))))) nilF)))
def p__law_rooms_right_6 : MF Fl := (exprS (metF "list" appO (vA 5) (consF (pureE (metL exb m_hl m_ret 2 (calF (fun xs => lenF 2 f_Room_round (.gl 17 :: xs)) (consF (vA 4) nilF)))) nilF)))
def p__law_rooms_right_7 : MF Fl := (exprS (metF "list" appO (vA 5) (consF (pureE (metL exb m_hl m_ret 2 (calF (fun xs => lenF 2 f_Room_whole (.gl 17 :: xs)) (consF (vA 4) nilF)))) nilF)))
def p__law_rooms_right_8 : MF Fl := (exprS (metF "list" appO (vA 5) (consF (pureE (metL exb m_hl m_ret 2 (calF (fun xs => lenF 2 f_Room_whole (.gl 17 :: xs)) (consF (cA (.int 5)) nilF)))) nilF)))
def p__law_rooms_right_9 : MF Fl := (exprS (metF "list" appO (vA 5) (consF (pureE (metL exb m_hl m_ret 2 (calF (makeO 17 (lenF 3 f_Room___init__)) (consF (cA (.int 5)) (consF (tupF (consF (tupF (consF (cA (.int 1)) (consF (cA (.int 2)) (consF (cA (.int 3)) (consF (cA (.int 4)) (consF (cA (.int 0)) nilF)))))) (consF (tupF (consF (cA (.int 1)) (consF (cA (.int 0)) (consF (cA (.int 2)) (consF (cA (.int 3)) (consF (cA (.int 4)) nilF)))))) nilF))) nilF))))) nilF)))
def p__law_rooms_right_10 : MF Fl := (exprS (metF "list" appO (vA 5) (consF (pureE (metL exb m_hl m_ret 2 (calF (makeO 17 (lenF 3 f_Room___init__)) (consF (cA (.int 6)) (consF (bin mulO (tupF (consF (tupF (consF (cA (.int 1)) (consF (cA (.int 0)) (consF (cA (.int 2)) (consF (cA (.int 3)) (consF (cA (.int 4)) (consF (cA (.int 5)) nilF))))))) nilF)) (cA (.int 4))) nilF))))) nilF)))
def p__law_rooms_right_11 : MF Fl := (exprS (metF "list" appO (vA 5) (consF (pureE (metL exb m_hl m_ret 2 (calF (makeO 17 (lenF 3 f_Room___init__)) (consF (cA (.int 4)) (consF (tupF (consF (tupF (consF (cA (.int 1)) (consF (cA (.int 2)) (consF (cA (.int 3)) (consF (cA (.int 0)) nilF))))) (consF (tupF (consF (cA (.int 1)) (consF (cA (.int 0)) (consF (cA (.int 2)) (consF (cA (.int 3)) nilF))))) nilF))) nilF))))) nilF)))
def p__law_rooms_right_12 : MF Fl := (asgS 6 (tupF (consF (cA (.str "raised")) (consF (cA (.str "number")) (consF (calF reprO (consF (vA 4) nilF)) nilF)))))
def p__law_rooms_right_13 : MF Fl := (asgS 7 (lstF (consF (tupF (consF (cA (.str "raised")) (consF (cA (.str "number")) (consF (calF reprO (consF (vA 1) nilF)) nilF)))) (consF (tupF (consF (cA (.str "raised")) (consF (cA (.str "room")) nilF))) (consF (vA 6) (consF (vA 6) (consF (tupF (consF (cA (.str "raised")) (consF (cA (.str "number")) (consF (cA (.str "5")) nilF)))) nilF)))))))
def p__law_rooms_right_14 : MF Fl := (retS (bin (eqO false) (vA 5) (bin addO (vA 7) (lstF (consF (tupF (consF (cA (.str "raised")) (consF (cA (.str "many")) (consF (cA (.int 24)) nilF)))) (consF (tupF (consF (cA (.str "let")) nilF)) (consF (tupF (consF (cA (.str "let")) nilF)) nilF)))))))
def q__law_rooms_right_14 : MF Fl := p__law_rooms_right_14
def q__law_rooms_right_13 : MF Fl := seqS p__law_rooms_right_13 q__law_rooms_right_14
def q__law_rooms_right_12 : MF Fl := seqS p__law_rooms_right_12 q__law_rooms_right_13
def q__law_rooms_right_11 : MF Fl := seqS p__law_rooms_right_11 q__law_rooms_right_12
def q__law_rooms_right_10 : MF Fl := seqS p__law_rooms_right_10 q__law_rooms_right_11
def q__law_rooms_right_9 : MF Fl := seqS p__law_rooms_right_9 q__law_rooms_right_10
def q__law_rooms_right_8 : MF Fl := seqS p__law_rooms_right_8 q__law_rooms_right_9
def q__law_rooms_right_7 : MF Fl := seqS p__law_rooms_right_7 q__law_rooms_right_8
def q__law_rooms_right_6 : MF Fl := seqS p__law_rooms_right_6 q__law_rooms_right_7
def q__law_rooms_right_5 : MF Fl := seqS p__law_rooms_right_5 q__law_rooms_right_6
def q__law_rooms_right_4 : MF Fl := seqS p__law_rooms_right_4 q__law_rooms_right_5
def q__law_rooms_right_3 : MF Fl := seqS p__law_rooms_right_3 q__law_rooms_right_4
def q__law_rooms_right_2 : MF Fl := seqS p__law_rooms_right_2 q__law_rooms_right_3
def q__law_rooms_right_1 : MF Fl := seqS p__law_rooms_right_1 q__law_rooms_right_2
def q__law_rooms_right_0 : MF Fl := seqS p__law_rooms_right_0 q__law_rooms_right_1
abbrev b__law_rooms_right : MF Fl := q__law_rooms_right_0
abbrev f__law_rooms_right : AF := bodyF 8 b__law_rooms_right
theorem s__law_rooms_right : FnScope ["trough", "points", "some", "makers", "size", "told", "wrong", "due"] ["trough"] (defScope st__law_rooms_right) := ⟨rfl, rfl, rfl, by decide +kernel, rfl, by decide +kernel, by decide +kernel⟩
theorem t__law_rooms_right (T : Txt P mg C) (B : Tbs base mg C) : FnGd P C.w C.K mg base C 32 (C.gt 59) 1 f__law_rooms_right :=
  T.d__law_rooms_right.fnG (k := 31) s__law_rooms_right (fun kV doc pm cdv ct an us hl => match us, hl with | [_], _ => rfl) rfl rfl rfl fun A outer s H E W =>
    (js_cons (js_set (i := 1) W.W.nd rfl (by first | exact Or.inl rfl | exact Or.inr rfl) (je_call (g := 57) W.W (t__law_wanted T) (by decide) rfl T.m__law_wanted T.k__law_wanted (ja_cons (je_var (i := 0) rfl (by first | exact Or.inl rfl | exact Or.inr (Or.inl rfl) | exact Or.inr (Or.inr rfl))) (ja_cons (je_lst (ja_cons je_non (ja_cons je_int (ja_cons je_int (ja_cons (je_neg je_int) (ja_cons je_bl (ja_cons (je_str rfl) (ja_cons (je_tup (ja_cons je_int ja_nil)) (ja_cons (je_op op_powA powO_ok je_int je_int) ja_nil))))))))) ja_nil)))) (js_cons (js_set (i := 2) W.W.nd rfl (by first | exact Or.inl rfl | exact Or.inr rfl) (je_lst (ja_cons je_non (ja_cons (je_lst (ja_cons (je_tup (ja_cons je_int (ja_cons je_int (ja_cons je_int ja_nil)))) ja_nil)) (ja_cons (je_tup (ja_cons je_int (ja_cons je_int (ja_cons je_int ja_nil)))) (ja_cons (je_tup (ja_cons (je_tup (ja_cons je_int (ja_cons je_int ja_nil))) ja_nil)) (ja_cons (je_tup (ja_cons (je_tup (ja_cons je_int (ja_cons je_int (ja_cons je_int ja_nil)))) ja_nil)) (ja_cons (je_tup (ja_cons (je_tup (ja_cons je_int (ja_cons je_int (ja_cons je_int ja_nil)))) ja_nil)) (ja_cons (je_tup (ja_cons (je_tup (ja_cons je_int (ja_cons je_int (ja_cons je_bl ja_nil)))) ja_nil)) (ja_cons (je_tup (ja_cons (je_tup (ja_cons je_int (ja_cons je_int (ja_cons (je_str rfl) ja_nil)))) ja_nil)) (ja_cons je_dict0 ja_nil))))))))))) (js_cons (js_set (i := 3) W.W.nd rfl (by first | exact Or.inl rfl | exact Or.inr rfl) (je_call (g := 57) W.W (t__law_wanted T) (by decide) rfl T.m__law_wanted T.k__law_wanted (ja_cons (je_var (i := 0) rfl (by first | exact Or.inl rfl | exact Or.inr (Or.inl rfl) | exact Or.inr (Or.inr rfl))) (ja_cons (je_op op_addA addO_ok (je_var (i := 2) rfl (by first | exact Or.inl rfl | exact Or.inr (Or.inl rfl) | exact Or.inr (Or.inr rfl))) (je_lst (ja_cons (je_str rfl) (ja_cons (je_tup (ja_cons (je_tup (ja_cons je_int (ja_cons je_int (ja_cons je_int ja_nil)))) (ja_cons je_non ja_nil))) (ja_cons (je_op op_mulA mulO_ok (je_tup (ja_cons (je_tup (ja_cons je_int (ja_cons je_int (ja_cons je_int ja_nil)))) ja_nil)) je_int) (ja_cons (je_tup (ja_cons (je_lst (ja_cons je_int (ja_cons je_int (ja_cons je_int ja_nil)))) ja_nil)) (ja_cons (je_tup (ja_cons (je_tup (ja_cons je_int (ja_cons je_int (ja_cons (je_neg je_int) ja_nil)))) ja_nil)) ja_nil))))))) ja_nil)))) (js_cons (js_set (i := 4) W.W.nd rfl (by first | exact Or.inl rfl | exact Or.inr rfl) (je_call (g := 57) W.W (t__law_wanted T) (by decide) rfl T.m__law_wanted T.k__law_wanted (ja_cons (je_var (i := 0) rfl (by first | exact Or.inl rfl | exact Or.inr (Or.inl rfl) | exact Or.inr (Or.inr rfl))) (ja_cons (je_lst (ja_cons je_non (ja_cons je_int (ja_cons je_int (ja_cons je_bl (ja_cons (je_str rfl) (ja_cons (je_tup (ja_cons je_int ja_nil)) ja_nil))))))) ja_nil)))) (js_cons (js_set (i := 5) W.W.nd rfl (by first | exact Or.inl rfl | exact Or.inr rfl) (je_lst (ja_cons (je_pure (j_met (j := 29) T W.W W.gd rfl B.tb__law_rooms_right rfl T.mT__law_rooms_right T.uT__law_rooms_right (by decide) (lamS_by (by first | decide +kernel | rfl)) rfl (fun _ _ _ _ _ => rfl) (fun A outer s H E f c W2 => (je_make (c := 17) W2 T.mk_Room (t_Room___init__ T) (by decide) rfl T.m_Room (ja_cons (je_var (i := 1) rfl (by first | exact Or.inl rfl | exact Or.inr (Or.inl rfl) | exact Or.inr (Or.inr rfl))) (ja_cons (je_var (i := 3) rfl (by first | exact Or.inl rfl | exact Or.inr (Or.inl rfl) | exact Or.inr (Or.inr rfl))) ja_nil)))))) ja_nil))) (js_cons (js_expr (je_met W.W.K (Or.inl rfl) F.plainAttrs_list F.slot_list_append F.type_list_append mt_append appO_ok (je_var (i := 5) rfl (by first | exact Or.inl rfl | exact Or.inr (Or.inl rfl) | exact Or.inr (Or.inr rfl))) (ja_cons (je_pure (j_met (j := 29) T W.W W.gd rfl B.tb__law_rooms_right rfl T.mT__law_rooms_right T.uT__law_rooms_right (by decide) (lamS_by (by first | decide +kernel | rfl)) rfl (fun _ _ _ _ _ => rfl) (fun A outer s H E f c W2 => (je_make (c := 17) W2 T.mk_Room (t_Room___init__ T) (by decide) rfl T.m_Room (ja_cons je_int (ja_cons (je_var (i := 3) rfl (by first | exact Or.inl rfl | exact Or.inr (Or.inl rfl) | exact Or.inr (Or.inr rfl))) ja_nil)))))) ja_nil))) (js_cons (js_expr (je_met W.W.K (Or.inl rfl) F.plainAttrs_list F.slot_list_append F.type_list_append mt_append appO_ok (je_var (i := 5) rfl (by first | exact Or.inl rfl | exact Or.inr (Or.inl rfl) | exact Or.inr (Or.inr rfl))) (ja_cons (je_pure (j_met (j := 29) T W.W W.gd rfl B.tb__law_rooms_right rfl T.mT__law_rooms_right T.uT__law_rooms_right (by decide) (lamS_by (by first | decide +kernel | rfl)) rfl (fun _ _ _ _ _ => rfl) (fun A outer s H E f c W2 => (je_cmeth (fo := cA .non) (c := 17) W2 T.rd_Room T.cm_Room_round (t_Room_round T) (by decide) (je_gl (g := 17) rfl T.m_Room) (ja_cons (je_var (i := 4) rfl (by first | exact Or.inl rfl | exact Or.inr (Or.inl rfl) | exact Or.inr (Or.inr rfl))) ja_nil))))) ja_nil))) (js_cons (js_expr (je_met W.W.K (Or.inl rfl) F.plainAttrs_list F.slot_list_append F.type_list_append mt_append appO_ok (je_var (i := 5) rfl (by first | exact Or.inl rfl | exact Or.inr (Or.inl rfl) | exact Or.inr (Or.inr rfl))) (ja_cons (je_pure (j_met (j := 29) T W.W W.gd rfl B.tb__law_rooms_right rfl T.mT__law_rooms_right T.uT__law_rooms_right (by decide) (lamS_by (by first | decide +kernel | rfl)) rfl (fun _ _ _ _ _ => rfl) (fun A outer s H E f c W2 => (je_cmeth (fo := cA .non) (c := 17) W2 T.rd_Room T.cm_Room_whole (t_Room_whole T) (by decide) (je_gl (g := 17) rfl T.m_Room) (ja_cons (je_var (i := 4) rfl (by first | exact Or.inl rfl | exact Or.inr (Or.inl rfl) | exact Or.inr (Or.inr rfl))) ja_nil))))) ja_nil))) (js_cons (js_expr (je_met W.W.K (Or.inl rfl) F.plainAttrs_list F.slot_list_append F.type_list_append mt_append appO_ok (je_var (i := 5) rfl (by first | exact Or.inl rfl | exact Or.inr (Or.inl rfl) | exact Or.inr (Or.inr rfl))) (ja_cons (je_pure (j_met (j := 29) T W.W W.gd rfl B.tb__law_rooms_right rfl T.mT__law_rooms_right T.uT__law_rooms_right (by decide) (lamS_by (by first | decide +kernel | rfl)) rfl (fun _ _ _ _ _ => rfl) (fun A outer s H E f c W2 => (je_cmeth (fo := cA .non) (c := 17) W2 T.rd_Room T.cm_Room_whole (t_Room_whole T) (by decide) (je_gl (g := 17) rfl T.m_Room) (ja_cons je_int ja_nil))))) ja_nil))) (js_cons (js_expr (je_met W.W.K (Or.inl rfl) F.plainAttrs_list F.slot_list_append F.type_list_append mt_append appO_ok (je_var (i := 5) rfl (by first | exact Or.inl rfl | exact Or.inr (Or.inl rfl) | exact Or.inr (Or.inr rfl))) (ja_cons (je_pure (j_met (j := 29) T W.W W.gd rfl B.tb__law_rooms_right rfl T.mT__law_rooms_right T.uT__law_rooms_right (by decide) (lamS_by (by first | decide +kernel | rfl)) rfl (fun _ _ _ _ _ => rfl) (fun A outer s H E f c W2 => (je_make (c := 17) W2 T.mk_Room (t_Room___init__ T) (by decide) rfl T.m_Room (ja_cons je_int (ja_cons (je_tup (ja_cons (je_tup (ja_cons je_int (ja_cons je_int (ja_cons je_int (ja_cons je_int (ja_cons je_int ja_nil)))))) (ja_cons (je_tup (ja_cons je_int (ja_cons je_int (ja_cons je_int (ja_cons je_int (ja_cons je_int ja_nil)))))) ja_nil))) ja_nil)))))) ja_nil))) (js_cons (js_expr (je_met W.W.K (Or.inl rfl) F.plainAttrs_list F.slot_list_append F.type_list_append mt_append appO_ok (je_var (i := 5) rfl (by first | exact Or.inl rfl | exact Or.inr (Or.inl rfl) | exact Or.inr (Or.inr rfl))) (ja_cons (je_pure (j_met (j := 29) T W.W W.gd rfl B.tb__law_rooms_right rfl T.mT__law_rooms_right T.uT__law_rooms_right (by decide) (lamS_by (by first | decide +kernel | rfl)) rfl (fun _ _ _ _ _ => rfl) (fun A outer s H E f c W2 => (je_make (c := 17) W2 T.mk_Room (t_Room___init__ T) (by decide) rfl T.m_Room (ja_cons je_int (ja_cons (je_op op_mulA mulO_ok (je_tup (ja_cons (je_tup (ja_cons je_int (ja_cons je_int (ja_cons je_int (ja_cons je_int (ja_cons je_int (ja_cons je_int ja_nil))))))) ja_nil)) je_int) ja_nil)))))) ja_nil))) (js_cons (js_expr (je_met W.W.K (Or.inl rfl) F.plainAttrs_list F.slot_list_append F.type_list_append mt_append appO_ok (je_var (i := 5) rfl (by first | exact Or.inl rfl | exact Or.inr (Or.inl rfl) | exact Or.inr (Or.inr rfl))) (ja_cons (je_pure (j_met (j := 29) T W.W W.gd rfl B.tb__law_rooms_right rfl T.mT__law_rooms_right T.uT__law_rooms_right (by decide) (lamS_by (by first | decide +kernel | rfl)) rfl (fun _ _ _ _ _ => rfl) (fun A outer s H E f c W2 => (je_make (c := 17) W2 T.mk_Room (t_Room___init__ T) (by decide) rfl T.m_Room (ja_cons je_int (ja_cons (je_tup (ja_cons (je_tup (ja_cons je_int (ja_cons je_int (ja_cons je_int (ja_cons je_int ja_nil))))) (ja_cons (je_tup (ja_cons je_int (ja_cons je_int (ja_cons je_int (ja_cons je_int ja_nil))))) ja_nil))) ja_nil)))))) ja_nil))) (js_cons (js_set (i := 6) W.W.nd rfl (by first | exact Or.inl rfl | exact Or.inr rfl) (je_tup (ja_cons (je_str rfl) (ja_cons (je_str rfl) (ja_cons (je_repr W.W W.gd rfl T.b_repr bt_repr (ja_cons (je_var (i := 4) rfl (by first | exact Or.inl rfl | exact Or.inr (Or.inl rfl) | exact Or.inr (Or.inr rfl))) ja_nil)) ja_nil))))) (js_cons (js_set (i := 7) W.W.nd rfl (by first | exact Or.inl rfl | exact Or.inr rfl) (je_lst (ja_cons (je_tup (ja_cons (je_str rfl) (ja_cons (je_str rfl) (ja_cons (je_repr W.W W.gd rfl T.b_repr bt_repr (ja_cons (je_var (i := 1) rfl (by first | exact Or.inl rfl | exact Or.inr (Or.inl rfl) | exact Or.inr (Or.inr rfl))) ja_nil)) ja_nil)))) (ja_cons (je_tup (ja_cons (je_str rfl) (ja_cons (je_str rfl) ja_nil))) (ja_cons (je_var (i := 6) rfl (by first | exact Or.inl rfl | exact Or.inr (Or.inl rfl) | exact Or.inr (Or.inr rfl))) (ja_cons (je_var (i := 6) rfl (by first | exact Or.inl rfl | exact Or.inr (Or.inl rfl) | exact Or.inr (Or.inr rfl))) (ja_cons (je_tup (ja_cons (je_str rfl) (ja_cons (je_str rfl) (ja_cons (je_str rfl) ja_nil)))) ja_nil))))))) (js_one (js_ret (je_cmp (op_eqD W.W.room.units) eqO_ok (je_var (i := 5) rfl (by first | exact Or.inl rfl | exact Or.inr (Or.inl rfl) | exact Or.inr (Or.inr rfl))) (je_op op_addA addO_ok (je_var (i := 7) rfl (by first | exact Or.inl rfl | exact Or.inr (Or.inl rfl) | exact Or.inr (Or.inr rfl))) (je_lst (ja_cons (je_tup (ja_cons (je_str rfl) (ja_cons (je_str rfl) (ja_cons je_int ja_nil)))) (ja_cons (je_tup (ja_cons (je_str rfl) ja_nil)) (ja_cons (je_tup (ja_cons (je_str rfl) ja_nil)) ja_nil))))) (nomark _))))))))))))))))))
def m__law_members_right_0 : MF A := (lstF (consF (cA .non) (consF (negO (cA (.int 1))) (consF (cA (.int 6)) (consF (cA (.bl true)) (consF (cA (.str "1")) (consF (tupF (consF (cA (.int 1)) nilF)) (consF (bin powO (cA (.int 10)) (cA (.int 60))) (consF (lstF (consF (cA (.int 0)) nilF)) nilF)))))))))
def p__law_members_right_0 : MF Fl := (asgS 2 (calF (lenF 2 f__law_wanted) (consF (vA 0) (consF m__law_members_right_0 nilF))))
def m__law_members_right_1 : MF A := (lstF (consF (cA .non) (consF (cA (.int 21)) (consF (negO (cA (.int 21))) (consF (cA (.bl false)) (consF (cA (.str "1")) (consF (tupF (consF (cA (.int 1)) nilF)) (consF (bin powO (cA (.int 10)) (cA (.int 60))) nilF))))))))
def p__law_members_right_1 : MF Fl := (asgS 3 (calF (lenF 2 f__law_wanted) (consF (vA 0) (consF m__law_members_right_1 nilF))))
def p__law_members_right_2 : MF Fl := (asgS 4 (lstF (consF (cA .non) (consF (cA (.int 3)) (consF (tupF (consF (cA (.int 1)) (consF (cA (.int 2)) nilF))) (consF (tupF (consF (cA (.int 0)) (consF (cA (.int 1)) (consF (cA (.int 2)) (consF (cA (.int 3)) nilF))))) (consF (lstF (consF (cA (.int 1)) (consF (cA (.int 2)) (consF (cA (.int 0)) nilF)))) (consF (tupF (consF (cA (.int 1)) (consF (cA (.int 2)) (consF (cA (.int 2)) nilF)))) (consF (tupF (consF (cA (.bl true)) (consF (cA (.int 2)) (consF (cA (.int 0)) nilF)))) (consF (cA (.str "120")) (consF dict0F (consF (tupF (consF (tupF (consF (cA (.int 1)) (consF (cA (.int 2)) (consF (cA (.int 0)) nilF)))) nilF)) nilF))))))))))))
def m__law_members_right_3 : MF A := (vA 4)
def p__law_members_right_3 : MF Fl := (asgS 5 (calF (lenF 2 f__law_wanted) (consF (vA 0) (consF m__law_members_right_3 nilF))))
def p__law_members_right_4 : MF Fl := (asgS 6 (lstF (consF (pureE (metL exb m_hl m_ret 2 (methF 17 (lenF 3 f_Room_product) (vA 1) (consF (vA 2) (consF (vA 2) nilF))))) nilF)))
def p__law_members_right_5 : MF Fl := (exprS (metF "list" appO (vA 6) (consF (pureE (metL exb m_hl m_ret 2 (methF 17 (lenF 3 f_Room_product) (vA 1) (consF (cA (.int 1)) (consF (vA 2) nilF))))) nilF)))
def p__law_members_right_6 : MF Fl := (exprS (metF "list" appO (vA 6) (consF (pureE (metL exb m_hl m_ret 2 (methF 17 (lenF 2 f_Room_contrary) (vA 1) (consF (vA 2) nilF)))) nilF)))
def p__law_members_right_7 : MF Fl := (exprS (metF "list" appO (vA 6) (consF (pureE (metL exb m_hl m_ret 2 (methF 17 (lenF 2 f_Room_order) (vA 1) (consF (vA 2) nilF)))) nilF)))
def p__law_members_right_8 : MF Fl := (exprS (metF "list" appO (vA 6) (consF (pureE (metL exb m_hl m_ret 2 (methF 17 (lenF 3 f_Room_power) (vA 1) (consF (vA 2) (consF (vA 3) nilF))))) nilF)))
def p__law_members_right_9 : MF Fl := (exprS (metF "list" appO (vA 6) (consF (pureE (metL exb m_hl m_ret 2 (methF 17 (lenF 3 f_Room_power) (vA 1) (consF (cA (.int 5)) (consF (vA 3) nilF))))) nilF)))
def p__law_members_right_10 : MF Fl := (exprS (metF "list" appO (vA 6) (consF (pureE (metL exb m_hl m_ret 2 (methF 17 (lenF 2 f_Room_number_of) (vA 1) (consF (vA 5) nilF)))) nilF)))
def p__law_members_right_11 : MF Fl := (exprS (metF "list" appO (vA 6) (consF (pureE (metL exb m_hl m_ret 2 (methF 17 (lenF 2 f_Room_number_of) (calF (fun xs => lenF 2 f_Room_round (.gl 17 :: xs)) (consF (cA (.int 3)) nilF)) (consF (tupF (consF (cA (.int 1)) (consF (cA (.int 0)) (consF (cA (.int 2)) nilF)))) nilF)))) nilF)))
def p__law_members_right_12 : MF Fl := (exprS (metF "list" appO (vA 6) (consF (pureE (metL exb m_hl m_ret 2 (methF 17 (lenF 3 f_Room_power) (vA 1) (consF (cA (.int 3)) (consF (negO (cA (.int 20))) nilF))))) nilF)))
def p__law_members_right_13 : MF Fl := (parS 7 8 (consF (tupF (consF (cA (.str "raised")) (consF (cA (.str "number")) (consF (calF reprO (consF (vA 2) nilF)) nilF)))) (consF (tupF (consF (cA (.str "raised")) (consF (cA (.str "operation")) nilF))) nilF)))
def p__law_members_right_14 : MF Fl := (retS (bin (eqO false) (vA 6) (bin addO (bin mulO (lstF (consF (vA 7) nilF)) (cA (.int 5))) (lstF (consF (tupF (consF (cA (.str "raised")) (consF (cA (.str "number")) (consF (calF reprO (consF (vA 3) nilF)) nilF)))) (consF (vA 8) (consF (vA 8) (consF (tupF (consF (cA (.str "let")) nilF)) nilF))))))))
def q__law_members_right_14 : MF Fl := p__law_members_right_14
def q__law_members_right_13 : MF Fl := seqS p__law_members_right_13 q__law_members_right_14
def q__law_members_right_12 : MF Fl := seqS p__law_members_right_12 q__law_members_right_13
def q__law_members_right_11 : MF Fl := seqS p__law_members_right_11 q__law_members_right_12
def q__law_members_right_10 : MF Fl := seqS p__law_members_right_10 q__law_members_right_11
def q__law_members_right_9 : MF Fl := seqS p__law_members_right_9 q__law_members_right_10
def q__law_members_right_8 : MF Fl := seqS p__law_members_right_8 q__law_members_right_9
def q__law_members_right_7 : MF Fl := seqS p__law_members_right_7 q__law_members_right_8
def q__law_members_right_6 : MF Fl := seqS p__law_members_right_6 q__law_members_right_7
def q__law_members_right_5 : MF Fl := seqS p__law_members_right_5 q__law_members_right_6
def q__law_members_right_4 : MF Fl := seqS p__law_members_right_4 q__law_members_right_5
def q__law_members_right_3 : MF Fl := seqS p__law_members_right_3 q__law_members_right_4
def q__law_members_right_2 : MF Fl := seqS p__law_members_right_2 q__law_members_right_3
def q__law_members_right_1 : MF Fl := seqS p__law_members_right_1 q__law_members_right_2
def q__law_members_right_0 : MF Fl := seqS p__law_members_right_0 q__law_members_right_1
abbrev b__law_members_right : MF Fl := q__law_members_right_0
abbrev f__law_members_right : AF := bodyF 9 b__law_members_right
theorem s__law_members_right : FnScope ["trough", "six", "bad", "many", "some", "odd", "told", "wrong", "operation"] ["trough", "six"] (defScope st__law_members_right) := ⟨rfl, rfl, rfl, by decide +kernel, rfl, by decide +kernel, by decide +kernel⟩
theorem t__law_members_right (T : Txt P mg C) (B : Tbs base mg C) : FnGd P C.w C.K mg base C 32 (C.gt 60) 2 f__law_members_right :=
  T.d__law_members_right.fnG (k := 31) s__law_members_right (fun kV doc pm cdv ct an us hl => match us, hl with | [_, _], _ => rfl) rfl rfl rfl fun A outer s H E W =>
    (js_cons (js_set (i := 2) W.W.nd rfl (by first | exact Or.inl rfl | exact Or.inr rfl) (je_call (g := 57) W.W (t__law_wanted T) (by decide) rfl T.m__law_wanted T.k__law_wanted (ja_cons (je_var (i := 0) rfl (by first | exact Or.inl rfl | exact Or.inr (Or.inl rfl) | exact Or.inr (Or.inr rfl))) (ja_cons (je_lst (ja_cons je_non (ja_cons (je_neg je_int) (ja_cons je_int (ja_cons je_bl (ja_cons (je_str rfl) (ja_cons (je_tup (ja_cons je_int ja_nil)) (ja_cons (je_op op_powA powO_ok je_int je_int) (ja_cons (je_lst (ja_cons je_int ja_nil)) ja_nil))))))))) ja_nil)))) (js_cons (js_set (i := 3) W.W.nd rfl (by first | exact Or.inl rfl | exact Or.inr rfl) (je_call (g := 57) W.W (t__law_wanted T) (by decide) rfl T.m__law_wanted T.k__law_wanted (ja_cons (je_var (i := 0) rfl (by first | exact Or.inl rfl | exact Or.inr (Or.inl rfl) | exact Or.inr (Or.inr rfl))) (ja_cons (je_lst (ja_cons je_non (ja_cons je_int (ja_cons (je_neg je_int) (ja_cons je_bl (ja_cons (je_str rfl) (ja_cons (je_tup (ja_cons je_int ja_nil)) (ja_cons (je_op op_powA powO_ok je_int je_int) ja_nil)))))))) ja_nil)))) (js_cons (js_set (i := 4) W.W.nd rfl (by first | exact Or.inl rfl | exact Or.inr rfl) (je_lst (ja_cons je_non (ja_cons je_int (ja_cons (je_tup (ja_cons je_int (ja_cons je_int ja_nil))) (ja_cons (je_tup (ja_cons je_int (ja_cons je_int (ja_cons je_int (ja_cons je_int ja_nil))))) (ja_cons (je_lst (ja_cons je_int (ja_cons je_int (ja_cons je_int ja_nil)))) (ja_cons (je_tup (ja_cons je_int (ja_cons je_int (ja_cons je_int ja_nil)))) (ja_cons (je_tup (ja_cons je_bl (ja_cons je_int (ja_cons je_int ja_nil)))) (ja_cons (je_str rfl) (ja_cons je_dict0 (ja_cons (je_tup (ja_cons (je_tup (ja_cons je_int (ja_cons je_int (ja_cons je_int ja_nil)))) ja_nil)) ja_nil)))))))))))) (js_cons (js_set (i := 5) W.W.nd rfl (by first | exact Or.inl rfl | exact Or.inr rfl) (je_call (g := 57) W.W (t__law_wanted T) (by decide) rfl T.m__law_wanted T.k__law_wanted (ja_cons (je_var (i := 0) rfl (by first | exact Or.inl rfl | exact Or.inr (Or.inl rfl) | exact Or.inr (Or.inr rfl))) (ja_cons (je_var (i := 4) rfl (by first | exact Or.inl rfl | exact Or.inr (Or.inl rfl) | exact Or.inr (Or.inr rfl))) ja_nil)))) (js_cons (js_set (i := 6) W.W.nd rfl (by first | exact Or.inl rfl | exact Or.inr rfl) (je_lst (ja_cons (je_pure (j_met (j := 29) T W.W W.gd rfl B.tb__law_members_right rfl T.mT__law_members_right T.uT__law_members_right (by decide) (lamS_by (by first | decide +kernel | rfl)) rfl (fun _ _ _ _ _ => rfl) (fun A outer s H E f c W2 => (je_meth (c := 17) W2 T.sc_Room T.me_Room_product (t_Room_product T) (by decide) (je_var (i := 1) rfl (by first | exact Or.inl rfl | exact Or.inr (Or.inl rfl) | exact Or.inr (Or.inr rfl))) (ja_cons (je_var (i := 2) rfl (by first | exact Or.inl rfl | exact Or.inr (Or.inl rfl) | exact Or.inr (Or.inr rfl))) (ja_cons (je_var (i := 2) rfl (by first | exact Or.inl rfl | exact Or.inr (Or.inl rfl) | exact Or.inr (Or.inr rfl))) ja_nil)))))) ja_nil))) (js_cons (js_expr (je_met W.W.K (Or.inl rfl) F.plainAttrs_list F.slot_list_append F.type_list_append mt_append appO_ok (je_var (i := 6) rfl (by first | exact Or.inl rfl | exact Or.inr (Or.inl rfl) | exact Or.inr (Or.inr rfl))) (ja_cons (je_pure (j_met (j := 29) T W.W W.gd rfl B.tb__law_members_right rfl T.mT__law_members_right T.uT__law_members_right (by decide) (lamS_by (by first | decide +kernel | rfl)) rfl (fun _ _ _ _ _ => rfl) (fun A outer s H E f c W2 => (je_meth (c := 17) W2 T.sc_Room T.me_Room_product (t_Room_product T) (by decide) (je_var (i := 1) rfl (by first | exact Or.inl rfl | exact Or.inr (Or.inl rfl) | exact Or.inr (Or.inr rfl))) (ja_cons je_int (ja_cons (je_var (i := 2) rfl (by first | exact Or.inl rfl | exact Or.inr (Or.inl rfl) | exact Or.inr (Or.inr rfl))) ja_nil)))))) ja_nil))) (js_cons (js_expr (je_met W.W.K (Or.inl rfl) F.plainAttrs_list F.slot_list_append F.type_list_append mt_append appO_ok (je_var (i := 6) rfl (by first | exact Or.inl rfl | exact Or.inr (Or.inl rfl) | exact Or.inr (Or.inr rfl))) (ja_cons (je_pure (j_met (j := 29) T W.W W.gd rfl B.tb__law_members_right rfl T.mT__law_members_right T.uT__law_members_right (by decide) (lamS_by (by first | decide +kernel | rfl)) rfl (fun _ _ _ _ _ => rfl) (fun A outer s H E f c W2 => (je_meth (c := 17) W2 T.sc_Room T.me_Room_contrary (t_Room_contrary T) (by decide) (je_var (i := 1) rfl (by first | exact Or.inl rfl | exact Or.inr (Or.inl rfl) | exact Or.inr (Or.inr rfl))) (ja_cons (je_var (i := 2) rfl (by first | exact Or.inl rfl | exact Or.inr (Or.inl rfl) | exact Or.inr (Or.inr rfl))) ja_nil))))) ja_nil))) (js_cons (js_expr (je_met W.W.K (Or.inl rfl) F.plainAttrs_list F.slot_list_append F.type_list_append mt_append appO_ok (je_var (i := 6) rfl (by first | exact Or.inl rfl | exact Or.inr (Or.inl rfl) | exact Or.inr (Or.inr rfl))) (ja_cons (je_pure (j_met (j := 29) T W.W W.gd rfl B.tb__law_members_right rfl T.mT__law_members_right T.uT__law_members_right (by decide) (lamS_by (by first | decide +kernel | rfl)) rfl (fun _ _ _ _ _ => rfl) (fun A outer s H E f c W2 => (je_meth (c := 17) W2 T.sc_Room T.me_Room_order (t_Room_order T) (by decide) (je_var (i := 1) rfl (by first | exact Or.inl rfl | exact Or.inr (Or.inl rfl) | exact Or.inr (Or.inr rfl))) (ja_cons (je_var (i := 2) rfl (by first | exact Or.inl rfl | exact Or.inr (Or.inl rfl) | exact Or.inr (Or.inr rfl))) ja_nil))))) ja_nil))) (js_cons (js_expr (je_met W.W.K (Or.inl rfl) F.plainAttrs_list F.slot_list_append F.type_list_append mt_append appO_ok (je_var (i := 6) rfl (by first | exact Or.inl rfl | exact Or.inr (Or.inl rfl) | exact Or.inr (Or.inr rfl))) (ja_cons (je_pure (j_met (j := 29) T W.W W.gd rfl B.tb__law_members_right rfl T.mT__law_members_right T.uT__law_members_right (by decide) (lamS_by (by first | decide +kernel | rfl)) rfl (fun _ _ _ _ _ => rfl) (fun A outer s H E f c W2 => (je_meth (c := 17) W2 T.sc_Room T.me_Room_power (t_Room_power T) (by decide) (je_var (i := 1) rfl (by first | exact Or.inl rfl | exact Or.inr (Or.inl rfl) | exact Or.inr (Or.inr rfl))) (ja_cons (je_var (i := 2) rfl (by first | exact Or.inl rfl | exact Or.inr (Or.inl rfl) | exact Or.inr (Or.inr rfl))) (ja_cons (je_var (i := 3) rfl (by first | exact Or.inl rfl | exact Or.inr (Or.inl rfl) | exact Or.inr (Or.inr rfl))) ja_nil)))))) ja_nil))) (js_cons (js_expr (je_met W.W.K (Or.inl rfl) F.plainAttrs_list F.slot_list_append F.type_list_append mt_append appO_ok (je_var (i := 6) rfl (by first | exact Or.inl rfl | exact Or.inr (Or.inl rfl) | exact Or.inr (Or.inr rfl))) (ja_cons (je_pure (j_met (j := 29) T W.W W.gd rfl B.tb__law_members_right rfl T.mT__law_members_right T.uT__law_members_right (by decide) (lamS_by (by first | decide +kernel | rfl)) rfl (fun _ _ _ _ _ => rfl) (fun A outer s H E f c W2 => (je_meth (c := 17) W2 T.sc_Room T.me_Room_power (t_Room_power T) (by decide) (je_var (i := 1) rfl (by first | exact Or.inl rfl | exact Or.inr (Or.inl rfl) | exact Or.inr (Or.inr rfl))) (ja_cons je_int (ja_cons (je_var (i := 3) rfl (by first | exact Or.inl rfl | exact Or.inr (Or.inl rfl) | exact Or.inr (Or.inr rfl))) ja_nil)))))) ja_nil))) (js_cons (js_expr (je_met W.W.K (Or.inl rfl) F.plainAttrs_list F.slot_list_append F.type_list_append mt_append appO_ok (je_var (i := 6) rfl (by first | exact Or.inl rfl | exact Or.inr (Or.inl rfl) | exact Or.inr (Or.inr rfl))) (ja_cons (je_pure (j_met (j := 29) T W.W W.gd rfl B.tb__law_members_right rfl T.mT__law_members_right T.uT__law_members_right (by decide) (lamS_by (by first | decide +kernel | rfl)) rfl (fun _ _ _ _ _ => rfl) (fun A outer s H E f c W2 => (je_meth (c := 17) W2 T.sc_Room T.me_Room_number_of (t_Room_number_of T) (by decide) (je_var (i := 1) rfl (by first | exact Or.inl rfl | exact Or.inr (Or.inl rfl) | exact Or.inr (Or.inr rfl))) (ja_cons (je_var (i := 5) rfl (by first | exact Or.inl rfl | exact Or.inr (Or.inl rfl) | exact Or.inr (Or.inr rfl))) ja_nil))))) ja_nil))) (js_cons (js_expr (je_met W.W.K (Or.inl rfl) F.plainAttrs_list F.slot_list_append F.type_list_append mt_append appO_ok (je_var (i := 6) rfl (by first | exact Or.inl rfl | exact Or.inr (Or.inl rfl) | exact Or.inr (Or.inr rfl))) (ja_cons (je_pure (j_met (j := 29) T W.W W.gd rfl B.tb__law_members_right rfl T.mT__law_members_right T.uT__law_members_right (by decide) (lamS_by (by first | decide +kernel | rfl)) rfl (fun _ _ _ _ _ => rfl) (fun A outer s H E f c W2 => (je_meth (c := 17) W2 T.sc_Room T.me_Room_number_of (t_Room_number_of T) (by decide) (je_cmeth (fo := cA .non) (c := 17) W2 T.rd_Room T.cm_Room_round (t_Room_round T) (by decide) (je_gl (g := 17) rfl T.m_Room) (ja_cons je_int ja_nil)) (ja_cons (je_tup (ja_cons je_int (ja_cons je_int (ja_cons je_int ja_nil)))) ja_nil))))) ja_nil))) (js_cons (js_expr (je_met W.W.K (Or.inl rfl) F.plainAttrs_list F.slot_list_append F.type_list_append mt_append appO_ok (je_var (i := 6) rfl (by first | exact Or.inl rfl | exact Or.inr (Or.inl rfl) | exact Or.inr (Or.inr rfl))) (ja_cons (je_pure (j_met (j := 29) T W.W W.gd rfl B.tb__law_members_right rfl T.mT__law_members_right T.uT__law_members_right (by decide) (lamS_by (by first | decide +kernel | rfl)) rfl (fun _ _ _ _ _ => rfl) (fun A outer s H E f c W2 => (je_meth (c := 17) W2 T.sc_Room T.me_Room_power (t_Room_power T) (by decide) (je_var (i := 1) rfl (by first | exact Or.inl rfl | exact Or.inr (Or.inl rfl) | exact Or.inr (Or.inr rfl))) (ja_cons je_int (ja_cons (je_neg je_int) ja_nil)))))) ja_nil))) (js_cons (js_par (i := 7) (j := 8) W.W.calm W.W.nd rfl rfl (by decide) rfl rfl (ja_cons (je_tup (ja_cons (je_str rfl) (ja_cons (je_str rfl) (ja_cons (je_repr W.W W.gd rfl T.b_repr bt_repr (ja_cons (je_var (i := 2) rfl (by first | exact Or.inl rfl | exact Or.inr (Or.inl rfl) | exact Or.inr (Or.inr rfl))) ja_nil)) ja_nil)))) (ja_cons (je_tup (ja_cons (je_str rfl) (ja_cons (je_str rfl) ja_nil))) ja_nil)) rfl) (js_one (js_ret (je_cmp (op_eqD W.W.room.units) eqO_ok (je_var (i := 6) rfl (by first | exact Or.inl rfl | exact Or.inr (Or.inl rfl) | exact Or.inr (Or.inr rfl))) (je_op op_addA addO_ok (je_op op_mulA mulO_ok (je_lst (ja_cons (je_var (i := 7) rfl (by first | exact Or.inl rfl | exact Or.inr (Or.inl rfl) | exact Or.inr (Or.inr rfl))) ja_nil)) je_int) (je_lst (ja_cons (je_tup (ja_cons (je_str rfl) (ja_cons (je_str rfl) (ja_cons (je_repr W.W W.gd rfl T.b_repr bt_repr (ja_cons (je_var (i := 3) rfl (by first | exact Or.inl rfl | exact Or.inr (Or.inl rfl) | exact Or.inr (Or.inr rfl))) ja_nil)) ja_nil)))) (ja_cons (je_var (i := 8) rfl (by first | exact Or.inl rfl | exact Or.inr (Or.inl rfl) | exact Or.inr (Or.inr rfl))) (ja_cons (je_var (i := 8) rfl (by first | exact Or.inl rfl | exact Or.inr (Or.inl rfl) | exact Or.inr (Or.inr rfl))) (ja_cons (je_tup (ja_cons (je_str rfl) ja_nil)) ja_nil)))))) (nomark _))))))))))))))))))
def m__law_lots_right_0 : MF A := (lstF (consF (cA .non) (consF (cA (.int 3)) (consF (cA (.str "room")) (consF (tupF (consF (tupF (consF (cA (.int 1)) (consF (cA (.int 0)) nilF))) nilF)) (consF (lstF (consF (vA 1) nilF)) (consF dict0F (consF (cA (.bl true)) (consF (methF0 17 (quietF f_Room_members) (vA 1)) nilF)))))))))
def p__law_lots_right_0 : MF Fl := (asgS 2 (calF (lenF 2 f__law_wanted) (consF (vA 0) (consF m__law_lots_right_0 nilF))))
def m__law_lots_right_1 : MF A := (lstF (consF (cA .non) (consF (cA (.int 6)) (consF (negO (cA (.int 1))) (consF (cA (.bl true)) (consF (cA (.str "1")) (consF (tupF (consF (cA (.int 1)) nilF)) (consF (bin powO (cA (.int 10)) (cA (.int 60))) nilF))))))))
def p__law_lots_right_1 : MF Fl := (asgS 3 (calF (lenF 2 f__law_wanted) (consF (vA 0) (consF m__law_lots_right_1 nilF))))
def m__law_lots_right_2 : MF A := (lstF (consF (cA .non) (consF (cA (.int 1)) (consF (lstF (consF (cA (.int 1)) nilF)) (consF (tupF (consF (cA (.int 6)) nilF)) (consF (tupF (consF (negO (cA (.int 1))) nilF)) (consF (tupF (consF (cA (.bl true)) nilF)) (consF (tupF (consF (cA (.str "1")) nilF)) (consF (bin mulO (tupF (consF (cA (.int 1)) nilF)) (cA (.int 25))) (consF (tupF (consF (cA (.int 1)) (consF (cA .non) nilF))) (consF dict0F nilF)))))))))))
def p__law_lots_right_2 : MF Fl := (asgS 4 (calF (lenF 2 f__law_wanted) (consF (vA 0) (consF m__law_lots_right_2 nilF))))
def m__law_lots_right_3 : MF A := (lstF (consF (cA .non) (consF (cA (.int 0)) (consF (lstF (consF (cA (.int 0)) nilF)) (consF (tupF nilF) (consF (tupF (consF (cA (.int 1)) nilF)) (consF (tupF (consF (cA (.int 0)) (consF (cA (.int 1)) (consF (cA (.int 2)) nilF)))) (consF (tupF (consF (cA (.int 0)) (consF (cA (.int 4)) (consF (cA (.int 3)) nilF)))) (consF (tupF (consF (cA (.int 0)) (consF (cA (.int 6)) nilF))) (consF (tupF (consF (cA (.bl false)) nilF)) (consF (tupF (consF (cA (.int 0)) (consF (cA (.int 0)) nilF))) (consF (cA (.str "0")) (consF dict0F nilF)))))))))))))
def p__law_lots_right_3 : MF Fl := (asgS 5 (calF (lenF 2 f__law_wanted) (consF (vA 0) (consF m__law_lots_right_3 nilF))))
def p__law_lots_right_4 : MF Fl := (asgS 6 (lstF nilF))
def w__law_lots_right_5 : MF Fl := (exprS (metF "list" appO (vA 6) (consF (pureE (metL exb m_hl m_ret 2 (calV 7 [(53, lenF 1 f_classes), (54, lenF 1 f_lots)] (consF (vA 2) nilF)))) nilF)))
def p__law_lots_right_5 : MF Fl := (forG (.nm 7) (seqI (tupF (consF (cA (.gl 53)) (consF (cA (.gl 54)) nilF)))) w__law_lots_right_5)
def p__law_lots_right_6 : MF Fl := (exprS (metF "list" appO (vA 6) (consF (pureE (metL exb m_hl m_ret 2 (calF (lenF 2 f_lot_of) (consF (vA 2) (consF (vA 4) nilF))))) nilF)))
def p__law_lots_right_7 : MF Fl := (exprS (metF "list" appO (vA 6) (consF (pureE (metL exb m_hl m_ret 2 (calF (lenF 2 f_is_lot) (consF (vA 2) (consF (vA 5) nilF))))) nilF)))
def p__law_lots_right_8 : MF Fl := (exprS (metF "list" appO (vA 6) (consF (pureE (metL exb m_hl m_ret 2 (calF (lenF 2 f_left_lots) (consF (vA 2) (consF (vA 5) nilF))))) nilF)))
def p__law_lots_right_9 : MF Fl := (exprS (metF "list" appO (vA 6) (consF (pureE (metL exb m_hl m_ret 2 (calF (lenF 3 f_parted) (consF (vA 2) (consF (vA 5) (consF (vA 3) nilF)))))) nilF)))
def p__law_lots_right_10 : MF Fl := (exprS (metF "list" appO (vA 6) (consF (pureE (metL exb m_hl m_ret 2 (calF (lenF 3 f_turned) (consF (vA 2) (consF (vA 3) (consF (vA 3) nilF)))))) nilF)))
def p__law_lots_right_11 : MF Fl := (exprS (metF "list" appO (vA 6) (consF (pureE (metL exb m_hl m_ret 2 (calF (lenF 2 f_lot_of) (consF (vA 1) (consF (vA 4) nilF))))) nilF)))
def p__law_lots_right_12 : MF Fl := (exprS (metF "list" appO (vA 6) (consF (pureE (metL exb m_hl m_ret 2 (calF (lenF 2 f_left_lots) (consF (vA 1) (consF (vA 5) nilF))))) nilF)))
def p__law_lots_right_13 : MF Fl := (exprS (metF "list" appO (vA 6) (consF (pureE (metL exb m_hl m_ret 2 (calF (lenF 3 f_parted) (consF (vA 1) (consF (vA 5) (consF (vA 3) nilF)))))) nilF)))
def p__law_lots_right_14 : MF Fl := (exprS (metF "list" appO (vA 6) (consF (pureE (metL exb m_hl m_ret 2 (calF (lenF 3 f_parted) (consF (vA 1) (consF (tupF (consF (cA (.int 0)) (consF (cA (.int 1)) nilF))) (consF (vA 3) nilF)))))) nilF)))
def p__law_lots_right_15 : MF Fl := (exprS (metF "list" appO (vA 6) (consF (pureE (metL exb m_hl m_ret 2 (calF (lenF 3 f_turned) (consF (vA 1) (consF (vA 3) (consF (cA (.int 0)) nilF)))))) nilF)))
def p__law_lots_right_16 : MF Fl := (exprS (metF "list" appO (vA 6) (consF (pureE (metL exb m_hl m_ret 2 (calF (lenF 3 f_turned) (consF (vA 1) (consF (cA (.int 0)) (consF (vA 3) nilF)))))) nilF)))
def p__law_lots_right_17 : MF Fl := (exprS (metF "list" appO (vA 6) (consF (pureE (metL exb m_hl m_ret 2 (calF (lenF 2 f_lot_of) (consF (vA 1) (consF (bin mulO (tupF (consF (cA (.int 1)) nilF)) (cA (.int 24))) nilF))))) nilF)))
def p__law_lots_right_18 : MF Fl := (parS 8 9 (consF (tupF (consF (cA (.str "raised")) (consF (cA (.str "number")) (consF (calF reprO (consF (vA 3) nilF)) nilF)))) (consF (tupF (consF (cA (.str "raised")) (consF (cA (.str "operation")) nilF))) nilF)))
def p__law_lots_right_19 : MF Fl := (asgS 10 (bin addO (bin addO (bin addO (bin mulO (lstF (consF (tupF (consF (cA (.str "raised")) (consF (cA (.str "room")) nilF))) nilF)) (cA (.int 7))) (bin mulO (lstF (consF (vA 9) nilF)) (cA (.int 3)))) (bin mulO (lstF (consF (vA 8) nilF)) (cA (.int 3)))) (lstF (consF (tupF (consF (cA (.str "let")) nilF)) nilF))))
def p__law_lots_right_20 : MF Fl := (retS (andV (bin (eqO false) (vA 6) (vA 10)) (notV (calF (lenF 2 f_is_lot) (consF (vA 1) (consF (vA 5) nilF))))))
def q__law_lots_right_20 : MF Fl := p__law_lots_right_20
def q__law_lots_right_19 : MF Fl := seqS p__law_lots_right_19 q__law_lots_right_20
def q__law_lots_right_18 : MF Fl := seqS p__law_lots_right_18 q__law_lots_right_19
def q__law_lots_right_17 : MF Fl := seqS p__law_lots_right_17 q__law_lots_right_18
def q__law_lots_right_16 : MF Fl := seqS p__law_lots_right_16 q__law_lots_right_17
def q__law_lots_right_15 : MF Fl := seqS p__law_lots_right_15 q__law_lots_right_16
def q__law_lots_right_14 : MF Fl := seqS p__law_lots_right_14 q__law_lots_right_15
def q__law_lots_right_13 : MF Fl := seqS p__law_lots_right_13 q__law_lots_right_14
def q__law_lots_right_12 : MF Fl := seqS p__law_lots_right_12 q__law_lots_right_13
def q__law_lots_right_11 : MF Fl := seqS p__law_lots_right_11 q__law_lots_right_12
def q__law_lots_right_10 : MF Fl := seqS p__law_lots_right_10 q__law_lots_right_11
def q__law_lots_right_9 : MF Fl := seqS p__law_lots_right_9 q__law_lots_right_10
def q__law_lots_right_8 : MF Fl := seqS p__law_lots_right_8 q__law_lots_right_9
def q__law_lots_right_7 : MF Fl := seqS p__law_lots_right_7 q__law_lots_right_8
def q__law_lots_right_6 : MF Fl := seqS p__law_lots_right_6 q__law_lots_right_7
def q__law_lots_right_5 : MF Fl := seqS p__law_lots_right_5 q__law_lots_right_6
def q__law_lots_right_4 : MF Fl := seqS p__law_lots_right_4 q__law_lots_right_5
def q__law_lots_right_3 : MF Fl := seqS p__law_lots_right_3 q__law_lots_right_4
def q__law_lots_right_2 : MF Fl := seqS p__law_lots_right_2 q__law_lots_right_3
def q__law_lots_right_1 : MF Fl := seqS p__law_lots_right_1 q__law_lots_right_2
def q__law_lots_right_0 : MF Fl := seqS p__law_lots_right_0 q__law_lots_right_1
abbrev b__law_lots_right : MF Fl := q__law_lots_right_0
abbrev f__law_lots_right : AF := bodyF 11 b__law_lots_right
theorem s__law_lots_right : FnScope ["trough", "six", "none", "bad", "some", "lot", "told", "call", "wrong", "operation", "due"] ["trough", "six"] (defScope st__law_lots_right) := ⟨rfl, rfl, rfl, by decide +kernel, rfl, by decide +kernel, by decide +kernel⟩
theorem t__law_lots_right (T : Txt P mg C) (B : Tbs base mg C) : FnGd P C.w C.K mg base C 28 (C.gt 61) 2 f__law_lots_right :=
  T.d__law_lots_right.fnG (k := 27) s__law_lots_right (fun kV doc pm cdv ct an us hl => match us, hl with | [_, _], _ => rfl) rfl rfl rfl fun A outer s H E W =>
    (js_cons (js_set (i := 2) W.W.nd rfl (by first | exact Or.inl rfl | exact Or.inr rfl) (je_call (g := 57) W.W (t__law_wanted T) (by decide) rfl T.m__law_wanted T.k__law_wanted (ja_cons (je_var (i := 0) rfl (by first | exact Or.inl rfl | exact Or.inr (Or.inl rfl) | exact Or.inr (Or.inr rfl))) (ja_cons (je_lst (ja_cons je_non (ja_cons je_int (ja_cons (je_str rfl) (ja_cons (je_tup (ja_cons (je_tup (ja_cons je_int (ja_cons je_int ja_nil))) ja_nil)) (ja_cons (je_lst (ja_cons (je_var (i := 1) rfl (by first | exact Or.inl rfl | exact Or.inr (Or.inl rfl) | exact Or.inr (Or.inr rfl))) ja_nil)) (ja_cons je_dict0 (ja_cons je_bl (ja_cons (je_propF (c := 17) W.W T.sc_Room T.pr_Room_members (t_Room_members T) (by decide) (je_var (i := 1) rfl (by first | exact Or.inl rfl | exact Or.inr (Or.inl rfl) | exact Or.inr (Or.inr rfl)))) ja_nil))))))))) ja_nil)))) (js_cons (js_set (i := 3) W.W.nd rfl (by first | exact Or.inl rfl | exact Or.inr rfl) (je_call (g := 57) W.W (t__law_wanted T) (by decide) rfl T.m__law_wanted T.k__law_wanted (ja_cons (je_var (i := 0) rfl (by first | exact Or.inl rfl | exact Or.inr (Or.inl rfl) | exact Or.inr (Or.inr rfl))) (ja_cons (je_lst (ja_cons je_non (ja_cons je_int (ja_cons (je_neg je_int) (ja_cons je_bl (ja_cons (je_str rfl) (ja_cons (je_tup (ja_cons je_int ja_nil)) (ja_cons (je_op op_powA powO_ok je_int je_int) ja_nil)))))))) ja_nil)))) (js_cons (js_set (i := 4) W.W.nd rfl (by first | exact Or.inl rfl | exact Or.inr rfl) (je_call (g := 57) W.W (t__law_wanted T) (by decide) rfl T.m__law_wanted T.k__law_wanted (ja_cons (je_var (i := 0) rfl (by first | exact Or.inl rfl | exact Or.inr (Or.inl rfl) | exact Or.inr (Or.inr rfl))) (ja_cons (je_lst (ja_cons je_non (ja_cons je_int (ja_cons (je_lst (ja_cons je_int ja_nil)) (ja_cons (je_tup (ja_cons je_int ja_nil)) (ja_cons (je_tup (ja_cons (je_neg je_int) ja_nil)) (ja_cons (je_tup (ja_cons je_bl ja_nil)) (ja_cons (je_tup (ja_cons (je_str rfl) ja_nil)) (ja_cons (je_op op_mulA mulO_ok (je_tup (ja_cons je_int ja_nil)) je_int) (ja_cons (je_tup (ja_cons je_int (ja_cons je_non ja_nil))) (ja_cons je_dict0 ja_nil))))))))))) ja_nil)))) (js_cons (js_set (i := 5) W.W.nd rfl (by first | exact Or.inl rfl | exact Or.inr rfl) (je_call (g := 57) W.W (t__law_wanted T) (by decide) rfl T.m__law_wanted T.k__law_wanted (ja_cons (je_var (i := 0) rfl (by first | exact Or.inl rfl | exact Or.inr (Or.inl rfl) | exact Or.inr (Or.inr rfl))) (ja_cons (je_lst (ja_cons je_non (ja_cons je_int (ja_cons (je_lst (ja_cons je_int ja_nil)) (ja_cons (je_tup ja_nil) (ja_cons (je_tup (ja_cons je_int ja_nil)) (ja_cons (je_tup (ja_cons je_int (ja_cons je_int (ja_cons je_int ja_nil)))) (ja_cons (je_tup (ja_cons je_int (ja_cons je_int (ja_cons je_int ja_nil)))) (ja_cons (je_tup (ja_cons je_int (ja_cons je_int ja_nil))) (ja_cons (je_tup (ja_cons je_bl ja_nil)) (ja_cons (je_tup (ja_cons je_int (ja_cons je_int ja_nil))) (ja_cons (je_str rfl) (ja_cons je_dict0 ja_nil))))))))))))) ja_nil)))) (js_cons (js_set (i := 6) W.W.nd rfl (by first | exact Or.inl rfl | exact Or.inr rfl) (je_lst ja_nil)) (js_cons (js_forG W.W W.own (ji_seq W.W (je_tup (ja_cons (je_gl (g := 53) rfl T.m_classes) (ja_cons (je_gl (g := 54) rfl T.m_lots) ja_nil)))) (jg_nm (i := 7) W.W.nd rfl (by first | exact Or.inl rfl | exact Or.inr rfl)) (js_one (js_expr (je_met W.W.K (Or.inl rfl) F.plainAttrs_list F.slot_list_append F.type_list_append mt_append appO_ok (je_var (i := 6) rfl (by first | exact Or.inl rfl | exact Or.inr (Or.inl rfl) | exact Or.inr (Or.inr rfl))) (ja_cons (je_pure (j_met (j := 25) T W.W W.gd rfl B.tb__law_lots_right rfl T.mT__law_lots_right T.uT__law_lots_right (by decide) (lamS_by (by first | decide +kernel | rfl)) rfl (fun _ _ _ _ _ => rfl) (fun A outer s H E f c W2 => (je_callV W2 (tbV_cons (t_classes T) (by decide) T.k_classes (tbV_cons (t_lots T) (by decide) T.k_lots tbV_nil)) rfl (by first | exact Or.inl rfl | exact Or.inr (Or.inl rfl) | exact Or.inr (Or.inr rfl)) (ja_cons (je_var (i := 2) rfl (by first | exact Or.inl rfl | exact Or.inr (Or.inl rfl) | exact Or.inr (Or.inr rfl))) ja_nil))))) ja_nil))))) (js_cons (js_expr (je_met W.W.K (Or.inl rfl) F.plainAttrs_list F.slot_list_append F.type_list_append mt_append appO_ok (je_var (i := 6) rfl (by first | exact Or.inl rfl | exact Or.inr (Or.inl rfl) | exact Or.inr (Or.inr rfl))) (ja_cons (je_pure (j_met (j := 25) T W.W W.gd rfl B.tb__law_lots_right rfl T.mT__law_lots_right T.uT__law_lots_right (by decide) (lamS_by (by first | decide +kernel | rfl)) rfl (fun _ _ _ _ _ => rfl) (fun A outer s H E f c W2 => (je_call (g := 48) W2 (t_lot_of T) (by decide) rfl T.m_lot_of T.k_lot_of (ja_cons (je_var (i := 2) rfl (by first | exact Or.inl rfl | exact Or.inr (Or.inl rfl) | exact Or.inr (Or.inr rfl))) (ja_cons (je_var (i := 4) rfl (by first | exact Or.inl rfl | exact Or.inr (Or.inl rfl) | exact Or.inr (Or.inr rfl))) ja_nil)))))) ja_nil))) (js_cons (js_expr (je_met W.W.K (Or.inl rfl) F.plainAttrs_list F.slot_list_append F.type_list_append mt_append appO_ok (je_var (i := 6) rfl (by first | exact Or.inl rfl | exact Or.inr (Or.inl rfl) | exact Or.inr (Or.inr rfl))) (ja_cons (je_pure (j_met (j := 25) T W.W W.gd rfl B.tb__law_lots_right rfl T.mT__law_lots_right T.uT__law_lots_right (by decide) (lamS_by (by first | decide +kernel | rfl)) rfl (fun _ _ _ _ _ => rfl) (fun A outer s H E f c W2 => (je_call (g := 49) W2 (t_is_lot T) (by decide) rfl T.m_is_lot T.k_is_lot (ja_cons (je_var (i := 2) rfl (by first | exact Or.inl rfl | exact Or.inr (Or.inl rfl) | exact Or.inr (Or.inr rfl))) (ja_cons (je_var (i := 5) rfl (by first | exact Or.inl rfl | exact Or.inr (Or.inl rfl) | exact Or.inr (Or.inr rfl))) ja_nil)))))) ja_nil))) (js_cons (js_expr (je_met W.W.K (Or.inl rfl) F.plainAttrs_list F.slot_list_append F.type_list_append mt_append appO_ok (je_var (i := 6) rfl (by first | exact Or.inl rfl | exact Or.inr (Or.inl rfl) | exact Or.inr (Or.inr rfl))) (ja_cons (je_pure (j_met (j := 25) T W.W W.gd rfl B.tb__law_lots_right rfl T.mT__law_lots_right T.uT__law_lots_right (by decide) (lamS_by (by first | decide +kernel | rfl)) rfl (fun _ _ _ _ _ => rfl) (fun A outer s H E f c W2 => (je_call (g := 50) W2 (t_left_lots T) (by decide) rfl T.m_left_lots T.k_left_lots (ja_cons (je_var (i := 2) rfl (by first | exact Or.inl rfl | exact Or.inr (Or.inl rfl) | exact Or.inr (Or.inr rfl))) (ja_cons (je_var (i := 5) rfl (by first | exact Or.inl rfl | exact Or.inr (Or.inl rfl) | exact Or.inr (Or.inr rfl))) ja_nil)))))) ja_nil))) (js_cons (js_expr (je_met W.W.K (Or.inl rfl) F.plainAttrs_list F.slot_list_append F.type_list_append mt_append appO_ok (je_var (i := 6) rfl (by first | exact Or.inl rfl | exact Or.inr (Or.inl rfl) | exact Or.inr (Or.inr rfl))) (ja_cons (je_pure (j_met (j := 25) T W.W W.gd rfl B.tb__law_lots_right rfl T.mT__law_lots_right T.uT__law_lots_right (by decide) (lamS_by (by first | decide +kernel | rfl)) rfl (fun _ _ _ _ _ => rfl) (fun A outer s H E f c W2 => (je_call (g := 51) W2 (t_parted T) (by decide) rfl T.m_parted T.k_parted (ja_cons (je_var (i := 2) rfl (by first | exact Or.inl rfl | exact Or.inr (Or.inl rfl) | exact Or.inr (Or.inr rfl))) (ja_cons (je_var (i := 5) rfl (by first | exact Or.inl rfl | exact Or.inr (Or.inl rfl) | exact Or.inr (Or.inr rfl))) (ja_cons (je_var (i := 3) rfl (by first | exact Or.inl rfl | exact Or.inr (Or.inl rfl) | exact Or.inr (Or.inr rfl))) ja_nil))))))) ja_nil))) (js_cons (js_expr (je_met W.W.K (Or.inl rfl) F.plainAttrs_list F.slot_list_append F.type_list_append mt_append appO_ok (je_var (i := 6) rfl (by first | exact Or.inl rfl | exact Or.inr (Or.inl rfl) | exact Or.inr (Or.inr rfl))) (ja_cons (je_pure (j_met (j := 25) T W.W W.gd rfl B.tb__law_lots_right rfl T.mT__law_lots_right T.uT__law_lots_right (by decide) (lamS_by (by first | decide +kernel | rfl)) rfl (fun _ _ _ _ _ => rfl) (fun A outer s H E f c W2 => (je_call (g := 52) W2 (t_turned T) (by decide) rfl T.m_turned T.k_turned (ja_cons (je_var (i := 2) rfl (by first | exact Or.inl rfl | exact Or.inr (Or.inl rfl) | exact Or.inr (Or.inr rfl))) (ja_cons (je_var (i := 3) rfl (by first | exact Or.inl rfl | exact Or.inr (Or.inl rfl) | exact Or.inr (Or.inr rfl))) (ja_cons (je_var (i := 3) rfl (by first | exact Or.inl rfl | exact Or.inr (Or.inl rfl) | exact Or.inr (Or.inr rfl))) ja_nil))))))) ja_nil))) (js_cons (js_expr (je_met W.W.K (Or.inl rfl) F.plainAttrs_list F.slot_list_append F.type_list_append mt_append appO_ok (je_var (i := 6) rfl (by first | exact Or.inl rfl | exact Or.inr (Or.inl rfl) | exact Or.inr (Or.inr rfl))) (ja_cons (je_pure (j_met (j := 25) T W.W W.gd rfl B.tb__law_lots_right rfl T.mT__law_lots_right T.uT__law_lots_right (by decide) (lamS_by (by first | decide +kernel | rfl)) rfl (fun _ _ _ _ _ => rfl) (fun A outer s H E f c W2 => (je_call (g := 48) W2 (t_lot_of T) (by decide) rfl T.m_lot_of T.k_lot_of (ja_cons (je_var (i := 1) rfl (by first | exact Or.inl rfl | exact Or.inr (Or.inl rfl) | exact Or.inr (Or.inr rfl))) (ja_cons (je_var (i := 4) rfl (by first | exact Or.inl rfl | exact Or.inr (Or.inl rfl) | exact Or.inr (Or.inr rfl))) ja_nil)))))) ja_nil))) (js_cons (js_expr (je_met W.W.K (Or.inl rfl) F.plainAttrs_list F.slot_list_append F.type_list_append mt_append appO_ok (je_var (i := 6) rfl (by first | exact Or.inl rfl | exact Or.inr (Or.inl rfl) | exact Or.inr (Or.inr rfl))) (ja_cons (je_pure (j_met (j := 25) T W.W W.gd rfl B.tb__law_lots_right rfl T.mT__law_lots_right T.uT__law_lots_right (by decide) (lamS_by (by first | decide +kernel | rfl)) rfl (fun _ _ _ _ _ => rfl) (fun A outer s H E f c W2 => (je_call (g := 50) W2 (t_left_lots T) (by decide) rfl T.m_left_lots T.k_left_lots (ja_cons (je_var (i := 1) rfl (by first | exact Or.inl rfl | exact Or.inr (Or.inl rfl) | exact Or.inr (Or.inr rfl))) (ja_cons (je_var (i := 5) rfl (by first | exact Or.inl rfl | exact Or.inr (Or.inl rfl) | exact Or.inr (Or.inr rfl))) ja_nil)))))) ja_nil))) (js_cons (js_expr (je_met W.W.K (Or.inl rfl) F.plainAttrs_list F.slot_list_append F.type_list_append mt_append appO_ok (je_var (i := 6) rfl (by first | exact Or.inl rfl | exact Or.inr (Or.inl rfl) | exact Or.inr (Or.inr rfl))) (ja_cons (je_pure (j_met (j := 25) T W.W W.gd rfl B.tb__law_lots_right rfl T.mT__law_lots_right T.uT__law_lots_right (by decide) (lamS_by (by first | decide +kernel | rfl)) rfl (fun _ _ _ _ _ => rfl) (fun A outer s H E f c W2 => (je_call (g := 51) W2 (t_parted T) (by decide) rfl T.m_parted T.k_parted (ja_cons (je_var (i := 1) rfl (by first | exact Or.inl rfl | exact Or.inr (Or.inl rfl) | exact Or.inr (Or.inr rfl))) (ja_cons (je_var (i := 5) rfl (by first | exact Or.inl rfl | exact Or.inr (Or.inl rfl) | exact Or.inr (Or.inr rfl))) (ja_cons (je_var (i := 3) rfl (by first | exact Or.inl rfl | exact Or.inr (Or.inl rfl) | exact Or.inr (Or.inr rfl))) ja_nil))))))) ja_nil))) (js_cons (js_expr (je_met W.W.K (Or.inl rfl) F.plainAttrs_list F.slot_list_append F.type_list_append mt_append appO_ok (je_var (i := 6) rfl (by first | exact Or.inl rfl | exact Or.inr (Or.inl rfl) | exact Or.inr (Or.inr rfl))) (ja_cons (je_pure (j_met (j := 25) T W.W W.gd rfl B.tb__law_lots_right rfl T.mT__law_lots_right T.uT__law_lots_right (by decide) (lamS_by (by first | decide +kernel | rfl)) rfl (fun _ _ _ _ _ => rfl) (fun A outer s H E f c W2 => (je_call (g := 51) W2 (t_parted T) (by decide) rfl T.m_parted T.k_parted (ja_cons (je_var (i := 1) rfl (by first | exact Or.inl rfl | exact Or.inr (Or.inl rfl) | exact Or.inr (Or.inr rfl))) (ja_cons (je_tup (ja_cons je_int (ja_cons je_int ja_nil))) (ja_cons (je_var (i := 3) rfl (by first | exact Or.inl rfl | exact Or.inr (Or.inl rfl) | exact Or.inr (Or.inr rfl))) ja_nil))))))) ja_nil))) (js_cons (js_expr (je_met W.W.K (Or.inl rfl) F.plainAttrs_list F.slot_list_append F.type_list_append mt_append appO_ok (je_var (i := 6) rfl (by first | exact Or.inl rfl | exact Or.inr (Or.inl rfl) | exact Or.inr (Or.inr rfl))) (ja_cons (je_pure (j_met (j := 25) T W.W W.gd rfl B.tb__law_lots_right rfl T.mT__law_lots_right T.uT__law_lots_right (by decide) (lamS_by (by first | decide +kernel | rfl)) rfl (fun _ _ _ _ _ => rfl) (fun A outer s H E f c W2 => (je_call (g := 52) W2 (t_turned T) (by decide) rfl T.m_turned T.k_turned (ja_cons (je_var (i := 1) rfl (by first | exact Or.inl rfl | exact Or.inr (Or.inl rfl) | exact Or.inr (Or.inr rfl))) (ja_cons (je_var (i := 3) rfl (by first | exact Or.inl rfl | exact Or.inr (Or.inl rfl) | exact Or.inr (Or.inr rfl))) (ja_cons je_int ja_nil))))))) ja_nil))) (js_cons (js_expr (je_met W.W.K (Or.inl rfl) F.plainAttrs_list F.slot_list_append F.type_list_append mt_append appO_ok (je_var (i := 6) rfl (by first | exact Or.inl rfl | exact Or.inr (Or.inl rfl) | exact Or.inr (Or.inr rfl))) (ja_cons (je_pure (j_met (j := 25) T W.W W.gd rfl B.tb__law_lots_right rfl T.mT__law_lots_right T.uT__law_lots_right (by decide) (lamS_by (by first | decide +kernel | rfl)) rfl (fun _ _ _ _ _ => rfl) (fun A outer s H E f c W2 => (je_call (g := 52) W2 (t_turned T) (by decide) rfl T.m_turned T.k_turned (ja_cons (je_var (i := 1) rfl (by first | exact Or.inl rfl | exact Or.inr (Or.inl rfl) | exact Or.inr (Or.inr rfl))) (ja_cons je_int (ja_cons (je_var (i := 3) rfl (by first | exact Or.inl rfl | exact Or.inr (Or.inl rfl) | exact Or.inr (Or.inr rfl))) ja_nil))))))) ja_nil))) (js_cons (js_expr (je_met W.W.K (Or.inl rfl) F.plainAttrs_list F.slot_list_append F.type_list_append mt_append appO_ok (je_var (i := 6) rfl (by first | exact Or.inl rfl | exact Or.inr (Or.inl rfl) | exact Or.inr (Or.inr rfl))) (ja_cons (je_pure (j_met (j := 25) T W.W W.gd rfl B.tb__law_lots_right rfl T.mT__law_lots_right T.uT__law_lots_right (by decide) (lamS_by (by first | decide +kernel | rfl)) rfl (fun _ _ _ _ _ => rfl) (fun A outer s H E f c W2 => (je_call (g := 48) W2 (t_lot_of T) (by decide) rfl T.m_lot_of T.k_lot_of (ja_cons (je_var (i := 1) rfl (by first | exact Or.inl rfl | exact Or.inr (Or.inl rfl) | exact Or.inr (Or.inr rfl))) (ja_cons (je_op op_mulA mulO_ok (je_tup (ja_cons je_int ja_nil)) je_int) ja_nil)))))) ja_nil))) (js_cons (js_par (i := 8) (j := 9) W.W.calm W.W.nd rfl rfl (by decide) rfl rfl (ja_cons (je_tup (ja_cons (je_str rfl) (ja_cons (je_str rfl) (ja_cons (je_repr W.W W.gd rfl T.b_repr bt_repr (ja_cons (je_var (i := 3) rfl (by first | exact Or.inl rfl | exact Or.inr (Or.inl rfl) | exact Or.inr (Or.inr rfl))) ja_nil)) ja_nil)))) (ja_cons (je_tup (ja_cons (je_str rfl) (ja_cons (je_str rfl) ja_nil))) ja_nil)) rfl) (js_cons (js_set (i := 10) W.W.nd rfl (by first | exact Or.inl rfl | exact Or.inr rfl) (je_op op_addA addO_ok (je_op op_addA addO_ok (je_op op_addA addO_ok (je_op op_mulA mulO_ok (je_lst (ja_cons (je_tup (ja_cons (je_str rfl) (ja_cons (je_str rfl) ja_nil))) ja_nil)) je_int) (je_op op_mulA mulO_ok (je_lst (ja_cons (je_var (i := 9) rfl (by first | exact Or.inl rfl | exact Or.inr (Or.inl rfl) | exact Or.inr (Or.inr rfl))) ja_nil)) je_int)) (je_op op_mulA mulO_ok (je_lst (ja_cons (je_var (i := 8) rfl (by first | exact Or.inl rfl | exact Or.inr (Or.inl rfl) | exact Or.inr (Or.inr rfl))) ja_nil)) je_int)) (je_lst (ja_cons (je_tup (ja_cons (je_str rfl) ja_nil)) ja_nil)))) (js_one (js_ret (je_and (je_cmp (op_eqD W.W.room.units) eqO_ok (je_var (i := 6) rfl (by first | exact Or.inl rfl | exact Or.inr (Or.inl rfl) | exact Or.inr (Or.inr rfl))) (je_var (i := 10) rfl (by first | exact Or.inl rfl | exact Or.inr (Or.inl rfl) | exact Or.inr (Or.inr rfl))) (nomark _)) (je_one (je_not (je_call (g := 49) W.W (t_is_lot T) (by decide) rfl T.m_is_lot T.k_is_lot (ja_cons (je_var (i := 1) rfl (by first | exact Or.inl rfl | exact Or.inr (Or.inl rfl) | exact Or.inr (Or.inr rfl))) (ja_cons (je_var (i := 5) rfl (by first | exact Or.inl rfl | exact Or.inr (Or.inl rfl) | exact Or.inr (Or.inr rfl))) ja_nil))))))))))))))))))))))))))))
def p_law_0 : MF Fl := (asgS 1 (calF (fun xs => lenF 2 f_Room_whole (.gl 17 :: xs)) (consF (cA (.int 3)) nilF)))
def w_law_1 : MF Fl := (pureS (seqS (asgS 3 (calF (lenF 2 f__law_trough) (consF (vA 0) (consF (vA 2) nilF)))) (ifS (orF (notF (asT (calF (trimF (lenF 1 f__law_rooms_right)) (consF (vA 3) nilF)))) (orF (notF (asT (calF (trimF (lenF 2 f__law_members_right)) (consF (vA 3) (consF (vA 1) nilF))))) (notF (asT (calF (trimF (lenF 2 f__law_lots_right)) (consF (vA 3) (consF (vA 1) nilF))))))) (fun _ _ _ => .bad) nextS)))
def p_law_1 : MF Fl := (forG (.nm 2) (rangeI rg1 (consF (calF max2O (consF (cA (.int 1)) (consF (calF min2O (consF (cA (.int 2)) (consF (calF lenO (consF (vA 0) nilF)) nilF))) nilF))) nilF)) w_law_1)
def p_law_2 : MF Fl := (retS (cA (.bl true)))
def q_law_2 : MF Fl := p_law_2
def q_law_1 : MF Fl := seqS p_law_1 q_law_2
def q_law_0 : MF Fl := seqS p_law_0 q_law_1
abbrev b_law : MF Fl := q_law_0
abbrev f_law : AF := bodyF 4 b_law
theorem s_law : FnScope ["script", "six", "spot", "trough"] ["script"] (defScope st_law) := ⟨rfl, rfl, rfl, by decide +kernel, rfl, by decide +kernel, by decide +kernel⟩
theorem t_law (T : Txt P mg C) (B : Tbs base mg C) : FnGd P C.w C.K mg base C 36 (C.gt 62) 1 f_law :=
  T.d_law.fnG (k := 35) s_law (fun kV doc pm cdv ct an us hl => match us, hl with | [_], _ => rfl) rfl rfl rfl fun cdv A outer s H E W =>
    (js_cons (js_set (i := 1) W.W.nd rfl (by first | exact Or.inl rfl | exact Or.inr rfl) (je_cmeth (fo := cA .non) (c := 17) W.W T.rd_Room T.cm_Room_whole (t_Room_whole T) (by decide) (je_gl (g := 17) rfl T.m_Room) (ja_cons je_int ja_nil))) (js_cons (js_forG W.W W.own (ji_range1 rfl T.b_range (ja_cons (je_callB (call_max2 W.W.calm) max2O_ok rfl T.b_max bt_max (ja_cons je_int (ja_cons (je_callB (call_min2 W.W.calm) min2O_ok rfl T.b_min bt_min (ja_cons je_int (ja_cons (je_callB call_lenA lenO_ok rfl T.b_len bt_len (ja_cons (je_var (i := 0) rfl (by first | exact Or.inl rfl | exact Or.inr (Or.inl rfl) | exact Or.inr (Or.inr rfl))) ja_nil)) ja_nil))) ja_nil))) ja_nil)) (jg_nm (i := 2) W.W.nd rfl (by first | exact Or.inl rfl | exact Or.inr rfl)) (js_pure (js_cons (js_set (i := 3) W.W.nd rfl (by first | exact Or.inl rfl | exact Or.inr rfl) (je_call (g := 55) W.W (t__law_trough T) (by decide) rfl T.m__law_trough T.k__law_trough (ja_cons (je_var (i := 0) rfl (by first | exact Or.inl rfl | exact Or.inr (Or.inl rfl) | exact Or.inr (Or.inr rfl))) (ja_cons (je_var (i := 2) rfl (by first | exact Or.inl rfl | exact Or.inr (Or.inl rfl) | exact Or.inr (Or.inr rfl))) ja_nil)))) (js_one (js_if (PW.pt (jw_or (jt_not (jt_truth W.W.K (je_callGT (g := 59) W.W W.gd (t__law_rooms_right T B) (by decide) rfl T.m__law_rooms_right T.k__law_rooms_right (ja_cons (je_var (i := 3) rfl (by first | exact Or.inl rfl | exact Or.inr (Or.inl rfl) | exact Or.inr (Or.inr rfl))) ja_nil)))) (jw_or (jt_not (jt_truth W.W.K (je_callGT (g := 60) W.W W.gd (t__law_members_right T B) (by decide) rfl T.m__law_members_right T.k__law_members_right (ja_cons (je_var (i := 3) rfl (by first | exact Or.inl rfl | exact Or.inr (Or.inl rfl) | exact Or.inr (Or.inr rfl))) (ja_cons (je_var (i := 1) rfl (by first | exact Or.inl rfl | exact Or.inr (Or.inl rfl) | exact Or.inr (Or.inr rfl))) ja_nil))))) (jw_or1 (jt_not (jt_truth W.W.K (je_callGT (g := 61) W.W W.gd (t__law_lots_right T B) (by decide) rfl T.m__law_lots_right T.k__law_lots_right (ja_cons (je_var (i := 3) rfl (by first | exact Or.inl rfl | exact Or.inr (Or.inl rfl) | exact Or.inr (Or.inr rfl))) (ja_cons (je_var (i := 1) rfl (by first | exact Or.inl rfl | exact Or.inr (Or.inl rfl) | exact Or.inr (Or.inr rfl))) ja_nil))))))))) js_never js_nil))))) (js_one (js_ret je_bl))))
end
end Law

set_option linter.all false
set_option maxRecDepth 100000
namespace Law
open PySem MA
theorem drop_ok : Drops f__law_poured := by
  intro lo t h a b c n ht hlo hn hn2 hc hc2
  have i0 : ∀ lo, ixO (.ref t) (.int 0) lo h = .ok (.int a) h := fun lo => ix_h ht rfl
  by_cases ha : 0 < a
  · refine ⟨a % n, a / n, c, Int.emod_nonneg _ (by omega), Int.emod_lt_of_pos _ hn, hc, by omega, ?_⟩
    have hd : divO (.int a) (.int n) lo h = .ok (.int (a / n)) h := div_ok hn (by omega)
    have hm : modO (.int a) (.int n) lo h = .ok (.int (a % n)) h := mod_ok hn
    have st : storeF lo h (.ref t) (.int 0) (.int (a / n)) = some (h.set t (.lst [.int (a / n), .int b, .int c])) := store_h (k := 0) hlo ht rfl
    simp only [f__law_poured, bodyF, b__law_poured, seqS, ifS, asB, bin, MF.bind, R.bind, vA, cA, startA, putS', retS, asgS, setSl, calF, consF, nilF, intO, List.length_cons, List.length_nil, List.map_cons, List.map_nil, List.replicate, List.cons_append, List.nil_append, List.getElem?_cons_zero, List.getElem?_cons_succ, i0, cmpO, ha, decide_true, List.set, hm, hd, st]
  · have hf : decide (0 < a) = false := decide_eq_false ha
    have st : ∀ v, storeF lo h (.ref t) (.int 2) v = some (h.set t (.lst [.int a, .int b, v])) := fun v => store_h (k := 2) hlo ht rfl
    have i2 : ∀ lo, ixO (.ref t) (.int 2) lo h = .ok (.int c) h := fun lo => ix_h ht rfl
    let h2 := h.set t (.lst [.int a, .int b, .int (c + 1)])
    have ht2 : h2[t]? = some (.lst [.int a, .int b, .int (c + 1)]) := set_get ht
    have j1 : ∀ lo, ixO (.ref t) (.int 1) lo h2 = .ok (.int b) h2 := fun lo => ix_h ht2 rfl
    have j2 : ∀ lo, ixO (.ref t) (.int 2) lo h2 = .ok (.int (c + 1)) h2 := fun lo => ix_h ht2 rfl
    let one := (b + 9999973 * (c + 1)) % 2305843009213693951
    let two := (one * one + 227 * (c + 1)) % 2305843009213693951 * 8388593 + one
    have o1 : 0 ≤ one := Int.emod_nonneg _ (by decide)
    have o2 : one < 2305843009213693951 := Int.emod_lt_of_pos _ (by decide)
    refine ⟨two / 131072 % n, a, c + 1, Int.emod_nonneg _ (by omega), Int.emod_lt_of_pos _ hn, by omega, by omega, ?_⟩
    have m1 : mulO (.int 9999973) (.int (c + 1)) lo h2 = .ok (.int (9999973 * (c + 1))) h2 := mul_ok (by decide) (by omega)
    have m2 : mulO (.int one) (.int one) lo h2 = .ok (.int (one * one)) h2 := mul_ok (by omega) (by omega)
    have m3 : mulO (.int 227) (.int (c + 1)) lo h2 = .ok (.int (227 * (c + 1))) h2 := mul_ok (by decide) (by omega)
    have q1 := Int.emod_nonneg (one * one + 227 * (c + 1)) (show (2305843009213693951 : Int) ≠ 0 by decide)
    have q2 := Int.emod_lt_of_pos (one * one + 227 * (c + 1)) (show (0 : Int) < 2305843009213693951 by decide)
    have m4 : mulO (.int ((one * one + 227 * (c + 1)) % 2305843009213693951)) (.int 8388593) lo h2 = .ok (.int ((one * one + 227 * (c + 1)) % 2305843009213693951 * 8388593)) h2 := mul_ok (by omega) (by decide)
    have d1 : modO (.int (b + 9999973 * (c + 1))) (.int 2305843009213693951) lo h2 = .ok (.int one) h2 := mod_ok (by decide)
    have d2 : modO (.int (one * one + 227 * (c + 1))) (.int 2305843009213693951) lo h2 = .ok (.int ((one * one + 227 * (c + 1)) % 2305843009213693951)) h2 := mod_ok (by decide)
    have d3 : divO (.int ((one * one + 227 * (c + 1)) % 2305843009213693951 * 8388593 + one)) (.int 131072) lo h2 = .ok (.int (two / 131072)) h2 := div_ok (by decide) (by decide)
    have d4 : modO (.int (two / 131072)) (.int n) lo h2 = .ok (.int (two / 131072 % n)) h2 := mod_ok hn
    simp only [f__law_poured, bodyF, b__law_poured, seqS, ifS, asB, bin, MF.bind, R.bind, vA, cA, startA, putS', retS, asgS, setSl, calF, consF, nilF, intO, nextS, List.length_cons, List.length_nil, List.map_cons, List.map_nil, List.replicate, List.cons_append, List.nil_append, List.getElem?_cons_zero, List.getElem?_cons_succ, i0, cmpO, hf, i2, addO, st, List.set]
    rw [show h.set t (.lst [.int a, .int b, .int (c + 1)]) = h2 from rfl]
    simp only [List.getElem?_cons_zero, List.getElem?_cons_succ, List.set, j1, j2, m1, d1, m2, m3, d2, m4, d3, d4]
theorem choose_ok : ChoosesI f__law_wanted := choiceI_of drop_ok
theorem tank_ok {lo : Nat} {h : Hs} {sc : A} {ns : List Int} {k : Nat} (hx : Hs.seq h sc = some (ns.map A.int)) (hk : k ≤ 9) :
    ∃ a b : Int, lenF 2 f__law_trough [sc, .int (k : Nat)] lo h = .ok (.ref h.length) (h ++ [.lst [.int a, .int b, .int 0]]) := by
  have el : lenO [sc] lo h = .ok (.int (ns.map A.int).length) h := len_seq hx
  have m0 : mulO (.int 191) (.int (k : Nat)) lo h = .ok (.int (191 * (k : Nat))) h := mul_ok (by decide) (by omega)
  have c1 : ∃ cell : Int, ifF (asB (bin (cmpO fun i j => decide (i < j)) (vA 1) (calF lenO (consF (vA 0) nilF)))) (calF intO (consF (bin ixO (vA 0) (vA 1)) nilF)) (bin addO (bin mulO (cA (.int 191)) (vA 1)) (cA (.int 83))) lo [some sc, some (.int (k : Nat)), none, none] h = .ok (.int cell) h := by
    by_cases hb : ((k : Nat) : Int) < ((ns.map A.int).length : Nat)
    · obtain ⟨x, hm, ex⟩ := atI_nat (xs := ns.map A.int) (r := (k : Nat)) (by omega) hb
      obtain ⟨i, _, rfl⟩ := List.mem_map.mp hm
      have ei : ixO sc (.int (k : Nat)) lo h = .ok (.int i) h := ix_seq hx ex
      exact ⟨i, by simp only [ifF, asB, bin, MF.bind, R.bind, vA, calF, consF, nilF, List.getElem?_cons_zero, List.getElem?_cons_succ, el, cmpO, hb, decide_true, ei, intO]⟩
    · exact ⟨191 * (k : Nat) + 83, by simp only [ifF, asB, bin, MF.bind, R.bind, vA, cA, calF, consF, nilF, List.getElem?_cons_zero, List.getElem?_cons_succ, el, cmpO, hb, decide_false, m0, addO]⟩
  obtain ⟨cell, e1⟩ := c1
  have p1 : powO (.int 10) (.int 59) lo h = .ok (.int (10 ^ 59)) h := by kernel_rfl
  have p2 : powO (.int (10 ^ 59)) (.int 6) lo h = .ok (.int ((10 ^ 59) ^ 6)) h := by kernel_rfl
  have p3 : powO (.int 10) (.int 16) lo h = .ok (.int (10 ^ 16)) h := by kernel_rfl
  have d1 : ∀ i, modO (.int i) (.int ((10 ^ 59) ^ 6)) lo h = .ok (.int (i % ((10 ^ 59) ^ 6))) h := fun i => mod_ok (by decide +kernel)
  have d2 : ∀ i, modO (.int i) (.int 2147483423) lo h = .ok (.int (i % 2147483423)) h := fun i => mod_ok (by decide)
  have q1 : ∀ i : Int, 0 ≤ i % 2147483423 := fun i => Int.emod_nonneg _ (by decide)
  have q2 : ∀ i : Int, i % 2147483423 < 2147483423 := fun i => Int.emod_lt_of_pos _ (by decide)
  have m1 : ∀ i : Int, mulO (.int (i % 2147483423)) (.int 137) lo h = .ok (.int (i % 2147483423 * 137)) h := fun i => mul_ok (by have := q1 i; have := q2 i; omega) (by decide)
  have m2 : mulO (.int 661) (.int (k : Nat)) lo h = .ok (.int (661 * (k : Nat))) h := mul_ok (by decide) (by omega)
  have m3 : ∀ b : Bool, mulO (.int 59) (.int (if b = true then 1 else 0)) lo h = .ok (.int (59 * (if b = true then 1 else 0))) h := fun b => by cases b <;> exact mul_ok (by decide) (by decide)
  simp only [lenF, List.length_cons, List.length_nil, Nat.beq, if_true, f__law_trough, bodyF, b__law_trough, seqS, asgS, retS, setSl, startA, List.map_cons, List.map_nil, List.replicate, List.cons_append, List.nil_append, MF.bind, R.bind, e1]
  simp only [lstF, bin, MF.bind, R.bind, vA, cA, calF, consF, nilF, List.getElem?_cons_zero, List.getElem?_cons_succ, List.set, absO, intO, p1, p2, p3, d1, d2, m1, m2, m3, subO, addO, max2O, cmpO]
  exact ⟨_, _, rfl⟩
end Law

set_option linter.all false
set_option maxRecDepth 100000
set_option maxHeartbeats 4000000
namespace Law
open PySem MA
def x0_0 : AO := .ins 17 [some (.tup [.int 0, .int 1, .int 2, .int 4, .int 3, .int 5]), some (.tup [.tup [.int 0, .int 1, .int 2], .tup [.int 0, .int 2, .int 1], .tup [.int 1, .int 0, .int 2], .tup [.int 1, .int 2, .int 0], .tup [.int 2, .int 0, .int 1], .tup [.int 2, .int 1, .int 0]]), some (.ref 1), some (.int 3), some (.tup [.ftup [.int 0, .int 1, .int 2, .int 3, .int 4, .int 5], .ftup [.int 1, .int 0, .int 3, .int 2, .int 5, .int 4], .ftup [.int 2, .int 4, .int 0, .int 5, .int 1, .int 3], .ftup [.int 3, .int 5, .int 1, .int 4, .int 0, .int 2], .ftup [.int 4, .int 2, .int 5, .int 0, .int 3, .int 1], .ftup [.int 5, .int 3, .int 4, .int 1, .int 2, .int 0]]), some (.int 6)]
def x0_1 : AO := .dt [([.inl (0), .inl (1), .inl (2)], .int 0), ([.inl (0), .inl (2), .inl (1)], .int 1), ([.inl (1), .inl (0), .inl (2)], .int 2), ([.inl (1), .inl (2), .inl (0)], .int 3), ([.inl (2), .inl (0), .inl (1)], .int 4), ([.inl (2), .inl (1), .inl (0)], .int 5)]
def x0_2 : AO := .lst [.int 0, .int 1, .int 2, .int 4, .int 3, .int 5]
def hR0 : Hs := [x0_0, x0_1, x0_2]
theorem r0_law_0 (ns : List Int) : p_law_0 0 [some ((.lit ns)), none, none, none] [] = .ok (.nx [some ((.lit ns)), some (.ref 0), none, none]) hR0 := by kernel_rfl
def S0__law_rooms_right_0 : Sl := [some (.ref 3), none, none, none, none, none, none, none]
def H0__law_rooms_right_0 (a b c : Int) : Hs := [x0_0, x0_1, x0_2, .lst [.int a, .int b, .int c]]
def G0__law_rooms_right_0 (a b c : Int) : Hs := [x0_0, x0_1, x0_2, .lst [.int a, .int b, .int c], .lst [.non, .int 0, .int 7, .int (-1), .bl true, .str "3", .tup [.int 3], .int 1000000000000000000000000000000000000000000000000000000000000]]
def al0__law_rooms_right_0 : List A := [.non, .int 0, .int 7, .int (-1), .bl true, .str "3", .tup [.int 3], .int 1000000000000000000000000000000000000000000000000000000000000]
def d0__law_rooms_right_0 (r0 : Nat) : A := (al0__law_rooms_right_0 ).getD r0 .non
def S0__law_rooms_right_1 (r0 : Nat) : Sl := [some (.ref 3), some ((d0__law_rooms_right_0 r0 )), none, none, none, none, none, none]
def H0__law_rooms_right_1 (a b c : Int) (r0 : Nat) : Hs := [x0_0, x0_1, x0_2, .lst [.int a, .int b, .int c], .lst [.non, .int 0, .int 7, .int (-1), .bl true, .str "3", .tup [.int 3], .int 1000000000000000000000000000000000000000000000000000000000000]]
theorem r0__law_rooms_right_0 (a b c : Int) : m__law_rooms_right_0 3 (S0__law_rooms_right_0 ) (H0__law_rooms_right_0 a b c ) = .ok (.ref 4) (G0__law_rooms_right_0 a b c ) := by kernel_rfl
def S0__law_rooms_right_2 (r0 : Nat) : Sl := [some (.ref 3), some ((d0__law_rooms_right_0 r0 )), some (.ref 7), none, none, none, none, none]
def H0__law_rooms_right_2 (a b c : Int) (r0 : Nat) : Hs := [x0_0, x0_1, x0_2, .lst [.int a, .int b, .int c], .lst [.non, .int 0, .int 7, .int (-1), .bl true, .str "3", .tup [.int 3], .int 1000000000000000000000000000000000000000000000000000000000000], .lst [.tup [.int 1, .int 0, .int 2]], .dk [], .lst [.non, .ref 5, .tup [.int 1, .int 0, .int 2], .tup [.tup [.int 1, .int 0]], .tup [.tup [.int 1, .int 1, .int 2]], .tup [.tup [.int 0, .int 1, .int 3]], .tup [.tup [.int 1, .int 0, .bl true]], .tup [.tup [.int 2, .int 1, .str "0"]], .ref 6]]
theorem r0__law_rooms_right_1 (a b c : Int) (r0 : Nat) (h_r0 : r0 < 8) : p__law_rooms_right_1 3 (S0__law_rooms_right_1 r0 ) (H0__law_rooms_right_1 a b c r0 ) = .ok (.nx (S0__law_rooms_right_2 r0 )) (H0__law_rooms_right_2 a b c r0 ) := by
  kernel_rfl
def G0__law_rooms_right_2 (a b c : Int) (r0 : Nat) : Hs := [x0_0, x0_1, x0_2, .lst [.int a, .int b, .int c], .lst [.non, .int 0, .int 7, .int (-1), .bl true, .str "3", .tup [.int 3], .int 1000000000000000000000000000000000000000000000000000000000000], .lst [.tup [.int 1, .int 0, .int 2]], .dk [], .lst [.non, .ref 5, .tup [.int 1, .int 0, .int 2], .tup [.tup [.int 1, .int 0]], .tup [.tup [.int 1, .int 1, .int 2]], .tup [.tup [.int 0, .int 1, .int 3]], .tup [.tup [.int 1, .int 0, .bl true]], .tup [.tup [.int 2, .int 1, .str "0"]], .ref 6], .lst [.int 1, .int 0, .int 2], .lst [.str "120", .tup [.tup [.int 1, .int 0, .int 2], .non], .tup [.tup [.int 0, .int 1, .int 2], .tup [.int 0, .int 1, .int 2], .tup [.int 0, .int 1, .int 2], .tup [.int 0, .int 1, .int 2], .tup [.int 0, .int 1, .int 2]], .tup [.ref 8], .tup [.tup [.int 1, .int 0, .int (-2)]]], .lst [.non, .ref 5, .tup [.int 1, .int 0, .int 2], .tup [.tup [.int 1, .int 0]], .tup [.tup [.int 1, .int 1, .int 2]], .tup [.tup [.int 0, .int 1, .int 3]], .tup [.tup [.int 1, .int 0, .bl true]], .tup [.tup [.int 2, .int 1, .str "0"]], .ref 6, .str "120", .tup [.tup [.int 1, .int 0, .int 2], .non], .tup [.tup [.int 0, .int 1, .int 2], .tup [.int 0, .int 1, .int 2], .tup [.int 0, .int 1, .int 2], .tup [.int 0, .int 1, .int 2], .tup [.int 0, .int 1, .int 2]], .tup [.ref 8], .tup [.tup [.int 1, .int 0, .int (-2)]]]]
def al0__law_rooms_right_2 (r0 : Nat) : List A := [.non, .ref 5, .tup [.int 1, .int 0, .int 2], .tup [.tup [.int 1, .int 0]], .tup [.tup [.int 1, .int 1, .int 2]], .tup [.tup [.int 0, .int 1, .int 3]], .tup [.tup [.int 1, .int 0, .bl true]], .tup [.tup [.int 2, .int 1, .str "0"]], .ref 6, .str "120", .tup [.tup [.int 1, .int 0, .int 2], .non], .tup [.tup [.int 0, .int 1, .int 2], .tup [.int 0, .int 1, .int 2], .tup [.int 0, .int 1, .int 2], .tup [.int 0, .int 1, .int 2], .tup [.int 0, .int 1, .int 2]], .tup [.ref 8], .tup [.tup [.int 1, .int 0, .int (-2)]]]
def d0__law_rooms_right_2 (r0 : Nat) (r2 : Nat) : A := (al0__law_rooms_right_2 r0 ).getD r2 .non
def S0__law_rooms_right_3 (r0 : Nat) (r2 : Nat) : Sl := [some (.ref 3), some ((d0__law_rooms_right_0 r0 )), some (.ref 7), some ((d0__law_rooms_right_2 r0 r2 )), none, none, none, none]
def H0__law_rooms_right_3 (a b c : Int) (r0 : Nat) (r2 : Nat) : Hs := [x0_0, x0_1, x0_2, .lst [.int a, .int b, .int c], .lst [.non, .int 0, .int 7, .int (-1), .bl true, .str "3", .tup [.int 3], .int 1000000000000000000000000000000000000000000000000000000000000], .lst [.tup [.int 1, .int 0, .int 2]], .dk [], .lst [.non, .ref 5, .tup [.int 1, .int 0, .int 2], .tup [.tup [.int 1, .int 0]], .tup [.tup [.int 1, .int 1, .int 2]], .tup [.tup [.int 0, .int 1, .int 3]], .tup [.tup [.int 1, .int 0, .bl true]], .tup [.tup [.int 2, .int 1, .str "0"]], .ref 6], .lst [.int 1, .int 0, .int 2], .lst [.str "120", .tup [.tup [.int 1, .int 0, .int 2], .non], .tup [.tup [.int 0, .int 1, .int 2], .tup [.int 0, .int 1, .int 2], .tup [.int 0, .int 1, .int 2], .tup [.int 0, .int 1, .int 2], .tup [.int 0, .int 1, .int 2]], .tup [.ref 8], .tup [.tup [.int 1, .int 0, .int (-2)]]], .lst [.non, .ref 5, .tup [.int 1, .int 0, .int 2], .tup [.tup [.int 1, .int 0]], .tup [.tup [.int 1, .int 1, .int 2]], .tup [.tup [.int 0, .int 1, .int 3]], .tup [.tup [.int 1, .int 0, .bl true]], .tup [.tup [.int 2, .int 1, .str "0"]], .ref 6, .str "120", .tup [.tup [.int 1, .int 0, .int 2], .non], .tup [.tup [.int 0, .int 1, .int 2], .tup [.int 0, .int 1, .int 2], .tup [.int 0, .int 1, .int 2], .tup [.int 0, .int 1, .int 2], .tup [.int 0, .int 1, .int 2]], .tup [.ref 8], .tup [.tup [.int 1, .int 0, .int (-2)]]]]
theorem r0__law_rooms_right_2 (a b c : Int) (r0 : Nat) (h_r0 : r0 < 8) : m__law_rooms_right_2 3 (S0__law_rooms_right_2 r0 ) (H0__law_rooms_right_2 a b c r0 ) = .ok (.ref 10) (G0__law_rooms_right_2 a b c r0 ) := by kernel_rfl
def G0__law_rooms_right_3 (a b c : Int) (r0 : Nat) (r2 : Nat) : Hs := [x0_0, x0_1, x0_2, .lst [.int a, .int b, .int c], .lst [.non, .int 0, .int 7, .int (-1), .bl true, .str "3", .tup [.int 3], .int 1000000000000000000000000000000000000000000000000000000000000], .lst [.tup [.int 1, .int 0, .int 2]], .dk [], .lst [.non, .ref 5, .tup [.int 1, .int 0, .int 2], .tup [.tup [.int 1, .int 0]], .tup [.tup [.int 1, .int 1, .int 2]], .tup [.tup [.int 0, .int 1, .int 3]], .tup [.tup [.int 1, .int 0, .bl true]], .tup [.tup [.int 2, .int 1, .str "0"]], .ref 6], .lst [.int 1, .int 0, .int 2], .lst [.str "120", .tup [.tup [.int 1, .int 0, .int 2], .non], .tup [.tup [.int 0, .int 1, .int 2], .tup [.int 0, .int 1, .int 2], .tup [.int 0, .int 1, .int 2], .tup [.int 0, .int 1, .int 2], .tup [.int 0, .int 1, .int 2]], .tup [.ref 8], .tup [.tup [.int 1, .int 0, .int (-2)]]], .lst [.non, .ref 5, .tup [.int 1, .int 0, .int 2], .tup [.tup [.int 1, .int 0]], .tup [.tup [.int 1, .int 1, .int 2]], .tup [.tup [.int 0, .int 1, .int 3]], .tup [.tup [.int 1, .int 0, .bl true]], .tup [.tup [.int 2, .int 1, .str "0"]], .ref 6, .str "120", .tup [.tup [.int 1, .int 0, .int 2], .non], .tup [.tup [.int 0, .int 1, .int 2], .tup [.int 0, .int 1, .int 2], .tup [.int 0, .int 1, .int 2], .tup [.int 0, .int 1, .int 2], .tup [.int 0, .int 1, .int 2]], .tup [.ref 8], .tup [.tup [.int 1, .int 0, .int (-2)]]], .lst [.non, .int 0, .int 7, .bl true, .str "2", .tup [.int 1]]]
def al0__law_rooms_right_3 (r0 : Nat) (r2 : Nat) : List A := [.non, .int 0, .int 7, .bl true, .str "2", .tup [.int 1]]
def d0__law_rooms_right_3 (r0 : Nat) (r2 : Nat) (r3 : Nat) : A := (al0__law_rooms_right_3 r0 r2 ).getD r3 .non
def S0__law_rooms_right_4 (r0 : Nat) (r2 : Nat) (r3 : Nat) : Sl := [some (.ref 3), some ((d0__law_rooms_right_0 r0 )), some (.ref 7), some ((d0__law_rooms_right_2 r0 r2 )), some ((d0__law_rooms_right_3 r0 r2 r3 )), none, none, none]
def H0__law_rooms_right_4 (a b c : Int) (r0 : Nat) (r2 : Nat) (r3 : Nat) : Hs := [x0_0, x0_1, x0_2, .lst [.int a, .int b, .int c], .lst [.non, .int 0, .int 7, .int (-1), .bl true, .str "3", .tup [.int 3], .int 1000000000000000000000000000000000000000000000000000000000000], .lst [.tup [.int 1, .int 0, .int 2]], .dk [], .lst [.non, .ref 5, .tup [.int 1, .int 0, .int 2], .tup [.tup [.int 1, .int 0]], .tup [.tup [.int 1, .int 1, .int 2]], .tup [.tup [.int 0, .int 1, .int 3]], .tup [.tup [.int 1, .int 0, .bl true]], .tup [.tup [.int 2, .int 1, .str "0"]], .ref 6], .lst [.int 1, .int 0, .int 2], .lst [.str "120", .tup [.tup [.int 1, .int 0, .int 2], .non], .tup [.tup [.int 0, .int 1, .int 2], .tup [.int 0, .int 1, .int 2], .tup [.int 0, .int 1, .int 2], .tup [.int 0, .int 1, .int 2], .tup [.int 0, .int 1, .int 2]], .tup [.ref 8], .tup [.tup [.int 1, .int 0, .int (-2)]]], .lst [.non, .ref 5, .tup [.int 1, .int 0, .int 2], .tup [.tup [.int 1, .int 0]], .tup [.tup [.int 1, .int 1, .int 2]], .tup [.tup [.int 0, .int 1, .int 3]], .tup [.tup [.int 1, .int 0, .bl true]], .tup [.tup [.int 2, .int 1, .str "0"]], .ref 6, .str "120", .tup [.tup [.int 1, .int 0, .int 2], .non], .tup [.tup [.int 0, .int 1, .int 2], .tup [.int 0, .int 1, .int 2], .tup [.int 0, .int 1, .int 2], .tup [.int 0, .int 1, .int 2], .tup [.int 0, .int 1, .int 2]], .tup [.ref 8], .tup [.tup [.int 1, .int 0, .int (-2)]]], .lst [.non, .int 0, .int 7, .bl true, .str "2", .tup [.int 1]]]
theorem r0__law_rooms_right_3 (a b c : Int) (r0 : Nat) (r2 : Nat) (h_r0 : r0 < 8) (h_r2 : r2 < 14) : m__law_rooms_right_3 3 (S0__law_rooms_right_3 r0 r2 ) (H0__law_rooms_right_3 a b c r0 r2 ) = .ok (.ref 11) (G0__law_rooms_right_3 a b c r0 r2 ) := by kernel_rfl
def u0__law_rooms_right_4_0 (r0 : Nat) : A := [.str "None", .str "0", .str "7", .str "-1", .str "True", .str "'3'", .str "(3,)", .str "1000000000000000000000000000000000000000000000000000000000000"].getD r0 .non
def S0__law_rooms_right_5 (r0 : Nat) (r2 : Nat) (r3 : Nat) : Sl := [some (.ref 3), some ((d0__law_rooms_right_0 r0 )), some (.ref 7), some ((d0__law_rooms_right_2 r0 r2 )), some ((d0__law_rooms_right_3 r0 r2 r3 )), some (.ref 12), none, none]
def H0__law_rooms_right_5 (a b c : Int) (r0 : Nat) (r2 : Nat) (r3 : Nat) : Hs := [x0_0, x0_1, x0_2, .lst [.int a, .int b, .int c], .lst [.non, .int 0, .int 7, .int (-1), .bl true, .str "3", .tup [.int 3], .int 1000000000000000000000000000000000000000000000000000000000000], .lst [.tup [.int 1, .int 0, .int 2]], .dk [], .lst [.non, .ref 5, .tup [.int 1, .int 0, .int 2], .tup [.tup [.int 1, .int 0]], .tup [.tup [.int 1, .int 1, .int 2]], .tup [.tup [.int 0, .int 1, .int 3]], .tup [.tup [.int 1, .int 0, .bl true]], .tup [.tup [.int 2, .int 1, .str "0"]], .ref 6], .lst [.int 1, .int 0, .int 2], .lst [.str "120", .tup [.tup [.int 1, .int 0, .int 2], .non], .tup [.tup [.int 0, .int 1, .int 2], .tup [.int 0, .int 1, .int 2], .tup [.int 0, .int 1, .int 2], .tup [.int 0, .int 1, .int 2], .tup [.int 0, .int 1, .int 2]], .tup [.ref 8], .tup [.tup [.int 1, .int 0, .int (-2)]]], .lst [.non, .ref 5, .tup [.int 1, .int 0, .int 2], .tup [.tup [.int 1, .int 0]], .tup [.tup [.int 1, .int 1, .int 2]], .tup [.tup [.int 0, .int 1, .int 3]], .tup [.tup [.int 1, .int 0, .bl true]], .tup [.tup [.int 2, .int 1, .str "0"]], .ref 6, .str "120", .tup [.tup [.int 1, .int 0, .int 2], .non], .tup [.tup [.int 0, .int 1, .int 2], .tup [.int 0, .int 1, .int 2], .tup [.int 0, .int 1, .int 2], .tup [.int 0, .int 1, .int 2], .tup [.int 0, .int 1, .int 2]], .tup [.ref 8], .tup [.tup [.int 1, .int 0, .int (-2)]]], .lst [.non, .int 0, .int 7, .bl true, .str "2", .tup [.int 1]], .lst [.tup [.str "raised", .str "number", (u0__law_rooms_right_4_0 r0)]]]
theorem r0__law_rooms_right_4 (a b c : Int) (r0 : Nat) (r2 : Nat) (r3 : Nat) (h_r0 : r0 < 8) (h_r2 : r2 < 14) (h_r3 : r3 < 6) : p__law_rooms_right_4 3 (S0__law_rooms_right_4 r0 r2 r3 ) (H0__law_rooms_right_4 a b c r0 r2 r3 ) = .ok (.nx (S0__law_rooms_right_5 r0 r2 r3 )) (H0__law_rooms_right_5 a b c r0 r2 r3 ) := by
  rcases alt0 h_r0 with rfl | rfl | rfl | rfl | rfl | rfl | rfl | rfl <;> kernel_rfl
def S0__law_rooms_right_6 (r0 : Nat) (r2 : Nat) (r3 : Nat) : Sl := [some (.ref 3), some ((d0__law_rooms_right_0 r0 )), some (.ref 7), some ((d0__law_rooms_right_2 r0 r2 )), some ((d0__law_rooms_right_3 r0 r2 r3 )), some (.ref 12), none, none]
def H0__law_rooms_right_6 (a b c : Int) (r0 : Nat) (r2 : Nat) (r3 : Nat) : Hs := [x0_0, x0_1, x0_2, .lst [.int a, .int b, .int c], .lst [.non, .int 0, .int 7, .int (-1), .bl true, .str "3", .tup [.int 3], .int 1000000000000000000000000000000000000000000000000000000000000], .lst [.tup [.int 1, .int 0, .int 2]], .dk [], .lst [.non, .ref 5, .tup [.int 1, .int 0, .int 2], .tup [.tup [.int 1, .int 0]], .tup [.tup [.int 1, .int 1, .int 2]], .tup [.tup [.int 0, .int 1, .int 3]], .tup [.tup [.int 1, .int 0, .bl true]], .tup [.tup [.int 2, .int 1, .str "0"]], .ref 6], .lst [.int 1, .int 0, .int 2], .lst [.str "120", .tup [.tup [.int 1, .int 0, .int 2], .non], .tup [.tup [.int 0, .int 1, .int 2], .tup [.int 0, .int 1, .int 2], .tup [.int 0, .int 1, .int 2], .tup [.int 0, .int 1, .int 2], .tup [.int 0, .int 1, .int 2]], .tup [.ref 8], .tup [.tup [.int 1, .int 0, .int (-2)]]], .lst [.non, .ref 5, .tup [.int 1, .int 0, .int 2], .tup [.tup [.int 1, .int 0]], .tup [.tup [.int 1, .int 1, .int 2]], .tup [.tup [.int 0, .int 1, .int 3]], .tup [.tup [.int 1, .int 0, .bl true]], .tup [.tup [.int 2, .int 1, .str "0"]], .ref 6, .str "120", .tup [.tup [.int 1, .int 0, .int 2], .non], .tup [.tup [.int 0, .int 1, .int 2], .tup [.int 0, .int 1, .int 2], .tup [.int 0, .int 1, .int 2], .tup [.int 0, .int 1, .int 2], .tup [.int 0, .int 1, .int 2]], .tup [.ref 8], .tup [.tup [.int 1, .int 0, .int (-2)]]], .lst [.non, .int 0, .int 7, .bl true, .str "2", .tup [.int 1]], .lst [.tup [.str "raised", .str "number", (u0__law_rooms_right_4_0 r0)], .tup [.str "raised", .str "room"]]]
theorem r0__law_rooms_right_5 (a b c : Int) (r0 : Nat) (r2 : Nat) (r3 : Nat) (h_r0 : r0 < 8) (h_r2 : r2 < 14) (h_r3 : r3 < 6) : p__law_rooms_right_5 3 (S0__law_rooms_right_5 r0 r2 r3 ) (H0__law_rooms_right_5 a b c r0 r2 r3 ) = .ok (.nx (S0__law_rooms_right_6 r0 r2 r3 )) (H0__law_rooms_right_6 a b c r0 r2 r3 ) := by
  rcases alt0 h_r2 with rfl | rfl | rfl | rfl | rfl | rfl | rfl | rfl | rfl | rfl | rfl | rfl | rfl | rfl <;> kernel_rfl
def u0__law_rooms_right_6_0 (r3 : Nat) : A := [.str "None", .str "0", .str "7", .str "True", .str "'2'", .str "(1,)"].getD r3 .non
def S0__law_rooms_right_7 (r0 : Nat) (r2 : Nat) (r3 : Nat) : Sl := [some (.ref 3), some ((d0__law_rooms_right_0 r0 )), some (.ref 7), some ((d0__law_rooms_right_2 r0 r2 )), some ((d0__law_rooms_right_3 r0 r2 r3 )), some (.ref 12), none, none]
def H0__law_rooms_right_7 (a b c : Int) (r0 : Nat) (r2 : Nat) (r3 : Nat) : Hs := [x0_0, x0_1, x0_2, .lst [.int a, .int b, .int c], .lst [.non, .int 0, .int 7, .int (-1), .bl true, .str "3", .tup [.int 3], .int 1000000000000000000000000000000000000000000000000000000000000], .lst [.tup [.int 1, .int 0, .int 2]], .dk [], .lst [.non, .ref 5, .tup [.int 1, .int 0, .int 2], .tup [.tup [.int 1, .int 0]], .tup [.tup [.int 1, .int 1, .int 2]], .tup [.tup [.int 0, .int 1, .int 3]], .tup [.tup [.int 1, .int 0, .bl true]], .tup [.tup [.int 2, .int 1, .str "0"]], .ref 6], .lst [.int 1, .int 0, .int 2], .lst [.str "120", .tup [.tup [.int 1, .int 0, .int 2], .non], .tup [.tup [.int 0, .int 1, .int 2], .tup [.int 0, .int 1, .int 2], .tup [.int 0, .int 1, .int 2], .tup [.int 0, .int 1, .int 2], .tup [.int 0, .int 1, .int 2]], .tup [.ref 8], .tup [.tup [.int 1, .int 0, .int (-2)]]], .lst [.non, .ref 5, .tup [.int 1, .int 0, .int 2], .tup [.tup [.int 1, .int 0]], .tup [.tup [.int 1, .int 1, .int 2]], .tup [.tup [.int 0, .int 1, .int 3]], .tup [.tup [.int 1, .int 0, .bl true]], .tup [.tup [.int 2, .int 1, .str "0"]], .ref 6, .str "120", .tup [.tup [.int 1, .int 0, .int 2], .non], .tup [.tup [.int 0, .int 1, .int 2], .tup [.int 0, .int 1, .int 2], .tup [.int 0, .int 1, .int 2], .tup [.int 0, .int 1, .int 2], .tup [.int 0, .int 1, .int 2]], .tup [.ref 8], .tup [.tup [.int 1, .int 0, .int (-2)]]], .lst [.non, .int 0, .int 7, .bl true, .str "2", .tup [.int 1]], .lst [.tup [.str "raised", .str "number", (u0__law_rooms_right_4_0 r0)], .tup [.str "raised", .str "room"], .tup [.str "raised", .str "number", (u0__law_rooms_right_6_0 r3)]]]
theorem r0__law_rooms_right_6 (a b c : Int) (r0 : Nat) (r2 : Nat) (r3 : Nat) (h_r0 : r0 < 8) (h_r2 : r2 < 14) (h_r3 : r3 < 6) : p__law_rooms_right_6 3 (S0__law_rooms_right_6 r0 r2 r3 ) (H0__law_rooms_right_6 a b c r0 r2 r3 ) = .ok (.nx (S0__law_rooms_right_7 r0 r2 r3 )) (H0__law_rooms_right_7 a b c r0 r2 r3 ) := by
  rcases alt0 h_r3 with rfl | rfl | rfl | rfl | rfl | rfl <;> kernel_rfl
def u0__law_rooms_right_7_0 (r3 : Nat) : A := [.str "None", .str "0", .str "7", .str "True", .str "'2'", .str "(1,)"].getD r3 .non
def S0__law_rooms_right_8 (r0 : Nat) (r2 : Nat) (r3 : Nat) : Sl := [some (.ref 3), some ((d0__law_rooms_right_0 r0 )), some (.ref 7), some ((d0__law_rooms_right_2 r0 r2 )), some ((d0__law_rooms_right_3 r0 r2 r3 )), some (.ref 12), none, none]
def H0__law_rooms_right_8 (a b c : Int) (r0 : Nat) (r2 : Nat) (r3 : Nat) : Hs := [x0_0, x0_1, x0_2, .lst [.int a, .int b, .int c], .lst [.non, .int 0, .int 7, .int (-1), .bl true, .str "3", .tup [.int 3], .int 1000000000000000000000000000000000000000000000000000000000000], .lst [.tup [.int 1, .int 0, .int 2]], .dk [], .lst [.non, .ref 5, .tup [.int 1, .int 0, .int 2], .tup [.tup [.int 1, .int 0]], .tup [.tup [.int 1, .int 1, .int 2]], .tup [.tup [.int 0, .int 1, .int 3]], .tup [.tup [.int 1, .int 0, .bl true]], .tup [.tup [.int 2, .int 1, .str "0"]], .ref 6], .lst [.int 1, .int 0, .int 2], .lst [.str "120", .tup [.tup [.int 1, .int 0, .int 2], .non], .tup [.tup [.int 0, .int 1, .int 2], .tup [.int 0, .int 1, .int 2], .tup [.int 0, .int 1, .int 2], .tup [.int 0, .int 1, .int 2], .tup [.int 0, .int 1, .int 2]], .tup [.ref 8], .tup [.tup [.int 1, .int 0, .int (-2)]]], .lst [.non, .ref 5, .tup [.int 1, .int 0, .int 2], .tup [.tup [.int 1, .int 0]], .tup [.tup [.int 1, .int 1, .int 2]], .tup [.tup [.int 0, .int 1, .int 3]], .tup [.tup [.int 1, .int 0, .bl true]], .tup [.tup [.int 2, .int 1, .str "0"]], .ref 6, .str "120", .tup [.tup [.int 1, .int 0, .int 2], .non], .tup [.tup [.int 0, .int 1, .int 2], .tup [.int 0, .int 1, .int 2], .tup [.int 0, .int 1, .int 2], .tup [.int 0, .int 1, .int 2], .tup [.int 0, .int 1, .int 2]], .tup [.ref 8], .tup [.tup [.int 1, .int 0, .int (-2)]]], .lst [.non, .int 0, .int 7, .bl true, .str "2", .tup [.int 1]], .lst [.tup [.str "raised", .str "number", (u0__law_rooms_right_4_0 r0)], .tup [.str "raised", .str "room"], .tup [.str "raised", .str "number", (u0__law_rooms_right_6_0 r3)], .tup [.str "raised", .str "number", (u0__law_rooms_right_7_0 r3)]]]
theorem r0__law_rooms_right_7 (a b c : Int) (r0 : Nat) (r2 : Nat) (r3 : Nat) (h_r0 : r0 < 8) (h_r2 : r2 < 14) (h_r3 : r3 < 6) : p__law_rooms_right_7 3 (S0__law_rooms_right_7 r0 r2 r3 ) (H0__law_rooms_right_7 a b c r0 r2 r3 ) = .ok (.nx (S0__law_rooms_right_8 r0 r2 r3 )) (H0__law_rooms_right_8 a b c r0 r2 r3 ) := by
  rcases alt0 h_r3 with rfl | rfl | rfl | rfl | rfl | rfl <;> kernel_rfl
def S0__law_rooms_right_9 (r0 : Nat) (r2 : Nat) (r3 : Nat) : Sl := [some (.ref 3), some ((d0__law_rooms_right_0 r0 )), some (.ref 7), some ((d0__law_rooms_right_2 r0 r2 )), some ((d0__law_rooms_right_3 r0 r2 r3 )), some (.ref 12), none, none]
def H0__law_rooms_right_9 (a b c : Int) (r0 : Nat) (r2 : Nat) (r3 : Nat) : Hs := [x0_0, x0_1, x0_2, .lst [.int a, .int b, .int c], .lst [.non, .int 0, .int 7, .int (-1), .bl true, .str "3", .tup [.int 3], .int 1000000000000000000000000000000000000000000000000000000000000], .lst [.tup [.int 1, .int 0, .int 2]], .dk [], .lst [.non, .ref 5, .tup [.int 1, .int 0, .int 2], .tup [.tup [.int 1, .int 0]], .tup [.tup [.int 1, .int 1, .int 2]], .tup [.tup [.int 0, .int 1, .int 3]], .tup [.tup [.int 1, .int 0, .bl true]], .tup [.tup [.int 2, .int 1, .str "0"]], .ref 6], .lst [.int 1, .int 0, .int 2], .lst [.str "120", .tup [.tup [.int 1, .int 0, .int 2], .non], .tup [.tup [.int 0, .int 1, .int 2], .tup [.int 0, .int 1, .int 2], .tup [.int 0, .int 1, .int 2], .tup [.int 0, .int 1, .int 2], .tup [.int 0, .int 1, .int 2]], .tup [.ref 8], .tup [.tup [.int 1, .int 0, .int (-2)]]], .lst [.non, .ref 5, .tup [.int 1, .int 0, .int 2], .tup [.tup [.int 1, .int 0]], .tup [.tup [.int 1, .int 1, .int 2]], .tup [.tup [.int 0, .int 1, .int 3]], .tup [.tup [.int 1, .int 0, .bl true]], .tup [.tup [.int 2, .int 1, .str "0"]], .ref 6, .str "120", .tup [.tup [.int 1, .int 0, .int 2], .non], .tup [.tup [.int 0, .int 1, .int 2], .tup [.int 0, .int 1, .int 2], .tup [.int 0, .int 1, .int 2], .tup [.int 0, .int 1, .int 2], .tup [.int 0, .int 1, .int 2]], .tup [.ref 8], .tup [.tup [.int 1, .int 0, .int (-2)]]], .lst [.non, .int 0, .int 7, .bl true, .str "2", .tup [.int 1]], .lst [.tup [.str "raised", .str "number", (u0__law_rooms_right_4_0 r0)], .tup [.str "raised", .str "room"], .tup [.str "raised", .str "number", (u0__law_rooms_right_6_0 r3)], .tup [.str "raised", .str "number", (u0__law_rooms_right_7_0 r3)], .tup [.str "raised", .str "number", .str "5"]]]
theorem r0__law_rooms_right_8 (a b c : Int) (r0 : Nat) (r2 : Nat) (r3 : Nat) (h_r0 : r0 < 8) (h_r2 : r2 < 14) (h_r3 : r3 < 6) : p__law_rooms_right_8 3 (S0__law_rooms_right_8 r0 r2 r3 ) (H0__law_rooms_right_8 a b c r0 r2 r3 ) = .ok (.nx (S0__law_rooms_right_9 r0 r2 r3 )) (H0__law_rooms_right_9 a b c r0 r2 r3 ) := by
  kernel_rfl
def S0__law_rooms_right_10 (r0 : Nat) (r2 : Nat) (r3 : Nat) : Sl := [some (.ref 3), some ((d0__law_rooms_right_0 r0 )), some (.ref 7), some ((d0__law_rooms_right_2 r0 r2 )), some ((d0__law_rooms_right_3 r0 r2 r3 )), some (.ref 12), none, none]
def H0__law_rooms_right_10 (a b c : Int) (r0 : Nat) (r2 : Nat) (r3 : Nat) : Hs := [x0_0, x0_1, x0_2, .lst [.int a, .int b, .int c], .lst [.non, .int 0, .int 7, .int (-1), .bl true, .str "3", .tup [.int 3], .int 1000000000000000000000000000000000000000000000000000000000000], .lst [.tup [.int 1, .int 0, .int 2]], .dk [], .lst [.non, .ref 5, .tup [.int 1, .int 0, .int 2], .tup [.tup [.int 1, .int 0]], .tup [.tup [.int 1, .int 1, .int 2]], .tup [.tup [.int 0, .int 1, .int 3]], .tup [.tup [.int 1, .int 0, .bl true]], .tup [.tup [.int 2, .int 1, .str "0"]], .ref 6], .lst [.int 1, .int 0, .int 2], .lst [.str "120", .tup [.tup [.int 1, .int 0, .int 2], .non], .tup [.tup [.int 0, .int 1, .int 2], .tup [.int 0, .int 1, .int 2], .tup [.int 0, .int 1, .int 2], .tup [.int 0, .int 1, .int 2], .tup [.int 0, .int 1, .int 2]], .tup [.ref 8], .tup [.tup [.int 1, .int 0, .int (-2)]]], .lst [.non, .ref 5, .tup [.int 1, .int 0, .int 2], .tup [.tup [.int 1, .int 0]], .tup [.tup [.int 1, .int 1, .int 2]], .tup [.tup [.int 0, .int 1, .int 3]], .tup [.tup [.int 1, .int 0, .bl true]], .tup [.tup [.int 2, .int 1, .str "0"]], .ref 6, .str "120", .tup [.tup [.int 1, .int 0, .int 2], .non], .tup [.tup [.int 0, .int 1, .int 2], .tup [.int 0, .int 1, .int 2], .tup [.int 0, .int 1, .int 2], .tup [.int 0, .int 1, .int 2], .tup [.int 0, .int 1, .int 2]], .tup [.ref 8], .tup [.tup [.int 1, .int 0, .int (-2)]]], .lst [.non, .int 0, .int 7, .bl true, .str "2", .tup [.int 1]], .lst [.tup [.str "raised", .str "number", (u0__law_rooms_right_4_0 r0)], .tup [.str "raised", .str "room"], .tup [.str "raised", .str "number", (u0__law_rooms_right_6_0 r3)], .tup [.str "raised", .str "number", (u0__law_rooms_right_7_0 r3)], .tup [.str "raised", .str "number", .str "5"], .tup [.str "raised", .str "many", .int 24]]]
theorem r0__law_rooms_right_9 (a b c : Int) (r0 : Nat) (r2 : Nat) (r3 : Nat) (h_r0 : r0 < 8) (h_r2 : r2 < 14) (h_r3 : r3 < 6) : p__law_rooms_right_9 3 (S0__law_rooms_right_9 r0 r2 r3 ) (H0__law_rooms_right_9 a b c r0 r2 r3 ) = .ok (.nx (S0__law_rooms_right_10 r0 r2 r3 )) (H0__law_rooms_right_10 a b c r0 r2 r3 ) := by
  kernel_rfl
def S0__law_rooms_right_11 (r0 : Nat) (r2 : Nat) (r3 : Nat) : Sl := [some (.ref 3), some ((d0__law_rooms_right_0 r0 )), some (.ref 7), some ((d0__law_rooms_right_2 r0 r2 )), some ((d0__law_rooms_right_3 r0 r2 r3 )), some (.ref 12), none, none]
def H0__law_rooms_right_11 (a b c : Int) (r0 : Nat) (r2 : Nat) (r3 : Nat) : Hs := [x0_0, x0_1, x0_2, .lst [.int a, .int b, .int c], .lst [.non, .int 0, .int 7, .int (-1), .bl true, .str "3", .tup [.int 3], .int 1000000000000000000000000000000000000000000000000000000000000], .lst [.tup [.int 1, .int 0, .int 2]], .dk [], .lst [.non, .ref 5, .tup [.int 1, .int 0, .int 2], .tup [.tup [.int 1, .int 0]], .tup [.tup [.int 1, .int 1, .int 2]], .tup [.tup [.int 0, .int 1, .int 3]], .tup [.tup [.int 1, .int 0, .bl true]], .tup [.tup [.int 2, .int 1, .str "0"]], .ref 6], .lst [.int 1, .int 0, .int 2], .lst [.str "120", .tup [.tup [.int 1, .int 0, .int 2], .non], .tup [.tup [.int 0, .int 1, .int 2], .tup [.int 0, .int 1, .int 2], .tup [.int 0, .int 1, .int 2], .tup [.int 0, .int 1, .int 2], .tup [.int 0, .int 1, .int 2]], .tup [.ref 8], .tup [.tup [.int 1, .int 0, .int (-2)]]], .lst [.non, .ref 5, .tup [.int 1, .int 0, .int 2], .tup [.tup [.int 1, .int 0]], .tup [.tup [.int 1, .int 1, .int 2]], .tup [.tup [.int 0, .int 1, .int 3]], .tup [.tup [.int 1, .int 0, .bl true]], .tup [.tup [.int 2, .int 1, .str "0"]], .ref 6, .str "120", .tup [.tup [.int 1, .int 0, .int 2], .non], .tup [.tup [.int 0, .int 1, .int 2], .tup [.int 0, .int 1, .int 2], .tup [.int 0, .int 1, .int 2], .tup [.int 0, .int 1, .int 2], .tup [.int 0, .int 1, .int 2]], .tup [.ref 8], .tup [.tup [.int 1, .int 0, .int (-2)]]], .lst [.non, .int 0, .int 7, .bl true, .str "2", .tup [.int 1]], .lst [.tup [.str "raised", .str "number", (u0__law_rooms_right_4_0 r0)], .tup [.str "raised", .str "room"], .tup [.str "raised", .str "number", (u0__law_rooms_right_6_0 r3)], .tup [.str "raised", .str "number", (u0__law_rooms_right_7_0 r3)], .tup [.str "raised", .str "number", .str "5"], .tup [.str "raised", .str "many", .int 24], .tup [.str "let"]]]
theorem r0__law_rooms_right_10 (a b c : Int) (r0 : Nat) (r2 : Nat) (r3 : Nat) (h_r0 : r0 < 8) (h_r2 : r2 < 14) (h_r3 : r3 < 6) : p__law_rooms_right_10 3 (S0__law_rooms_right_10 r0 r2 r3 ) (H0__law_rooms_right_10 a b c r0 r2 r3 ) = .ok (.nx (S0__law_rooms_right_11 r0 r2 r3 )) (H0__law_rooms_right_11 a b c r0 r2 r3 ) := by
  kernel_rfl
def S0__law_rooms_right_12 (r0 : Nat) (r2 : Nat) (r3 : Nat) : Sl := [some (.ref 3), some ((d0__law_rooms_right_0 r0 )), some (.ref 7), some ((d0__law_rooms_right_2 r0 r2 )), some ((d0__law_rooms_right_3 r0 r2 r3 )), some (.ref 12), none, none]
def H0__law_rooms_right_12 (a b c : Int) (r0 : Nat) (r2 : Nat) (r3 : Nat) : Hs := [x0_0, x0_1, x0_2, .lst [.int a, .int b, .int c], .lst [.non, .int 0, .int 7, .int (-1), .bl true, .str "3", .tup [.int 3], .int 1000000000000000000000000000000000000000000000000000000000000], .lst [.tup [.int 1, .int 0, .int 2]], .dk [], .lst [.non, .ref 5, .tup [.int 1, .int 0, .int 2], .tup [.tup [.int 1, .int 0]], .tup [.tup [.int 1, .int 1, .int 2]], .tup [.tup [.int 0, .int 1, .int 3]], .tup [.tup [.int 1, .int 0, .bl true]], .tup [.tup [.int 2, .int 1, .str "0"]], .ref 6], .lst [.int 1, .int 0, .int 2], .lst [.str "120", .tup [.tup [.int 1, .int 0, .int 2], .non], .tup [.tup [.int 0, .int 1, .int 2], .tup [.int 0, .int 1, .int 2], .tup [.int 0, .int 1, .int 2], .tup [.int 0, .int 1, .int 2], .tup [.int 0, .int 1, .int 2]], .tup [.ref 8], .tup [.tup [.int 1, .int 0, .int (-2)]]], .lst [.non, .ref 5, .tup [.int 1, .int 0, .int 2], .tup [.tup [.int 1, .int 0]], .tup [.tup [.int 1, .int 1, .int 2]], .tup [.tup [.int 0, .int 1, .int 3]], .tup [.tup [.int 1, .int 0, .bl true]], .tup [.tup [.int 2, .int 1, .str "0"]], .ref 6, .str "120", .tup [.tup [.int 1, .int 0, .int 2], .non], .tup [.tup [.int 0, .int 1, .int 2], .tup [.int 0, .int 1, .int 2], .tup [.int 0, .int 1, .int 2], .tup [.int 0, .int 1, .int 2], .tup [.int 0, .int 1, .int 2]], .tup [.ref 8], .tup [.tup [.int 1, .int 0, .int (-2)]]], .lst [.non, .int 0, .int 7, .bl true, .str "2", .tup [.int 1]], .lst [.tup [.str "raised", .str "number", (u0__law_rooms_right_4_0 r0)], .tup [.str "raised", .str "room"], .tup [.str "raised", .str "number", (u0__law_rooms_right_6_0 r3)], .tup [.str "raised", .str "number", (u0__law_rooms_right_7_0 r3)], .tup [.str "raised", .str "number", .str "5"], .tup [.str "raised", .str "many", .int 24], .tup [.str "let"], .tup [.str "let"]]]
theorem r0__law_rooms_right_11 (a b c : Int) (r0 : Nat) (r2 : Nat) (r3 : Nat) (h_r0 : r0 < 8) (h_r2 : r2 < 14) (h_r3 : r3 < 6) : p__law_rooms_right_11 3 (S0__law_rooms_right_11 r0 r2 r3 ) (H0__law_rooms_right_11 a b c r0 r2 r3 ) = .ok (.nx (S0__law_rooms_right_12 r0 r2 r3 )) (H0__law_rooms_right_12 a b c r0 r2 r3 ) := by
  kernel_rfl
def u0__law_rooms_right_12_0 (r3 : Nat) : A := [.str "None", .str "0", .str "7", .str "True", .str "'2'", .str "(1,)"].getD r3 .non
def S0__law_rooms_right_13 (r0 : Nat) (r2 : Nat) (r3 : Nat) : Sl := [some (.ref 3), some ((d0__law_rooms_right_0 r0 )), some (.ref 7), some ((d0__law_rooms_right_2 r0 r2 )), some ((d0__law_rooms_right_3 r0 r2 r3 )), some (.ref 12), some (.tup [.str "raised", .str "number", (u0__law_rooms_right_12_0 r3)]), none]
def H0__law_rooms_right_13 (a b c : Int) (r0 : Nat) (r2 : Nat) (r3 : Nat) : Hs := [x0_0, x0_1, x0_2, .lst [.int a, .int b, .int c], .lst [.non, .int 0, .int 7, .int (-1), .bl true, .str "3", .tup [.int 3], .int 1000000000000000000000000000000000000000000000000000000000000], .lst [.tup [.int 1, .int 0, .int 2]], .dk [], .lst [.non, .ref 5, .tup [.int 1, .int 0, .int 2], .tup [.tup [.int 1, .int 0]], .tup [.tup [.int 1, .int 1, .int 2]], .tup [.tup [.int 0, .int 1, .int 3]], .tup [.tup [.int 1, .int 0, .bl true]], .tup [.tup [.int 2, .int 1, .str "0"]], .ref 6], .lst [.int 1, .int 0, .int 2], .lst [.str "120", .tup [.tup [.int 1, .int 0, .int 2], .non], .tup [.tup [.int 0, .int 1, .int 2], .tup [.int 0, .int 1, .int 2], .tup [.int 0, .int 1, .int 2], .tup [.int 0, .int 1, .int 2], .tup [.int 0, .int 1, .int 2]], .tup [.ref 8], .tup [.tup [.int 1, .int 0, .int (-2)]]], .lst [.non, .ref 5, .tup [.int 1, .int 0, .int 2], .tup [.tup [.int 1, .int 0]], .tup [.tup [.int 1, .int 1, .int 2]], .tup [.tup [.int 0, .int 1, .int 3]], .tup [.tup [.int 1, .int 0, .bl true]], .tup [.tup [.int 2, .int 1, .str "0"]], .ref 6, .str "120", .tup [.tup [.int 1, .int 0, .int 2], .non], .tup [.tup [.int 0, .int 1, .int 2], .tup [.int 0, .int 1, .int 2], .tup [.int 0, .int 1, .int 2], .tup [.int 0, .int 1, .int 2], .tup [.int 0, .int 1, .int 2]], .tup [.ref 8], .tup [.tup [.int 1, .int 0, .int (-2)]]], .lst [.non, .int 0, .int 7, .bl true, .str "2", .tup [.int 1]], .lst [.tup [.str "raised", .str "number", (u0__law_rooms_right_4_0 r0)], .tup [.str "raised", .str "room"], .tup [.str "raised", .str "number", (u0__law_rooms_right_6_0 r3)], .tup [.str "raised", .str "number", (u0__law_rooms_right_7_0 r3)], .tup [.str "raised", .str "number", .str "5"], .tup [.str "raised", .str "many", .int 24], .tup [.str "let"], .tup [.str "let"]]]
theorem r0__law_rooms_right_12 (a b c : Int) (r0 : Nat) (r2 : Nat) (r3 : Nat) (h_r0 : r0 < 8) (h_r2 : r2 < 14) (h_r3 : r3 < 6) : p__law_rooms_right_12 3 (S0__law_rooms_right_12 r0 r2 r3 ) (H0__law_rooms_right_12 a b c r0 r2 r3 ) = .ok (.nx (S0__law_rooms_right_13 r0 r2 r3 )) (H0__law_rooms_right_13 a b c r0 r2 r3 ) := by
  rcases alt0 h_r3 with rfl | rfl | rfl | rfl | rfl | rfl <;> kernel_rfl
def u0__law_rooms_right_13_0 (r0 : Nat) : A := [.str "None", .str "0", .str "7", .str "-1", .str "True", .str "'3'", .str "(3,)", .str "1000000000000000000000000000000000000000000000000000000000000"].getD r0 .non
def S0__law_rooms_right_14 (r0 : Nat) (r2 : Nat) (r3 : Nat) : Sl := [some (.ref 3), some ((d0__law_rooms_right_0 r0 )), some (.ref 7), some ((d0__law_rooms_right_2 r0 r2 )), some ((d0__law_rooms_right_3 r0 r2 r3 )), some (.ref 12), some (.tup [.str "raised", .str "number", (u0__law_rooms_right_12_0 r3)]), some (.ref 13)]
def H0__law_rooms_right_14 (a b c : Int) (r0 : Nat) (r2 : Nat) (r3 : Nat) : Hs := [x0_0, x0_1, x0_2, .lst [.int a, .int b, .int c], .lst [.non, .int 0, .int 7, .int (-1), .bl true, .str "3", .tup [.int 3], .int 1000000000000000000000000000000000000000000000000000000000000], .lst [.tup [.int 1, .int 0, .int 2]], .dk [], .lst [.non, .ref 5, .tup [.int 1, .int 0, .int 2], .tup [.tup [.int 1, .int 0]], .tup [.tup [.int 1, .int 1, .int 2]], .tup [.tup [.int 0, .int 1, .int 3]], .tup [.tup [.int 1, .int 0, .bl true]], .tup [.tup [.int 2, .int 1, .str "0"]], .ref 6], .lst [.int 1, .int 0, .int 2], .lst [.str "120", .tup [.tup [.int 1, .int 0, .int 2], .non], .tup [.tup [.int 0, .int 1, .int 2], .tup [.int 0, .int 1, .int 2], .tup [.int 0, .int 1, .int 2], .tup [.int 0, .int 1, .int 2], .tup [.int 0, .int 1, .int 2]], .tup [.ref 8], .tup [.tup [.int 1, .int 0, .int (-2)]]], .lst [.non, .ref 5, .tup [.int 1, .int 0, .int 2], .tup [.tup [.int 1, .int 0]], .tup [.tup [.int 1, .int 1, .int 2]], .tup [.tup [.int 0, .int 1, .int 3]], .tup [.tup [.int 1, .int 0, .bl true]], .tup [.tup [.int 2, .int 1, .str "0"]], .ref 6, .str "120", .tup [.tup [.int 1, .int 0, .int 2], .non], .tup [.tup [.int 0, .int 1, .int 2], .tup [.int 0, .int 1, .int 2], .tup [.int 0, .int 1, .int 2], .tup [.int 0, .int 1, .int 2], .tup [.int 0, .int 1, .int 2]], .tup [.ref 8], .tup [.tup [.int 1, .int 0, .int (-2)]]], .lst [.non, .int 0, .int 7, .bl true, .str "2", .tup [.int 1]], .lst [.tup [.str "raised", .str "number", (u0__law_rooms_right_4_0 r0)], .tup [.str "raised", .str "room"], .tup [.str "raised", .str "number", (u0__law_rooms_right_6_0 r3)], .tup [.str "raised", .str "number", (u0__law_rooms_right_7_0 r3)], .tup [.str "raised", .str "number", .str "5"], .tup [.str "raised", .str "many", .int 24], .tup [.str "let"], .tup [.str "let"]], .lst [.tup [.str "raised", .str "number", (u0__law_rooms_right_13_0 r0)], .tup [.str "raised", .str "room"], .tup [.str "raised", .str "number", (u0__law_rooms_right_12_0 r3)], .tup [.str "raised", .str "number", (u0__law_rooms_right_12_0 r3)], .tup [.str "raised", .str "number", .str "5"]]]
theorem r0__law_rooms_right_13 (a b c : Int) (r0 : Nat) (r2 : Nat) (r3 : Nat) (h_r0 : r0 < 8) (h_r2 : r2 < 14) (h_r3 : r3 < 6) : p__law_rooms_right_13 3 (S0__law_rooms_right_13 r0 r2 r3 ) (H0__law_rooms_right_13 a b c r0 r2 r3 ) = .ok (.nx (S0__law_rooms_right_14 r0 r2 r3 )) (H0__law_rooms_right_14 a b c r0 r2 r3 ) := by
  rcases alt0 h_r0 with rfl | rfl | rfl | rfl | rfl | rfl | rfl | rfl <;> kernel_rfl
theorem r0__law_rooms_right_14 (a b c : Int) (r0 : Nat) (r2 : Nat) (r3 : Nat) (h_r0 : r0 < 8) (h_r2 : r2 < 14) (h_r3 : r3 < 6) : retT 4 (p__law_rooms_right_14 3 (S0__law_rooms_right_14 r0 r2 r3 ) (H0__law_rooms_right_14 a b c r0 r2 r3 )) = some (.bl true, H0__law_rooms_right_0 a b c ) := by
  rcases alt0 h_r0 with rfl | rfl | rfl | rfl | rfl | rfl | rfl | rfl
  · rcases alt0 h_r3 with rfl | rfl | rfl | rfl | rfl | rfl <;> kernel_rfl
  · rcases alt0 h_r3 with rfl | rfl | rfl | rfl | rfl | rfl <;> kernel_rfl
  · rcases alt0 h_r3 with rfl | rfl | rfl | rfl | rfl | rfl <;> kernel_rfl
  · rcases alt0 h_r3 with rfl | rfl | rfl | rfl | rfl | rfl <;> kernel_rfl
  · rcases alt0 h_r3 with rfl | rfl | rfl | rfl | rfl | rfl <;> kernel_rfl
  · rcases alt0 h_r3 with rfl | rfl | rfl | rfl | rfl | rfl <;> kernel_rfl
  · rcases alt0 h_r3 with rfl | rfl | rfl | rfl | rfl | rfl <;> kernel_rfl
  · rcases alt0 h_r3 with rfl | rfl | rfl | rfl | rfl | rfl <;> kernel_rfl
theorem right__law_rooms_right (a b c : Int) (k : Nat) (hc : Cn k c) (hk : k < 1000) : ∃ a' c', Cn (k + 3) c' ∧ trimF (lenF 1 f__law_rooms_right) [.ref 3] 3 (H0__law_rooms_right_0 a b c) = .ok (.bl true) (H0__law_rooms_right_0 a' b c') := by
  rw [trim_len rfl]
  refine body_retT (m := 4) (n := 8) (b := b__law_rooms_right) (H := fun a c => H0__law_rooms_right_0 a b c) ?_ (by kernel_rfl) (fun _ _ => by kernel_rfl)
  show RetT 4 (k + 3) (fun a c => H0__law_rooms_right_0 a b c) (q__law_rooms_right_0 3 (S0__law_rooms_right_0 ) (H0__law_rooms_right_0 a b c))
  refine draw_stepI choose_ok (P := RetT 4 (k + 3) (fun a c => H0__law_rooms_right_0 a b c)) (k := k + 0) (i := 1) (ti := 0) (t := 3) (a := a) (b := b) (fm := m__law_rooms_right_0) (q := q__law_rooms_right_1) (xs := (al0__law_rooms_right_0 )) (s' := fun r0 => S0__law_rooms_right_1 r0 ) (h' := fun r0 a c => H0__law_rooms_right_1 a b c r0 ) (r0__law_rooms_right_0 a b c ) (by kernel_rfl) (by kernel_rfl) (by kernel_rfl) hc (by omega) (by kernel_rfl) (fun _ => by kernel_rfl) (by kernel_rfl) (fun _ => by kernel_rfl) (fun _ _ _ => by kernel_rfl) (fun r0 a c h_r0 hc => ?_)
  refine step (P := RetT 4 (k + 3) (fun a c => H0__law_rooms_right_0 a b c)) (p := p__law_rooms_right_1) (q := q__law_rooms_right_2) (r0__law_rooms_right_1 a b c r0 h_r0 ) ?_
  refine draw_stepI choose_ok (P := RetT 4 (k + 3) (fun a c => H0__law_rooms_right_0 a b c)) (k := k + 1) (i := 3) (ti := 0) (t := 3) (a := a) (b := b) (fm := m__law_rooms_right_2) (q := q__law_rooms_right_3) (xs := (al0__law_rooms_right_2 r0 )) (s' := fun r2 => S0__law_rooms_right_3 r0 r2 ) (h' := fun r2 a c => H0__law_rooms_right_3 a b c r0 r2 ) (r0__law_rooms_right_2 a b c r0 h_r0 ) (by kernel_rfl) (by kernel_rfl) (by kernel_rfl) hc (by omega) (by kernel_rfl) (fun _ => by kernel_rfl) (by kernel_rfl) (fun _ => by kernel_rfl) (fun _ _ _ => by kernel_rfl) (fun r2 a c h_r2 hc => ?_)
  refine draw_stepI choose_ok (P := RetT 4 (k + 3) (fun a c => H0__law_rooms_right_0 a b c)) (k := k + 2) (i := 4) (ti := 0) (t := 3) (a := a) (b := b) (fm := m__law_rooms_right_3) (q := q__law_rooms_right_4) (xs := (al0__law_rooms_right_3 r0 r2 )) (s' := fun r3 => S0__law_rooms_right_4 r0 r2 r3 ) (h' := fun r3 a c => H0__law_rooms_right_4 a b c r0 r2 r3 ) (r0__law_rooms_right_3 a b c r0 r2 h_r0 h_r2 ) (by kernel_rfl) (by kernel_rfl) (by kernel_rfl) hc (by omega) (by kernel_rfl) (fun _ => by kernel_rfl) (by kernel_rfl) (fun _ => by kernel_rfl) (fun _ _ _ => by kernel_rfl) (fun r3 a c h_r3 hc => ?_)
  refine step (P := RetT 4 (k + 3) (fun a c => H0__law_rooms_right_0 a b c)) (p := p__law_rooms_right_4) (q := q__law_rooms_right_5) (r0__law_rooms_right_4 a b c r0 r2 r3 h_r0 h_r2 h_r3 ) ?_
  refine step (P := RetT 4 (k + 3) (fun a c => H0__law_rooms_right_0 a b c)) (p := p__law_rooms_right_5) (q := q__law_rooms_right_6) (r0__law_rooms_right_5 a b c r0 r2 r3 h_r0 h_r2 h_r3 ) ?_
  refine step (P := RetT 4 (k + 3) (fun a c => H0__law_rooms_right_0 a b c)) (p := p__law_rooms_right_6) (q := q__law_rooms_right_7) (r0__law_rooms_right_6 a b c r0 r2 r3 h_r0 h_r2 h_r3 ) ?_
  refine step (P := RetT 4 (k + 3) (fun a c => H0__law_rooms_right_0 a b c)) (p := p__law_rooms_right_7) (q := q__law_rooms_right_8) (r0__law_rooms_right_7 a b c r0 r2 r3 h_r0 h_r2 h_r3 ) ?_
  refine step (P := RetT 4 (k + 3) (fun a c => H0__law_rooms_right_0 a b c)) (p := p__law_rooms_right_8) (q := q__law_rooms_right_9) (r0__law_rooms_right_8 a b c r0 r2 r3 h_r0 h_r2 h_r3 ) ?_
  refine step (P := RetT 4 (k + 3) (fun a c => H0__law_rooms_right_0 a b c)) (p := p__law_rooms_right_9) (q := q__law_rooms_right_10) (r0__law_rooms_right_9 a b c r0 r2 r3 h_r0 h_r2 h_r3 ) ?_
  refine step (P := RetT 4 (k + 3) (fun a c => H0__law_rooms_right_0 a b c)) (p := p__law_rooms_right_10) (q := q__law_rooms_right_11) (r0__law_rooms_right_10 a b c r0 r2 r3 h_r0 h_r2 h_r3 ) ?_
  refine step (P := RetT 4 (k + 3) (fun a c => H0__law_rooms_right_0 a b c)) (p := p__law_rooms_right_11) (q := q__law_rooms_right_12) (r0__law_rooms_right_11 a b c r0 r2 r3 h_r0 h_r2 h_r3 ) ?_
  refine step (P := RetT 4 (k + 3) (fun a c => H0__law_rooms_right_0 a b c)) (p := p__law_rooms_right_12) (q := q__law_rooms_right_13) (r0__law_rooms_right_12 a b c r0 r2 r3 h_r0 h_r2 h_r3 ) ?_
  refine step (P := RetT 4 (k + 3) (fun a c => H0__law_rooms_right_0 a b c)) (p := p__law_rooms_right_13) (q := q__law_rooms_right_14) (r0__law_rooms_right_13 a b c r0 r2 r3 h_r0 h_r2 h_r3 ) ?_
  exact ⟨a, c, hc, (r0__law_rooms_right_14 a b c r0 r2 r3 h_r0 h_r2 h_r3 )⟩
def S0__law_members_right_0 : Sl := [some (.ref 3), some (.ref 0), none, none, none, none, none, none, none]
def H0__law_members_right_0 (a b c : Int) : Hs := [x0_0, x0_1, x0_2, .lst [.int a, .int b, .int c]]
def G0__law_members_right_0 (a b c : Int) : Hs := [x0_0, x0_1, x0_2, .lst [.int a, .int b, .int c], .lst [.int 0], .lst [.non, .int (-1), .int 6, .bl true, .str "1", .tup [.int 1], .int 1000000000000000000000000000000000000000000000000000000000000, .ref 4]]
def al0__law_members_right_0 : List A := [.non, .int (-1), .int 6, .bl true, .str "1", .tup [.int 1], .int 1000000000000000000000000000000000000000000000000000000000000, .ref 4]
def d0__law_members_right_0 (r0 : Nat) : A := (al0__law_members_right_0 ).getD r0 .non
def S0__law_members_right_1 (r0 : Nat) : Sl := [some (.ref 3), some (.ref 0), some ((d0__law_members_right_0 r0 )), none, none, none, none, none, none]
def H0__law_members_right_1 (a b c : Int) (r0 : Nat) : Hs := [x0_0, x0_1, x0_2, .lst [.int a, .int b, .int c], .lst [.int 0], .lst [.non, .int (-1), .int 6, .bl true, .str "1", .tup [.int 1], .int 1000000000000000000000000000000000000000000000000000000000000, .ref 4]]
theorem r0__law_members_right_0 (a b c : Int) : m__law_members_right_0 3 (S0__law_members_right_0 ) (H0__law_members_right_0 a b c ) = .ok (.ref 5) (G0__law_members_right_0 a b c ) := by kernel_rfl
def G0__law_members_right_1 (a b c : Int) (r0 : Nat) : Hs := [x0_0, x0_1, x0_2, .lst [.int a, .int b, .int c], .lst [.int 0], .lst [.non, .int (-1), .int 6, .bl true, .str "1", .tup [.int 1], .int 1000000000000000000000000000000000000000000000000000000000000, .ref 4], .lst [.non, .int 21, .int (-21), .bl false, .str "1", .tup [.int 1], .int 1000000000000000000000000000000000000000000000000000000000000]]
def al0__law_members_right_1 (r0 : Nat) : List A := [.non, .int 21, .int (-21), .bl false, .str "1", .tup [.int 1], .int 1000000000000000000000000000000000000000000000000000000000000]
def d0__law_members_right_1 (r0 : Nat) (r1 : Nat) : A := (al0__law_members_right_1 r0 ).getD r1 .non
def S0__law_members_right_2 (r0 : Nat) (r1 : Nat) : Sl := [some (.ref 3), some (.ref 0), some ((d0__law_members_right_0 r0 )), some ((d0__law_members_right_1 r0 r1 )), none, none, none, none, none]
def H0__law_members_right_2 (a b c : Int) (r0 : Nat) (r1 : Nat) : Hs := [x0_0, x0_1, x0_2, .lst [.int a, .int b, .int c], .lst [.int 0], .lst [.non, .int (-1), .int 6, .bl true, .str "1", .tup [.int 1], .int 1000000000000000000000000000000000000000000000000000000000000, .ref 4], .lst [.non, .int 21, .int (-21), .bl false, .str "1", .tup [.int 1], .int 1000000000000000000000000000000000000000000000000000000000000]]
theorem r0__law_members_right_1 (a b c : Int) (r0 : Nat) (h_r0 : r0 < 8) : m__law_members_right_1 3 (S0__law_members_right_1 r0 ) (H0__law_members_right_1 a b c r0 ) = .ok (.ref 6) (G0__law_members_right_1 a b c r0 ) := by kernel_rfl
def S0__law_members_right_3 (r0 : Nat) (r1 : Nat) : Sl := [some (.ref 3), some (.ref 0), some ((d0__law_members_right_0 r0 )), some ((d0__law_members_right_1 r0 r1 )), some (.ref 9), none, none, none, none]
def H0__law_members_right_3 (a b c : Int) (r0 : Nat) (r1 : Nat) : Hs := [x0_0, x0_1, x0_2, .lst [.int a, .int b, .int c], .lst [.int 0], .lst [.non, .int (-1), .int 6, .bl true, .str "1", .tup [.int 1], .int 1000000000000000000000000000000000000000000000000000000000000, .ref 4], .lst [.non, .int 21, .int (-21), .bl false, .str "1", .tup [.int 1], .int 1000000000000000000000000000000000000000000000000000000000000], .lst [.int 1, .int 2, .int 0], .dk [], .lst [.non, .int 3, .tup [.int 1, .int 2], .tup [.int 0, .int 1, .int 2, .int 3], .ref 7, .tup [.int 1, .int 2, .int 2], .tup [.bl true, .int 2, .int 0], .str "120", .ref 8, .tup [.tup [.int 1, .int 2, .int 0]]]]
theorem r0__law_members_right_2 (a b c : Int) (r0 : Nat) (r1 : Nat) (h_r0 : r0 < 8) (h_r1 : r1 < 7) : p__law_members_right_2 3 (S0__law_members_right_2 r0 r1 ) (H0__law_members_right_2 a b c r0 r1 ) = .ok (.nx (S0__law_members_right_3 r0 r1 )) (H0__law_members_right_3 a b c r0 r1 ) := by
  kernel_rfl
def G0__law_members_right_3 (a b c : Int) (r0 : Nat) (r1 : Nat) : Hs := [x0_0, x0_1, x0_2, .lst [.int a, .int b, .int c], .lst [.int 0], .lst [.non, .int (-1), .int 6, .bl true, .str "1", .tup [.int 1], .int 1000000000000000000000000000000000000000000000000000000000000, .ref 4], .lst [.non, .int 21, .int (-21), .bl false, .str "1", .tup [.int 1], .int 1000000000000000000000000000000000000000000000000000000000000], .lst [.int 1, .int 2, .int 0], .dk [], .lst [.non, .int 3, .tup [.int 1, .int 2], .tup [.int 0, .int 1, .int 2, .int 3], .ref 7, .tup [.int 1, .int 2, .int 2], .tup [.bl true, .int 2, .int 0], .str "120", .ref 8, .tup [.tup [.int 1, .int 2, .int 0]]]]
def al0__law_members_right_3 (r0 : Nat) (r1 : Nat) : List A := [.non, .int 3, .tup [.int 1, .int 2], .tup [.int 0, .int 1, .int 2, .int 3], .ref 7, .tup [.int 1, .int 2, .int 2], .tup [.bl true, .int 2, .int 0], .str "120", .ref 8, .tup [.tup [.int 1, .int 2, .int 0]]]
def d0__law_members_right_3 (r0 : Nat) (r1 : Nat) (r3 : Nat) : A := (al0__law_members_right_3 r0 r1 ).getD r3 .non
def S0__law_members_right_4 (r0 : Nat) (r1 : Nat) (r3 : Nat) : Sl := [some (.ref 3), some (.ref 0), some ((d0__law_members_right_0 r0 )), some ((d0__law_members_right_1 r0 r1 )), some (.ref 9), some ((d0__law_members_right_3 r0 r1 r3 )), none, none, none]
def H0__law_members_right_4 (a b c : Int) (r0 : Nat) (r1 : Nat) (r3 : Nat) : Hs := [x0_0, x0_1, x0_2, .lst [.int a, .int b, .int c], .lst [.int 0], .lst [.non, .int (-1), .int 6, .bl true, .str "1", .tup [.int 1], .int 1000000000000000000000000000000000000000000000000000000000000, .ref 4], .lst [.non, .int 21, .int (-21), .bl false, .str "1", .tup [.int 1], .int 1000000000000000000000000000000000000000000000000000000000000], .lst [.int 1, .int 2, .int 0], .dk [], .lst [.non, .int 3, .tup [.int 1, .int 2], .tup [.int 0, .int 1, .int 2, .int 3], .ref 7, .tup [.int 1, .int 2, .int 2], .tup [.bl true, .int 2, .int 0], .str "120", .ref 8, .tup [.tup [.int 1, .int 2, .int 0]]]]
theorem r0__law_members_right_3 (a b c : Int) (r0 : Nat) (r1 : Nat) (h_r0 : r0 < 8) (h_r1 : r1 < 7) : m__law_members_right_3 3 (S0__law_members_right_3 r0 r1 ) (H0__law_members_right_3 a b c r0 r1 ) = .ok (.ref 9) (G0__law_members_right_3 a b c r0 r1 ) := by kernel_rfl
def u0__law_members_right_4_0 (r0 : Nat) : A := [.str "None", .str "-1", .str "6", .str "True", .str "'1'", .str "(1,)", .str "1000000000000000000000000000000000000000000000000000000000000", .str "[0]"].getD r0 .non
def S0__law_members_right_5 (r0 : Nat) (r1 : Nat) (r3 : Nat) : Sl := [some (.ref 3), some (.ref 0), some ((d0__law_members_right_0 r0 )), some ((d0__law_members_right_1 r0 r1 )), some (.ref 9), some ((d0__law_members_right_3 r0 r1 r3 )), some (.ref 10), none, none]
def H0__law_members_right_5 (a b c : Int) (r0 : Nat) (r1 : Nat) (r3 : Nat) : Hs := [x0_0, x0_1, x0_2, .lst [.int a, .int b, .int c], .lst [.int 0], .lst [.non, .int (-1), .int 6, .bl true, .str "1", .tup [.int 1], .int 1000000000000000000000000000000000000000000000000000000000000, .ref 4], .lst [.non, .int 21, .int (-21), .bl false, .str "1", .tup [.int 1], .int 1000000000000000000000000000000000000000000000000000000000000], .lst [.int 1, .int 2, .int 0], .dk [], .lst [.non, .int 3, .tup [.int 1, .int 2], .tup [.int 0, .int 1, .int 2, .int 3], .ref 7, .tup [.int 1, .int 2, .int 2], .tup [.bl true, .int 2, .int 0], .str "120", .ref 8, .tup [.tup [.int 1, .int 2, .int 0]]], .lst [.tup [.str "raised", .str "number", (u0__law_members_right_4_0 r0)]]]
theorem r0__law_members_right_4 (a b c : Int) (r0 : Nat) (r1 : Nat) (r3 : Nat) (h_r0 : r0 < 8) (h_r1 : r1 < 7) (h_r3 : r3 < 10) : p__law_members_right_4 3 (S0__law_members_right_4 r0 r1 r3 ) (H0__law_members_right_4 a b c r0 r1 r3 ) = .ok (.nx (S0__law_members_right_5 r0 r1 r3 )) (H0__law_members_right_5 a b c r0 r1 r3 ) := by
  rcases alt0 h_r0 with rfl | rfl | rfl | rfl | rfl | rfl | rfl | rfl <;> kernel_rfl
def u0__law_members_right_5_0 (r0 : Nat) : A := [.str "None", .str "-1", .str "6", .str "True", .str "'1'", .str "(1,)", .str "1000000000000000000000000000000000000000000000000000000000000", .str "[0]"].getD r0 .non
def S0__law_members_right_6 (r0 : Nat) (r1 : Nat) (r3 : Nat) : Sl := [some (.ref 3), some (.ref 0), some ((d0__law_members_right_0 r0 )), some ((d0__law_members_right_1 r0 r1 )), some (.ref 9), some ((d0__law_members_right_3 r0 r1 r3 )), some (.ref 10), none, none]
def H0__law_members_right_6 (a b c : Int) (r0 : Nat) (r1 : Nat) (r3 : Nat) : Hs := [x0_0, x0_1, x0_2, .lst [.int a, .int b, .int c], .lst [.int 0], .lst [.non, .int (-1), .int 6, .bl true, .str "1", .tup [.int 1], .int 1000000000000000000000000000000000000000000000000000000000000, .ref 4], .lst [.non, .int 21, .int (-21), .bl false, .str "1", .tup [.int 1], .int 1000000000000000000000000000000000000000000000000000000000000], .lst [.int 1, .int 2, .int 0], .dk [], .lst [.non, .int 3, .tup [.int 1, .int 2], .tup [.int 0, .int 1, .int 2, .int 3], .ref 7, .tup [.int 1, .int 2, .int 2], .tup [.bl true, .int 2, .int 0], .str "120", .ref 8, .tup [.tup [.int 1, .int 2, .int 0]]], .lst [.tup [.str "raised", .str "number", (u0__law_members_right_4_0 r0)], .tup [.str "raised", .str "number", (u0__law_members_right_5_0 r0)]]]
theorem r0__law_members_right_5 (a b c : Int) (r0 : Nat) (r1 : Nat) (r3 : Nat) (h_r0 : r0 < 8) (h_r1 : r1 < 7) (h_r3 : r3 < 10) : p__law_members_right_5 3 (S0__law_members_right_5 r0 r1 r3 ) (H0__law_members_right_5 a b c r0 r1 r3 ) = .ok (.nx (S0__law_members_right_6 r0 r1 r3 )) (H0__law_members_right_6 a b c r0 r1 r3 ) := by
  rcases alt0 h_r0 with rfl | rfl | rfl | rfl | rfl | rfl | rfl | rfl <;> kernel_rfl
def u0__law_members_right_6_0 (r0 : Nat) : A := [.str "None", .str "-1", .str "6", .str "True", .str "'1'", .str "(1,)", .str "1000000000000000000000000000000000000000000000000000000000000", .str "[0]"].getD r0 .non
def S0__law_members_right_7 (r0 : Nat) (r1 : Nat) (r3 : Nat) : Sl := [some (.ref 3), some (.ref 0), some ((d0__law_members_right_0 r0 )), some ((d0__law_members_right_1 r0 r1 )), some (.ref 9), some ((d0__law_members_right_3 r0 r1 r3 )), some (.ref 10), none, none]
def H0__law_members_right_7 (a b c : Int) (r0 : Nat) (r1 : Nat) (r3 : Nat) : Hs := [x0_0, x0_1, x0_2, .lst [.int a, .int b, .int c], .lst [.int 0], .lst [.non, .int (-1), .int 6, .bl true, .str "1", .tup [.int 1], .int 1000000000000000000000000000000000000000000000000000000000000, .ref 4], .lst [.non, .int 21, .int (-21), .bl false, .str "1", .tup [.int 1], .int 1000000000000000000000000000000000000000000000000000000000000], .lst [.int 1, .int 2, .int 0], .dk [], .lst [.non, .int 3, .tup [.int 1, .int 2], .tup [.int 0, .int 1, .int 2, .int 3], .ref 7, .tup [.int 1, .int 2, .int 2], .tup [.bl true, .int 2, .int 0], .str "120", .ref 8, .tup [.tup [.int 1, .int 2, .int 0]]], .lst [.tup [.str "raised", .str "number", (u0__law_members_right_4_0 r0)], .tup [.str "raised", .str "number", (u0__law_members_right_5_0 r0)], .tup [.str "raised", .str "number", (u0__law_members_right_6_0 r0)]]]
theorem r0__law_members_right_6 (a b c : Int) (r0 : Nat) (r1 : Nat) (r3 : Nat) (h_r0 : r0 < 8) (h_r1 : r1 < 7) (h_r3 : r3 < 10) : p__law_members_right_6 3 (S0__law_members_right_6 r0 r1 r3 ) (H0__law_members_right_6 a b c r0 r1 r3 ) = .ok (.nx (S0__law_members_right_7 r0 r1 r3 )) (H0__law_members_right_7 a b c r0 r1 r3 ) := by
  rcases alt0 h_r0 with rfl | rfl | rfl | rfl | rfl | rfl | rfl | rfl <;> kernel_rfl
def u0__law_members_right_7_0 (r0 : Nat) : A := [.str "None", .str "-1", .str "6", .str "True", .str "'1'", .str "(1,)", .str "1000000000000000000000000000000000000000000000000000000000000", .str "[0]"].getD r0 .non
def S0__law_members_right_8 (r0 : Nat) (r1 : Nat) (r3 : Nat) : Sl := [some (.ref 3), some (.ref 0), some ((d0__law_members_right_0 r0 )), some ((d0__law_members_right_1 r0 r1 )), some (.ref 9), some ((d0__law_members_right_3 r0 r1 r3 )), some (.ref 10), none, none]
def H0__law_members_right_8 (a b c : Int) (r0 : Nat) (r1 : Nat) (r3 : Nat) : Hs := [x0_0, x0_1, x0_2, .lst [.int a, .int b, .int c], .lst [.int 0], .lst [.non, .int (-1), .int 6, .bl true, .str "1", .tup [.int 1], .int 1000000000000000000000000000000000000000000000000000000000000, .ref 4], .lst [.non, .int 21, .int (-21), .bl false, .str "1", .tup [.int 1], .int 1000000000000000000000000000000000000000000000000000000000000], .lst [.int 1, .int 2, .int 0], .dk [], .lst [.non, .int 3, .tup [.int 1, .int 2], .tup [.int 0, .int 1, .int 2, .int 3], .ref 7, .tup [.int 1, .int 2, .int 2], .tup [.bl true, .int 2, .int 0], .str "120", .ref 8, .tup [.tup [.int 1, .int 2, .int 0]]], .lst [.tup [.str "raised", .str "number", (u0__law_members_right_4_0 r0)], .tup [.str "raised", .str "number", (u0__law_members_right_5_0 r0)], .tup [.str "raised", .str "number", (u0__law_members_right_6_0 r0)], .tup [.str "raised", .str "number", (u0__law_members_right_7_0 r0)]]]
theorem r0__law_members_right_7 (a b c : Int) (r0 : Nat) (r1 : Nat) (r3 : Nat) (h_r0 : r0 < 8) (h_r1 : r1 < 7) (h_r3 : r3 < 10) : p__law_members_right_7 3 (S0__law_members_right_7 r0 r1 r3 ) (H0__law_members_right_7 a b c r0 r1 r3 ) = .ok (.nx (S0__law_members_right_8 r0 r1 r3 )) (H0__law_members_right_8 a b c r0 r1 r3 ) := by
  rcases alt0 h_r0 with rfl | rfl | rfl | rfl | rfl | rfl | rfl | rfl <;> kernel_rfl
def u0__law_members_right_8_0 (r0 : Nat) : A := [.str "None", .str "-1", .str "6", .str "True", .str "'1'", .str "(1,)", .str "1000000000000000000000000000000000000000000000000000000000000", .str "[0]"].getD r0 .non
def S0__law_members_right_9 (r0 : Nat) (r1 : Nat) (r3 : Nat) : Sl := [some (.ref 3), some (.ref 0), some ((d0__law_members_right_0 r0 )), some ((d0__law_members_right_1 r0 r1 )), some (.ref 9), some ((d0__law_members_right_3 r0 r1 r3 )), some (.ref 10), none, none]
def H0__law_members_right_9 (a b c : Int) (r0 : Nat) (r1 : Nat) (r3 : Nat) : Hs := [x0_0, x0_1, x0_2, .lst [.int a, .int b, .int c], .lst [.int 0], .lst [.non, .int (-1), .int 6, .bl true, .str "1", .tup [.int 1], .int 1000000000000000000000000000000000000000000000000000000000000, .ref 4], .lst [.non, .int 21, .int (-21), .bl false, .str "1", .tup [.int 1], .int 1000000000000000000000000000000000000000000000000000000000000], .lst [.int 1, .int 2, .int 0], .dk [], .lst [.non, .int 3, .tup [.int 1, .int 2], .tup [.int 0, .int 1, .int 2, .int 3], .ref 7, .tup [.int 1, .int 2, .int 2], .tup [.bl true, .int 2, .int 0], .str "120", .ref 8, .tup [.tup [.int 1, .int 2, .int 0]]], .lst [.tup [.str "raised", .str "number", (u0__law_members_right_4_0 r0)], .tup [.str "raised", .str "number", (u0__law_members_right_5_0 r0)], .tup [.str "raised", .str "number", (u0__law_members_right_6_0 r0)], .tup [.str "raised", .str "number", (u0__law_members_right_7_0 r0)], .tup [.str "raised", .str "number", (u0__law_members_right_8_0 r0)]]]
theorem r0__law_members_right_8 (a b c : Int) (r0 : Nat) (r1 : Nat) (r3 : Nat) (h_r0 : r0 < 8) (h_r1 : r1 < 7) (h_r3 : r3 < 10) : p__law_members_right_8 3 (S0__law_members_right_8 r0 r1 r3 ) (H0__law_members_right_8 a b c r0 r1 r3 ) = .ok (.nx (S0__law_members_right_9 r0 r1 r3 )) (H0__law_members_right_9 a b c r0 r1 r3 ) := by
  rcases alt0 h_r0 with rfl | rfl | rfl | rfl | rfl | rfl | rfl | rfl <;> kernel_rfl
def u0__law_members_right_9_0 (r1 : Nat) : A := [.str "None", .str "21", .str "-21", .str "False", .str "'1'", .str "(1,)", .str "1000000000000000000000000000000000000000000000000000000000000"].getD r1 .non
def S0__law_members_right_10 (r0 : Nat) (r1 : Nat) (r3 : Nat) : Sl := [some (.ref 3), some (.ref 0), some ((d0__law_members_right_0 r0 )), some ((d0__law_members_right_1 r0 r1 )), some (.ref 9), some ((d0__law_members_right_3 r0 r1 r3 )), some (.ref 10), none, none]
def H0__law_members_right_10 (a b c : Int) (r0 : Nat) (r1 : Nat) (r3 : Nat) : Hs := [x0_0, x0_1, x0_2, .lst [.int a, .int b, .int c], .lst [.int 0], .lst [.non, .int (-1), .int 6, .bl true, .str "1", .tup [.int 1], .int 1000000000000000000000000000000000000000000000000000000000000, .ref 4], .lst [.non, .int 21, .int (-21), .bl false, .str "1", .tup [.int 1], .int 1000000000000000000000000000000000000000000000000000000000000], .lst [.int 1, .int 2, .int 0], .dk [], .lst [.non, .int 3, .tup [.int 1, .int 2], .tup [.int 0, .int 1, .int 2, .int 3], .ref 7, .tup [.int 1, .int 2, .int 2], .tup [.bl true, .int 2, .int 0], .str "120", .ref 8, .tup [.tup [.int 1, .int 2, .int 0]]], .lst [.tup [.str "raised", .str "number", (u0__law_members_right_4_0 r0)], .tup [.str "raised", .str "number", (u0__law_members_right_5_0 r0)], .tup [.str "raised", .str "number", (u0__law_members_right_6_0 r0)], .tup [.str "raised", .str "number", (u0__law_members_right_7_0 r0)], .tup [.str "raised", .str "number", (u0__law_members_right_8_0 r0)], .tup [.str "raised", .str "number", (u0__law_members_right_9_0 r1)]]]
theorem r0__law_members_right_9 (a b c : Int) (r0 : Nat) (r1 : Nat) (r3 : Nat) (h_r0 : r0 < 8) (h_r1 : r1 < 7) (h_r3 : r3 < 10) : p__law_members_right_9 3 (S0__law_members_right_9 r0 r1 r3 ) (H0__law_members_right_9 a b c r0 r1 r3 ) = .ok (.nx (S0__law_members_right_10 r0 r1 r3 )) (H0__law_members_right_10 a b c r0 r1 r3 ) := by
  rcases alt0 h_r1 with rfl | rfl | rfl | rfl | rfl | rfl | rfl <;> kernel_rfl
def S0__law_members_right_11 (r0 : Nat) (r1 : Nat) (r3 : Nat) : Sl := [some (.ref 3), some (.ref 0), some ((d0__law_members_right_0 r0 )), some ((d0__law_members_right_1 r0 r1 )), some (.ref 9), some ((d0__law_members_right_3 r0 r1 r3 )), some (.ref 10), none, none]
def H0__law_members_right_11 (a b c : Int) (r0 : Nat) (r1 : Nat) (r3 : Nat) : Hs := [x0_0, x0_1, x0_2, .lst [.int a, .int b, .int c], .lst [.int 0], .lst [.non, .int (-1), .int 6, .bl true, .str "1", .tup [.int 1], .int 1000000000000000000000000000000000000000000000000000000000000, .ref 4], .lst [.non, .int 21, .int (-21), .bl false, .str "1", .tup [.int 1], .int 1000000000000000000000000000000000000000000000000000000000000], .lst [.int 1, .int 2, .int 0], .dk [], .lst [.non, .int 3, .tup [.int 1, .int 2], .tup [.int 0, .int 1, .int 2, .int 3], .ref 7, .tup [.int 1, .int 2, .int 2], .tup [.bl true, .int 2, .int 0], .str "120", .ref 8, .tup [.tup [.int 1, .int 2, .int 0]]], .lst [.tup [.str "raised", .str "number", (u0__law_members_right_4_0 r0)], .tup [.str "raised", .str "number", (u0__law_members_right_5_0 r0)], .tup [.str "raised", .str "number", (u0__law_members_right_6_0 r0)], .tup [.str "raised", .str "number", (u0__law_members_right_7_0 r0)], .tup [.str "raised", .str "number", (u0__law_members_right_8_0 r0)], .tup [.str "raised", .str "number", (u0__law_members_right_9_0 r1)], .tup [.str "raised", .str "operation"]]]
theorem r0__law_members_right_10 (a b c : Int) (r0 : Nat) (r1 : Nat) (r3 : Nat) (h_r0 : r0 < 8) (h_r1 : r1 < 7) (h_r3 : r3 < 10) : p__law_members_right_10 3 (S0__law_members_right_10 r0 r1 r3 ) (H0__law_members_right_10 a b c r0 r1 r3 ) = .ok (.nx (S0__law_members_right_11 r0 r1 r3 )) (H0__law_members_right_11 a b c r0 r1 r3 ) := by
  rcases alt0 h_r3 with rfl | rfl | rfl | rfl | rfl | rfl | rfl | rfl | rfl | rfl <;> kernel_rfl
def S0__law_members_right_12 (r0 : Nat) (r1 : Nat) (r3 : Nat) : Sl := [some (.ref 3), some (.ref 0), some ((d0__law_members_right_0 r0 )), some ((d0__law_members_right_1 r0 r1 )), some (.ref 9), some ((d0__law_members_right_3 r0 r1 r3 )), some (.ref 10), none, none]
def H0__law_members_right_12 (a b c : Int) (r0 : Nat) (r1 : Nat) (r3 : Nat) : Hs := [x0_0, x0_1, x0_2, .lst [.int a, .int b, .int c], .lst [.int 0], .lst [.non, .int (-1), .int 6, .bl true, .str "1", .tup [.int 1], .int 1000000000000000000000000000000000000000000000000000000000000, .ref 4], .lst [.non, .int 21, .int (-21), .bl false, .str "1", .tup [.int 1], .int 1000000000000000000000000000000000000000000000000000000000000], .lst [.int 1, .int 2, .int 0], .dk [], .lst [.non, .int 3, .tup [.int 1, .int 2], .tup [.int 0, .int 1, .int 2, .int 3], .ref 7, .tup [.int 1, .int 2, .int 2], .tup [.bl true, .int 2, .int 0], .str "120", .ref 8, .tup [.tup [.int 1, .int 2, .int 0]]], .lst [.tup [.str "raised", .str "number", (u0__law_members_right_4_0 r0)], .tup [.str "raised", .str "number", (u0__law_members_right_5_0 r0)], .tup [.str "raised", .str "number", (u0__law_members_right_6_0 r0)], .tup [.str "raised", .str "number", (u0__law_members_right_7_0 r0)], .tup [.str "raised", .str "number", (u0__law_members_right_8_0 r0)], .tup [.str "raised", .str "number", (u0__law_members_right_9_0 r1)], .tup [.str "raised", .str "operation"], .tup [.str "raised", .str "operation"]]]
theorem r0__law_members_right_11 (a b c : Int) (r0 : Nat) (r1 : Nat) (r3 : Nat) (h_r0 : r0 < 8) (h_r1 : r1 < 7) (h_r3 : r3 < 10) : p__law_members_right_11 3 (S0__law_members_right_11 r0 r1 r3 ) (H0__law_members_right_11 a b c r0 r1 r3 ) = .ok (.nx (S0__law_members_right_12 r0 r1 r3 )) (H0__law_members_right_12 a b c r0 r1 r3 ) := by
  kernel_rfl
def S0__law_members_right_13 (r0 : Nat) (r1 : Nat) (r3 : Nat) : Sl := [some (.ref 3), some (.ref 0), some ((d0__law_members_right_0 r0 )), some ((d0__law_members_right_1 r0 r1 )), some (.ref 9), some ((d0__law_members_right_3 r0 r1 r3 )), some (.ref 10), none, none]
def H0__law_members_right_13 (a b c : Int) (r0 : Nat) (r1 : Nat) (r3 : Nat) : Hs := [x0_0, x0_1, x0_2, .lst [.int a, .int b, .int c], .lst [.int 0], .lst [.non, .int (-1), .int 6, .bl true, .str "1", .tup [.int 1], .int 1000000000000000000000000000000000000000000000000000000000000, .ref 4], .lst [.non, .int 21, .int (-21), .bl false, .str "1", .tup [.int 1], .int 1000000000000000000000000000000000000000000000000000000000000], .lst [.int 1, .int 2, .int 0], .dk [], .lst [.non, .int 3, .tup [.int 1, .int 2], .tup [.int 0, .int 1, .int 2, .int 3], .ref 7, .tup [.int 1, .int 2, .int 2], .tup [.bl true, .int 2, .int 0], .str "120", .ref 8, .tup [.tup [.int 1, .int 2, .int 0]]], .lst [.tup [.str "raised", .str "number", (u0__law_members_right_4_0 r0)], .tup [.str "raised", .str "number", (u0__law_members_right_5_0 r0)], .tup [.str "raised", .str "number", (u0__law_members_right_6_0 r0)], .tup [.str "raised", .str "number", (u0__law_members_right_7_0 r0)], .tup [.str "raised", .str "number", (u0__law_members_right_8_0 r0)], .tup [.str "raised", .str "number", (u0__law_members_right_9_0 r1)], .tup [.str "raised", .str "operation"], .tup [.str "raised", .str "operation"], .tup [.str "let"]]]
theorem r0__law_members_right_12 (a b c : Int) (r0 : Nat) (r1 : Nat) (r3 : Nat) (h_r0 : r0 < 8) (h_r1 : r1 < 7) (h_r3 : r3 < 10) : p__law_members_right_12 3 (S0__law_members_right_12 r0 r1 r3 ) (H0__law_members_right_12 a b c r0 r1 r3 ) = .ok (.nx (S0__law_members_right_13 r0 r1 r3 )) (H0__law_members_right_13 a b c r0 r1 r3 ) := by
  kernel_rfl
def u0__law_members_right_13_0 (r0 : Nat) : A := [.str "None", .str "-1", .str "6", .str "True", .str "'1'", .str "(1,)", .str "1000000000000000000000000000000000000000000000000000000000000", .str "[0]"].getD r0 .non
def S0__law_members_right_14 (r0 : Nat) (r1 : Nat) (r3 : Nat) : Sl := [some (.ref 3), some (.ref 0), some ((d0__law_members_right_0 r0 )), some ((d0__law_members_right_1 r0 r1 )), some (.ref 9), some ((d0__law_members_right_3 r0 r1 r3 )), some (.ref 10), some (.tup [.str "raised", .str "number", (u0__law_members_right_13_0 r0)]), some (.tup [.str "raised", .str "operation"])]
def H0__law_members_right_14 (a b c : Int) (r0 : Nat) (r1 : Nat) (r3 : Nat) : Hs := [x0_0, x0_1, x0_2, .lst [.int a, .int b, .int c], .lst [.int 0], .lst [.non, .int (-1), .int 6, .bl true, .str "1", .tup [.int 1], .int 1000000000000000000000000000000000000000000000000000000000000, .ref 4], .lst [.non, .int 21, .int (-21), .bl false, .str "1", .tup [.int 1], .int 1000000000000000000000000000000000000000000000000000000000000], .lst [.int 1, .int 2, .int 0], .dk [], .lst [.non, .int 3, .tup [.int 1, .int 2], .tup [.int 0, .int 1, .int 2, .int 3], .ref 7, .tup [.int 1, .int 2, .int 2], .tup [.bl true, .int 2, .int 0], .str "120", .ref 8, .tup [.tup [.int 1, .int 2, .int 0]]], .lst [.tup [.str "raised", .str "number", (u0__law_members_right_4_0 r0)], .tup [.str "raised", .str "number", (u0__law_members_right_5_0 r0)], .tup [.str "raised", .str "number", (u0__law_members_right_6_0 r0)], .tup [.str "raised", .str "number", (u0__law_members_right_7_0 r0)], .tup [.str "raised", .str "number", (u0__law_members_right_8_0 r0)], .tup [.str "raised", .str "number", (u0__law_members_right_9_0 r1)], .tup [.str "raised", .str "operation"], .tup [.str "raised", .str "operation"], .tup [.str "let"]]]
theorem r0__law_members_right_13 (a b c : Int) (r0 : Nat) (r1 : Nat) (r3 : Nat) (h_r0 : r0 < 8) (h_r1 : r1 < 7) (h_r3 : r3 < 10) : p__law_members_right_13 3 (S0__law_members_right_13 r0 r1 r3 ) (H0__law_members_right_13 a b c r0 r1 r3 ) = .ok (.nx (S0__law_members_right_14 r0 r1 r3 )) (H0__law_members_right_14 a b c r0 r1 r3 ) := by
  rcases alt0 h_r0 with rfl | rfl | rfl | rfl | rfl | rfl | rfl | rfl <;> kernel_rfl
theorem r0__law_members_right_14 (a b c : Int) (r0 : Nat) (r1 : Nat) (r3 : Nat) (h_r0 : r0 < 8) (h_r1 : r1 < 7) (h_r3 : r3 < 10) : retT 4 (p__law_members_right_14 3 (S0__law_members_right_14 r0 r1 r3 ) (H0__law_members_right_14 a b c r0 r1 r3 )) = some (.bl true, H0__law_members_right_0 a b c ) := by
  rcases alt0 h_r0 with rfl | rfl | rfl | rfl | rfl | rfl | rfl | rfl
  · rcases alt0 h_r1 with rfl | rfl | rfl | rfl | rfl | rfl | rfl <;> kernel_rfl
  · rcases alt0 h_r1 with rfl | rfl | rfl | rfl | rfl | rfl | rfl <;> kernel_rfl
  · rcases alt0 h_r1 with rfl | rfl | rfl | rfl | rfl | rfl | rfl <;> kernel_rfl
  · rcases alt0 h_r1 with rfl | rfl | rfl | rfl | rfl | rfl | rfl <;> kernel_rfl
  · rcases alt0 h_r1 with rfl | rfl | rfl | rfl | rfl | rfl | rfl <;> kernel_rfl
  · rcases alt0 h_r1 with rfl | rfl | rfl | rfl | rfl | rfl | rfl <;> kernel_rfl
  · rcases alt0 h_r1 with rfl | rfl | rfl | rfl | rfl | rfl | rfl <;> kernel_rfl
  · rcases alt0 h_r1 with rfl | rfl | rfl | rfl | rfl | rfl | rfl <;> kernel_rfl
theorem right__law_members_right (a b c : Int) (k : Nat) (hc : Cn k c) (hk : k < 1000) : ∃ a' c', Cn (k + 3) c' ∧ trimF (lenF 2 f__law_members_right) [.ref 3, .ref 0] 3 (H0__law_members_right_0 a b c) = .ok (.bl true) (H0__law_members_right_0 a' b c') := by
  rw [trim_len rfl]
  refine body_retT (m := 4) (n := 9) (b := b__law_members_right) (H := fun a c => H0__law_members_right_0 a b c) ?_ (by kernel_rfl) (fun _ _ => by kernel_rfl)
  show RetT 4 (k + 3) (fun a c => H0__law_members_right_0 a b c) (q__law_members_right_0 3 (S0__law_members_right_0 ) (H0__law_members_right_0 a b c))
  refine draw_stepI choose_ok (P := RetT 4 (k + 3) (fun a c => H0__law_members_right_0 a b c)) (k := k + 0) (i := 2) (ti := 0) (t := 3) (a := a) (b := b) (fm := m__law_members_right_0) (q := q__law_members_right_1) (xs := (al0__law_members_right_0 )) (s' := fun r0 => S0__law_members_right_1 r0 ) (h' := fun r0 a c => H0__law_members_right_1 a b c r0 ) (r0__law_members_right_0 a b c ) (by kernel_rfl) (by kernel_rfl) (by kernel_rfl) hc (by omega) (by kernel_rfl) (fun _ => by kernel_rfl) (by kernel_rfl) (fun _ => by kernel_rfl) (fun _ _ _ => by kernel_rfl) (fun r0 a c h_r0 hc => ?_)
  refine draw_stepI choose_ok (P := RetT 4 (k + 3) (fun a c => H0__law_members_right_0 a b c)) (k := k + 1) (i := 3) (ti := 0) (t := 3) (a := a) (b := b) (fm := m__law_members_right_1) (q := q__law_members_right_2) (xs := (al0__law_members_right_1 r0 )) (s' := fun r1 => S0__law_members_right_2 r0 r1 ) (h' := fun r1 a c => H0__law_members_right_2 a b c r0 r1 ) (r0__law_members_right_1 a b c r0 h_r0 ) (by kernel_rfl) (by kernel_rfl) (by kernel_rfl) hc (by omega) (by kernel_rfl) (fun _ => by kernel_rfl) (by kernel_rfl) (fun _ => by kernel_rfl) (fun _ _ _ => by kernel_rfl) (fun r1 a c h_r1 hc => ?_)
  refine step (P := RetT 4 (k + 3) (fun a c => H0__law_members_right_0 a b c)) (p := p__law_members_right_2) (q := q__law_members_right_3) (r0__law_members_right_2 a b c r0 r1 h_r0 h_r1 ) ?_
  refine draw_stepI choose_ok (P := RetT 4 (k + 3) (fun a c => H0__law_members_right_0 a b c)) (k := k + 2) (i := 5) (ti := 0) (t := 3) (a := a) (b := b) (fm := m__law_members_right_3) (q := q__law_members_right_4) (xs := (al0__law_members_right_3 r0 r1 )) (s' := fun r3 => S0__law_members_right_4 r0 r1 r3 ) (h' := fun r3 a c => H0__law_members_right_4 a b c r0 r1 r3 ) (r0__law_members_right_3 a b c r0 r1 h_r0 h_r1 ) (by kernel_rfl) (by kernel_rfl) (by kernel_rfl) hc (by omega) (by kernel_rfl) (fun _ => by kernel_rfl) (by kernel_rfl) (fun _ => by kernel_rfl) (fun _ _ _ => by kernel_rfl) (fun r3 a c h_r3 hc => ?_)
  refine step (P := RetT 4 (k + 3) (fun a c => H0__law_members_right_0 a b c)) (p := p__law_members_right_4) (q := q__law_members_right_5) (r0__law_members_right_4 a b c r0 r1 r3 h_r0 h_r1 h_r3 ) ?_
  refine step (P := RetT 4 (k + 3) (fun a c => H0__law_members_right_0 a b c)) (p := p__law_members_right_5) (q := q__law_members_right_6) (r0__law_members_right_5 a b c r0 r1 r3 h_r0 h_r1 h_r3 ) ?_
  refine step (P := RetT 4 (k + 3) (fun a c => H0__law_members_right_0 a b c)) (p := p__law_members_right_6) (q := q__law_members_right_7) (r0__law_members_right_6 a b c r0 r1 r3 h_r0 h_r1 h_r3 ) ?_
  refine step (P := RetT 4 (k + 3) (fun a c => H0__law_members_right_0 a b c)) (p := p__law_members_right_7) (q := q__law_members_right_8) (r0__law_members_right_7 a b c r0 r1 r3 h_r0 h_r1 h_r3 ) ?_
  refine step (P := RetT 4 (k + 3) (fun a c => H0__law_members_right_0 a b c)) (p := p__law_members_right_8) (q := q__law_members_right_9) (r0__law_members_right_8 a b c r0 r1 r3 h_r0 h_r1 h_r3 ) ?_
  refine step (P := RetT 4 (k + 3) (fun a c => H0__law_members_right_0 a b c)) (p := p__law_members_right_9) (q := q__law_members_right_10) (r0__law_members_right_9 a b c r0 r1 r3 h_r0 h_r1 h_r3 ) ?_
  refine step (P := RetT 4 (k + 3) (fun a c => H0__law_members_right_0 a b c)) (p := p__law_members_right_10) (q := q__law_members_right_11) (r0__law_members_right_10 a b c r0 r1 r3 h_r0 h_r1 h_r3 ) ?_
  refine step (P := RetT 4 (k + 3) (fun a c => H0__law_members_right_0 a b c)) (p := p__law_members_right_11) (q := q__law_members_right_12) (r0__law_members_right_11 a b c r0 r1 r3 h_r0 h_r1 h_r3 ) ?_
  refine step (P := RetT 4 (k + 3) (fun a c => H0__law_members_right_0 a b c)) (p := p__law_members_right_12) (q := q__law_members_right_13) (r0__law_members_right_12 a b c r0 r1 r3 h_r0 h_r1 h_r3 ) ?_
  refine step (P := RetT 4 (k + 3) (fun a c => H0__law_members_right_0 a b c)) (p := p__law_members_right_13) (q := q__law_members_right_14) (r0__law_members_right_13 a b c r0 r1 r3 h_r0 h_r1 h_r3 ) ?_
  exact ⟨a, c, hc, (r0__law_members_right_14 a b c r0 r1 r3 h_r0 h_r1 h_r3 )⟩
def S0__law_lots_right_0 : Sl := [some (.ref 3), some (.ref 0), none, none, none, none, none, none, none, none, none]
def H0__law_lots_right_0 (a b c : Int) : Hs := [x0_0, x0_1, x0_2, .lst [.int a, .int b, .int c]]
def G0__law_lots_right_0 (a b c : Int) : Hs := [x0_0, x0_1, x0_2, .lst [.int a, .int b, .int c], .lst [.ref 0], .dk [], .lst [.non, .int 3, .str "room", .tup [.tup [.int 1, .int 0]], .ref 4, .ref 5, .bl true, .tup [.tup [.int 0, .int 1, .int 2], .tup [.int 0, .int 2, .int 1], .tup [.int 1, .int 0, .int 2], .tup [.int 1, .int 2, .int 0], .tup [.int 2, .int 0, .int 1], .tup [.int 2, .int 1, .int 0]]]]
def al0__law_lots_right_0 : List A := [.non, .int 3, .str "room", .tup [.tup [.int 1, .int 0]], .ref 4, .ref 5, .bl true, .tup [.tup [.int 0, .int 1, .int 2], .tup [.int 0, .int 2, .int 1], .tup [.int 1, .int 0, .int 2], .tup [.int 1, .int 2, .int 0], .tup [.int 2, .int 0, .int 1], .tup [.int 2, .int 1, .int 0]]]
def d0__law_lots_right_0 (r0 : Nat) : A := (al0__law_lots_right_0 ).getD r0 .non
def S0__law_lots_right_1 (r0 : Nat) : Sl := [some (.ref 3), some (.ref 0), some ((d0__law_lots_right_0 r0 )), none, none, none, none, none, none, none, none]
def H0__law_lots_right_1 (a b c : Int) (r0 : Nat) : Hs := [x0_0, x0_1, x0_2, .lst [.int a, .int b, .int c], .lst [.ref 0], .dk [], .lst [.non, .int 3, .str "room", .tup [.tup [.int 1, .int 0]], .ref 4, .ref 5, .bl true, .tup [.tup [.int 0, .int 1, .int 2], .tup [.int 0, .int 2, .int 1], .tup [.int 1, .int 0, .int 2], .tup [.int 1, .int 2, .int 0], .tup [.int 2, .int 0, .int 1], .tup [.int 2, .int 1, .int 0]]]]
theorem r0__law_lots_right_0 (a b c : Int) : m__law_lots_right_0 3 (S0__law_lots_right_0 ) (H0__law_lots_right_0 a b c ) = .ok (.ref 6) (G0__law_lots_right_0 a b c ) := by kernel_rfl
def G0__law_lots_right_1 (a b c : Int) (r0 : Nat) : Hs := [x0_0, x0_1, x0_2, .lst [.int a, .int b, .int c], .lst [.ref 0], .dk [], .lst [.non, .int 3, .str "room", .tup [.tup [.int 1, .int 0]], .ref 4, .ref 5, .bl true, .tup [.tup [.int 0, .int 1, .int 2], .tup [.int 0, .int 2, .int 1], .tup [.int 1, .int 0, .int 2], .tup [.int 1, .int 2, .int 0], .tup [.int 2, .int 0, .int 1], .tup [.int 2, .int 1, .int 0]]], .lst [.non, .int 6, .int (-1), .bl true, .str "1", .tup [.int 1], .int 1000000000000000000000000000000000000000000000000000000000000]]
def al0__law_lots_right_1 (r0 : Nat) : List A := [.non, .int 6, .int (-1), .bl true, .str "1", .tup [.int 1], .int 1000000000000000000000000000000000000000000000000000000000000]
def d0__law_lots_right_1 (r0 : Nat) (r1 : Nat) : A := (al0__law_lots_right_1 r0 ).getD r1 .non
def S0__law_lots_right_2 (r0 : Nat) (r1 : Nat) : Sl := [some (.ref 3), some (.ref 0), some ((d0__law_lots_right_0 r0 )), some ((d0__law_lots_right_1 r0 r1 )), none, none, none, none, none, none, none]
def H0__law_lots_right_2 (a b c : Int) (r0 : Nat) (r1 : Nat) : Hs := [x0_0, x0_1, x0_2, .lst [.int a, .int b, .int c], .lst [.ref 0], .dk [], .lst [.non, .int 3, .str "room", .tup [.tup [.int 1, .int 0]], .ref 4, .ref 5, .bl true, .tup [.tup [.int 0, .int 1, .int 2], .tup [.int 0, .int 2, .int 1], .tup [.int 1, .int 0, .int 2], .tup [.int 1, .int 2, .int 0], .tup [.int 2, .int 0, .int 1], .tup [.int 2, .int 1, .int 0]]], .lst [.non, .int 6, .int (-1), .bl true, .str "1", .tup [.int 1], .int 1000000000000000000000000000000000000000000000000000000000000]]
theorem r0__law_lots_right_1 (a b c : Int) (r0 : Nat) (h_r0 : r0 < 8) : m__law_lots_right_1 3 (S0__law_lots_right_1 r0 ) (H0__law_lots_right_1 a b c r0 ) = .ok (.ref 7) (G0__law_lots_right_1 a b c r0 ) := by kernel_rfl
def G0__law_lots_right_2 (a b c : Int) (r0 : Nat) (r1 : Nat) : Hs := [x0_0, x0_1, x0_2, .lst [.int a, .int b, .int c], .lst [.ref 0], .dk [], .lst [.non, .int 3, .str "room", .tup [.tup [.int 1, .int 0]], .ref 4, .ref 5, .bl true, .tup [.tup [.int 0, .int 1, .int 2], .tup [.int 0, .int 2, .int 1], .tup [.int 1, .int 0, .int 2], .tup [.int 1, .int 2, .int 0], .tup [.int 2, .int 0, .int 1], .tup [.int 2, .int 1, .int 0]]], .lst [.non, .int 6, .int (-1), .bl true, .str "1", .tup [.int 1], .int 1000000000000000000000000000000000000000000000000000000000000], .lst [.int 1], .dk [], .lst [.non, .int 1, .ref 8, .tup [.int 6], .tup [.int (-1)], .tup [.bl true], .tup [.str "1"], .tup [.int 1, .int 1, .int 1, .int 1, .int 1, .int 1, .int 1, .int 1, .int 1, .int 1, .int 1, .int 1, .int 1, .int 1, .int 1, .int 1, .int 1, .int 1, .int 1, .int 1, .int 1, .int 1, .int 1, .int 1, .int 1], .tup [.int 1, .non], .ref 9]]
def al0__law_lots_right_2 (r0 : Nat) (r1 : Nat) : List A := [.non, .int 1, .ref 8, .tup [.int 6], .tup [.int (-1)], .tup [.bl true], .tup [.str "1"], .tup [.int 1, .int 1, .int 1, .int 1, .int 1, .int 1, .int 1, .int 1, .int 1, .int 1, .int 1, .int 1, .int 1, .int 1, .int 1, .int 1, .int 1, .int 1, .int 1, .int 1, .int 1, .int 1, .int 1, .int 1, .int 1], .tup [.int 1, .non], .ref 9]
def d0__law_lots_right_2 (r0 : Nat) (r1 : Nat) (r2 : Nat) : A := (al0__law_lots_right_2 r0 r1 ).getD r2 .non
def S0__law_lots_right_3 (r0 : Nat) (r1 : Nat) (r2 : Nat) : Sl := [some (.ref 3), some (.ref 0), some ((d0__law_lots_right_0 r0 )), some ((d0__law_lots_right_1 r0 r1 )), some ((d0__law_lots_right_2 r0 r1 r2 )), none, none, none, none, none, none]
def H0__law_lots_right_3 (a b c : Int) (r0 : Nat) (r1 : Nat) (r2 : Nat) : Hs := [x0_0, x0_1, x0_2, .lst [.int a, .int b, .int c], .lst [.ref 0], .dk [], .lst [.non, .int 3, .str "room", .tup [.tup [.int 1, .int 0]], .ref 4, .ref 5, .bl true, .tup [.tup [.int 0, .int 1, .int 2], .tup [.int 0, .int 2, .int 1], .tup [.int 1, .int 0, .int 2], .tup [.int 1, .int 2, .int 0], .tup [.int 2, .int 0, .int 1], .tup [.int 2, .int 1, .int 0]]], .lst [.non, .int 6, .int (-1), .bl true, .str "1", .tup [.int 1], .int 1000000000000000000000000000000000000000000000000000000000000], .lst [.int 1], .dk [], .lst [.non, .int 1, .ref 8, .tup [.int 6], .tup [.int (-1)], .tup [.bl true], .tup [.str "1"], .tup [.int 1, .int 1, .int 1, .int 1, .int 1, .int 1, .int 1, .int 1, .int 1, .int 1, .int 1, .int 1, .int 1, .int 1, .int 1, .int 1, .int 1, .int 1, .int 1, .int 1, .int 1, .int 1, .int 1, .int 1, .int 1], .tup [.int 1, .non], .ref 9]]
theorem r0__law_lots_right_2 (a b c : Int) (r0 : Nat) (r1 : Nat) (h_r0 : r0 < 8) (h_r1 : r1 < 7) : m__law_lots_right_2 3 (S0__law_lots_right_2 r0 r1 ) (H0__law_lots_right_2 a b c r0 r1 ) = .ok (.ref 10) (G0__law_lots_right_2 a b c r0 r1 ) := by kernel_rfl
def G0__law_lots_right_3 (a b c : Int) (r0 : Nat) (r1 : Nat) (r2 : Nat) : Hs := [x0_0, x0_1, x0_2, .lst [.int a, .int b, .int c], .lst [.ref 0], .dk [], .lst [.non, .int 3, .str "room", .tup [.tup [.int 1, .int 0]], .ref 4, .ref 5, .bl true, .tup [.tup [.int 0, .int 1, .int 2], .tup [.int 0, .int 2, .int 1], .tup [.int 1, .int 0, .int 2], .tup [.int 1, .int 2, .int 0], .tup [.int 2, .int 0, .int 1], .tup [.int 2, .int 1, .int 0]]], .lst [.non, .int 6, .int (-1), .bl true, .str "1", .tup [.int 1], .int 1000000000000000000000000000000000000000000000000000000000000], .lst [.int 1], .dk [], .lst [.non, .int 1, .ref 8, .tup [.int 6], .tup [.int (-1)], .tup [.bl true], .tup [.str "1"], .tup [.int 1, .int 1, .int 1, .int 1, .int 1, .int 1, .int 1, .int 1, .int 1, .int 1, .int 1, .int 1, .int 1, .int 1, .int 1, .int 1, .int 1, .int 1, .int 1, .int 1, .int 1, .int 1, .int 1, .int 1, .int 1], .tup [.int 1, .non], .ref 9], .lst [.int 0], .dk [], .lst [.non, .int 0, .ref 11, .tup [], .tup [.int 1], .tup [.int 0, .int 1, .int 2], .tup [.int 0, .int 4, .int 3], .tup [.int 0, .int 6], .tup [.bl false], .tup [.int 0, .int 0], .str "0", .ref 12]]
def al0__law_lots_right_3 (r0 : Nat) (r1 : Nat) (r2 : Nat) : List A := [.non, .int 0, .ref 11, .tup [], .tup [.int 1], .tup [.int 0, .int 1, .int 2], .tup [.int 0, .int 4, .int 3], .tup [.int 0, .int 6], .tup [.bl false], .tup [.int 0, .int 0], .str "0", .ref 12]
def d0__law_lots_right_3 (r0 : Nat) (r1 : Nat) (r2 : Nat) (r3 : Nat) : A := (al0__law_lots_right_3 r0 r1 r2 ).getD r3 .non
def S0__law_lots_right_4 (r0 : Nat) (r1 : Nat) (r2 : Nat) (r3 : Nat) : Sl := [some (.ref 3), some (.ref 0), some ((d0__law_lots_right_0 r0 )), some ((d0__law_lots_right_1 r0 r1 )), some ((d0__law_lots_right_2 r0 r1 r2 )), some ((d0__law_lots_right_3 r0 r1 r2 r3 )), none, none, none, none, none]
def H0__law_lots_right_4 (a b c : Int) (r0 : Nat) (r1 : Nat) (r2 : Nat) (r3 : Nat) : Hs := [x0_0, x0_1, x0_2, .lst [.int a, .int b, .int c], .lst [.ref 0], .dk [], .lst [.non, .int 3, .str "room", .tup [.tup [.int 1, .int 0]], .ref 4, .ref 5, .bl true, .tup [.tup [.int 0, .int 1, .int 2], .tup [.int 0, .int 2, .int 1], .tup [.int 1, .int 0, .int 2], .tup [.int 1, .int 2, .int 0], .tup [.int 2, .int 0, .int 1], .tup [.int 2, .int 1, .int 0]]], .lst [.non, .int 6, .int (-1), .bl true, .str "1", .tup [.int 1], .int 1000000000000000000000000000000000000000000000000000000000000], .lst [.int 1], .dk [], .lst [.non, .int 1, .ref 8, .tup [.int 6], .tup [.int (-1)], .tup [.bl true], .tup [.str "1"], .tup [.int 1, .int 1, .int 1, .int 1, .int 1, .int 1, .int 1, .int 1, .int 1, .int 1, .int 1, .int 1, .int 1, .int 1, .int 1, .int 1, .int 1, .int 1, .int 1, .int 1, .int 1, .int 1, .int 1, .int 1, .int 1], .tup [.int 1, .non], .ref 9], .lst [.int 0], .dk [], .lst [.non, .int 0, .ref 11, .tup [], .tup [.int 1], .tup [.int 0, .int 1, .int 2], .tup [.int 0, .int 4, .int 3], .tup [.int 0, .int 6], .tup [.bl false], .tup [.int 0, .int 0], .str "0", .ref 12]]
theorem r0__law_lots_right_3 (a b c : Int) (r0 : Nat) (r1 : Nat) (r2 : Nat) (h_r0 : r0 < 8) (h_r1 : r1 < 7) (h_r2 : r2 < 10) : m__law_lots_right_3 3 (S0__law_lots_right_3 r0 r1 r2 ) (H0__law_lots_right_3 a b c r0 r1 r2 ) = .ok (.ref 13) (G0__law_lots_right_3 a b c r0 r1 r2 ) := by kernel_rfl
def S0__law_lots_right_5 (r0 : Nat) (r1 : Nat) (r2 : Nat) (r3 : Nat) : Sl := [some (.ref 3), some (.ref 0), some ((d0__law_lots_right_0 r0 )), some ((d0__law_lots_right_1 r0 r1 )), some ((d0__law_lots_right_2 r0 r1 r2 )), some ((d0__law_lots_right_3 r0 r1 r2 r3 )), some (.ref 14), none, none, none, none]
def H0__law_lots_right_5 (a b c : Int) (r0 : Nat) (r1 : Nat) (r2 : Nat) (r3 : Nat) : Hs := [x0_0, x0_1, x0_2, .lst [.int a, .int b, .int c], .lst [.ref 0], .dk [], .lst [.non, .int 3, .str "room", .tup [.tup [.int 1, .int 0]], .ref 4, .ref 5, .bl true, .tup [.tup [.int 0, .int 1, .int 2], .tup [.int 0, .int 2, .int 1], .tup [.int 1, .int 0, .int 2], .tup [.int 1, .int 2, .int 0], .tup [.int 2, .int 0, .int 1], .tup [.int 2, .int 1, .int 0]]], .lst [.non, .int 6, .int (-1), .bl true, .str "1", .tup [.int 1], .int 1000000000000000000000000000000000000000000000000000000000000], .lst [.int 1], .dk [], .lst [.non, .int 1, .ref 8, .tup [.int 6], .tup [.int (-1)], .tup [.bl true], .tup [.str "1"], .tup [.int 1, .int 1, .int 1, .int 1, .int 1, .int 1, .int 1, .int 1, .int 1, .int 1, .int 1, .int 1, .int 1, .int 1, .int 1, .int 1, .int 1, .int 1, .int 1, .int 1, .int 1, .int 1, .int 1, .int 1, .int 1], .tup [.int 1, .non], .ref 9], .lst [.int 0], .dk [], .lst [.non, .int 0, .ref 11, .tup [], .tup [.int 1], .tup [.int 0, .int 1, .int 2], .tup [.int 0, .int 4, .int 3], .tup [.int 0, .int 6], .tup [.bl false], .tup [.int 0, .int 0], .str "0", .ref 12], .lst []]
theorem r0__law_lots_right_4 (a b c : Int) (r0 : Nat) (r1 : Nat) (r2 : Nat) (r3 : Nat) (h_r0 : r0 < 8) (h_r1 : r1 < 7) (h_r2 : r2 < 10) (h_r3 : r3 < 12) : p__law_lots_right_4 3 (S0__law_lots_right_4 r0 r1 r2 r3 ) (H0__law_lots_right_4 a b c r0 r1 r2 r3 ) = .ok (.nx (S0__law_lots_right_5 r0 r1 r2 r3 )) (H0__law_lots_right_5 a b c r0 r1 r2 r3 ) := by
  kernel_rfl
def S0__law_lots_right_6 (r0 : Nat) (r1 : Nat) (r2 : Nat) (r3 : Nat) : Sl := [some (.ref 3), some (.ref 0), some ((d0__law_lots_right_0 r0 )), some ((d0__law_lots_right_1 r0 r1 )), some ((d0__law_lots_right_2 r0 r1 r2 )), some ((d0__law_lots_right_3 r0 r1 r2 r3 )), some (.ref 14), some (.gl 54), none, none, none]
def H0__law_lots_right_6 (a b c : Int) (r0 : Nat) (r1 : Nat) (r2 : Nat) (r3 : Nat) : Hs := [x0_0, x0_1, x0_2, .lst [.int a, .int b, .int c], .lst [.ref 0], .dk [], .lst [.non, .int 3, .str "room", .tup [.tup [.int 1, .int 0]], .ref 4, .ref 5, .bl true, .tup [.tup [.int 0, .int 1, .int 2], .tup [.int 0, .int 2, .int 1], .tup [.int 1, .int 0, .int 2], .tup [.int 1, .int 2, .int 0], .tup [.int 2, .int 0, .int 1], .tup [.int 2, .int 1, .int 0]]], .lst [.non, .int 6, .int (-1), .bl true, .str "1", .tup [.int 1], .int 1000000000000000000000000000000000000000000000000000000000000], .lst [.int 1], .dk [], .lst [.non, .int 1, .ref 8, .tup [.int 6], .tup [.int (-1)], .tup [.bl true], .tup [.str "1"], .tup [.int 1, .int 1, .int 1, .int 1, .int 1, .int 1, .int 1, .int 1, .int 1, .int 1, .int 1, .int 1, .int 1, .int 1, .int 1, .int 1, .int 1, .int 1, .int 1, .int 1, .int 1, .int 1, .int 1, .int 1, .int 1], .tup [.int 1, .non], .ref 9], .lst [.int 0], .dk [], .lst [.non, .int 0, .ref 11, .tup [], .tup [.int 1], .tup [.int 0, .int 1, .int 2], .tup [.int 0, .int 4, .int 3], .tup [.int 0, .int 6], .tup [.bl false], .tup [.int 0, .int 0], .str "0", .ref 12], .lst [.tup [.str "raised", .str "room"], .tup [.str "raised", .str "room"]]]
theorem r0__law_lots_right_5 (a b c : Int) (r0 : Nat) (r1 : Nat) (r2 : Nat) (r3 : Nat) (h_r0 : r0 < 8) (h_r1 : r1 < 7) (h_r2 : r2 < 10) (h_r3 : r3 < 12) : p__law_lots_right_5 3 (S0__law_lots_right_5 r0 r1 r2 r3 ) (H0__law_lots_right_5 a b c r0 r1 r2 r3 ) = .ok (.nx (S0__law_lots_right_6 r0 r1 r2 r3 )) (H0__law_lots_right_6 a b c r0 r1 r2 r3 ) := by
  rcases alt0 h_r0 with rfl | rfl | rfl | rfl | rfl | rfl | rfl | rfl <;> kernel_rfl
def S0__law_lots_right_7 (r0 : Nat) (r1 : Nat) (r2 : Nat) (r3 : Nat) : Sl := [some (.ref 3), some (.ref 0), some ((d0__law_lots_right_0 r0 )), some ((d0__law_lots_right_1 r0 r1 )), some ((d0__law_lots_right_2 r0 r1 r2 )), some ((d0__law_lots_right_3 r0 r1 r2 r3 )), some (.ref 14), some (.gl 54), none, none, none]
def H0__law_lots_right_7 (a b c : Int) (r0 : Nat) (r1 : Nat) (r2 : Nat) (r3 : Nat) : Hs := [x0_0, x0_1, x0_2, .lst [.int a, .int b, .int c], .lst [.ref 0], .dk [], .lst [.non, .int 3, .str "room", .tup [.tup [.int 1, .int 0]], .ref 4, .ref 5, .bl true, .tup [.tup [.int 0, .int 1, .int 2], .tup [.int 0, .int 2, .int 1], .tup [.int 1, .int 0, .int 2], .tup [.int 1, .int 2, .int 0], .tup [.int 2, .int 0, .int 1], .tup [.int 2, .int 1, .int 0]]], .lst [.non, .int 6, .int (-1), .bl true, .str "1", .tup [.int 1], .int 1000000000000000000000000000000000000000000000000000000000000], .lst [.int 1], .dk [], .lst [.non, .int 1, .ref 8, .tup [.int 6], .tup [.int (-1)], .tup [.bl true], .tup [.str "1"], .tup [.int 1, .int 1, .int 1, .int 1, .int 1, .int 1, .int 1, .int 1, .int 1, .int 1, .int 1, .int 1, .int 1, .int 1, .int 1, .int 1, .int 1, .int 1, .int 1, .int 1, .int 1, .int 1, .int 1, .int 1, .int 1], .tup [.int 1, .non], .ref 9], .lst [.int 0], .dk [], .lst [.non, .int 0, .ref 11, .tup [], .tup [.int 1], .tup [.int 0, .int 1, .int 2], .tup [.int 0, .int 4, .int 3], .tup [.int 0, .int 6], .tup [.bl false], .tup [.int 0, .int 0], .str "0", .ref 12], .lst [.tup [.str "raised", .str "room"], .tup [.str "raised", .str "room"], .tup [.str "raised", .str "room"]]]
theorem r0__law_lots_right_6 (a b c : Int) (r0 : Nat) (r1 : Nat) (r2 : Nat) (r3 : Nat) (h_r0 : r0 < 8) (h_r1 : r1 < 7) (h_r2 : r2 < 10) (h_r3 : r3 < 12) : p__law_lots_right_6 3 (S0__law_lots_right_6 r0 r1 r2 r3 ) (H0__law_lots_right_6 a b c r0 r1 r2 r3 ) = .ok (.nx (S0__law_lots_right_7 r0 r1 r2 r3 )) (H0__law_lots_right_7 a b c r0 r1 r2 r3 ) := by
  rcases alt0 h_r0 with rfl | rfl | rfl | rfl | rfl | rfl | rfl | rfl <;> kernel_rfl
def S0__law_lots_right_8 (r0 : Nat) (r1 : Nat) (r2 : Nat) (r3 : Nat) : Sl := [some (.ref 3), some (.ref 0), some ((d0__law_lots_right_0 r0 )), some ((d0__law_lots_right_1 r0 r1 )), some ((d0__law_lots_right_2 r0 r1 r2 )), some ((d0__law_lots_right_3 r0 r1 r2 r3 )), some (.ref 14), some (.gl 54), none, none, none]
def H0__law_lots_right_8 (a b c : Int) (r0 : Nat) (r1 : Nat) (r2 : Nat) (r3 : Nat) : Hs := [x0_0, x0_1, x0_2, .lst [.int a, .int b, .int c], .lst [.ref 0], .dk [], .lst [.non, .int 3, .str "room", .tup [.tup [.int 1, .int 0]], .ref 4, .ref 5, .bl true, .tup [.tup [.int 0, .int 1, .int 2], .tup [.int 0, .int 2, .int 1], .tup [.int 1, .int 0, .int 2], .tup [.int 1, .int 2, .int 0], .tup [.int 2, .int 0, .int 1], .tup [.int 2, .int 1, .int 0]]], .lst [.non, .int 6, .int (-1), .bl true, .str "1", .tup [.int 1], .int 1000000000000000000000000000000000000000000000000000000000000], .lst [.int 1], .dk [], .lst [.non, .int 1, .ref 8, .tup [.int 6], .tup [.int (-1)], .tup [.bl true], .tup [.str "1"], .tup [.int 1, .int 1, .int 1, .int 1, .int 1, .int 1, .int 1, .int 1, .int 1, .int 1, .int 1, .int 1, .int 1, .int 1, .int 1, .int 1, .int 1, .int 1, .int 1, .int 1, .int 1, .int 1, .int 1, .int 1, .int 1], .tup [.int 1, .non], .ref 9], .lst [.int 0], .dk [], .lst [.non, .int 0, .ref 11, .tup [], .tup [.int 1], .tup [.int 0, .int 1, .int 2], .tup [.int 0, .int 4, .int 3], .tup [.int 0, .int 6], .tup [.bl false], .tup [.int 0, .int 0], .str "0", .ref 12], .lst [.tup [.str "raised", .str "room"], .tup [.str "raised", .str "room"], .tup [.str "raised", .str "room"], .tup [.str "raised", .str "room"]]]
theorem r0__law_lots_right_7 (a b c : Int) (r0 : Nat) (r1 : Nat) (r2 : Nat) (r3 : Nat) (h_r0 : r0 < 8) (h_r1 : r1 < 7) (h_r2 : r2 < 10) (h_r3 : r3 < 12) : p__law_lots_right_7 3 (S0__law_lots_right_7 r0 r1 r2 r3 ) (H0__law_lots_right_7 a b c r0 r1 r2 r3 ) = .ok (.nx (S0__law_lots_right_8 r0 r1 r2 r3 )) (H0__law_lots_right_8 a b c r0 r1 r2 r3 ) := by
  rcases alt0 h_r0 with rfl | rfl | rfl | rfl | rfl | rfl | rfl | rfl <;> kernel_rfl
def S0__law_lots_right_9 (r0 : Nat) (r1 : Nat) (r2 : Nat) (r3 : Nat) : Sl := [some (.ref 3), some (.ref 0), some ((d0__law_lots_right_0 r0 )), some ((d0__law_lots_right_1 r0 r1 )), some ((d0__law_lots_right_2 r0 r1 r2 )), some ((d0__law_lots_right_3 r0 r1 r2 r3 )), some (.ref 14), some (.gl 54), none, none, none]
def H0__law_lots_right_9 (a b c : Int) (r0 : Nat) (r1 : Nat) (r2 : Nat) (r3 : Nat) : Hs := [x0_0, x0_1, x0_2, .lst [.int a, .int b, .int c], .lst [.ref 0], .dk [], .lst [.non, .int 3, .str "room", .tup [.tup [.int 1, .int 0]], .ref 4, .ref 5, .bl true, .tup [.tup [.int 0, .int 1, .int 2], .tup [.int 0, .int 2, .int 1], .tup [.int 1, .int 0, .int 2], .tup [.int 1, .int 2, .int 0], .tup [.int 2, .int 0, .int 1], .tup [.int 2, .int 1, .int 0]]], .lst [.non, .int 6, .int (-1), .bl true, .str "1", .tup [.int 1], .int 1000000000000000000000000000000000000000000000000000000000000], .lst [.int 1], .dk [], .lst [.non, .int 1, .ref 8, .tup [.int 6], .tup [.int (-1)], .tup [.bl true], .tup [.str "1"], .tup [.int 1, .int 1, .int 1, .int 1, .int 1, .int 1, .int 1, .int 1, .int 1, .int 1, .int 1, .int 1, .int 1, .int 1, .int 1, .int 1, .int 1, .int 1, .int 1, .int 1, .int 1, .int 1, .int 1, .int 1, .int 1], .tup [.int 1, .non], .ref 9], .lst [.int 0], .dk [], .lst [.non, .int 0, .ref 11, .tup [], .tup [.int 1], .tup [.int 0, .int 1, .int 2], .tup [.int 0, .int 4, .int 3], .tup [.int 0, .int 6], .tup [.bl false], .tup [.int 0, .int 0], .str "0", .ref 12], .lst [.tup [.str "raised", .str "room"], .tup [.str "raised", .str "room"], .tup [.str "raised", .str "room"], .tup [.str "raised", .str "room"], .tup [.str "raised", .str "room"]]]
theorem r0__law_lots_right_8 (a b c : Int) (r0 : Nat) (r1 : Nat) (r2 : Nat) (r3 : Nat) (h_r0 : r0 < 8) (h_r1 : r1 < 7) (h_r2 : r2 < 10) (h_r3 : r3 < 12) : p__law_lots_right_8 3 (S0__law_lots_right_8 r0 r1 r2 r3 ) (H0__law_lots_right_8 a b c r0 r1 r2 r3 ) = .ok (.nx (S0__law_lots_right_9 r0 r1 r2 r3 )) (H0__law_lots_right_9 a b c r0 r1 r2 r3 ) := by
  rcases alt0 h_r0 with rfl | rfl | rfl | rfl | rfl | rfl | rfl | rfl <;> kernel_rfl
def S0__law_lots_right_10 (r0 : Nat) (r1 : Nat) (r2 : Nat) (r3 : Nat) : Sl := [some (.ref 3), some (.ref 0), some ((d0__law_lots_right_0 r0 )), some ((d0__law_lots_right_1 r0 r1 )), some ((d0__law_lots_right_2 r0 r1 r2 )), some ((d0__law_lots_right_3 r0 r1 r2 r3 )), some (.ref 14), some (.gl 54), none, none, none]
def H0__law_lots_right_10 (a b c : Int) (r0 : Nat) (r1 : Nat) (r2 : Nat) (r3 : Nat) : Hs := [x0_0, x0_1, x0_2, .lst [.int a, .int b, .int c], .lst [.ref 0], .dk [], .lst [.non, .int 3, .str "room", .tup [.tup [.int 1, .int 0]], .ref 4, .ref 5, .bl true, .tup [.tup [.int 0, .int 1, .int 2], .tup [.int 0, .int 2, .int 1], .tup [.int 1, .int 0, .int 2], .tup [.int 1, .int 2, .int 0], .tup [.int 2, .int 0, .int 1], .tup [.int 2, .int 1, .int 0]]], .lst [.non, .int 6, .int (-1), .bl true, .str "1", .tup [.int 1], .int 1000000000000000000000000000000000000000000000000000000000000], .lst [.int 1], .dk [], .lst [.non, .int 1, .ref 8, .tup [.int 6], .tup [.int (-1)], .tup [.bl true], .tup [.str "1"], .tup [.int 1, .int 1, .int 1, .int 1, .int 1, .int 1, .int 1, .int 1, .int 1, .int 1, .int 1, .int 1, .int 1, .int 1, .int 1, .int 1, .int 1, .int 1, .int 1, .int 1, .int 1, .int 1, .int 1, .int 1, .int 1], .tup [.int 1, .non], .ref 9], .lst [.int 0], .dk [], .lst [.non, .int 0, .ref 11, .tup [], .tup [.int 1], .tup [.int 0, .int 1, .int 2], .tup [.int 0, .int 4, .int 3], .tup [.int 0, .int 6], .tup [.bl false], .tup [.int 0, .int 0], .str "0", .ref 12], .lst [.tup [.str "raised", .str "room"], .tup [.str "raised", .str "room"], .tup [.str "raised", .str "room"], .tup [.str "raised", .str "room"], .tup [.str "raised", .str "room"], .tup [.str "raised", .str "room"]]]
theorem r0__law_lots_right_9 (a b c : Int) (r0 : Nat) (r1 : Nat) (r2 : Nat) (r3 : Nat) (h_r0 : r0 < 8) (h_r1 : r1 < 7) (h_r2 : r2 < 10) (h_r3 : r3 < 12) : p__law_lots_right_9 3 (S0__law_lots_right_9 r0 r1 r2 r3 ) (H0__law_lots_right_9 a b c r0 r1 r2 r3 ) = .ok (.nx (S0__law_lots_right_10 r0 r1 r2 r3 )) (H0__law_lots_right_10 a b c r0 r1 r2 r3 ) := by
  rcases alt0 h_r0 with rfl | rfl | rfl | rfl | rfl | rfl | rfl | rfl <;> kernel_rfl
def S0__law_lots_right_11 (r0 : Nat) (r1 : Nat) (r2 : Nat) (r3 : Nat) : Sl := [some (.ref 3), some (.ref 0), some ((d0__law_lots_right_0 r0 )), some ((d0__law_lots_right_1 r0 r1 )), some ((d0__law_lots_right_2 r0 r1 r2 )), some ((d0__law_lots_right_3 r0 r1 r2 r3 )), some (.ref 14), some (.gl 54), none, none, none]
def H0__law_lots_right_11 (a b c : Int) (r0 : Nat) (r1 : Nat) (r2 : Nat) (r3 : Nat) : Hs := [x0_0, x0_1, x0_2, .lst [.int a, .int b, .int c], .lst [.ref 0], .dk [], .lst [.non, .int 3, .str "room", .tup [.tup [.int 1, .int 0]], .ref 4, .ref 5, .bl true, .tup [.tup [.int 0, .int 1, .int 2], .tup [.int 0, .int 2, .int 1], .tup [.int 1, .int 0, .int 2], .tup [.int 1, .int 2, .int 0], .tup [.int 2, .int 0, .int 1], .tup [.int 2, .int 1, .int 0]]], .lst [.non, .int 6, .int (-1), .bl true, .str "1", .tup [.int 1], .int 1000000000000000000000000000000000000000000000000000000000000], .lst [.int 1], .dk [], .lst [.non, .int 1, .ref 8, .tup [.int 6], .tup [.int (-1)], .tup [.bl true], .tup [.str "1"], .tup [.int 1, .int 1, .int 1, .int 1, .int 1, .int 1, .int 1, .int 1, .int 1, .int 1, .int 1, .int 1, .int 1, .int 1, .int 1, .int 1, .int 1, .int 1, .int 1, .int 1, .int 1, .int 1, .int 1, .int 1, .int 1], .tup [.int 1, .non], .ref 9], .lst [.int 0], .dk [], .lst [.non, .int 0, .ref 11, .tup [], .tup [.int 1], .tup [.int 0, .int 1, .int 2], .tup [.int 0, .int 4, .int 3], .tup [.int 0, .int 6], .tup [.bl false], .tup [.int 0, .int 0], .str "0", .ref 12], .lst [.tup [.str "raised", .str "room"], .tup [.str "raised", .str "room"], .tup [.str "raised", .str "room"], .tup [.str "raised", .str "room"], .tup [.str "raised", .str "room"], .tup [.str "raised", .str "room"], .tup [.str "raised", .str "room"]]]
theorem r0__law_lots_right_10 (a b c : Int) (r0 : Nat) (r1 : Nat) (r2 : Nat) (r3 : Nat) (h_r0 : r0 < 8) (h_r1 : r1 < 7) (h_r2 : r2 < 10) (h_r3 : r3 < 12) : p__law_lots_right_10 3 (S0__law_lots_right_10 r0 r1 r2 r3 ) (H0__law_lots_right_10 a b c r0 r1 r2 r3 ) = .ok (.nx (S0__law_lots_right_11 r0 r1 r2 r3 )) (H0__law_lots_right_11 a b c r0 r1 r2 r3 ) := by
  rcases alt0 h_r0 with rfl | rfl | rfl | rfl | rfl | rfl | rfl | rfl <;> kernel_rfl
def S0__law_lots_right_12 (r0 : Nat) (r1 : Nat) (r2 : Nat) (r3 : Nat) : Sl := [some (.ref 3), some (.ref 0), some ((d0__law_lots_right_0 r0 )), some ((d0__law_lots_right_1 r0 r1 )), some ((d0__law_lots_right_2 r0 r1 r2 )), some ((d0__law_lots_right_3 r0 r1 r2 r3 )), some (.ref 14), some (.gl 54), none, none, none]
def H0__law_lots_right_12 (a b c : Int) (r0 : Nat) (r1 : Nat) (r2 : Nat) (r3 : Nat) : Hs := [x0_0, x0_1, x0_2, .lst [.int a, .int b, .int c], .lst [.ref 0], .dk [], .lst [.non, .int 3, .str "room", .tup [.tup [.int 1, .int 0]], .ref 4, .ref 5, .bl true, .tup [.tup [.int 0, .int 1, .int 2], .tup [.int 0, .int 2, .int 1], .tup [.int 1, .int 0, .int 2], .tup [.int 1, .int 2, .int 0], .tup [.int 2, .int 0, .int 1], .tup [.int 2, .int 1, .int 0]]], .lst [.non, .int 6, .int (-1), .bl true, .str "1", .tup [.int 1], .int 1000000000000000000000000000000000000000000000000000000000000], .lst [.int 1], .dk [], .lst [.non, .int 1, .ref 8, .tup [.int 6], .tup [.int (-1)], .tup [.bl true], .tup [.str "1"], .tup [.int 1, .int 1, .int 1, .int 1, .int 1, .int 1, .int 1, .int 1, .int 1, .int 1, .int 1, .int 1, .int 1, .int 1, .int 1, .int 1, .int 1, .int 1, .int 1, .int 1, .int 1, .int 1, .int 1, .int 1, .int 1], .tup [.int 1, .non], .ref 9], .lst [.int 0], .dk [], .lst [.non, .int 0, .ref 11, .tup [], .tup [.int 1], .tup [.int 0, .int 1, .int 2], .tup [.int 0, .int 4, .int 3], .tup [.int 0, .int 6], .tup [.bl false], .tup [.int 0, .int 0], .str "0", .ref 12], .lst [.tup [.str "raised", .str "room"], .tup [.str "raised", .str "room"], .tup [.str "raised", .str "room"], .tup [.str "raised", .str "room"], .tup [.str "raised", .str "room"], .tup [.str "raised", .str "room"], .tup [.str "raised", .str "room"], .tup [.str "raised", .str "operation"]]]
theorem r0__law_lots_right_11 (a b c : Int) (r0 : Nat) (r1 : Nat) (r2 : Nat) (r3 : Nat) (h_r0 : r0 < 8) (h_r1 : r1 < 7) (h_r2 : r2 < 10) (h_r3 : r3 < 12) : p__law_lots_right_11 3 (S0__law_lots_right_11 r0 r1 r2 r3 ) (H0__law_lots_right_11 a b c r0 r1 r2 r3 ) = .ok (.nx (S0__law_lots_right_12 r0 r1 r2 r3 )) (H0__law_lots_right_12 a b c r0 r1 r2 r3 ) := by
  rcases alt0 h_r2 with rfl | rfl | rfl | rfl | rfl | rfl | rfl | rfl | rfl | rfl <;> kernel_rfl
def S0__law_lots_right_13 (r0 : Nat) (r1 : Nat) (r2 : Nat) (r3 : Nat) : Sl := [some (.ref 3), some (.ref 0), some ((d0__law_lots_right_0 r0 )), some ((d0__law_lots_right_1 r0 r1 )), some ((d0__law_lots_right_2 r0 r1 r2 )), some ((d0__law_lots_right_3 r0 r1 r2 r3 )), some (.ref 14), some (.gl 54), none, none, none]
def H0__law_lots_right_13 (a b c : Int) (r0 : Nat) (r1 : Nat) (r2 : Nat) (r3 : Nat) : Hs := [x0_0, x0_1, x0_2, .lst [.int a, .int b, .int c], .lst [.ref 0], .dk [], .lst [.non, .int 3, .str "room", .tup [.tup [.int 1, .int 0]], .ref 4, .ref 5, .bl true, .tup [.tup [.int 0, .int 1, .int 2], .tup [.int 0, .int 2, .int 1], .tup [.int 1, .int 0, .int 2], .tup [.int 1, .int 2, .int 0], .tup [.int 2, .int 0, .int 1], .tup [.int 2, .int 1, .int 0]]], .lst [.non, .int 6, .int (-1), .bl true, .str "1", .tup [.int 1], .int 1000000000000000000000000000000000000000000000000000000000000], .lst [.int 1], .dk [], .lst [.non, .int 1, .ref 8, .tup [.int 6], .tup [.int (-1)], .tup [.bl true], .tup [.str "1"], .tup [.int 1, .int 1, .int 1, .int 1, .int 1, .int 1, .int 1, .int 1, .int 1, .int 1, .int 1, .int 1, .int 1, .int 1, .int 1, .int 1, .int 1, .int 1, .int 1, .int 1, .int 1, .int 1, .int 1, .int 1, .int 1], .tup [.int 1, .non], .ref 9], .lst [.int 0], .dk [], .lst [.non, .int 0, .ref 11, .tup [], .tup [.int 1], .tup [.int 0, .int 1, .int 2], .tup [.int 0, .int 4, .int 3], .tup [.int 0, .int 6], .tup [.bl false], .tup [.int 0, .int 0], .str "0", .ref 12], .lst [.tup [.str "raised", .str "room"], .tup [.str "raised", .str "room"], .tup [.str "raised", .str "room"], .tup [.str "raised", .str "room"], .tup [.str "raised", .str "room"], .tup [.str "raised", .str "room"], .tup [.str "raised", .str "room"], .tup [.str "raised", .str "operation"], .tup [.str "raised", .str "operation"]]]
theorem r0__law_lots_right_12 (a b c : Int) (r0 : Nat) (r1 : Nat) (r2 : Nat) (r3 : Nat) (h_r0 : r0 < 8) (h_r1 : r1 < 7) (h_r2 : r2 < 10) (h_r3 : r3 < 12) : p__law_lots_right_12 3 (S0__law_lots_right_12 r0 r1 r2 r3 ) (H0__law_lots_right_12 a b c r0 r1 r2 r3 ) = .ok (.nx (S0__law_lots_right_13 r0 r1 r2 r3 )) (H0__law_lots_right_13 a b c r0 r1 r2 r3 ) := by
  rcases alt0 h_r3 with rfl | rfl | rfl | rfl | rfl | rfl | rfl | rfl | rfl | rfl | rfl | rfl <;> kernel_rfl
def S0__law_lots_right_14 (r0 : Nat) (r1 : Nat) (r2 : Nat) (r3 : Nat) : Sl := [some (.ref 3), some (.ref 0), some ((d0__law_lots_right_0 r0 )), some ((d0__law_lots_right_1 r0 r1 )), some ((d0__law_lots_right_2 r0 r1 r2 )), some ((d0__law_lots_right_3 r0 r1 r2 r3 )), some (.ref 14), some (.gl 54), none, none, none]
def H0__law_lots_right_14 (a b c : Int) (r0 : Nat) (r1 : Nat) (r2 : Nat) (r3 : Nat) : Hs := [x0_0, x0_1, x0_2, .lst [.int a, .int b, .int c], .lst [.ref 0], .dk [], .lst [.non, .int 3, .str "room", .tup [.tup [.int 1, .int 0]], .ref 4, .ref 5, .bl true, .tup [.tup [.int 0, .int 1, .int 2], .tup [.int 0, .int 2, .int 1], .tup [.int 1, .int 0, .int 2], .tup [.int 1, .int 2, .int 0], .tup [.int 2, .int 0, .int 1], .tup [.int 2, .int 1, .int 0]]], .lst [.non, .int 6, .int (-1), .bl true, .str "1", .tup [.int 1], .int 1000000000000000000000000000000000000000000000000000000000000], .lst [.int 1], .dk [], .lst [.non, .int 1, .ref 8, .tup [.int 6], .tup [.int (-1)], .tup [.bl true], .tup [.str "1"], .tup [.int 1, .int 1, .int 1, .int 1, .int 1, .int 1, .int 1, .int 1, .int 1, .int 1, .int 1, .int 1, .int 1, .int 1, .int 1, .int 1, .int 1, .int 1, .int 1, .int 1, .int 1, .int 1, .int 1, .int 1, .int 1], .tup [.int 1, .non], .ref 9], .lst [.int 0], .dk [], .lst [.non, .int 0, .ref 11, .tup [], .tup [.int 1], .tup [.int 0, .int 1, .int 2], .tup [.int 0, .int 4, .int 3], .tup [.int 0, .int 6], .tup [.bl false], .tup [.int 0, .int 0], .str "0", .ref 12], .lst [.tup [.str "raised", .str "room"], .tup [.str "raised", .str "room"], .tup [.str "raised", .str "room"], .tup [.str "raised", .str "room"], .tup [.str "raised", .str "room"], .tup [.str "raised", .str "room"], .tup [.str "raised", .str "room"], .tup [.str "raised", .str "operation"], .tup [.str "raised", .str "operation"], .tup [.str "raised", .str "operation"]]]
theorem r0__law_lots_right_13 (a b c : Int) (r0 : Nat) (r1 : Nat) (r2 : Nat) (r3 : Nat) (h_r0 : r0 < 8) (h_r1 : r1 < 7) (h_r2 : r2 < 10) (h_r3 : r3 < 12) : p__law_lots_right_13 3 (S0__law_lots_right_13 r0 r1 r2 r3 ) (H0__law_lots_right_13 a b c r0 r1 r2 r3 ) = .ok (.nx (S0__law_lots_right_14 r0 r1 r2 r3 )) (H0__law_lots_right_14 a b c r0 r1 r2 r3 ) := by
  rcases alt0 h_r3 with rfl | rfl | rfl | rfl | rfl | rfl | rfl | rfl | rfl | rfl | rfl | rfl <;> kernel_rfl
def u0__law_lots_right_14_0 (r1 : Nat) : A := [.str "None", .str "6", .str "-1", .str "True", .str "'1'", .str "(1,)", .str "1000000000000000000000000000000000000000000000000000000000000"].getD r1 .non
def S0__law_lots_right_15 (r0 : Nat) (r1 : Nat) (r2 : Nat) (r3 : Nat) : Sl := [some (.ref 3), some (.ref 0), some ((d0__law_lots_right_0 r0 )), some ((d0__law_lots_right_1 r0 r1 )), some ((d0__law_lots_right_2 r0 r1 r2 )), some ((d0__law_lots_right_3 r0 r1 r2 r3 )), some (.ref 14), some (.gl 54), none, none, none]
def H0__law_lots_right_15 (a b c : Int) (r0 : Nat) (r1 : Nat) (r2 : Nat) (r3 : Nat) : Hs := [x0_0, x0_1, x0_2, .lst [.int a, .int b, .int c], .lst [.ref 0], .dk [], .lst [.non, .int 3, .str "room", .tup [.tup [.int 1, .int 0]], .ref 4, .ref 5, .bl true, .tup [.tup [.int 0, .int 1, .int 2], .tup [.int 0, .int 2, .int 1], .tup [.int 1, .int 0, .int 2], .tup [.int 1, .int 2, .int 0], .tup [.int 2, .int 0, .int 1], .tup [.int 2, .int 1, .int 0]]], .lst [.non, .int 6, .int (-1), .bl true, .str "1", .tup [.int 1], .int 1000000000000000000000000000000000000000000000000000000000000], .lst [.int 1], .dk [], .lst [.non, .int 1, .ref 8, .tup [.int 6], .tup [.int (-1)], .tup [.bl true], .tup [.str "1"], .tup [.int 1, .int 1, .int 1, .int 1, .int 1, .int 1, .int 1, .int 1, .int 1, .int 1, .int 1, .int 1, .int 1, .int 1, .int 1, .int 1, .int 1, .int 1, .int 1, .int 1, .int 1, .int 1, .int 1, .int 1, .int 1], .tup [.int 1, .non], .ref 9], .lst [.int 0], .dk [], .lst [.non, .int 0, .ref 11, .tup [], .tup [.int 1], .tup [.int 0, .int 1, .int 2], .tup [.int 0, .int 4, .int 3], .tup [.int 0, .int 6], .tup [.bl false], .tup [.int 0, .int 0], .str "0", .ref 12], .lst [.tup [.str "raised", .str "room"], .tup [.str "raised", .str "room"], .tup [.str "raised", .str "room"], .tup [.str "raised", .str "room"], .tup [.str "raised", .str "room"], .tup [.str "raised", .str "room"], .tup [.str "raised", .str "room"], .tup [.str "raised", .str "operation"], .tup [.str "raised", .str "operation"], .tup [.str "raised", .str "operation"], .tup [.str "raised", .str "number", (u0__law_lots_right_14_0 r1)]]]
theorem r0__law_lots_right_14 (a b c : Int) (r0 : Nat) (r1 : Nat) (r2 : Nat) (r3 : Nat) (h_r0 : r0 < 8) (h_r1 : r1 < 7) (h_r2 : r2 < 10) (h_r3 : r3 < 12) : p__law_lots_right_14 3 (S0__law_lots_right_14 r0 r1 r2 r3 ) (H0__law_lots_right_14 a b c r0 r1 r2 r3 ) = .ok (.nx (S0__law_lots_right_15 r0 r1 r2 r3 )) (H0__law_lots_right_15 a b c r0 r1 r2 r3 ) := by
  rcases alt0 h_r1 with rfl | rfl | rfl | rfl | rfl | rfl | rfl <;> kernel_rfl
def u0__law_lots_right_15_0 (r1 : Nat) : A := [.str "None", .str "6", .str "-1", .str "True", .str "'1'", .str "(1,)", .str "1000000000000000000000000000000000000000000000000000000000000"].getD r1 .non
def S0__law_lots_right_16 (r0 : Nat) (r1 : Nat) (r2 : Nat) (r3 : Nat) : Sl := [some (.ref 3), some (.ref 0), some ((d0__law_lots_right_0 r0 )), some ((d0__law_lots_right_1 r0 r1 )), some ((d0__law_lots_right_2 r0 r1 r2 )), some ((d0__law_lots_right_3 r0 r1 r2 r3 )), some (.ref 14), some (.gl 54), none, none, none]
def H0__law_lots_right_16 (a b c : Int) (r0 : Nat) (r1 : Nat) (r2 : Nat) (r3 : Nat) : Hs := [x0_0, x0_1, x0_2, .lst [.int a, .int b, .int c], .lst [.ref 0], .dk [], .lst [.non, .int 3, .str "room", .tup [.tup [.int 1, .int 0]], .ref 4, .ref 5, .bl true, .tup [.tup [.int 0, .int 1, .int 2], .tup [.int 0, .int 2, .int 1], .tup [.int 1, .int 0, .int 2], .tup [.int 1, .int 2, .int 0], .tup [.int 2, .int 0, .int 1], .tup [.int 2, .int 1, .int 0]]], .lst [.non, .int 6, .int (-1), .bl true, .str "1", .tup [.int 1], .int 1000000000000000000000000000000000000000000000000000000000000], .lst [.int 1], .dk [], .lst [.non, .int 1, .ref 8, .tup [.int 6], .tup [.int (-1)], .tup [.bl true], .tup [.str "1"], .tup [.int 1, .int 1, .int 1, .int 1, .int 1, .int 1, .int 1, .int 1, .int 1, .int 1, .int 1, .int 1, .int 1, .int 1, .int 1, .int 1, .int 1, .int 1, .int 1, .int 1, .int 1, .int 1, .int 1, .int 1, .int 1], .tup [.int 1, .non], .ref 9], .lst [.int 0], .dk [], .lst [.non, .int 0, .ref 11, .tup [], .tup [.int 1], .tup [.int 0, .int 1, .int 2], .tup [.int 0, .int 4, .int 3], .tup [.int 0, .int 6], .tup [.bl false], .tup [.int 0, .int 0], .str "0", .ref 12], .lst [.tup [.str "raised", .str "room"], .tup [.str "raised", .str "room"], .tup [.str "raised", .str "room"], .tup [.str "raised", .str "room"], .tup [.str "raised", .str "room"], .tup [.str "raised", .str "room"], .tup [.str "raised", .str "room"], .tup [.str "raised", .str "operation"], .tup [.str "raised", .str "operation"], .tup [.str "raised", .str "operation"], .tup [.str "raised", .str "number", (u0__law_lots_right_14_0 r1)], .tup [.str "raised", .str "number", (u0__law_lots_right_15_0 r1)]]]
theorem r0__law_lots_right_15 (a b c : Int) (r0 : Nat) (r1 : Nat) (r2 : Nat) (r3 : Nat) (h_r0 : r0 < 8) (h_r1 : r1 < 7) (h_r2 : r2 < 10) (h_r3 : r3 < 12) : p__law_lots_right_15 3 (S0__law_lots_right_15 r0 r1 r2 r3 ) (H0__law_lots_right_15 a b c r0 r1 r2 r3 ) = .ok (.nx (S0__law_lots_right_16 r0 r1 r2 r3 )) (H0__law_lots_right_16 a b c r0 r1 r2 r3 ) := by
  rcases alt0 h_r1 with rfl | rfl | rfl | rfl | rfl | rfl | rfl <;> kernel_rfl
def u0__law_lots_right_16_0 (r1 : Nat) : A := [.str "None", .str "6", .str "-1", .str "True", .str "'1'", .str "(1,)", .str "1000000000000000000000000000000000000000000000000000000000000"].getD r1 .non
def S0__law_lots_right_17 (r0 : Nat) (r1 : Nat) (r2 : Nat) (r3 : Nat) : Sl := [some (.ref 3), some (.ref 0), some ((d0__law_lots_right_0 r0 )), some ((d0__law_lots_right_1 r0 r1 )), some ((d0__law_lots_right_2 r0 r1 r2 )), some ((d0__law_lots_right_3 r0 r1 r2 r3 )), some (.ref 14), some (.gl 54), none, none, none]
def H0__law_lots_right_17 (a b c : Int) (r0 : Nat) (r1 : Nat) (r2 : Nat) (r3 : Nat) : Hs := [x0_0, x0_1, x0_2, .lst [.int a, .int b, .int c], .lst [.ref 0], .dk [], .lst [.non, .int 3, .str "room", .tup [.tup [.int 1, .int 0]], .ref 4, .ref 5, .bl true, .tup [.tup [.int 0, .int 1, .int 2], .tup [.int 0, .int 2, .int 1], .tup [.int 1, .int 0, .int 2], .tup [.int 1, .int 2, .int 0], .tup [.int 2, .int 0, .int 1], .tup [.int 2, .int 1, .int 0]]], .lst [.non, .int 6, .int (-1), .bl true, .str "1", .tup [.int 1], .int 1000000000000000000000000000000000000000000000000000000000000], .lst [.int 1], .dk [], .lst [.non, .int 1, .ref 8, .tup [.int 6], .tup [.int (-1)], .tup [.bl true], .tup [.str "1"], .tup [.int 1, .int 1, .int 1, .int 1, .int 1, .int 1, .int 1, .int 1, .int 1, .int 1, .int 1, .int 1, .int 1, .int 1, .int 1, .int 1, .int 1, .int 1, .int 1, .int 1, .int 1, .int 1, .int 1, .int 1, .int 1], .tup [.int 1, .non], .ref 9], .lst [.int 0], .dk [], .lst [.non, .int 0, .ref 11, .tup [], .tup [.int 1], .tup [.int 0, .int 1, .int 2], .tup [.int 0, .int 4, .int 3], .tup [.int 0, .int 6], .tup [.bl false], .tup [.int 0, .int 0], .str "0", .ref 12], .lst [.tup [.str "raised", .str "room"], .tup [.str "raised", .str "room"], .tup [.str "raised", .str "room"], .tup [.str "raised", .str "room"], .tup [.str "raised", .str "room"], .tup [.str "raised", .str "room"], .tup [.str "raised", .str "room"], .tup [.str "raised", .str "operation"], .tup [.str "raised", .str "operation"], .tup [.str "raised", .str "operation"], .tup [.str "raised", .str "number", (u0__law_lots_right_14_0 r1)], .tup [.str "raised", .str "number", (u0__law_lots_right_15_0 r1)], .tup [.str "raised", .str "number", (u0__law_lots_right_16_0 r1)]]]
theorem r0__law_lots_right_16 (a b c : Int) (r0 : Nat) (r1 : Nat) (r2 : Nat) (r3 : Nat) (h_r0 : r0 < 8) (h_r1 : r1 < 7) (h_r2 : r2 < 10) (h_r3 : r3 < 12) : p__law_lots_right_16 3 (S0__law_lots_right_16 r0 r1 r2 r3 ) (H0__law_lots_right_16 a b c r0 r1 r2 r3 ) = .ok (.nx (S0__law_lots_right_17 r0 r1 r2 r3 )) (H0__law_lots_right_17 a b c r0 r1 r2 r3 ) := by
  rcases alt0 h_r1 with rfl | rfl | rfl | rfl | rfl | rfl | rfl <;> kernel_rfl
def S0__law_lots_right_18 (r0 : Nat) (r1 : Nat) (r2 : Nat) (r3 : Nat) : Sl := [some (.ref 3), some (.ref 0), some ((d0__law_lots_right_0 r0 )), some ((d0__law_lots_right_1 r0 r1 )), some ((d0__law_lots_right_2 r0 r1 r2 )), some ((d0__law_lots_right_3 r0 r1 r2 r3 )), some (.ref 14), some (.gl 54), none, none, none]
def H0__law_lots_right_18 (a b c : Int) (r0 : Nat) (r1 : Nat) (r2 : Nat) (r3 : Nat) : Hs := [x0_0, x0_1, x0_2, .lst [.int a, .int b, .int c], .lst [.ref 0], .dk [], .lst [.non, .int 3, .str "room", .tup [.tup [.int 1, .int 0]], .ref 4, .ref 5, .bl true, .tup [.tup [.int 0, .int 1, .int 2], .tup [.int 0, .int 2, .int 1], .tup [.int 1, .int 0, .int 2], .tup [.int 1, .int 2, .int 0], .tup [.int 2, .int 0, .int 1], .tup [.int 2, .int 1, .int 0]]], .lst [.non, .int 6, .int (-1), .bl true, .str "1", .tup [.int 1], .int 1000000000000000000000000000000000000000000000000000000000000], .lst [.int 1], .dk [], .lst [.non, .int 1, .ref 8, .tup [.int 6], .tup [.int (-1)], .tup [.bl true], .tup [.str "1"], .tup [.int 1, .int 1, .int 1, .int 1, .int 1, .int 1, .int 1, .int 1, .int 1, .int 1, .int 1, .int 1, .int 1, .int 1, .int 1, .int 1, .int 1, .int 1, .int 1, .int 1, .int 1, .int 1, .int 1, .int 1, .int 1], .tup [.int 1, .non], .ref 9], .lst [.int 0], .dk [], .lst [.non, .int 0, .ref 11, .tup [], .tup [.int 1], .tup [.int 0, .int 1, .int 2], .tup [.int 0, .int 4, .int 3], .tup [.int 0, .int 6], .tup [.bl false], .tup [.int 0, .int 0], .str "0", .ref 12], .lst [.tup [.str "raised", .str "room"], .tup [.str "raised", .str "room"], .tup [.str "raised", .str "room"], .tup [.str "raised", .str "room"], .tup [.str "raised", .str "room"], .tup [.str "raised", .str "room"], .tup [.str "raised", .str "room"], .tup [.str "raised", .str "operation"], .tup [.str "raised", .str "operation"], .tup [.str "raised", .str "operation"], .tup [.str "raised", .str "number", (u0__law_lots_right_14_0 r1)], .tup [.str "raised", .str "number", (u0__law_lots_right_15_0 r1)], .tup [.str "raised", .str "number", (u0__law_lots_right_16_0 r1)], .tup [.str "let"]]]
theorem r0__law_lots_right_17 (a b c : Int) (r0 : Nat) (r1 : Nat) (r2 : Nat) (r3 : Nat) (h_r0 : r0 < 8) (h_r1 : r1 < 7) (h_r2 : r2 < 10) (h_r3 : r3 < 12) : p__law_lots_right_17 3 (S0__law_lots_right_17 r0 r1 r2 r3 ) (H0__law_lots_right_17 a b c r0 r1 r2 r3 ) = .ok (.nx (S0__law_lots_right_18 r0 r1 r2 r3 )) (H0__law_lots_right_18 a b c r0 r1 r2 r3 ) := by
  kernel_rfl
def u0__law_lots_right_18_0 (r1 : Nat) : A := [.str "None", .str "6", .str "-1", .str "True", .str "'1'", .str "(1,)", .str "1000000000000000000000000000000000000000000000000000000000000"].getD r1 .non
def S0__law_lots_right_19 (r0 : Nat) (r1 : Nat) (r2 : Nat) (r3 : Nat) : Sl := [some (.ref 3), some (.ref 0), some ((d0__law_lots_right_0 r0 )), some ((d0__law_lots_right_1 r0 r1 )), some ((d0__law_lots_right_2 r0 r1 r2 )), some ((d0__law_lots_right_3 r0 r1 r2 r3 )), some (.ref 14), some (.gl 54), some (.tup [.str "raised", .str "number", (u0__law_lots_right_18_0 r1)]), some (.tup [.str "raised", .str "operation"]), none]
def H0__law_lots_right_19 (a b c : Int) (r0 : Nat) (r1 : Nat) (r2 : Nat) (r3 : Nat) : Hs := [x0_0, x0_1, x0_2, .lst [.int a, .int b, .int c], .lst [.ref 0], .dk [], .lst [.non, .int 3, .str "room", .tup [.tup [.int 1, .int 0]], .ref 4, .ref 5, .bl true, .tup [.tup [.int 0, .int 1, .int 2], .tup [.int 0, .int 2, .int 1], .tup [.int 1, .int 0, .int 2], .tup [.int 1, .int 2, .int 0], .tup [.int 2, .int 0, .int 1], .tup [.int 2, .int 1, .int 0]]], .lst [.non, .int 6, .int (-1), .bl true, .str "1", .tup [.int 1], .int 1000000000000000000000000000000000000000000000000000000000000], .lst [.int 1], .dk [], .lst [.non, .int 1, .ref 8, .tup [.int 6], .tup [.int (-1)], .tup [.bl true], .tup [.str "1"], .tup [.int 1, .int 1, .int 1, .int 1, .int 1, .int 1, .int 1, .int 1, .int 1, .int 1, .int 1, .int 1, .int 1, .int 1, .int 1, .int 1, .int 1, .int 1, .int 1, .int 1, .int 1, .int 1, .int 1, .int 1, .int 1], .tup [.int 1, .non], .ref 9], .lst [.int 0], .dk [], .lst [.non, .int 0, .ref 11, .tup [], .tup [.int 1], .tup [.int 0, .int 1, .int 2], .tup [.int 0, .int 4, .int 3], .tup [.int 0, .int 6], .tup [.bl false], .tup [.int 0, .int 0], .str "0", .ref 12], .lst [.tup [.str "raised", .str "room"], .tup [.str "raised", .str "room"], .tup [.str "raised", .str "room"], .tup [.str "raised", .str "room"], .tup [.str "raised", .str "room"], .tup [.str "raised", .str "room"], .tup [.str "raised", .str "room"], .tup [.str "raised", .str "operation"], .tup [.str "raised", .str "operation"], .tup [.str "raised", .str "operation"], .tup [.str "raised", .str "number", (u0__law_lots_right_14_0 r1)], .tup [.str "raised", .str "number", (u0__law_lots_right_15_0 r1)], .tup [.str "raised", .str "number", (u0__law_lots_right_16_0 r1)], .tup [.str "let"]]]
theorem r0__law_lots_right_18 (a b c : Int) (r0 : Nat) (r1 : Nat) (r2 : Nat) (r3 : Nat) (h_r0 : r0 < 8) (h_r1 : r1 < 7) (h_r2 : r2 < 10) (h_r3 : r3 < 12) : p__law_lots_right_18 3 (S0__law_lots_right_18 r0 r1 r2 r3 ) (H0__law_lots_right_18 a b c r0 r1 r2 r3 ) = .ok (.nx (S0__law_lots_right_19 r0 r1 r2 r3 )) (H0__law_lots_right_19 a b c r0 r1 r2 r3 ) := by
  rcases alt0 h_r1 with rfl | rfl | rfl | rfl | rfl | rfl | rfl <;> kernel_rfl
def S0__law_lots_right_20 (r0 : Nat) (r1 : Nat) (r2 : Nat) (r3 : Nat) : Sl := [some (.ref 3), some (.ref 0), some ((d0__law_lots_right_0 r0 )), some ((d0__law_lots_right_1 r0 r1 )), some ((d0__law_lots_right_2 r0 r1 r2 )), some ((d0__law_lots_right_3 r0 r1 r2 r3 )), some (.ref 14), some (.gl 54), some (.tup [.str "raised", .str "number", (u0__law_lots_right_18_0 r1)]), some (.tup [.str "raised", .str "operation"]), some (.ref 24)]
def H0__law_lots_right_20 (a b c : Int) (r0 : Nat) (r1 : Nat) (r2 : Nat) (r3 : Nat) : Hs := [x0_0, x0_1, x0_2, .lst [.int a, .int b, .int c], .lst [.ref 0], .dk [], .lst [.non, .int 3, .str "room", .tup [.tup [.int 1, .int 0]], .ref 4, .ref 5, .bl true, .tup [.tup [.int 0, .int 1, .int 2], .tup [.int 0, .int 2, .int 1], .tup [.int 1, .int 0, .int 2], .tup [.int 1, .int 2, .int 0], .tup [.int 2, .int 0, .int 1], .tup [.int 2, .int 1, .int 0]]], .lst [.non, .int 6, .int (-1), .bl true, .str "1", .tup [.int 1], .int 1000000000000000000000000000000000000000000000000000000000000], .lst [.int 1], .dk [], .lst [.non, .int 1, .ref 8, .tup [.int 6], .tup [.int (-1)], .tup [.bl true], .tup [.str "1"], .tup [.int 1, .int 1, .int 1, .int 1, .int 1, .int 1, .int 1, .int 1, .int 1, .int 1, .int 1, .int 1, .int 1, .int 1, .int 1, .int 1, .int 1, .int 1, .int 1, .int 1, .int 1, .int 1, .int 1, .int 1, .int 1], .tup [.int 1, .non], .ref 9], .lst [.int 0], .dk [], .lst [.non, .int 0, .ref 11, .tup [], .tup [.int 1], .tup [.int 0, .int 1, .int 2], .tup [.int 0, .int 4, .int 3], .tup [.int 0, .int 6], .tup [.bl false], .tup [.int 0, .int 0], .str "0", .ref 12], .lst [.tup [.str "raised", .str "room"], .tup [.str "raised", .str "room"], .tup [.str "raised", .str "room"], .tup [.str "raised", .str "room"], .tup [.str "raised", .str "room"], .tup [.str "raised", .str "room"], .tup [.str "raised", .str "room"], .tup [.str "raised", .str "operation"], .tup [.str "raised", .str "operation"], .tup [.str "raised", .str "operation"], .tup [.str "raised", .str "number", (u0__law_lots_right_14_0 r1)], .tup [.str "raised", .str "number", (u0__law_lots_right_15_0 r1)], .tup [.str "raised", .str "number", (u0__law_lots_right_16_0 r1)], .tup [.str "let"]], .lst [.tup [.str "raised", .str "room"]], .lst [.tup [.str "raised", .str "room"], .tup [.str "raised", .str "room"], .tup [.str "raised", .str "room"], .tup [.str "raised", .str "room"], .tup [.str "raised", .str "room"], .tup [.str "raised", .str "room"], .tup [.str "raised", .str "room"]], .lst [.tup [.str "raised", .str "operation"]], .lst [.tup [.str "raised", .str "operation"], .tup [.str "raised", .str "operation"], .tup [.str "raised", .str "operation"]], .lst [.tup [.str "raised", .str "room"], .tup [.str "raised", .str "room"], .tup [.str "raised", .str "room"], .tup [.str "raised", .str "room"], .tup [.str "raised", .str "room"], .tup [.str "raised", .str "room"], .tup [.str "raised", .str "room"], .tup [.str "raised", .str "operation"], .tup [.str "raised", .str "operation"], .tup [.str "raised", .str "operation"]], .lst [.tup [.str "raised", .str "number", (u0__law_lots_right_18_0 r1)]], .lst [.tup [.str "raised", .str "number", (u0__law_lots_right_18_0 r1)], .tup [.str "raised", .str "number", (u0__law_lots_right_18_0 r1)], .tup [.str "raised", .str "number", (u0__law_lots_right_18_0 r1)]], .lst [.tup [.str "raised", .str "room"], .tup [.str "raised", .str "room"], .tup [.str "raised", .str "room"], .tup [.str "raised", .str "room"], .tup [.str "raised", .str "room"], .tup [.str "raised", .str "room"], .tup [.str "raised", .str "room"], .tup [.str "raised", .str "operation"], .tup [.str "raised", .str "operation"], .tup [.str "raised", .str "operation"], .tup [.str "raised", .str "number", (u0__law_lots_right_18_0 r1)], .tup [.str "raised", .str "number", (u0__law_lots_right_18_0 r1)], .tup [.str "raised", .str "number", (u0__law_lots_right_18_0 r1)]], .lst [.tup [.str "let"]], .lst [.tup [.str "raised", .str "room"], .tup [.str "raised", .str "room"], .tup [.str "raised", .str "room"], .tup [.str "raised", .str "room"], .tup [.str "raised", .str "room"], .tup [.str "raised", .str "room"], .tup [.str "raised", .str "room"], .tup [.str "raised", .str "operation"], .tup [.str "raised", .str "operation"], .tup [.str "raised", .str "operation"], .tup [.str "raised", .str "number", (u0__law_lots_right_18_0 r1)], .tup [.str "raised", .str "number", (u0__law_lots_right_18_0 r1)], .tup [.str "raised", .str "number", (u0__law_lots_right_18_0 r1)], .tup [.str "let"]]]
theorem r0__law_lots_right_19 (a b c : Int) (r0 : Nat) (r1 : Nat) (r2 : Nat) (r3 : Nat) (h_r0 : r0 < 8) (h_r1 : r1 < 7) (h_r2 : r2 < 10) (h_r3 : r3 < 12) : p__law_lots_right_19 3 (S0__law_lots_right_19 r0 r1 r2 r3 ) (H0__law_lots_right_19 a b c r0 r1 r2 r3 ) = .ok (.nx (S0__law_lots_right_20 r0 r1 r2 r3 )) (H0__law_lots_right_20 a b c r0 r1 r2 r3 ) := by
  kernel_rfl
theorem r0__law_lots_right_20 (a b c : Int) (r0 : Nat) (r1 : Nat) (r2 : Nat) (r3 : Nat) (h_r0 : r0 < 8) (h_r1 : r1 < 7) (h_r2 : r2 < 10) (h_r3 : r3 < 12) : retT 4 (p__law_lots_right_20 3 (S0__law_lots_right_20 r0 r1 r2 r3 ) (H0__law_lots_right_20 a b c r0 r1 r2 r3 )) = some (.bl true, H0__law_lots_right_0 a b c ) := by
  rcases alt0 h_r1 with rfl | rfl | rfl | rfl | rfl | rfl | rfl
  · rcases alt0 h_r3 with rfl | rfl | rfl | rfl | rfl | rfl | rfl | rfl | rfl | rfl | rfl | rfl <;> kernel_rfl
  · rcases alt0 h_r3 with rfl | rfl | rfl | rfl | rfl | rfl | rfl | rfl | rfl | rfl | rfl | rfl <;> kernel_rfl
  · rcases alt0 h_r3 with rfl | rfl | rfl | rfl | rfl | rfl | rfl | rfl | rfl | rfl | rfl | rfl <;> kernel_rfl
  · rcases alt0 h_r3 with rfl | rfl | rfl | rfl | rfl | rfl | rfl | rfl | rfl | rfl | rfl | rfl <;> kernel_rfl
  · rcases alt0 h_r3 with rfl | rfl | rfl | rfl | rfl | rfl | rfl | rfl | rfl | rfl | rfl | rfl <;> kernel_rfl
  · rcases alt0 h_r3 with rfl | rfl | rfl | rfl | rfl | rfl | rfl | rfl | rfl | rfl | rfl | rfl <;> kernel_rfl
  · rcases alt0 h_r3 with rfl | rfl | rfl | rfl | rfl | rfl | rfl | rfl | rfl | rfl | rfl | rfl <;> kernel_rfl
theorem right__law_lots_right (a b c : Int) (k : Nat) (hc : Cn k c) (hk : k < 1000) : ∃ a' c', Cn (k + 4) c' ∧ trimF (lenF 2 f__law_lots_right) [.ref 3, .ref 0] 3 (H0__law_lots_right_0 a b c) = .ok (.bl true) (H0__law_lots_right_0 a' b c') := by
  rw [trim_len rfl]
  refine body_retT (m := 4) (n := 11) (b := b__law_lots_right) (H := fun a c => H0__law_lots_right_0 a b c) ?_ (by kernel_rfl) (fun _ _ => by kernel_rfl)
  show RetT 4 (k + 4) (fun a c => H0__law_lots_right_0 a b c) (q__law_lots_right_0 3 (S0__law_lots_right_0 ) (H0__law_lots_right_0 a b c))
  refine draw_stepI choose_ok (P := RetT 4 (k + 4) (fun a c => H0__law_lots_right_0 a b c)) (k := k + 0) (i := 2) (ti := 0) (t := 3) (a := a) (b := b) (fm := m__law_lots_right_0) (q := q__law_lots_right_1) (xs := (al0__law_lots_right_0 )) (s' := fun r0 => S0__law_lots_right_1 r0 ) (h' := fun r0 a c => H0__law_lots_right_1 a b c r0 ) (r0__law_lots_right_0 a b c ) (by kernel_rfl) (by kernel_rfl) (by kernel_rfl) hc (by omega) (by kernel_rfl) (fun _ => by kernel_rfl) (by kernel_rfl) (fun _ => by kernel_rfl) (fun _ _ _ => by kernel_rfl) (fun r0 a c h_r0 hc => ?_)
  refine draw_stepI choose_ok (P := RetT 4 (k + 4) (fun a c => H0__law_lots_right_0 a b c)) (k := k + 1) (i := 3) (ti := 0) (t := 3) (a := a) (b := b) (fm := m__law_lots_right_1) (q := q__law_lots_right_2) (xs := (al0__law_lots_right_1 r0 )) (s' := fun r1 => S0__law_lots_right_2 r0 r1 ) (h' := fun r1 a c => H0__law_lots_right_2 a b c r0 r1 ) (r0__law_lots_right_1 a b c r0 h_r0 ) (by kernel_rfl) (by kernel_rfl) (by kernel_rfl) hc (by omega) (by kernel_rfl) (fun _ => by kernel_rfl) (by kernel_rfl) (fun _ => by kernel_rfl) (fun _ _ _ => by kernel_rfl) (fun r1 a c h_r1 hc => ?_)
  refine draw_stepI choose_ok (P := RetT 4 (k + 4) (fun a c => H0__law_lots_right_0 a b c)) (k := k + 2) (i := 4) (ti := 0) (t := 3) (a := a) (b := b) (fm := m__law_lots_right_2) (q := q__law_lots_right_3) (xs := (al0__law_lots_right_2 r0 r1 )) (s' := fun r2 => S0__law_lots_right_3 r0 r1 r2 ) (h' := fun r2 a c => H0__law_lots_right_3 a b c r0 r1 r2 ) (r0__law_lots_right_2 a b c r0 r1 h_r0 h_r1 ) (by kernel_rfl) (by kernel_rfl) (by kernel_rfl) hc (by omega) (by kernel_rfl) (fun _ => by kernel_rfl) (by kernel_rfl) (fun _ => by kernel_rfl) (fun _ _ _ => by kernel_rfl) (fun r2 a c h_r2 hc => ?_)
  refine draw_stepI choose_ok (P := RetT 4 (k + 4) (fun a c => H0__law_lots_right_0 a b c)) (k := k + 3) (i := 5) (ti := 0) (t := 3) (a := a) (b := b) (fm := m__law_lots_right_3) (q := q__law_lots_right_4) (xs := (al0__law_lots_right_3 r0 r1 r2 )) (s' := fun r3 => S0__law_lots_right_4 r0 r1 r2 r3 ) (h' := fun r3 a c => H0__law_lots_right_4 a b c r0 r1 r2 r3 ) (r0__law_lots_right_3 a b c r0 r1 r2 h_r0 h_r1 h_r2 ) (by kernel_rfl) (by kernel_rfl) (by kernel_rfl) hc (by omega) (by kernel_rfl) (fun _ => by kernel_rfl) (by kernel_rfl) (fun _ => by kernel_rfl) (fun _ _ _ => by kernel_rfl) (fun r3 a c h_r3 hc => ?_)
  refine step (P := RetT 4 (k + 4) (fun a c => H0__law_lots_right_0 a b c)) (p := p__law_lots_right_4) (q := q__law_lots_right_5) (r0__law_lots_right_4 a b c r0 r1 r2 r3 h_r0 h_r1 h_r2 h_r3 ) ?_
  refine step (P := RetT 4 (k + 4) (fun a c => H0__law_lots_right_0 a b c)) (p := p__law_lots_right_5) (q := q__law_lots_right_6) (r0__law_lots_right_5 a b c r0 r1 r2 r3 h_r0 h_r1 h_r2 h_r3 ) ?_
  refine step (P := RetT 4 (k + 4) (fun a c => H0__law_lots_right_0 a b c)) (p := p__law_lots_right_6) (q := q__law_lots_right_7) (r0__law_lots_right_6 a b c r0 r1 r2 r3 h_r0 h_r1 h_r2 h_r3 ) ?_
  refine step (P := RetT 4 (k + 4) (fun a c => H0__law_lots_right_0 a b c)) (p := p__law_lots_right_7) (q := q__law_lots_right_8) (r0__law_lots_right_7 a b c r0 r1 r2 r3 h_r0 h_r1 h_r2 h_r3 ) ?_
  refine step (P := RetT 4 (k + 4) (fun a c => H0__law_lots_right_0 a b c)) (p := p__law_lots_right_8) (q := q__law_lots_right_9) (r0__law_lots_right_8 a b c r0 r1 r2 r3 h_r0 h_r1 h_r2 h_r3 ) ?_
  refine step (P := RetT 4 (k + 4) (fun a c => H0__law_lots_right_0 a b c)) (p := p__law_lots_right_9) (q := q__law_lots_right_10) (r0__law_lots_right_9 a b c r0 r1 r2 r3 h_r0 h_r1 h_r2 h_r3 ) ?_
  refine step (P := RetT 4 (k + 4) (fun a c => H0__law_lots_right_0 a b c)) (p := p__law_lots_right_10) (q := q__law_lots_right_11) (r0__law_lots_right_10 a b c r0 r1 r2 r3 h_r0 h_r1 h_r2 h_r3 ) ?_
  refine step (P := RetT 4 (k + 4) (fun a c => H0__law_lots_right_0 a b c)) (p := p__law_lots_right_11) (q := q__law_lots_right_12) (r0__law_lots_right_11 a b c r0 r1 r2 r3 h_r0 h_r1 h_r2 h_r3 ) ?_
  refine step (P := RetT 4 (k + 4) (fun a c => H0__law_lots_right_0 a b c)) (p := p__law_lots_right_12) (q := q__law_lots_right_13) (r0__law_lots_right_12 a b c r0 r1 r2 r3 h_r0 h_r1 h_r2 h_r3 ) ?_
  refine step (P := RetT 4 (k + 4) (fun a c => H0__law_lots_right_0 a b c)) (p := p__law_lots_right_13) (q := q__law_lots_right_14) (r0__law_lots_right_13 a b c r0 r1 r2 r3 h_r0 h_r1 h_r2 h_r3 ) ?_
  refine step (P := RetT 4 (k + 4) (fun a c => H0__law_lots_right_0 a b c)) (p := p__law_lots_right_14) (q := q__law_lots_right_15) (r0__law_lots_right_14 a b c r0 r1 r2 r3 h_r0 h_r1 h_r2 h_r3 ) ?_
  refine step (P := RetT 4 (k + 4) (fun a c => H0__law_lots_right_0 a b c)) (p := p__law_lots_right_15) (q := q__law_lots_right_16) (r0__law_lots_right_15 a b c r0 r1 r2 r3 h_r0 h_r1 h_r2 h_r3 ) ?_
  refine step (P := RetT 4 (k + 4) (fun a c => H0__law_lots_right_0 a b c)) (p := p__law_lots_right_16) (q := q__law_lots_right_17) (r0__law_lots_right_16 a b c r0 r1 r2 r3 h_r0 h_r1 h_r2 h_r3 ) ?_
  refine step (P := RetT 4 (k + 4) (fun a c => H0__law_lots_right_0 a b c)) (p := p__law_lots_right_17) (q := q__law_lots_right_18) (r0__law_lots_right_17 a b c r0 r1 r2 r3 h_r0 h_r1 h_r2 h_r3 ) ?_
  refine step (P := RetT 4 (k + 4) (fun a c => H0__law_lots_right_0 a b c)) (p := p__law_lots_right_18) (q := q__law_lots_right_19) (r0__law_lots_right_18 a b c r0 r1 r2 r3 h_r0 h_r1 h_r2 h_r3 ) ?_
  refine step (P := RetT 4 (k + 4) (fun a c => H0__law_lots_right_0 a b c)) (p := p__law_lots_right_19) (q := q__law_lots_right_20) (r0__law_lots_right_19 a b c r0 r1 r2 r3 h_r0 h_r1 h_r2 h_r3 ) ?_
  exact ⟨a, c, hc, (r0__law_lots_right_20 a b c r0 r1 r2 r3 h_r0 h_r1 h_r2 h_r3 )⟩
theorem loop0 (ns : List Int) : ∃ z, p_law_1 0 [some ((.lit ns)), some (.ref 0), none, none] hR0 = .ok (.nx [some ((.lit ns)), some (.ref 0), some (z), none]) hR0 := by
  have hx : Hs.seq hR0 (.lit ns) = some (ns.map A.int) := rfl
  obtain ⟨m, h1, h2, e⟩ := cells (i0 := 0) (k := 2) (lo := 0) (s := [some ((.lit ns)), some (.ref 0), none, none]) (h := hR0) (by decide) (by decide) rfl hx
  have turn : ∀ (k : Nat) (y : Option A), k ≤ 1 → ∃ s', bT (.nm 2) (.int k) ([some ((.lit ns)), some (.ref 0), none, none].set 2 y) = some s' ∧ w_law_1 0 s' hR0 = .ok (.nx ([some ((.lit ns)), some (.ref 0), none, none].set 2 (some (.int k)))) hR0 := by
    intro k y hk
    refine ⟨_, rfl, ?_⟩
    obtain ⟨a, b, et⟩ := tank_ok (lo := 3) (h := hR0) hx (k := k) (by omega)
    have el : (hR0).length = 3 := by kernel_rfl
    rw [el] at et
    have e0 : hR0 ++ [.lst [.int a, .int b, .int 0]] = H0__law_rooms_right_0 a b 0 := by kernel_rfl
    rw [e0] at et
    obtain ⟨a1, c1, hc1, er1⟩ := right__law_rooms_right a b 0 0 ⟨by decide, by decide⟩ (by decide)
    obtain ⟨a2, c2, hc2, er2⟩ := right__law_members_right a1 b c1 _ hc1 (by decide)
    obtain ⟨a3, c3, hc3, er3⟩ := right__law_lots_right a2 b c2 _ hc2 (by decide)
    have f12 : H0__law_rooms_right_0 a1 b c1 = H0__law_members_right_0 a1 b c1 := by kernel_rfl
    have f23 : H0__law_members_right_0 a2 b c2 = H0__law_lots_right_0 a2 b c2 := by kernel_rfl
    rw [f12] at er1
    rw [f23] at er2
    show (match seqS (asgS 3 (calF (lenF 2 f__law_trough) (consF (vA 0) (consF (vA 2) nilF)))) (ifS (orF (notF (asT (calF (trimF (lenF 1 f__law_rooms_right)) (consF (vA 3) nilF)))) (orF (notF (asT (calF (trimF (lenF 2 f__law_members_right)) (consF (vA 3) (consF (vA 1) nilF))))) (notF (asT (calF (trimF (lenF 2 f__law_lots_right)) (consF (vA 3) (consF (vA 1) nilF))))))) (fun _ _ _ => .bad) nextS) hR0.length [some ((.lit ns)), some (.ref 0), some ((.int (k : Nat))), none] hR0 with | .ok (.nx s') _ => R.ok (Fl.nx (keepO hR0.length s')) hR0 | .ok (.bk s') _ => .ok (.bk (keepO hR0.length s')) hR0 | .ok (.ct s') _ => .ok (.ct (keepO hR0.length s')) hR0 | .ok (.rt x) _ => if x.old hR0.length then .ok (.rt x) hR0 else .bad | .ex e _ => if e.old hR0.length then .ex e hR0 else .bad | .bad => .bad) = _
    rw [el]
    simp only [seqS, asgS, setSl, calF, MF.bind, R.bind, consF, nilF, vA, List.getElem?_cons_zero, List.getElem?_cons_succ, et, List.set, ifS, orF, notF, asT, er1, er2, er3, truth, Bool.not_true, nextS]
    rfl
  obtain ⟨s1, t1, e1⟩ := turn 0 none (by decide)
  obtain ⟨s2, t2, e2⟩ := turn 1 (some (.int 0)) (by decide)
  have hm : m = 1 ∨ m = 2 := by omega
  rcases hm with rfl | rfl
  · exact ⟨.int 0, forG_of e rfl (forB_turn (m := 1) (xs := rangeA 0 1) (j := 0) rfl rfl t1 e1 (forB_end (m := 0) (xs := rangeA 0 1) rfl rfl))⟩
  · exact ⟨.int 1, forG_of e rfl (forB_turn (m := 2) (xs := rangeA 0 2) (j := 0) rfl rfl t1 e1 (forB_turn (m := 1) (xs := rangeA 0 2) (j := 1) rfl rfl t2 e2 (forB_end (m := 0) (xs := rangeA 0 2) rfl rfl)))⟩
theorem law0 (ns : List Int) : ∃ h', f_law [.lit ns] 0 [] = .ok (.bl true) h' := by
  obtain ⟨z, el⟩ := loop0 ns
  refine body_ret (n := 4) (b := b_law) ?_
  show Ret (.bl true) (q_law_0 0 [some ((.lit ns)), none, none, none] [])
  refine step (P := Ret (.bl true)) (p := p_law_0) (q := q_law_1) (r0_law_0 ns) ?_
  refine step (P := Ret (.bl true)) (p := p_law_1) (q := q_law_2) el ?_
  exact ret_of (by kernel_rfl)

end Law

set_option linter.all false
set_option maxRecDepth 100000
namespace Law
open PySem L2 SlX LamX MA
open PySem.Spec PyProof.Rows
def knOf (w : World) (K : PySem.W.Frag) (gs : List (Nat × Addr)) (T : List (Addr × Str)) (xs : List (Nat × Str)) : Kn := ⟨K, fun i => (gs.lookup i).getD 0, fun i => (xs.lookup i).getD "", T, w⟩
theorem fin_mk {w : World} {K : PySem.W.Frag} {h : Heap} {mg : Str → Option Value} {fa : Addr} {ts : List Addr} {g1 g2 g3 g5 g17 g18 g1019 g19 g1020 g20 g25 g28 g27 g26 g24 g22 g7 g8 g9 g10 g11 g12 g13 g14 g15 g16 g33 g34 g37 g43 g44 g45 g46 g47 g48 g49 g50 g51 g52 g53 g54 g55 g56 g57 g58 g59 g559 g659 g60 g560 g660 g61 g561 g661 g62 : Addr}
    (KX : K.In h) (hmg : mg "law" = some (.ref fa)) (hT : ∀ P ∈ ts, h.get? P = some (PySem.W.tabObj #[]))
    (b_abs : mg "abs" = none)
    (b_all : mg "all" = none)
    (b_bool : mg "bool" = none)
    (b_enumerate : mg "enumerate" = none)
    (b_int : mg "int" = none)
    (b_isinstance : mg "isinstance" = none)
    (b_len : mg "len" = none)
    (b_list : mg "list" = none)
    (b_max : mg "max" = none)
    (b_min : mg "min" = none)
    (b_range : mg "range" = none)
    (b_repr : mg "repr" = none)
    (b_sorted : mg "sorted" = none)
    (b_tuple : mg "tuple" = none)
    (i_MAX_MAKERS : ∃ t, mg "MAX_MAKERS" = some (.int 4 t))
    (i_MAX_MEMBERS : ∃ t, mg "MAX_MEMBERS" = some (.int 24 t))
    (i_MAX_POINTS : ∃ t, mg "MAX_POINTS" = some (.int 6 t))
    (i_MOST_POWER : ∃ t, mg "MOST_POWER" = some (.int 20 t))
    (i_MOST_WHOLE : ∃ t, mg "MOST_WHOLE" = some (.int 4 t))
    (X1 : ExnAll K mg "InvalidRoom" g1)
    (X2 : ExnAll K mg "InvalidOperation" g2)
    (X3 : ExnF (PySem.Challenge.rw_treerooms_k02_errors_of_rooms).prog K mg "InvalidNumber" g3 "InvalidNumber.__init__" st_InvalidNumber___init__ "given")
    (X5 : ExnF (PySem.Challenge.rw_treerooms_k02_errors_of_rooms).prog K mg "TooMany" g5 "TooMany.__init__" st_TooMany___init__ "most")
    (Z17 : ClsAll K mg "Room" g17)
    (M17 : Mk K g17 g18)
    (R17 : ClX.CRead K g17 (.type "type"))
    (Q19 : ClX.CMet K g17 (.type "type") "round" g1019 g19)
    (Q20 : ClX.CMet K g17 (.type "type") "whole" g1020 g20)
    (V25 : Meth K g17 "contrary" g25)
    (V28 : Meth K g17 "number_of" g28)
    (V27 : Meth K g17 "order" g27)
    (V26 : Meth K g17 "power" g26)
    (V24 : Meth K g17 "product" g24)
    (V22 : PropF K g17 "members" g22)
    (D7 : DefAll K mg "is_whole" st_is_whole g7)
    (D8 : DefAll K mg "is_within" st_is_within g8)
    (D9 : DefAll K mg "are_wholes" st_are_wholes g9)
    (D10 : DefAll K mg "are_within" st_are_within g10)
    (D11 : DefAll K mg "require_within" st_require_within g11)
    (D12 : DefAll K mg "behind" st_behind g12)
    (D13 : DefAll K mg "idle_of" st_idle_of g13)
    (D14 : DefAll K mg "closed_under" st_closed_under g14)
    (D15 : DefAll K mg "is_permutation" st_is_permutation g15)
    (D16 : DefAll K mg "are_makers" st_are_makers g16)
    (D18 : DefAt K "__init__" "Room.__init__" st_Room___init__ g18)
    (D19 : DefAt K "round" "Room.round" st_Room_round g19)
    (D20 : DefAt K "whole" "Room.whole" st_Room_whole g20)
    (D22 : DefAt K "members" "Room.members" st_Room_members g22)
    (D24 : DefAt K "product" "Room.product" st_Room_product g24)
    (D25 : DefAt K "contrary" "Room.contrary" st_Room_contrary g25)
    (D26 : DefAt K "power" "Room.power" st_Room_power g26)
    (D27 : DefAt K "order" "Room.order" st_Room_order g27)
    (D28 : DefAt K "number_of" "Room.number_of" st_Room_number_of g28)
    (D33 : DefAll K mg "table_of" st_table_of g33)
    (D34 : DefAll K mg "power_in" st_power_in g34)
    (D37 : DefAll K mg "lot_in" st_lot_in g37)
    (D43 : DefAll K mg "is_member_in" st_is_member_in g43)
    (D44 : DefAll K mg "is_lot_in" st_is_lot_in g44)
    (D45 : DefAll K mg "require_room" st_require_room g45)
    (D46 : DefAll K mg "require_member" st_require_member g46)
    (D47 : DefAll K mg "require_lot" st_require_lot g47)
    (D48 : DefAll K mg "lot_of" st_lot_of g48)
    (D49 : DefAll K mg "is_lot" st_is_lot g49)
    (D50 : DefAll K mg "left_lots" st_left_lots g50)
    (D51 : DefAll K mg "parted" st_parted g51)
    (D52 : DefAll K mg "turned" st_turned g52)
    (D53 : DefAll K mg "classes" st_classes g53)
    (D54 : DefAll K mg "lots" st_lots g54)
    (D55 : DefAll K mg "_law_trough" st__law_trough g55)
    (D56 : DefAll K mg "_law_poured" st__law_poured g56)
    (D57 : DefAll K mg "_law_wanted" st__law_wanted g57)
    (D58 : DefAll K mg "_law_met" st__law_met g58)
    (D59 : DefAllC K mg "_law_rooms_right" st__law_rooms_right g59 g559 g659 ts)
    (D60 : DefAllC K mg "_law_members_right" st__law_members_right g60 g560 g660 ts)
    (D61 : DefAllC K mg "_law_lots_right" st__law_lots_right g61 g561 g661 ts)
    (D62 : DefAll K mg "law" st_law g62)
    {p_own_contraries_17 : Addr} (S_own_contraries_17 : Slot1 K g17 "own_contraries" p_own_contraries_17 0)
    {p_own_members_17 : Addr} (S_own_members_17 : Slot1 K g17 "own_members" p_own_members_17 1)
    {p_own_numbers_17 : Addr} (S_own_numbers_17 : Slot1 K g17 "own_numbers" p_own_numbers_17 2)
    {p_own_points_17 : Addr} (S_own_points_17 : Slot1 K g17 "own_points" p_own_points_17 3)
    {p_own_products_17 : Addr} (S_own_products_17 : Slot1 K g17 "own_products" p_own_products_17 4)
    {p_own_size_17 : Addr} (S_own_size_17 : Slot1 K g17 "own_size" p_own_size_17 5)
    (E1_1 : PySem.W.exmOne K (.ref g1) (.ref g1) = some true)
    (E1_2 : PySem.W.exmOne K (.ref g1) (.ref g2) = some false)
    (E1_3 : PySem.W.exmOne K (.ref g1) (.ref g3) = some false)
    (E1_5 : PySem.W.exmOne K (.ref g1) (.ref g5) = some false)
    (E2_1 : PySem.W.exmOne K (.ref g2) (.ref g1) = some false)
    (E2_2 : PySem.W.exmOne K (.ref g2) (.ref g2) = some true)
    (E2_3 : PySem.W.exmOne K (.ref g2) (.ref g3) = some false)
    (E2_5 : PySem.W.exmOne K (.ref g2) (.ref g5) = some false)
    (E3_1 : PySem.W.exmOne K (.ref g3) (.ref g1) = some false)
    (E3_2 : PySem.W.exmOne K (.ref g3) (.ref g2) = some false)
    (E3_3 : PySem.W.exmOne K (.ref g3) (.ref g3) = some true)
    (E3_5 : PySem.W.exmOne K (.ref g3) (.ref g5) = some false)
    (E5_1 : PySem.W.exmOne K (.ref g5) (.ref g1) = some false)
    (E5_2 : PySem.W.exmOne K (.ref g5) (.ref g2) = some false)
    (E5_3 : PySem.W.exmOne K (.ref g5) (.ref g3) = some false)
    (E5_5 : PySem.W.exmOne K (.ref g5) (.ref g5) = some true)
    (T660_659 : (g660 == g659) = false)
    (T661_659 : (g661 == g659) = false)
    (T659_660 : (g659 == g660) = false)
    (T661_660 : (g661 == g660) = false)
    (T659_661 : (g659 == g661) = false)
    (T660_661 : (g660 == g661) = false) :
    EndG PySem.Challenge.rw_treerooms_k02_errors_of_rooms w K 36 mg fa h := by
  have T : Txt (PySem.Challenge.rw_treerooms_k02_errors_of_rooms).prog mg (knOf w K [(1, g1), (2, g2), (3, g3), (5, g5), (17, g17), (18, g18), (1019, g1019), (19, g19), (1020, g1020), (20, g20), (25, g25), (28, g28), (27, g27), (26, g26), (24, g24), (22, g22), (7, g7), (8, g8), (9, g9), (10, g10), (11, g11), (12, g12), (13, g13), (14, g14), (15, g15), (16, g16), (33, g33), (34, g34), (37, g37), (43, g43), (44, g44), (45, g45), (46, g46), (47, g47), (48, g48), (49, g49), (50, g50), (51, g51), (52, g52), (53, g53), (54, g54), (55, g55), (56, g56), (57, g57), (58, g58), (59, g59), (559, g559), (659, g659), (60, g60), (560, g560), (660, g660), (61, g61), (561, g561), (661, g661), (62, g62)] [(g659, ("_law_rooms_right" : Str) ++ ".<locals>." ++ "<lambda>"), (g660, ("_law_members_right" : Str) ++ ".<locals>." ++ "<lambda>"), (g661, ("_law_lots_right" : Str) ++ ".<locals>." ++ "<lambda>")] ([(3, "given"), (5, "most")] : List (Nat × Str))) :=
    { b_abs := b_abs,
      b_all := b_all,
      b_bool := b_bool,
      b_enumerate := b_enumerate,
      b_int := b_int,
      b_isinstance := b_isinstance,
      b_len := b_len,
      b_list := b_list,
      b_max := b_max,
      b_min := b_min,
      b_range := b_range,
      b_repr := b_repr,
      b_sorted := b_sorted,
      b_tuple := b_tuple,
      i_MAX_MAKERS := i_MAX_MAKERS,
      i_MAX_MEMBERS := i_MAX_MEMBERS,
      i_MAX_POINTS := i_MAX_POINTS,
      i_MOST_POWER := i_MOST_POWER,
      i_MOST_WHOLE := i_MOST_WHOLE,
      x_InvalidRoom := X1.exn0 rfl,
      x_InvalidOperation := X2.exn0 rfl,
      e_InvalidNumber := X3.exn1 rfl rfl,
      e_TooMany := X5.exn1 rfl rfl,
      sc_Room := Z17.f.sc,
      m_InvalidRoom := X1.m,
      m_InvalidOperation := X2.m,
      m_Room := Z17.m,
      mk_Room := M17,
      rd_Room := R17,
      cm_Room_round := Q19,
      cm_Room_whole := Q20,
      me_Room_contrary := V25,
      me_Room_number_of := V28,
      me_Room_order := V27,
      me_Room_power := V26,
      me_Room_product := V24,
      pr_Room_members := V22,
      d_is_whole := D7.d,
      m_is_whole := D7.m,
      k_is_whole := D7.k,
      d_is_within := D8.d,
      m_is_within := D8.m,
      k_is_within := D8.k,
      d_are_wholes := D9.d,
      m_are_wholes := D9.m,
      k_are_wholes := D9.k,
      d_are_within := D10.d,
      m_are_within := D10.m,
      k_are_within := D10.k,
      d_require_within := D11.d,
      m_require_within := D11.m,
      k_require_within := D11.k,
      d_behind := D12.d,
      m_behind := D12.m,
      k_behind := D12.k,
      d_idle_of := D13.d,
      m_idle_of := D13.m,
      k_idle_of := D13.k,
      d_closed_under := D14.d,
      m_closed_under := D14.m,
      k_closed_under := D14.k,
      d_is_permutation := D15.d,
      m_is_permutation := D15.m,
      k_is_permutation := D15.k,
      d_are_makers := D16.d,
      m_are_makers := D16.m,
      k_are_makers := D16.k,
      d_Room___init__ := D18,
      d_Room_round := D19,
      d_Room_whole := D20,
      d_Room_members := D22,
      d_Room_product := D24,
      d_Room_contrary := D25,
      d_Room_power := D26,
      d_Room_order := D27,
      d_Room_number_of := D28,
      d_table_of := D33.d,
      m_table_of := D33.m,
      k_table_of := D33.k,
      d_power_in := D34.d,
      m_power_in := D34.m,
      k_power_in := D34.k,
      d_lot_in := D37.d,
      m_lot_in := D37.m,
      k_lot_in := D37.k,
      d_is_member_in := D43.d,
      m_is_member_in := D43.m,
      k_is_member_in := D43.k,
      d_is_lot_in := D44.d,
      m_is_lot_in := D44.m,
      k_is_lot_in := D44.k,
      d_require_room := D45.d,
      m_require_room := D45.m,
      k_require_room := D45.k,
      d_require_member := D46.d,
      m_require_member := D46.m,
      k_require_member := D46.k,
      d_require_lot := D47.d,
      m_require_lot := D47.m,
      k_require_lot := D47.k,
      d_lot_of := D48.d,
      m_lot_of := D48.m,
      k_lot_of := D48.k,
      d_is_lot := D49.d,
      m_is_lot := D49.m,
      k_is_lot := D49.k,
      d_left_lots := D50.d,
      m_left_lots := D50.m,
      k_left_lots := D50.k,
      d_parted := D51.d,
      m_parted := D51.m,
      k_parted := D51.k,
      d_turned := D52.d,
      m_turned := D52.m,
      k_turned := D52.k,
      d_classes := D53.d,
      m_classes := D53.m,
      k_classes := D53.k,
      d_lots := D54.d,
      m_lots := D54.m,
      k_lots := D54.k,
      d__law_trough := D55.d,
      m__law_trough := D55.m,
      k__law_trough := D55.k,
      d__law_poured := D56.d,
      m__law_poured := D56.m,
      k__law_poured := D56.k,
      d__law_wanted := D57.d,
      m__law_wanted := D57.m,
      k__law_wanted := D57.k,
      d__law_met := D58.d,
      m__law_met := D58.m,
      k__law_met := D58.k,
      d__law_rooms_right := D59.d,
      m__law_rooms_right := D59.m,
      k__law_rooms_right := D59.k,
      d__law_members_right := D60.d,
      m__law_members_right := D60.m,
      k__law_members_right := D60.k,
      d__law_lots_right := D61.d,
      m__law_lots_right := D61.m,
      k__law_lots_right := D61.k,
      d_law := D62.d,
      m_law := D62.m,
      k_law := D62.k,
      sl_own_contraries := (SlT.cons Z17.f.sc S_own_contraries_17 SlT.nil),
      sl_own_members := (SlT.cons Z17.f.sc S_own_members_17 SlT.nil),
      sl_own_numbers := (SlT.cons Z17.f.sc S_own_numbers_17 SlT.nil),
      sl_own_points := (SlT.cons Z17.f.sc S_own_points_17 SlT.nil),
      sl_own_products := (SlT.cons Z17.f.sc S_own_products_17 SlT.nil),
      sl_own_size := (SlT.cons Z17.f.sc S_own_size_17 SlT.nil),
      isB := (fun c hc => by
          simp only [List.mem_cons, List.mem_nil_iff, or_false] at hc
          rcases hc with rfl
          · exact Z17.f),
      isC_Room := (fun c hc => by
          simp only [List.mem_cons, List.mem_nil_iff, or_false] at hc
          rcases hc with rfl
          · exact ⟨Z17.f, fun n => absurd rfl n⟩),
      cl_Room := Z17.f.cl,
      ty_Room := Z17.f.ty,
      exB := (⟨fun e c b z => by
          unfold exb at z
          split at z
          · cases z; exact E1_1
          · cases z; exact E1_2
          · cases z; exact E1_3
          · cases z; exact E1_5
          · cases z; exact E2_1
          · cases z; exact E2_2
          · cases z; exact E2_3
          · cases z; exact E2_5
          · cases z; exact E3_1
          · cases z; exact E3_2
          · cases z; exact E3_3
          · cases z; exact E3_5
          · cases z; exact E5_1
          · cases z; exact E5_2
          · cases z; exact E5_3
          · cases z; exact E5_5
          · cases z⟩),
      mT__law_rooms_right := by simp only [knOf, List.mem_cons]; exact Or.inl rfl,
      uT__law_rooms_right := (fun p hp hz => by
          simp only [knOf, List.mem_cons, List.mem_nil_iff, or_false] at hp
          rcases hp with rfl | rfl | rfl
          · rfl
          · exact absurd (show g660 = g659 from hz) (by simpa using T660_659)
          · exact absurd (show g661 = g659 from hz) (by simpa using T661_659)),
      mT__law_members_right := by simp only [knOf, List.mem_cons]; exact Or.inr (Or.inl rfl),
      uT__law_members_right := (fun p hp hz => by
          simp only [knOf, List.mem_cons, List.mem_nil_iff, or_false] at hp
          rcases hp with rfl | rfl | rfl
          · exact absurd (show g659 = g660 from hz) (by simpa using T659_660)
          · rfl
          · exact absurd (show g661 = g660 from hz) (by simpa using T661_660)),
      mT__law_lots_right := by simp only [knOf, List.mem_cons]; exact Or.inr (Or.inr (Or.inl rfl)),
      uT__law_lots_right := (fun p hp hz => by
          simp only [knOf, List.mem_cons, List.mem_nil_iff, or_false] at hp
          rcases hp with rfl | rfl | rfl
          · exact absurd (show g659 = g661 from hz) (by simpa using T659_661)
          · exact absurd (show g660 = g661 from hz) (by simpa using T660_661)
          · rfl) }
  have e : g62 = fa := by
    have z := D62.m.symm.trans hmg
    cases z
    rfl
  subst e
  refine ⟨knOf w K [(1, g1), (2, g2), (3, g3), (5, g5), (17, g17), (18, g18), (1019, g1019), (19, g19), (1020, g1020), (20, g20), (25, g25), (28, g28), (27, g27), (26, g26), (24, g24), (22, g22), (7, g7), (8, g8), (9, g9), (10, g10), (11, g11), (12, g12), (13, g13), (14, g14), (15, g15), (16, g16), (33, g33), (34, g34), (37, g37), (43, g43), (44, g44), (45, g45), (46, g46), (47, g47), (48, g48), (49, g49), (50, g50), (51, g51), (52, g52), (53, g53), (54, g54), (55, g55), (56, g56), (57, g57), (58, g58), (59, g59), (559, g559), (659, g659), (60, g60), (560, g560), (660, g660), (61, g61), (561, g561), (661, g661), (62, g62)] [(g659, ("_law_rooms_right" : Str) ++ ".<locals>." ++ "<lambda>"), (g660, ("_law_members_right" : Str) ++ ".<locals>." ++ "<lambda>"), (g661, ("_law_lots_right" : Str) ++ ".<locals>." ++ "<lambda>")] ([(3, "given"), (5, "most")] : List (Nat × Str)), f_law, [(g559, g659), (g560, g660), (g561, g661)], rfl, ?_, ?_, ?_, ?_, fun base hB => t_law T ⟨hB (g559, g659) (by simp), hB (g560, g660) (by simp), hB (g561, g661) (by simp)⟩, fun ns => law0 ns⟩
  · intro p hp
    simp only [List.mem_cons, List.mem_nil_iff, or_false] at hp
    rcases hp with rfl | rfl | rfl
    · exact hT _ (by have := D59.ts; simpa using this)
    · exact hT _ (by have := D60.ts; simpa using this)
    · exact hT _ (by have := D61.ts; simpa using this)
  · intro p hp
    simp only [List.mem_cons, List.mem_nil_iff, or_false] at hp
    rcases hp with rfl | rfl | rfl
    · exact Option.isNone_iff_eq_none.mp D59.no
    · exact Option.isNone_iff_eq_none.mp D60.no
    · exact Option.isNone_iff_eq_none.mp D61.no
  · intro p hp
    simp only [List.mem_cons, List.mem_nil_iff, or_false] at hp
    rcases hp with rfl | rfl | rfl
    · exact PySem.W.codeHd_of_K KX D59.hd
    · exact PySem.W.codeHd_of_K KX D60.hd
    · exact PySem.W.codeHd_of_K KX D61.hd
  · intro p hp
    simp only [knOf, List.mem_cons, List.mem_nil_iff, or_false] at hp
    rcases hp with rfl | rfl | rfl <;> simp
end Law

open PySem PySem.W PyProof.Rows
set_option maxRecDepth 99000 in
set_option maxHeartbeats 0 in
theorem PySem.Challenge.cw_treerooms_k02_errors_of_rooms_holds : PySem.Challenge.rw_treerooms_k02_errors_of_rooms.Holds := by
  w_on; o_law; k_head; (case hw => w_witness2)
  k_fill
  refine MA.walkG (l := PySem.Challenge.rw_treerooms_k02_errors_of_rooms) (n := 63) (k := 36) rfl (by decide) rfl ⟨rfl, by decide, by decide⟩ (fun w h Y => km_in_of Y) ?F
  intro w mg fa h Y KX G hmg
  have hT8 := km_tabs_of Y
  refine' Law.fin_mk KX hmg hT8 ?b_abs ?b_all ?b_bool ?b_enumerate ?b_int ?b_isinstance ?b_len ?b_list ?b_max ?b_min ?b_range ?b_repr ?b_sorted ?b_tuple ?i_MAX_MAKERS ?i_MAX_MEMBERS ?i_MAX_POINTS ?i_MOST_POWER ?i_MOST_WHOLE ?X1 ?X2 ?X3 ?X5 ?Z17 ?M17 ?R17 ?Q19 ?Q20 ?V25 ?V28 ?V27 ?V26 ?V24 ?V22 ?D7 ?D8 ?D9 ?D10 ?D11 ?D12 ?D13 ?D14 ?D15 ?D16 ?D18 ?D19 ?D20 ?D22 ?D24 ?D25 ?D26 ?D27 ?D28 ?D33 ?D34 ?D37 ?D43 ?D44 ?D45 ?D46 ?D47 ?D48 ?D49 ?D50 ?D51 ?D52 ?D53 ?D54 ?D55 ?D56 ?D57 ?D58 ?D59 ?D60 ?D61 ?D62 ?S_own_contraries_17 ?S_own_members_17 ?S_own_numbers_17 ?S_own_points_17 ?S_own_products_17 ?S_own_size_17 ?E1_1 ?E1_2 ?E1_3 ?E1_5 ?E2_1 ?E2_2 ?E2_3 ?E2_5 ?E3_1 ?E3_2 ?E3_3 ?E3_5 ?E5_1 ?E5_2 ?E5_3 ?E5_5 ?T660_659 ?T661_659 ?T659_660 ?T661_660 ?T659_661 ?T660_661
  case b_abs => exact PySem.W.mg_none_of (n := "abs") KX G (by k_is)
  case b_all => exact PySem.W.mg_none_of (n := "all") KX G (by k_is)
  case b_bool => exact PySem.W.mg_none_of (n := "bool") KX G (by k_is)
  case b_enumerate => exact PySem.W.mg_none_of (n := "enumerate") KX G (by k_is)
  case b_int => exact PySem.W.mg_none_of (n := "int") KX G (by k_is)
  case b_isinstance => exact PySem.W.mg_none_of (n := "isinstance") KX G (by k_is)
  case b_len => exact PySem.W.mg_none_of (n := "len") KX G (by k_is)
  case b_list => exact PySem.W.mg_none_of (n := "list") KX G (by k_is)
  case b_max => exact PySem.W.mg_none_of (n := "max") KX G (by k_is)
  case b_min => exact PySem.W.mg_none_of (n := "min") KX G (by k_is)
  case b_range => exact PySem.W.mg_none_of (n := "range") KX G (by k_is)
  case b_repr => exact PySem.W.mg_none_of (n := "repr") KX G (by k_is)
  case b_sorted => exact PySem.W.mg_none_of (n := "sorted") KX G (by k_is)
  case b_tuple => exact PySem.W.mg_none_of (n := "tuple") KX G (by k_is)
  case i_MAX_MAKERS => exact MA.glob_int (x := "MAX_MAKERS") (i := 4) KX G (by k_is)
  case i_MAX_MEMBERS => exact MA.glob_int (x := "MAX_MEMBERS") (i := 24) KX G (by k_is)
  case i_MAX_POINTS => exact MA.glob_int (x := "MAX_POINTS") (i := 6) KX G (by k_is)
  case i_MOST_POWER => exact MA.glob_int (x := "MOST_POWER") (i := 20) KX G (by k_is)
  case i_MOST_WHOLE => exact MA.glob_int (x := "MOST_WHOLE") (i := 4) KX G (by k_is)
  case X1 => exact MA.exn_all (x := "InvalidRoom") PySem.F.excBase_ValueError KX G (by k_is) (by kernel_rfl) (by k_is) (by k_is) (by k_is)
  case X2 => exact MA.exn_all (x := "InvalidOperation") PySem.F.excBase_ValueError KX G (by k_is) (by kernel_rfl) (by k_is) (by k_is) (by k_is)
  case X3 => exact MA.exn1_all (x := "InvalidNumber") (qual := "InvalidNumber.__init__") (y := "given") Law.st_InvalidNumber___init__ PySem.F.excBase_IndexError PySem.W.kxs_IndexError PySem.F.store_IndexError KX G (by k_is) (by kernel_rfl) (by k_is) (by k_is) (by k_is) (by k_is) (by k_is) (by k_is) (by rfl) (by kernel_rfl) (by kernel_rfl) (by k_is) (by kernel_rfl) (by k_is) (by k_is) (by k_is) (by k_is) (by kernel_rfl) (by k_is) (by k_is) (by k_is) (by k_is) (by k_is) (by k_is) (by k_is) (by k_is) (fun s e u => BindsTo.of_eq rfl)
  case X5 => exact MA.exn1_all (x := "TooMany") (qual := "TooMany.__init__") (y := "most") Law.st_TooMany___init__ PySem.F.excBase_OverflowError PySem.W.kxs_OverflowError PySem.F.store_OverflowError KX G (by k_is) (by kernel_rfl) (by k_is) (by k_is) (by k_is) (by k_is) (by k_is) (by k_is) (by rfl) (by kernel_rfl) (by kernel_rfl) (by k_is) (by kernel_rfl) (by k_is) (by k_is) (by k_is) (by k_is) (by kernel_rfl) (by k_is) (by k_is) (by k_is) (by k_is) (by k_is) (by k_is) (by k_is) (by k_is) (fun s e u => BindsTo.of_eq rfl)
  case Z17 => exact MA.cls_all (x := "Room") KX G (by k_is) (by k_is) (by k_is) (by k_is) (by k_is) (by k_is) (by k_is) (by k_is) (by k_is) (by kernel_rfl) (by k_is) (by k_is) (by k_is) (by k_is) (by k_is) (by k_is) (by k_is)
  case M17 => exact MA.mk_all KX (by k_is) (by k_is) (by k_is) (by k_is)
  case R17 => exact MA.rd_all KX (by k_is) (by k_is)
  case Q19 => exact MA.cm_all (m := "round") KX (by k_is) (by k_is) (by k_is)
  case Q20 => exact MA.cm_all (m := "whole") KX (by k_is) (by k_is) (by k_is)
  case V25 => exact L2.Meth.mk (by k_is) (by k_is) (by k_is)
  case V28 => exact L2.Meth.mk (by k_is) (by k_is) (by k_is)
  case V27 => exact L2.Meth.mk (by k_is) (by k_is) (by k_is)
  case V26 => exact L2.Meth.mk (by k_is) (by k_is) (by k_is)
  case V24 => exact L2.Meth.mk (by k_is) (by k_is) (by k_is)
  case V22 => exact MA.prop_all (nm := "members") KX (by k_is) (by k_is) (by k_is) (by k_is)
  case D7 => exact MA.def_all (x := "is_whole") Law.st_is_whole KX G (by k_is) (by k_is) (by k_is) (by k_is)
  case D8 => exact MA.def_all (x := "is_within") Law.st_is_within KX G (by k_is) (by k_is) (by k_is) (by k_is)
  case D9 => exact MA.def_all (x := "are_wholes") Law.st_are_wholes KX G (by k_is) (by k_is) (by k_is) (by k_is)
  case D10 => exact MA.def_all (x := "are_within") Law.st_are_within KX G (by k_is) (by k_is) (by k_is) (by k_is)
  case D11 => exact MA.def_all (x := "require_within") Law.st_require_within KX G (by k_is) (by k_is) (by k_is) (by k_is)
  case D12 => exact MA.def_all (x := "behind") Law.st_behind KX G (by k_is) (by k_is) (by k_is) (by k_is)
  case D13 => exact MA.def_all (x := "idle_of") Law.st_idle_of KX G (by k_is) (by k_is) (by k_is) (by k_is)
  case D14 => exact MA.def_all (x := "closed_under") Law.st_closed_under KX G (by k_is) (by k_is) (by k_is) (by k_is)
  case D15 => exact MA.def_all (x := "is_permutation") Law.st_is_permutation KX G (by k_is) (by k_is) (by k_is) (by k_is)
  case D16 => exact MA.def_all (x := "are_makers") Law.st_are_makers KX G (by k_is) (by k_is) (by k_is) (by k_is)
  case D18 => exact MA.def_at (y := "__init__") (q := "Room.__init__") Law.st_Room___init__ KX (by k_is) (by k_is)
  case D19 => exact MA.def_at (y := "round") (q := "Room.round") Law.st_Room_round KX (by k_is) (by k_is)
  case D20 => exact MA.def_at (y := "whole") (q := "Room.whole") Law.st_Room_whole KX (by k_is) (by k_is)
  case D22 => exact MA.def_at (y := "members") (q := "Room.members") Law.st_Room_members KX (by k_is) (by k_is)
  case D24 => exact MA.def_at (y := "product") (q := "Room.product") Law.st_Room_product KX (by k_is) (by k_is)
  case D25 => exact MA.def_at (y := "contrary") (q := "Room.contrary") Law.st_Room_contrary KX (by k_is) (by k_is)
  case D26 => exact MA.def_at (y := "power") (q := "Room.power") Law.st_Room_power KX (by k_is) (by k_is)
  case D27 => exact MA.def_at (y := "order") (q := "Room.order") Law.st_Room_order KX (by k_is) (by k_is)
  case D28 => exact MA.def_at (y := "number_of") (q := "Room.number_of") Law.st_Room_number_of KX (by k_is) (by k_is)
  case D33 => exact MA.def_all (x := "table_of") Law.st_table_of KX G (by k_is) (by k_is) (by k_is) (by k_is)
  case D34 => exact MA.def_all (x := "power_in") Law.st_power_in KX G (by k_is) (by k_is) (by k_is) (by k_is)
  case D37 => exact MA.def_all (x := "lot_in") Law.st_lot_in KX G (by k_is) (by k_is) (by k_is) (by k_is)
  case D43 => exact MA.def_all (x := "is_member_in") Law.st_is_member_in KX G (by k_is) (by k_is) (by k_is) (by k_is)
  case D44 => exact MA.def_all (x := "is_lot_in") Law.st_is_lot_in KX G (by k_is) (by k_is) (by k_is) (by k_is)
  case D45 => exact MA.def_all (x := "require_room") Law.st_require_room KX G (by k_is) (by k_is) (by k_is) (by k_is)
  case D46 => exact MA.def_all (x := "require_member") Law.st_require_member KX G (by k_is) (by k_is) (by k_is) (by k_is)
  case D47 => exact MA.def_all (x := "require_lot") Law.st_require_lot KX G (by k_is) (by k_is) (by k_is) (by k_is)
  case D48 => exact MA.def_all (x := "lot_of") Law.st_lot_of KX G (by k_is) (by k_is) (by k_is) (by k_is)
  case D49 => exact MA.def_all (x := "is_lot") Law.st_is_lot KX G (by k_is) (by k_is) (by k_is) (by k_is)
  case D50 => exact MA.def_all (x := "left_lots") Law.st_left_lots KX G (by k_is) (by k_is) (by k_is) (by k_is)
  case D51 => exact MA.def_all (x := "parted") Law.st_parted KX G (by k_is) (by k_is) (by k_is) (by k_is)
  case D52 => exact MA.def_all (x := "turned") Law.st_turned KX G (by k_is) (by k_is) (by k_is) (by k_is)
  case D53 => exact MA.def_all (x := "classes") Law.st_classes KX G (by k_is) (by k_is) (by k_is) (by k_is)
  case D54 => exact MA.def_all (x := "lots") Law.st_lots KX G (by k_is) (by k_is) (by k_is) (by k_is)
  case D55 => exact MA.def_all (x := "_law_trough") Law.st__law_trough KX G (by k_is) (by k_is) (by k_is) (by k_is)
  case D56 => exact MA.def_all (x := "_law_poured") Law.st__law_poured KX G (by k_is) (by k_is) (by k_is) (by k_is)
  case D57 => exact MA.def_all (x := "_law_wanted") Law.st__law_wanted KX G (by k_is) (by k_is) (by k_is) (by k_is)
  case D58 => exact MA.def_all (x := "_law_met") Law.st__law_met KX G (by k_is) (by k_is) (by k_is) (by k_is)
  case D59 => exact MA.def_allC (x := "_law_rooms_right") Law.st__law_rooms_right _ KX G (by k_is) (by k_is) (by k_is) (by k_is) (by kernel_rfl) (by kernel_rfl) (by kernel_rfl)
  case D60 => exact MA.def_allC (x := "_law_members_right") Law.st__law_members_right _ KX G (by k_is) (by k_is) (by k_is) (by k_is) (by kernel_rfl) (by kernel_rfl) (by kernel_rfl)
  case D61 => exact MA.def_allC (x := "_law_lots_right") Law.st__law_lots_right _ KX G (by k_is) (by k_is) (by k_is) (by k_is) (by kernel_rfl) (by kernel_rfl) (by kernel_rfl)
  case D62 => exact MA.def_all (x := "law") Law.st_law KX G (by k_is) (by k_is) (by k_is) (by k_is)
  case S_own_contraries_17 => exact MA.slot_all (y := "own_contraries") (i := 0) KX (by k_is) (by k_is) (by k_is) (by k_is) (by k_is) (by decide)
  case S_own_members_17 => exact MA.slot_all (y := "own_members") (i := 1) KX (by k_is) (by k_is) (by k_is) (by k_is) (by k_is) (by decide)
  case S_own_numbers_17 => exact MA.slot_all (y := "own_numbers") (i := 2) KX (by k_is) (by k_is) (by k_is) (by k_is) (by k_is) (by decide)
  case S_own_points_17 => exact MA.slot_all (y := "own_points") (i := 3) KX (by k_is) (by k_is) (by k_is) (by k_is) (by k_is) (by decide)
  case S_own_products_17 => exact MA.slot_all (y := "own_products") (i := 4) KX (by k_is) (by k_is) (by k_is) (by k_is) (by k_is) (by decide)
  case S_own_size_17 => exact MA.slot_all (y := "own_size") (i := 5) KX (by k_is) (by k_is) (by k_is) (by k_is) (by k_is) (by decide)
  case E1_1 => exact by kernel_rfl
  case E1_2 => exact by kernel_rfl
  case E1_3 => exact by kernel_rfl
  case E1_5 => exact by kernel_rfl
  case E2_1 => exact by kernel_rfl
  case E2_2 => exact by kernel_rfl
  case E2_3 => exact by kernel_rfl
  case E2_5 => exact by kernel_rfl
  case E3_1 => exact by kernel_rfl
  case E3_2 => exact by kernel_rfl
  case E3_3 => exact by kernel_rfl
  case E3_5 => exact by kernel_rfl
  case E5_1 => exact by kernel_rfl
  case E5_2 => exact by kernel_rfl
  case E5_3 => exact by kernel_rfl
  case E5_5 => exact by kernel_rfl
  case T660_659 => exact by kernel_rfl
  case T661_659 => exact by kernel_rfl
  case T659_660 => exact by kernel_rfl
  case T661_660 => exact by kernel_rfl
  case T659_661 => exact by kernel_rfl
  case T660_661 => exact by kernel_rfl
