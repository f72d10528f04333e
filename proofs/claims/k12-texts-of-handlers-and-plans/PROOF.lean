import PyProof.Rows.All
import Wide.All
import OpenK.AllK
import Wide.FinOn
import HandS.ForMost
import HandS.Lambda
import HandS.Deep
import HandS.TupAny
import HandS.TupMul
import HandS.TupLen
import HandS.Style
import HandS.Star
import HandS.IsInst
import HandS.Zip
import HandS.Conv
import HandS.SetFor
import HandS.SortInts
import HandS.Codes
import HandS.Flow
import PyProof.ReprRoads
import KE.GoesEnum
import HandS.Small
import HandS.Defaults
import HandS.Wide
import HandS.HeadEnd
import HandS.HeadHook2
import HandS.Head2
import HandS.EndTab
import HandS.Strs
import HandS.ExcInit
import HandS.ExcField
import HandS.ExcOwn
import HandS.ExcIs
import HandS.More
import PyProof.Rows.TupDisplay
import HandS.NoneIn
import PyProof.FitsInt
import HandS.SortRule
import HandS.DictTup
import KE.KDictSum
import HandS.TupLe
import HandS.SetKeys
import HandS.MakeKwOnly
import HandS.NamedTupSort
import KE.GoesMore
import KE.KDictList
import KE.KDictZip
import HandS.ExcValue
import HandS.TupSets
import HandS.TryMany
import HandS.HeadHook4
import HandS.SortKw
import KE.KMinKey
import HandS.Remove
import PyProof.SeqIndex
import HandS.Text
import HandS.Steps
import HandS.Iter
import PyProof.StrOps2
import KE.IntTextText
import PySem.Challenge.RW_twicesafe_k12_texts_of_handlers_and_plan
set_option linter.all false
set_option Elab.async false
namespace TW
open PySem
inductive SV where
  | no
  | dat (d : PyData)
  | own (d : PyData)
  | box
structure Bx where
  great : List Int
  small : List Int
  turn : Int
inductive Er where
  | stuck
  | exc (c : Str) (fs : List (Str × PyData)) (r : List SV) (b : Option Bx)
structure Sx where
  r : List SV
  b : Option Bx
def M (α : Type) := Sx → Except Er (α × Sx)
def M.pure {α : Type} (a : α) : M α := fun s => .ok (a, s)
def M.bind {α β : Type} (m : M α) (f : α → M β) : M β := fun s => match m s with
  | .ok (a, s') => f a s'
  | .error e => .error e
instance : Monad M where
  pure := M.pure
  bind := M.bind
def stuck {α : Type} : M α := fun _ => .error .stuck
def pw {α : Type} (m : M α) (s : Sx) (Q : α → Sx → Prop) (E : Er → Prop) : Prop := match m s with
  | .ok (a, s') => Q a s'
  | .error e => E e
section
variable {α β : Type} {m : M α} {f : α → M β} {s : Sx} {Q Q' : α → Sx → Prop} {E E' : Er → Prop} {R : β → Sx → Prop} {a : α}
theorem pw_pure : pw (Pure.pure a : M α) s Q E ↔ Q a s := Iff.rfl
theorem pw_bind : pw (m >>= f) s R E ↔ pw m s (fun a s' => pw (f a) s' R E) E := by
  show pw (M.bind m f) s R E ↔ _
  unfold pw M.bind
  cases m s with
  | ok p => exact Iff.rfl
  | error e => exact Iff.rfl
theorem pw_mono (h : pw m s Q E) (hq : ∀ a s', Q a s' → Q' a s') (he : ∀ e, E e → E' e) : pw m s Q' E' := by
  unfold pw at h ⊢
  cases q : m s with
  | ok p => rw [q] at h; exact hq _ _ h
  | error e => rw [q] at h; exact he _ h
end
def getS (i : Nat) : M SV := fun s => .ok (s.r.getD i .no, s)
def setS (i : Nat) (v : SV) : M Unit := fun s => .ok ((), { s with r := s.r.set i v })
theorem pw_getS {i : Nat} {s : Sx} {Q : SV → Sx → Prop} {E : Er → Prop} : pw (getS i) s Q E ↔ Q (s.r.getD i .no) s := Iff.rfl
inductive Opd where
  | slot (i : Nat)
  | val (d : PyData)
def peek : Opd → M PyData
  | .val d => pure d
  | .slot i => do match ← getS i with
    | .dat d => pure d
    | .own d => pure d
    | _ => stuck
def take : Opd → M PyData
  | .val d => pure d
  | .slot i => do match ← getS i with
    | .dat d => pure d
    | .own d => do setS i (.dat d); pure d
    | _ => stuck
def peeks : List Opd → M (List PyData)
  | [] => pure []
  | o :: os => do let d ← peek o; let ds ← peeks os; pure (d :: ds)
def takes : List Opd → M (List PyData)
  | [] => pure []
  | o :: os => do let d ← take o; let ds ← takes os; pure (d :: ds)
inductive Arg where
  | dat (d : PyData)
  | box
def handO : Opd → M Arg
  | .val d => pure (.dat d)
  | .slot i => do match ← getS i with
    | .dat d => pure (.dat d)
    | .own d => do setS i (.dat d); pure (.dat d)
    | .box => pure .box
    | .no => stuck
def hands : List Opd → M (List Arg)
  | [] => pure []
  | o :: os => do let d ← handO o; let ds ← hands os; pure (d :: ds)
def lim : Nat := 1000000
inductive Bop where
  | add | sub | mul | fdiv | mod | pow
inductive Cop where
  | eq | ne | lt | le | gt | ge | isN | notN | isin | notin
def small (i : Int) : Bool := decide (-(2 ^ 64) < i) && decide (i < 2 ^ 64)
def binD : Bop → PyData → PyData → Option PyData
  | .add, .int i, .int j => some (.int (i + j))
  | .add, .str x, .str y => if x.length + y.length ≤ lim then some (.str (x ++ y)) else none
  | .add, .tuple xs, .tuple ys => if xs.length + ys.length ≤ lim then some (.tuple (xs ++ ys)) else none
  | .add, .list xs, .list ys => if xs.length + ys.length ≤ lim then some (.list (xs ++ ys)) else none
  | .sub, .int i, .int j => some (.int (i - j))
  | .mul, .int i, .int j => if small i || small j then some (.int (i * j)) else none
  | .mul, .list xs, .int k => if -1000 ≤ k ∧ k ≤ 1000 ∧ xs.length ≤ 1000 then some (.list (List.replicate k.toNat xs).flatten) else none
  | .mul, .tuple xs, .int k => if 2 ≤ k ∧ k ≤ 1000 ∧ xs.length ≤ 1000 ∧ xs ≠ [] then some (.tuple (List.replicate k.toNat xs).flatten) else none
  | .fdiv, .int i, .int j => if j ≠ 0 ∧ j.natAbs < 1073741824 then some (.int (i.fdiv j)) else none
  | .mod, .int i, .int j => if j ≠ 0 then some (.int (i.fmod j)) else none
  | .pow, .int i, .int j => if 0 ≤ j ∧ j ≤ 1000000 ∧ i.natAbs < 2 ^ 64 then some (.int (i ^ j.toNat)) else none
  | _, _, _ => none
def shp (d : PyData) : Bool := SeqAt.shaped d
def isNoneD : PyData → Bool
  | .none => true
  | _ => false
def look (k : PyData) : List (PyData × PyData) → Option PyData
  | [] => none
  | (a, v) :: r => if PyData.eqv a k then some v else look k r
def flatD : PyData → Bool
  | .none => true
  | .bool _ => true
  | .int _ => true
  | .str _ => true
  | _ => false
def keyish : PyData → Bool
  | .int _ => true
  | .str _ => true
  | .tuple ds => ds.all fun
    | .int _ => true
    | .str _ => true
    | _ => false
  | _ => false
def member (x : PyData) (xs : List PyData) : Bool := xs.any fun y => PyData.eqv y x
def cmpD : Cop → PyData → PyData → Option PyData
  | .eq, x, y => if shp x && shp y then some (.bool (PyData.eqv x y)) else none
  | .ne, x, y => if shp x && shp y then some (.bool (!PyData.eqv x y)) else none
  | .lt, .int i, .int j => some (.bool (decide (i < j)))
  | .le, .int i, .int j => some (.bool (decide (i ≤ j)))
  | .gt, .int i, .int j => some (.bool (decide (j < i)))
  | .ge, .int i, .int j => some (.bool (decide (j ≤ i)))
  | .isN, x, .none => some (.bool (isNoneD x))
  | .notN, x, .none => some (.bool (!isNoneD x))
  | .isin, x, .list xs => if shp x && shp (.list xs) then some (.bool (member x xs)) else none
  | .isin, x, .tuple xs => if shp x && xs.all flatD && flatD x then some (.bool (member x xs)) else none
  | .notin, x, .list xs => if shp x && shp (.list xs) then some (.bool (!member x xs)) else none
  | .notin, x, .tuple xs => if shp x && xs.all flatD && flatD x then some (.bool (!member x xs)) else none
  | .isin, x, .dict ds => if keyish x then some (.bool (look x ds).isSome) else none
  | .notin, x, .dict ds => if keyish x then some (.bool (!(look x ds).isSome)) else none
  | _, _, _ => none
def optM {α : Type} : Option α → M α
  | some a => pure a
  | none => stuck
theorem pw_optM {α : Type} {o : Option α} {s : Sx} {Q : α → Sx → Prop} {E : Er → Prop} (hE : ¬ E .stuck) : pw (optM o) s Q E ↔ ∃ a, o = some a ∧ Q a s := by
  cases o with
  | none => exact ⟨fun h => absurd h hE, fun ⟨a, e, _⟩ => nomatch e⟩
  | some a => exact ⟨fun h => ⟨a, rfl, h⟩, fun ⟨b, e, h⟩ => by cases e; exact h⟩
def eVar (i : Nat) : M Opd := do match ← getS i with
  | .no => stuck
  | _ => pure (.slot i)
def eC (d : PyData) : M Opd := pure (.val d)
def aNil : M (List Opd) := pure []
def aCons (m : M Opd) (r : M (List Opd)) : M (List Opd) := do let o ← m; let os ← r; pure (o :: os)
def itemsO (o : Opd) : M (List PyData) := do match ← peek o with
  | .list ds => pure ds
  | .tuple ds => pure ds
  | _ => stuck
def aStar (m : M Opd) (r : M (List Opd)) : M (List Opd) := do let o ← m; let ds ← itemsO o; let os ← r; pure (ds.map Opd.val ++ os)
def eTup (m : M (List Opd)) : M Opd := do let os ← m; let ds ← takes os; if ds.length ≤ lim then pure (.val (.tuple ds)) else stuck
def nLst (m : M (List Opd)) : M PyData := do let os ← m; let ds ← takes os; if ds.length ≤ lim then pure (.list ds) else stuck
def eNw (m : M PyData) : M Opd := do let d ← m; pure (.val d)
def eOp (f : PyData → PyData → Option PyData) (a b : M Opd) : M Opd := do let o ← a; let p ← b; let x ← peek o; let y ← peek p; let z ← optM (f x y); pure (.val z)
def eBin (o : Bop) (a b : M Opd) : M Opd := eOp (binD o) a b
def eCmp (o : Cop) (a b : M Opd) : M Opd := eOp (cmpD o) a b
def neD : PyData → Option PyData
  | .int i => some (.int (-i))
  | _ => none
def eUn (f : PyData → Option PyData) (a : M Opd) : M Opd := do let o ← a; let x ← peek o; let z ← optM (f x); pure (.val z)
def eFn (f : List PyData → Option PyData) (a : M (List Opd)) : M Opd := do let os ← a; let xs ← peeks os; let z ← optM (f xs); pure (.val z)
def boolD : PyData → Option Bool
  | .bool b => some b
  | _ => none
def tVal (a : M Opd) : M Bool := do let o ← a; let x ← peek o; optM (boolD x)
def tNot (a : M Bool) : M Bool := do let b ← a; pure (!b)
def tAnd (a b : M Bool) : M Bool := do let x ← a; if x = true then b else pure false
def tOr (a b : M Bool) : M Bool := do let x ← a; if x = true then pure true else b
def eIf (c : M Bool) (a b : M Opd) : M Opd := do let x ← c; if x = true then a else b
def eAnd (a b : M Opd) : M Opd := do let x ← tVal a; if x = true then b else pure (.val (.bool false))
def eOr (a b : M Opd) : M Opd := do let x ← tVal a; if x = true then pure (.val (.bool true)) else b
def eNot (a : M Opd) : M Opd := do let x ← tVal a; pure (.val (.bool (!x)))
end TW
set_option linter.all false
set_option Elab.async false
namespace TW
open PySem L2
def tabs0 : List (Addr × Str) := []
abbrev boxC : Int := 101
def isTab (a : Addr) : Prop := ∃ p ∈ tabs0, p.1 = a
structure Tb (P F : Addr → Prop) (H : Hp) : Prop where
  t : LamX.Tabs tabs0 H
  n : ∀ a, isTab a → ¬ F a ∧ ¬ P a
def Still (H H' : Hp) : Prop := (∀ a ps, H a = some (.tbl ps) → H' a = some (.tbl ps)) ∧ ∀ a φ, H a = some (.ext φ) → H' a = some (.ext φ)
def Calm (o : Option HO) : Prop := (∀ ps, o ≠ some (.tbl ps)) ∧ ∀ φ, o ≠ some (.ext φ)
theorem Still.of {H H' : Hp} (h : ∀ a o, H a = some o → H' a = some o) : Still H H' := ⟨fun a _ e => h a _ e, fun a _ e => h a _ e⟩
theorem Still.upd {H : Hp} {a : Addr} {u : HO} (h : Calm (H a)) : Still H (upd H a u) := ⟨fun b ps e => by
  rw [upd_ne fun z => h.1 ps (by rw [← z]; exact e)]
  exact e, fun b φ e => by
  rw [upd_ne fun z => h.2 φ (by rw [← z]; exact e)]
  exact e⟩
theorem calm_none : Calm none := ⟨fun _ e => (by cases e), fun _ e => (by cases e)⟩
theorem calm_lst {xs : List V} : Calm (some (.lst xs)) := ⟨fun _ e => (by cases e), fun _ e => (by cases e)⟩
theorem calm_dK {xs : List (Key × V)} : Calm (some (.dK xs)) := ⟨fun _ e => (by cases e), fun _ e => (by cases e)⟩
theorem calm_dT {xs : List (List Key × V)} : Calm (some (.dT xs)) := ⟨fun _ e => (by cases e), fun _ e => (by cases e)⟩
theorem Still.new {H : Hp} {a : Addr} {u : HO} (h : H a = none) : Still H (L2.upd H a u) := .upd (by rw [h]; exact calm_none)
theorem tabs_still {T : List (Addr × Str)} {H H' : Hp} (t : LamX.Tabs T H) (h : Still H H') : LamX.Tabs T H' := fun p hp => by
  obtain ⟨ps, h1, h2, h3⟩ := t p hp
  refine ⟨ps, h.1 _ _ h1, h2, fun pos cv hc => ?_⟩
  obtain ⟨c, e1, e2⟩ := h3 pos cv hc
  exact ⟨c, e1, h.2 _ _ e2⟩
section
variable {P P' F F' : Addr → Prop} {H H' : Hp} {a : Addr} {u : HO}
theorem Tb.still (t : Tb P F H) (h : Still H H') : Tb P F H' := ⟨tabs_still t.t h, t.n⟩
theorem Tb.upd (t : Tb P F H) (h : Calm (H a)) : Tb P F (L2.upd H a u) := t.still (.upd h)
theorem Tb.new (t : Tb P F H) (h : H a = none) : Tb P F (L2.upd H a u) := t.still (.new h)
theorem Tb.tbl (t : Tb P F H) (h : isTab a) : ∃ ps, H a = some (.tbl ps) := by
  obtain ⟨p, hp, rfl⟩ := h
  obtain ⟨ps, h1, _⟩ := t.t p hp
  exact ⟨ps, h1⟩
theorem Tb.not (t : Tb P F H) (h : Calm (H a)) : ¬ isTab a := fun z => let ⟨ps, e⟩ := t.tbl z; h.1 ps e
theorem Tb.addF (t : Tb P F H) (h : ¬ isTab a) : Tb P (fun b => F b ∨ b = a) H := ⟨t.t, fun b hb => ⟨fun z => z.elim (t.n b hb).1 fun z => h (z ▸ hb), (t.n b hb).2⟩⟩
theorem Tb.addP (t : Tb P F H) (h : ¬ isTab a) : Tb (fun b => P b ∨ b = a) F H := ⟨t.t, fun b hb => ⟨(t.n b hb).1, fun z => z.elim (t.n b hb).2 fun z => h (z ▸ hb)⟩⟩
theorem Tb.lessP (t : Tb P F H) (h : ∀ a, P' a → P a) : Tb P' F H := ⟨t.t, fun b hb => ⟨(t.n b hb).1, fun z => (t.n b hb).2 (h b z)⟩⟩
end
end TW
set_option linter.all false
set_option Elab.async false
namespace TW
open PySem L2
def keyD : Key → PyData
  | .inl i => .int i
  | .inr x => .str x
def tupD (k : List Key) : PyData := .tuple (k.map keyD)
structure Gh where
  F : Addr → Prop
  bs : List Addr
def Same (x y : Option HO) : Prop := y = x ∨ ∃ (u : HO) (o : Obj), ((∃ ks, u = .dK ks) ∨ ∃ ks, u = .dT ks) ∧ x = some u ∧ y = some (.frz o u)
theorem Same.trans {x y z : Option HO} (h : Same x y) (g : Same y z) : Same x z := by
  rcases h with rfl | ⟨u, o, hu, rfl, rfl⟩
  · exact g
  · rcases g with rfl | ⟨u2, o2, h2, e, _⟩
    · exact .inr ⟨u, o, hu, rfl, rfl⟩
    · cases e
      rcases h2 with ⟨ks, h2⟩ | ⟨ks, h2⟩ <;> cases h2
theorem Same.lst {x y : Option HO} {xs : List V} (h : Same x y) (e : x = some (.lst xs)) : y = some (.lst xs) := by
  rcases h with rfl | ⟨u, o, hu, rfl, rfl⟩
  · exact e
  · cases e
    rcases hu with ⟨ks, h2⟩ | ⟨ks, h2⟩ <;> cases h2
theorem Same.tup {x y : Option HO} {xs : List V} (h : Same x y) (e : x = some (.tup xs)) : y = some (.tup xs) := by
  rcases h with rfl | ⟨u, o, hu, rfl, rfl⟩
  · exact e
  · cases e
    rcases hu with ⟨ks, h2⟩ | ⟨ks, h2⟩ <;> cases h2
theorem Same.some {x y : Option HO} (h : Same x y) (e : x ≠ none) : y ≠ none := by
  rcases h with rfl | ⟨u, o, hu, rfl, rfl⟩
  · exact e
  · simp
theorem Same.rd {H H' : Hp} {a : Addr} {u : HO} (h : Same (H a) (H' a)) (e : Rd H a u) : Rd H' a u := by
  rcases h with h | ⟨u2, o, hu, h1, h2⟩
  · rcases e with e | ⟨o, e⟩
    · exact .inl (h.trans e)
    · exact .inr ⟨o, h.trans e⟩
  · rcases e with e | ⟨o2, e⟩
    · rw [h1] at e
      cases e
      exact .inr ⟨o, h2⟩
    · rw [h1] at e
      cases e
      rcases hu with ⟨ks, h2⟩ | ⟨ks, h2⟩ <;> cases h2
mutual
inductive Fz (F : Addr → Prop) (H : Hp) : V → PyData → Prop
  | non : Fz F H .non .none
  | bl (b : Bool) : Fz F H (.bl b) (.bool b)
  | int (i : Int) : Fz F H (.int i) (.int i)
  | str (x : Str) : Fz F H (.str x) (.str x)
  | lst {a : Addr} {xs : List V} {ds : List PyData} : F a → H a = some (.lst xs) → FzA F H xs ds → Fz F H (.ref a) (.list ds)
  | tup {a : Addr} {xs : List V} {ds : List PyData} : F a → H a = some (.tup xs) → FzA F H xs ds → Fz F H (.ref a) (.tuple ds)
  | dic {a : Addr} {ks : List (Key × V)} {ds : List (PyData × PyData)} : F a → Rd H a (.dK ks) → FzK F H ks ds → Fz F H (.ref a) (.dict ds)
  | dit {a : Addr} {ks : List (List Key × V)} {ds : List (PyData × PyData)} : F a → Rd H a (.dT ks) → FzT F H ks ds → Fz F H (.ref a) (.dict ds)
inductive FzA (F : Addr → Prop) (H : Hp) : List V → List PyData → Prop
  | nil : FzA F H [] []
  | cons {v : V} {vs : List V} {d : PyData} {ds : List PyData} : Fz F H v d → FzA F H vs ds → FzA F H (v :: vs) (d :: ds)
inductive FzK (F : Addr → Prop) (H : Hp) : List (Key × V) → List (PyData × PyData) → Prop
  | nil : FzK F H [] []
  | cons {k : Key} {v : V} {vs : List (Key × V)} {d : PyData} {ds : List (PyData × PyData)} : Fz F H v d → FzK F H vs ds → FzK F H ((k, v) :: vs) ((keyD k, d) :: ds)
inductive FzT (F : Addr → Prop) (H : Hp) : List (List Key × V) → List (PyData × PyData) → Prop
  | nil : FzT F H [] []
  | cons {k : List Key} {v : V} {vs : List (List Key × V)} {d : PyData} {ds : List (PyData × PyData)} : Fz F H v d → FzT F H vs ds → FzT F H ((k, v) :: vs) ((tupD k, d) :: ds)
end
section
variable {F F' : Addr → Prop} {H H' : Hp}
mutual
theorem Fz.sim (hF : ∀ a, F a → F' a) (hH : ∀ a, F a → Same (H a) (H' a)) : ∀ {d : PyData} {v : V}, Fz F H v d → Fz F' H' v d
  | .none, _, h => by cases h; exact .non
  | .bool _, _, h => by cases h; exact .bl _
  | .int _, _, h => by cases h; exact .int _
  | .str _, _, h => by cases h; exact .str _
  | .list _, _, h => by
    cases h with
    | lst f e r => exact .lst (hF _ f) ((hH _ f).lst e) (FzA.sim hF hH r)
  | .tuple _, _, h => by
    cases h with
    | tup f e r => exact .tup (hF _ f) ((hH _ f).tup e) (FzA.sim hF hH r)
  | .dict _, _, h => by
    cases h with
    | dic f e r => exact .dic (hF _ f) ((hH _ f).rd e) (FzK.sim hF hH r)
    | dit f e r => exact .dit (hF _ f) ((hH _ f).rd e) (FzT.sim hF hH r)
theorem FzA.sim (hF : ∀ a, F a → F' a) (hH : ∀ a, F a → Same (H a) (H' a)) : ∀ {ds : List PyData} {vs : List V}, FzA F H vs ds → FzA F' H' vs ds
  | [], _, h => by cases h; exact .nil
  | _ :: _, _, h => by
    cases h with
    | cons a b => exact .cons (Fz.sim hF hH a) (FzA.sim hF hH b)
theorem FzK.sim (hF : ∀ a, F a → F' a) (hH : ∀ a, F a → Same (H a) (H' a)) : ∀ {ds : List (PyData × PyData)} {vs : List (Key × V)}, FzK F H vs ds → FzK F' H' vs ds
  | [], _, h => by cases h; exact .nil
  | (_, _) :: _, _, h => by
    cases h with
    | cons a b => exact .cons (Fz.sim hF hH a) (FzK.sim hF hH b)
theorem FzT.sim (hF : ∀ a, F a → F' a) (hH : ∀ a, F a → Same (H a) (H' a)) : ∀ {ds : List (PyData × PyData)} {vs : List (List Key × V)}, FzT F H vs ds → FzT F' H' vs ds
  | [], _, h => by cases h; exact .nil
  | (_, _) :: _, _, h => by
    cases h with
    | cons a b => exact .cons (Fz.sim hF hH a) (FzT.sim hF hH b)
end
theorem Fz.mono (hF : ∀ a, F a → F' a) (hH : ∀ a, F a → H' a = H a) {d : PyData} {v : V} (h : Fz F H v d) : Fz F' H' v d := h.sim hF fun a f => .inl (hH a f)
theorem FzA.mono (hF : ∀ a, F a → F' a) (hH : ∀ a, F a → H' a = H a) {ds : List PyData} {vs : List V} (h : FzA F H vs ds) : FzA F' H' vs ds := h.sim hF fun a f => .inl (hH a f)
theorem FzK.mono (hF : ∀ a, F a → F' a) (hH : ∀ a, F a → H' a = H a) {ds : List (PyData × PyData)} {vs : List (Key × V)} (h : FzK F H vs ds) : FzK F' H' vs ds := h.sim hF fun a f => .inl (hH a f)
theorem FzT.mono (hF : ∀ a, F a → F' a) (hH : ∀ a, F a → H' a = H a) {ds : List (PyData × PyData)} {vs : List (List Key × V)} (h : FzT F H vs ds) : FzT F' H' vs ds := h.sim hF fun a f => .inl (hH a f)
theorem FzA.length : ∀ {vs : List V} {ds : List PyData}, FzA F H vs ds → vs.length = ds.length
  | [], _, h => by cases h; rfl
  | _ :: _, _, h => by
    cases h with
    | cons a b => exact congrArg (· + 1) (FzA.length b)
theorem FzA.get : ∀ {vs : List V} {ds : List PyData} {i : Nat} {d : PyData}, FzA F H vs ds → ds[i]? = some d → ∃ v, vs[i]? = some v ∧ Fz F H v d
  | _, [], _, _, _, e => by simp at e
  | _, _ :: _, 0, _, h, e => by
    cases h with
    | cons a b => simp at e; subst e; exact ⟨_, rfl, a⟩
  | _, _ :: _, i + 1, _, h, e => by
    cases h with
    | cons a b =>
      obtain ⟨v, h1, h2⟩ := FzA.get (i := i) b (by simpa using e)
      exact ⟨v, by simpa using h1, h2⟩
theorem FzA.append : ∀ {xs ys : List V} {ds es : List PyData}, FzA F H xs ds → FzA F H ys es → FzA F H (xs ++ ys) (ds ++ es)
  | _, _, [], _, h, g => by cases h; exact g
  | _, _, _ :: _, _, h, g => by
    cases h with
    | cons a b => exact .cons a (b.append g)
theorem FzA.take : ∀ (n : Nat) {vs : List V} {ds : List PyData}, FzA F H vs ds → FzA F H (vs.take n) (ds.take n)
  | 0, _, _, _ => .nil
  | _ + 1, _, _, .nil => .nil
  | n + 1, _, _, .cons a b => .cons a (b.take n)
theorem FzA.drop : ∀ (n : Nat) {vs : List V} {ds : List PyData}, FzA F H vs ds → FzA F H (vs.drop n) (ds.drop n)
  | 0, _, _, h => h
  | _ + 1, _, _, .nil => .nil
  | n + 1, _, _, .cons _ b => b.drop n
theorem FzA.reverse : ∀ {vs : List V} {ds : List PyData}, FzA F H vs ds → FzA F H vs.reverse ds.reverse
  | _, _, .nil => .nil
  | _, _, .cons a b => by
    rw [List.reverse_cons, List.reverse_cons]
    exact b.reverse.append (.cons a .nil)
theorem FzA.set {v : V} {d : PyData} (r : Fz F H v d) : ∀ (i : Nat) {vs : List V} {ds : List PyData}, FzA F H vs ds → FzA F H (vs.set i v) (ds.set i d)
  | _, _, _, .nil => .nil
  | 0, _, _, .cons _ b => .cons r b
  | i + 1, _, _, .cons a b => .cons a (FzA.set r i b)
theorem FzA.rep {vs : List V} {ds : List PyData} (h : FzA F H vs ds) : ∀ n : Nat, FzA F H (List.replicate n vs).flatten (List.replicate n ds).flatten
  | 0 => .nil
  | n + 1 => by
    rw [List.replicate_succ, List.replicate_succ, List.flatten_cons, List.flatten_cons]
    exact h.append (h.rep n)
theorem FzA.ints : ∀ {vs : List V} {ns : List Int}, FzA F H vs (ns.map PyData.int) → vs = ns.map V.int
  | _, [], h => by cases h; rfl
  | _, n :: ns, h => by
    rw [List.map_cons] at h
    cases h with
    | cons a b =>
      cases a
      rw [List.map_cons, FzA.ints b]
theorem FzA.of_ints : ∀ {ns : List Int}, FzA F H (ns.map V.int) (ns.map PyData.int)
  | [] => .nil
  | n :: ns => .cons (.int n) FzA.of_ints
theorem FzA.bools : ∀ {vs : List V} {ns : List Bool}, FzA F H vs (ns.map PyData.bool) → vs = ns.map V.bl
  | _, [], h => by cases h; rfl
  | _, n :: ns, h => by
    rw [List.map_cons] at h
    cases h with
    | cons a b =>
      cases a
      rw [List.map_cons, FzA.bools b]
theorem Fz.int_inv {v : V} {i : Int} (h : Fz F H v (.int i)) : v = .int i := by cases h; rfl
theorem Fz.str_inv {v : V} {x : Str} (h : Fz F H v (.str x)) : v = .str x := by cases h; rfl
theorem Fz.bool_inv {v : V} {b : Bool} (h : Fz F H v (.bool b)) : v = .bl b := by cases h; rfl
theorem Fz.none_inv {v : V} (h : Fz F H v .none) : v = .non := by cases h; rfl
theorem Fz.list_inv {v : V} {ds : List PyData} (h : Fz F H v (.list ds)) : ∃ a xs, v = .ref a ∧ F a ∧ H a = some (.lst xs) ∧ FzA F H xs ds := by
  cases h with
  | lst f e r => exact ⟨_, _, rfl, f, e, r⟩
theorem Fz.tup_inv {v : V} {ds : List PyData} (h : Fz F H v (.tuple ds)) : ∃ a xs, v = .ref a ∧ F a ∧ H a = some (.tup xs) ∧ FzA F H xs ds := by
  cases h with
  | tup f e r => exact ⟨_, _, rfl, f, e, r⟩
end
def Ow (F : Addr → Prop) (H : Hp) (a : Addr) : PyData → Prop
  | .list ds => ∃ xs, H a = some (.lst xs) ∧ FzA F H xs ds
  | .dict ds => (∃ ks, H a = some (.dK ks) ∧ FzK F H ks ds) ∨ (∃ ks, H a = some (.dT ks) ∧ FzT F H ks ds)
  | _ => False
theorem Ow.sim {F F' : Addr → Prop} {H H' : Hp} {a : Addr} (hF : ∀ a, F a → F' a) (hH : ∀ a, F a → Same (H a) (H' a)) (ha : H' a = H a) : ∀ {d : PyData}, Ow F H a d → Ow F' H' a d
  | .list _, ⟨xs, e, r⟩ => ⟨xs, ha.trans e, r.sim hF hH⟩
  | .dict _, .inl ⟨ks, e, r⟩ => .inl ⟨ks, ha.trans e, r.sim hF hH⟩
  | .dict _, .inr ⟨ks, e, r⟩ => .inr ⟨ks, ha.trans e, r.sim hF hH⟩
theorem Ow.mono {F F' : Addr → Prop} {H H' : Hp} {a : Addr} (hF : ∀ a, F a → F' a) (hH : ∀ a, F a → H' a = H a) (ha : H' a = H a) {d : PyData} (h : Ow F H a d) : Ow F' H' a d := h.sim hF (fun a f => .inl (hH a f)) ha
theorem Ow.calm {F : Addr → Prop} {H : Hp} {a : Addr} : ∀ {d : PyData}, Ow F H a d → Calm (H a)
  | .list _, ⟨xs, e, r⟩ => by rw [e]; exact calm_lst
  | .dict _, .inl ⟨ks, e, r⟩ => by rw [e]; exact calm_dK
  | .dict _, .inr ⟨ks, e, r⟩ => by rw [e]; exact calm_dT
theorem Ow.tracked {F : Addr → Prop} {H : Hp} {a : Addr} : ∀ {d : PyData}, Ow F H a d → H a ≠ none
  | .list _, ⟨xs, e, r⟩ => by rw [e]; simp
  | .dict _, .inl ⟨ks, e, r⟩ => by rw [e]; simp
  | .dict _, .inr ⟨ks, e, r⟩ => by rw [e]; simp
structure BoxOk (H : Hp) (bs : List Addr) (b : Bx) : Prop where
  at_ : (b.small ≠ [] ∧ ∃ x g m, bs = [x, g, m] ∧ x ≠ g ∧ x ≠ m ∧ g ≠ m ∧
    H x = some (.dK [(.inr "great", .ref g), (.inr "small", .ref m), (.inr "turn", .int b.turn)]) ∧
    H g = some (.lst (b.great.map V.int)) ∧ H m = some (.lst (b.small.map V.int))) ∨
    (b.small = [] ∧ ∃ x g, bs = [x, g] ∧ x ≠ g ∧ H x = some (.lst [.ref g, .int b.turn]) ∧ H g = some (.lst (b.great.map V.int)))
theorem BoxOk.stay {H H' : Hp} {bs : List Addr} {b : Bx} (h : BoxOk H bs b) (k : ∀ c u, c ∈ bs → H c = some u → H' c = some u) : BoxOk H' bs b := by
  rcases h.at_ with ⟨h0, x, g, m, rfl, n1, n2, n3, h1, h2, h3⟩ | ⟨h0, x, g, rfl, n1, h1, h2⟩
  · exact ⟨.inl ⟨h0, x, g, m, rfl, n1, n2, n3, k _ _ (by simp) h1, k _ _ (by simp) h2, k _ _ (by simp) h3⟩⟩
  · exact ⟨.inr ⟨h0, x, g, rfl, n1, k _ _ (by simp) h1, k _ _ (by simp) h2⟩⟩
theorem BoxOk.ne {H : Hp} {bs : List Addr} {b : Bx} (h : BoxOk H bs b) : ∀ a ∈ bs, H a ≠ none := by
  rcases h.at_ with ⟨h0, x, g, m, rfl, n1, n2, n3, h1, h2, h3⟩ | ⟨h0, x, g, rfl, n1, h1, h2⟩
  · intro a ha
    simp at ha
    rcases ha with rfl | rfl | rfl
    · rw [h1]; simp
    · rw [h2]; simp
    · rw [h3]; simp
  · intro a ha
    simp at ha
    rcases ha with rfl | rfl
    · rw [h1]; simp
    · rw [h2]; simp
structure Rel (P : Addr → Prop) (G : Gh) (σ : L2.St) (H : Hp) (s : Sx) : Prop where
  len : σ.length = s.r.length
  dat : ∀ (i : Nat) (d : PyData), s.r[i]? = some (SV.dat d) → ∃ v, σ[i]? = some (some v) ∧ Fz G.F H v d
  own : ∀ (i : Nat) (d : PyData), s.r[i]? = some (SV.own d) → ∃ a, σ[i]? = some (some (V.ref a)) ∧ Ow G.F H a d ∧ ¬ G.F a ∧ ¬ P a ∧ a ∉ G.bs
  sep : ∀ (i j : Nat) (d e : PyData), i ≠ j → s.r[i]? = some (SV.own d) → s.r[j]? = some (SV.own e) → σ[i]? ≠ σ[j]?
  box : ∀ (i : Nat), s.r[i]? = some SV.box → ∃ x, G.bs.head? = some x ∧ σ[i]? = some (some (V.ref x))
  bx : ∀ b, s.b = some b → BoxOk H G.bs b
  nb : s.b = none → G.bs = []
  fr : ∀ a, G.F a → H a ≠ none
  pr : ∀ a, P a → H a ≠ none
  bF : ∀ a ∈ G.bs, ¬ G.F a ∧ ¬ P a ∧ H a ≠ none
  tb : Tb P G.F H
structure Ext (P : Addr → Prop) (G : Gh) (H : Hp) (G' : Gh) (H' : Hp) : Prop where
  F : ∀ a, G.F a → G'.F a
  kF : ∀ a, G.F a → Same (H a) (H' a)
  kP : ∀ a, P a → ¬ G.F a → H' a = H a
  new : ∀ a, G'.F a → G.F a ∨ ¬ P a ∨ ∃ xs, H a = some (.tup xs)
  bs : G.bs ≠ [] → G'.bs = G.bs
  bn : ∀ a ∈ G'.bs, a ∈ G.bs ∨ ¬ P a
theorem Ext.refl {P : Addr → Prop} {G : Gh} {H : Hp} : Ext P G H G H := ⟨fun _ h => h, fun _ _ => .inl rfl, fun _ _ _ => rfl, fun _ h => .inl h, fun _ => rfl, fun _ h => .inl h⟩
theorem Ext.trans {P : Addr → Prop} {G G1 G2 : Gh} {H H1 H2 : Hp} (x : Ext P G H G1 H1) (y : Ext P G1 H1 G2 H2) : Ext P G H G2 H2 :=
  ⟨fun a h => y.F a (x.F a h), fun a h => (x.kF a h).trans (y.kF a (x.F a h)), fun a h n => (by
    by_cases z : G1.F a
    · rcases x.new a z with q | q | ⟨xs, q⟩
      · exact absurd q n
      · exact absurd h q
      · have e1 := x.kP a h n
        rw [← e1] at q
        exact ((y.kF a z).tup q).trans (q.symm.trans e1)
    · exact (y.kP a h z).trans (x.kP a h n)), fun a h => (by
    rcases y.new a h with q | q | ⟨xs, q⟩
    · exact x.new a q
    · exact .inr (.inl q)
    · by_cases n : G.F a
      · exact .inl n
      · by_cases p : P a
        · exact .inr (.inr ⟨xs, (x.kP a p n).symm.trans q⟩)
        · exact .inr (.inl p)), fun h => by
    have e := x.bs h
    rw [y.bs (by rw [e]; exact h), e], fun a h => (y.bn a h).elim (x.bn a) .inr⟩
theorem Ext.kX {P : Addr → Prop} {G G' : Gh} {H H' : Hp} {a : Addr} {u : HO} (x : Ext P G H G' H') (h : P a) (e : H a = some u) (n : ∀ ks, u ≠ .dK ks) (n2 : ∀ ks, u ≠ .dT ks) : H' a = H a := by
  by_cases z : G.F a
  · rcases x.kF a z with q | ⟨u2, o, hu, q, _⟩
    · exact q
    · rw [e] at q
      cases q
      rcases hu with ⟨ks, h2⟩ | ⟨ks, h2⟩
      · exact absurd h2 (n ks)
      · exact absurd h2 (n2 ks)
  · exact x.kP a h z
theorem Ext.nF {P : Addr → Prop} {G G' : Gh} {H H' : Hp} {a : Addr} {u : HO} (x : Ext P G H G' H') (z : G'.F a) (n : ¬ G.F a) (p : P a) (e : H a = some u) (t : ∀ xs, u ≠ .tup xs) : False := by
  rcases x.new a z with q | q | ⟨xs, q⟩
  · exact n q
  · exact q p
  · rw [e] at q
    exact t xs (Option.some.inj q)
theorem Fz.ext {P : Addr → Prop} {G G' : Gh} {H H' : Hp} {v : V} {d : PyData} (h : Fz G.F H v d) (x : Ext P G H G' H') : Fz G'.F H' v d := h.sim x.F x.kF
theorem FzA.ext {P : Addr → Prop} {G G' : Gh} {H H' : Hp} {v : List V} {d : List PyData} (h : FzA G.F H v d) (x : Ext P G H G' H') : FzA G'.F H' v d := h.sim x.F x.kF
def OR (G : Gh) (σ : L2.St) (H : Hp) (v : V) : Opd → Prop
  | .val d => Fz G.F H v d
  | .slot i => σ[i]? = some (some v)
theorem OR.ext {P : Addr → Prop} {G G' : Gh} {σ : L2.St} {H H' : Hp} {v : V} (x : Ext P G H G' H') : ∀ {o : Opd}, OR G σ H v o → OR G' σ H' v o
  | .val _, h => Fz.ext h x
  | .slot _, h => h
abbrev ORs (G : Gh) (σ : L2.St) (H : Hp) : List V → List Opd → Prop := Paired (OR G σ H)
theorem ORs.ext {P : Addr → Prop} {G G' : Gh} {σ : L2.St} {H H' : Hp} (x : Ext P G H G' H') : ∀ {vs : List V} {os : List Opd}, ORs G σ H vs os → ORs G' σ H' vs os
  | _, _, .nil => .nil
  | _, _, .cons a b => .cons (a.ext x) (ORs.ext x b)
abbrev Pk (H : Hp) (v : V) (d : PyData) : Prop := Fz (fun _ => True) H v d
theorem Fz.pk {F : Addr → Prop} {H : Hp} {v : V} {d : PyData} (h : Fz F H v d) : Pk H v d := h.mono (fun _ _ => trivial) fun _ _ => rfl
theorem FzA.pk {F : Addr → Prop} {H : Hp} {v : List V} {d : List PyData} (h : FzA F H v d) : FzA (fun _ => True) H v d := h.mono (fun _ _ => trivial) fun _ _ => rfl
theorem Ow.nF {P : Addr → Prop} {G G' : Gh} {H H' : Hp} {a : Addr} {F : Addr → Prop} (x : Ext P G H G' H') (z : G'.F a) (n : ¬ G.F a) (p : P a) : ∀ {d : PyData}, Ow F H a d → False
  | .list _, ⟨xs, e, r⟩ => x.nF z n p e fun _ h => nomatch h
  | .dict _, .inl ⟨ks, e, r⟩ => x.nF z n p e fun _ h => nomatch h
  | .dict _, .inr ⟨ks, e, r⟩ => x.nF z n p e fun _ h => nomatch h
structure Wish where
  w : (Addr → Prop) → Gh → Hp → Er → Prop
  stuck : ∀ P G H, ¬ w P G H .stuck
  mono : ∀ {P G H G' H' e}, w P G H e → Ext P G H G' H' → w P G' H' e
def Wish.no : Wish := ⟨fun _ _ _ _ => False, fun _ _ _ h => h, fun h _ => h⟩
end TW
set_option linter.all false
set_option Elab.async false
namespace TW
open PySem L2
def SmP (base : Heap) : Prop := (∃ o, base.get? sysModules = some o) ∧ base.NoDigits
structure Cok (X : Cx) (k : Nat) : Prop where
  calm : X.calm = true
  nd : X.N.Nodup
  room : Room k X.A
  gd : X.A.guards = some []
  sm : SmP X.base
abbrev PostV (P : Addr → Prop) (σ : L2.St) (Q : VK) (G : Gh) (H : Hp) (o : Opd) (s' : Sx) : Prop := ∀ G' v H', Ext P G H G' H' → Rel P G' σ H' s' → OR G' σ H' v o → Q v H'
abbrev PostB (P : Addr → Prop) (σ : L2.St) (Q : Bool → Hp → Prop) (G : Gh) (H : Hp) (b : Bool) (s' : Sx) : Prop := ∀ G' H', Ext P G H G' H' → Rel P G' σ H' s' → Q b H'
abbrev PostA (P : Addr → Prop) (σ : L2.St) (Q : List V → Hp → Prop) (G : Gh) (H : Hp) (os : List Opd) (s' : Sx) : Prop := ∀ G' vs H', Ext P G H G' H' → Rel P G' σ H' s' → ORs G' σ H' vs os → Q vs H'
def ClE (W : Wish) (te : TE) (m : M Opd) : Prop := ∀ P G σ H s (Q : VK), Rel P G σ H s → pw m s (PostV P σ Q G H) (W.w P G H) → te σ H Q
def ClT (W : Wish) (tt : TT) (m : M Bool) : Prop := ∀ P G σ H s (Q : Bool → Hp → Prop), Rel P G σ H s → pw m s (PostB P σ Q G H) (W.w P G H) → tt σ H Q
def ClA (W : Wish) (ta : TA) (m : M (List Opd)) : Prop := ∀ P G σ H s (Q : List V → Hp → Prop), Rel P G σ H s → pw m s (PostA P σ Q G H) (W.w P G H) → ta σ H Q
structure Sd (X : Cx) (W : Wish) (e : Expr) (m : M Opd) : Prop where
  ex : ∃ te, PE X e te ∧ ClE W te m
structure SdT (X : Cx) (W : Wish) (e : Expr) (m : M Bool) : Prop where
  ex : ∃ tt, PT X e tt ∧ ClT W tt m
structure SdA (X : Cx) (W : Wish) (es : List Expr) (m : M (List Opd)) : Prop where
  ex : ∃ ta, PA X es ta ∧ ClA W ta m
section
variable {P : Addr → Prop} {G G' : Gh} {σ : L2.St} {H H' : Hp} {s s' : Sx} {v : V} {o : Opd} {W : Wish}
def Mono {α : Type} (P : Addr → Prop) (Qp : Gh → Hp → α → Sx → Prop) : Prop := ∀ G H G1 H1 (a : α) (s : Sx), Ext P G H G1 H1 → Qp G H a s → Qp G1 H1 a s
theorem PostV.mono {Q : VK} : Mono P (PostV P σ Q) := fun _ _ _ _ _ _ x q G' v H' y => q G' v H' (x.trans y)
theorem PostB.mono {Q : Bool → Hp → Prop} : Mono P (PostB P σ Q) := fun _ _ _ _ _ _ x q G' H' y => q G' H' (x.trans y)
theorem PostA.mono {Q : List V → Hp → Prop} : Mono P (PostA P σ Q) := fun _ _ _ _ _ _ x q G' v H' y => q G' v H' (x.trans y)
theorem pw_ext {α : Type} {m : M α} {Qp : Gh → Hp → α → Sx → Prop} (hm : Mono P Qp) (x : Ext P G H G' H') (h : pw m s (Qp G H) (W.w P G H)) : pw m s (Qp G' H') (W.w P G' H') :=
  pw_mono h (fun _ _ q => hm _ _ _ _ _ _ x q) fun _ q => W.mono q x
theorem ClE.bind {α : Type} {te : TE} {m : M Opd} {f : Opd → M α} {Q : VK} {Qp : Gh → Hp → α → Sx → Prop} (c : ClE W te m) (hm : Mono P Qp) (R : Rel P G σ H s) (hw : pw (m >>= f) s (Qp G H) (W.w P G H))
    (k : ∀ o s1 G1 v H1, Ext P G H G1 H1 → Rel P G1 σ H1 s1 → OR G1 σ H1 v o → pw (f o) s1 (Qp G1 H1) (W.w P G1 H1) → Q v H1) : te σ H Q := by
  rw [pw_bind] at hw
  exact c P G σ H s Q R (pw_mono hw (fun o s1 h G1 v H1 x R1 r => k o s1 G1 v H1 x R1 r (pw_ext hm x h)) fun _ q => q)
theorem ClT.bind {α : Type} {te : TT} {m : M Bool} {f : Bool → M α} {Q : Bool → Hp → Prop} {Qp : Gh → Hp → α → Sx → Prop} (c : ClT W te m) (hm : Mono P Qp) (R : Rel P G σ H s) (hw : pw (m >>= f) s (Qp G H) (W.w P G H))
    (k : ∀ o s1 G1 H1, Ext P G H G1 H1 → Rel P G1 σ H1 s1 → pw (f o) s1 (Qp G1 H1) (W.w P G1 H1) → Q o H1) : te σ H Q := by
  rw [pw_bind] at hw
  exact c P G σ H s Q R (pw_mono hw (fun o s1 h G1 H1 x R1 => k o s1 G1 H1 x R1 (pw_ext hm x h)) fun _ q => q)
theorem ClA.bind {α : Type} {te : TA} {m : M (List Opd)} {f : List Opd → M α} {Q : List V → Hp → Prop} {Qp : Gh → Hp → α → Sx → Prop} (c : ClA W te m) (hm : Mono P Qp) (R : Rel P G σ H s) (hw : pw (m >>= f) s (Qp G H) (W.w P G H))
    (k : ∀ o s1 G1 v H1, Ext P G H G1 H1 → Rel P G1 σ H1 s1 → ORs G1 σ H1 v o → pw (f o) s1 (Qp G1 H1) (W.w P G1 H1) → Q v H1) : te σ H Q := by
  rw [pw_bind] at hw
  exact c P G σ H s Q R (pw_mono hw (fun o s1 h G1 v H1 x R1 r => k o s1 G1 v H1 x R1 r (pw_ext hm x h)) fun _ q => q)
def Gh.add (G : Gh) (a : Addr) : Gh := ⟨fun b => G.F b ∨ b = a, G.bs⟩
theorem Rel.fix {a : Addr} (R : Rel P G σ H s) (ha : H a ≠ none) (hP : ¬ P a) (hb : a ∉ G.bs) (ho : ∀ (i : Nat) d, s.r[i]? = some (SV.own d) → σ[i]? ≠ some (some (V.ref a))) (ht : ¬ isTab a) : Ext P G H (G.add a) H ∧ Rel P (G.add a) σ H s := by
  refine ⟨⟨fun _ h => .inl h, fun _ _ => .inl rfl, fun _ _ _ => rfl, fun b h => ?_, fun _ => rfl, fun _ h => .inl h⟩, R.len, fun i d e => ?_, fun i d e => ?_, R.sep, R.box, R.bx, R.nb, fun b h => ?_, R.pr, fun b h => ⟨fun z => ?_, (R.bF b h).2⟩, R.tb.addF ht⟩
  · rcases h with h | h
    · exact .inl h
    · exact .inr (.inl (h ▸ hP))
  · obtain ⟨v, h1, h2⟩ := R.dat i d e
    exact ⟨v, h1, h2.mono (fun _ h => .inl h) fun _ _ => rfl⟩
  · obtain ⟨b, h1, h2, h3, h4, h5⟩ := R.own i d e
    refine ⟨b, h1, h2.mono (fun _ h => .inl h) (fun _ _ => rfl) rfl, fun z => ?_, h4, h5⟩
    rcases z with z | z
    · exact h3 z
    · exact ho i d e (z ▸ h1)
  · rcases h with h | h
    · exact R.fr b h
    · exact h ▸ ha
  · rcases z with z | z
    · exact (R.bF b h).1 z
    · exact hb (z ▸ h)
theorem Rel.lay {a : Addr} {u : HO} (R : Rel P G σ H s) (hn : H a = none) : Ext P G H G (upd H a u) ∧ Rel P G σ (upd H a u) s ∧ ¬ G.F a ∧ ¬ P a ∧ a ∉ G.bs ∧ (∀ (i : Nat) d, s.r[i]? = some (SV.own d) → σ[i]? ≠ some (some (V.ref a))) := by
  have kF : ∀ b, G.F b → upd H a u b = H b := fun b h => upd_ne fun z => R.fr b h (z ▸ hn)
  have kP : ∀ b, P b → upd H a u b = H b := fun b h => upd_ne fun z => R.pr b h (z ▸ hn)
  have up : ∀ b, H b ≠ none → upd H a u b ≠ none := fun b h => by
    have n : b ≠ a := fun z => h (by rw [z]; exact hn)
    rw [upd_ne n]; exact h
  have kn : ∀ b, H b ≠ none → upd H a u b = H b := fun b h => upd_ne fun z => h (by rw [z]; exact hn)
  refine ⟨⟨fun _ h => h, fun b h => .inl (kF b h), fun b h _ => kP b h, fun _ h => .inl h, fun _ => rfl, fun _ h => .inl h⟩, ⟨R.len, fun i d e => ?_, fun i d e => ?_, R.sep, R.box, fun b e => ?_, R.nb, fun b h => up b (R.fr b h), fun b h => up b (R.pr b h), fun b h => ⟨(R.bF b h).1, (R.bF b h).2.1, up b (R.bF b h).2.2⟩, R.tb.new hn⟩, fun z => R.fr a z hn, fun z => R.pr a z hn, fun z => (R.bF a z).2.2 hn, fun i d e z => ?_⟩
  · obtain ⟨v, h1, h2⟩ := R.dat i d e
    exact ⟨v, h1, h2.mono (fun _ h => h) kF⟩
  · obtain ⟨b, h1, h2, h3⟩ := R.own i d e
    exact ⟨b, h1, h2.mono (fun _ h => h) kF (kn b h2.tracked), h3⟩
  · exact (R.bx b e).stay fun c u' _ hc => (kn c (by rw [hc]; simp)).trans hc
  · obtain ⟨b, h1, h2, _⟩ := R.own i d e
    rw [h1] at z
    cases z
    exact h2.tracked hn
theorem Rel.new {a : Addr} {u : HO} (R : Rel P G σ H s) (hn : H a = none) : Ext P G H (G.add a) (upd H a u) ∧ Rel P (G.add a) σ (upd H a u) s := by
  obtain ⟨x, R1, h1, h2, h3, h4⟩ := R.lay (u := u) hn
  obtain ⟨y, R2⟩ := R1.fix (a := a) (by rw [upd_same]; simp) h2 h3 h4 (R.tb.not (by rw [hn]; exact calm_none))
  exact ⟨x.trans y, R2⟩
theorem getD_of {l : List SV} {i : Nat} {x : SV} (h : l.getD i .no = x) (hx : x ≠ .no) : l[i]? = some x := by
  rw [List.getD_eq_getElem?_getD] at h
  cases e : l[i]? with
  | none => rw [e] at h; exact absurd h.symm hx
  | some y => rw [e] at h; exact congrArg some h
def Ct (G : Gh) (H : Hp) (v : V) : PyData → Prop
  | .list ds => ∃ a xs, v = .ref a ∧ H a = some (.lst xs) ∧ FzA G.F H xs ds
  | .dict ds => ∃ a, v = .ref a ∧ ((∃ ks, Rd H a (.dK ks) ∧ FzK G.F H ks ds) ∨ (∃ ks, Rd H a (.dT ks) ∧ FzT G.F H ks ds))
  | d => Fz G.F H v d
theorem Fz.ct {d : PyData} (h : Fz G.F H v d) : Ct G H v d := by
  cases h with
  | lst f e r => exact ⟨_, _, rfl, e, r⟩
  | dic f e r => exact ⟨_, rfl, .inl ⟨_, e, r⟩⟩
  | dit f e r => exact ⟨_, rfl, .inr ⟨_, e, r⟩⟩
  | non => exact .non
  | bl b => exact .bl b
  | int i => exact .int i
  | str x => exact .str x
  | tup f e r => exact .tup f e r
theorem Ow.ct {a : Addr} : ∀ {d : PyData}, Ow G.F H a d → Ct G H (.ref a) d
  | .list _, ⟨xs, e, r⟩ => ⟨a, xs, rfl, e, r⟩
  | .dict _, .inl ⟨ks, e, r⟩ => ⟨a, rfl, .inl ⟨ks, .inl e, r⟩⟩
  | .dict _, .inr ⟨ks, e, r⟩ => ⟨a, rfl, .inr ⟨ks, .inl e, r⟩⟩
theorem Ct.pk : ∀ {d : PyData} {v : V}, Ct G H v d → Pk H v d
  | .list _, _, ⟨_, _, e0, e, r⟩ => by rw [e0]; exact .lst trivial e r.pk
  | .dict _, _, ⟨_, e0, .inl ⟨_, e, r⟩⟩ => by rw [e0]; exact .dic trivial e (r.mono (fun _ _ => trivial) fun _ _ => rfl)
  | .dict _, _, ⟨_, e0, .inr ⟨_, e, r⟩⟩ => by rw [e0]; exact .dit trivial e (r.mono (fun _ _ => trivial) fun _ _ => rfl)
  | .none, _, h => Fz.pk h
  | .bool _, _, h => Fz.pk h
  | .int _, _, h => Fz.pk h
  | .str _, _, h => Fz.pk h
  | .tuple _, _, h => Fz.pk h
abbrev CtA (G : Gh) (H : Hp) : List V → List PyData → Prop := Paired (Ct G H)
theorem peek_ok {α : Type} {f : PyData → M α} {Q : α → Sx → Prop} {E : Er → Prop} (R : Rel P G σ H s) (r : OR G σ H v o) (hE : ¬ E .stuck) (hw : pw (peek o >>= f) s Q E) : ∃ d, Ct G H v d ∧ pw (f d) s Q E := by
  cases o with
  | val d => exact ⟨d, Fz.ct r, hw⟩
  | slot i =>
    unfold peek at hw
    rw [pw_bind, pw_bind, pw_getS] at hw
    have r : σ[i]? = some (some v) := r
    cases e : s.r.getD i .no with
    | no => rw [e] at hw; exact absurd hw hE
    | box => rw [e] at hw; exact absurd hw hE
    | dat d =>
      rw [e] at hw
      obtain ⟨w, h1, h2⟩ := R.dat i d (getD_of e (by simp))
      rw [r] at h1; cases h1
      exact ⟨d, h2.ct, hw⟩
    | own d =>
      rw [e] at hw
      obtain ⟨a, h1, h2, _⟩ := R.own i d (getD_of e (by simp))
      rw [r] at h1; cases h1
      exact ⟨d, h2.ct, hw⟩
theorem peeks_ok {α : Type} : ∀ {os : List Opd} {vs : List V} {f : List PyData → M α} {Q : α → Sx → Prop} {E : Er → Prop}, Rel P G σ H s → ORs G σ H vs os → ¬ E .stuck → pw (peeks os >>= f) s Q E → ∃ ds, CtA G H vs ds ∧ pw (f ds) s Q E
  | [], _, f, _, _, _, r, _, hw => by
    cases r
    exact ⟨[], .nil, hw⟩
  | o :: os, _, f, Q, E, R, r, hE, hw => by
    cases r with
    | cons r1 r2 =>
      unfold peeks at hw
      rw [pw_bind, pw_bind] at hw
      obtain ⟨d, h1, h2⟩ := peek_ok (f := fun d => do let ds ← peeks os; f (d :: ds)) R r1 hE (by
        rw [pw_bind]
        refine pw_mono hw (fun d s1 h => ?_) fun _ h => h
        rw [pw_bind] at h ⊢
        exact pw_mono h (fun ds s2 h => h) fun _ h => h)
      obtain ⟨ds, h3, h4⟩ := peeks_ok (f := fun ds => f (d :: ds)) R r2 hE h2
      exact ⟨d :: ds, .cons h1 h3, h4⟩
theorem Rel.own_to_dat {a : Addr} {d : PyData} {i : Nat} (R : Rel P G σ H s) (e : s.r[i]? = some (SV.own d)) (hs : σ[i]? = some (some (V.ref a))) : Ext P G H (G.add a) H ∧ Rel P (G.add a) σ H { s with r := s.r.set i (.dat d) } ∧ Fz (G.add a).F H (.ref a) d := by
  obtain ⟨b, h1, h2, h3, h4, h5⟩ := R.own i d e
  rw [hs] at h1; cases h1
  have hi : i < s.r.length := (List.getElem?_eq_some_iff.mp e).1
  have other : ∀ {j : Nat} {x : SV}, (s.r.set i (.dat d))[j]? = some x → (j = i ∧ x = .dat d) ∨ (j ≠ i ∧ s.r[j]? = some x) := fun {j x} h => by
    by_cases hj : j = i
    · subst hj
      rw [List.getElem?_set_self hi] at h
      cases h
      exact .inl ⟨rfl, rfl⟩
    · rw [List.getElem?_set_ne (Ne.symm hj)] at h
      exact .inr ⟨hj, h⟩
  have z : Fz (G.add a).F H (.ref a) d := by
    have up : ∀ c, G.F c → (G.add a).F c := fun c h => .inl h
    have me : (G.add a).F a := .inr rfl
    cases d with
    | list ds => obtain ⟨xs, e1, r⟩ := h2; exact .lst me e1 (r.mono up fun _ _ => rfl)
    | dict ds =>
      rcases h2 with ⟨ks, e1, r⟩ | ⟨ks, e1, r⟩
      · exact .dic me (.inl e1) (r.mono up fun _ _ => rfl)
      · exact .dit me (.inl e1) (r.mono up fun _ _ => rfl)
    | none => exact h2.elim
    | bool _ => exact h2.elim
    | int _ => exact h2.elim
    | str _ => exact h2.elim
    | tuple _ => exact h2.elim
  refine ⟨⟨fun _ h => .inl h, fun _ _ => .inl rfl, fun _ _ _ => rfl, fun b h => ?_, fun _ => rfl, fun _ h => .inl h⟩, ⟨by rw [R.len]; simp, fun j x h => ?_, fun j x h => ?_, fun j l x y hjl h h' => ?_, fun j h => ?_, R.bx, R.nb, fun b h => ?_, R.pr, fun b h => ⟨fun z => ?_, (R.bF b h).2⟩, R.tb.addF (R.tb.not h2.calm)⟩, z⟩
  · rcases h with h | h
    · exact .inl h
    · exact .inr (h ▸ (.inl h4))
  · rcases other h with ⟨rfl, q⟩ | ⟨_, q⟩
    · cases q
      exact ⟨_, hs, z⟩
    · obtain ⟨v, k1, k2⟩ := R.dat j x q
      exact ⟨v, k1, k2.mono (fun _ h => .inl h) fun _ _ => rfl⟩
  · rcases other h with ⟨_, q⟩ | ⟨hj, q⟩
    · cases q
    · obtain ⟨b, k1, k2, k3, k4, k5⟩ := R.own j x q
      refine ⟨b, k1, k2.mono (fun _ h => .inl h) (fun _ _ => rfl) rfl, fun w => ?_, k4, k5⟩
      rcases w with w | w
      · exact k3 w
      · exact R.sep j i x d hj q e (by rw [k1, hs, w])
  · rcases other h with ⟨_, q⟩ | ⟨_, q⟩
    · cases q
    · rcases other h' with ⟨_, q'⟩ | ⟨_, q'⟩
      · cases q'
      · exact R.sep j l x y hjl q q'
  · rcases other h with ⟨_, q⟩ | ⟨_, q⟩
    · cases q
    · exact R.box j q
  · rcases h with h | h
    · exact R.fr b h
    · exact h ▸ h2.tracked
  · rcases z with z | z
    · exact (R.bF b h).1 z
    · exact h5 (z ▸ h)
theorem take_ok {α : Type} {f : PyData → M α} {Qp : Gh → Hp → α → Sx → Prop} (hm : Mono P Qp) (R : Rel P G σ H s) (r : OR G σ H v o) (hw : pw (take o >>= f) s (Qp G H) (W.w P G H)) :
    ∃ G' s' d, Ext P G H G' H ∧ Rel P G' σ H s' ∧ Fz G'.F H v d ∧ pw (f d) s' (Qp G' H) (W.w P G' H) := by
  cases o with
  | val d => exact ⟨G, s, d, .refl, R, r, hw⟩
  | slot i =>
    unfold take at hw
    rw [pw_bind, pw_bind, pw_getS] at hw
    have r : σ[i]? = some (some v) := r
    cases e : s.r.getD i .no with
    | no => rw [e] at hw; exact absurd hw (W.stuck _ _ _)
    | box => rw [e] at hw; exact absurd hw (W.stuck _ _ _)
    | dat d =>
      rw [e] at hw
      obtain ⟨w, h1, h2⟩ := R.dat i d (getD_of e (by simp))
      rw [r] at h1; cases h1
      exact ⟨G, s, d, .refl, R, h2, hw⟩
    | own d =>
      rw [e] at hw
      have e' := getD_of e (by simp)
      obtain ⟨a, h1, _⟩ := R.own i d e'
      rw [r] at h1; cases h1
      obtain ⟨x, R', z⟩ := R.own_to_dat e' r
      exact ⟨_, _, d, x, R', z, pw_ext (s := { s with r := s.r.set i (.dat d) }) hm x hw⟩
theorem takes_ok {α : Type} {Qp : Gh → Hp → α → Sx → Prop} (hm : Mono P Qp) : ∀ {os : List Opd} {vs : List V} {f : List PyData → M α} {G : Gh} {s : Sx}, Rel P G σ H s → ORs G σ H vs os → pw (takes os >>= f) s (Qp G H) (W.w P G H) →
    ∃ G' s' ds, Ext P G H G' H ∧ Rel P G' σ H s' ∧ FzA G'.F H vs ds ∧ pw (f ds) s' (Qp G' H) (W.w P G' H)
  | [], _, f, _, _, R, r, hw => by
    cases r
    exact ⟨_, _, [], .refl, R, .nil, hw⟩
  | o :: os, _, f, _, _, R, r, hw => by
    cases r with
    | cons r1 r2 =>
      unfold takes at hw
      rw [pw_bind, pw_bind] at hw
      obtain ⟨G1, s1, d, x1, R1, z1, h1⟩ := take_ok (f := fun d => do let ds ← takes os; f (d :: ds)) hm R r1 (by
        rw [pw_bind]
        refine pw_mono hw (fun d s1 h => ?_) fun _ h => h
        rw [pw_bind] at h ⊢
        exact pw_mono h (fun ds s2 h => h) fun _ h => h)
      obtain ⟨G2, s2, ds, x2, R2, z2, h2⟩ := takes_ok hm (f := fun ds => f (d :: ds)) R1 (ORs.ext x1 r2) h1
      exact ⟨G2, s2, d :: ds, x1.trans x2, R2, .cons (z1.ext x2) z2, h2⟩
end
end TW
set_option linter.all false
set_option Elab.async false
namespace TW
open PySem L2
section
variable {P : Addr → Prop} {G G' : Gh} {σ : L2.St} {H H' : Hp} {s s' : Sx} {v : V} {o : Opd} {W : Wish} {X : Cx} {k : Nat}
theorem Rel.newTup {p : Addr} {xs : List V} {ds : List PyData} (R : Rel P G σ H s) (hp : H p = none) (r : FzA G.F H xs ds) :
    Ext P G H (G.add p) (upd H p (.tup xs)) ∧ Rel P (G.add p) σ (upd H p (.tup xs)) s ∧ Fz (G.add p).F (upd H p (.tup xs)) (.ref p) (.tuple ds) := by
  obtain ⟨x, R'⟩ := R.new (u := .tup xs) hp
  exact ⟨x, R', .tup (.inr rfl) upd_same (r.ext x)⟩
theorem Rel.newLst {p : Addr} {xs : List V} {ds : List PyData} (R : Rel P G σ H s) (hp : H p = none) (r : FzA G.F H xs ds) :
    Ext P G H (G.add p) (upd H p (.lst xs)) ∧ Rel P (G.add p) σ (upd H p (.lst xs)) s ∧ Fz (G.add p).F (upd H p (.lst xs)) (.ref p) (.list ds) := by
  obtain ⟨x, R'⟩ := R.new (u := .lst xs) hp
  exact ⟨x, R', .lst (.inr rfl) upd_same (r.ext x)⟩
theorem lim_line {n : Nat} (h : n ≤ lim) : n ≤ sizeLine := Nat.le_trans h (by rw [sizeLine_eq]; decide)
theorem Ct.tup {xs : List PyData} (h : Ct G H v (.tuple xs)) : ∃ a vs, v = .ref a ∧ G.F a ∧ H a = some (.tup vs) ∧ FzA G.F H vs xs := Fz.tup_inv h
theorem Ct.int_ {i : Int} (h : Ct G H v (.int i)) : v = .int i := Fz.int_inv h
theorem Ct.str_ {i : Str} (h : Ct G H v (.str i)) : v = .str i := Fz.str_inv h
theorem Ct.bool_ {i : Bool} (h : Ct G H v (.bool i)) : v = .bl i := Fz.bool_inv h
theorem Ct.none_ (h : Ct G H v .none) : v = .non := Fz.none_inv h
def OpOk (r : R2) (f : PyData → PyData → Option PyData) : Prop := ∀ P G σ H s x y d e z (Q : VK), Rel P G σ H s → Ct G H x d → Ct G H y e → f d e = some z →
  (∀ G' v H', Ext P G H G' H' → Rel P G' σ H' s → Fz G'.F H' v z → Q v H') → r x y H Q
theorem cl_op {r : R2} {f : PyData → PyData → Option PyData} {ta tb : TE} {ma mb : M Opd} (ok : OpOk r f) (ha : ClE W ta ma) (hb : ClE W tb mb) : ClE W (tOp r ta tb) (eOp f ma mb) := by
  intro P G σ H s Q R hw
  unfold eOp at hw
  refine ha.bind PostV.mono R hw fun o1 s1 G1 v1 H1 x1 R1 r1 hw1 => ?_
  refine hb.bind PostV.mono R1 hw1 fun o2 s2 G2 v2 H2 x2 R2 r2 hw2 => ?_
  obtain ⟨d, c1, hw3⟩ := peek_ok R2 (OR.ext x2 r1) (W.stuck _ _ _) hw2
  obtain ⟨e, c2, hw4⟩ := peek_ok R2 r2 (W.stuck _ _ _) hw3
  rw [pw_bind, pw_optM (W.stuck _ _ _)] at hw4
  obtain ⟨z, ez, hw5⟩ := hw4
  exact ok P G2 σ H2 s2 v1 v2 d e z Q R2 c1 c2 ez fun G' v H' x R' r => hw5 G' v H' x R' r
theorem sd_bin {op : Operator} {o : Bop} {r : R2} {a b : Expr} {pos : Pos} {ma mb : M Opd} (hr : OpR X (binaryOp op) r) (ok : OpOk r (binD o)) (ha : Sd X W a ma) (hb : Sd X W b mb) : Sd X W (.BinOp a op b pos) (eBin o ma mb) := by
  obtain ⟨ta, pa, ca⟩ := ha.ex
  obtain ⟨tb, pb, cb⟩ := hb.ex
  exact ⟨_, pe_op hr pa pb, cl_op ok ca cb⟩
theorem sd_add {a b : Expr} {pos : Pos} {ma mb : M Opd} (ha : Sd X W a ma) (hb : Sd X W b mb) : Sd X W (.BinOp a .Add b pos) (eBin .add ma mb) := by
  refine sd_bin (op_add.or (op_add_str.or (op_catA.or op_cat))) ?_ ha hb
  intro P G σ H s x y d e z Q R cx cy ez h
  cases d <;> cases e <;> simp only [binD, reduceCtorEq] at ez
  · cases ez
    exact .inl ⟨_, _, cx.int_, cy.int_, h G _ H .refl R (.int _)⟩
  · split at ez <;> cases ez
    rename_i hl
    exact .inr (.inl ⟨_, _, cx.str_, cy.str_, lim_line hl, h G _ H .refl R (.str _)⟩)
  · split at ez <;> cases ez
    rename_i hl
    obtain ⟨a1, xs, e1, h1, r1⟩ := cx
    obtain ⟨a2, ys, e2, h2, r2⟩ := cy
    refine .inr (.inr (.inr ⟨a1, a2, xs, ys, e1, e2, h1, h2, by rw [r1.length, r2.length]; exact lim_line hl, fun p hp => ?_⟩))
    obtain ⟨x, R', r⟩ := R.newLst hp (r1.append r2)
    exact h _ _ _ x R' r
  · split at ez <;> cases ez
    rename_i hl
    obtain ⟨a1, xs, e1, f1, h1, r1⟩ := cx.tup
    obtain ⟨a2, ys, e2, f2, h2, r2⟩ := cy.tup
    refine .inr (.inr (.inl ⟨a1, a2, xs, ys, e1, e2, SqT.of h1, SqT.of h2, by rw [r1.length, r2.length]; exact lim_line hl, fun q => ?_, fun _ q => ?_, fun _ _ p hp => ?_⟩))
    · subst q
      cases r1
      exact h G _ H .refl R (.tup f2 h2 r2)
    · subst q
      cases r2
      rw [List.append_nil] at h
      exact h G _ H .refl R (.tup f1 h1 r1)
    · obtain ⟨x, R', r⟩ := R.newTup hp (r1.append r2)
      exact h _ _ _ x R' r
theorem sd_sub {a b : Expr} {pos : Pos} {ma mb : M Opd} (ha : Sd X W a ma) (hb : Sd X W b mb) : Sd X W (.BinOp a .Sub b pos) (eBin .sub ma mb) := by
  refine sd_bin op_sub ?_ ha hb
  intro P G σ H s x y d e z Q R cx cy ez h
  cases d <;> cases e <;> simp only [binD, reduceCtorEq] at ez
  cases ez
  exact ⟨_, _, cx.int_, cy.int_, h G _ H .refl R (.int _)⟩
theorem sd_mod {a b : Expr} {pos : Pos} {ma mb : M Opd} (ha : Sd X W a ma) (hb : Sd X W b mb) : Sd X W (.BinOp a .Mod b pos) (eBin .mod ma mb) := by
  refine sd_bin op_modN ?_ ha hb
  intro P G σ H s x y d e z Q R cx cy ez h
  cases d <;> cases e <;> simp only [binD, reduceCtorEq] at ez
  split at ez <;> cases ez
  rename_i hc
  exact ⟨_, _, cx.int_, cy.int_, hc, h G _ H .refl R (.int _)⟩
theorem sd_pow {a b : Expr} {pos : Pos} {ma mb : M Opd} (ha : Sd X W a ma) (hb : Sd X W b mb) : Sd X W (.BinOp a .Pow b pos) (eBin .pow ma mb) := by
  refine sd_bin op_pow ?_ ha hb
  intro P G σ H s x y d e z Q R cx cy ez h
  cases d <;> cases e <;> simp only [binD, reduceCtorEq] at ez
  split at ez <;> cases ez
  rename_i hc
  exact ⟨_, _, cx.int_, cy.int_, hc, h G _ H .refl R (.int _)⟩
theorem sd_var {i : Nat} {x : Str} {pos : Pos} (hN : X.N[i]? = some x) (hv : Vis X.env.scope x) (hd : (x == ("__debug__" : Str)) = false := by decide) (hcd : (x == ("__classdict__" : Str)) = false := by decide) : Sd X W (.Name x pos) (eVar i) := by
  refine ⟨_, pe_var hN hv hd hcd, ?_⟩
  intro P G σ H s Q R hw
  unfold eVar at hw
  rw [pw_bind, pw_getS] at hw
  have fin : ∀ w, σ[i]? = some (some w) → PostV P σ Q G H (.slot i) s → tVar i σ H Q := fun w h q => ⟨w, h, q G w H .refl R h⟩
  cases e : s.r.getD i .no with
  | no => rw [e] at hw; exact absurd hw (W.stuck _ _ _)
  | dat d =>
    rw [e] at hw
    obtain ⟨w, h1, _⟩ := R.dat i d (getD_of e (by simp))
    exact fin w h1 hw
  | own d =>
    rw [e] at hw
    obtain ⟨a, h1, _⟩ := R.own i d (getD_of e (by simp))
    exact fin _ h1 hw
  | box =>
    rw [e] at hw
    obtain ⟨a, _, h1⟩ := R.box i (getD_of e (by simp))
    exact fin _ h1 hw
theorem cl_c {v : V} {d : PyData} (h : ∀ F H, Fz F H v d) : ClE W (tC v) (eC d) := fun P G σ H s Q R hw => hw G v H .refl R (h G.F H)
theorem sd_int {i : Int} {j pos} : Sd X W (.Constant (.int i) j pos) (eC (.int i)) := ⟨_, pe_int, cl_c fun _ _ => .int i⟩
theorem sd_bool {b : Bool} {j pos} : Sd X W (.Constant (.bool b) j pos) (eC (.bool b)) := ⟨_, pe_bl, cl_c fun _ _ => .bl b⟩
theorem sd_none {j pos} : Sd X W (.Constant .none j pos) (eC .none) := ⟨_, pe_non, cl_c fun _ _ => .non⟩
theorem sd_str {x : Str} {j pos} : Sd X W (.Constant (.str x) j pos) (eC (.str x)) := ⟨_, pe_str, cl_c fun _ _ => .str x⟩
theorem sd_glob {x : Str} {i : Int} {pos : Pos} (hg : Gl X x) (hm : ∃ t, X.mg x = some (.int i t)) (hd : (x == ("__debug__" : Str)) = false := by decide) : Sd X W (.Name x pos) (eC (.int i)) := by
  obtain ⟨t, e⟩ := hm
  exact ⟨_, pe_glob (v := .int i) hg e ⟨t, rfl⟩ hd, cl_c fun _ _ => .int i⟩
theorem sd_globS {x y : Str} {pos : Pos} (hg : Gl X x) (hm : ∃ t, X.mg x = some (.str y t)) (hd : (x == ("__debug__" : Str)) = false := by decide) : Sd X W (.Name x pos) (eC (.str y)) := by
  obtain ⟨t, e⟩ := hm
  exact ⟨_, pe_glob (v := .str y) hg e ⟨t, rfl⟩ hd, cl_c fun _ _ => .str y⟩
theorem sa_nil : SdA X W [] aNil := ⟨_, pa_nil, fun P G σ H s Q R hw => hw G [] H .refl R .nil⟩
theorem sa_cons {e : Expr} {es : List Expr} {m : M Opd} {r : M (List Opd)} (h : Sd X W e m) (hr : SdA X W es r) (hs : starEach (e :: es) X.env = (false, eval e X.env) :: starEach es X.env := by rfl) : SdA X W (e :: es) (aCons m r) := by
  obtain ⟨te, pe, ce⟩ := h.ex
  obtain ⟨ta, pa, ca⟩ := hr.ex
  refine ⟨_, pa_cons pe pa hs, ?_⟩
  intro P G σ H s Q R hw
  unfold aCons at hw
  refine ce.bind PostA.mono R hw fun o1 s1 G1 v1 H1 x1 R1 r1 hw1 => ?_
  refine ca.bind PostA.mono R1 hw1 fun o2 s2 G2 v2 H2 x2 R2 r2 hw2 => ?_
  exact hw2 G2 _ H2 .refl R2 (.cons (OR.ext x2 r1) r2)
theorem sd_tup {es : List Expr} {x1 : Nat} {pos : Pos} {m : M (List Opd)} (h : SdA X W es m) : Sd X W (.Tuple es x1 pos) (eTup m) := by
  obtain ⟨ta, pa, ca⟩ := h.ex
  refine ⟨_, pe_tup pa, ?_⟩
  intro P G σ H s Q R hw
  unfold eTup at hw
  refine ca.bind PostV.mono R hw fun os s1 G1 vs H1 x1 R1 r1 hw1 => ?_
  obtain ⟨G2, s2, ds, x2, R2, z, hw2⟩ := takes_ok PostV.mono R1 r1 hw1
  split at hw2
  · rename_i hl
    refine ⟨by rw [z.length]; exact lim_line hl, fun p hp => ?_⟩
    obtain ⟨x3, R3, r3⟩ := R2.newTup hp z
    exact hw2 _ _ _ x3 R3 r3
  · exact absurd hw2 (W.stuck _ _ _)
end
end TW
set_option linter.all false
set_option Elab.async false
namespace TW
open PySem L2
section
variable {P : Addr → Prop} {G G' : Gh} {σ : L2.St} {H H' : Hp} {s s' : Sx} {v : V} {o : Opd} {W : Wish} {X : Cx} {k : Nat}
mutual
theorem Fz.dp {K : PySem.W.Frag} {F : Addr → Prop} : ∀ {d : PyData} {v : V}, d.canLay0 = true → Fz F H v d → Dp K H v d
  | .none, _, _, h => by cases h; exact .non
  | .bool _, _, _, h => by cases h; exact .bl _
  | .int _, _, _, h => by cases h; exact .int _
  | .str _, _, _, h => by cases h; exact .str _
  | .list ds, _, c, h => by
    cases h with
    | lst f e r => exact .lst (SqL.of e) (FzA.dp (by simpa [PyData.canLay0] using c) r)
  | .tuple ds, _, c, h => by
    cases h with
    | tup f e r => exact .tup (SqT.of e) (FzA.dp (by simpa [PyData.canLay0] using c) r)
  | .dict _, _, c, _ => by simp [PyData.canLay0] at c
theorem FzA.dp {K : PySem.W.Frag} {F : Addr → Prop} : ∀ {ds : List PyData} {vs : List V}, PyData.canLayAll0 ds = true → FzA F H vs ds → DpAll K H vs ds
  | [], _, _, h => by cases h; exact .nil
  | d :: ds, _, c, h => by
    have c' : d.canLay0 = true ∧ PyData.canLayAll0 ds = true := by simpa [PyData.canLayAll0] using c
    cases h with
    | cons a b => exact .cons (Fz.dp c'.1 a) (FzA.dp c'.2 b)
end
theorem Ct.dp {K : PySem.W.Frag} {d : PyData} (h : Ct G H v d) (c : shp d = true) : Dp K H v d := Fz.dp (SeqAt.canLay_of_shaped c) h.pk
theorem sd_cmp {op : CmpOp} {o : Cop} {r : R2} {a b : Expr} {pos : Pos} {ma mb : M Opd} (hr : OpR X (compareOp op) r) (ok : OpOk r (cmpD o)) (ha : Sd X W a ma) (hb : Sd X W b mb) (hm : behindInMarks op b = false) : Sd X W (.Compare a [op] [b] pos) (eCmp o ma mb) := by
  obtain ⟨ta, pa, ca⟩ := ha.ex
  obtain ⟨tb, pb, cb⟩ := hb.ex
  exact ⟨_, pe_cmpR hr pa pb hm, cl_op ok ca cb⟩
theorem cmpD_eq {x y : PyData} : cmpD .eq x y = if shp x && shp y then some (.bool (PyData.eqv x y)) else none := by simp only [cmpD]
theorem cmpD_ne {x y : PyData} : cmpD .ne x y = if shp x && shp y then some (.bool (!PyData.eqv x y)) else none := by simp only [cmpD]
theorem sd_eq {a b : Expr} {pos : Pos} {ma mb : M Opd} (C : Cok X k) (ha : Sd X W a ma) (hb : Sd X W b mb) : Sd X W (.Compare a [.Eq] [b] pos) (eCmp .eq ma mb) := by
  refine sd_cmp (op_eqD C.room.units) ?_ ha hb (nomark _)
  intro P G σ H s x y d e z Q R cx cy ez h
  rw [cmpD_eq] at ez
  split at ez <;> cases ez
  rename_i hc
  rw [Bool.and_eq_true] at hc
  exact ⟨d, e, cx.dp hc.1, cy.dp hc.2, hc.1, hc.2, h G _ H .refl R (.bl _)⟩
theorem ok_lt : OpOk (rI0 fun i j => .bl (decide (i < j))) (cmpD .lt) := by
  intro P G σ H s x y d e z Q R cx cy ez h
  cases d <;> cases e <;> simp only [cmpD, reduceCtorEq] at ez
  cases ez
  exact ⟨_, _, cx.int_, cy.int_, h G _ H .refl R (.bl _)⟩
theorem ok_le : OpOk (rI0 fun i j => .bl (decide (i ≤ j))) (cmpD .le) := by
  intro P G σ H s x y d e z Q R cx cy ez h
  cases d <;> cases e <;> simp only [cmpD, reduceCtorEq] at ez
  cases ez
  exact ⟨_, _, cx.int_, cy.int_, h G _ H .refl R (.bl _)⟩
theorem ok_ge : OpOk (rI0 fun i j => .bl (decide (j ≤ i))) (cmpD .ge) := by
  intro P G σ H s x y d e z Q R cx cy ez h
  cases d <;> cases e <;> simp only [cmpD, reduceCtorEq] at ez
  cases ez
  exact ⟨_, _, cx.int_, cy.int_, h G _ H .refl R (.bl _)⟩
theorem non_iff {d : PyData} (h : Ct G H v d) : decide (v = .non) = isNoneD d := by
  cases d with
  | none => rw [h.none_]; rfl
  | bool b => rw [h.bool_]; rfl
  | int b => rw [h.int_]; rfl
  | str b => rw [h.str_]; rfl
  | list ds => obtain ⟨a, _, e, _⟩ := h; rw [e]; rfl
  | tuple ds => obtain ⟨a, _, e, _⟩ := h.tup; rw [e]; rfl
  | dict ds => obtain ⟨a, e, _⟩ := h; rw [e]; rfl
def eChn (f g : PyData → PyData → Option PyData) (a b c : M Opd) : M Opd := do let o ← a; let p ← b; let x ← peek o; let y ← peek p; let z ← optM (f x y); let t ← optM (boolD z); if t = true then (do let q ← c; let y' ← peek p; let w ← peek q; let u ← optM (g y' w); pure (.val u)) else pure (.val (.bool false))
theorem sd_chn {op op' : CmpOp} {f g : PyData → PyData → Option PyData} {r r' : R2} {a b c : Expr} {pos : Pos} {ma mb mc : M Opd} (hr : OpR X (compareOp op) r) (hr' : OpR X (compareOp op') r') (ok : OpOk r f) (ok' : OpOk r' g) (ha : Sd X W a ma) (hb : Sd X W b mb) (hc : Sd X W c mc)
    (hm : lastMarks [op, op'] [b, c] = false := by rfl) : Sd X W (.Compare a [op, op'] [b, c] pos) (eChn f g ma mb mc) := by
  obtain ⟨ta, pa, ca⟩ := ha.ex
  obtain ⟨tb, pb, cb⟩ := hb.ex
  obtain ⟨tc, pc, cc⟩ := hc.ex
  refine ⟨_, pe_chain hr hr' pa pb pc hm, ?_⟩
  intro P G σ H s Q R hw
  unfold eChn at hw
  refine ca.bind PostV.mono R hw fun o1 s1 G1 v1 H1 x1 R1 r1 hw1 => ?_
  refine cb.bind PostV.mono R1 hw1 fun o2 s2 G2 v2 H2 x2 R2 r2 hw2 => ?_
  obtain ⟨d, c1, hw3⟩ := peek_ok R2 (OR.ext x2 r1) (W.stuck _ _ _) hw2
  obtain ⟨e, c2, hw4⟩ := peek_ok R2 r2 (W.stuck _ _ _) hw3
  rw [pw_bind, pw_optM (W.stuck _ _ _)] at hw4
  obtain ⟨z, ez, hw5⟩ := hw4
  rw [pw_bind, pw_optM (W.stuck _ _ _)] at hw5
  obtain ⟨t, et, hw6⟩ := hw5
  refine ok P G2 σ H2 s2 v1 v2 d e z _ R2 c1 c2 ez fun G3 v3 H3 x3 R3 r3 => ?_
  cases z <;> simp only [boolD, reduceCtorEq] at et
  cases et
  refine ⟨t, r3.bool_inv, ?_⟩
  have hw6 := pw_ext (m := if t = true then _ else _) PostV.mono x3 hw6
  cases t with
  | false => exact hw6 G3 _ H3 .refl R3 (.bl _)
  | true =>
    refine cc.bind PostV.mono R3 hw6 fun o4 s4 G4 v4 H4 x4 R4 r4 hw7 => ?_
    obtain ⟨y', c3, hw8⟩ := peek_ok R4 (OR.ext (x3.trans x4) r2) (W.stuck _ _ _) hw7
    obtain ⟨w, c4, hw9⟩ := peek_ok R4 r4 (W.stuck _ _ _) hw8
    rw [pw_bind, pw_optM (W.stuck _ _ _)] at hw9
    obtain ⟨u, eu, hw10⟩ := hw9
    exact ok' P G4 σ H4 s4 v2 v4 y' w u Q R4 c3 c4 eu fun G' v H' x R' r => hw10 G' v H' x R' r
theorem st_val {e : Expr} {m : M Opd} (h : Sd X W e m) (he : ∀ whole, isTrue e X.env whole = (do let v ← whole; standAt e.pos; holding [v] (truthy v)) := by intro _; rfl) : SdT X W e (tVal m) := by
  obtain ⟨te, pe, ce⟩ := h.ex
  refine ⟨_, pt_val pe he, ?_⟩
  intro P G σ H s Q R hw
  unfold tVal at hw
  refine ce.bind PostB.mono R hw fun o1 s1 G1 v1 H1 x1 R1 r1 hw1 => ?_
  obtain ⟨d, c1, hw2⟩ := peek_ok R1 r1 (W.stuck _ _ _) hw1
  rw [pw_optM (W.stuck _ _ _)] at hw2
  obtain ⟨b, eb, hw3⟩ := hw2
  cases d <;> simp only [boolD, reduceCtorEq] at eb
  cases eb
  exact ⟨b, c1.bool_, hw3 G1 H1 .refl R1⟩
theorem st_not {a : Expr} {pos : Pos} {m : M Bool} (h : SdT X W a m) : SdT X W (.UnaryOp .Not a pos) (tNot m) := by
  obtain ⟨te, pe, ce⟩ := h.ex
  refine ⟨_, pt_not pe, ?_⟩
  intro P G σ H s Q R hw
  unfold TW.tNot at hw
  exact ce.bind PostB.mono R hw fun b s1 G1 H1 x1 R1 hw1 => hw1 G1 H1 .refl R1
structure SdW (X : Cx) (W : Wish) (e : Expr) (m : M Bool) : Prop where
  ex : ∃ tt, PW X e tt ∧ ClT W tt m
theorem SdW.st {e : Expr} {m : M Bool} (h : SdW X W e m) : SdT X W e m := let ⟨t, p, c⟩ := h.ex; ⟨t, p.pt, c⟩
theorem sw_and1 {a : Expr} {pos : Pos} {m : M Bool} (h : SdT X W a m) : SdW X W (.BoolOp .And [a] pos) m := let ⟨t, p, c⟩ := h.ex; ⟨t, pw_and1 p, c⟩
theorem sw_or1 {a : Expr} {pos : Pos} {m : M Bool} (h : SdT X W a m) : SdW X W (.BoolOp .Or [a] pos) m := let ⟨t, p, c⟩ := h.ex; ⟨t, pw_or1 p, c⟩
theorem sw_and {a b : Expr} {pos : Pos} {rest : List Expr} {ma mb : M Bool} (ha : SdT X W a ma) (hb : SdW X W (.BoolOp .And (b :: rest) pos) mb) : SdW X W (.BoolOp .And (a :: b :: rest) pos) (TW.tAnd ma mb) := by
  obtain ⟨ta, pa, ca⟩ := ha.ex
  obtain ⟨tb, pb, cb⟩ := hb.ex
  refine ⟨_, pw_and pa pb, ?_⟩
  intro P G σ H s Q R hw
  unfold TW.tAnd at hw
  refine ca.bind PostB.mono R hw fun b s1 G1 H1 x1 R1 hw1 => ?_
  cases b with
  | true => exact cb P G1 σ H1 s1 Q R1 hw1
  | false => exact hw1 G1 H1 .refl R1
theorem sw_or {a b : Expr} {pos : Pos} {rest : List Expr} {ma mb : M Bool} (ha : SdT X W a ma) (hb : SdW X W (.BoolOp .Or (b :: rest) pos) mb) : SdW X W (.BoolOp .Or (a :: b :: rest) pos) (TW.tOr ma mb) := by
  obtain ⟨ta, pa, ca⟩ := ha.ex
  obtain ⟨tb, pb, cb⟩ := hb.ex
  refine ⟨_, pw_or pa pb, ?_⟩
  intro P G σ H s Q R hw
  unfold TW.tOr at hw
  refine ca.bind PostB.mono R hw fun b s1 G1 H1 x1 R1 hw1 => ?_
  cases b with
  | false => exact cb P G1 σ H1 s1 Q R1 hw1
  | true => exact hw1 G1 H1 .refl R1
theorem sd_one {op : BoolOp} {a : Expr} {pos : Pos} {m : M Opd} (h : Sd X W a m) : Sd X W (.BoolOp op [a] pos) m := let ⟨t, p, c⟩ := h.ex; ⟨t, pe_one p, c⟩
theorem cl_val {te : TE} {m : M Opd} (ce : ClE W te m) : ClT W (fun σ H Q => te σ H fun x H1 => ∃ c, x = .bl c ∧ Q c H1) (tVal m) := by
  intro P G σ H s Q R hw
  unfold tVal at hw
  refine ce.bind PostB.mono R hw fun o1 s1 G1 v1 H1 x1 R1 r1 hw1 => ?_
  obtain ⟨d, c1, hw2⟩ := peek_ok R1 r1 (W.stuck _ _ _) hw1
  rw [pw_optM (W.stuck _ _ _)] at hw2
  obtain ⟨b, eb, hw3⟩ := hw2
  cases d <;> simp only [boolD, reduceCtorEq] at eb
  cases eb
  exact ⟨b, c1.bool_, hw3 G1 H1 .refl R1⟩
theorem sd_and {a b : Expr} {pos : Pos} {rest : List Expr} {ma mb : M Opd} (ha : Sd X W a ma) (hb : Sd X W (.BoolOp .And (b :: rest) pos) mb) : Sd X W (.BoolOp .And (a :: b :: rest) pos) (eAnd ma mb) := by
  obtain ⟨ta, pa, ca⟩ := ha.ex
  obtain ⟨tb, pb, cb⟩ := hb.ex
  refine ⟨_, pe_and pa pb, ?_⟩
  intro P G σ H s Q R hw
  unfold eAnd at hw
  have := (cl_val ca).bind (Q := fun c H1 => if c = true then tb σ H1 Q else Q (.bl false) H1) PostV.mono R hw fun c s1 G1 H1 x1 R1 hw1 => by
    cases c with
    | true => exact cb P G1 σ H1 s1 Q R1 hw1
    | false => exact hw1 G1 _ H1 .refl R1 (.bl false)
  exact this
theorem sd_not {a : Expr} {pos : Pos} {m : M Opd} (h : Sd X W a m) : Sd X W (.UnaryOp .Not a pos) (eNot m) := by
  obtain ⟨te, pe, ce⟩ := h.ex
  refine ⟨_, pe_not pe, ?_⟩
  intro P G σ H s Q R hw
  unfold eNot at hw
  exact (cl_val ce).bind (Q := fun c H1 => Q (.bl (!c)) H1) PostV.mono R hw fun c s1 G1 H1 x1 R1 hw1 => hw1 G1 _ H1 .refl R1 (.bl _)
theorem sd_if {c a b : Expr} {pos : Pos} {mc : M Bool} {ma mb : M Opd} (hc : SdT X W c mc) (ha : Sd X W a ma) (hb : Sd X W b mb) : Sd X W (.IfExp c a b pos) (eIf mc ma mb) := by
  obtain ⟨tc, pc, cc⟩ := hc.ex
  obtain ⟨ta, pa, ca⟩ := ha.ex
  obtain ⟨tb, pb, cb⟩ := hb.ex
  refine ⟨_, pe_ifExp pc pa pb, ?_⟩
  intro P G σ H s Q R hw
  unfold eIf at hw
  refine cc.bind PostV.mono R hw fun c s1 G1 H1 x1 R1 hw1 => ?_
  cases c with
  | true => exact ca P G1 σ H1 s1 Q R1 hw1
  | false => exact cb P G1 σ H1 s1 Q R1 hw1
end
end TW
set_option linter.all false
set_option Elab.async false
namespace TW
open PySem L2
def cutD (ds : List PyData) (lo hi : Option Int) : List PyData := (ds.drop (HT.sIx ds.length 0 lo)).take (HT.sIx ds.length ds.length hi - HT.sIx ds.length 0 lo)
def pNone : M (Option Int) := pure none
def pSome (m : M Opd) : M (Option Int) := do let o ← m; match ← peek o with
  | .int i => pure (some i)
  | _ => stuck
def slD : PyData → Option Int → Option Int → Option PyData
  | .list ds, lo, hi => some (.list (cutD ds lo hi))
  | .tuple ds, lo, hi => some (.tuple (cutD ds lo hi))
  | _, _, _ => none
def eSlc (a : M Opd) (l h : M (Option Int)) : M Opd := do let o ← a; let lo ← l; let hi ← h; let x ← peek o; let z ← optM (slD x lo hi); pure (.val z)
def ClX {α : Type} (W : Wish) (t : L2.St → Hp → (α → Hp → Prop) → Prop) (m : M α) : Prop := ∀ P G σ H s (Q : α → Hp → Prop), Rel P G σ H s → pw m s (fun a s' => ∀ G' H', Ext P G H G' H' → Rel P G' σ H' s' → Q a H') (W.w P G H) → t σ H Q
section
variable {P : Addr → Prop} {G G' : Gh} {σ : L2.St} {H H' : Hp} {s s' : Sx} {v : V} {o : Opd} {W : Wish} {X : Cx} {k : Nat}
theorem ClX.bind {α β : Type} {t : L2.St → Hp → (α → Hp → Prop) → Prop} {m : M α} {f : α → M β} {Q : α → Hp → Prop} {Qp : Gh → Hp → β → Sx → Prop} (c : ClX W t m) (hm : Mono P Qp) (R : Rel P G σ H s) (hw : pw (m >>= f) s (Qp G H) (W.w P G H))
    (k : ∀ o s1 G1 H1, Ext P G H G1 H1 → Rel P G1 σ H1 s1 → pw (f o) s1 (Qp G1 H1) (W.w P G1 H1) → Q o H1) : t σ H Q := by
  rw [pw_bind] at hw
  exact c P G σ H s Q R (pw_mono hw (fun o s1 h G1 H1 x R1 => k o s1 G1 H1 x R1 (pw_ext hm x h)) fun _ q => q)
theorem cut_fz {F : Addr → Prop} {vs : List V} {ds : List PyData} (r : FzA F H vs ds) (lo hi : Option Int) : FzA F H (cutV vs lo hi) (cutD ds lo hi) := by
  unfold cutV cutD
  rw [r.length]
  exact (r.drop _).take _
theorem atI_fz {F : Addr → Prop} {vs : List V} {ds : List PyData} {i : Int} {d : PyData} (r : FzA F H vs ds) (h : atI ds i = some d) : ∃ v, atI vs i = some v ∧ Fz F H v d := by
  unfold atI at h ⊢
  rw [r.length]
  cases e : ixN ds.length i with
  | none => rw [e] at h; cases h
  | some j =>
    rw [e] at h
    exact r.get h
def ixD' : PyData → PyData → Option PyData
  | .list ds, .int i => atI ds i
  | .tuple ds, .int i => atI ds i
  | .str x, .int i => if x.length ≤ lim then (atI x.cps.toList i).map fun c => .str ⟨#[c]⟩ else none
  | _, _ => none
def eIx (a b : M Opd) : M Opd := eOp ixD' a b
theorem sd_ix {a b : Expr} {pos : Pos} {ma mb : M Opd} (ha : Sd X W a ma) (hb : Sd X W b mb) (hs : PlainIx b) : Sd X W (.Subscript a b pos) (eIx ma mb) := by
  obtain ⟨ta, pa, ca⟩ := ha.ex
  obtain ⟨tb, pb, cb⟩ := hb.ex
  refine ⟨_, pe_ix ix_seq pa pb hs, cl_op ?_ ca cb⟩
  intro P G σ H s x y d e z Q R cx cy ez h
  cases d <;> cases e <;> simp only [ixD', reduceCtorEq] at ez
  · split at ez
    · rename_i hl
      cases q : atI (Array.toList (Str.cps _)) _ with
      | none => rw [q] at ez; cases ez
      | some c =>
        rw [q] at ez
        cases ez
        exact .inr (.inr ⟨_, _, c, cx.str_, cy.int_, lim_line hl, q, h G _ H .refl R (.str _)⟩)
    · cases ez
  · obtain ⟨a, xs, e1, h1, r⟩ := cx
    obtain ⟨v, h2, h3⟩ := atI_fz r ez
    exact .inl ⟨a, xs, _, v, e1, cy.int_, SqL.of h1, h2, h G _ H .refl R h3⟩
  · obtain ⟨a, xs, e1, f1, h1, r⟩ := cx.tup
    obtain ⟨v, h2, h3⟩ := atI_fz r ez
    exact .inr (.inl ⟨a, xs, _, v, e1, cy.int_, SqT.of h1, h2, h G _ H .refl R h3⟩)
theorem sd_mul {a b : Expr} {pos : Pos} {ma mb : M Opd} (ha : Sd X W a ma) (hb : Sd X W b mb) : Sd X W (.BinOp a .Mult b pos) (eBin .mul ma mb) := by
  refine sd_bin (op_mul.or (op_rep.or op_repT)) ?_ ha hb
  intro P G σ H s x y d e z Q R cx cy ez h
  cases d <;> cases e <;> simp only [binD, reduceCtorEq] at ez
  · split at ez <;> cases ez
    rename_i hc
    refine .inl ⟨_, _, cx.int_, cy.int_, ?_, h G _ H .refl R (.int _)⟩
    unfold CMul
    simpa [small] using hc
  · split at ez <;> cases ez
    rename_i hc
    obtain ⟨a1, xs, e1, h1, r1⟩ := cx
    refine .inr (.inl ⟨a1, _, xs, e1, cy.int_, h1, by omega, by omega, ?_, fun p hp => ?_⟩)
    · rw [r1.length, sizeLine_eq]
      exact Nat.le_trans (Nat.mul_le_mul hc.2.2 (show _ ≤ 1000 by omega)) (by decide)
    · obtain ⟨x, R', r⟩ := R.newLst hp (r1.rep _)
      exact h _ _ _ x R' r
  · split at ez <;> cases ez
    rename_i hc
    obtain ⟨a1, xs, e1, f1, h1, r1⟩ := cx.tup
    refine .inr (.inr ⟨a1, _, xs, e1, cy.int_, SqT.of h1, ?_, hc.1, by omega, by rw [r1.length]; exact hc.2.2.1, fun p hp => ?_⟩)
    · intro q
      subst q
      cases r1
      exact hc.2.2.2 rfl
    · obtain ⟨x, R', r⟩ := R.newTup hp (r1.rep _)
      exact h _ _ _ x R' r
end
end TW
set_option linter.all false
set_option Elab.async false
namespace TW
open PySem L2
structure Sok (X : Cx) : Prop where
  gd : X.A.guards = some []
  sm : SmP X.base
  cm : X.calm = true
section
variable {X : Cx} {pins : List (Addr × Obj)} {σ : L2.St} {H : Hp} {s : Shared} {F : Addr → Prop}
theorem no_sm (S : Sok X) (I : L2.Inv X pins σ H s) {a : Addr} (h : H a ≠ none) : a ≠ sysModules := fun e => by
  obtain ⟨⟨o, ho⟩, _⟩ := S.sm
  exact h (e ▸ (I.bs _ o ho).2)
theorem keyD_reads {h : Heap} {k : Key} {u : Value} (r : keyIs k u = true) : Reads h u (keyD k) [] := by
  rcases keyIs_shape r with ⟨i, t, rfl, rfl⟩ | ⟨x, t, rfl, rfl⟩
  · exact .int i t
  · exact .str x t
theorem pairs_keys {P : Program} {w : World} {h : Heap} : ∀ {ks : List (Key × V)} {us : List (Key × Value)} {es : List DictEntry} {ds : List (PyData × PyData)}, KV ks us → Pairs (mixKind P w) es us → FzK F H ks ds →
    ReadsAll h (es.map (·.key)) (ds.map (·.1)) []
  | _, _, _, _, .nil, .nil, .nil => .nil
  | _, _, _, _, .cons e r, .cons hk _ p, .cons _ f => by
    rw [List.map_cons, List.map_cons]
    have e1 := e.1
    dsimp only at e1
    subst e1
    exact ReadsAll.cons (as := []) (bs := []) (keyD_reads hk) (pairs_keys r p f)
theorem keys_reads {h : Heap} : ∀ {k : List Key} {us : List Value}, Vals (k.map kV) us → ReadsAll h us (k.map keyD) []
  | [], _, r => by cases r; exact .nil
  | .inl i :: k, _, r => by
    rw [List.map_cons] at r
    cases r with
    | cons a b =>
      obtain ⟨t, rfl⟩ := a
      exact ReadsAll.cons (as := []) (bs := []) (.int i t) (keys_reads b)
  | .inr x :: k, _, r => by
    rw [List.map_cons] at r
    cases r with
    | cons a b =>
      obtain ⟨t, rfl⟩ := a
      exact ReadsAll.cons (as := []) (bs := []) (.str x t) (keys_reads b)
mutual
theorem Fz.reads (S : Sok X) (I : L2.Inv X pins σ H s) : ∀ (d : PyData) (v : V) (u : Value), Fz F H v d → RelV v u → ∃ as, Reads s.heap u d as ∧ sysModules ∉ as
  | .none, _, _, h, r => by
    cases h
    cases r
    exact ⟨_, Reads.none, by simp⟩
  | .bool b, _, _, h, r => by
    cases h
    cases r
    exact ⟨_, Reads.bool b, by simp⟩
  | .int i, _, _, h, r => by
    cases h
    obtain ⟨t, rfl⟩ := r
    exact ⟨_, Reads.int i t, by simp⟩
  | .str x, _, _, h, r => by
    cases h
    obtain ⟨t, rfl⟩ := r
    exact ⟨_, Reads.str x t, by simp⟩
  | .list ds, _, _, h, r => by
    cases h with
    | lst hf hs ha =>
      cases r
      obtain ⟨its, rv, ⟨o, n, ho, hc, _, hd⟩, _⟩ := I.list (SqL.of hs)
      obtain ⟨as, hr, hn⟩ := FzA.reads S I ds _ its ha rv
      exact ⟨_, Reads.list ho hc hd hr, by
        rw [List.mem_cons, not_or]
        exact ⟨fun e => no_sm S I (by rw [hs]; simp) e.symm, hn⟩⟩
  | .tuple ds, _, _, h, r => by
    cases h with
    | tup hf hs ha =>
      cases r
      obtain ⟨its, rv, ⟨o, ho, hc, n, hd⟩, _⟩ := I.tuple (SqT.of hs)
      obtain ⟨as, hr, hn⟩ := FzA.reads S I ds _ its ha rv
      exact ⟨_, Reads.tuple ho hc hd hr, hn⟩
  | .dict ds, _, _, h, r => by
    cases h with
    | dic hf hs ha =>
      cases r
      obtain ⟨_, hsm, us, rk, o, es, ep, ho, hx, hd, _, hp, _⟩ := (show ObjOk X.prog X.w H s.heap _ (.dK _) from hs.ok I.hok)
      obtain ⟨bs, hr, hn⟩ := FzK.reads S I ds _ us es.toList ha rk hp
      refine ⟨_, Reads.dict ho hx.1 hd (pairs_keys rk hp ha) hr, ?_⟩
      rw [List.cons_append, List.nil_append, List.mem_cons, not_or]
      exact ⟨fun e => no_sm S I (by rcases hs with e | ⟨_, e⟩ <;> rw [e] <;> simp) e.symm, hn⟩
    | dit hf hs ha =>
      cases r
      obtain ⟨_, hsm, us, rk, o, es, ep, ho, hx, hd, he, _⟩ := (show ObjOk X.prog X.w H s.heap _ (.dT _) from hs.ok I.hok)
      obtain ⟨bs, hq, hr, hn⟩ := FzT.reads S I ds _ us ha rk
      refine ⟨_, Reads.dict ho hx.1 hd (as := []) (bs := bs) ?_ ?_, ?_⟩
      · rw [he]; exact hq
      · rw [he]; exact hr
      · rw [List.cons_append, List.nil_append, List.mem_cons, not_or]
        exact ⟨fun e => no_sm S I (by rcases hs with e | ⟨_, e⟩ <;> rw [e] <;> simp) e.symm, hn⟩
theorem FzA.reads (S : Sok X) (I : L2.Inv X pins σ H s) : ∀ (ds : List PyData) (vs : List V) (us : List Value), FzA F H vs ds → Vals vs us → ∃ as, ReadsAll s.heap us ds as ∧ sysModules ∉ as
  | [], _, _, h, r => by
    cases h
    cases r
    exact ⟨_, ReadsAll.nil, by simp⟩
  | d :: ds, _, _, h, r => by
    cases h with
    | cons h1 h2 =>
      cases r with
      | cons r1 r2 =>
        obtain ⟨as, q1, n1⟩ := Fz.reads S I d _ _ h1 r1
        obtain ⟨bs, q2, n2⟩ := FzA.reads S I ds _ _ h2 r2
        exact ⟨_, ReadsAll.cons q1 q2, by rw [List.mem_append, not_or]; exact ⟨n1, n2⟩⟩
theorem FzK.reads (S : Sok X) (I : L2.Inv X pins σ H s) : ∀ (ds : List (PyData × PyData)) (ks : List (Key × V)) (us : List (Key × Value)) (es : List DictEntry), FzK F H ks ds → KV ks us → Pairs (mixKind X.prog X.w) es us →
    ∃ as, ReadsAll s.heap (es.map (·.val)) (ds.map (·.2)) as ∧ sysModules ∉ as
  | [], _, _, _, h, r, p => by
    cases h
    cases r
    cases p
    exact ⟨_, ReadsAll.nil, by simp⟩
  | (_, _) :: ds, _, _, _, h, r, p => by
    cases h with
    | cons h1 h2 =>
      cases r with
      | cons r1 r2 =>
        cases p with
        | cons pk pv pp =>
          obtain ⟨as, q1, n1⟩ := Fz.reads S I _ _ _ h1 r1.2
          obtain ⟨bs, q2, n2⟩ := FzK.reads S I ds _ _ _ h2 r2 pp
          refine ⟨_, ReadsAll.cons (as := as) (bs := bs) ?_ q2, by rw [List.mem_append, not_or]; exact ⟨n1, n2⟩⟩
          show Reads s.heap (DictEntry.val _) _ _
          rw [pv]
          exact q1
theorem FzT.reads (S : Sok X) (I : L2.Inv X pins σ H s) : ∀ (ds : List (PyData × PyData)) (ks : List (List Key × V)) (us : List (List Key × Addr × Value)), FzT F H ks ds →
    Paired (fun (p : List Key × V) (q : List Key × Addr × Value) => p.1 = q.1 ∧ H q.2.1 = some (.tup (p.1.map kV)) ∧ RelV p.2 q.2.2) ks us →
    ∃ as, ReadsAll s.heap ((us.map (entryOfKey (tupleKind (mixKind X.prog X.w)))).map (·.key)) (ds.map (·.1)) [] ∧ ReadsAll s.heap ((us.map (entryOfKey (tupleKind (mixKind X.prog X.w)))).map (·.val)) (ds.map (·.2)) as ∧ sysModules ∉ as
  | [], _, _, h, r => by
    cases h
    cases r
    exact ⟨_, ReadsAll.nil, ReadsAll.nil, by simp⟩
  | (_, _) :: ds, _, _, h, r => by
    cases h with
    | cons h1 h2 =>
      cases r with
      | cons r1 r2 =>
        obtain ⟨as, q1, n1⟩ := Fz.reads S I _ _ _ h1 r1.2.2
        obtain ⟨bs, q2, q3, n2⟩ := FzT.reads S I ds _ _ h2 r2
        refine ⟨as ++ bs, ReadsAll.cons (as := []) (bs := []) ?_ q2, ReadsAll.cons q1 q3, by rw [List.mem_append, not_or]; exact ⟨n1, n2⟩⟩
        obtain ⟨its, rv, ⟨o, ho, hc, n, hd⟩, _⟩ := I.tuple (SqT.of r1.2.1)
        exact Reads.tuple ho hc hd (keys_reads rv)
end
end
section
variable {X : Cx}
@[irreducible] def digB : Nat := 10 ^ 4300
theorem digB_eq : digB = 10 ^ 4300 := by unfold digB; rfl
def PyData.showT : PyData → Bool
  | .int i => decide (i.natAbs < digB)
  | d => d.showable
theorem showT_of {d : PyData} (h : d.showable = true) : PyData.showT d = true := by
  cases d <;> try exact h
  rename_i i
  have h : decide (i.natAbs.log2 < 1920) = true := h
  refine decide_eq_true ?_
  rw [digB_eq]
  exact Nat.lt_of_lt_of_le (PyProof.Rows.lt_of_log2 (Nat.lt_trans (of_decide_eq_true h) (by decide : 1920 < 12900))) PyProof.Rows.pow_lo
theorem repr_of_int_any {prog : Program} {w : World} {A : Around} {E : Value → Shared → Prop} {s : Shared} {a : Int} {t : Tok} {Q : Value → Shared → Prop} (hh : A.handled = none) (hn : s.heap.NoDigits) (ha : a.natAbs < 10 ^ 4300) (h : Q (.str (toString a) s.toks) { s with toks := s.toks + 1 }) : wpAny (model prog w) A (call (.builtin "repr") [.int a t]) Q E s := by
  refine Calls.call_function_entry F.kind_repr F.plain_repr F.entry_repr (F.args_repr1 _) ?_
  unfold Builtin.«repr»
  refine wpAny_bind (m := oneArg "repr" _) (wpAny_pure ?_)
  have hv : [Value.int a t].any Value.onHeap = false := rfl
  simp only [cRoomFor, hv, Bool.false_eq_true, if_false, pure_bind]
  refine wpAny_bind (wpAny_specialOf (name := Str.ofString "__repr__") (typeIs_int s a t) F.slot_int_repr.lookup ?_)
  refine wpAny_bind (m := callSpecialIfBound? (.int a t) (Str.ofString "__repr__")) (wpAny_callSpecialIfBound?_slot (name := Str.ofString "__repr__") (typeIs_int s a t) F.slot_int_repr
    (PyProof.Rows.call_int_repr_or hh hn (fun _ => ?_) (fun h2 => absurd h2 (Nat.not_le_of_lt ha))))
  refine wpAny_bind (wpAny_isInstance (T := "str") (b := true) rfl isSubtype_str_str ?_)
  exact wpAny_pure ⟨_, rfl, h⟩
theorem Inv.noDigits {X : Cx} {pins : List (Addr × Obj)} {σ : L2.St} {H : Hp} {s : Shared} (S : Sok X) (I : L2.Inv X pins σ H s) : s.heap.NoDigits := S.sm.2.keeps fun b o e => (I.bs b o e).1
def rRepr : List V → Hp → VK → Prop := fun xs H Q => ∃ x d, xs = [x] ∧ Pk H x d ∧ PyData.showT d = true ∧ d.depth ≤ 64 ∧ d.shown.length ≤ sizeLine ∧ Q (.str d.shown) H
theorem call_repr (S : Sok X) (hu : X.A.units + 66 < cLine) : CallR X (.builtin "repr") rRepr := by
  intro pins s σ H vs us Q I r h
  obtain ⟨x, d, rfl, hp, h1, h2, h3, q⟩ := h
  cases r with
  | cons r1 r2 =>
    cases r2
    cases d with
    | none =>
      cases hp
      cases r1
      exact PySem.P.repr_of_none ⟨.str _, H, I.tok _, ⟨_, rfl⟩, q⟩
    | bool b =>
      cases hp
      cases r1
      exact PySem.P.repr_of_bool ⟨.str _, H, I.tok _, ⟨_, rfl⟩, q⟩
    | int i =>
      cases hp
      obtain ⟨t, rfl⟩ := r1
      exact repr_of_int_any (I.ok.hd S.cm) (Inv.noDigits S I) (by rw [← digB_eq]; exact of_decide_eq_true h1) ⟨.str _, H, I.tok _, ⟨_, rfl⟩, q⟩
    | str x =>
      cases hp
      obtain ⟨t, rfl⟩ := r1
      exact PySem.P.repr_of_str ⟨.str _, H, I.tok _, ⟨_, rfl⟩, q⟩ h3
    | list ds =>
      obtain ⟨as, hr, hn⟩ := Fz.reads S I _ _ _ hp r1
      cases hp
      cases r1
      exact repr_of_reads' hr h1 (fun _ => hn) S.gd (by omega) (fun _ _ e => e) (fun h' u tk hk => ⟨.str _, H, I.kept (t' := tk) hk, ⟨_, rfl⟩, q⟩) h3
    | tuple ds =>
      obtain ⟨as, hr, hn⟩ := Fz.reads S I _ _ _ hp r1
      cases hp
      cases r1
      exact repr_of_reads' hr h1 (fun _ => hn) S.gd (by omega) (fun _ _ e => e) (fun h' u tk hk => ⟨.str _, H, I.kept (t' := tk) hk, ⟨_, rfl⟩, q⟩) h3
    | dict ds =>
      obtain ⟨as, hr, hn⟩ := Fz.reads S I _ _ _ hp r1
      cases hp <;> cases r1 <;>
      exact repr_of_reads' hr h1 (fun _ => hn) S.gd (by omega) (fun _ _ e => e) (fun h' u tk hk => ⟨.str _, H, I.kept (t' := tk) hk, ⟨_, rfl⟩, q⟩) h3
end
end TW
set_option linter.all false
set_option Elab.async false
namespace TW
open PySem L2
def lenD : List PyData → Option PyData
  | [.list ds] => some (.int ds.length)
  | [.tuple ds] => some (.int ds.length)
  | [.dict ds] => some (.int ds.length)
  | [.str x] => if x.length ≤ lim then some (.int x.length) else none
  | _ => none
def absD : List PyData → Option PyData
  | [.int i] => some (.int (if i < 0 then -i else i))
  | _ => none
def intD : List PyData → Option PyData
  | [.int i] => some (.int i)
  | [.bool b] => some (.int (if b = true then 1 else 0))
  | _ => none
def strD : List PyData → Option PyData
  | [.int i] => if i.natAbs.log2 < 1920 then some (.str (Str.ofString (toString i))) else none
  | _ => none
def tupleD : List PyData → Option PyData
  | [.list ds] => some (.tuple ds)
  | [.tuple ds] => some (.tuple ds)
  | _ => none
def listD : List PyData → Option PyData
  | [.list ds] => some (.list ds)
  | [.tuple ds] => some (.list ds)
  | _ => none
def intsOf : List PyData → Option (List Int)
  | [] => some []
  | .int i :: r => (intsOf r).map (i :: ·)
  | _ :: _ => none
def boolsOf : List PyData → Option (List Bool)
  | [] => some []
  | .bool i :: r => (boolsOf r).map (i :: ·)
  | _ :: _ => none
def allD : List PyData → Option PyData
  | [.list ds] => (boolsOf ds).map fun ns => .bool (ns.all id)
  | _ => none
def reprD : List PyData → Option PyData
  | [d] => if PyData.showT d && decide (d.depth ≤ 64) && decide (d.shown.length ≤ sizeLine) then some (.str d.shown) else none
  | _ => none
inductive Ty where
  | int | bool | tuple | list | str | dict
def Ty.name : Ty → String
  | .int => "int"
  | .bool => "bool"
  | .tuple => "tuple"
  | .list => "list"
  | .str => "str"
  | .dict => "dict"
def isD : Ty → PyData → Bool
  | .int, .int _ => true
  | .int, .bool _ => true
  | .bool, .bool _ => true
  | .tuple, .tuple _ => true
  | .list, .list _ => true
  | .str, .str _ => true
  | .dict, .dict _ => true
  | _, _ => false
def eIs (t : Ty) (a : M Opd) : M Opd := do let o ← a; let x ← peek o; pure (.val (.bool (isD t x)))
theorem intsOf_eq : ∀ {ds : List PyData} {ns : List Int}, intsOf ds = some ns → ds = ns.map PyData.int
  | [], ns, h => by cases h; rfl
  | d :: ds, ns, h => by
    cases d <;> simp only [intsOf, reduceCtorEq] at h
    cases e : intsOf ds with
    | none => rw [e] at h; cases h
    | some m =>
      rw [e] at h
      cases h
      rw [List.map_cons, intsOf_eq e]
theorem boolsOf_eq : ∀ {ds : List PyData} {ns : List Bool}, boolsOf ds = some ns → ds = ns.map PyData.bool
  | [], ns, h => by cases h; rfl
  | d :: ds, ns, h => by
    cases d <;> simp only [boolsOf, reduceCtorEq] at h
    cases e : boolsOf ds with
    | none => rw [e] at h; cases h
    | some m =>
      rw [e] at h
      cases h
      rw [List.map_cons, boolsOf_eq e]
theorem intsOf_map (ns : List Int) : intsOf (ns.map PyData.int) = some ns := by
  induction ns with
  | nil => rfl
  | cons n ns ih => rw [List.map_cons]; simp only [intsOf]; rw [ih]; rfl
theorem boolsOf_map (ns : List Bool) : boolsOf (ns.map PyData.bool) = some ns := by
  induction ns with
  | nil => rfl
  | cons n ns ih => rw [List.map_cons]; simp only [boolsOf]; rw [ih]; rfl
section
variable {P : Addr → Prop} {G G' : Gh} {σ : L2.St} {H H' : Hp} {s s' : Sx} {v : V} {o : Opd} {W : Wish} {X : Cx} {k : Nat}
theorem Cok.sok (C : Cok X k) : Sok X := ⟨C.gd, C.sm, C.calm⟩
def CallOk (r : List V → Hp → VK → Prop) (f : List PyData → Option PyData) : Prop := ∀ P G σ H s vs ds z (Q : VK), Rel P G σ H s → CtA G H vs ds → f ds = some z →
  (∀ G' v H', Ext P G H G' H' → Rel P G' σ H' s → Fz G'.F H' v z → Q v H') → r vs H Q
theorem cl_fn {r : List V → Hp → VK → Prop} {f : List PyData → Option PyData} {ta : TA} {ma : M (List Opd)} (ok : CallOk r f) (ha : ClA W ta ma) : ClE W (tCB r ta) (eFn f ma) := by
  intro P G σ H s Q R hw
  unfold eFn at hw
  refine ha.bind PostV.mono R hw fun os s1 G1 vs H1 x1 R1 r1 hw1 => ?_
  obtain ⟨ds, c1, hw2⟩ := peeks_ok R1 r1 (W.stuck _ _ _) hw1
  rw [pw_bind, pw_optM (W.stuck _ _ _)] at hw2
  obtain ⟨z, ez, hw3⟩ := hw2
  exact ok P G1 σ H1 s1 vs ds z Q R1 c1 ez fun G' v H' x R' r => hw3 G' v H' x R' r
section
variable {x : Str} {p pos : Pos} {e : Expr} {es : List Expr} {id T : String} {r : List V → Hp → VK → Prop} {f : List PyData → Option PyData} {ma : M (List Opd)}
theorem sd_callB (hc : CallR X (.builtin id) r) (ok : CallOk r f) (hg : Gl X x) (hm : X.mg x = none) (hv : bootBuiltins x = some (.builtin id)) (ha : SdA X W (e :: es) ma) (hn : x ≠ "__name__" := by decide) (hdb : (x == ("__debug__" : Str)) = false := by decide)
    (he : starEach (e :: es) X.env = (false, eval e X.env) :: starEach es X.env := by rfl) (hpl : (backTo pos (starEach es X.env)).any (·.1) = false := by rfl) : Sd X W (.Call (.Name x p) (e :: es) [] pos) (eFn f ma) := by
  obtain ⟨ta, pa, ca⟩ := ha.ex
  exact ⟨_, pe_callB hc hg hm hv pa hn hdb he hpl, cl_fn ok ca⟩
theorem sd_callT (hc : CallR X (.type T) r) (ok : CallOk r f) (hg : Gl X x) (hm : X.mg x = none) (hv : bootBuiltins x = some (.type T)) (ha : SdA X W (e :: es) ma) (hn : x ≠ "__name__" := by decide) (hdb : (x == ("__debug__" : Str)) = false := by decide)
    (he : starEach (e :: es) X.env = (false, eval e X.env) :: starEach es X.env := by rfl) (hpl : (backTo pos (starEach es X.env)).any (·.1) = false := by rfl) : Sd X W (.Call (.Name x p) (e :: es) [] pos) (eFn f ma) := by
  obtain ⟨ta, pa, ca⟩ := ha.ex
  exact ⟨_, pe_callTy hc hg hm hv pa hn hdb he hpl, cl_fn ok ca⟩
end
theorem one_of {vs : List V} {d : PyData} (c : CtA G H vs [d]) : ∃ v, vs = [v] ∧ Ct G H v d := by
  cases c with
  | cons a b => cases b; exact ⟨_, rfl, a⟩
theorem FzK.length {F : Addr → Prop} : ∀ {ks : List (Key × V)} {ds : List (PyData × PyData)}, FzK F H ks ds → ks.length = ds.length
  | _, _, .nil => rfl
  | _, _, .cons _ b => congrArg (· + 1) b.length
theorem FzT.length {F : Addr → Prop} : ∀ {ks : List (List Key × V)} {ds : List (PyData × PyData)}, FzT F H ks ds → ks.length = ds.length
  | _, _, .nil => rfl
  | _, _, .cons _ b => congrArg (· + 1) b.length
theorem call_lenD2 : CallR X (.builtin "len") (fun xs H Q => ∃ a kvs, xs = [V.ref a] ∧ Rd H a (.dK kvs) ∧ Q (.int kvs.length) H) := by
  intro pins s σ H xs us Q I r h
  obtain ⟨a, kvs, rfl, ha, q⟩ := h
  obtain ⟨u, rfl, ru⟩ := vals1 r
  cases ru
  exact d_len I ha fun t s' I' => ⟨.int kvs.length, H, I', ⟨t, rfl⟩, q⟩
def rLenT2 : List V → Hp → VK → Prop := fun xs H Q => ∃ (p : Addr) (kvs : List (List Key × V)), xs = [.ref p] ∧ Rd H p (.dT kvs) ∧ Q (.int ((kvs.length : Nat) : Int)) H
theorem call_len_dT2 {X : Cx} : CallR X (.builtin "len") rLenT2 := by
  intro pins s σ H xs us Q I r h
  obtain ⟨p, kvs, rfl, hp, q⟩ := h
  obtain ⟨u, rfl, rx⟩ := vals1 r
  obtain rfl : u = .ref p := rx
  obtain ⟨z, hd, ys, rel, dd⟩ := dt_rd I.hok hp
  have hl : kvs.length = ys.length := Paired.length rel
  refine call_len_dictH hd dd (by rw [← hl]; rw [sizeLine_eq] at z; omega) ?_
  rw [← hl]
  exact ⟨.int ((kvs.length : Nat) : Int), H, I.tok _, ⟨_, rfl⟩, q⟩
abbrev rLenA (K : PySem.W.Frag) : List V → Hp → VK → Prop := fun xs H Q =>
  (∃ p ys, xs = [.ref p] ∧ (SqL K H p ys ∨ SqT K H p ys) ∧ Q (.int ys.length) H) ∨ (∃ z : Str, xs = [.str z] ∧ z.length ≤ sizeLine ∧ Q (.int z.length) H) ∨
    (∃ a kvs, xs = [.ref a] ∧ Rd H a (.dK kvs) ∧ Q (.int kvs.length) H) ∨ rLenT2 xs H Q
theorem call_lenA : CallR X (.builtin "len") (rLenA X.K) := call_len_seq.or (call_len_str.or (call_lenD2.or call_len_dT2))
theorem ok_len : CallOk (rLenA X.K) lenD := by
  intro P G σ H s vs ds z Q R cc ez h
  unfold lenD at ez
  split at ez
  · cases ez
    obtain ⟨v, rfl, a, xs, rfl, e, r⟩ := one_of cc
    refine .inl ⟨a, xs, rfl, .inl (SqL.of e), ?_⟩
    rw [r.length]
    exact h G _ H .refl R (.int _)
  · cases ez
    obtain ⟨v, rfl, c⟩ := one_of cc
    obtain ⟨a, xs, rfl, f, e, r⟩ := c.tup
    refine .inl ⟨a, xs, rfl, .inr (SqT.of e), ?_⟩
    rw [r.length]
    exact h G _ H .refl R (.int _)
  · cases ez
    obtain ⟨v, rfl, a, rfl, ⟨ks, e, r⟩ | ⟨ks, e, r⟩⟩ := one_of cc
    · refine .inr (.inr (.inl ⟨a, ks, rfl, e, ?_⟩))
      rw [r.length]
      exact h G _ H .refl R (.int _)
    · refine .inr (.inr (.inr ⟨a, ks, rfl, e, ?_⟩))
      rw [r.length]
      exact h G _ H .refl R (.int _)
  · split at ez <;> cases ez
    rename_i hl
    obtain ⟨v, rfl, c⟩ := one_of cc
    exact .inr (.inl ⟨_, by rw [c.str_], lim_line hl, h G _ H .refl R (.int _)⟩)
  · cases ez
theorem ok_abs : CallOk (fun xs H Q => ∃ i, xs = [V.int i] ∧ Q (V.int (if i < 0 then -i else i)) H) absD := by
  intro P G σ H s vs ds z Q R cc ez h
  unfold absD at ez
  split at ez <;> cases ez
  obtain ⟨v, rfl, c⟩ := one_of cc
  exact ⟨_, by rw [c.int_], h G _ H .refl R (.int _)⟩
theorem ok_int : CallOk (fun xs H Q => (∃ i, xs = [V.int i] ∧ Q (V.int i) H) ∨ ∃ k, xs = [V.bl k] ∧ Q (V.int (if k = true then 1 else 0)) H) intD := by
  intro P G σ H s vs ds z Q R cc ez h
  unfold intD at ez
  split at ez <;> cases ez
  · obtain ⟨v, rfl, c⟩ := one_of cc
    exact .inl ⟨_, by rw [c.int_], h G _ H .refl R (.int _)⟩
  · obtain ⟨v, rfl, c⟩ := one_of cc
    exact .inr ⟨_, by rw [c.bool_], h G _ H .refl R (.int _)⟩
theorem ok_str : CallOk (fun xs H Q => ∃ i : Int, xs = [V.int i] ∧ i.natAbs.log2 < 1920 ∧ Q (V.str (Str.ofString (toString i))) H) strD := by
  intro P G σ H s vs ds z Q R cc ez h
  unfold strD at ez
  split at ez
  · split at ez <;> cases ez
    rename_i hl
    obtain ⟨v, rfl, c⟩ := one_of cc
    exact ⟨_, by rw [c.int_], hl, h G _ H .refl R (.str _)⟩
  · cases ez
theorem ok_tuple : CallOk (fun xs H Q => ∃ p ys, xs = [V.ref p] ∧ ((SqL X.K H p ys ∧ ∀ l, H l = none → Q (V.ref l) (upd H l (.tup ys))) ∨ (SqT X.K H p ys ∧ Q (V.ref p) H))) tupleD := by
  intro P G σ H s vs ds z Q R cc ez h
  unfold tupleD at ez
  split at ez <;> cases ez
  · obtain ⟨v, rfl, a, xs, rfl, e, r⟩ := one_of cc
    refine ⟨a, xs, rfl, .inl ⟨SqL.of e, fun p hp => ?_⟩⟩
    obtain ⟨x, R', r'⟩ := R.newTup hp r
    exact h _ _ _ x R' r'
  · obtain ⟨v, rfl, c⟩ := one_of cc
    obtain ⟨a, xs, rfl, f, e, r⟩ := c.tup
    exact ⟨a, xs, rfl, .inr ⟨SqT.of e, h G _ H .refl R (.tup f e r)⟩⟩
theorem ok_all : CallOk (rAll X.K) allD := by
  intro P G σ H s vs ds z Q R cc ez h
  unfold allD at ez
  split at ez
  · rename_i ds
    cases q : boolsOf ds with
    | none => rw [q] at ez; cases ez
    | some ns =>
      rw [q] at ez
      cases ez
      obtain ⟨v, rfl, a, xs, rfl, e, r⟩ := one_of cc
      rw [boolsOf_eq q] at r
      exact ⟨a, ns, rfl, SqL.of (by rw [e, r.bools]), h G _ H .refl R (.bl _)⟩
  · cases ez
theorem ok_repr : CallOk rRepr reprD := by
  intro P G σ H s vs ds z Q R cc ez h
  unfold reprD at ez
  split at ez
  · split at ez <;> cases ez
    rename_i hc
    rw [Bool.and_eq_true, Bool.and_eq_true, decide_eq_true_eq, decide_eq_true_eq] at hc
    obtain ⟨v, rfl, c⟩ := one_of cc
    exact ⟨v, _, rfl, c.pk, hc.1.1, hc.1.2, hc.2, h G _ H .refl R (.str _)⟩
  · cases ez
def tyName : PyData → String
  | .none => "NoneType"
  | .bool _ => "bool"
  | .int _ => "int"
  | .str _ => "str"
  | .list _ => "list"
  | .tuple _ => "tuple"
  | .dict _ => "dict"
def TyY (K : PySem.W.Frag) (H : Hp) (x : V) (t : Value) : Prop := TyX K H x t ∨ ∃ (a : Addr) (o : Obj) (kvs : List (List Key × V)), x = .ref a ∧ H a = some (.frz o (.dT kvs)) ∧ t = .type "dict"
def rIsiY (K : PySem.W.Frag) : List V → Hp → VK → Prop := fun xs H Q => ∃ (x c : V) (t u : Value) (b : Bool), xs = [x, c] ∧ ClsV c u ∧ TyY K H x t ∧ PySem.W.kitOne K t u = some b ∧ Q (.bl b) H
theorem call_isiY {X : Cx} : CallR X (.builtin "isinstance") (rIsiY X.K) := by
  intro pins s σ H xs us Q I r h
  obtain ⟨x, c, t, u, b, rfl, k, ty, e, q⟩ := h
  rcases ty with ty | ⟨a, o, kvs, rfl, ea, rfl⟩
  · exact call_isi pins s σ H _ us Q I r ⟨x, c, t, u, b, rfl, k, ty, e, q⟩
  · obtain ⟨u1, u2, rfl, r1, r2⟩ := vals2 r
    have e2 := k.eq r2
    subst e2
    cases (show u1 = Value.ref a from r1)
    obtain ⟨_, hgd, hx, _⟩ := I.frzT ea
    exact PySem.W.kia_one PySem.W.kitx_dict I.kIn (show ∃ o, s.heap.get? a = some o ∧ _ from ⟨o, hgd, hx.1⟩) e (fun z => nomatch z) fun tk => ⟨.bl b, H, I.tok tk, rfl, q⟩
theorem ty_of {K : PySem.W.Frag} {d : PyData} (c : Ct G H v d) : ∃ t : String, TyY K H v (.type t) ∧ t = tyName d := by
  cases d with
  | none => exact ⟨_, .inl (by rw [c.none_]; exact .base .non), rfl⟩
  | bool b => exact ⟨_, .inl (by rw [c.bool_]; exact .base (.bl _)), rfl⟩
  | int b => exact ⟨_, .inl (by rw [c.int_]; exact .base (.int _)), rfl⟩
  | str b => exact ⟨_, .inl (by rw [c.str_]; exact .base (.str _)), rfl⟩
  | list b => obtain ⟨a, xs, rfl, e, _⟩ := c; exact ⟨_, .inl (.base (.lst e)), rfl⟩
  | tuple b => obtain ⟨a, xs, rfl, _, e, _⟩ := c.tup; exact ⟨_, .inl (.base (.tup e)), rfl⟩
  | dict b =>
    obtain ⟨a, rfl, ⟨ks, e, _⟩ | ⟨ks, e, _⟩⟩ := c
    · rcases e with e | ⟨o, e⟩
      · exact ⟨_, .inl (.base (.dK e)), rfl⟩
      · exact ⟨_, .inl (.fDict e), rfl⟩
    · rcases e with e | ⟨o, e⟩
      · exact ⟨_, .inl (.base (.dT e)), rfl⟩
      · exact ⟨_, .inr ⟨a, o, ks, rfl, e, rfl⟩, rfl⟩
theorem sd_is (t : Ty) {a : Expr} {x : Str} {p p2 pos : Pos} {ma : M Opd} (ha : Sd X W a ma) (hg : Gl X "isinstance") (hm : X.mg "isinstance" = none) (hv : bootBuiltins "isinstance" = some (.builtin "isinstance"))
    (gt : Gl X x) (mt : X.mg x = none) (vt : bootBuiltins x = some (.type t.name)) (hn : x ≠ "__name__" := by decide) (hdb : (x == ("__debug__" : Str)) = false := by decide)
    (he : starEach [a, .Name x p2] X.env = (false, eval a X.env) :: starEach [.Name x p2] X.env := by rfl) (he2 : starEach [.Name x p2] X.env = [(false, eval (.Name x p2) X.env)] := by rfl) (hpl : (backTo pos (starEach [.Name x p2] X.env)).any (·.1) = false := by rfl) :
    Sd X W (.Call (.Name "isinstance" p) [a, .Name x p2] [] pos) (eIs t ma) := by
  obtain ⟨ta, pa, ca⟩ := ha.ex
  refine ⟨_, pe_callB call_isiY hg hm hv (pa_cons pa (pa_cons (pe_bltn (v := .ty t.name) gt mt vt rfl hn hdb) pa_nil he2) he) (by decide) (by decide) he hpl, ?_⟩
  intro P G σ H s Q R hw
  unfold eIs at hw
  refine ca.bind PostV.mono R hw fun o1 s1 G1 v1 H1 x1 R1 r1 hw1 => ?_
  obtain ⟨d, c1, hw2⟩ := peek_ok R1 r1 (W.stuck _ _ _) hw1
  obtain ⟨tn, hty, et⟩ := ty_of (K := X.K) c1
  refine ⟨v1, _, _, _, isD t d, rfl, .ty _, hty, ?_, hw2 G1 _ H1 .refl R1 (.bl _)⟩
  subst et
  cases t <;> cases d <;> rfl
end
end TW
set_option linter.all false
set_option Elab.async false
namespace TW
open PySem L2
inductive Fl where
  | nx
  | rt (d : PyData)
  | bk
  | ct
def sSkip : M Fl := pure .nx
def sSeq (a b : M Fl) : M Fl := do match ← a with
  | .nx => b
  | f => pure f
def sAsg (i : Nat) (e : M Opd) : M Fl := do let o ← e; let d ← take o; setS i (.dat d); pure .nx
def sAsgN (i : Nat) (n : M PyData) : M Fl := do let d ← n; setS i (.own d); pure .nx
def sRet (e : M Opd) : M Fl := do let o ← e; let d ← take o; pure (.rt d)
def sRetN : M Fl := pure (.rt .none)
def sIf (c : M Bool) (a b : M Fl) : M Fl := do let x ← c; if x = true then a else b
def tgName (i : Nat) (d : PyData) : M Unit := setS i (.dat d)
def tgAll : List (PyData → M Unit) → List PyData → M Unit
  | [], [] => pure ()
  | t :: ts, d :: ds => do t d; tgAll ts ds
  | _, _ => stuck
def tgTup (ts : List (PyData → M Unit)) (d : PyData) : M Unit := match d with
  | .tuple ds => if ds.length = ts.length then tgAll ts ds else stuck
  | _ => stuck
def sTg (t : PyData → M Unit) (e : M Opd) : M Fl := do let o ← e; let d ← take o; t d; pure .nx
def sPar (ts : List (PyData → M Unit)) (es : M (List Opd)) : M Fl := do let os ← es; let ds ← takes os; tgAll ts ds; pure .nx
def forL (t : PyData → M Unit) (b : M Fl) : List PyData → M Fl
  | [] => pure .nx
  | d :: ds => do t d; match ← b with
    | .bk => pure .nx
    | .rt v => pure (.rt v)
    | _ => forL t b ds
def sFor (m : M (List PyData)) (t : PyData → M Unit) (b : M Fl) : M Fl := do let ds ← m; forL t b ds
def whileL (c : M Bool) (b : M Fl) : Nat → M Fl
  | 0 => stuck
  | n + 1 => do
    let x ← c
    if x = true then (do match ← b with
      | .bk => pure .nx
      | .rt v => pure (.rt v)
      | _ => whileL c b n) else pure .nx
def PostS (P : Addr → Prop) (D : Ends) (G : Gh) (H : Hp) (f : Fl) (s' : Sx) : Prop := match f with
  | .nx => ∀ G' σ' H', Ext P G H G' H' → Rel P G' σ' H' s' → D.nx σ' H'
  | .rt d => ∀ G' σ' v H', Ext P G H G' H' → Rel P G' σ' H' s' → Fz G'.F H' v d → D.rt v H'
  | .bk => ∀ G' σ' H', Ext P G H G' H' → Rel P G' σ' H' s' → D.bk σ' H'
  | .ct => ∀ G' σ' H', Ext P G H G' H' → Rel P G' σ' H' s' → D.ct σ' H'
theorem PostS.mono {P : Addr → Prop} {D : Ends} : Mono P (PostS P D) := fun G H G1 H1 f s x h => by
  cases f with
  | nx => exact fun G' σ' H' y => h G' σ' H' (x.trans y)
  | rt d => exact fun G' σ' v H' y => h G' σ' v H' (x.trans y)
  | bk => exact fun G' σ' H' y => h G' σ' H' (x.trans y)
  | ct => exact fun G' σ' H' y => h G' σ' H' (x.trans y)
def ClS (W : Wish) (ts : TS) (m : M Fl) : Prop := ∀ P G σ H s (D : Ends), Rel P G σ H s → pw m s (PostS P D G H) (W.w P G H) → ts D σ H
structure SdS (X : Cx) (W : Wish) (st : Stmt) (m : M Fl) : Prop where
  ex : ∃ ts, PS X st ts ∧ ClS W ts m
structure SdB (X : Cx) (W : Wish) (st : List Stmt) (m : M Fl) : Prop where
  ex : ∃ ts, PSs X st ts ∧ ClS W ts m
structure Free (P : Addr → Prop) (G : Gh) (σ : L2.St) (s : Sx) (a : Addr) : Prop where
  f : ¬ G.F a
  p : ¬ P a
  b : a ∉ G.bs
  o : ∀ (i : Nat) d, s.r[i]? = some (SV.own d) → σ[i]? ≠ some (some (V.ref a))
abbrev PostN (P : Addr → Prop) (σ : L2.St) (Q : VK) (G : Gh) (H : Hp) (d : PyData) (s' : Sx) : Prop := ∀ G' a H', Ext P G H G' H' → Rel P G' σ H' s' → Ow G'.F H' a d → Free P G' σ s' a → Q (.ref a) H'
def ClN (W : Wish) (te : TE) (m : M PyData) : Prop := ∀ P G σ H s (Q : VK), Rel P G σ H s → pw m s (PostN P σ Q G H) (W.w P G H) → te σ H Q
structure SdN (X : Cx) (W : Wish) (e : Expr) (m : M PyData) : Prop where
  ex : ∃ te, PE X e te ∧ ClN W te m
abbrev PostG (P : Addr → Prop) (Q : L2.St → Hp → Prop) (G : Gh) (H : Hp) (_ : Unit) (s' : Sx) : Prop := ∀ G' σ' H', Ext P G H G' H' → Rel P G' σ' H' s' → Q σ' H'
def ClG (W : Wish) (g : TG) (t : PyData → M Unit) : Prop := ∀ P G σ H s v d (Q : L2.St → Hp → Prop), Rel P G σ H s → Fz G.F H v d → pw (t d) s (PostG P Q G H) (W.w P G H) → g v σ H Q
structure SdG (X : Cx) (W : Wish) (e : Expr) (t : PyData → M Unit) : Prop where
  ex : ∃ g, PG X e g ∧ ClG W g t
section
variable {P : Addr → Prop} {G G' : Gh} {σ : L2.St} {H H' : Hp} {s s' : Sx} {v : V} {o : Opd} {W : Wish} {X : Cx} {k : Nat}
theorem PostN.mono {Q : VK} : Mono P (PostN P σ Q) := fun _ _ _ _ _ _ x q G' v H' y => q G' v H' (x.trans y)
theorem PostG.mono {Q : L2.St → Hp → Prop} : Mono P (PostG P Q) := fun _ _ _ _ _ _ x q G' v H' y => q G' v H' (x.trans y)
theorem set_get {l : List SV} {i j : Nat} {x y : SV} (h : (l.set i x)[j]? = some y) : (j = i ∧ y = x ∧ i < l.length) ∨ (j ≠ i ∧ l[j]? = some y) := by
  by_cases hj : j = i
  · subst hj
    by_cases hi : j < l.length
    · rw [List.getElem?_set_self hi] at h
      cases h
      exact .inl ⟨rfl, rfl, hi⟩
    · rw [List.getElem?_eq_none (by rw [List.length_set]; omega)] at h
      cases h
  · rw [List.getElem?_set_ne (Ne.symm hj)] at h
    exact .inr ⟨hj, h⟩
theorem Rel.setDat {d : PyData} (R : Rel P G σ H s) (i : Nat) (h : Fz G.F H v d) : Rel P G (σ.set i (some v)) H { s with r := s.r.set i (.dat d) } := by
  refine ⟨by rw [List.length_set, List.length_set]; exact R.len, fun j x e => ?_, fun j x e => ?_, fun j l x y hjl e e' => ?_, fun j e => ?_, R.bx, R.nb, R.fr, R.pr, R.bF, R.tb⟩
  · rcases set_get e with ⟨rfl, q, hi⟩ | ⟨hj, q⟩
    · cases q
      exact ⟨v, List.getElem?_set_self (by rw [R.len]; exact hi), h⟩
    · rw [List.getElem?_set_ne (Ne.symm hj)]
      exact R.dat j x q
  · rcases set_get e with ⟨rfl, q, hi⟩ | ⟨hj, q⟩
    · cases q
    · rw [List.getElem?_set_ne (Ne.symm hj)]
      exact R.own j x q
  · rcases set_get e with ⟨rfl, q, hi⟩ | ⟨hj, q⟩
    · cases q
    · rcases set_get e' with ⟨rfl, q', hi'⟩ | ⟨hj', q'⟩
      · cases q'
      · rw [List.getElem?_set_ne (Ne.symm hj), List.getElem?_set_ne (Ne.symm hj')]
        exact R.sep j l x y hjl q q'
  · rcases set_get e with ⟨rfl, q, hi⟩ | ⟨hj, q⟩
    · cases q
    · rw [List.getElem?_set_ne (Ne.symm hj)]
      exact R.box j q
theorem Rel.setOwn {a : Addr} {d : PyData} (R : Rel P G σ H s) (i : Nat) (h : Ow G.F H a d) (f : Free P G σ s a) : Rel P G (σ.set i (some (.ref a))) H { s with r := s.r.set i (.own d) } := by
  refine ⟨by rw [List.length_set, List.length_set]; exact R.len, fun j x e => ?_, fun j x e => ?_, fun j l x y hjl e e' => ?_, fun j e => ?_, R.bx, R.nb, R.fr, R.pr, R.bF, R.tb⟩
  · rcases set_get e with ⟨rfl, q, hi⟩ | ⟨hj, q⟩
    · cases q
    · rw [List.getElem?_set_ne (Ne.symm hj)]
      exact R.dat j x q
  · rcases set_get e with ⟨rfl, q, hi⟩ | ⟨hj, q⟩
    · cases q
      exact ⟨a, List.getElem?_set_self (by rw [R.len]; exact hi), h, f.f, f.p, f.b⟩
    · rw [List.getElem?_set_ne (Ne.symm hj)]
      exact R.own j x q
  · rcases set_get e with ⟨rfl, q, hi⟩ | ⟨hj, q⟩
    · rcases set_get e' with ⟨rfl, q', hi'⟩ | ⟨hj', q'⟩
      · exact absurd rfl hjl
      · rw [List.getElem?_set_self (by rw [R.len]; exact hi), List.getElem?_set_ne (Ne.symm hj')]
        exact fun z => f.o l y q' z.symm
    · rcases set_get e' with ⟨rfl, q', hi'⟩ | ⟨hj', q'⟩
      · rw [List.getElem?_set_self (by rw [R.len]; exact hi'), List.getElem?_set_ne (Ne.symm hj)]
        exact fun z => f.o j x q z
      · rw [List.getElem?_set_ne (Ne.symm hj), List.getElem?_set_ne (Ne.symm hj')]
        exact R.sep j l x y hjl q q'
  · rcases set_get e with ⟨rfl, q, hi⟩ | ⟨hj, q⟩
    · cases q
    · rw [List.getElem?_set_ne (Ne.symm hj)]
      exact R.box j q
theorem cl_nw {te : TE} {m : M PyData} (c : ClN W te m) : ClE W te (eNw m) := by
  intro P G σ H s Q R hw
  unfold eNw at hw
  rw [pw_bind] at hw
  refine c P G σ H s Q R (pw_mono hw (fun d s1 h G1 a H1 x1 R1 ow f => ?_) fun _ h => h)
  have h := pw_ext (m := (pure (.val d) : M Opd)) PostV.mono x1 h
  obtain ⟨x2, R2⟩ := R1.fix (a := a) ow.tracked f.p f.b f.o (R1.tb.not ow.calm)
  refine h _ _ H1 x2 R2 ?_
  cases d with
  | list ds => obtain ⟨xs, e, r⟩ := ow; exact .lst (.inr rfl) e (r.ext x2)
  | dict ds =>
    rcases ow with ⟨ks, e, r⟩ | ⟨ks, e, r⟩
    · exact .dic (.inr rfl) (.inl e) (r.sim x2.F x2.kF)
    · exact .dit (.inr rfl) (.inl e) (r.sim x2.F x2.kF)
  | none => exact ow.elim
  | bool _ => exact ow.elim
  | int _ => exact ow.elim
  | str _ => exact ow.elim
  | tuple _ => exact ow.elim
theorem sd_nw {e : Expr} {m : M PyData} (h : SdN X W e m) : Sd X W e (eNw m) := let ⟨t, p, c⟩ := h.ex; ⟨t, p, cl_nw c⟩
theorem Rel.layOwn {a : Addr} {xs : List V} {ds : List PyData} (R : Rel P G σ H s) (hn : H a = none) (r : FzA G.F H xs ds) :
    Ext P G H G (upd H a (.lst xs)) ∧ Rel P G σ (upd H a (.lst xs)) s ∧ Ow G.F (upd H a (.lst xs)) a (.list ds) ∧ Free P G σ s a := by
  obtain ⟨x, R1, h1, h2, h3, h4⟩ := R.lay (u := .lst xs) hn
  exact ⟨x, R1, ⟨xs, upd_same, r.ext x⟩, ⟨h1, h2, h3, h4⟩⟩
theorem sn_lst {es : List Expr} {pos : Pos} {m : M (List Opd)} (h : SdA X W es m) : SdN X W (.List es pos) (nLst m) := by
  obtain ⟨ta, pa, ca⟩ := h.ex
  refine ⟨_, pe_lst pa, ?_⟩
  intro P G σ H s Q R hw
  unfold nLst at hw
  refine ca.bind PostN.mono R hw fun os s1 G1 vs H1 x1 R1 r1 hw1 => ?_
  obtain ⟨G2, s2, ds, x2, R2, z, hw2⟩ := takes_ok PostN.mono R1 r1 hw1
  split at hw2
  · rename_i hl
    refine ⟨by rw [z.length]; exact lim_line hl, fun p hp => ?_⟩
    obtain ⟨x3, R3, ow, f⟩ := R2.layOwn hp z
    exact hw2 _ _ _ x3 R3 ow f
  · exact absurd hw2 (W.stuck _ _ _)
theorem sg_name {i : Nat} {x : Str} {pos : Pos} (C : Cok X k) (hi : X.N[i]? = some x) (hx : Loc X.env.scope x) (hf : X.fn x = true ∨ X.env.scope.names.lookup x = some .local := by first | exact .inl rfl | exact .inr rfl | assumption) : SdG X W (.Name x pos) (tgName i) := by
  refine ⟨_, pg_name C.nd hi hx hf, ?_⟩
  intro P G σ H s v d Q R r hw
  exact hw G _ H .refl (R.setDat i r)
structure SdGs (X : Cx) (W : Wish) (es : List Expr) (ts : List (PyData → M Unit)) : Prop where
  ex : ∃ g, PGs X es g ∧ ∀ P G σ H s vs ds (Q : L2.St → Hp → Prop), Rel P G σ H s → FzA G.F H vs ds → pw (tgAll ts ds) s (PostG P Q G H) (W.w P G H) → g vs σ H Q
theorem sgs_nil : SdGs X W [] [] := by
  refine ⟨_, pgs_nil, ?_⟩
  intro P G σ H s vs ds Q R r hw
  cases r with
  | nil => exact ⟨rfl, hw G σ H .refl R⟩
  | cons a b => exact absurd hw (W.stuck _ _ _)
theorem sgs_cons {e : Expr} {es : List Expr} {t : PyData → M Unit} {ts : List (PyData → M Unit)} (h : SdG X W e t) (hs : SdGs X W es ts) (ha : (assignEach (e :: es) X.env).map (·.2) = assign e X.env :: (assignEach es X.env).map (·.2) := by rfl) : SdGs X W (e :: es) (t :: ts) := by
  obtain ⟨g, pg, cg⟩ := h.ex
  obtain ⟨g', pg', cg'⟩ := hs.ex
  refine ⟨_, pgs_cons pg pg' ha, ?_⟩
  intro P G σ H s vs ds Q R r hw
  cases r with
  | nil => exact absurd hw (W.stuck _ _ _)
  | @cons v vs d ds a b =>
    have hw : pw (t d >>= fun _ => tgAll ts ds) s (PostG P Q G H) (W.w P G H) := hw
    rw [pw_bind] at hw
    refine ⟨v, vs, rfl, cg P G σ H s v d _ R a (pw_mono hw (fun _ s1 h G1 σ1 H1 x1 R1 => ?_) fun _ h => h)⟩
    exact cg' P G1 σ1 H1 s1 vs ds Q R1 (b.ext x1) (pw_ext PostG.mono x1 h)
theorem sg_tup {es : List Expr} {kk : Nat} {pos : Pos} {ts : List (PyData → M Unit)} (C : Cok X k) (h : SdGs X W es ts) (hn : (assignEach es X.env).length = ts.length := by rfl) (hst : (assignEach es X.env).findIdx? (·.1) = none := by rfl) : SdG X W (.Tuple es kk pos) (tgTup ts) := by
  obtain ⟨g, pg, cg⟩ := h.ex
  refine ⟨_, pg_tup C.calm pg hn hst, ?_⟩
  intro P G σ H s v d Q R r hw
  cases d with
  | tuple ds =>
    obtain ⟨a, xs, rfl, f, e, rr⟩ := r.tup_inv
    have hw : pw (if ds.length = ts.length then tgAll ts ds else stuck) s (PostG P Q G H) (W.w P G H) := hw
    split at hw
    · rename_i hl
      exact ⟨a, xs, rfl, SqT.of e, by rw [rr.length, hl], cg P G σ H s xs ds Q R rr hw⟩
    · exact absurd hw (W.stuck _ _ _)
  | none => exact absurd hw (W.stuck _ _ _)
  | bool _ => exact absurd hw (W.stuck _ _ _)
  | int _ => exact absurd hw (W.stuck _ _ _)
  | str _ => exact absurd hw (W.stuck _ _ _)
  | list _ => exact absurd hw (W.stuck _ _ _)
  | dict _ => exact absurd hw (W.stuck _ _ _)
theorem ss_asg {i : Nat} {x : Str} {pos' pos : Pos} {e : Expr} {m : M Opd} (C : Cok X k) (h : Sd X W e m) (hi : X.N[i]? = some x) (hx : Loc X.env.scope x) (hs : swapsWith e (some (.Name x pos')) pos.line X.env = pure false := by rfl) (hf : X.fn x = true ∨ X.env.scope.names.lookup x = some .local := by first | exact .inl rfl | exact .inr rfl | assumption) :
    SdS X W (.Assign [.Name x pos'] e pos) (sAsg i m) := by
  obtain ⟨te, pe, ce⟩ := h.ex
  refine ⟨_, ps_set C.nd hi hx pe hs hf, ?_⟩
  intro P G σ H s D R hw
  unfold sAsg at hw
  refine ce.bind PostS.mono R hw fun o1 s1 G1 v1 H1 x1 R1 r1 hw1 => ?_
  obtain ⟨G2, s2, d, x2, R2, z, hw2⟩ := take_ok PostS.mono R1 r1 hw1
  exact hw2 _ _ _ .refl (R2.setDat i z)
theorem ss_tg {tg e : Expr} {pos : Pos} {m : M Opd} {t : PyData → M Unit} (h : Sd X W e m) (hg : SdG X W tg t) (hs : swapsWithSole [tg] e pos.line X.env = pure false := by rfl) (hw : swappedStores [tg] e X.env = pure none := by rfl) (h1 : (assignEach [tg] X.env).map (·.2) = [assign tg X.env] := by rfl) : SdS X W (.Assign [tg] e pos) (sTg t m) := by
  obtain ⟨te, pe, ce⟩ := h.ex
  obtain ⟨g, pg, cg⟩ := hg.ex
  refine ⟨_, ps_asg pe pg hs hw h1, ?_⟩
  intro P G σ H s D R hw
  unfold sTg at hw
  refine ce.bind PostS.mono R hw fun o1 s1 G1 v1 H1 x1 R1 r1 hw1 => ?_
  obtain ⟨G2, s2, d, x2, R2, z, hw2⟩ := take_ok PostS.mono R1 r1 hw1
  rw [pw_bind] at hw2
  exact cg P G2 σ H1 s2 v1 d _ R2 z (pw_mono hw2 (fun _ s3 h => h) fun _ h => h)
theorem ss_par {i j : Nat} {x y : Str} {a b : Expr} {px py pt pos : Pos} {kt k2 : Nat} {pt2 : Pos} {m : M (List Opd)} (C : Cok X k) (hi : X.N[i]? = some x) (hj : X.N[j]? = some y) (hij : i ≠ j) (h : SdA X W [a, b] m)
    (hp : ∀ ta, PA X [a, b] ta → PS X (.Assign [.Tuple [.Name x px, .Name y py] kt pt] (.Tuple [a, b] k2 pt2) pos) (tPar i j ta)) : SdS X W (.Assign [.Tuple [.Name x px, .Name y py] kt pt] (.Tuple [a, b] k2 pt2) pos) (sPar [tgName i, tgName j] m) := by
  obtain ⟨ta, pa, ca⟩ := h.ex
  refine ⟨_, hp ta pa, ?_⟩
  intro P G σ H s D R hw
  unfold sPar at hw
  refine ca.bind PostS.mono R hw fun os s1 G1 vs H1 x1 R1 r1 hw1 => ?_
  obtain ⟨G2, s2, ds, x2, R2, z, hw2⟩ := takes_ok PostS.mono R1 r1 hw1
  match ds, vs, z, hw2 with
  | [], _, _, hw2 => exact absurd hw2 (W.stuck _ _ _)
  | [_], _, _, hw2 => exact absurd hw2 (W.stuck _ _ _)
  | d :: e :: f :: r, _, _, hw2 => exact absurd hw2 (W.stuck _ _ _)
  | [d, e], _, .cons z1 (.cons z2 .nil), hw2 => exact ⟨_, _, rfl, hw2 G2 _ H1 .refl ((R2.setDat i z1).setDat j z2)⟩
theorem sb_nil : SdB X W [] sSkip := ⟨_, pss_nil, fun P G σ H s D R hw => hw G σ H .refl R⟩
theorem sb_one {st : Stmt} {m : M Fl} (h : SdS X W st m) : SdB X W [st] m := let ⟨t, p, c⟩ := h.ex; ⟨t, pss_one p, c⟩
theorem sb_cons {st : Stmt} {rest : List Stmt} {m r : M Fl} (h : SdS X W st m) (hr : SdB X W rest r) : SdB X W (st :: rest) (sSeq m r) := by
  obtain ⟨t, p, c⟩ := h.ex
  obtain ⟨t', p', c'⟩ := hr.ex
  refine ⟨_, pss_cons p p', ?_⟩
  intro P G σ H s D R hw
  unfold sSeq at hw
  rw [pw_bind] at hw
  refine c P G σ H s _ R (pw_mono hw (fun f s1 h => ?_) fun _ h => h)
  cases f with
  | nx => exact fun G1 σ1 H1 x1 R1 => c' P G1 σ1 H1 s1 D R1 (pw_ext PostS.mono x1 h)
  | rt d => exact h
  | bk => exact h
  | ct => exact h
theorem ss_never {st : Stmt} : SdS X W st stuck := ⟨_, ps_never, fun P G σ H s D R hw => W.stuck _ _ _ hw⟩
theorem ss_ret {e : Expr} {pos : Pos} {m : M Opd} (h : Sd X W e m) : SdS X W (.Return (some e) pos) (sRet m) := by
  obtain ⟨te, pe, ce⟩ := h.ex
  refine ⟨_, ps_ret pe, ?_⟩
  intro P G σ H s D R hw
  unfold sRet at hw
  refine ce.bind PostS.mono R hw fun o1 s1 G1 v1 H1 x1 R1 r1 hw1 => ?_
  obtain ⟨G2, s2, d, x2, R2, z, hw2⟩ := take_ok PostS.mono R1 r1 hw1
  exact hw2 _ _ _ _ .refl R2 z
theorem ss_if {c : Expr} {a b : List Stmt} {pos : Pos} {mc : M Bool} {ma mb : M Fl} (hc : SdT X W c mc) (ha : SdB X W a ma) (hb : SdB X W b mb) : SdS X W (.If c a b pos) (sIf mc ma mb) := by
  obtain ⟨tc, pc, cc⟩ := hc.ex
  obtain ⟨ta, pa, ca⟩ := ha.ex
  obtain ⟨tb, pb, cb⟩ := hb.ex
  refine ⟨_, ps_if pc pa pb, ?_⟩
  intro P G σ H s D R hw
  unfold sIf at hw
  refine cc.bind PostS.mono R hw fun c s1 G1 H1 x1 R1 hw1 => ?_
  cases c with
  | true => exact ca P G1 σ H1 s1 D R1 hw1
  | false => exact cb P G1 σ H1 s1 D R1 hw1
theorem ss_while {c : Expr} {body : List Stmt} {pos : Pos} {mc : M Bool} {mb : M Fl} (n : Nat) (hp : PassesOwn (model X.prog X.w) X.A X.env X.xe) (hc : SdT X W c mc) (hb : SdB X W body mb) : SdS X W (.While c body [] pos) (whileL mc mb n) := by
  obtain ⟨tc, pc, cc⟩ := hc.ex
  obtain ⟨tb, pb, cb⟩ := hb.ex
  refine ⟨_, ps_while hp pc pb, ?_⟩
  intro P G σ H s D R hw
  refine ⟨fun m σ' H' => ∃ G' s', Ext P G H G' H' ∧ Rel P G' σ' H' s' ∧ pw (whileL mc mb m) s' (PostS P D G' H') (W.w P G' H'), ⟨n, G, s, .refl, R, hw⟩, ?_⟩
  rintro m σ1 H1 ⟨G1, s1, x1, R1, hw1⟩
  cases m with
  | zero => exact absurd hw1 (W.stuck _ _ _)
  | succ m =>
    unfold whileL at hw1
    refine cc.bind PostS.mono R1 hw1 fun b s2 G2 H2 x2 R2 hw2 => ?_
    cases b with
    | false => exact hw2 G2 σ1 H2 .refl R2
    | true =>
      refine ⟨fun σ' H' => ∃ G' s', Ext P G H G' H' ∧ Rel P G' σ' H' s' ∧ pw (whileL mc mb m) s' (PostS P D G' H') (W.w P G' H'), fun σ' H' h => ⟨m, Nat.lt_succ_self m, h⟩, ?_⟩
      have hw2 : pw (mb >>= fun f => match f with | .bk => pure .nx | .rt v => pure (.rt v) | _ => whileL mc mb m) s2 (PostS P D G2 H2) (W.w P G2 H2) := hw2
      rw [pw_bind] at hw2
      refine cb P G2 σ1 H2 s2 _ R2 (pw_mono hw2 (fun f s3 h => ?_) fun _ h => h)
      cases f with
      | nx => exact fun G3 σ3 H3 x3 R3 => ⟨G3, s3, (x1.trans x2).trans x3, R3, pw_ext PostS.mono x3 h⟩
      | ct => exact fun G3 σ3 H3 x3 R3 => ⟨G3, s3, (x1.trans x2).trans x3, R3, pw_ext PostS.mono x3 h⟩
      | bk => exact h
      | rt d => exact h
end
end TW
set_option linter.all false
set_option Elab.async false
namespace TW
open PySem L2
set_option maxRecDepth 100000 in
set_option maxHeartbeats 2000000 in
theorem enum1_meets {v : Value} {o : Obj} {H : Heap → Prop} (B : Begins v o H) :
    Meets (Builtin.«enumerate.__new__» ⟨[.type "enumerate", v], []⟩) (fun _ R s => H s.heap ∧
      R (.ok (.ret (.ref (s.heap.push o).objs.size)))
        { s with heap := (s.heap.push o).push { cls := .type "enumerate", data := .fields #[.none, .bool false, .ref s.heap.objs.size, rawInt 0, .none, .none] } }) :=
  .of_wp fun prog w A R s ⟨h1, h⟩ => by
    obtain ⟨hp, gs, dr, tk, os⟩ := s
    have hsub := sub_enumerate
    have begins : ∀ {A' : Around} {E : Value → Shared → Prop} {Q : Value → Shared → Prop}, Q (.ref hp.objs.size) ⟨hp.push o, gs, dr, tk, os⟩ → wpAny (model prog w) A' (pyIter v) Q E ⟨hp, gs, dr, tk, os⟩ :=
      fun q => B.iter prog w _ _ ⟨hp, gs, dr, tk, os⟩ _ h1 q
    wp_walk using begins
    refine wpAny_stack_any (fun _ => wpAny_pure ?_)
    split
    · rename_i c _ _ _ _ _
      cases (c == Value.type "enumerate") <;> (wp_walk using begins; exact ⟨_, rfl, h⟩)
    · wp_walk using begins
      exact ⟨_, rfl, h⟩
theorem enum1_call {prog : Program} {w : World} {A : Around} {E : Value → Shared → Prop} {s : Shared} {v : Value} {o : Obj} {H : Heap → Prop} {Q : Value → Shared → Prop} (B : Begins v o H) (h1 : H s.heap)
    (h : ∀ h', IsEnum h' (s.heap.objs.size + 1) s.heap.objs.size 0 .none → h'.get? s.heap.objs.size = some o → (∀ b u, s.heap.get? b = some u → h'.get? b = some u) → Q (.ref (s.heap.objs.size + 1)) { s with heap := h' }) :
    wpAny (model prog w) A (call (.type "enumerate") [v]) Q E s := by
  have hz : (s.heap.push o).objs.size = s.heap.objs.size + 1 := Heap.size_push ..
  refine callType_new F.called_enumerate (by decide) (F.typeCall_enumerate_1 _) (F.newCall_enumerate_1 _) (fun obj => F.args_object_init_2 obj _) F.entry_enumerate_new (enum1_meets B) ⟨h1, ?_⟩
  show _ ∧ _
  rw [hz]
  have e0 := Heap.get?_push_size (s.heap.push o) (o := { cls := .type "enumerate", data := .fields #[.none, .bool false, .ref s.heap.objs.size, rawInt 0, .none, .none] }) rfl
  rw [hz] at e0
  exact ⟨⟨_, e0, rfl⟩, h _ e0 (Heap.get?_push_of_some _ (Heap.get?_push_size _ B.free)) fun b u x => Heap.get?_push_of_some _ (Heap.get?_push_of_some _ x)⟩
def ItE (K : PySem.W.Frag) (a : Addr) : It :=
  ⟨fun i H => ∃ (xs : List V) (x : V), SqT K H a xs ∧ xs[i]? = some x,
    fun i H v H' => ∃ T x, v = .ref T ∧ H T = none ∧ H' = upd H T (.tup [.int (i : Nat), x]) ∧ ∀ xs, SqT K H a xs → xs[i]? = some x,
    fun i H => ∃ xs : List V, SqT K H a xs ∧ xs.length = i⟩
theorem turnE {P : Program} {w : World} {K : PySem.W.Frag} {elts : List Expr} {kk : Nat} {tpos : Pos} (a e it : Addr) :
    Turn P w K (.Tuple elts kk tpos) (ItE K a) [e, it] e (fun i h => (∃ old, IsEnum h e it ((i : Nat) : Int) old) ∧ h.IsTupleIter it a i ∧ e ≠ it) where
  mem := by simp
  obj := fun i h st b hb => by
    obtain ⟨⟨old, he⟩, ⟨o, ho, hc, hd⟩, _⟩ := st
    rcases (show b = e ∨ b = it by simpa using hb) with rfl | rfl
    · exact ⟨_, he, fun v q => nomatch q⟩
    · exact ⟨o, ho, fun v q => by rw [hd] at q; cases q⟩
  keep := fun i h h' st kp => by
    obtain ⟨⟨old, he⟩, hi, hne⟩ := st
    exact ⟨⟨old, kp e (by simp) _ he⟩, hi.at fun o q => kp it (by simp) o q, hne⟩
  item := by
    intro X hP hw hK hc i pins s σ H E I hf st hg
    subst hP hw hK
    obtain ⟨⟨old, he⟩, hit, hne⟩ := st
    obtain ⟨xs, x, hq, hx⟩ := hg
    obtain ⟨its, rv, p, hz⟩ := I.tuple hq
    obtain ⟨u, hu, ru⟩ := rv.get hx
    have hel : e < s.heap.objs.size := Heap.lt_size he
    have hil : it < s.heap.objs.size := by obtain ⟨_, q, _⟩ := hit; exact Heap.lt_size q
    have pT : s.heap.IsTuple a its.toArray := p
    have hai : a ≠ it := fun z => by
      obtain ⟨o1, q1, c1, _⟩ := pT
      obtain ⟨o2, q2, c2, d2⟩ := hit
      rw [z, q2] at q1
      cases q1
      rw [c2] at c1
      exact absurd c1 (by decide)
    have hae : a ≠ e := fun z => by
      obtain ⟨o1, q1, c1, _⟩ := pT
      have he' : s.heap.get? e = some _ := he
      rw [z, he'] at q1
      cases q1
      exact absurd c1 (show ¬ (Value.type "enumerate" = Value.type "tuple") by decide)
    have hi : i < its.toArray.size := by
      have := (List.getElem?_eq_some_iff.mp hu).1
      simpa using this
    refine wpAny_pyNext_enum_itemD (Draws.tuple (show X.A.in1.handled = none from I.ok.hd hc) it a hai its.toArray) he ⟨hit, pT⟩ hi hne (by simp [hne, Ne.symm hae]) fun y h' tk hy ho hs' hT hsz hk => ?_
    have ey : y = u := by
      have h2 : its.toArray[i]? = some u := by simpa using hu
      rw [h2] at hy
      exact (Option.some.inj hy).symm
    subst ey
    refine ⟨_, rfl, wpAny_letOwnedTupleGo_enum (s := { s with heap := h', toks := tk + 1 }) ho fun h'' he' sb => ?_⟩
    have hT2 : h''.get? s.heap.objs.size = some { cls := .type "tuple", data := .seq #[.int i tk, y] } := (sb.2 _ (Nat.ne_of_gt hel)).trans hT
    have fresh := I.hok.fresh (Nat.le_refl s.heap.objs.size)
    have new : ObjOk X.prog X.w (upd H s.heap.objs.size (.tup [.int (i : Nat), x])) h'' s.heap.objs.size (.tup [.int (i : Nat), x]) :=
      ⟨(show 2 ≤ sizeLine by rw [sizeLine_eq]; decide), [.int i tk, y], .cons ⟨_, rfl⟩ (.cons ru .nil), ⟨_, hT2, rfl, _, rfl⟩⟩
    have keep2 : ∀ b ob, b ∉ [e, it] → s.heap.get? b = some ob → h''.get? b = some ob := fun b ob hb q => by
      have h1 : b ≠ e := fun z => hb (by simp [z])
      have h2 : b ≠ it := fun z => hb (by simp [z])
      exact (sb.2 b h1).trans (hk b ob h1 h2 q)
    have I1 : L2.Inv X pins σ (upd H s.heap.objs.size (.tup [.int (i : Nat), x])) { s with heap := h'', toks := tk + 1 } := I.turnedNew (ch := [e, it]) keep2 hf (Nat.le_refl _) new
    refine ⟨.ref s.heap.objs.size, _, I1, rfl, ⟨_, x, rfl, fresh, rfl, fun ys hy => by rw [I.tuple_inj hy hq]; exact hx⟩, ⟨⟨y, ?_⟩, hs'.1.at fun o q => (sb.2 it (Ne.symm hne)).trans q, hne⟩, fun b hb => ?_⟩
    · rw [show ((i + 1 : Nat) : Int) = (i : Int) + 1 by omega]
      exact he'
    · have lt : b < s.heap.objs.size := by
        rcases (show b = e ∨ b = it by simpa using hb) with rfl | rfl
        · exact hel
        · exact hil
      rw [upd_ne (Nat.ne_of_lt lt)]
      exact (hf b hb).1
  done := by
    intro X hP hw hK hc i pins s σ H E I hf st hg
    subst hP hw hK
    obtain ⟨⟨old, he⟩, hit, hne⟩ := st
    obtain ⟨xs, hq, hx⟩ := hg
    obtain ⟨its, rv, p, hz⟩ := I.tuple hq
    obtain ⟨f0, f1, f2, f3, f4, f5⟩ := hf it (by simp)
    have hl := rv.length
    have pT : s.heap.IsTuple a its.toArray := p
    have hai : a ≠ it := fun z => by
      obtain ⟨o1, q1, c1, _⟩ := pT
      obtain ⟨o2, q2, c2, d2⟩ := hit
      rw [z, q2] at q1
      cases q1
      rw [c2] at c1
      exact absurd c1 (by decide)
    have ei : i = its.toArray.size := by
      have : its.toArray.size = its.length := by simp
      omega
    subst ei
    exact wpAny_pyNext_enum_endD (Draws.tuple (show X.A.in1.handled = none from I.ok.hd hc) it a hai its.toArray) he ⟨hit, pT⟩ fun h' eb => ⟨rfl, I.turned (t' := s.toks) (fun b o hb q => eb b o hb q) f0 f1 f3 f4 f5⟩
  self := fun A i s Q E st h => by
    obtain ⟨⟨_, he⟩, _⟩ := st
    exact wpAny_pyIter_enum he h
def iEn (K : PySem.W.Frag) (ta : TA) : TI := fun σ H R => ta σ H fun vs H1 => ∃ a xs, vs = [.ref a] ∧ ((SqT K H1 a xs ∧ R (ItE K a) H1) ∨ (SqL K H1 a xs ∧ R (Ite K a) H1))
theorem pi_en {X : Cx} {e : Expr} {ta : TA} {p pos tpos : Pos} {elts : List Expr} {kk : Nat} (hg : Gl X "enumerate") (hm : X.mg "enumerate" = none) (ha : PA X [e] ta) (hs : starEach [e] X.env = [(false, eval e X.env)] := by rfl) :
    PI X (.Tuple elts kk tpos) (.Call (.Name "enumerate" p) [e] [] pos) (iEn X.K ta) := by
  refine ⟨fun pins s σ H R I h => PyProof.Rows.Call_ (ld_blt I hg hm PyProof.Rows.boot_enumerate (PyProof.Rows.callWith_type1 (thn (ha.run pos pins s σ H _ I h) fun us s1 ⟨vs, H1, I1, r1, q1⟩ => ?_) hs rfl))⟩
  obtain ⟨a, xs, rfl, q⟩ := q1
  cases r1 with
  | cons r rr =>
    cases rr
    cases r
    have hle : ∀ b, b ∈ [s1.heap.objs.size + 1, s1.heap.objs.size] → s1.heap.objs.size ≤ b := fun b hb => by
      rcases (show b = s1.heap.objs.size + 1 ∨ b = s1.heap.objs.size by simpa using hb) with rfl | rfl
      · exact Nat.le_succ _
      · exact Nat.le_refl _
    rcases q with ⟨hq, q⟩ | ⟨hq, q⟩
    · obtain ⟨its, rv, p', hz⟩ := I1.tuple hq
      refine enum1_call (begins_tuple a its.toArray) (show s1.heap.IsTuple a its.toArray from p') fun h' he hit hk => wpAny_pyIter_enum he ?_
      have I2 : L2.Inv X pins σ H1 { s1 with heap := h' } := I1.kept (t' := s1.toks) hk
      exact ⟨s1.heap.objs.size + 1, [s1.heap.objs.size + 1, s1.heap.objs.size], _, _, H1, rfl, I2, turnE a (s1.heap.objs.size + 1) s1.heap.objs.size, ⟨⟨.none, he⟩, ⟨_, hit, rfl, rfl⟩, Nat.succ_ne_self _⟩, fun b hb => I1.fpOk (hle b hb) (I1.hok.fresh (hle b hb)), q⟩
    · obtain ⟨its, rv, p', hz⟩ := I1.list hq
      refine call_enumerate_list p'.isList fun h' he hit hsz hk => wpAny_pyIter_enum he ?_
      have I2 : L2.Inv X pins σ H1 { s1 with heap := h' } := I1.kept (t' := s1.toks) hk
      exact ⟨s1.heap.objs.size + 1, [s1.heap.objs.size + 1, s1.heap.objs.size], _, _, H1, rfl, I2, turn_enum a (s1.heap.objs.size + 1) s1.heap.objs.size, ⟨⟨.none, he⟩, hit, Nat.succ_ne_self _⟩, fun b hb => I1.fpOk (hle b hb) (I1.hok.fresh (hle b hb)), q⟩
end TW
set_option linter.all false
set_option Elab.async false
namespace TW
open PySem L2
def ItOk (P : Addr → Prop) (J : It) (G0 : Gh) (H0 : Hp) (ds : List PyData) : Prop := ∀ P' G σ H s, Ext P G0 H0 G H → Rel P' G σ H s →
  (∀ i d, ds[i]? = some d → J.go i H ∧ ∀ x H', J.yld i H x H' → ∃ G', Ext P' G H G' H' ∧ Rel P' G' σ H' s ∧ Fz G'.F H' x d) ∧ J.stop ds.length H
abbrev PostI (P : Addr → Prop) (σ : L2.St) (R : It → Hp → Prop) (G : Gh) (H : Hp) (ds : List PyData) (s' : Sx) : Prop := ∀ G' H' J, Ext P G H G' H' → Rel P G' σ H' s' → ItOk P J G' H' ds → R J H'
def ClI (W : Wish) (wi : TI) (m : M (List PyData)) : Prop := ∀ P G σ H s (R : It → Hp → Prop), Rel P G σ H s → pw m s (PostI P σ R G H) (W.w P G H) → wi σ H R
structure SdI (X : Cx) (W : Wish) (tg e : Expr) (m : M (List PyData)) : Prop where
  ex : ∃ wi, PI X tg e wi ∧ ClI W wi m
def iSeqM (m : M Opd) : M (List PyData) := do let o ← m; match ← take o with
  | .list ds => pure ds
  | .tuple ds => pure ds
  | _ => stuck
def rgD (a b : Int) : List PyData := (List.range (b - a).toNat).map fun i => .int (a + (i : Nat))
@[irreducible] def big62 (i : Int) : Bool := decide (-(2 ^ 62) ≤ i) && decide (i < 2 ^ 62)
def iRg1 (m : M Opd) : M (List PyData) := do let o ← m; match ← peek o with
  | .int j => if big62 j then pure (rgD 0 j) else stuck
  | _ => stuck
def iRg2 (a b : M Opd) : M (List PyData) := do let o ← a; let p ← b; let x ← peek o; let y ← peek p; match x, y with
  | .int i, .int j => if big62 i && big62 j then pure (rgD i j) else stuck
  | _, _ => stuck
def pairsD : Nat → List PyData → List PyData
  | _, [] => []
  | i, d :: ds => .tuple [.int (i : Nat), d] :: pairsD (i + 1) ds
def iEnM (m : M Opd) : M (List PyData) := do let o ← m; match ← take o with
  | .tuple ds => pure (pairsD 0 ds)
  | .list ds => pure (pairsD 0 ds)
  | _ => stuck
def zipD : List PyData → List PyData → List PyData
  | a :: as, b :: bs => .tuple [a, b] :: zipD as bs
  | _, _ => []
def iZpM (a b : M Opd) : M (List PyData) := do let o ← a; let p ← b; let x ← take o; let y ← take p; match x, y with
  | .tuple xs, .tuple ys => pure (zipD xs ys)
  | .list xs, .list ys => pure (zipD xs ys)
  | _, _ => stuck
def iStM (m : M Opd) : M (List PyData) := do let o ← m; match ← peek o with
  | .str x => pure (x.cps.toList.map fun c => .str ⟨#[c]⟩)
  | _ => stuck
theorem pairsD_get : ∀ {ds : List PyData} {k i : Nat}, (pairsD k ds)[i]? = (ds[i]?).map fun d => .tuple [.int ((k + i : Nat) : Int), d]
  | [], _, _ => by simp [pairsD]
  | d :: ds, k, 0 => by simp [pairsD]
  | d :: ds, k, i + 1 => by
    simp only [pairsD, List.getElem?_cons_succ]
    rw [pairsD_get]
    rw [show k + 1 + i = k + (i + 1) by omega]
theorem pairsD_length : ∀ {ds : List PyData} {k : Nat}, (pairsD k ds).length = ds.length
  | [], _ => rfl
  | d :: ds, k => by simp [pairsD, pairsD_length (ds := ds)]
section
variable {P : Addr → Prop} {G G' : Gh} {σ : L2.St} {H H' : Hp} {s s' : Sx} {v : V} {o : Opd} {W : Wish} {X : Cx} {k : Nat} {tg : Expr}
theorem PostI.mono {R : It → Hp → Prop} : Mono P (PostI P σ R) := fun _ _ _ _ _ _ x q G' v H' y => q G' v H' (x.trans y)
theorem PI.or {e : Expr} {w1 w2 : TI} (h1 : PI X tg e w1) (h2 : PI X tg e w2) : PI X tg e (fun σ H R => w1 σ H R ∨ w2 σ H R) :=
  ⟨fun pins s σ H R I h => h.elim (h1.run pins s σ H R I) (h2.run pins s σ H R I)⟩
theorem SqT.inj {K : PySem.W.Frag} {a : Addr} {xs ys : List V} {H : Hp} (h : H a = some (.tup xs)) : SqT K H a xs := SqT.of h
theorem it_tup {K : PySem.W.Frag} {a : Addr} {xs : List V} {ds : List PyData} (f : G.F a) (e : H a = some (.tup xs)) (r : FzA G.F H xs ds) : ItOk P (Itt K a) G H ds := by
  intro P' G1 σ1 H1 s1 x R
  have e1 : H1 a = some (.tup xs) := (x.kF a f).tup e
  refine ⟨fun i d hd => ?_, ⟨xs, SqT.of e1, by rw [r.length]; exact Nat.le_refl _⟩⟩
  obtain ⟨v, hv, fv⟩ := r.get hd
  exact ⟨⟨xs, v, SqT.of e1, hv⟩, fun y H' ⟨h1, h2⟩ => by
    subst h1
    rw [h2 xs (SqT.of e1)] at hv
    cases hv
    exact ⟨G1, .refl, R, fv.ext x⟩⟩
theorem it_lst {K : PySem.W.Frag} {a : Addr} {xs : List V} {ds : List PyData} (f : G.F a) (e : H a = some (.lst xs)) (r : FzA G.F H xs ds) : ItOk P (Itl K a) G H ds := by
  intro P' G1 σ1 H1 s1 x R
  have e1 : H1 a = some (.lst xs) := (x.kF a f).lst e
  refine ⟨fun i d hd => ?_, ⟨xs, SqL.of e1, by rw [r.length]; exact Nat.le_refl _⟩⟩
  obtain ⟨v, hv, fv⟩ := r.get hd
  exact ⟨⟨xs, v, SqL.of e1, hv⟩, fun y H' ⟨h1, h2⟩ => by
    subst h1
    rw [h2 xs (SqL.of e1)] at hv
    cases hv
    exact ⟨G1, .refl, R, fv.ext x⟩⟩
theorem it_en {K : PySem.W.Frag} {a : Addr} {xs : List V} {ds : List PyData} (f : G.F a) (e : H a = some (.tup xs)) (r : FzA G.F H xs ds) : ItOk P (ItE K a) G H (pairsD 0 ds) := by
  intro P' G1 σ1 H1 s1 x R
  have e1 : H1 a = some (.tup xs) := (x.kF a f).tup e
  refine ⟨fun i d hd => ?_, ⟨xs, SqT.of e1, by rw [r.length, pairsD_length]⟩⟩
  rw [pairsD_get] at hd
  cases q : ds[i]? with
  | none => rw [q] at hd; cases hd
  | some d' =>
    rw [q] at hd
    cases hd
    obtain ⟨v, hv, fv⟩ := r.get q
    refine ⟨⟨xs, v, SqT.of e1, hv⟩, fun y H' ⟨T, z, hy, hT, hH, hz⟩ => ?_⟩
    rw [hz xs (SqT.of e1)] at hv
    cases hv
    subst hy hH
    obtain ⟨x2, R2, r2⟩ := R.newTup hT (.cons (.int ((i : Nat) : Int)) (.cons (fv.ext x) .nil))
    refine ⟨_, x2, R2, ?_⟩
    rw [Nat.zero_add]
    exact r2
theorem it_enL {K : PySem.W.Frag} {a : Addr} {xs : List V} {ds : List PyData} (f : G.F a) (e : H a = some (.lst xs)) (r : FzA G.F H xs ds) : ItOk P (Ite K a) G H (pairsD 0 ds) := by
  intro P' G1 σ1 H1 s1 x R
  have e1 : H1 a = some (.lst xs) := (x.kF a f).lst e
  refine ⟨fun i d hd => ?_, ⟨xs, SqL.of e1, by rw [r.length, pairsD_length]; exact Nat.le_refl _⟩⟩
  rw [pairsD_get] at hd
  cases q : ds[i]? with
  | none => rw [q] at hd; cases hd
  | some d' =>
    rw [q] at hd
    cases hd
    obtain ⟨v, hv, fv⟩ := r.get q
    refine ⟨⟨xs, v, SqL.of e1, hv⟩, fun y H' ⟨T, z, hy, hT, hH, hz⟩ => ?_⟩
    rw [hz xs (SqL.of e1)] at hv
    cases hv
    subst hy hH
    obtain ⟨x2, R2, r2⟩ := R.newTup hT (.cons (.int ((i : Nat) : Int)) (.cons (fv.ext x) .nil))
    refine ⟨_, x2, R2, ?_⟩
    rw [Nat.zero_add]
    exact r2
theorem it_rg (lo : Int) (n : Nat) : ItOk P (Itr lo n) G H ((List.range n).map fun i => .int (lo + (i : Nat))) := by
  intro P' G1 σ1 H1 s1 x R
  refine ⟨fun i d hd => ?_, by show n ≤ _; simp⟩
  rw [List.getElem?_map] at hd
  cases q : (List.range n)[i]? with
  | none => rw [q] at hd; cases hd
  | some j =>
    rw [q] at hd
    cases hd
    have hi := (List.getElem?_eq_some_iff.mp q).1
    rw [List.length_range] at hi
    rw [List.getElem?_range hi] at q
    cases q
    exact ⟨hi, fun y H' ⟨h1, h2⟩ => by subst h1 h2; exact ⟨G1, .refl, R, .int _⟩⟩
def iSq (K : PySem.W.Frag) (tl : TE) : TI := fun σ H R => tl σ H fun x H1 => ∃ a, x = .ref a ∧ ((∃ xs, SqL K H1 a xs ∧ R (Itl K a) H1) ∨ (∃ xs, SqT K H1 a xs ∧ R (Itt K a) H1))
theorem pi_sq {l : Expr} {tl : TE} (hl : PE X l tl) : PI X tg l (iSq X.K tl) := by
  refine ⟨fun pins s σ H R I h => thn (hl.run pins s σ H _ I h) fun v s1 ⟨x, H1, I1, r1, a, ea, q1⟩ => ?_⟩
  subst ea
  cases r1
  have one : ∀ b ∈ [s1.heap.objs.size], FpOk X pins H1 b := fun b hb => by
    rw [List.mem_singleton.mp hb]
    exact I1.fpOk (Nat.le_refl _) (I1.hok.fresh (Nat.le_refl _))
  rcases q1 with ⟨xs, hq, q⟩ | ⟨xs, hq, q⟩
  · obtain ⟨its, rv, p, hz⟩ := I1.list hq
    exact wpAny_pyIter_list p.isList ⟨s1.heap.objs.size, [s1.heap.objs.size], _, _, H1, rfl, I1.kept (t' := s1.toks) (fun b o e => Heap.get?_push_of_some _ e), turn_list a _, ⟨_, Heap.get?_push_size _ rfl, rfl, rfl⟩, one, q⟩
  · obtain ⟨its, rv, p, hz⟩ := I1.tuple hq
    exact wpAny_pyIter_tuple (show s1.heap.IsTuple a its.toArray from p) ⟨s1.heap.objs.size, [s1.heap.objs.size], _, _, H1, rfl, I1.kept (t' := s1.toks) (fun b o e => Heap.get?_push_of_some _ e), turn_tuple a _, ⟨_, Heap.get?_push_size _ rfl, rfl, rfl⟩, one, q⟩
theorem si_seq {e : Expr} {m : M Opd} (h : Sd X W e m) : SdI X W tg e (iSeqM m) := by
  obtain ⟨te, pe, ce⟩ := h.ex
  refine ⟨_, pi_sq pe, ?_⟩
  intro P G σ H s R Re hw
  unfold iSeqM at hw
  refine ce.bind PostI.mono Re hw fun o1 s1 G1 v1 H1 x1 R1 r1 hw1 => ?_
  obtain ⟨G2, s2, d, x2, R2, z, hw2⟩ := take_ok PostI.mono R1 r1 hw1
  cases d with
  | list ds =>
    obtain ⟨a, xs, rfl, f, e, r⟩ := z.list_inv
    exact ⟨a, rfl, .inl ⟨xs, SqL.of e, hw2 G2 H1 _ .refl R2 (it_lst f e r)⟩⟩
  | tuple ds =>
    obtain ⟨a, xs, rfl, f, e, r⟩ := z.tup_inv
    exact ⟨a, rfl, .inr ⟨xs, SqT.of e, hw2 G2 H1 _ .refl R2 (it_tup f e r)⟩⟩
  | none => exact absurd hw2 (W.stuck _ _ _)
  | bool _ => exact absurd hw2 (W.stuck _ _ _)
  | int _ => exact absurd hw2 (W.stuck _ _ _)
  | str _ => exact absurd hw2 (W.stuck _ _ _)
  | dict _ => exact absurd hw2 (W.stuck _ _ _)
theorem rgD_zero {j : Int} : (List.range j.toNat).map (fun i => PyData.int (0 + (i : Nat))) = rgD 0 j := by
  unfold rgD
  rw [Int.sub_zero]
theorem si_rg1 {a : Expr} {p pos : Pos} {m : M Opd} (hg : Gl X "range") (hm : X.mg "range" = none) (h : Sd X W a m) (hs : starEach [a] X.env = [(false, eval a X.env)] := by rfl) : SdI X W tg (.Call (.Name "range" p) [a] [] pos) (iRg1 m) := by
  obtain ⟨te, pe, ce⟩ := h.ex
  refine ⟨_, pi_range1 hg hm (pa_cons pe pa_nil hs) hs, ?_⟩
  intro P G σ H s R Re hw
  unfold iRg1 at hw
  refine ce.bind PostI.mono Re hw fun o1 s1 G1 v1 H1 x1 R1 r1 hw1 => ?_
  obtain ⟨d, c1, hw2⟩ := peek_ok R1 r1 (W.stuck _ _ _) hw1
  cases d with
  | int j =>
    have hw2 : pw (if big62 j then pure (rgD 0 j) else stuck) s1 (PostI P σ R G1 H1) (W.w P G1 H1) := hw2
    split at hw2
    · rename_i hb
      unfold big62 at hb
      rw [Bool.and_eq_true, decide_eq_true_eq, decide_eq_true_eq] at hb
      refine ⟨j, by rw [c1.int_], hb.1, hb.2, hw2 G1 H1 _ .refl R1 ?_⟩
      rw [← rgD_zero]
      exact it_rg 0 j.toNat
    · exact absurd hw2 (W.stuck _ _ _)
  | none => exact absurd hw2 (W.stuck _ _ _)
  | bool _ => exact absurd hw2 (W.stuck _ _ _)
  | list _ => exact absurd hw2 (W.stuck _ _ _)
  | tuple _ => exact absurd hw2 (W.stuck _ _ _)
  | str _ => exact absurd hw2 (W.stuck _ _ _)
  | dict _ => exact absurd hw2 (W.stuck _ _ _)
theorem si_en {elts : List Expr} {kk : Nat} {e : Expr} {p pos tpos : Pos} {m : M Opd} (hg : Gl X "enumerate") (hm : X.mg "enumerate" = none) (h : Sd X W e m) (hs : starEach [e] X.env = [(false, eval e X.env)] := by rfl) : SdI X W (.Tuple elts kk tpos) (.Call (.Name "enumerate" p) [e] [] pos) (iEnM m) := by
  obtain ⟨te, pe, ce⟩ := h.ex
  refine ⟨_, pi_en hg hm (pa_cons pe pa_nil hs) hs, ?_⟩
  intro P G σ H s R Re hw
  unfold iEnM at hw
  refine ce.bind PostI.mono Re hw fun o1 s1 G1 v1 H1 x1 R1 r1 hw1 => ?_
  obtain ⟨G2, s2, d, x2, R2, z, hw2⟩ := take_ok PostI.mono R1 r1 hw1
  cases d with
  | tuple ds =>
    obtain ⟨a, xs, rfl, f, e, r⟩ := z.tup_inv
    exact ⟨a, xs, rfl, .inl ⟨SqT.of e, hw2 G2 H1 _ .refl R2 (it_en f e r)⟩⟩
  | list ds =>
    obtain ⟨a, xs, rfl, f, e, r⟩ := z.list_inv
    exact ⟨a, xs, rfl, .inr ⟨SqL.of e, hw2 G2 H1 _ .refl R2 (it_enL f e r)⟩⟩
  | none => exact absurd hw2 (W.stuck _ _ _)
  | bool _ => exact absurd hw2 (W.stuck _ _ _)
  | int _ => exact absurd hw2 (W.stuck _ _ _)
  | str _ => exact absurd hw2 (W.stuck _ _ _)
  | dict _ => exact absurd hw2 (W.stuck _ _ _)
theorem ss_for {iter : Expr} {body : List Stmt} {pos : Pos} {mi : M (List PyData)} {t : PyData → M Unit} {mb : M Fl} (C : Cok X k) (hp : PassesOwn (model X.prog X.w) X.A X.env X.xe) (hi : SdI X W tg iter mi) (hg : SdG X W tg t) (hb : SdB X W body mb) (hs : ∀ x, foldedSetIterable iter X.env x = pure x := by intro _; rfl) : SdS X W (.For tg iter body [] pos) (sFor mi t mb) := by
  obtain ⟨wi, pi, ci⟩ := hi.ex
  obtain ⟨g, pg, cg⟩ := hg.ex
  obtain ⟨tb, pb, cb⟩ := hb.ex
  refine ⟨_, ps_for hp C.calm pi pg pb (hs := hs), ?_⟩
  intro P G σ H s D R hw
  unfold sFor at hw
  rw [pw_bind] at hw
  refine ci P G σ H s _ R (pw_mono hw (fun ds s1 h G1 H1 J x1 R1 ok => ?_) fun _ h => h)
  have h1 := pw_ext (m := forL t mb ds) PostS.mono x1 h
  refine ⟨fun i m σ' H' => ∃ G' s', Ext P G1 H1 G' H' ∧ Rel P G' σ' H' s' ∧ i + m = ds.length ∧ pw (forL t mb (ds.drop i)) s' (PostS P D G' H') (W.w P G' H'), ⟨ds.length, G1, s1, .refl, R1, Nat.zero_add _, h1⟩, ?_⟩
  rintro i m σ2 H2 ⟨G2, s2, x2, R2, em, hw2⟩
  obtain ⟨go, stop⟩ := ok P G2 σ2 H2 s2 x2 R2
  by_cases hi : i < ds.length
  · obtain ⟨g1, yl⟩ := go i ds[i] (List.getElem?_eq_getElem hi)
    refine .inr ⟨g1, fun σ' H' => ∃ G' s', Ext P G1 H1 G' H' ∧ Rel P G' σ' H' s' ∧ pw (forL t mb (ds.drop (i + 1))) s' (PostS P D G' H') (W.w P G' H'), fun σ' H' ⟨G', s', x', R', h'⟩ => ⟨m - 1, by omega, G', s', x', R', by omega, h'⟩, fun y H3 hy => ?_⟩
    obtain ⟨G3, x3, R3, f3⟩ := yl y H3 hy
    rw [List.drop_eq_getElem_cons hi] at hw2
    have hw3 := pw_ext (m := forL t mb (ds[i] :: ds.drop (i + 1))) PostS.mono x3 hw2
    have hw3 : pw (t ds[i] >>= fun _ => mb >>= fun f => match f with | .bk => pure .nx | .rt v => pure (.rt v) | _ => forL t mb (ds.drop (i + 1))) s2 (PostS P D G3 H3) (W.w P G3 H3) := hw3
    rw [pw_bind] at hw3
    refine cg P G3 σ2 H3 s2 y _ _ R3 f3 (pw_mono hw3 (fun _ s4 h4 G4 σ4 H4 x4 R4 => ?_) fun _ h => h)
    have h5 := pw_ext (m := mb >>= fun f => match f with | .bk => pure .nx | .rt v => pure (.rt v) | _ => forL t mb (ds.drop (i + 1))) PostS.mono x4 h4
    rw [pw_bind] at h5
    have xx := (x2.trans x3).trans x4
    refine cb P G4 σ4 H4 s4 _ R4 (pw_mono h5 (fun f s5 h6 => ?_) fun _ h => h)
    cases f with
    | nx => exact fun G5 σ5 H5 x5 R5 => ⟨G5, s5, xx.trans x5, R5, pw_ext PostS.mono x5 h6⟩
    | ct => exact fun G5 σ5 H5 x5 R5 => ⟨G5, s5, xx.trans x5, R5, pw_ext PostS.mono x5 h6⟩
    | bk => exact h6
    | rt d => exact h6
  · have e : i = ds.length := by omega
    subst e
    rw [List.drop_length] at hw2
    exact .inl ⟨stop, hw2 G2 σ2 H2 .refl R2⟩
end
end TW
set_option linter.all false
set_option Elab.async false
namespace TW
open PySem L2
def rdE (W : Wish) (m : M Opd) : TE := fun σ H Q => ∃ P G s, Rel P G σ H s ∧ pw m s (PostV P σ Q G H) (W.w P G H)
def rdT (W : Wish) (m : M Bool) : TT := fun σ H Q => ∃ P G s, Rel P G σ H s ∧ pw m s (PostB P σ Q G H) (W.w P G H)
def rdG (W : Wish) (t : PyData → M Unit) (vs : List Nat) : TG := fun v σ H Q => ∃ P G s d, Rel P G σ H s ∧ Fz G.F H v d ∧ pw (t d) s (PostG P (fun σ' H' => wipe σ' vs = wipe σ vs → Q σ' H') G H) (W.w P G H)
theorem PE.weak {X : Cx} {e : Expr} {t t' : TE} (h : PE X e t) (w : ∀ σ H Q, t' σ H Q → t σ H Q) : PE X e t' := ⟨fun pins s σ H Q I q => h.run pins s σ H Q I (w σ H Q q)⟩
theorem Sd.pe {X : Cx} {W : Wish} {e : Expr} {m : M Opd} (h : Sd X W e m) : PE X e (rdE W m) := by
  obtain ⟨te, p, c⟩ := h.ex
  exact PE.weak p fun σ H Q ⟨P, G, s, R, hw⟩ => c P G σ H s Q R hw
theorem SdT.pts {X : Cx} {W : Wish} {e : Expr} {m : M Bool} (h : SdT X W e m) : PTs X [e] (rdT W m) := by
  obtain ⟨te, p, c⟩ := h.ex
  exact pts_one ⟨fun pins s σ H Q I ⟨P, G, s', R, hw⟩ => p.run pins s σ H Q I (c P G σ H s' Q R hw)⟩
theorem pts_yes {X : Cx} {W : Wish} : PTs X [] (rdT W (pure true)) := ⟨fun pins s σ H Q I ⟨P, G, s', R, hw⟩ => pts_nil.run pins s σ H Q I (hw G H .refl R)⟩
structure SdTs (X : Cx) (W : Wish) (es : List Expr) (m : M Bool) : Prop where
  pts : PTs X es (rdT W m)
theorem sts_nil {X : Cx} {W : Wish} : SdTs X W [] (pure true) := ⟨pts_yes⟩
theorem sts_one {X : Cx} {W : Wish} {e : Expr} {m : M Bool} (h : SdT X W e m) : SdTs X W [e] m := ⟨h.pts⟩
structure SdGw (X : Cx) (W : Wish) (vs : List Nat) (e : Expr) (t : PyData → M Unit) : Prop where
  ex : ∃ g, PG X e g ∧ ∀ P G σ H s v d (Q : L2.St → Hp → Prop), Rel P G σ H s → Fz G.F H v d → pw (t d) s (PostG P (fun σ' H' => wipe σ' vs = wipe σ vs → Q σ' H') G H) (W.w P G H) → g v σ H Q
theorem SdGw.pg {X : Cx} {W : Wish} {vs : List Nat} {e : Expr} {t : PyData → M Unit} (h : SdGw X W vs e t) : PG X e (rdG W t vs) := by
  obtain ⟨g, p, c⟩ := h.ex
  exact ⟨fun pins s σ H v u Q I r ⟨P, G, s', d, R, f, hw⟩ => p.run pins s σ H v u Q I r (c P G σ H s' v d Q R f hw)⟩
theorem wipe_get : ∀ {vs : List Nat} {σ : L2.St} {j : Nat}, (wipe σ vs)[j]? = if j ∈ vs then (σ[j]?).map fun _ => none else σ[j]?
  | [], σ, j => by simp [wipe]
  | v :: vs, σ, j => by
    unfold wipe
    rw [List.getElem?_set]
    by_cases hj : v = j
    · subst hj
      simp only [List.mem_cons, true_or, if_true]
      rw [wipe_length]
      by_cases hv : v < σ.length
      · rw [if_pos hv, List.getElem?_eq_getElem hv]; rfl
      · rw [if_neg hv, List.getElem?_eq_none (by omega)]; rfl
    · rw [if_neg hj, wipe_get]
      have : (j ∈ v :: vs) ↔ j ∈ vs := by simp [Ne.symm hj]
      simp only [this]
theorem wipe_set {vs : List Nat} {σ : L2.St} {i : Nat} {x : Option V} (h : i ∈ vs) : wipe (σ.set i x) vs = wipe σ vs := by
  apply List.ext_getElem?
  intro j
  rw [wipe_get, wipe_get]
  by_cases hj : j ∈ vs
  · rw [if_pos hj, if_pos hj, List.getElem?_set]
    by_cases e : i = j
    · subst e
      rw [if_pos rfl]
      by_cases hl : i < σ.length
      · rw [if_pos hl, List.getElem?_eq_getElem hl]; rfl
      · rw [if_neg hl, List.getElem?_eq_none (by omega)]
    · rw [if_neg e]
  · rw [if_neg hj, if_neg hj, List.getElem?_set_ne (fun (e : i = j) => hj (by rw [← e]; exact h))]
theorem wipe_wipe {vs : List Nat} {σ : L2.St} : wipe (wipe σ vs) vs = wipe σ vs := by
  apply List.ext_getElem?
  intro j
  rw [wipe_get, wipe_get]
  by_cases hj : j ∈ vs
  · rw [if_pos hj]
    cases σ[j]? <;> simp [hj]
  · rw [if_neg hj]
def wipeR (r : List SV) : List Nat → List SV
  | [] => r
  | v :: vs => (wipeR r vs).set v .no
def wipeS (vs : List Nat) : M Unit := fun s => .ok ((), { s with r := wipeR s.r vs })
def keepD : SV → SV
  | .dat d => .dat d
  | _ => .no
def backR (old r : List SV) : List Nat → List SV
  | [] => r
  | v :: vs => (backR old r vs).set v (keepD (old.getD v .no))
def noX {α : Type} (m : M α) : M α := fun s => match m s with
  | .ok p => .ok p
  | .error _ => .error .stuck
def slots : M (List SV) := fun s => .ok (s.r, s)
def backS (old : List SV) (vs : List Nat) : M Unit := fun s => .ok ((), { s with r := backR old s.r vs })
def cmpL (vs : List Nat) (t : PyData → M Unit) (c : M Bool) (e : M Opd) : List PyData → List PyData → M (List PyData)
  | acc, [] => pure acc
  | acc, d :: ds => do
    wipeS vs
    t d
    let b ← c
    if b = true then (do
      let o ← e
      let x ← take o
      if acc.length < lim then cmpL vs t c e (acc ++ [x]) ds else stuck)
    else cmpL vs t c e acc ds
def nCmp (vs : List Nat) (mi : M (List PyData)) (t : PyData → M Unit) (c : M Bool) (e : M Opd) : M PyData := do
  let ds ← mi
  let old ← slots
  let xs ← noX (cmpL vs t c e [] ds)
  backS old vs
  pure (.list xs)
theorem pw_noX {α : Type} {m : M α} {s : Sx} {Q : α → Sx → Prop} {E : Er → Prop} (hE : ¬ E .stuck) (h : pw (noX m) s Q E) : pw m s Q (fun _ => False) := by
  unfold pw noX at h
  unfold pw
  cases q : m s with
  | ok p => rw [q] at h; exact h
  | error e => rw [q] at h; exact hE h
theorem wipeR_length {r : List SV} : ∀ {vs : List Nat}, (wipeR r vs).length = r.length
  | [] => rfl
  | v :: vs => by unfold wipeR; rw [List.length_set, wipeR_length]
theorem wipeR_get {r : List SV} : ∀ {vs : List Nat} {j : Nat}, (wipeR r vs)[j]? = if j ∈ vs then (r[j]?).map fun _ => SV.no else r[j]?
  | [], j => by simp [wipeR]
  | v :: vs, j => by
    unfold wipeR
    rw [List.getElem?_set]
    by_cases hj : v = j
    · subst hj
      simp only [List.mem_cons, true_or, if_true]
      rw [wipeR_length]
      by_cases hv : v < r.length
      · rw [if_pos hv, List.getElem?_eq_getElem hv]; rfl
      · rw [if_neg hv, List.getElem?_eq_none (by omega)]; rfl
    · rw [if_neg hj, wipeR_get]
      have : (j ∈ v :: vs) ↔ j ∈ vs := by simp [Ne.symm hj]
      simp only [this]
theorem backR_length {old r : List SV} : ∀ {vs : List Nat}, (backR old r vs).length = r.length
  | [] => rfl
  | v :: vs => by unfold backR; rw [List.length_set, backR_length]
theorem backR_get {old r : List SV} : ∀ {vs : List Nat} {j : Nat}, (backR old r vs)[j]? = if j ∈ vs then (r[j]?).map fun _ => keepD (old.getD j .no) else r[j]?
  | [], j => by simp [backR]
  | v :: vs, j => by
    unfold backR
    rw [List.getElem?_set]
    by_cases hj : v = j
    · subst hj
      simp only [List.mem_cons, true_or, if_true]
      rw [backR_length]
      by_cases hv : v < r.length
      · rw [if_pos hv, List.getElem?_eq_getElem hv]; rfl
      · rw [if_neg hv, List.getElem?_eq_none (by omega)]; rfl
    · rw [if_neg hj, backR_get]
      have : (j ∈ v :: vs) ↔ j ∈ vs := by simp [Ne.symm hj]
      simp only [this]
section
variable {P : Addr → Prop} {G G' : Gh} {σ : L2.St} {H H' : Hp} {s s' : Sx} {v : V} {o : Opd} {W : Wish} {X : Cx} {k : Nat} {tg : Expr} {vs : List Nat}
theorem wipeR_some {r : List SV} {j : Nat} {x : SV} (h : (wipeR r vs)[j]? = some x) (hx : x ≠ .no) : r[j]? = some x ∧ j ∉ vs := by
  rw [wipeR_get] at h
  by_cases hj : j ∈ vs
  · rw [if_pos hj] at h
    cases q : r[j]? with
    | none => rw [q] at h; cases h
    | some y => rw [q] at h; cases h; exact absurd rfl hx
  · rw [if_neg hj] at h
    exact ⟨h, hj⟩
theorem Rel.wipe (R : Rel P G σ H s) : Rel P G (L2.wipe σ vs) H { s with r := wipeR s.r vs } := by
  have keep : ∀ {j : Nat}, j ∉ vs → (L2.wipe σ vs)[j]? = σ[j]? := fun {j} h => by rw [wipe_get, if_neg h]
  refine ⟨by rw [wipe_length, R.len]; exact wipeR_length.symm, fun j d h => ?_, fun j d h => ?_, fun j l d e hjl h h' => ?_, fun j h => ?_, R.bx, R.nb, R.fr, R.pr, R.bF, R.tb⟩
  · obtain ⟨h1, h2⟩ := wipeR_some h (by simp)
    rw [keep h2]
    exact R.dat j d h1
  · obtain ⟨h1, h2⟩ := wipeR_some h (by simp)
    rw [keep h2]
    exact R.own j d h1
  · obtain ⟨h1, h2⟩ := wipeR_some h (by simp)
    obtain ⟨h3, h4⟩ := wipeR_some h' (by simp)
    rw [keep h2, keep h4]
    exact R.sep j l d e hjl h1 h3
  · obtain ⟨h1, h2⟩ := wipeR_some h (by simp)
    rw [keep h2]
    exact R.box j h1
theorem Rel.back {G0 : Gh} {H0 : Hp} {s0 : Sx} (R0 : Rel P G0 σ H0 s0) (x : Ext P G0 H0 G H) (R : Rel P G (L2.wipe σ vs) H { s with r := wipeR s.r vs }) : Rel P G σ H { s with r := backR s0.r s.r vs } := by
  have up : ∀ {j : Nat} {y : SV}, (backR s0.r s.r vs)[j]? = some y → y ≠ .no → (j ∈ vs ∧ (∃ d, y = .dat d ∧ s0.r[j]? = some (.dat d))) ∨ (j ∉ vs ∧ (wipeR s.r vs)[j]? = some y) := fun {j y} h hy => by
    rw [backR_get] at h
    by_cases hj : j ∈ vs
    · rw [if_pos hj] at h
      cases q : s.r[j]? with
      | none => rw [q] at h; cases h
      | some z =>
        rw [q] at h
        cases h
        cases q2 : s0.r.getD j .no with
        | dat d => exact .inl ⟨hj, d, rfl, getD_of q2 (by simp)⟩
        | no => rw [q2] at hy; exact absurd rfl hy
        | own d => rw [q2] at hy; exact absurd rfl hy
        | box => rw [q2] at hy; exact absurd rfl hy
    · rw [if_neg hj] at h
      exact .inr ⟨hj, by rw [wipeR_get, if_neg hj]; exact h⟩
  have keep : ∀ {j : Nat}, j ∉ vs → (L2.wipe σ vs)[j]? = σ[j]? := fun {j} h => by rw [wipe_get, if_neg h]
  refine ⟨?_, fun j d h => ?_, fun j d h => ?_, fun j l d e hjl h h' => ?_, fun j h => ?_, R.bx, R.nb, R.fr, R.pr, R.bF, R.tb⟩
  · have := R.len
    rw [wipe_length] at this
    show σ.length = (backR s0.r s.r vs).length
    rw [backR_length, this]
    exact wipeR_length
  · rcases up h (by simp) with ⟨_, d', e, q⟩ | ⟨hj, q⟩
    · cases e
      obtain ⟨v, h1, h2⟩ := R0.dat j d q
      exact ⟨v, h1, h2.ext x⟩
    · rw [← keep hj]
      exact R.dat j d q
  · rcases up h (by simp) with ⟨_, d', e, q⟩ | ⟨hj, q⟩
    · cases e
    · rw [← keep hj]
      exact R.own j d q
  · rcases up h (by simp) with ⟨_, d', e, q⟩ | ⟨hj, q⟩
    · cases e
    · rcases up h' (by simp) with ⟨_, d', e, q'⟩ | ⟨hj', q'⟩
      · cases e
      · rw [← keep hj, ← keep hj']
        exact R.sep j l d e hjl q q'
  · rcases up h (by simp) with ⟨_, d', e, q⟩ | ⟨hj, q⟩
    · cases e
    · rw [← keep hj]
      exact R.box j q
theorem sgw_name {i : Nat} {x : Str} {pos : Pos} (hv : i ∈ vs) (C : Cok X k) (hi : X.N[i]? = some x) (hx : Loc X.env.scope x) (hf : X.fn x = true ∨ X.env.scope.names.lookup x = some .local := by first | exact .inl rfl | exact .inr rfl | assumption) : SdGw X W vs (.Name x pos) (tgName i) := by
  refine ⟨_, pg_name C.nd hi hx hf, ?_⟩
  intro P G σ H s v d Q R r hw
  exact hw G _ H .refl (R.setDat i r) (wipe_set hv)
end
end TW
set_option linter.all false
set_option Elab.async false
namespace TW
open PySem L2
section
variable {P : Addr → Prop} {G G' : Gh} {σ : L2.St} {H H' : Hp} {s s' : Sx} {v : V} {o : Opd} {W : Wish} {X : Cx} {k : Nat} {tg : Expr} {vs : List Nat}
theorem Rel.write {D : Addr} {u : HO} (R : Rel P G σ H s) (hD : H D ≠ none) (hF : ¬ G.F D) (hb : D ∉ G.bs) (ho : ∀ (i : Nat) d, s.r[i]? = some (SV.own d) → σ[i]? ≠ some (some (V.ref D))) (hc : Calm (H D) := by first | (rw [upd_same]; exact calm_lst) | (rw [upd_same]; exact calm_dK) | (rw [upd_same]; exact calm_dT)) : Rel P G σ (upd H D u) s := by
  have kF : ∀ b, G.F b → upd H D u b = H b := fun b h => upd_ne fun z => hF (by rw [← z]; exact h)
  have up : ∀ b, H b ≠ none → upd H D u b ≠ none := fun b h => by
    by_cases e : b = D
    · rw [e, upd_same]; simp
    · rw [upd_ne e]; exact h
  refine ⟨R.len, fun i d e => ?_, fun i d e => ?_, R.sep, R.box, fun b e => ?_, R.nb, fun b h => up b (R.fr b h), fun b h => up b (R.pr b h), fun b h => ⟨(R.bF b h).1, (R.bF b h).2.1, up b (R.bF b h).2.2⟩, R.tb.upd hc⟩
  · obtain ⟨v, h1, h2⟩ := R.dat i d e
    exact ⟨v, h1, h2.mono (fun _ h => h) kF⟩
  · obtain ⟨b, h1, h2, h3⟩ := R.own i d e
    have nb : b ≠ D := fun z => ho i d e (by rw [h1, z])
    exact ⟨b, h1, h2.mono (fun _ h => h) kF (upd_ne nb), h3⟩
  · refine (R.bx b e).stay ?_
    have q : ∀ c u', c ∈ G.bs → H c = some u' → upd H D u c = some u' := fun c u' hc h => by
      rw [upd_ne (fun z => hb (by rw [← z]; exact hc))]; exact h
    exact q
theorem Ext.write {D : Addr} {u : HO} (hF : ¬ G.F D) (hP : ¬ P D) : Ext P G H G (upd H D u) :=
  ⟨fun _ h => h, fun b h => .inl (upd_ne fun z => hF (by rw [← z]; exact h)), fun b h _ => upd_ne fun z => hP (by rw [← z]; exact h), fun _ h => .inl h, fun _ => rfl, fun _ h => .inl h⟩
def also (P : Addr → Prop) (D : Addr) : Addr → Prop := fun a => P a ∨ a = D
theorem Rel.also {D : Addr} (R : Rel P G σ H s) (hD : H D ≠ none) (f : Free P G σ s D) (hc : Calm (H D) := by first | (rw [upd_same]; exact calm_lst) | (rw [upd_same]; exact calm_dK) | (rw [upd_same]; exact calm_dT)) : Rel (TW.also P D) G σ H s := by
  refine ⟨R.len, R.dat, fun i d e => ?_, R.sep, R.box, R.bx, R.nb, R.fr, fun b h => h.elim (R.pr b) fun z => by rw [z]; exact hD, fun b h => ⟨(R.bF b h).1, fun z => z.elim (R.bF b h).2.1 fun z => f.b (by rw [← z]; exact h), (R.bF b h).2.2⟩, R.tb.addP (R.tb.not hc)⟩
  obtain ⟨a, h1, h2, h3, h4, h5⟩ := R.own i d e
  exact ⟨a, h1, h2, h3, fun z => z.elim h4 fun z => f.o i d e (by rw [h1, z]), h5⟩
theorem Ext.less {D : Addr} (x : Ext (TW.also P D) G H G' H') : Ext P G H G' H' := ⟨x.F, x.kF, fun a h => x.kP a (.inl h), fun a h => (x.new a h).elim .inl fun z => .inr (z.imp (fun z q => z (.inl q)) id), x.bs, fun a h => (x.bn a h).elim .inl fun z => .inr fun q => z (.inl q)⟩
theorem Rel.less {D : Addr} (R : Rel (TW.also P D) G σ H s) : Rel P G σ H s :=
  ⟨R.len, R.dat, fun i d e => let ⟨a, h1, h2, h3, h4, h5⟩ := R.own i d e; ⟨a, h1, h2, h3, fun z => h4 (.inl z), h5⟩, R.sep, R.box, R.bx, R.nb, R.fr, fun a h => R.pr a (.inl h), fun b h => ⟨(R.bF b h).1, fun z => (R.bF b h).2.1 (.inl z), (R.bF b h).2.2⟩, R.tb.lessP fun _ h => .inl h⟩
theorem cl_cmp {wi : TI} {mi : M (List PyData)} {t : PyData → M Unit} {c : M Bool} {e : M Opd} (ci : ClI W wi mi) : ClN W (tLc wi (rdG Wish.no t vs) (rdT Wish.no c) (rdE Wish.no e) vs) (nCmp vs mi t c e) := by
  intro P G σ H s Q R hw
  unfold nCmp at hw
  rw [pw_bind] at hw
  refine ci P G σ H s _ R (pw_mono hw (fun ds s1 h G1 H1 J x1 R1 ok => ?_) fun _ h => h)
  have h1 : pw (noX (cmpL vs t c e [] ds) >>= fun xs => (do backS s1.r vs; pure (.list xs) : M PyData)) s1 (PostN P σ Q G H) (W.w P G H) := h
  rw [pw_bind] at h1
  have h2 := pw_noX (W.stuck P G H) h1
  intro D hD
  obtain ⟨xD, RD, owD, fD⟩ := R1.layOwn (xs := []) (ds := []) hD .nil
  have hD1 : upd H1 D (.lst []) D ≠ none := by rw [upd_same]; simp
  have RP := RD.also hD1 fD
  refine ⟨fun i m H' => ∃ G' s' acc accV, Ext P G1 H1 G' H' ∧ Rel (also P D) G' (L2.wipe σ vs) H' { s' with r := wipeR s'.r vs } ∧ ¬ G'.F D ∧ H' D = some (.lst accV) ∧ FzA G'.F H' accV acc ∧ i + m = ds.length ∧
      pw (cmpL vs t c e acc (ds.drop i)) s' (fun xs s2 => pw (do backS s1.r vs; pure (.list xs) : M PyData) s2 (PostN P σ Q G H) (W.w P G H)) (fun _ => False),
    ⟨ds.length, G1, s1, [], [], xD, RP.wipe, fD.f, upd_same, .nil, Nat.zero_add _, h2⟩, ?_⟩
  rintro i m H2 ⟨G2, s2, acc, accV, x2, R2, nF2, eD2, r2, em, hw2⟩
  have nb : ∀ {G' : Gh} {σ' : L2.St} {H' : Hp} {s' : Sx}, Rel (also P D) G' σ' H' s' → D ∉ G'.bs := fun R' z => (R'.bF D z).2.1 (.inr rfl)
  have no : ∀ {G' : Gh} {σ' : L2.St} {H' : Hp} {s' : Sx}, Rel (also P D) G' σ' H' s' → ∀ (i : Nat) d, s'.r[i]? = some (SV.own d) → σ'[i]? ≠ some (some (V.ref D)) := fun R' j d e z => by
    obtain ⟨a, h1, _, _, h4, _⟩ := R'.own j d e
    rw [z] at h1
    cases h1
    exact h4 (.inr rfl)
  obtain ⟨go, stop⟩ := ok (also P D) G2 (L2.wipe σ vs) H2 _ x2 R2
  by_cases hi : i < ds.length
  · obtain ⟨g1, yl⟩ := go i ds[i] (List.getElem?_eq_getElem hi)
    refine .inr ⟨g1, fun H' => ∃ G' s' acc accV, Ext P G1 H1 G' H' ∧ Rel (also P D) G' (L2.wipe σ vs) H' { s' with r := wipeR s'.r vs } ∧ ¬ G'.F D ∧ H' D = some (.lst accV) ∧ FzA G'.F H' accV acc ∧
      pw (cmpL vs t c e acc (ds.drop (i + 1))) s' (fun xs s2 => pw (do backS s1.r vs; pure (.list xs) : M PyData) s2 (PostN P σ Q G H) (W.w P G H)) (fun _ => False),
      fun H' ⟨G', s', acc', accV', y1, y2, y3, y4, y5, y6⟩ => ⟨m - 1, by omega, G', s', acc', accV', y1, y2, y3, y4, y5, by omega, y6⟩, fun y H3 hy => ?_⟩
    obtain ⟨G3, x3, R3, f3⟩ := yl y H3 hy
    rw [List.drop_eq_getElem_cons hi] at hw2
    have nF : ∀ {G' : Gh} {H' : Hp}, Ext (also P D) G2 H2 G' H' → ¬ G'.F D := fun x z => x.nF z nF2 (.inr rfl) eD2 fun _ h => nomatch h
    have eD : ∀ {G' : Gh} {H' : Hp}, Ext (also P D) G2 H2 G' H' → H' D = some (.lst accV) := fun x => (x.kP D (.inr rfl) nF2).trans eD2
    have hw3 : pw (t ds[i] >>= fun _ => (do
        let b ← c
        if b = true then (do
          let o ← e
          let x ← take o
          if acc.length < lim then cmpL vs t c e (acc ++ [x]) (ds.drop (i + 1)) else stuck)
        else cmpL vs t c e acc (ds.drop (i + 1)) : M (List PyData))) { s2 with r := wipeR s2.r vs } (fun xs s2 => pw (do backS s1.r vs; pure (.list xs) : M PyData) s2 (PostN P σ Q G H) (W.w P G H)) (fun _ => False) := hw2
    rw [pw_bind] at hw3
    refine ⟨also P D, G3, _, ds[i], R3, f3, pw_mono hw3 (fun _ s4 h4 G4 σ4 H4 x4 R4 ew => ?_) fun _ h => h⟩
    rw [wipe_wipe] at ew
    refine ⟨ew, also P D, G4, s4, R4, ?_⟩
    rw [pw_bind] at h4
    refine pw_mono h4 (fun b s5 h5 G5 H5 x5 R5 => ?_) fun _ h => h
    have x25 := (x3.trans x4).trans x5
    have fin : ∀ {G' : Gh} {H' : Hp} {s' : Sx}, Ext (also P D) G5 H5 G' H' → Rel (also P D) G' σ4 H' s' → Rel (also P D) G' (L2.wipe σ vs) H' { s' with r := wipeR s'.r vs } := fun _ R' => by
      rw [← ew]
      exact R'.wipe
    cases b with
    | false =>
      have h5 : pw (cmpL vs t c e acc (ds.drop (i + 1))) s5 _ _ := h5
      exact ⟨G5, s5, acc, accV, x2.trans x25.less, fin .refl R5, nF x25, eD x25, r2.ext x25, h5⟩
    | true =>
      have h5 : pw (e >>= fun o => (do
          let x ← take o
          if acc.length < lim then cmpL vs t c e (acc ++ [x]) (ds.drop (i + 1)) else stuck : M (List PyData))) s5 (fun xs s2 => pw (do backS s1.r vs; pure (.list xs) : M PyData) s2 (PostN P σ Q G H) (W.w P G H)) (fun _ => False) := h5
      rw [pw_bind] at h5
      refine ⟨also P D, G5, s5, R5, pw_mono h5 (fun o s6 h6 G6 w6 H6 x6 R6 r6 => ?_) fun _ h => h⟩
      obtain ⟨G7, s7, d7, x7, R7, f7, h7⟩ := take_ok (W := Wish.no) (P := also P D) (Qp := fun _ _ xs s2 => pw (do backS s1.r vs; pure (.list xs) : M PyData) s2 (PostN P σ Q G H) (W.w P G H)) (fun _ _ _ _ _ _ _ h => h) R6 r6 h6
      have x27 := (x25.trans x6).trans x7
      split at h7
      · rename_i hl
        have eD7 := eD x27
        refine ⟨accV, eD7, by rw [r2.length]; exact Nat.lt_of_lt_of_le hl (lim_line (Nat.le_refl _)), G7, s7, acc ++ [d7], accV ++ [w6], ?_, ?_, nF x27, upd_same, ?_, h7⟩
        · exact (x2.trans x27.less).trans (Ext.write (nF x27) fun z => fD.p z)
        · have R8 := fin (x6.trans x7) R7
          exact R8.write (by rw [eD7]; simp) (nF x27) (nb R7) (no R8) (by rw [eD7]; exact calm_lst)
        · have kF : ∀ b, G7.F b → upd H6 D (.lst (accV ++ [w6])) b = H6 b := fun b h => upd_ne fun z => nF x27 (by rw [← z]; exact h)
          exact ((r2.ext x27).append (.cons f7 .nil)).mono (fun _ h => h) kF
      · exact h7.elim
  · have e : i = ds.length := by omega
    subst e
    rw [List.drop_length] at hw2
    refine .inl ⟨stop, ?_⟩
    have hw3 : PostN P σ Q G H (.list acc) { s2 with r := backR s1.r s2.r vs } := hw2
    have R3 := Rel.back R1 x2 R2.less
    refine hw3 G2 D H2 (x1.trans x2) R3 ⟨accV, eD2, r2⟩ ⟨nF2, fD.p, nb R2, fun j d ej z => ?_⟩
    -- D is no slot's own
    have ej' : (backR s1.r s2.r vs)[j]? = some (SV.own d) := ej
    rw [backR_get] at ej'
    by_cases hj : j ∈ vs
    · rw [if_pos hj] at ej'
      cases q : s2.r[j]? with
      | none => rw [q] at ej'; cases ej'
      | some z' =>
        rw [q] at ej'
        have : keepD (s1.r.getD j .no) = SV.own d := Option.some.inj ej'
        cases q2 : s1.r.getD j .no <;> rw [q2] at this <;> cases this
    · rw [if_neg hj] at ej'
      exact no R2 j d (by show (wipeR s2.r vs)[j]? = _; rw [wipeR_get, if_neg hj]; exact ej') (by rw [wipe_get, if_neg hj]; exact z)
end
end TW
set_option linter.all false
set_option Elab.async false
namespace TW
open PySem L2
section
variable {P : Addr → Prop} {G G' : Gh} {σ : L2.St} {H H' : Hp} {s s' : Sx} {v : V} {o : Opd} {W : Wish} {X : Cx} {k : Nat} {tg : Expr} {vs : List Nat}
theorem Cok.blk (C : Cok X k) (s : Shared) (H : Hp) (scope : Scope) (ce : Env) (fp : List Addr) : Cok (X.blk s H scope ce fp) k := ⟨C.calm, C.nd, C.room, C.gd, C.sm⟩
section
variable {elt iter : Expr} {ifs : List Expr} {scope : Scope} {own : List (Str × Nat)} {pos : Pos} {mi : M (List PyData)} {t : PyData → M Unit} {c : M Bool} {e : M Opd}
theorem sn_cmp (own : List (Str × Nat)) (C : Cok X k) (hi : SdI X W tg iter mi) (ok : BlkOk X.N X.env.scope scope own)
    (hg : ∀ (s : Shared) (H : Hp) (D : Addr) (cl : List (Str × Addr)) (fp : List Addr), SdGw (X.blk s H scope (compEnvC scope cl D X.env) fp) Wish.no (own.map (·.2)) tg t)
    (ht : ∀ (s : Shared) (H : Hp) (D : Addr) (cl : List (Str × Addr)) (fp : List Addr), SdTs (X.blk s H scope (compEnvC scope cl D X.env) fp) Wish.no ifs c)
    (he : ∀ (s : Shared) (H : Hp) (D : Addr) (cl : List (Str × Addr)) (fp : List Addr), Sd (X.blk s H scope (compEnvC scope cl D X.env) fp) Wish.no elt e)
    (hs : ∀ x, foldedSetIterable iter X.env x = pure x := by intro _; rfl) : SdN X W (.ListComp elt [⟨tg, iter, ifs, 0⟩] scope pos) (nCmp (own.map (·.2)) mi t c e) := by
  obtain ⟨wi, pi, ci⟩ := hi.ex
  exact ⟨_, pe_lc C.calm C.nd pi ok (fun s H D cl fp => (hg s H D cl fp).pg) (fun s H D cl fp => (ht s H D cl fp).pts) (fun s H D cl fp => (he s H D cl fp).pe) hs, cl_cmp ci⟩
theorem ss_cmp {i : Nat} {y : Str} {py spos : Pos} (own : List (Str × Nat)) (C : Cok X k) (hy : X.N[i]? = some y) (hyl : X.env.scope.names.lookup y = some .local)
    (hsw : swapsWith (.ListComp elt [⟨tg, iter, ifs, 0⟩] scope pos) (some (.Name y py)) spos.line X.env = pure true) (hi : SdI X W tg iter mi) (ok : BlkOk X.N X.env.scope scope own)
    (hg : ∀ (s : Shared) (H : Hp) (D : Addr) (cl : List (Str × Addr)) (fp : List Addr), SdGw (X.blk s H scope (compEnvC scope cl D X.env) fp) Wish.no (own.map (·.2)) tg t)
    (ht : ∀ (s : Shared) (H : Hp) (D : Addr) (cl : List (Str × Addr)) (fp : List Addr), SdTs (X.blk s H scope (compEnvC scope cl D X.env) fp) Wish.no ifs c)
    (he : ∀ (s : Shared) (H : Hp) (D : Addr) (cl : List (Str × Addr)) (fp : List Addr), Sd (X.blk s H scope (compEnvC scope cl D X.env) fp) Wish.no elt e)
    (hs : ∀ x, foldedSetIterable iter X.env x = pure x := by intro _; rfl) : SdS X W (.Assign [.Name y py] (.ListComp elt [⟨tg, iter, ifs, 0⟩] scope pos) spos) (sAsgN i (nCmp (own.map (·.2)) mi t c e)) := by
  obtain ⟨wi, pi, ci⟩ := hi.ex
  refine ⟨_, ps_setLc C.calm C.nd hy hyl hsw pi ok (fun s H D cl fp => (hg s H D cl fp).pg) (fun s H D cl fp => (ht s H D cl fp).pts) (fun s H D cl fp => (he s H D cl fp).pe) hs, ?_⟩
  intro P G σ H s D R hw
  unfold sAsgN at hw
  rw [pw_bind] at hw
  refine cl_cmp ci P G σ H s _ R (pw_mono hw (fun d s1 h G1 a H1 x1 R1 ow f => ?_) fun _ h => h)
  have h := pw_ext (m := (do setS i (.own d); pure .nx : M Fl)) PostS.mono x1 h
  exact h _ _ _ .refl (R1.setOwn i ow f)
end
theorem Rel.change {i : Nat} {a : Addr} {d d' : PyData} {u : HO} (R : Rel P G σ H s) (e : s.r[i]? = some (SV.own d)) (ha : σ[i]? = some (some (V.ref a))) (n : Ow G.F (upd H a u) a d') :
    Ext P G H G (upd H a u) ∧ Rel P G σ (upd H a u) { s with r := s.r.set i (.own d') } := by
  obtain ⟨b, h1, h2, h3, h4, h5⟩ := R.own i d e
  rw [ha] at h1
  cases h1
  have kF : ∀ b, G.F b → upd H a u b = H b := fun b h => upd_ne fun z => h3 (by rw [← z]; exact h)
  have up : ∀ b, H b ≠ none → upd H a u b ≠ none := fun b h => by
    by_cases e : b = a
    · rw [e, upd_same]; simp
    · rw [upd_ne e]; exact h
  refine ⟨Ext.write h3 h4, by rw [R.len]; simp, fun j x h => ?_, fun j x h => ?_, fun j l x y hjl h h' => ?_, fun j h => ?_, fun b e => ?_, R.nb, fun b h => up b (R.fr b h), fun b h => up b (R.pr b h), fun b h => ⟨(R.bF b h).1, (R.bF b h).2.1, up b (R.bF b h).2.2⟩, R.tb.upd h2.calm⟩
  · rcases set_get h with ⟨_, q, _⟩ | ⟨_, q⟩
    · cases q
    · obtain ⟨v, k1, k2⟩ := R.dat j x q
      exact ⟨v, k1, k2.mono (fun _ h => h) kF⟩
  · rcases set_get h with ⟨rfl, q, _⟩ | ⟨hj, q⟩
    · cases q
      exact ⟨a, ha, n, h3, h4, h5⟩
    · obtain ⟨b, k1, k2, k3⟩ := R.own j x q
      have nb : b ≠ a := fun z => R.sep j i x d hj q e (by rw [k1, ha, z])
      exact ⟨b, k1, k2.mono (fun _ h => h) kF (upd_ne nb), k3⟩
  · rcases set_get h with ⟨rfl, q, _⟩ | ⟨hj, q⟩
    · rcases set_get h' with ⟨rfl, q', _⟩ | ⟨hj', q'⟩
      · exact absurd rfl hjl
      · exact R.sep j l d y hjl e q'
    · rcases set_get h' with ⟨rfl, q', _⟩ | ⟨hj', q'⟩
      · exact R.sep j l x d hjl q e
      · exact R.sep j l x y hjl q q'
  · rcases set_get h with ⟨_, q, _⟩ | ⟨_, q⟩
    · cases q
    · exact R.box j q
  · exact (R.bx b e).stay fun c u' hc h => by
      rw [upd_ne (fun z => h5 (by rw [← z]; exact hc))]; exact h
def ownL (i : Nat) : M (List PyData) := do match ← getS i with
  | .own (.list ds) => pure ds
  | _ => stuck
theorem ownL_ok {α : Type} {i : Nat} {f : List PyData → M α} {Q : α → Sx → Prop} {E : Er → Prop} (R : Rel P G σ H s) (hE : ¬ E .stuck) (hw : pw (ownL i >>= f) s Q E) :
    ∃ ds a xs, s.r[i]? = some (SV.own (.list ds)) ∧ σ[i]? = some (some (V.ref a)) ∧ H a = some (.lst xs) ∧ FzA G.F H xs ds ∧ ¬ G.F a ∧ pw (f ds) s Q E := by
  unfold ownL at hw
  rw [pw_bind, pw_bind, pw_getS] at hw
  cases e : s.r.getD i .no with
  | no => rw [e] at hw; exact absurd hw hE
  | box => rw [e] at hw; exact absurd hw hE
  | dat d => rw [e] at hw; exact absurd hw hE
  | own d =>
    rw [e] at hw
    have e' := getD_of e (by simp)
    obtain ⟨a, h1, h2, h3, _⟩ := R.own i d e'
    cases d with
    | list ds =>
      obtain ⟨xs, h4, h5⟩ := h2
      exact ⟨ds, a, xs, e', h1, h4, h5, h3, hw⟩
    | none => exact h2.elim
    | bool _ => exact h2.elim
    | int _ => exact h2.elim
    | str _ => exact h2.elim
    | tuple _ => exact h2.elim
    | dict _ => exact absurd hw hE
def sApp (i : Nat) (e : M Opd) : M Fl := do let _ ← ownL i; let o ← e; let d ← take o; let ds ← ownL i; if ds.length < lim then (do setS i (.own (.list (ds ++ [d]))); pure .nx) else stuck
theorem ss_app {i : Nat} {x : Str} {p apos cpos pos : Pos} {e : Expr} {m : M Opd} (h : Sd X W e m) (hi : X.N[i]? = some x) (hv : Vis X.env.scope x)
    (hb : attributeBase (.Name x p) "append" X.env (eval (.Name x p) X.env) = eval (.Name x p) X.env := by rfl)
    (h1 : (((((backTo cpos (starEach (e :: []) X.env)).all fun x => !x.fst) && (backToKw cpos (keywordEach [] X.env)).all fun x => x.fst.isSome) && decide (((e :: []).length + ([] : List Keyword).length + if ([] : List Keyword).isEmpty = true then 0 else 1) < 30)) = true) := by rfl)
    (h2 : (apos.endLine == cpos.line) = true := by rfl) (h3 : starEach (e :: []) X.env = (false, eval e X.env) :: starEach [] X.env := by rfl) (h4 : ((backTo cpos (starEach [] X.env)).any fun x => x.fst) = false := by rfl)
    (hd : (x == ("__debug__" : Str)) = false := by decide) (hcd : (x == ("__classdict__" : Str)) = false := by decide) (hs : swapsWith (.Call (.Attribute (.Name x p) "append" apos) [e] [] cpos) none pos.line X.env = pure false := by rfl) :
    SdS X W (.Expr (.Call (.Attribute (.Name x p) "append" apos) [e] [] cpos) pos) (sApp i m) := by
  obtain ⟨te, pe, ce⟩ := h.ex
  refine ⟨_, ps_expr (pe_bm PySem.F.plainAttrs_list PySem.F.slot_list_append PySem.F.type_list_append mt_append (pe_var hi hv hd hcd) (pa_cons pe pa_nil h3) hb h1 h2 h3 h4) hs, ?_⟩
  intro P G σ H s D R hw
  unfold sApp at hw
  obtain ⟨ds, a, xs, e1, e2, e3, r, nF, hw1⟩ := ownL_ok R (W.stuck _ _ _) hw
  refine ⟨.ref a, e2, .inl ⟨rfl, xs, SqL.of e3⟩, ?_⟩
  refine ce.bind PostS.mono R hw1 fun o1 s1 G1 v1 H1 x1 R1 r1 hw2 => ?_
  obtain ⟨G2, s2, d, x2, R2, z, hw3⟩ := take_ok PostS.mono R1 r1 hw2
  obtain ⟨ds', a', xs', e1', e2', e3', r', nF', hw4⟩ := ownL_ok R2 (W.stuck _ _ _) hw3
  rw [e2] at e2'
  cases e2'
  split at hw4
  · rename_i hl
    refine ⟨a, xs', v1, rfl, rfl, e3', by rw [r'.length]; exact Nat.lt_of_lt_of_le hl (lim_line (Nat.le_refl _)), ?_⟩
    have kF : ∀ b, G2.F b → upd H1 a (.lst (xs' ++ [v1])) b = H1 b := fun b h => upd_ne fun w => nF' (by rw [← w]; exact h)
    obtain ⟨x3, R3⟩ := R2.change (u := .lst (xs' ++ [v1])) (d' := .list (ds' ++ [d])) e1' e2 ⟨_, upd_same, (r'.append (.cons z .nil)).mono (fun _ h => h) kF⟩
    exact hw4 _ _ _ x3 R3
  · exact absurd hw4 (W.stuck _ _ _)
def tgSet (i : Nat) (e : M Opd) (d : PyData) : M Unit := do let _ ← ownL i; let o ← e; let y ← peek o; let ds ← ownL i; match y with
  | .int j => (match ixN ds.length j with
    | some n => setS i (.own (.list (ds.set n d)))
    | none => stuck)
  | _ => stuck
def ePop (i : Nat) : M Opd := do let ds ← ownL i; match ds[ds.length - 1]? with
  | some d => (do setS i (.own (.list ds.dropLast)); pure (.val d))
  | none => stuck
@[irreducible] def i63 (j : Int) : Bool := decide (-(2 ^ 63) ≤ j) && decide (j < 2 ^ 63)
def ePopA (i : Nat) (e : M Opd) : M Opd := do let _ ← ownL i; let o ← e; let y ← peek o; let ds ← ownL i; match y with
  | .int j => if i63 j = true then (match seqIndex? j ds.length with
    | some n => (match ds[n]? with
      | some d => (do setS i (.own (.list (ds.eraseIdx n))); pure (.val d))
      | none => stuck)
    | none => stuck) else stuck
  | _ => stuck
theorem FzA.dropLast {F : Addr → Prop} {xs : List V} {ds : List PyData} (r : FzA F H xs ds) : FzA F H xs.dropLast ds.dropLast := by
  rw [List.dropLast_eq_take, List.dropLast_eq_take, r.length]
  exact r.take _
theorem FzA.eraseIdx {F : Addr → Prop} : ∀ {xs : List V} {ds : List PyData} (n : Nat), FzA F H xs ds → FzA F H (xs.eraseIdx n) (ds.eraseIdx n)
  | _, _, _, .nil => .nil
  | _, _, 0, .cons _ b => b
  | _, _, n + 1, .cons a b => .cons a (b.eraseIdx n)
end
end TW
set_option linter.all false
set_option Elab.async false
namespace TW
open PySem PySem.Spec PyProof.Rows L2
structure Fn (P : Program) (w : World) (K : PySem.W.Frag) (mg : Str → Option Value) (base : Heap) (k : Nat) (f : Addr) (fd : FuncData) (ps : List Str) (sp : Sp) : Prop where
  len : ∀ vs H Q E, sp vs H Q E → vs.length = ps.length
  run : ∀ (A : Around) (outer : List Env) (s : Shared) (H : Hp) (args : Args) (us : List Value) (vs : List V) (Q : VK) (E : XK), Room k A → A.guards = some [] → Env0 P w K mg base A outer s H → BindsTo s fd args (ps.zip us) → Vals vs us → sp vs H Q E →
    codeAny (model P w) A (.call (.ref f) args) (CR CX0 outer P w H s Q E) s
section
variable {P : Program} {w : World} {K : PySem.W.Frag} {mg : Str → Option Value} {base : Heap}
theorem Fn.mono {j k : Nat} {f : Addr} {fd : FuncData} {ps : List Str} {sp : Sp} (F : Fn P w K mg base j f fd ps sp) (h : j ≤ k) : Fn P w K mg base k f fd ps sp :=
  ⟨F.len, fun A outer s H args us vs Q E hr => F.run A outer s H args us vs Q E (hr.mono h)⟩
abbrev cxN (P : Program) (w : World) (K : PySem.W.Frag) (mg : Str → Option Value) (base : Heap) (N : List Str) (qual : Str) (scope : Scope) (f : Addr) (cd : Value) (A : Around) (outer : List Env) (s : Shared) (H : Hp) (E : XK) : Cx :=
  (cxOf CX0 P w K mg base N qual scope f cd A outer s H E).nox
theorem fn_mkC {k : Nat} {f : Addr} {fd : FuncData} {x qual : Str} {params : Arguments} {body : List Stmt} {scope : Scope} {dvs : List V} {kws : List (Str × V)} {N ps : List Str} {sp : Sp} (F : FunD K x qual params body scope dvs kws f fd) (S : FnScope N ps scope)
    (len : ∀ vs H Q E, sp vs H Q E → vs.length = ps.length)
    (hbody : ∀ (cdv : Value), fd.code = cdv → ∀ (A : Around) (outer : List Env) (s : Shared) (H : Hp) (vs : List V) (Q : VK) (E : XK), Room k (A.deeper (envOfC qual scope s.heap.objs.size f cdv)) → A.guards = some [] → sp vs H Q E →
      ∃ t, PSs (cxN P w K mg base N qual scope f cdv A outer s H E) body t ∧ t { nx := fun _ H' => Q .non H', rt := Q } (start N vs) H) : Fn P w K mg base (k + 1) f fd ps sp := by
  obtain ⟨oc, od, dV, kV, doc, pm, an, cdv, ct, osl, rfl, lk, hcd, _, _⟩ := F.ex
  refine ⟨len, fun A outer s H args us vs Q E hr hgd e0 hb r hsp => ?_⟩
  have keeps : ∀ b o, base.get? b = some o → s.heap.get? b = some o := fun b o e => (e0.bs b o e).1
  have KX : K.In s.heap := e0.mod.kin.keeps keeps
  have par : ∀ y ∈ ps.zip us, scope.names.lookup y.1 = some .local ∨ (scope.names.lookup y.1 = some .cell ∧ ((cellsFrom (s.heap.objs.size + 1) scope.names []).lookup y.1).isSome = true) := fun y hy => by
    rcases S.par y.1 (List.of_mem_zip (a := y.1) (b := y.2) hy).1 with q | q
    · exact .inl q
    · exact .inr ⟨q, PySem.W.cellsFrom_some _ _ _ (.inl q)⟩
  refine codeAny_call_function hr.depth (KX _ _ lk) rfl S.co S.gen rfl (PySem.W.codeRec_of KX hcd) (hb _ _ _ _ (wpAny_newFunctionEnv_cells S.kind par fun env he s1 x => ?_))
  subst he
  refine ⟨(e0.mod.nolimit.keeps keeps).keeps x.toInCall.keep, codeAny_func ?_⟩
  obtain ⟨t, ht, hq⟩ := hbody cdv rfl A outer s H vs Q E (hr.deeper _) hgd hsp
  have I : L2.Inv (cxOf CX0 P w K mg base N qual scope f cdv A outer s H E) [] (start N vs) H s1 := inv_start S hr.hd e0 (len _ _ _ _ hsp) r x
  refine wpAny_mono (ht.nox.run [] s1 (start N vs) H _ I hq) (fun fl s' hs => ?_) fun e s' hs => hs
  have close : ∀ {σ' : L2.St} {H' : Hp} {v : V} {u : Value}, L2.Inv (cxOf CX0 P w K mg base N qual scope f cdv A outer s H E) [] σ' H' s' → RelV v u → Q v H' → CE outer P w H s Q u s' :=
    fun J rv q => ⟨_, _, J.os, J.bare, J.base, J.hok, rv, q⟩
  cases fl with
  | ret u =>
    obtain ⟨v, σ', H', J, rv, q⟩ := hs
    exact close J rv q
  | next =>
    obtain ⟨σ', H', J, q⟩ := hs
    exact close (v := V.non) (u := Value.none) J rfl q
  | brk => exact (let ⟨_, _, _, q⟩ := hs; False.elim q)
  | cont => exact (let ⟨_, _, _, q⟩ := hs; False.elim q)
theorem fn_mk {k : Nat} {f : Addr} {fd : FuncData} {x qual : Str} {params : Arguments} {body : List Stmt} {scope : Scope} {dvs : List V} {kws : List (Str × V)} {N ps : List Str} {sp : Sp} (F : FunD K x qual params body scope dvs kws f fd) (S : FnScope N ps scope)
    (len : ∀ vs H Q E, sp vs H Q E → vs.length = ps.length)
    (hbody : ∀ (cdv : Value) (A : Around) (outer : List Env) (s : Shared) (H : Hp) (vs : List V) (Q : VK) (E : XK), Room k (A.deeper (envOfC qual scope s.heap.objs.size f cdv)) → A.guards = some [] → sp vs H Q E →
      ∃ t, PSs (cxN P w K mg base N qual scope f cdv A outer s H E) body t ∧ t { nx := fun _ H' => Q .non H', rt := Q } (start N vs) H) : Fn P w K mg base (k + 1) f fd ps sp :=
  fn_mkC F S len fun cdv _ => hbody cdv
end
abbrev Sem := List Arg → Option Bx → Except Er (PyData × Option Bx)
def argSV : Arg → SV
  | .dat d => .dat d
  | .box => .box
def runF (n : Nat) (body : M Fl) : Sem := fun as b => match body ⟨as.map argSV ++ List.replicate (n - as.length) .no, b⟩ with
  | .ok (.rt d, s') => .ok (d, s'.b)
  | .ok (.nx, s') => .ok (.none, s'.b)
  | .ok _ => .error .stuck
  | .error e => .error e
def AR1 (G : Gh) (H : Hp) (v : V) : Arg → Prop
  | .dat d => Fz G.F H v d
  | .box => ∃ x, G.bs.head? = some x ∧ v = .ref x
def AR (G : Gh) (H : Hp) : List V → List Arg → Prop := Paired (AR1 G H)
structure GB (G : Gh) (H : Hp) (b : Option Bx) : Prop where
  bx : ∀ b', b = some b' → BoxOk H G.bs b'
  nb : b = none → G.bs = []
  fr : ∀ a, G.F a → H a ≠ none
  bF : ∀ a ∈ G.bs, ¬ G.F a ∧ H a ≠ none
  tb : Tb (fun _ => False) G.F H
def prot (G : Gh) (H : Hp) : Addr → Prop := fun a => H a ≠ none ∧ a ∉ G.bs ∧ ¬ isTab a
def PostF (G : Gh) (H : Hp) (Q : VK) (r : Except Er (PyData × Option Bx)) : Prop := match r with
  | .ok (d, b') => ∀ G' v H', Ext (prot G H) G H G' H' → GB G' H' b' → Fz G'.F H' v d → Q v H'
  | .error _ => False
def spF (n : Nat) (F : Sem) : Sp := fun vs H Q _ => ∃ G as b, as.length = n ∧ AR G H vs as ∧ GB G H b ∧ PostF G H Q (F as b)
theorem AR.length {G : Gh} {H : Hp} {vs : List V} {as : List Arg} (h : AR G H vs as) : vs.length = as.length := Paired.length h
section
variable {P : Addr → Prop} {G G' : Gh} {σ : L2.St} {H H' : Hp} {s s' : Sx} {v : V} {o : Opd} {W : Wish} {X : Cx} {k : Nat}
theorem Rel.gb (R : Rel P G σ H s) : GB G H s.b := ⟨R.bx, R.nb, R.fr, fun a h => ⟨(R.bF a h).1, (R.bF a h).2.2⟩, R.tb.lessP fun _ z => z.elim⟩
theorem AR.get {vs : List V} {as : List Arg} (h : AR G H vs as) {i : Nat} {a : Arg} (e : as[i]? = some a) : ∃ v, vs[i]? = some v ∧ AR1 G H v a := by
  induction h generalizing i with
  | nil => simp at e
  | cons r rs ih =>
    cases i with
    | zero => simp at e; subst e; exact ⟨_, rfl, r⟩
    | succ i =>
      obtain ⟨v, h1, h2⟩ := ih (i := i) (by simpa using e)
      exact ⟨v, by simpa using h1, h2⟩
theorem Rel.start {n : Nat} {N : List Str} {vs : List V} {as : List Arg} {b : Option Bx} (hN : N.length = n) (hl : as.length ≤ n) (ha : AR G H vs as) (g : GB G H b) : Rel (prot G H) G (start N vs) H ⟨as.map argSV ++ List.replicate (n - as.length) .no, b⟩ := by
  have get : ∀ {i : Nat} {x : SV}, (as.map argSV ++ List.replicate (n - as.length) SV.no)[i]? = some x → x ≠ .no → ∃ a, as[i]? = some a ∧ x = argSV a := fun {i x} h hx => by
    by_cases hi : i < as.length
    · rw [List.getElem?_append_left (by simpa using hi), List.getElem?_map, List.getElem?_eq_getElem hi] at h
      exact ⟨as[i], List.getElem?_eq_getElem hi, (Option.some.inj h).symm⟩
    · rw [List.getElem?_append_right (by simpa using hi), List.getElem?_replicate] at h
      split at h <;> cases h
      exact absurd rfl hx
  have put : ∀ {i : Nat} {v : V}, vs[i]? = some v → (L2.start N vs)[i]? = some (some v) := fun {i v} h => by
    unfold L2.start
    have hi := (List.getElem?_eq_some_iff.mp h).1
    rw [List.getElem?_append_left (by simpa using hi), List.getElem?_map, h]
    rfl
  refine ⟨?_, fun i d e => ?_, fun i d e => ?_, fun i j d e hij h h' => ?_, fun i e => ?_, g.bx, g.nb, g.fr, fun a h => h.1, fun a h => ⟨(g.bF a h).1, fun z => z.2.1 h, (g.bF a h).2⟩, ⟨g.tb.t, fun a h => ⟨(g.tb.n a h).1, fun z => z.2.2 h⟩⟩⟩
  · unfold L2.start
    simp only [List.length_append, List.length_map, List.length_replicate]
    rw [ha.length, hN]
  · obtain ⟨a, h1, h2⟩ := get e (by simp)
    cases a with
    | box => cases h2
    | dat d' =>
      cases h2
      obtain ⟨v, h3, h4⟩ := ha.get h1
      exact ⟨v, put h3, h4⟩
  · obtain ⟨a, h1, h2⟩ := get e (by simp)
    cases a <;> cases h2
  · obtain ⟨a, h1, h2⟩ := get h (by simp)
    cases a <;> cases h2
  · obtain ⟨a, h1, h2⟩ := get e (by simp)
    cases a with
    | dat d' => cases h2
    | box =>
      obtain ⟨v, h3, x, h4, h5⟩ := ha.get h1
      exact ⟨x, h4, by rw [put h3, h5]⟩
theorem fn_of_bodyC {P : Program} {w : World} {K : PySem.W.Frag} {mg : Str → Option Value} {base : Heap} {f : Addr} {fd : FuncData} {x qual : Str} {params : Arguments} {body : List Stmt} {scope : Scope} {dvs : List V} {kws : List (Str × V)} {N ps : List Str} {m : M Fl} (n : Nat)
    (F : FunD K x qual params body scope dvs kws f fd) (S : FnScope N ps scope) (hsm : SmP base) (hn : N.length = n)
    (hb : ∀ (cdv : Value), fd.code = cdv → ∀ (A : Around) (outer : List Env) (s : Shared) (H : Hp) (E : XK), Cok (cxN P w K mg base N qual scope f cdv A outer s H E) k → SdB (cxN P w K mg base N qual scope f cdv A outer s H E) Wish.no body m) :
    Fn P w K mg base (k + 1) f fd ps (spF ps.length (runF n m)) := by
  refine fn_mkC F S (fun vs H Q E h => ?_) fun cdv hcd A outer s H vs Q E hr hgd h => ?_
  · obtain ⟨G, as, b, h1, h2, _⟩ := h
    rw [h2.length, h1]
  · obtain ⟨G, as, b, h1, h2, h3, h4⟩ := h
    obtain ⟨t, pt, ct⟩ := (hb cdv hcd A outer s H E ⟨rfl, S.nd, hr, hgd, hsm⟩).ex
    have hpl : ps.length ≤ n := by
      have := congrArg List.length S.pre
      rw [List.length_take] at this
      omega
    refine ⟨t, pt, ct (prot G H) G (L2.start N vs) H _ _ (Rel.start hn (by rw [h1]; exact hpl) h2 h3) ?_⟩
    unfold PostF runF at h4
    unfold pw
    cases q : m ⟨as.map argSV ++ List.replicate (n - as.length) .no, b⟩ with
    | error e => rw [q] at h4; exact h4
    | ok p =>
      obtain ⟨fl, s'⟩ := p
      rw [q] at h4
      cases fl with
      | nx => exact fun G' σ' H' x' R' => h4 G' .non H' x' R'.gb .non
      | rt d => exact fun G' σ' v H' x' R' z => h4 G' v H' x' R'.gb z
      | bk => exact h4.elim
      | ct => exact h4.elim
theorem fn_of_body {P : Program} {w : World} {K : PySem.W.Frag} {mg : Str → Option Value} {base : Heap} {f : Addr} {fd : FuncData} {x qual : Str} {params : Arguments} {body : List Stmt} {scope : Scope} {dvs : List V} {kws : List (Str × V)} {N ps : List Str} {m : M Fl} (n : Nat)
    (F : FunD K x qual params body scope dvs kws f fd) (S : FnScope N ps scope) (hsm : SmP base) (hn : N.length = n)
    (hb : ∀ (cdv : Value) (A : Around) (outer : List Env) (s : Shared) (H : Hp) (E : XK), Cok (cxN P w K mg base N qual scope f cdv A outer s H E) k → SdB (cxN P w K mg base N qual scope f cdv A outer s H E) Wish.no body m) :
    Fn P w K mg base (k + 1) f fd ps (spF ps.length (runF n m)) :=
  fn_of_bodyC n F S hsm hn fun cdv _ => hb cdv
theorem hand_ok {α : Type} {f : Arg → M α} {Qp : Gh → Hp → α → Sx → Prop} (hm : Mono P Qp) (R : Rel P G σ H s) (r : OR G σ H v o) (hw : pw (handO o >>= f) s (Qp G H) (W.w P G H)) :
    ∃ G' s' a, Ext P G H G' H ∧ Rel P G' σ H s' ∧ AR1 G' H v a ∧ pw (f a) s' (Qp G' H) (W.w P G' H) := by
  cases o with
  | val d => exact ⟨G, s, .dat d, .refl, R, r, hw⟩
  | slot i =>
    unfold handO at hw
    rw [pw_bind, pw_bind, pw_getS] at hw
    have r : σ[i]? = some (some v) := r
    cases e : s.r.getD i .no with
    | no => rw [e] at hw; exact absurd hw (W.stuck _ _ _)
    | box =>
      rw [e] at hw
      obtain ⟨x, h1, h2⟩ := R.box i (getD_of e (by simp))
      rw [r] at h2; cases h2
      exact ⟨G, s, .box, .refl, R, ⟨x, h1, rfl⟩, hw⟩
    | dat d =>
      rw [e] at hw
      obtain ⟨w, h1, h2⟩ := R.dat i d (getD_of e (by simp))
      rw [r] at h1; cases h1
      exact ⟨G, s, .dat d, .refl, R, h2, hw⟩
    | own d =>
      rw [e] at hw
      have e' := getD_of e (by simp)
      obtain ⟨a, h1, _⟩ := R.own i d e'
      rw [r] at h1; cases h1
      obtain ⟨x, R', z⟩ := R.own_to_dat e' r
      exact ⟨_, _, .dat d, x, R', z, pw_ext (s := { s with r := s.r.set i (.dat d) }) hm x hw⟩
theorem Ext.head {x : Addr} (y : Ext P G H G' H') (h : G.bs.head? = some x) : G'.bs.head? = some x := by
  rw [y.bs (fun e => by rw [e] at h; cases h)]
  exact h
theorem hands_ok {α : Type} {Qp : Gh → Hp → α → Sx → Prop} (hm : Mono P Qp) : ∀ {os : List Opd} {vs : List V} {f : List Arg → M α} {G : Gh} {s : Sx}, Rel P G σ H s → ORs G σ H vs os → pw (hands os >>= f) s (Qp G H) (W.w P G H) →
    ∃ G' s' as, Ext P G H G' H ∧ Rel P G' σ H s' ∧ AR G' H vs as ∧ pw (f as) s' (Qp G' H) (W.w P G' H)
  | [], _, f, _, _, R, r, hw => by
    cases r
    exact ⟨_, _, [], .refl, R, .nil, hw⟩
  | o :: os, _, f, _, _, R, r, hw => by
    cases r with
    | cons r1 r2 =>
      unfold hands at hw
      rw [pw_bind, pw_bind] at hw
      obtain ⟨G1, s1, d, x1, R1, z1, h1⟩ := hand_ok (f := fun d => do let ds ← hands os; f (d :: ds)) hm R r1 (by
        rw [pw_bind]
        refine pw_mono hw (fun d s1 h => ?_) fun _ h => h
        rw [pw_bind] at h ⊢
        exact pw_mono h (fun ds s2 h => h) fun _ h => h)
      obtain ⟨G2, s2, ds, x2, R2, z2, h2⟩ := hands_ok hm (f := fun ds => f (d :: ds)) R1 (ORs.ext x1 r2) h1
      refine ⟨G2, s2, d :: ds, x1.trans x2, R2, .cons ?_ z2, h2⟩
      cases d with
      | dat d => exact Fz.ext z1 x2
      | box => exact let ⟨y, h3, h4⟩ := z1; ⟨y, x2.head h3, h4⟩
def callF (n : Nat) (F : Sem) (as : List Arg) : M PyData := fun s => if as.length ≠ n then .error .stuck else match F as s.b with
  | .ok (d, b') => .ok (d, { s with b := b' })
  | .error _ => .error .stuck
def eCall (n : Nat) (F : Sem) (a : M (List Opd)) : M Opd := do let os ← a; let as ← hands os; let d ← callF n F as; pure (.val d)
theorem Rel.after {b' : Option Bx} (R : Rel P G σ H s) (x : Ext (prot G H) G H G' H') (g : GB G' H' b') : Ext P G H G' H' ∧ Rel P G' σ H' { s with b := b' } := by
  have up : ∀ a, P a → prot G H a := fun a h => ⟨R.pr a h, fun z => (R.bF a z).2.1 h, fun z => (R.tb.n a z).2 h⟩
  refine ⟨⟨x.F, x.kF, fun a h n => x.kP a (up a h) n, fun a h => (x.new a h).elim .inl fun z => .inr (z.imp (fun z q => z (up a q)) id), x.bs, fun a h => (x.bn a h).elim .inl fun z => .inr fun q => z (up a q)⟩, R.len, fun i d e => ?_, fun i d e => ?_, R.sep, fun i e => ?_, g.bx, g.nb, g.fr, fun a h => ?_, fun a h => ⟨(g.bF a h).1, ?_, (g.bF a h).2⟩, ⟨g.tb.t, fun a h => ⟨(g.tb.n a h).1, (R.tb.n a h).2⟩⟩⟩
  · obtain ⟨v, h1, h2⟩ := R.dat i d e
    exact ⟨v, h1, h2.sim x.F x.kF⟩
  · obtain ⟨a, h1, h2, h3, h4, h5⟩ := R.own i d e
    have pa : prot G H a := ⟨h2.tracked, h5, R.tb.not h2.calm⟩
    exact ⟨a, h1, h2.sim x.F x.kF (x.kP a pa h3), fun z => Ow.nF x z h3 pa h2, h4, fun z => (x.bn a z).elim h5 fun w => w pa⟩
  · obtain ⟨y, h1, h2⟩ := R.box i e
    exact ⟨y, x.head h1, h2⟩
  · by_cases z : G.F a
    · exact (x.kF a z).some (R.pr a h)
    · rw [x.kP a (up a h) z]
      exact R.pr a h
  · exact (x.bn a h).elim (fun z => (R.bF a z).2.1) fun z q => z (up a q)
theorem run_fn' {j : Nat} {f : Addr} {fd : FuncData} {ps : List Str} {sp : Sp} {pins : List (Addr × Obj)} {σ : L2.St} {H : Hp} {s : Shared} {Q : VK} {us : List Value} {vs : List V} (F : Fn X.prog X.w X.K X.mg X.base j f fd ps sp) (C : Cok X k) (hj : j ≤ k) (hb : Binds X.K fd ps [])
    (I : L2.Inv X pins σ H s) (r : Vals vs us) (h : sp vs H Q E0) : wpAny (model X.prog X.w) X.A (call (.ref f) us) (EP X pins σ Q) X.xe s := by
  have hl : us.length = ps.length := by rw [← r.length]; exact F.len _ _ _ _ h
  have bd : BindsTo s fd ⟨us, []⟩ (ps.zip us) := by
    have := hb s us I.kIn (by rw [List.append_nil]; exact hl)
    rwa [List.append_nil] at this
  refine wpAny_call (codeAny_mono (F.run X.A X.stack s H ⟨us, []⟩ us vs Q E0 (C.room.mono hj) C.gd I.env0 bd r h) fun res s' hq => ?_)
  cases res with
  | error e => exact False.elim hq
  | ok fl =>
    cases fl with
    | ret u => exact I.after hq
    | next => exact False.elim hq
    | brk => exact False.elim hq
    | cont => exact False.elim hq
theorem sd_call {F : Sem} {j : Nat} {f : Addr} {fd : FuncData} {ps : List Str} {x : Str} {p pos : Pos} {e : Expr} {es : List Expr} {ma : M (List Opd)} (C : Cok X k) (Fo : Fn X.prog X.w X.K X.mg X.base j f fd ps (spF ps.length F)) (hj : j ≤ k) (hg : Gl X x) (hm : X.mg x = some (.ref f))
    (hk : PySem.W.keepIn X.K (.ref f) = true) (hb : Binds X.K fd ps []) (ha : SdA X W (e :: es) ma) (hn : (e :: es).length = ps.length := by rfl) (hdb : (x == ("__debug__" : Str)) = false := by decide)
    (he : starEach (e :: es) X.env = (false, eval e X.env) :: starEach es X.env := by rfl) (hpl : (backTo pos (starEach es X.env)).any (·.1) = false := by rfl) : Sd X W (.Call (.Name x p) (e :: es) [] pos) (eCall ps.length F ma) := by
  obtain ⟨ta, pa, ca⟩ := ha.ex
  refine ⟨fun σ H Q => ta σ H fun vs H1 => spF ps.length F vs H1 Q E0, ⟨fun pins s σ H Q I h => wpAny_Call_Name_kw (ld_glob I hg hm ?_ hdb)⟩, ?_⟩
  · exact PySem.W.callWith_K (h₀ := X.base) I.ok.mod.kin hk (thn (pa.run pos pins s σ H _ I h) fun us s1 ⟨vs, H1, I1, r, q⟩ => ⟨I1.kIn, run_fn' (k := k) Fo C hj hb I1 r q⟩) he hpl
  · intro P G σ H s Q R hw
    unfold eCall at hw
    refine ca.bind PostV.mono R hw fun os s1 G1 vs H1 x1 R1 r1 hw1 => ?_
    obtain ⟨G2, s2, as, x2, R2, z, hw2⟩ := hands_ok PostV.mono R1 r1 hw1
    rw [pw_bind] at hw2
    unfold callF at hw2
    unfold pw at hw2
    by_cases hn2 : as.length = ps.length
    · cases q : F as s2.b with
      | error e => simp only [hn2, ne_eq, not_true_eq_false, if_false, q] at hw2; exact absurd hw2 (W.stuck _ _ _)
      | ok pr =>
        obtain ⟨d, b'⟩ := pr
        simp only [hn2, ne_eq, not_true_eq_false, if_false, q] at hw2
        refine ⟨G2, as, s2.b, hn2, z, R2.gb, ?_⟩
        rw [q]
        intro G' v H' x' g' fz
        obtain ⟨x3, R3⟩ := R2.after x' g'
        exact hw2 G' v H' x3 R3 fz
    · simp only [ne_eq, hn2, not_false_eq_true, if_true] at hw2
      exact absurd hw2 (W.stuck _ _ _)
end
end TW
set_option linter.all false
set_option Elab.async false
namespace TW
open PySem PySem.Spec PyProof.Rows L2
def drawL : List Int → Int → Option (Int × List Int)
  | [], _ => none
  | c :: r, n => if 0 < c then some (c.fmod n, c.fdiv n :: r) else drawL r n
def mixD (c t : Int) : Int :=
  let a := (c * 6364136223846793005 + t * 1442695040888963407).fmod 18446744073709551557
  ((a * (a / 4294967296 + 17)).fmod 18446744073709551557).fdiv 65536
def drawS (b : Bx) (n : Int) : Int := (mixD (b.small.getD ((b.turn + 1).fmod (b.small.length : Int)).toNat 0) (b.turn + 1)).fmod n
def drawV (b : Bx) (n : Int) : Int := match drawL b.great.reverse n with
  | some (d, _) => d
  | none => drawS b n
def drawB (b : Bx) (n : Int) : Bx := match drawL b.great.reverse n with
  | some (_, l) => { b with great := l.reverse }
  | none => { b with great := [], turn := b.turn + 1 }
def boxG (b : Bx) : Prop := b.small ≠ []
def drawF : Sem := fun as b => match as, b with
  | [.box, .dat (.int n)], some b => if 1 ≤ n ∧ n < 1073741824 ∧ b.small ≠ [] then .ok (.int (drawV b n), some (drawB b n)) else .error .stuck
  | _, _ => .error .stuck
theorem fmod_range {i n : Int} (h : 1 ≤ n) : 0 ≤ i.fmod n ∧ i.fmod n < n := ⟨Int.fmod_nonneg_of_pos i (by omega), Int.fmod_lt_of_pos i (by omega)⟩
theorem drawL_range {n : Int} (h : 1 ≤ n) : ∀ {l : List Int} {d : Int} {r : List Int}, drawL l n = some (d, r) → 0 ≤ d ∧ d < n
  | [], _, _, e => by cases e
  | c :: l, d, r, e => by
    unfold drawL at e
    split at e
    · cases e; exact fmod_range h
    · exact drawL_range h e
theorem drawV_range {b : Bx} {n : Int} (h : 1 ≤ n) : 0 ≤ drawV b n ∧ drawV b n < n := by
  unfold drawV
  split
  · rename_i d l e; exact drawL_range h e
  · exact fmod_range h
abbrev rIntC : List V → Hp → VK → Prop := fun xs H Q => (∃ i, xs = [V.int i] ∧ Q (V.int i) H) ∨ ∃ k, xs = [V.bl k] ∧ Q (V.int (if k then 1 else 0)) H
abbrev tI (t : TE) : TE := tCB rIntC (tCons t tNil)
abbrev tNg1 : TE := tUn (rU fun i => .int (-i)) (tC (.int 1))
abbrev tLast (K : PySem.W.Frag) : TE := tOp (rIx K) (tVar 2) tNg1
abbrev rMdN : R2 := rI (fun _ j => j ≠ 0) fun i j => .int (i.fmod j)
abbrev rFdN : R2 := rI CDivN fun i j => .int (i.fdiv j)
abbrev rMu : R2 := rI CMul fun i j => .int (i * j)
abbrev rAd : R2 := rI0 fun i j => .int (i + j)
abbrev tBx (x : Str) : TE := tDGet (tVar 0) (tC (.str x))
abbrev rLenQ (K : PySem.W.Frag) : List V → Hp → VK → Prop := fun xs H Q => ∃ p ys, xs = [.ref p] ∧ (SqL K H p ys ∨ SqT K H p ys) ∧ Q (.int ys.length) H
def tDrawW (K : PySem.W.Frag) : TS := tWhile (tB (tOp (rNeD K) (tVar 2) (tLst tNil)))
  (tSeq (tIfS (tB (tOp (rI0 fun i j => .bl (decide (j < i))) (tLast K) (tC (.int 0))))
      (tSeq (tAsg (tOp rMdN (tI (tLast K)) (tVar 1)) (gName 3))
        (tSeq (tAsg (tOp rFdN (tI (tLast K)) (tVar 1)) (gSub (tVar 2) tNg1 rSetL)) (tRet (tVar 3)))) tNext)
    (tDrop (tBM0 K "list" rPop (tVar 2))))
def tDrawE (K : PySem.W.Frag) : TS :=
  tSeq (sDPut (tVar 0) (tC (.str "turn")) (tOp rAd (tBx "turn") (tC (.int 1))))
    (tSeq (tAsg (tOp (rIx K) (tBx "small") (tOp rMdN (tI (tBx "turn")) (tCB (rLenQ K) (tCons (tBx "small") tNil)))) (gName 4))
      (tSeq (tAsg (tOp rAd (tOp rMu (tVar 4) (tC (.int 6364136223846793005))) (tOp rMu (tBx "turn") (tC (.int 1442695040888963407)))) (gName 5))
        (tSeq (tAsg (tOp rMdN (tI (tVar 5)) (tC (.int 18446744073709551557))) (gName 5))
          (tSeq (tAsg (tOp rMdN (tI (tOp rMu (tVar 5) (tOp rAd (tOp (rI CDivW fun i j => .int (i / j)) (tVar 5) (tC (.int 4294967296))) (tC (.int 17))))) (tC (.int 18446744073709551557))) (gName 5))
            (tRet (tOp rMdN (tI (tOp rFdN (tVar 5) (tC (.int 65536)))) (tVar 1)))))))
def tDraw (K : PySem.W.Frag) : TS := tSeq (tAsg (tBx "great") (gName 2)) (tSeq (tDrawW K) (tDrawE K))
structure Dr (G : Gh) (H0 : Hp) (x g m : Addr) (b : Bx) (gr : List Int) (t : Int) (H : Hp) : Prop where
  ext : Ext (prot G H0) G H0 G H
  hx : H x = some (.dK [(.inr "great", .ref g), (.inr "small", .ref m), (.inr "turn", .int t)])
  hg : H g = some (.lst (gr.map V.int))
  hm : H m = some (.lst (b.small.map V.int))
  tb : Tb (fun _ => False) G.F H
section
variable {G : Gh} {H0 H : Hp} {x g m : Addr} {b : Bx} {gr : List Int} {t : Int}
structure DrC (G : Gh) (H0 : Hp) (x g m : Addr) : Prop where
  gb : ∀ a, G.F a → H0 a ≠ none
  bF : ∀ a ∈ G.bs, ¬ G.F a
  bs : G.bs = [x, g, m]
  xg : x ≠ g
  xm : x ≠ m
  gm : g ≠ m
theorem Dr.fresh (C : DrC G H0 x g m) (d : Dr G H0 x g m b gr t H) {p : Addr} {u : HO} (hp : H p = none) : Dr G H0 x g m b gr t (upd H p u) := by
  have nx : p ≠ x := fun e => by rw [e, d.hx] at hp; cases hp
  have ng : p ≠ g := fun e => by rw [e, d.hg] at hp; cases hp
  have nm : p ≠ m := fun e => by rw [e, d.hm] at hp; cases hp
  have e := d.ext
  refine ⟨⟨fun _ h => h, fun a h => ?_, fun a h n => ?_, fun _ h => .inl h, fun _ => rfl, fun _ h => .inl h⟩, by rw [upd_ne nx.symm]; exact d.hx, by rw [upd_ne ng.symm]; exact d.hg, by rw [upd_ne nm.symm]; exact d.hm, d.tb.new hp⟩
  · have : a ≠ p := fun z => (e.kF a h).some (C.gb a h) (by rw [z]; exact hp)
    rw [upd_ne this]; exact e.kF a h
  · have : a ≠ p := fun z => by
      have := e.kP a h n
      rw [z, hp] at this
      exact h.1 (by rw [z]; exact this.symm)
    rw [upd_ne this]; exact e.kP a h n
theorem Dr.at_ (C : DrC G H0 x g m) (d : Dr G H0 x g m b gr t H) {p : Addr} {u : HO} (hp : p ∈ G.bs) : Ext (prot G H0) G H0 G (upd H p u) := by
  have e := d.ext
  refine ⟨fun _ h => h, fun a h => ?_, fun a h n => ?_, fun _ h => .inl h, fun _ => rfl, fun _ h => .inl h⟩
  · rw [upd_ne fun z => C.bF p hp (by rw [← z]; exact h)]; exact e.kF a h
  · rw [upd_ne fun z => h.2.1 (by rw [z]; exact hp)]; exact e.kP a h n
theorem Dr.setG (C : DrC G H0 x g m) (d : Dr G H0 x g m b gr t H) {gr' : List Int} : Dr G H0 x g m b gr' t (upd H g (.lst (gr'.map V.int))) :=
  ⟨d.at_ C (by rw [C.bs]; simp), by rw [upd_ne C.xg]; exact d.hx, upd_same, by rw [upd_ne C.gm.symm]; exact d.hm, d.tb.upd (by rw [d.hg]; exact calm_lst)⟩
theorem Dr.setT (C : DrC G H0 x g m) (d : Dr G H0 x g m b gr t H) {t' : Int} : Dr G H0 x g m b gr t' (upd H x (.dK [(.inr "great", .ref g), (.inr "small", .ref m), (.inr "turn", .int t')])) :=
  ⟨d.at_ C (by rw [C.bs]; simp), upd_same, by rw [upd_ne C.xg.symm]; exact d.hg, by rw [upd_ne C.xm.symm]; exact d.hm, d.tb.upd (by rw [d.hx]; exact calm_dK)⟩
theorem Dr.box (C : DrC G H0 x g m) (hb : b.small ≠ []) (d : Dr G H0 x g m b gr t H) : GB G H (some ⟨gr, b.small, t⟩) where
  bx := fun b' e => by
    cases e
    exact ⟨.inl ⟨hb, x, g, m, C.bs, C.xg, C.xm, C.gm, d.hx, d.hg, d.hm⟩⟩
  nb := fun e => by cases e
  fr := fun a h => (d.ext.kF a h).some (C.gb a h)
  bF := fun a h => ⟨C.bF a h, by
    rw [C.bs] at h
    simp at h
    rcases h with rfl | rfl | rfl
    · rw [d.hx]; simp
    · rw [d.hg]; simp
    · rw [d.hm]; simp⟩
  tb := d.tb
def bxK (g m : Addr) (t : Int) : List (Key × V) := [(.inr "great", .ref g), (.inr "small", .ref m), (.inr "turn", .int t)]
theorem Dr.get (d : Dr G H0 x g m b gr t H) {σ : L2.St} {y : Str} {v : V} {Q : VK} (h0 : σ[0]? = some (some (.ref x))) (hv : valV (bxK g m t) (.inr y) = some v) (q : Q v H) : tBx y σ H Q :=
  ⟨_, h0, x, v, rfl, by rw [← hv]; exact DGet.k (k := .inr y) (kvs := bxK g m t) d.hx, q⟩
theorem last_ok {K : PySem.W.Frag} {gr : List Int} {c : Int} {σ : L2.St} {Q : VK} (hg : H g = some (.lst ((gr ++ [c]).map V.int))) (h2 : σ[2]? = some (some (.ref g))) (q : Q (.int c) H) : tLast K σ H Q := by
  refine ⟨_, h2, 1, rfl, .inl ⟨g, _, -1, .int c, rfl, rfl, SqL.of hg, ?_, q⟩⟩
  rw [List.map_append]
  exact atI_last _ _
theorem canAll {f : PyData → Bool} (hf : ∀ d, f d = true → d.canLay0 = true ∧ d.depth = 0) : ∀ {l : List PyData}, l.all f = true → PyData.canLayAll0 l = true ∧ PyData.depthAll l = 0
  | [], _ => by simp [PyData.canLayAll0, PyData.depthAll]
  | d :: l, h => by
    rw [List.all_cons, Bool.and_eq_true] at h
    obtain ⟨a, b⟩ := hf d h.1
    obtain ⟨c, e⟩ := canAll hf h.2
    simp [PyData.canLayAll0, PyData.depthAll, a, b, c, e]
theorem shp_list {f : PyData → Bool} (hf : ∀ d, f d = true → d.canLay0 = true ∧ d.depth = 0) {l : List PyData} (h : l.all f = true) : shp (.list l) = true := by
  obtain ⟨a, b⟩ := canAll hf h
  unfold shp SeqAt.shaped
  simp [PyData.canLay0, PyData.depth, a, b]
def isI : PyData → Bool
  | .int _ => true
  | _ => false
theorem isI_ok (d : PyData) (h : isI d = true) : d.canLay0 = true ∧ d.depth = 0 := by
  cases d <;> first | (simp [PyData.canLay0, PyData.depth]; done) | (cases h; done)
theorem shp_ints (l : List Int) : SeqAt.shaped (.list (l.map PyData.int)) = true := shp_list isI_ok (by simp [isI])
theorem dp_ints {K : PySem.W.Frag} {l : List Int} (hg : H g = some (.lst (l.map V.int))) : Dp K H (.ref g) (.list (l.map PyData.int)) :=
  Ct.dp (G := ⟨fun _ => False, []⟩) (show Ct _ H (.ref g) (.list (l.map PyData.int)) from ⟨g, _, rfl, hg, FzA.of_ints⟩) (shp_ints l)
theorem eqv_nil (l : List PyData) : PyData.eqv (.list l) (.list []) = l.isEmpty := by
  cases l <;> simp [PyData.eqv, PyData.eqvAll]
theorem dp_nil {K : PySem.W.Frag} {p : Addr} : Dp K (upd H p (.lst [])) (.ref p) (.list []) :=
  dp_ints (l := []) (by rw [List.map_nil]; exact upd_same)
theorem drawE_ok {K : PySem.W.Frag} (C : DrC G H0 x g m) {n : Int} (hn : 1 ≤ n) (d : Dr G H0 x g m b gr t H) (hb : b.small ≠ []) {σ : L2.St} {D : Ends} {i4 i5 : Option V} (hσ : σ = [some (.ref x), some (.int n), some (.ref g), none, i4, i5])
    (q : ∀ H', Dr G H0 x g m b gr (t + 1) H' → D.rt (.int ((mixD (b.small.getD ((t + 1).fmod (b.small.length : Int)).toNat 0) (t + 1)).fmod n)) H') : tDrawE K D σ H := by
  subst hσ
  have e2 : valV (bxK g m t) (.inr "turn") = some (.int t) := rfl
  refine d.get rfl e2 ⟨t, 1, rfl, rfl, ?_⟩
  refine ⟨.ref x, rfl, x, upd H x (.dK (bxK g m (t + 1))), rfl, DPut.k (kvs := bxK g m t) (k := .inr "turn") d.hx (show 3 < sizeLine by rw [sizeLine_eq]; decide), ?_⟩
  have d1 : Dr G H0 x g m b gr (t + 1) (upd H x (.dK (bxK g m (t + 1)))) := d.setT C
  -- the cell
  have e3 : valV (bxK g m (t + 1)) (.inr "turn") = some (.int (t + 1)) := rfl
  have e4 : valV (bxK g m (t + 1)) (.inr "small") = some (.ref m) := rfl
  refine d1.get rfl e4 (d1.get rfl e3 (.inl ⟨_, rfl, ?_⟩))
  have hl : (b.small.length : Int) ≠ 0 := by
    have := List.length_pos_iff.mpr hb
    omega
  refine d1.get rfl e4 ⟨m, _, rfl, .inl (SqL.of d1.hm), ?_⟩
  refine ⟨_, _, rfl, rfl, by rw [List.length_map]; exact hl, ?_⟩
  have hr := fmod_range (i := t + 1) (n := (b.small.length : Int)) (by have := List.length_pos_iff.mpr hb; omega)
  have hj : ((t + 1).fmod (b.small.length : Int)).toNat < b.small.length := by omega
  refine .inl ⟨m, _, _, .int (b.small.getD ((t + 1).fmod (b.small.length : Int)).toNat 0), rfl, rfl, SqL.of d1.hm, ?_, ?_⟩
  · rw [List.length_map]
    have : (t + 1).fmod (b.small.length : Int) = (((t + 1).fmod (b.small.length : Int)).toNat : Nat) := by omega
    rw [this]
    refine atI_nat ?_
    rw [List.getElem?_map, List.getD_eq_getElem?_getD, Int.toNat_natCast, List.getElem?_eq_getElem hj]
    rfl
  generalize b.small.getD ((t + 1).fmod (b.small.length : Int)).toNat 0 = c at q ⊢
  -- the mixes
  refine ⟨_, rfl, c, 6364136223846793005, rfl, rfl, .inr (by decide), d1.get rfl e3 ⟨_, _, rfl, rfl, .inr (by decide), _, _, rfl, rfl, ?_⟩⟩
  refine ⟨_, rfl, .inl ⟨_, rfl, _, _, rfl, rfl, (by decide : (18446744073709551557 : Int) ≠ 0), ?_⟩⟩
  have h1 := fmod_range (i := c * 6364136223846793005 + (t + 1) * 1442695040888963407) (n := 18446744073709551557) (by decide)
  unfold mixD at q
  generalize ha : (c * 6364136223846793005 + (t + 1) * 1442695040888963407).fmod 18446744073709551557 = a at h1 q
  refine ⟨V.int a, congrArg (fun z => some (some (V.int z))) ha, V.int a, congrArg (fun z => some (some (V.int z))) ha, a, 4294967296, rfl, rfl, ⟨by decide, by decide +kernel⟩, _, _, rfl, rfl, a, _, rfl, rfl, .inl ⟨by omega, by omega⟩, .inl ⟨_, rfl, _, _, rfl, rfl, (by decide : (18446744073709551557 : Int) ≠ 0), ?_⟩⟩
  refine ⟨_, rfl, _, _, rfl, rfl, ⟨by decide, by decide⟩, .inl ⟨_, rfl, _, rfl, _, _, rfl, rfl, by omega, q _ d1⟩⟩
theorem rev_snoc {l : List Int} {c : Int} {r : List Int} (h : l.reverse = c :: r) : l = r.reverse ++ [c] := by
  have := congrArg List.reverse h
  rwa [List.reverse_reverse, List.reverse_cons] at this
theorem draw_ok {K : PySem.W.Frag} {vs : List V} {H : Hp} {Q : VK} {E : XK} (h : spF 2 drawF vs H Q E) : tDraw K { nx := fun _ H' => Q .non H', rt := Q } (start ["_law_box", "_law_many", "_law_great", "_law_digit", "_law_cell", "_law_mixed"] vs) H := by
  obtain ⟨G, as, b, hl, ha, gb, post⟩ := h
  have hd : ∃ n bx, as = [.box, .dat (.int n)] ∧ b = some bx ∧ (1 ≤ n ∧ n < 1073741824 ∧ bx.small ≠ []) := by
    unfold PostF drawF at post
    split at post
    · rename_i q
      split at q
      · rename_i n bx
        split at q
        · rename_i hc
          exact ⟨n, bx, rfl, rfl, hc⟩
        · cases q
      · cases q
    · exact post.elim
  obtain ⟨n, bx, rfl, rfl, hn, hn2, hs⟩ := hd
  have post : ∀ G' v H', Ext (prot G H) G H G' H' → GB G' H' (some (drawB bx n)) → Fz G'.F H' v (.int (drawV bx n)) → Q v H' := by
    have e : drawF [.box, .dat (.int n)] (some bx) = .ok (.int (drawV bx n), some (drawB bx n)) := by
      unfold drawF
      exact if_pos ⟨hn, hn2, hs⟩
    rw [e] at post
    exact post
  obtain ⟨_, x, g, m, hbs, xg, xm, gm, kx, kg, km⟩ := (gb.bx bx rfl).at_.resolve_right fun z => hs z.1
  have hvs : vs = [.ref x, .int n] := by
    cases ha with
    | cons a1 a2 =>
      cases a2 with
      | cons b1 b2 =>
        cases b2
        obtain ⟨y, hy, rfl⟩ := a1
        rw [hbs] at hy
        cases hy
        rw [Fz.int_inv b1]
  subst hvs
  have C : DrC G H x g m := ⟨gb.fr, fun a h => (gb.bF a h).1, hbs, xg, xm, gm⟩
  have d0 : Dr G H x g m bx bx.great bx.turn H := ⟨.refl, kx, kg, km, gb.tb⟩
  have e1 : valV (bxK g m bx.turn) (.inr "great") = some (.ref g) := rfl
  refine d0.get rfl e1 ?_
  refine ⟨fun k σ H' => ∃ gr, k = gr.length ∧ σ = [some (.ref x), some (.int n), some (.ref g), none, none, none] ∧ Dr G H x g m bx gr bx.turn H' ∧ drawL bx.great.reverse n = drawL gr.reverse n, ⟨_, bx.great, rfl, rfl, d0, rfl⟩, ?_⟩
  rintro k σ H1 ⟨gr, rfl, rfl, d1, hw⟩
  refine ⟨_, rfl, ⟨Nat.zero_le _, fun p hp => ?_⟩⟩
  have d2 := d1.fresh C hp (u := .lst [])
  refine ⟨_, _, dp_ints d2.hg, dp_nil, shp_ints _, shp_ints [], ?_⟩
  refine ⟨_, rfl, ?_⟩
  rw [eqv_nil]
  cases hgr : gr.reverse with
  | nil =>
    have : gr = [] := by simpa using hgr
    subst this
    refine drawE_ok (b := bx) C hn d2 hs rfl fun H' d3 => ?_
    have hx : drawL bx.great.reverse n = none := by rw [hw]; rfl
    refine post G _ H' d3.ext ?_ ?_
    · have : drawB bx n = ⟨[], bx.small, bx.turn + 1⟩ := by
        unfold drawB
        rw [hx]
      rw [this]
      exact d3.box C hs
    · have : drawV bx n = drawS bx n := by
        unfold drawV
        rw [hx]
      rw [this]
      exact .int _
  | cons c r =>
    have e := rev_snoc hgr
    subst e
    rw [hgr] at hw
    rw [if_pos (by simp)]
    refine ⟨fun σ' H' => ∃ gr', gr'.length < (r.reverse ++ [c]).length ∧ σ' = [some (.ref x), some (.int n), some (.ref g), none, none, none] ∧ Dr G H x g m bx gr' bx.turn H' ∧ drawL bx.great.reverse n = drawL gr'.reverse n, fun σ' H' ⟨gr', h1, h2, h3, h4⟩ => ⟨_, h1, gr', rfl, h2, h3, h4⟩, ?_⟩
    refine last_ok d2.hg rfl ⟨_, _, rfl, rfl, _, rfl, ?_⟩
    by_cases hc : 0 < c
    · dsimp only
      rw [if_pos (decide_eq_true hc)]
      have hx : drawL bx.great.reverse n = some (c.fmod n, c.fdiv n :: r) := by
        rw [hw]
        unfold drawL
        exact if_pos hc
      refine last_ok d2.hg rfl (.inl ⟨_, rfl, ?_⟩)
      refine ⟨_, rfl, _, _, rfl, rfl, by omega, ?_⟩
      refine last_ok (c := c) (gr := r.reverse) d2.hg rfl (.inl ⟨_, rfl, ?_⟩)
      refine ⟨_, rfl, _, _, rfl, rfl, ⟨by omega, by omega⟩, ?_⟩
      refine ⟨_, rfl, 1, rfl, g, _, -1, r.length, rfl, rfl, d2.hg, ?_, ?_⟩
      · unfold ixN
        rw [if_neg (by decide), if_pos (by simp; omega)]
        simp
        omega
      have d3 := d2.setG C (gr' := r.reverse ++ [c.fdiv n])
      refine ⟨_, rfl, ?_⟩
      have hset : ((r.reverse ++ [c]).map V.int).set r.length (V.int (c.fdiv n)) = (r.reverse ++ [c.fdiv n]).map V.int := by
        rw [List.map_append, List.map_append, List.set_append_right _ _ (by simp)]
        simp
      rw [hset]
      refine post G _ _ d3.ext ?_ ?_
      · have : drawB bx n = ⟨r.reverse ++ [c.fdiv n], bx.small, bx.turn⟩ := by
          unfold drawB
          rw [hx]
          simp
        rw [this]
        exact d3.box C hs
      · have : drawV bx n = c.fmod n := by
          unfold drawV
          rw [hx]
        rw [this]
        exact .int _
    · dsimp only
      rw [if_neg (by rw [decide_eq_false hc]; decide)]
      have hgl := d2.hg
      refine ⟨_, rfl, .inl ⟨rfl, _, SqL.of hgl⟩, g, _, .int c, rfl, rfl, hgl, ?_, ?_⟩
      · rw [List.map_append]
        simp
      have hdl : ((r.reverse ++ [c]).map V.int).dropLast = r.reverse.map V.int := by
        rw [List.map_append]
        simp
      rw [hdl]
      refine ⟨r.reverse, by simp, rfl, d2.setG C, ?_⟩
      rw [hw, List.reverse_reverse]
      conv => lhs; unfold drawL
      rw [if_neg hc]
end
end TW
set_option linter.all false
set_option Elab.async false
namespace TW
open PySem PySem.Spec PyProof.Rows L2
section
variable {α β : Type} {s : Sx} {E : Er → Prop}
theorem q_pure {a : α} {Q : α → Sx → Prop} : pw (Pure.pure a : M α) s Q E ↔ Q a s := Iff.rfl
theorem q_stuck {Q : α → Sx → Prop} : pw (stuck : M α) s Q E ↔ E .stuck := Iff.rfl
theorem q_optM {o : Option α} {Q : α → Sx → Prop} : pw (optM o) s Q E ↔ match o with
    | some a => Q a s
    | none => E .stuck := by
  cases o <;> exact Iff.rfl
theorem q_ite {c : Prop} [Decidable c] {a b : M α} {Q : α → Sx → Prop} : pw (if c then a else b) s Q E ↔ if c then pw a s Q E else pw b s Q E := by
  split <;> exact Iff.rfl
theorem q_getS {i : Nat} {Q : SV → Sx → Prop} : pw (getS i) s Q E ↔ Q (s.r.getD i .no) s := Iff.rfl
theorem q_setS {i : Nat} {v : SV} {Q : Unit → Sx → Prop} : pw (setS i v) s Q E ↔ Q () ⟨s.r.set i v, s.b⟩ := Iff.rfl
theorem q_slots {Q : List SV → Sx → Prop} : pw slots s Q E ↔ Q s.r s := Iff.rfl
theorem q_wipe {vs : List Nat} {Q : Unit → Sx → Prop} : pw (wipeS vs) s Q E ↔ Q () ⟨wipeR s.r vs, s.b⟩ := Iff.rfl
theorem q_back {old : List SV} {vs : List Nat} {Q : Unit → Sx → Prop} : pw (backS old vs) s Q E ↔ Q () ⟨backR old s.r vs, s.b⟩ := Iff.rfl
theorem q_eVar {i : Nat} {Q : Opd → Sx → Prop} : pw (eVar i) s Q E ↔ match s.r.getD i .no with
    | .no => E .stuck
    | _ => Q (.slot i) s := by
  unfold eVar
  rw [pw_bind, q_getS]
  cases s.r.getD i .no <;> exact Iff.rfl
theorem q_eC {d : PyData} {Q : Opd → Sx → Prop} : pw (eC d) s Q E ↔ Q (.val d) s := Iff.rfl
theorem q_peekV {d : PyData} {Q : PyData → Sx → Prop} : pw (peek (.val d)) s Q E ↔ Q d s := Iff.rfl
theorem q_peekS {i : Nat} {Q : PyData → Sx → Prop} : pw (peek (.slot i)) s Q E ↔ match s.r.getD i .no with
    | .dat d => Q d s
    | .own d => Q d s
    | _ => E .stuck := by
  unfold peek
  rw [pw_bind, q_getS]
  cases s.r.getD i .no <;> exact Iff.rfl
theorem q_takeV {d : PyData} {Q : PyData → Sx → Prop} : pw (take (.val d)) s Q E ↔ Q d s := Iff.rfl
theorem q_takeS {i : Nat} {Q : PyData → Sx → Prop} : pw (take (.slot i)) s Q E ↔ match s.r.getD i .no with
    | .dat d => Q d s
    | .own d => Q d ⟨s.r.set i (.dat d), s.b⟩
    | _ => E .stuck := by
  unfold take
  rw [pw_bind, q_getS]
  cases s.r.getD i .no <;> exact Iff.rfl
theorem q_handV {d : PyData} {Q : Arg → Sx → Prop} : pw (handO (.val d)) s Q E ↔ Q (.dat d) s := Iff.rfl
theorem q_handS {i : Nat} {Q : Arg → Sx → Prop} : pw (handO (.slot i)) s Q E ↔ match s.r.getD i .no with
    | .dat d => Q (.dat d) s
    | .own d => Q (.dat d) ⟨s.r.set i (.dat d), s.b⟩
    | .box => Q .box s
    | .no => E .stuck := by
  unfold handO
  rw [pw_bind, q_getS]
  cases s.r.getD i .no <;> exact Iff.rfl
theorem q_callF {n : Nat} {F : Sem} {as : List Arg} {Q : PyData → Sx → Prop} : pw (callF n F as) s Q E ↔ if as.length = n then (match F as s.b with
    | .ok (d, b) => Q d ⟨s.r, b⟩
    | .error _ => E .stuck) else E .stuck := by
  unfold pw callF
  by_cases h : as.length = n
  · rw [if_pos h, if_neg (by simp [h])]
    cases F as s.b with
    | ok p => exact Iff.rfl
    | error e => exact Iff.rfl
  · rw [if_neg h, if_pos h]
end
def Runs (F : Sem) (as : List Arg) (b : Option Bx) (Q : PyData → Option Bx → Prop) : Prop := ∃ d b', F as b = .ok (d, b') ∧ Q d b'
theorem runs_of {n : Nat} {body : M Fl} {as : List Arg} {b : Option Bx} {Q : PyData → Option Bx → Prop}
    (h : pw body ⟨as.map argSV ++ List.replicate (n - as.length) .no, b⟩ (fun f s => match f with
      | .rt d => Q d s.b
      | .nx => Q .none s.b
      | _ => False) fun _ => False) : Runs (runF n body) as b Q := by
  unfold pw at h
  unfold Runs runF
  cases q : body ⟨as.map argSV ++ List.replicate (n - as.length) .no, b⟩ with
  | error e => rw [q] at h; exact h.elim
  | ok p =>
    obtain ⟨f, s⟩ := p
    rw [q] at h
    cases f with
    | nx => exact ⟨_, _, rfl, h⟩
    | rt d => exact ⟨_, _, rfl, h⟩
    | bk => exact h.elim
    | ct => exact h.elim
theorem Runs.mono {F : Sem} {as : List Arg} {b : Option Bx} {Q Q' : PyData → Option Bx → Prop} (h : Runs F as b Q) (m : ∀ d b', Q d b' → Q' d b') : Runs F as b Q' :=
  let ⟨d, b', e, q⟩ := h; ⟨d, b', e, m d b' q⟩
section
variable {α β : Type} {s : Sx} {E : Er → Prop}
theorem q_callR {n : Nat} {F : Sem} {as : List Arg} {R : PyData → Option Bx → Prop} {Q : PyData → Sx → Prop} (h : Runs F as s.b R) (hl : as.length = n) (hq : ∀ d b, R d b → Q d ⟨s.r, b⟩) : pw (callF n F as) s Q E := by
  obtain ⟨d, b, e, r⟩ := h
  rw [q_callF, if_pos hl, e]
  exact hq d b r
theorem q_while {c : M Bool} {b : M Fl} {Q : Fl → Sx → Prop} (I : Nat → Sx → Prop) : ∀ {n : Nat} {s : Sx}, I n s →
    (∀ n s, I n s → pw c s (fun x s1 => if x = true then pw b s1 (fun f s2 => match f with
      | .bk => Q .nx s2
      | .rt v => Q (.rt v) s2
      | _ => ∃ m, m < n ∧ I m s2) E else Q .nx s1) E) → ∀ {N : Nat}, n < N → pw (whileL c b N) s Q E := by
  intro n s h hs N hN
  induction N generalizing n s with
  | zero => omega
  | succ N ih =>
    unfold whileL
    rw [pw_bind]
    refine pw_mono (hs n s h) (fun x s1 h1 => ?_) fun _ h => h
    cases x with
    | false => exact h1
    | true =>
      rw [if_pos rfl] at h1 ⊢
      rw [pw_bind]
      refine pw_mono h1 (fun f s2 h2 => ?_) fun _ h => h
      cases f with
      | bk => exact h2
      | rt v => exact h2
      | nx => exact let ⟨m, hm, h3⟩ := h2; ih h3 (by omega)
      | ct => exact let ⟨m, hm, h3⟩ := h2; ih h3 (by omega)
theorem q_cmpL {vs : List Nat} {t : PyData → M Unit} {c : M Bool} {e : M Opd} {Q : List PyData → Sx → Prop} (I : List PyData → List PyData → Sx → Prop) : ∀ {ds acc : List PyData} {s : Sx}, I acc ds s →
    (∀ acc d r s, I acc (d :: r) s → pw (t d) ⟨wipeR s.r vs, s.b⟩ (fun _ s1 => pw c s1 (fun b s2 => if b = true then pw (e >>= take) s2 (fun x s3 => acc.length < lim ∧ I (acc ++ [x]) r s3) E else I acc r s2) E) E) →
    (∀ acc s, I acc [] s → Q acc s) → pw (cmpL vs t c e acc ds) s Q E
  | [], acc, s, h, _, he => he acc s h
  | d :: ds, acc, s, h, hs, he => by
    unfold cmpL
    rw [pw_bind, q_wipe, pw_bind]
    refine pw_mono (hs acc d ds s h) (fun _ s1 h1 => ?_) fun _ h => h
    rw [pw_bind]
    refine pw_mono h1 (fun b s2 h2 => ?_) fun _ h => h
    cases b with
    | false => exact q_cmpL I h2 hs he
    | true =>
      rw [if_pos rfl] at h2 ⊢
      rw [pw_bind] at h2 ⊢
      refine pw_mono h2 (fun o s3 h3 => ?_) fun _ h => h
      rw [pw_bind]
      refine pw_mono h3 (fun x s4 h4 => ?_) fun _ h => h
      rw [if_pos h4.1]
      exact q_cmpL I h4.2 hs he
theorem q_noX {m : M α} {Q : α → Sx → Prop} (h : pw m s Q fun _ => False) : pw (noX m) s Q E := by
  unfold pw at h
  unfold pw noX
  cases q : m s with
  | ok p => rw [q] at h; exact h
  | error e => rw [q] at h; exact h.elim
theorem q_cmp {vs : List Nat} {mi : M (List PyData)} {t : PyData → M Unit} {c : M Bool} {e : M Opd} {Q : PyData → Sx → Prop}
    (h : pw mi s (fun ds s1 => ∃ I : List PyData → List PyData → Sx → Prop, I [] ds s1 ∧
      (∀ acc d r s, I acc (d :: r) s → pw (t d) ⟨wipeR s.r vs, s.b⟩ (fun _ s1 => pw c s1 (fun b s2 => if b = true then pw (e >>= take) s2 (fun x s3 => acc.length < lim ∧ I (acc ++ [x]) r s3) (fun _ => False) else I acc r s2) fun _ => False) fun _ => False) ∧
      (∀ acc s, I acc [] s → Q (.list acc) ⟨backR s1.r s.r vs, s.b⟩)) E) : pw (nCmp vs mi t c e) s Q E := by
  unfold nCmp
  rw [pw_bind]
  refine pw_mono h (fun ds s1 ⟨I, h0, hs, he⟩ => ?_) fun _ h => h
  rw [pw_bind, q_slots, pw_bind]
  refine q_noX (q_cmpL I h0 hs fun acc s2 h2 => ?_)
  rw [pw_bind, q_back]
  exact he acc s2 h2
theorem q_cmp_map {vs : List Nat} {mi : M (List PyData)} {t : PyData → M Unit} {c : M Bool} {e : M Opd} {Q : PyData → Sx → Prop} (r0 : List SV) (b0 : Option Bx) (f : PyData → Option PyData)
    (h : pw mi s (fun ds s1 => s1 = ⟨r0, b0⟩ ∧ ds.length ≤ lim ∧ (∀ d ∈ ds, pw (t d) ⟨wipeR r0 vs, b0⟩ (fun _ s1 => pw c s1 (fun b s2 => if b = true then pw (e >>= take) s2 (fun x s3 => f d = some x ∧ wipeR s3.r vs = wipeR r0 vs ∧ s3.b = b0) (fun _ => False) else f d = none ∧ wipeR s2.r vs = wipeR r0 vs ∧ s2.b = b0) fun _ => False) fun _ => False) ∧
      (∀ r1, (r1 = r0 ∨ wipeR r1 vs = wipeR r0 vs) → Q (.list (ds.filterMap f)) ⟨backR r0 r1 vs, b0⟩)) E) : pw (nCmp vs mi t c e) s Q E := by
  refine q_cmp (pw_mono h (fun ds s1 ⟨e1, hl, hs, he⟩ => ?_) fun _ h => h)
  subst e1
  refine ⟨fun acc r s => (∃ p, ds = p ++ r ∧ acc = p.filterMap f) ∧ (s.r = r0 ∨ wipeR s.r vs = wipeR r0 vs) ∧ s.b = b0, ⟨⟨[], rfl, rfl⟩, .inl rfl, rfl⟩, ?_, ?_⟩
  · rintro acc d r s2 ⟨⟨p, hp, rfl⟩, hw, hb⟩
    have hw : wipeR s2.r vs = wipeR r0 vs := hw.elim (fun e => by rw [e]) id
    rw [hw, hb]
    refine pw_mono (hs d (by rw [hp]; simp)) (fun _ s3 h3 => ?_) fun _ h => h
    refine pw_mono h3 (fun x s4 h4 => ?_) fun _ h => h
    cases x with
    | false =>
      obtain ⟨h5, h6, h7⟩ := h4
      exact ⟨⟨p ++ [d], by rw [hp]; simp, by simp [List.filterMap_append, h5]⟩, .inr h6, h7⟩
    | true =>
      rw [if_pos rfl] at h4 ⊢
      refine pw_mono h4 (fun y s5 ⟨h5, h6, h7⟩ => ⟨?_, ⟨p ++ [d], by rw [hp]; simp, by simp [List.filterMap_append, h5]⟩, .inr h6, h7⟩) fun _ h => h
      have h1 := List.length_filterMap_le f p
      have h2 : p.length < ds.length := by rw [hp]; simp
      omega
  · rintro acc s2 ⟨⟨p, hp, rfl⟩, hw, hb⟩
    rw [List.append_nil] at hp
    subst hp
    rw [hb]
    exact he s2.r hw
end
theorem qQ : type_of% (And.intro @q_pure (And.intro @q_stuck (And.intro @q_optM (And.intro @q_ite (And.intro @q_getS (And.intro @q_setS (And.intro @q_slots (And.intro @q_wipe (And.intro @q_back (And.intro @q_eVar (And.intro @q_eC (And.intro @q_peekV (And.intro @q_peekS (And.intro @q_takeV (And.intro @q_takeS (And.intro @q_handV (And.intro @q_handS (And.intro @List.getD_cons_succ.{0} (And.intro @List.getD_cons_zero.{0} (And.intro @List.getD_nil.{0} (And.intro @List.set_cons_succ.{0} (And.intro @List.set_cons_zero.{0} (And.intro @List.length_cons.{0} (And.intro @List.length_nil.{0} (And.intro @if_true.{0} (And.intro @if_true.{1} (And.intro @if_false.{0} (And.intro @if_false.{1} (@Bool.false_eq_true))))))))))))))))))))))))))))) := And.intro @q_pure (And.intro @q_stuck (And.intro @q_optM (And.intro @q_ite (And.intro @q_getS (And.intro @q_setS (And.intro @q_slots (And.intro @q_wipe (And.intro @q_back (And.intro @q_eVar (And.intro @q_eC (And.intro @q_peekV (And.intro @q_peekS (And.intro @q_takeV (And.intro @q_takeS (And.intro @q_handV (And.intro @q_handS (And.intro @List.getD_cons_succ.{0} (And.intro @List.getD_cons_zero.{0} (And.intro @List.getD_nil.{0} (And.intro @List.set_cons_succ.{0} (And.intro @List.set_cons_zero.{0} (And.intro @List.length_cons.{0} (And.intro @List.length_nil.{0} (And.intro @if_true.{0} (And.intro @if_true.{1} (And.intro @if_false.{0} (And.intro @if_false.{1} (@Bool.false_eq_true))))))))))))))))))))))))))))
end TW
set_option linter.all false
set_option Elab.async false
namespace TW
open PySem PySem.Spec PyProof.Rows L2
def absI (i : Int) : Int := if i < 0 then -i else i
def boxOf (ns : List Int) : Bx :=
  let cs := ((ns.drop (HT.sIx ns.length 0 none)).take (HT.sIx ns.length ns.length (some 61) - HT.sIx ns.length 0 none)).map absI
  let sm := cs.filter fun c => decide (c < 10 ^ 18)
  ⟨cs.filter fun c => decide (10 ^ 18 ≤ c), sm ++ (if sm.isEmpty then [boxC] else []), 0⟩
theorem boxOf_good (ns : List Int) : boxG (boxOf ns) := by
  unfold boxG
  unfold boxOf
  dsimp only
  split
  · simp
  · rename_i h
    intro z
    rw [List.append_nil] at z
    rw [z] at h
    simp at h
def spBx (K : PySem.W.Frag) (ok : List Int → Bx → Prop) : Sp := fun vs H Q _ => ∃ a ns, vs = [.ref a] ∧ SqL K H a (ns.map V.int) ∧ ns.length ≤ 63 ∧ LamX.Tabs tabs0 H ∧ ∀ x r b H', ok ns b → BoxOk H' (x :: r) b → LamX.Tabs tabs0 H' → Q (.ref x) H'
abbrev spOpen (K : PySem.W.Frag) : Sp := spBx K fun ns b => b = boxOf ns
def mOpen1 (ds : List PyData) : M PyData := nCmp [4] (pure ds) (tgName 4) (pure true) (eFn absD (aCons (eVar 4) aNil))
def wOpen1 (K : PySem.W.Frag) : TI := iSq K (tSl (rSlL K) (tVar 0) tNoPart (tPart (tC (.int 61))))
def tOpen1 (K : PySem.W.Frag) : TS := tAsg (tLc (wOpen1 K) (rdG Wish.no (tgName 4) [4]) (rdT Wish.no (pure true)) (rdE Wish.no (eFn absD (aCons (eVar 4) aNil))) [4]) (gName 1)
abbrev e18 : M Opd := eBin .pow (eC (.int 10)) (eC (.int 18))
def mOpen2 : M Fl := sAsgN 2 (nCmp [4] (iSeqM (eVar 1)) (tgName 4) (tVal (eCmp .lt (eVar 4) e18)) (eVar 4))
def mOpen3 : M Fl := sAsgN 3 (nCmp [4] (iSeqM (eVar 1)) (tgName 4) (tVal (eCmp .ge (eVar 4) e18)) (eVar 4))
def mOpen4 : M Opd := eBin .add (eVar 2) (eBin .mul (eNw (nLst (aCons (eC (.int boxC)) aNil))) (eFn intD (aCons (eCmp .eq (eVar 2) (eNw (nLst aNil))) aNil)))
abbrev iD (ns : List Int) : PyData := .list (ns.map PyData.int)
theorem run1 {ns : List Int} {b : Option Bx} {Q : PyData → Sx → Prop} {E : Er → Prop} (hl : ns.length ≤ 100) (q : Q (iD (ns.map absI)) ⟨[.no, .no, .no, .no, .no], b⟩) : pw (mOpen1 (ns.map PyData.int)) ⟨[.no, .no, .no, .no, .no], b⟩ Q E := by
  refine q_cmp_map [.no, .no, .no, .no, .no] b (fun d => match d with
    | .int i => some (.int (absI i))
    | _ => none) ⟨rfl, by rw [List.length_map]; exact Nat.le_trans hl (by decide), fun d hd => ?_, fun r1 hr => ?_⟩
  · obtain ⟨i, _, rfl⟩ := List.mem_map.mp hd
    exact ⟨rfl, rfl, rfl⟩
  · have e : (ns.map PyData.int).filterMap (fun d => match d with
      | .int i => some (PyData.int (absI i))
      | _ => none) = (ns.map absI).map PyData.int := by
      rw [List.filterMap_map, List.map_map]
      exact congrFun (List.filterMap_eq_map) ns
    rw [e]
    have e2 : backR [SV.no, .no, .no, .no, .no] r1 [4] = [.no, .no, .no, .no, .no] := by
      rcases hr with rfl | hr
      · rfl
      · exact hr
    rw [e2]
    exact q
theorem filt_ints (f : Int → Bool) (ns : List Int) : (ns.map PyData.int).filterMap (fun d => match d with
      | .int i => if f i = true then some (PyData.int i) else none
      | _ => none) = (ns.filter f).map PyData.int := by
  rw [List.filterMap_map]
  induction ns with
  | nil => rfl
  | cons n ns ih =>
    simp only [List.filterMap_cons, Function.comp]
    cases q : f n <;> simp [List.filter_cons, q] <;> simpa using ih
theorem pow18 : binD .pow (.int 10) (.int 18) = some (.int (10 ^ 18)) := by
  simp only [binD]
  exact if_pos ⟨by decide, by decide, by decide⟩
theorem run23 {i : Nat} {o : Cop} {f : Int → Bool} {ns : List Int} {r : List SV} {b : Option Bx} {Q : Fl → Sx → Prop} {E : Er → Prop} (hl : ns.length ≤ 100) (hr : ∃ x2 x3 x1, r = [.no, x1, x2, x3, .no] ∧ (x1 = .own (iD ns) ∨ x1 = .dat (iD ns)))
    (hf : ∀ n : Int, cmpD o (.int n) (.int (10 ^ 18)) = some (.bool (f n)))
    (q : Q .nx ⟨(r.set 1 (.dat (iD ns))).set i (.own (iD (ns.filter f))), b⟩) :
    pw (sAsgN i (nCmp [4] (iSeqM (eVar 1)) (tgName 4) (tVal (eCmp o (eVar 4) e18)) (eVar 4))) ⟨r, b⟩ Q E := by
  obtain ⟨x2, x3, x1, rfl, hx⟩ := hr
  unfold sAsgN
  rw [pw_bind]
  refine q_cmp_map [.no, .dat (iD ns), x2, x3, .no] b (fun d => match d with
    | .int i => if f i = true then some (.int i) else none
    | _ => none) ?_
  have key : ∀ d ∈ ns.map PyData.int, ∀ s : Sx, s = ⟨[.no, .dat (iD ns), x2, x3, .no], b⟩ → pw (tgName 4 d) ⟨wipeR s.r [4], b⟩ (fun _ s1 => pw (tVal (eCmp o (eVar 4) e18)) s1 (fun b_1 s2 => if b_1 = true then pw (eVar 4 >>= take) s2 (fun x s3 => (match d with
    | .int i => if f i = true then some (.int i) else none
    | _ => none) = some x ∧ wipeR s3.r [4] = wipeR s.r [4] ∧ s3.b = b) (fun _ => False) else (match d with
    | .int i => if f i = true then some (PyData.int i) else none
    | _ => none) = none ∧ wipeR s2.r [4] = wipeR s.r [4] ∧ s2.b = b) fun _ => False) fun _ => False := by
    rintro d hd s rfl
    obtain ⟨n, _, rfl⟩ := List.mem_map.mp hd
    have h := hf n
    have hp : binD .pow (.int 10) (.int 18) = some (.int (10 ^ 18)) := pow18
    simp only [eCmp, eBin, eOp, eUn, eFn, eIx, eSlc, eChn, TW.tVal, TW.tNot, TW.tAnd, TW.tOr, TW.eIf, TW.eAnd, TW.eOr, TW.eNot, eIs, aNil, aCons, aStar, itemsO, eTup, nLst, eNw, pNone, pSome, TW.sSkip, TW.sSeq, TW.sAsg, TW.sAsgN, TW.sRet, TW.sRetN, TW.sIf, tgName, tgAll, tgTup, TW.sTg, TW.sPar, TW.sFor, iSeqM, iRg1, iRg2, iEnM, ownL, sApp, tgSet, ePop, ePopA, eCall, peeks, takes, hands, boolD, pw_bind, qQ, wipeR, reduceIte, hp, h]
    cases e : f n with
    | false => simp
    | true => simp
  have fin : ∀ r1, (r1 = [SV.no, .dat (iD ns), x2, x3, .no] ∨ wipeR r1 [4] = wipeR [SV.no, .dat (iD ns), x2, x3, .no] [4]) → backR [SV.no, .dat (iD ns), x2, x3, .no] r1 [4] = [.no, .dat (iD ns), x2, x3, .no] := by
    intro r1 hr
    rcases hr with rfl | hr
    · rfl
    · exact hr
  have e := filt_ints f ns
  unfold iSeqM
  have hlen : (ns.map PyData.int).length ≤ lim := by rw [List.length_map]; exact Nat.le_trans hl (by decide)
  rcases hx with rfl | rfl
  · refine ⟨rfl, hlen, fun d hd => key d hd _ rfl, fun r1 h1 => ?_⟩
    rw [fin r1 h1, e]
    exact q
  · refine ⟨rfl, hlen, fun d hd => key d hd _ rfl, fun r1 h1 => ?_⟩
    rw [fin r1 h1, e]
    exact q
theorem run4 {ns : List Int} {r : List SV} {b : Option Bx} {Q : Opd → Sx → Prop} {E : Er → Prop} (hl : ns.length ≤ 100) (h2 : r.getD 2 .no = .own (iD ns))
    (q : Q (.val (iD (ns ++ (if ns.isEmpty then [boxC] else [])))) ⟨r, b⟩) : pw mOpen4 ⟨r, b⟩ Q E := by
  unfold mOpen4
  have c1 : cmpD .eq (iD ns) (.list []) = some (.bool ns.isEmpty) := by
    rw [cmpD_eq, eqv_nil, List.isEmpty_map]
    exact if_pos (by rw [Bool.and_eq_true]; exact ⟨shp_ints ns, shp_ints []⟩)
  have l1 : ([] : List PyData).length ≤ lim := Nat.zero_le _
  have l2 : ([PyData.int boxC] : List PyData).length ≤ lim := by decide
  simp only [eCmp, eBin, eOp, eUn, eFn, eIx, eSlc, eChn, TW.tVal, TW.tNot, TW.tAnd, TW.tOr, TW.eIf, TW.eAnd, TW.eOr, TW.eNot, eIs, aNil, aCons, aStar, itemsO, eTup, nLst, eNw, pNone, pSome, TW.sSkip, TW.sSeq, TW.sAsg, TW.sAsgN, TW.sRet, TW.sRetN, TW.sIf, tgName, tgAll, tgTup, TW.sTg, TW.sPar, TW.sFor, iSeqM, iRg1, iRg2, iEnM, ownL, sApp, tgSet, ePop, ePopA, eCall, peeks, takes, hands, boolD, pw_bind, qQ, wipeR, reduceIte, h2, if_pos l1, c1]
  have hlim : 0 ≤ lim ∧ 0 + 1 ≤ lim := by decide
  cases ns with
  | nil =>
    have m1 : binD .mul (.list [.int boxC]) (.int 1) = some (.list [.int boxC]) := rfl
    have a1 : binD .add (iD []) (.list [.int boxC]) = some (iD [boxC]) := rfl
    simp only [eCmp, eBin, eOp, eUn, eFn, eIx, eSlc, eChn, TW.tVal, TW.tNot, TW.tAnd, TW.tOr, TW.eIf, TW.eAnd, TW.eOr, TW.eNot, eIs, aNil, aCons, aStar, itemsO, eTup, nLst, eNw, pNone, pSome, TW.sSkip, TW.sSeq, TW.sAsg, TW.sAsgN, TW.sRet, TW.sRetN, TW.sIf, tgName, tgAll, tgTup, TW.sTg, TW.sPar, TW.sFor, iSeqM, iRg1, iRg2, iEnM, ownL, sApp, tgSet, ePop, ePopA, eCall, peeks, takes, hands, boolD, pw_bind, qQ, wipeR, reduceIte, if_pos hlim.1, if_pos hlim.2, List.isEmpty_nil, intD, m1, a1]
    exact q
  | cons n ns =>
    have m1 : binD .mul (.list [.int boxC]) (.int 0) = some (.list []) := rfl
    have a1 : binD .add (iD (n :: ns)) (.list []) = some (iD (n :: ns)) := by
      simp only [binD, List.append_nil]
      exact if_pos (by rw [List.length_map, List.length_nil]; exact Nat.le_trans hl (by decide))
    simp only [eCmp, eBin, eOp, eUn, eFn, eIx, eSlc, eChn, TW.tVal, TW.tNot, TW.tAnd, TW.tOr, TW.eIf, TW.eAnd, TW.eOr, TW.eNot, eIs, aNil, aCons, aStar, itemsO, eTup, nLst, eNw, pNone, pSome, TW.sSkip, TW.sSeq, TW.sAsg, TW.sAsgN, TW.sRet, TW.sRetN, TW.sIf, tgName, tgAll, tgTup, TW.sTg, TW.sPar, TW.sFor, iSeqM, iRg1, iRg2, iEnM, ownL, sApp, tgSet, ePop, ePopA, eCall, peeks, takes, hands, boolD, pw_bind, qQ, wipeR, reduceIte, if_pos hlim.1, if_pos hlim.2, List.isEmpty_cons, intD, m1, a1]
    simpa using q
def cutN (ns : List Int) : List Int := (ns.drop (HT.sIx ns.length 0 none)).take (HT.sIx ns.length ns.length (some 61) - HT.sIx ns.length 0 none)
theorem cutN_len (ns : List Int) : (cutN ns).length ≤ ns.length := by
  unfold cutN
  rw [List.length_take, List.length_drop]
  omega
theorem cutD_ints (ns : List Int) : cutD (ns.map PyData.int) none (some 61) = (cutN ns).map PyData.int := by
  unfold cutD cutN
  rw [List.length_map, List.map_take, List.map_drop]
section
variable {X : Cx}
theorem cli_open {P : Addr → Prop} {G : Gh} {σ : L2.St} {H : Hp} {s : Sx} {K : PySem.W.Frag} {a : Addr} {ns : List Int} {R : It → Hp → Prop} (Re : Rel P G σ H s) (h0 : σ[0]? = some (some (.ref a))) (hs : SqL K H a (ns.map V.int))
    (h : ∀ G' H' J, Ext P G H G' H' → Rel P G' σ H' s → ItOk P J G' H' ((cutN ns).map PyData.int) → R J H') : wOpen1 K σ H R := by
  refine ⟨_, h0, 61, rfl, a, _, rfl, hs, fun p hp => ?_⟩
  have r : FzA G.F H (cutV (ns.map V.int) none (some 61)) ((cutN ns).map PyData.int) := by
    rw [← cutD_ints]
    exact cut_fz FzA.of_ints none (some 61)
  obtain ⟨x, R', r'⟩ := Re.newLst hp r
  obtain ⟨b, xs, e, f, hb, rr⟩ := r'.list_inv
  cases e
  refine ⟨p, rfl, .inl ⟨xs, SqL.of hb, h _ _ _ x R' (it_lst f hb rr)⟩⟩
theorem cl_open1 {K : PySem.W.Frag} {a : Addr} {ns : List Int} {P : Addr → Prop} {G : Gh} {σ : L2.St} {H : Hp} {s : Sx} {Q : VK} (h0 : σ[0]? = some (some (.ref a))) (hs : SqL K H a (ns.map V.int)) (R : Rel P G σ H s)
    (hw : pw (mOpen1 ((cutN ns).map PyData.int)) s (PostN P σ Q G H) fun _ => False) : tLc (wOpen1 K) (rdG Wish.no (tgName 4) [4]) (rdT Wish.no (pure true)) (rdE Wish.no (eFn absD (aCons (eVar 4) aNil))) [4] σ H Q := by
  have c : ClI Wish.no (fun σ H R => (σ[0]? = some (some (.ref a)) ∧ SqL K H a (ns.map V.int)) → wOpen1 K σ H R) (pure ((cutN ns).map PyData.int)) := by
    intro P G σ H s R Re hw c
    exact cli_open Re c.1 c.2 hw
  exact cl_cmp c P G σ H s Q R hw ⟨h0, hs⟩
theorem open_ok {st1 st2 st3 st4 : Stmt} {eSm : Expr} (p1 : PS X st1 (tOpen1 X.K)) (p2 : SdS X Wish.no st2 mOpen2) (p3 : SdS X Wish.no st3 mOpen3) (psm : Sd X Wish.no eSm mOpen4)
    (p4 : ∀ te, PE X eSm te → PS X st4 (tRet (tDisp [(tC (.str "great"), tVar 3), (tC (.str "small"), te), (tC (.str "turn"), tC (.int 0))]))) :
    ∃ t, PSs X [st1, st2, st3, st4] t ∧ ∀ vs H Q E, spOpen X.K vs H Q E → t { nx := fun _ H' => Q .non H', rt := Q } (start ["_law_script", "_law_cells", "_law_small", "_law_great", "_law_cell"] vs) H := by
  obtain ⟨t2, q2, c2⟩ := p2.ex
  obtain ⟨t3, q3, c3⟩ := p3.ex
  obtain ⟨te, pe, ce⟩ := psm.ex
  refine ⟨_, pss_cons p1 (pss_cons q2 (pss_cons q3 (pss_one (p4 te pe)))), ?_⟩
  rintro vs H Q E ⟨a, ns, rfl, hs, hl, htb, q⟩
  have hl2 : ((cutN ns).map absI).length ≤ 100 := by rw [List.length_map]; exact Nat.le_trans (cutN_len ns) (by omega)
  have hl3 : ∀ f : Int → Bool, (((cutN ns).map absI).filter f).length ≤ 100 := fun f => Nat.le_trans (List.length_filter_le _ _) hl2
  have R0 : Rel (fun b => H b ≠ none ∧ ¬ isTab b) ⟨fun _ => False, []⟩ (start ["_law_script", "_law_cells", "_law_small", "_law_great", "_law_cell"] [V.ref a]) H ⟨[.no, .no, .no, .no, .no], none⟩ := by
    have no : ∀ (i : Nat) (x : SV), ([SV.no, .no, .no, .no, .no])[i]? = some x → x = .no := fun i x h => by
      have := List.mem_of_getElem? h
      simpa using this
    exact { len := rfl, dat := fun i d e => (by have := no i _ e; cases this), own := fun i d e => (by have := no i _ e; cases this), sep := fun i j d e _ h _ => (by have := no i _ h; cases this), box := fun i e => (by have := no i _ e; cases this), bx := fun b e => (by cases e), nb := fun _ => rfl, fr := fun _ h => False.elim h, pr := fun _ h => h.1, bF := fun _ h => (by cases h), tb := ⟨htb, fun a h => ⟨id, fun z => z.2 h⟩⟩ }
  have z : ∀ {wi g tt te vs D σ H u}, tLc wi g tt te vs σ H (fun x H1 => gName 1 x σ H1 (u D)) → tSeq (tAsg (tLc wi g tt te vs) (gName 1)) u D σ H := fun h => h
  refine z ?_
  refine cl_open1 (P := fun b => H b ≠ none ∧ ¬ isTab b) rfl hs R0 (run1 (Nat.le_trans (cutN_len ns) (by omega)) fun G1 g1 H1 x1 R1 ow1 f1 => ?_)
  have R2 := R1.setOwn 1 ow1 f1
  refine c2 _ _ _ _ _ _ R2 (run23 (f := fun c => decide (c < 10 ^ 18)) hl2 ⟨_, _, _, rfl, .inl rfl⟩ (fun n => rfl) fun G3 σ3 H3 x3 R3 => ?_)
  refine c3 _ _ _ _ _ _ R3 (run23 (f := fun c => decide (10 ^ 18 ≤ c)) hl2 ⟨_, _, _, rfl, .inr rfl⟩ (fun n => rfl) fun G4 σ4 H4 x4 R4 p hp => ?_)
  obtain ⟨x5, R5, hF, hP, hb, ho⟩ := R4.lay (u := .dK []) hp
  have R6 := R5.also (D := p) (by rw [upd_same]; simp) ⟨hF, hP, hb, ho⟩
  obtain ⟨g, hg, og, gF, gP, gb⟩ := R6.own 3 (iD (((cutN ns).map absI).filter fun c => decide (10 ^ 18 ≤ c))) rfl
  refine ⟨.ref g, hg, ?_⟩
  refine ce _ _ _ _ _ _ R6 (run4 (hl3 _) rfl fun G7 v H7 x7 R7 r7 => ?_)
  obtain ⟨m, ms, rfl, fm, hm, rm⟩ := Fz.list_inv r7
  rw [rm.ints] at hm
  obtain ⟨g2, hg2, ⟨gs, hgs, rgs⟩, gF2, gP2, gb2⟩ := R7.own 3 (iD (((cutN ns).map absI).filter fun c => decide (10 ^ 18 ≤ c))) rfl
  rw [hg] at hg2
  cases hg2
  rw [rgs.ints] at hgs
  have hp7 : H7 p = some (.dK []) := (x7.kP p (.inr rfl) hF).trans upd_same
  have pg : p ≠ g := fun e => gP (.inr e.symm)
  have pm : p ≠ m := fun e => by
    exact x7.nF (a := p) (by rw [e]; exact fm) hF (.inr rfl) upd_same fun _ h => nomatch h
  have gm : g ≠ m := fun e => gF2 (by rw [e]; exact fm)
  refine ⟨hp7, [(.inr "great", .ref g), (.inr "small", .ref m), (.inr "turn", .int 0)], rfl, (by decide : 3 ≤ 15), ?_⟩
  refine q p [g, m] _ _ rfl ⟨.inl ⟨boxOf_good ns, p, g, m, rfl, pg, pm, gm, upd_same, ?_, ?_⟩⟩ ?_
  · rw [upd_ne pg.symm]; exact hgs
  · rw [upd_ne pm.symm]; exact hm
  · exact (R7.tb.upd (by rw [hp7]; exact calm_dK)).t
end
end TW
set_option linter.all false
set_option Elab.async false
namespace TW
open PySem PySem.Spec PyProof.Rows L2
section
variable {X : Cx} {k : Nat}
def tCallN (sp : Sp) (ta : TA) : TE := fun σ H Q => ta σ H fun vs H1 => sp vs H1 Q E0
theorem pe_callN {sp : Sp} {j : Nat} {f : Addr} {fd : FuncData} {ps : List Str} {x : Str} {p pos : Pos} {e : Expr} {es : List Expr} {ta : TA} (C : Cok X k) (Fo : Fn X.prog X.w X.K X.mg X.base j f fd ps sp) (hj : j ≤ k) (hg : Gl X x) (hm : X.mg x = some (.ref f))
    (hk : PySem.W.keepIn X.K (.ref f) = true) (hb : Binds X.K fd ps []) (ha : PA X (e :: es) ta) (hdb : (x == ("__debug__" : Str)) = false := by decide)
    (he : starEach (e :: es) X.env = (false, eval e X.env) :: starEach es X.env := by rfl) (hpl : (backTo pos (starEach es X.env)).any (·.1) = false := by rfl) : PE X (.Call (.Name x p) (e :: es) [] pos) (tCallN sp ta) := by
  refine ⟨fun pins s σ H Q I h => wpAny_Call_Name_kw (ld_glob I hg hm ?_ hdb)⟩
  exact PySem.W.callWith_K (h₀ := X.base) I.ok.mod.kin hk (thn (ha.run pos pins s σ H _ I h) fun us s1 ⟨vs, H1, I1, r, q⟩ => ⟨I1.kIn, run_fn' (k := k) Fo C hj hb I1 r q⟩) he hpl
def spLaw (K : PySem.W.Frag) : Sp := fun vs H Q _ => ∃ (a : Addr) (ns : List Int), vs = [.ref a] ∧ SqL K H a (ns.map V.int) ∧ ns.length ≤ 63 ∧ LamX.Tabs tabs0 H ∧ ∀ H', Q (.bl true) H'
abbrev lawS (n : Nat) (ns : List Int) : Sx := ⟨.no :: .box :: List.replicate (n - 2) .no, some (boxOf ns)⟩
theorem fn_lawC {ok : List Int → Bx → Prop} {P : Program} {w : World} {K : PySem.W.Frag} {mg : Str → Option Value} {base : Heap} {f : Addr} {fd : FuncData} {x qual : Str} {params : Arguments} {st0 : Stmt} {rest : List Stmt} {scope : Scope} {dvs : List V} {kws : List (Str × V)} {N : List Str} {m : M Fl} (n : Nat)
    (F : FunD K x qual params (st0 :: rest) scope dvs kws f fd) (S : FnScope N ["_law_script"] scope) (hsm : SmP base) (hn : N.length = n) (h2 : 2 ≤ n)
    (h0 : ∀ (cdv : Value), fd.code = cdv → ∀ (A : Around) (outer : List Env) (s : Shared) (H : Hp) (E : XK), Cok (cxN P w K mg base N qual scope f cdv A outer s H E) k → PS (cxN P w K mg base N qual scope f cdv A outer s H E) st0 (tAsg (tCallN (spBx K ok) (tCons (tVar 0) tNil)) (gName 1)))
    (hb : ∀ (cdv : Value), fd.code = cdv → ∀ (A : Around) (outer : List Env) (s : Shared) (H : Hp) (E : XK), Cok (cxN P w K mg base N qual scope f cdv A outer s H E) k → SdB (cxN P w K mg base N qual scope f cdv A outer s H E) Wish.no rest m)
    (hp : ∀ (ns : List Int) (bx : Bx), ns.length ≤ 63 → ok ns bx → pw m ⟨.no :: .box :: List.replicate (n - 2) .no, some bx⟩ (fun f _ => f = .rt (.bool true)) fun _ => False) : Fn P w K mg base (k + 1) f fd ["_law_script"] (spLaw K) := by
  refine fn_mkC F S (fun vs H Q E h => ?_) fun cdv hcd A outer s H vs Q E hr hgd h => ?_
  · obtain ⟨a, ns, rfl, _⟩ := h
    rfl
  · obtain ⟨a, ns, rfl, hs, hl, htb, hq⟩ := h
    have C : Cok (cxN P w K mg base N qual scope f cdv A outer s H E) k := ⟨rfl, S.nd, hr, hgd, hsm⟩
    obtain ⟨t, pt, ct⟩ := (hb cdv hcd A outer s H E C).ex
    refine ⟨_, pss_cons (h0 cdv hcd A outer s H E C) pt, ?_⟩
    have z : ∀ {te D σ H u}, te σ H (fun x H1 => gName 1 x σ H1 (u D)) → tSeq (tAsg te (gName 1)) u D σ H := fun h => h
    refine z ?_
    have hst : start N [V.ref a] = some (V.ref a) :: List.replicate (n - 1) none := by
      unfold L2.start
      rw [← hn]
      simp
    refine ⟨V.ref a, by rw [hst]; rfl, a, ns, rfl, hs, hl, htb, fun x g bx H' ho bk ht' => ?_⟩
    have hσ : (start N [V.ref a]).set 1 (some (V.ref x)) = some (V.ref a) :: some (V.ref x) :: List.replicate (n - 2) none := by
      rw [hst]
      obtain ⟨j, rfl⟩ : ∃ j, n = j + 2 := ⟨n - 2, by omega⟩
      simp [List.replicate_succ]
    show t _ ((start N [V.ref a]).set 1 (some (V.ref x))) H'
    rw [hσ]
    have hlast : ∀ (i : Nat) (y : SV), (SV.no :: SV.box :: List.replicate (n - 2) SV.no)[i]? = some y → y = .no ∨ (y = .box ∧ i = 1) := fun i y h => by
      match i, h with
      | 0, h => simp at h; exact .inl h.symm
      | 1, h => simp at h; exact .inr ⟨h.symm, rfl⟩
      | i + 2, h =>
        simp [List.getElem?_replicate] at h
        exact .inl h.2.symm
    have R : Rel (fun _ => False) ⟨fun _ => False, x :: g⟩ (some (V.ref a) :: some (V.ref x) :: List.replicate (n - 2) none) H' ⟨.no :: .box :: List.replicate (n - 2) .no, some bx⟩ :=
      { len := by simp
        dat := fun i d e => by rcases hlast i _ e with h | ⟨h, _⟩ <;> cases h
        own := fun i d e => by rcases hlast i _ e with h | ⟨h, _⟩ <;> cases h
        sep := fun i j d e _ h _ => by rcases hlast i _ h with h | ⟨h, _⟩ <;> cases h
        box := fun i e => by
          rcases hlast i _ e with h | ⟨_, rfl⟩
          · cases h
          · exact ⟨x, rfl, rfl⟩
        bx := fun b e => by
          cases e
          exact bk
        nb := fun e => by cases e
        fr := fun _ h => h.elim
        pr := fun _ h => h.elim
        bF := fun b h => ⟨id, id, bk.ne b h⟩
        tb := ⟨ht', fun _ _ => ⟨id, id⟩⟩ }
    refine ct _ _ _ _ _ _ R (pw_mono (hp ns bx hl ho) (fun fl s' e => ?_) fun _ h => h)
    subst e
    intro G' σ' v H2 x' R' fz
    rw [fz.bool_inv]
    exact hq H2
theorem fn_lawG {ok : List Int → Bx → Prop} {P : Program} {w : World} {K : PySem.W.Frag} {mg : Str → Option Value} {base : Heap} {f : Addr} {fd : FuncData} {x qual : Str} {params : Arguments} {st0 : Stmt} {rest : List Stmt} {scope : Scope} {dvs : List V} {kws : List (Str × V)} {N : List Str} {m : M Fl} (n : Nat)
    (F : FunD K x qual params (st0 :: rest) scope dvs kws f fd) (S : FnScope N ["_law_script"] scope) (hsm : SmP base) (hn : N.length = n) (h2 : 2 ≤ n)
    (h0 : ∀ (cdv : Value) (A : Around) (outer : List Env) (s : Shared) (H : Hp) (E : XK), Cok (cxN P w K mg base N qual scope f cdv A outer s H E) k → PS (cxN P w K mg base N qual scope f cdv A outer s H E) st0 (tAsg (tCallN (spBx K ok) (tCons (tVar 0) tNil)) (gName 1)))
    (hb : ∀ (cdv : Value) (A : Around) (outer : List Env) (s : Shared) (H : Hp) (E : XK), Cok (cxN P w K mg base N qual scope f cdv A outer s H E) k → SdB (cxN P w K mg base N qual scope f cdv A outer s H E) Wish.no rest m)
    (hp : ∀ (ns : List Int) (bx : Bx), ns.length ≤ 63 → ok ns bx → pw m ⟨.no :: .box :: List.replicate (n - 2) .no, some bx⟩ (fun f _ => f = .rt (.bool true)) fun _ => False) : Fn P w K mg base (k + 1) f fd ["_law_script"] (spLaw K) :=
  fn_lawC n F S hsm hn h2 (fun cdv _ => h0 cdv) (fun cdv _ => hb cdv) hp
theorem fn_law {P : Program} {w : World} {K : PySem.W.Frag} {mg : Str → Option Value} {base : Heap} {f : Addr} {fd : FuncData} {x qual : Str} {params : Arguments} {st0 : Stmt} {rest : List Stmt} {scope : Scope} {dvs : List V} {kws : List (Str × V)} {N : List Str} {m : M Fl} (n : Nat)
    (F : FunD K x qual params (st0 :: rest) scope dvs kws f fd) (S : FnScope N ["_law_script"] scope) (hsm : SmP base) (hn : N.length = n) (h2 : 2 ≤ n)
    (h0 : ∀ (cdv : Value) (A : Around) (outer : List Env) (s : Shared) (H : Hp) (E : XK), Cok (cxN P w K mg base N qual scope f cdv A outer s H E) k → PS (cxN P w K mg base N qual scope f cdv A outer s H E) st0 (tAsg (tCallN (spOpen K) (tCons (tVar 0) tNil)) (gName 1)))
    (hb : ∀ (cdv : Value) (A : Around) (outer : List Env) (s : Shared) (H : Hp) (E : XK), Cok (cxN P w K mg base N qual scope f cdv A outer s H E) k → SdB (cxN P w K mg base N qual scope f cdv A outer s H E) Wish.no rest m)
    (hp : ∀ ns : List Int, ns.length ≤ 63 → pw m (lawS n ns) (fun f _ => f = .rt (.bool true)) fun _ => False) : Fn P w K mg base (k + 1) f fd ["_law_script"] (spLaw K) :=
  fn_lawG n F S hsm hn h2 h0 hb fun ns bx hl e => by subst e; exact hp ns hl
end
theorem law_run {P : Program} {w : World} {K : PySem.W.Frag} {mg mb : Str → Option Value} {k : Nat} {fa a : Addr} {cs : List (Addr × Addr)} {fd : FuncData} {s₁ : Shared} {vs : List Value} {ns : List Int} {osm : Obj} {es : Array DictEntry} {ep : Nat}
    (KX : K.In s₁.heap) (hns : s₁.heap.Ns mainGlobals mg) (hb : s₁.heap.Ns builtinsNs mb) (hbb : ∀ x : Str, x ≠ "__name__" → mb x = bootBuiltins x) (hlim : s₁.heap.NoLimit) (hdig : s₁.heap.NoDigits) (hg : s₁.gens = #[])
    (hsm : s₁.heap.get? sysModules = some osm) (hsd : osm.data = .dict es ep)
    (tE : ∀ p ∈ cs, s₁.heap.get? p.2 = some { cls := .none, data := .fields #[] }) (tN : ∀ p ∈ cs, K.lookup p.2 = none) (tC : ∀ p ∈ cs, PySem.W.CodeHd s₁.heap p.1 p.2)
    (hbm : ∃ (bm : Addr) (ob : Obj), mg "__builtins__" = some (.ref bm) ∧ bm ≠ builtinsNs ∧ s₁.heap.get? bm = some ob ∧ ob.cls = .type "module" ∧ ob.dict = some builtinsNs ∧ ob.data = .plain)
    (t0 : ∀ p ∈ tabs0, p.1 ∈ cs.map (·.2))
    (ha : s₁.heap.get? a = some { cls := .type "list", data := .seq vs.toArray }) (hi : IntsAre vs ns) (hl : ns.length ≤ 63) (hr : Room k callerA)
    (F : ∀ base : Heap, K.In base → base.Ns mainGlobals mg → (SmP base) → (∀ p ∈ cs, LamX.TabB base mg p.1 p.2) → Fn P w K mg base k fa fd ["_law_script"] (spLaw K)) (hbind : ∀ (s : Shared) (u : Value), BindsTo s fd ⟨[u], []⟩ [(("_law_script" : Str), u)]) :
    codeAny (model P w) callerA (.call (.ref fa) ⟨[.ref a], []⟩) (fun r s' => r = .ok (.ret (.bool true)) ∧ OldK s₁.heap s'.heap ∧ s'.os = s₁.os ∧ AllBare s'.gens) s₁ := by
  have rv := vals_ints hi
  have lv := hi.length
  have hsz : ns.length ≤ sizeLine := Nat.le_trans hl (by rw [sizeLine_eq]; decide)
  have tE2 : ∀ b, b ∈ cs.map (·.2) → s₁.heap.get? b = some { cls := .none, data := .fields #[] } := fun b q => by
    obtain ⟨p, q1, q2⟩ := List.mem_map.mp q
    exact q2 ▸ tE p q1
  have tN2 : ∀ b, b ∈ cs.map (·.2) → K.lookup b = none := fun b q => by
    obtain ⟨p, q1, q2⟩ := List.mem_map.mp q
    exact q2 ▸ tN p q1
  have an : a ∉ cs.map (·.2) := fun q => by
    have e := (tE2 a q).symm.trans ha
    have e := congrArg Obj.data (Option.some.inj e)
    cases e
  -- what is tracked: the tables; the script, if it is not the module's own
  obtain ⟨H, hA, hT, hK, hok, hS, hFz⟩ : ∃ H : Hp, (∀ b, b ≠ a → b ∉ cs.map (·.2) → H b = none) ∧ (∀ b, b ∈ cs.map (·.2) → H b = some (.tbl #[])) ∧ (H a ≠ none → K.lookup a = none) ∧ L2.HOk P w H s₁.heap ∧ SqL K H a (ns.map V.int) ∧ (∀ u, H a = some u → ∃ o xs, u = .frz o (.lst xs)) := by
    have okT : ∀ b, b ∈ cs.map (·.2) → ∀ H : Hp, ObjOk P w H s₁.heap b (.tbl #[]) := fun b q H => tE2 b q
    by_cases q : K.lookup a = none
    · refine ⟨fun b => if b = a then some (.frz { cls := .type "list", data := .seq vs.toArray } (.lst (ns.map V.int))) else if b ∈ cs.map (·.2) then some (.tbl #[]) else none, fun b h1 h2 => (if_neg h1).trans (if_neg h2), fun b h => (if_neg (show ¬ b = a from fun z => an (z ▸ h))).trans (if_pos h), fun _ => q, fun b v h => ?_, .inl (.inr ⟨_, if_pos rfl⟩), fun u h => ?_⟩
      · by_cases hb : b = a
        · have h := (if_pos hb).symm.trans h
          cases h
          subst hb
          exact ⟨ha, by rw [List.length_map]; exact hsz, vs, _, rv, ha⟩
        · have h := (if_neg hb).symm.trans h
          by_cases h2 : b ∈ cs.map (·.2)
          · have h := (if_pos h2).symm.trans h
            cases h
            exact okT b h2 _
          · have h := (if_neg h2).symm.trans h
            cases h
      · have h := (if_pos rfl).symm.trans h
        cases h
        exact ⟨_, _, rfl⟩
    · obtain ⟨o, q⟩ := Option.ne_none_iff_exists'.mp q
      have e := KX a o q
      rw [ha] at e
      cases e
      have e0 : (if a ∈ cs.map (·.2) then some (HO.tbl #[]) else none) = none := if_neg an
      refine ⟨fun b => if b ∈ cs.map (·.2) then some (.tbl #[]) else none, fun b _ h2 => if_neg h2, fun b h => if_pos h, fun h => absurd e0 h, fun b v h => ?_, .inr ⟨_, vs.toArray, _, q, rfl, rfl, rfl, by rw [List.size_toArray, lv]; exact hsz, by simpa using rv⟩, fun u h => ?_⟩
      · by_cases h2 : b ∈ cs.map (·.2)
        · have h := (if_pos h2).symm.trans h
          cases h
          exact okT b h2 _
        · have h := (if_neg h2).symm.trans h
          cases h
      · have h := e0.symm.trans h
        cases h
  have up : ∀ {b : Addr} {o : Obj}, s₁.heap.get? b = some o → b ≠ a → b ∉ cs.map (·.2) → (L2.hidT s₁.heap H).get? b = some o := fun e n n2 => L2.hidT_get e (hA _ n n2)
  -- what is neither a list nor bare fields is as it was
  have nm : ∀ {b : Addr} {o : Obj}, s₁.heap.get? b = some o → (∀ vs n, o.data ≠ .seq vs n) → o.data ≠ .fields #[] → b ≠ a ∧ b ∉ cs.map (·.2) := fun {b o} e d1 d2 => ⟨fun z => by
    rw [z, ha] at e
    cases e
    exact d1 _ _ rfl, fun z => by
    rw [tE2 b z] at e
    cases e
    exact d2 rfl⟩
  have ns_up : ∀ {b : Addr} {m : Str → Option Value}, s₁.heap.Ns b m → (L2.hidT s₁.heap H).Ns b m := fun ⟨o, es, ep, e, d, r⟩ => by
    obtain ⟨n1, n2⟩ := nm e (fun vs n z => by rw [d] at z; cases z) fun z => by rw [d] at z; cases z
    exact ⟨o, es, ep, up e n1 n2, d, r⟩
  have kin : K.In (L2.hidT s₁.heap H) := fun b o e => by
    refine L2.hidT_get (KX b o e) ?_
    by_cases hb : b = a
    · subst hb
      cases q : H b with
      | none => rfl
      | some u => rw [hK (by rw [q]; simp)] at e; cases e
    · exact hA b hb fun z => by rw [tN2 b z] at e; cases e
  have e0 : Env0 P w K mg (L2.hidT s₁.heap H) callerA [] s₁ H :=
    ⟨rfl, ⟨kin, ns_up hns, ⟨mb, ns_up hb, hbb⟩, let ⟨mc, h1, h2⟩ := hlim; ⟨mc, ns_up h1, h2⟩⟩, fun _ _ e => L2.of_hidT e, Nat.le_of_eq (L2.hidT_size _ _), trivial, fun b hb => (by cases hb), hok, .of_eq hg⟩
  have smp : SmP (L2.hidT s₁.heap H) := by
    obtain ⟨n1, n2⟩ := nm hsm (fun vs n z => by rw [hsd] at z; cases z) fun z => by rw [hsd] at z; cases z
    exact ⟨⟨osm, up hsm n1 n2⟩, let ⟨mc, h1, h2⟩ := hdig; ⟨mc, ns_up h1, h2⟩⟩
  have tabs : LamX.Tabs tabs0 H := fun p hp => .nil (hT p.1 (t0 p hp))
  have tB : ∀ p ∈ cs, LamX.TabB (L2.hidT s₁.heap H) mg p.1 p.2 := fun p hp => by
    refine ⟨?_, ?_, fun z => ?_⟩
    · obtain ⟨o, us, file, tf, flags, tg, inF, text, tt, q1, q2, q3, q4⟩ := tC p hp
      obtain ⟨n1, n2⟩ := nm q1 (fun vs n z => by rw [q3] at z; cases z) fun z => by
        rw [q3] at z
        cases z
        simp at q4
      exact ⟨o, us, file, tf, flags, tg, inF, text, tt, up q1 n1 n2, q2, q3, q4⟩
    · obtain ⟨bm, ob, b1, b2, b3, b4, b5, b6⟩ := hbm
      obtain ⟨n1, n2⟩ := nm b3 (fun vs n z => by rw [b6] at z; cases z) fun z => by rw [b6] at z; cases z
      refine ⟨bm, ob, b1, b2, fun q => ?_, fun q => n2 (q ▸ List.mem_map.mpr ⟨p, hp, rfl⟩), up b3 n1 n2, b4, b5, b6⟩
      obtain ⟨o, es, ep, e, hd, _⟩ := hns
      rw [q, e] at b3
      cases b3
      rw [hd] at b6
      cases b6
    · obtain ⟨o, es, ep, e, hd, _⟩ := hns
      rw [z, tE p hp] at e
      cases e
      cases hd
  refine codeAny_mono ((F _ kin (ns_up hns) smp tB).run callerA [] s₁ H ⟨[.ref a], []⟩ [.ref a] [.ref a] (fun v _ => v = .bl true) (fun _ _ _ => False) hr rfl e0 (hbind s₁ (.ref a)) (.cons rfl .nil) ⟨a, ns, rfl, hS, hl, tabs, fun _ => rfl⟩) fun r s' h => ?_
  cases r with
  | error e => exact h.elim
  | ok fl =>
    cases fl with
    | next => exact False.elim h
    | brk => exact False.elim h
    | cont => exact False.elim h
    | ret u =>
      obtain ⟨v, H', os, bare, un, hok', r', q⟩ := h
      have q : v = .bl true := q
      subst q
      obtain rfl : u = Value.bool true := r'
      have old : ∀ b o, b ∉ cs.map (·.2) → s₁.heap.get? b = some o → s'.heap.get? b = some o := fun b o nb e => by
        cases q : H b with
        | none => exact un.keep b o e q (fun z => by cases z) (by simp)
        | some u =>
          have hba : b = a := Classical.byContradiction fun z => by rw [hA b z nb] at q; cases q
          obtain ⟨ob, xs, rfl⟩ := hFz u (hba ▸ q)
          have z2 := un.frzs b ob _ q
          obtain ⟨e1, _⟩ := hok b _ q
          obtain ⟨e2, _⟩ := hok' b _ z2
          rw [e] at e1
          cases e1
          exact e2
      refine ⟨rfl, ⟨fun b o e => ?_, fun b o e => ?_⟩, os, bare⟩
      · by_cases hb : b ∈ cs.map (·.2)
        · obtain ⟨p, hp, rfl⟩ := List.mem_map.mp hb
          obtain ⟨more, z⟩ := un.tbls p.2 #[] (hT _ hb)
          rw [tE p hp] at e
          cases e
          exact .inr (.inl ⟨((tC p hp).tab (tE p hp)).isCodeTable, rfl, #[], more, rfl, by rw [Array.empty_append]; exact (show s'.heap.get? p.2 = some { cls := .none, data := .fields (#[] ++ more) } from hok' p.2 _ z).trans (by rw [Array.empty_append])⟩)
        · exact .inl (old b o hb e)
      · by_cases hb : b ∈ cs.map (·.2)
        · obtain ⟨p, hp, rfl⟩ := List.mem_map.mp hb
          obtain ⟨more, z⟩ := un.tbls p.2 #[] (hT _ hb)
          exact ⟨_, hok' p.2 _ z⟩
        · exact ⟨o, old b o hb e⟩
def smB : Option Obj → Bool
  | some ⟨_, _, .dict _ _, _⟩ => true
  | _ => false
def hookT (n : Nat) (fa : List He.Fa) (fn : List He.DefD) : PySem.W.Hook where
  α := He.AlD × Bool
  obs := fun s => (He.obsDG n fa fn s.heap.get?, smB (s.heap.get? sysModules))
  val := fun _ => (He.valD fn, true)
  says := fun _ h => (∃ K : PySem.W.Frag, K.In h ∧ He.SaysD fa fn K) ∧ ∃ o es ep, h.get? sysModules = some o ∧ o.data = .dict es ep
  of := fun _ s e => by
    obtain ⟨e1, e2⟩ := Prod.mk.inj e
    refine ⟨⟨_, He.frG_in, e1⟩, ?_⟩
    unfold smB at e2
    split at e2
    · rename_i q
      exact ⟨_, _, _, q, rfl⟩
    · cases e2
  keeps := fun _ _ _ ⟨⟨K, hK, c⟩, o, es, ep, h1, h2⟩ k => ⟨⟨K, PySem.W.Frag.In.keeps hK k, c⟩, o, es, ep, k _ _ h1, h2⟩
def obT (n : Nat) (fa : List He.Fa) (fn : List He.DefD) (s : PySem.W.SharedT) : He.AlD × Bool := (He.obsDG n fa fn (HandSHeadRun.getT s), smB (HandSHeadRun.getT s sysModules))
theorem obT_eq {n : Nat} {fa : List He.Fa} {fn : List He.DefD} (s : PySem.W.SharedT) : obT n fa fn s = (hookT n fa fn).obs s.abs := by
  have e : HandSHeadRun.getT s = s.abs.heap.get? := funext (HandSHeadRun.getT_eq s)
  unfold obT
  rw [e]
  rfl
theorem walk_law {l : PySem.W.OpenLaw} {q : Program} {loose : List Str} {XP : (Str → Option Value) → Heap → Prop} {fa : List He.Fa} {fn : List He.DefD} {j : Nat} {d : DefRec} (k : Nat)
    (hn : l.most = some 63) (hdf : d.params.defaults = []) (hr : Room k callerA) (t0 : ∀ p ∈ tabs0, p.1 ∈ ([] : List Addr))
    (F : ∀ (w : World) (mg : Str → Option Value) (f : Addr) (h : Heap) (K : PySem.W.Frag), K.In h → He.SaysD fa fn K → h.Ns mainGlobals mg → mg d.name = some (.ref f) →
      ∃ fd : FuncData, (∀ (s : Shared) (u : Value), BindsTo s fd ⟨[u], []⟩ [(("_law_script" : Str), u)]) ∧
        ∀ base : Heap, (SmP base) → Fn l.prog w K mg base k f fd ["_law_script"] (spLaw K)) :
    PySem.W.WalkO q loose XP (hookT j fa fn).says l.row.toRowW d [] (fun f vs => PySem.call f vs) := by
  refine Att.attach_call hn hdf fun w s₀ s₁ mg mb f o pm cd doc a vs ns G Y ho hd hcd hmg hobj hints hlen hg => ?_
  obtain ⟨⟨K, KX, c⟩, osm, es, ep, h1, h2⟩ := Y
  obtain ⟨fd, hb, hF⟩ := F w mg f _ K KX c G.T.g hmg
  exact law_run (cs := []) KX G.T.g G.T.b G.T.builtins G.T.nolimit G.T.nodigits hg h1 h2 (fun _ h => nomatch h) (fun _ h => nomatch h) (fun _ h => nomatch h) G.T.bmain t0 hobj hints hlen hr (fun base _ _ hs _ => hF base hs) hb
end TW
set_option linter.all false
set_option Elab.async false
namespace TW
open PySem PySem.Spec PyProof.Rows L2
section
variable {prog : Program} {w : World} {A : Around} {E : Value → Shared → Prop} {s : Shared}
end
section
variable {P : Addr → Prop} {G G' : Gh} {σ : L2.St} {H H' : Hp} {s s' : Sx} {v : V} {o : Opd} {W : Wish} {X : Cx} {k : Nat}
def backD : PyData → Option PyData
  | .tuple ds => some (.tuple ds.reverse)
  | _ => none
def eq0D : PyData → PyData → Option PyData
  | .list xs, .list [] => some (.bool xs.isEmpty)
  | .tuple xs, .tuple [] => some (.bool xs.isEmpty)
  | _, _ => none
def ne0D : PyData → PyData → Option PyData
  | .list xs, .list [] => some (.bool (!xs.isEmpty))
  | .tuple xs, .tuple [] => some (.bool (!xs.isEmpty))
  | _, _ => none
def rEq0 (K : PySem.W.Frag) (f : Bool → Bool) : R2 := fun x y H Q => ∃ a b xs, x = .ref a ∧ y = .ref b ∧ ((SqL K H a xs ∧ SqL K H b []) ∨ (SqT K H a xs ∧ SqT K H b [])) ∧ Q (.bl (f xs.isEmpty)) H
theorem list0 {its : List Value} {xs : List V} (r : Vals xs its) : its.isEmpty = xs.isEmpty := by
  cases r <;> rfl
theorem op_eq0 (hu : X.A.units + 64 < cLine) : OpR X (compareOp .Eq) (rEq0 X.K id) := by
  intro pins s σ H x y v u Q I rx ry h
  obtain ⟨a, b, xs, rfl, rfl, hh, q⟩ := h
  cases rx
  cases ry
  rcases hh with ⟨ha, hb⟩ | ⟨ha, hb⟩
  · obtain ⟨its, r, p, _⟩ := I.list ha
    obtain ⟨its2, r2, p2, _⟩ := I.list hb
    cases r2
    cases its with
    | nil =>
      cases r
      refine SeqAt.RcAt.lists (e := fun _ => true) p.isList p2.isList rfl (by omega) (fun j j1 _ => absurd j1 (Nat.not_lt_zero _)) X.prog X.w _ _ ⟨.bl true, H, I, rfl, q⟩
    | cons i is =>
      cases r
      exact SeqAt.RcAt.lists_lengths p.isList p2.isList (by simp) (by omega) X.prog X.w _ _ ⟨.bl false, H, I, rfl, q⟩
  · obtain ⟨its, r, p, _⟩ := I.tuple ha
    obtain ⟨its2, r2, p2, _⟩ := I.tuple hb
    cases r2
    have := SeqAt.RcAt.tuples (A := X.A) (s := s) (e := fun _ => true) p p2 (by omega) (fun j _ j2 => absurd j2 (Nat.not_lt_zero _)) X.prog X.w X.xe (EP X pins σ Q)
    refine this ⟨.bl xs.isEmpty, H, I, ?_, q⟩
    rw [← list0 r]
    cases its <;> rfl
theorem op_ne0 (hu : X.A.units + 64 < cLine) : OpR X (compareOp .NotEq) (rEq0 X.K not) := by
  intro pins s σ H x y v u Q I rx ry h
  obtain ⟨a, b, xs, rfl, rfl, hh, q⟩ := h
  cases rx
  cases ry
  rcases hh with ⟨ha, hb⟩ | ⟨ha, hb⟩
  · obtain ⟨its, r, p, _⟩ := I.list ha
    obtain ⟨its2, r2, p2, _⟩ := I.list hb
    cases r2
    cases its with
    | nil =>
      cases r
      refine SeqAt.RcNeAt.lists (e := fun _ => true) p.isList p2.isList rfl (by omega) (fun j j1 _ => absurd j1 (Nat.not_lt_zero _)) X.prog X.w _ _ ⟨.bl false, H, I, rfl, q⟩
    | cons i is =>
      cases r
      exact SeqAt.RcNeAt.lists_lengths p.isList p2.isList (by simp) (by omega) X.prog X.w _ _ ⟨.bl true, H, I, rfl, q⟩
  · obtain ⟨its, r, p, _⟩ := I.tuple ha
    obtain ⟨its2, r2, p2, _⟩ := I.tuple hb
    cases r2
    have := SeqAt.RcNeAt.tuples (A := X.A) (s := s) (e := fun _ => true) p p2 (by omega) (fun j _ j2 => absurd j2 (Nat.not_lt_zero _)) X.prog X.w X.xe (EP X pins σ Q)
    refine this ⟨.bl (!xs.isEmpty), H, I, ?_, q⟩
    rw [← list0 r]
    cases its <;> rfl
theorem ok_eq0 {f : Bool → Bool} {g : PyData → PyData → Option PyData} (h1 : ∀ xs, g (.list xs) (.list []) = some (.bool (f xs.isEmpty))) (h2 : ∀ xs, g (.tuple xs) (.tuple []) = some (.bool (f xs.isEmpty))) (h3 : ∀ d e z, g d e = some z → (∃ xs, d = .list xs ∧ e = .list []) ∨ ∃ xs, d = .tuple xs ∧ e = .tuple []) : OpOk (rEq0 X.K f) g := by
  intro P G σ H s x y d e z Q R cx cy ez h
  rcases h3 d e z ez with ⟨xs, rfl, rfl⟩ | ⟨xs, rfl, rfl⟩
  · rw [h1] at ez
    cases ez
    obtain ⟨a, vs, rfl, e1, r1⟩ := cx
    obtain ⟨b, ws, rfl, e2, r2⟩ := cy
    cases r2
    refine ⟨a, b, vs, rfl, rfl, .inl ⟨SqL.of e1, SqL.of e2⟩, ?_⟩
    rw [show vs.isEmpty = xs.isEmpty by cases r1 <;> rfl]
    exact h G _ H .refl R (.bl _)
  · rw [h2] at ez
    cases ez
    obtain ⟨a, vs, rfl, f1, e1, r1⟩ := cx.tup
    obtain ⟨b, ws, rfl, f2, e2, r2⟩ := cy.tup
    cases r2
    refine ⟨a, b, vs, rfl, rfl, .inr ⟨SqT.of e1, SqT.of e2⟩, ?_⟩
    rw [show vs.isEmpty = xs.isEmpty by cases r1 <;> rfl]
    exact h G _ H .refl R (.bl _)
theorem eq0_inv {d e z : PyData} (h : eq0D d e = some z) : (∃ xs, d = .list xs ∧ e = .list []) ∨ ∃ xs, d = .tuple xs ∧ e = .tuple [] := by
  unfold eq0D at h
  split at h
  · exact .inl ⟨_, rfl, rfl⟩
  · exact .inr ⟨_, rfl, rfl⟩
  · cases h
theorem ne0_inv {d e z : PyData} (h : ne0D d e = some z) : (∃ xs, d = .list xs ∧ e = .list []) ∨ ∃ xs, d = .tuple xs ∧ e = .tuple [] := by
  unfold ne0D at h
  split at h
  · exact .inl ⟨_, rfl, rfl⟩
  · exact .inr ⟨_, rfl, rfl⟩
  · cases h
end
end TW
set_option linter.all false
set_option Elab.async false
namespace TW
open PySem PySem.Spec PyProof.Rows L2 HT
theorem tuple_mulS (l : Addr) (items : Array Value) (n : Nat) (sl : Array (Option Value)) (dd : Option Addr) (x : Int) (u : Tok) (c0 : (decide (x < -(2 ^ 63)) || decide (x ≥ 2 ^ 63)) = false) (c1 : (items.isEmpty || x == 1) = true) :
    Meets (Builtin.«tuple.__mul__» ⟨[.ref l, .int x u], []⟩) (fun _ R s => s.heap.get? l = some { cls := .type "tuple", dict := dd, data := .seq items n, slots := sl } ∧ R (.ok (.ret (Value.ref l))) s) :=
  .of_wp fun prog w A R s h => by
    obtain ⟨hp, g, d, tk, os⟩ := s
    obtain ⟨hl, h⟩ := h
    have f1 := AutoSeq1.idx_int
    wp_walk using wpAny_loadPart' hl
    repeat (first
      | (refine wpAny_ite_false (decide_eq_false (by rw [c0]; exact Bool.false_ne_true)) ?_; wp_walk using wpAny_loadPart' hl)
      | (refine wpAny_ite_true (decide_eq_true (by rw [c1])) ?_; wp_walk using wpAny_loadPart' hl))
    exact ⟨_, rfl, h⟩
def rRepS (K : PySem.W.Frag) : R2 := fun x y H Q => ∃ l k xs, x = .ref l ∧ y = .int k ∧ SqT K H l xs ∧ (xs = [] ∨ k = 1) ∧ (-(2 ^ 63) ≤ k ∧ k < 2 ^ 63) ∧ Q (.ref l) H
section
variable {P : Addr → Prop} {G G' : Gh} {σ : L2.St} {H H' : Hp} {s s' : Sx} {v : V} {o : Opd} {W : Wish} {X : Cx} {k : Nat}
theorem op_repS : OpR X (binaryOp .Mult) (rRepS X.K) := by
  intro pins s σ H x y v u Q I rx ry h
  obtain ⟨l, k, xs, rfl, rfl, hT, hc1, hb, q⟩ := h
  cases rx
  obtain ⟨t, rfl⟩ := ry
  obtain ⟨its, r, ⟨⟨cls, dd, data, sl⟩, ho, hc, n, hd⟩, hs⟩ := I.tuple hT
  simp only at hc hd
  subst hc hd
  have c0 : (decide (k < -(2 ^ 63)) || decide (k ≥ 2 ^ 63)) = false := by
    rw [decide_eq_false (by omega), decide_eq_false (by omega)] <;> rfl
  have c1 : (its.toArray.isEmpty || k == 1) = true := by
    rcases hc1 with rfl | rfl
    · cases r; rfl
    · simp
  exact wpAny_binaryOp_repeat_ref (T := "tuple") (U := "int") (by decide) ⟨_, ho, rfl⟩ (fun s' => typeIs_int s' k t) noFill_tuple_mul F.fills_int_mul F.slot_int_rmul repeat_tuple F.slot_int_index.lookup
    (call_meets F.slot_int_rmul (typeIs_int s k t) F.entry_int_rmul (F.args_int_rmul_2 _ _) (int_rmul_tuple k t l its.toArray n dd sl)
      ⟨ho, rfl, ⟨_, ho, rfl⟩, call_meets F.slot_tuple_mul ⟨_, ho, rfl⟩ F.entry_tuple_mul (F.args_tuple_mul_2 _ _) (tuple_mulS l its.toArray n sl dd k t c0 c1) ⟨ho, ⟨.ref l, H, I, rfl, q⟩⟩⟩)
def repD : PyData → PyData → Option PyData
  | .tuple xs, .int k => if xs = [] ∨ k = 1 then (if -(2 ^ 63) ≤ k ∧ k < 2 ^ 63 then some (.tuple xs) else none) else if 2 ≤ k ∧ k ≤ 1000 ∧ xs.length ≤ 1000 then some (.tuple (List.replicate k.toNat xs).flatten) else none
  | _, _ => none
theorem sd_opB {op : Operator} {f : PyData → PyData → Option PyData} {r : R2} {a b : Expr} {pos : Pos} {ma mb : M Opd} (hr : OpR X (binaryOp op) r) (ok : OpOk r f) (ha : Sd X W a ma) (hb : Sd X W b mb) : Sd X W (.BinOp a op b pos) (eOp f ma mb) := by
  obtain ⟨ta, pa, ca⟩ := ha.ex
  obtain ⟨tb, pb, cb⟩ := hb.ex
  exact ⟨_, pe_op hr pa pb, cl_op ok ca cb⟩
theorem sd_rep {a b : Expr} {pos : Pos} {ma mb : M Opd} (ha : Sd X W a ma) (hb : Sd X W b mb) : Sd X W (.BinOp a .Mult b pos) (eOp repD ma mb) := by
  refine sd_opB (op_repS.or op_repT) ?_ ha hb
  intro P G σ H s x y d e z Q R cx cy ez h
  unfold repD at ez
  split at ez
  · rename_i xs k
    obtain ⟨a1, vs, e1, f1, h1, r1⟩ := cx.tup
    split at ez
    · rename_i hc
      split at ez
      · rename_i hb
        cases ez
        refine .inl ⟨a1, k, vs, e1, cy.int_, SqT.of h1, ?_, hb, h G _ H .refl R ((by exact .tup f1 h1 r1))⟩
        rcases hc with rfl | rfl
        · cases r1; exact .inl rfl
        · exact .inr rfl
      · cases ez
    · rename_i hc
      split at ez
      · rename_i hb
        cases ez
        refine .inr ⟨a1, _, vs, e1, cy.int_, SqT.of h1, fun q => hc (.inl ?_), hb.1, hb.2.1, by rw [r1.length]; exact hb.2.2, fun p hp => ?_⟩
        · subst q
          cases r1
          rfl
        · obtain ⟨x, R', r⟩ := R.newTup hp (r1.rep _)
          exact h _ _ _ x R' r
      · cases ez
  · cases ez
theorem ct_flat {d : PyData} (c : Ct G H v d) (f : flatD d = true) : flatV v = true := by
  cases d <;> simp [flatD] at f
  · rw [c.none_]; rfl
  · rw [c.bool_]; rfl
  · rw [c.int_]; rfl
  · rw [c.str_]; rfl
theorem fz_flat {F : Addr → Prop} {d : PyData} (c : Fz F H v d) (f : flatD d = true) : flatV v = true := by
  cases d <;> simp [flatD] at f
  · rw [c.none_inv]; rfl
  · rw [c.bool_inv]; rfl
  · rw [c.int_inv]; rfl
  · rw [c.str_inv]; rfl
theorem eqV_eqv {F : Addr → Prop} {x y : V} {d e : PyData} (cx : Fz F H x d) (cy : Fz F H y e) (fd : flatD d = true) (fe : flatD e = true) : eqV x y = PyData.eqv d e := by
  cases d <;> simp [flatD] at fd <;> cases e <;> simp [flatD] at fe <;> cases cx <;> cases cy <;> simp [eqV, PyData.eqv]
theorem fza_in {F : Addr → Prop} {x : V} {d : PyData} (cx : Fz F H x d) (fd : flatD d = true) : ∀ {vs : List V} {ds : List PyData}, FzA F H vs ds → ds.all flatD = true → vs.all flatV = true ∧ inV x vs = member d ds
  | _, _, .nil, _ => ⟨rfl, rfl⟩
  | _, _, .cons a b, h => by
    rw [List.all_cons, Bool.and_eq_true] at h
    obtain ⟨h1, h2⟩ := fza_in cx fd b h.2
    refine ⟨by rw [List.all_cons, fz_flat a h.1, h1]; rfl, ?_⟩
    unfold inV member
    rw [List.any_cons, List.any_cons, eqV_eqv a cx h.1 fd]
    have : _ := h2
    unfold inV member at this
    rw [this]
theorem ct_fz {d : PyData} (c : Ct G H v d) (f : flatD d = true) : Fz G.F H v d := by
  cases d <;> first | (simp [flatD] at f; done) | exact c
def memD (neg : Bool) : PyData → PyData → Option PyData
  | x, .list xs => if flatD x && xs.all flatD then some (.bool (member x xs != neg)) else none
  | x, .tuple xs => if flatD x && xs.all flatD then some (.bool (member x xs != neg)) else none
  | _, _ => none
theorem ok_mem (neg : Bool) : OpOk (rIn X.K neg) (memD neg) := by
  intro P G σ H s x y d e z Q R cx cy ez h
  unfold memD at ez
  have fin : ∀ {vs : List V} {ds : List PyData}, FzA G.F H vs ds → (flatD d && ds.all flatD) = true → flatV x = true ∧ vs.all flatV = true ∧ (if neg then !inV x vs else inV x vs) = (member d ds != neg) := fun r hc => by
    rw [Bool.and_eq_true] at hc
    obtain ⟨h1, h2⟩ := fza_in (ct_fz cx hc.1) hc.1 r hc.2
    refine ⟨ct_flat cx hc.1, h1, ?_⟩
    rw [h2]
    cases neg <;> cases member d _ <;> rfl
  split at ez
  · split at ez <;> cases ez
    rename_i hc
    obtain ⟨a, vs, rfl, e1, r1⟩ := cy
    obtain ⟨f1, f2, f3⟩ := fin r1 hc
    exact ⟨a, vs, rfl, .inl (SqL.of e1), f1, f2, by rw [f3]; exact h G _ H .refl R (.bl _)⟩
  · split at ez <;> cases ez
    rename_i hc
    obtain ⟨a, vs, rfl, _, e1, r1⟩ := cy.tup
    obtain ⟨f1, f2, f3⟩ := fin r1 hc
    exact ⟨a, vs, rfl, .inr (SqT.of e1), f1, f2, by rw [f3]; exact h G _ H .refl R (.bl _)⟩
  · cases ez
theorem ors_app {vs : List V} {ds : List PyData} (rr : FzA G.F H vs ds) {ws : List V} {os : List Opd} (r2 : ORs G σ H ws os) : ORs G σ H (vs ++ ws) (ds.map Opd.val ++ os) := by
  match vs, ds, rr with
  | _, _, .nil => exact r2
  | _, _, .cons a b => exact .cons a (ors_app b r2)
theorem sa_star {e : Expr} {es : List Expr} {p : Pos} {m : M Opd} {r : M (List Opd)} (h : Sd X W e m) (hr : SdA X W es r) (hs : starEach (.Starred e p :: es) X.env = (true, eval e X.env) :: starEach es X.env := by rfl) : SdA X W (.Starred e p :: es) (aStar m r) := by
  obtain ⟨te, pe, ce⟩ := h.ex
  obtain ⟨ta, pa, ca⟩ := hr.ex
  refine ⟨_, StX.pa_star pe pa hs, ?_⟩
  intro P G σ H s Q R hw
  unfold aStar at hw
  refine ce.bind PostA.mono R hw fun o1 s1 G1 v1 H1 x1 R1 r1 hw1 => ?_
  rw [pw_bind] at hw1
  unfold itemsO at hw1
  obtain ⟨d, c1, hw2⟩ := peek_ok R1 r1 (W.stuck _ _ _) hw1
  have fin : ∀ {a : Addr} {vs : List V} {ds : List PyData}, v1 = .ref a → (SqT X.K H1 a vs ∨ SqL X.K H1 a vs) → FzA G1.F H1 vs ds → pw (r >>= fun os => pure (ds.map Opd.val ++ os)) s1 (PostA P σ Q G1 H1) (W.w P G1 H1) →
      ∃ p xs, v1 = V.ref p ∧ (SqT X.K H1 p xs ∨ SqL X.K H1 p xs) ∧ ta σ H1 fun ys H2 => Q (xs ++ ys) H2 := by
    intro a vs ds e1 hx rr hw3
    refine ⟨a, vs, e1, hx, ?_⟩
    refine ca.bind PostA.mono R1 hw3 fun os s2 G2 ws H2 x2 R2 r2 hw4 => ?_
    refine hw4 G2 _ H2 .refl R2 ?_
    exact ors_app (rr.ext x2) r2
  cases d with
  | list ds =>
    obtain ⟨a, vs, e1, e2, rr⟩ := c1
    exact fin e1 (.inr (SqL.of e2)) rr hw2
  | tuple ds =>
    obtain ⟨a, vs, e1, _, e2, rr⟩ := c1.tup
    exact fin e1 (.inl (SqT.of e2)) rr hw2
  | none => exact absurd hw2 (W.stuck _ _ _)
  | bool _ => exact absurd hw2 (W.stuck _ _ _)
  | int _ => exact absurd hw2 (W.stuck _ _ _)
  | str _ => exact absurd hw2 (W.stuck _ _ _)
  | dict _ => exact absurd hw2 (W.stuck _ _ _)
def nDict0 : M PyData := pure (.dict [])
def nDict1 (k : Str) (m : M Opd) : M PyData := noX (do let o ← m; let d ← take o; pure (.dict [(.str k, d)]))
end
end TW
set_option linter.all false
set_option Elab.async false
namespace TW
open PySem PySem.Spec PyProof.Rows L2
theorem tb_len : bootBuiltins "len" = some (.builtin "len") := by decide +kernel
theorem tb_abs : bootBuiltins "abs" = some (.builtin "abs") := by decide +kernel
theorem tb_all : bootBuiltins "all" = some (.builtin "all") := by decide +kernel
theorem tb_repr : bootBuiltins "repr" = some (.builtin "repr") := by decide +kernel
theorem tb_isinstance : bootBuiltins "isinstance" = some (.builtin "isinstance") := by decide +kernel
theorem tb_int : bootBuiltins "int" = some (.type "int") := by decide +kernel
theorem tb_bool : bootBuiltins "bool" = some (.type "bool") := by decide +kernel
theorem tb_str : bootBuiltins "str" = some (.type "str") := by decide +kernel
theorem tb_tuple : bootBuiltins "tuple" = some (.type "tuple") := by decide +kernel
section
variable {P : Addr → Prop} {G G' : Gh} {σ : L2.St} {H H' : Hp} {s s' : Sx} {v : V} {o : Opd} {W : Wish} {X : Cx} {k : Nat} {tg : Expr}
section
variable {elt iter : Expr} {ifs : List Expr} {scope : Scope} {own : List (Str × Nat)} {pos : Pos} {mi : M (List PyData)} {t : PyData → M Unit} {c : M Bool} {e : M Opd}
theorem ss_cmpD {i : Nat} {y : Str} {py spos : Pos} (own : List (Str × Nat)) (C : Cok X k) (hy : X.N[i]? = some y) (hyl : X.env.scope.names.lookup y = some .local)
    (hsw : swapsWith (.ListComp elt [⟨tg, iter, ifs, 0⟩] scope pos) (some (.Name y py)) spos.line X.env = pure true) (hi : SdI X W tg iter mi) (ok : BlkOk X.N X.env.scope scope own)
    (hg : ∀ (s : Shared) (H : Hp) (D : Addr) (cl : List (Str × Addr)) (fp : List Addr), SdGw (X.blk s H scope (compEnvC scope cl D X.env) fp) Wish.no (own.map (·.2)) tg t)
    (ht : ∀ (s : Shared) (H : Hp) (D : Addr) (cl : List (Str × Addr)) (fp : List Addr), SdTs (X.blk s H scope (compEnvC scope cl D X.env) fp) Wish.no ifs c)
    (he : ∀ (s : Shared) (H : Hp) (D : Addr) (cl : List (Str × Addr)) (fp : List Addr), Sd (X.blk s H scope (compEnvC scope cl D X.env) fp) Wish.no elt e)
    (hs : ∀ x, foldedSetIterable iter X.env x = pure x := by intro _; rfl) : SdS X W (.Assign [.Name y py] (.ListComp elt [⟨tg, iter, ifs, 0⟩] scope pos) spos) (TW.sAsg i (eNw (nCmp (own.map (·.2)) mi t c e))) := by
  obtain ⟨wi, pi, ci⟩ := hi.ex
  refine ⟨_, ps_setLc C.calm C.nd hy hyl hsw pi ok (fun s H D cl fp => (hg s H D cl fp).pg) (fun s H D cl fp => (ht s H D cl fp).pts) (fun s H D cl fp => (he s H D cl fp).pe) hs, ?_⟩
  intro P G σ H s D R hw
  unfold TW.sAsg at hw
  refine (cl_nw (cl_cmp ci)).bind PostS.mono R hw fun o1 s1 G1 v1 H1 x1 R1 r1 hw1 => ?_
  obtain ⟨G2, s2, d, x2, R2, z, hw2⟩ := take_ok PostS.mono R1 r1 hw1
  exact hw2 _ _ _ .refl (R2.setDat i z)
end
theorem sw_cmp {elt : Expr} {gs : List Comprehension} {scope : Scope} {pos py : Pos} {y : Str} {l : Nat} {env : Env} (hk : env.scope.kind = .function) (hy : env.scope.names.lookup y = some .local) (hl : (py.line == pos.line) = true)
    (ha : (scope.names.any fun (n, k) => n == y && (k == .local || k == .cell)) = false) : swapsWith (.ListComp elt gs scope pos) (some (.Name y py)) l env = pure true := sw_true hk hy hl ha
end
structure FnX (P : Program) (w : World) (K : PySem.W.Frag) (mg : Str → Option Value) (base : Heap) (k : Nat) (x : Str) (ps : List Str) (F : Sem) : Prop where
  ex : ∃ fd, Fn P w K mg base k (He.fAd K (x, none)) fd ps (spF ps.length F) ∧ Binds K fd ps []
def wFuel : Nat := 1000000
section
variable {P : Program} {w : World} {K : PySem.W.Frag} {mg : Str → Option Value} {base : Heap} {X : Cx} {k : Nat} {W : Wish}
theorem FnX.mono {j k : Nat} {x : Str} {ps : List Str} {F : Sem} (f : FnX P w K mg base j x ps F) (h : j ≤ k) : FnX P w K mg base k x ps F := let ⟨fd, a, b⟩ := f.ex; ⟨fd, a.mono h, b⟩
theorem sd_callX {F : Sem} {j : Nat} {ps : List Str} {x : Str} {p pos : Pos} {e : Expr} {es : List Expr} {ma : M (List Opd)} (C : Cok X k) (Fo : FnX X.prog X.w X.K X.mg X.base j x ps F) (hj : j ≤ k) (hg : Gl X x) (hm : X.mg x = some (.ref (He.fAd X.K (x, none))))
    (hk : PySem.W.keepIn X.K (.ref (He.fAd X.K (x, none))) = true) (ha : SdA X W (e :: es) ma) (hn : (e :: es).length = ps.length := by rfl) (hdb : (x == ("__debug__" : Str)) = false := by decide)
    (he : starEach (e :: es) X.env = (false, eval e X.env) :: starEach es X.env := by rfl) (hpl : (backTo pos (starEach es X.env)).any (·.1) = false := by rfl) : Sd X W (.Call (.Name x p) (e :: es) [] pos) (eCall ps.length F ma) :=
  let ⟨_, a, b⟩ := Fo.ex
  sd_call C a hj hg hm hk b ha hn hdb he hpl
end
theorem room66 {k : Nat} {A : Around} (r : Room k A) : A.units + 66 < cLine := by have := r.un; omega
theorem room1 {k : Nat} {A : Around} (r : Room k A) : A.units + 1 < cLine := by have := r.un; omega
end TW
set_option linter.all false
set_option Elab.async false
namespace TW
open PySem PySem.Spec PyProof.Rows L2
section
variable {W : Wish} {X : Cx} {k : Nat} {a b c : Expr} {pos : Pos} {ma mb mc : M Opd}
theorem st_opR {op : CmpOp} {f : PyData → PyData → Option PyData} {r : R2} (hr : OpR X (compareOp op) r) (ok : OpOk r f) (ha : Sd X W a ma) (hb : Sd X W b mb) (hm : behindInMarks op b = false) : SdT X W (.Compare a [op] [b] pos) (TW.tVal (eOp f ma mb)) := by
  obtain ⟨ta, pa, ca⟩ := ha.ex
  obtain ⟨tb, pb, cb⟩ := hb.ex
  exact ⟨_, pt_cmpR hr pa pb hm, cl_val (cl_op ok ca cb)⟩
theorem ok_eqD : OpOk (rEqD X.K) (cmpD .eq) := by
  intro P G σ H s x y d e z Q R cx cy ez h
  rw [cmpD_eq] at ez
  split at ez <;> cases ez
  rename_i hc
  rw [Bool.and_eq_true] at hc
  exact ⟨d, e, cx.dp hc.1, cy.dp hc.2, hc.1, hc.2, h G _ H .refl R (.bl _)⟩
theorem ok_neD : OpOk (rNeD X.K) (cmpD .ne) := by
  intro P G σ H s x y d e z Q R cx cy ez h
  rw [cmpD_ne] at ez
  split at ez <;> cases ez
  rename_i hc
  rw [Bool.and_eq_true] at hc
  exact ⟨d, e, cx.dp hc.1, cy.dp hc.2, hc.1, hc.2, h G _ H .refl R (.bl _)⟩
theorem ok_isN : OpOk (fun x y H Q => y = .non ∧ Q (.bl (decide (x = .non))) H) (cmpD .isN) := by
  intro P G σ H s x y d e z Q R cx cy ez h
  cases e <;> simp only [cmpD, reduceCtorEq] at ez
  cases ez
  refine ⟨cy.none_, ?_⟩
  rw [non_iff cx]
  exact h G _ H .refl R (.bl _)
theorem ok_notN : OpOk (fun x y H Q => y = .non ∧ Q (.bl (!decide (x = .non))) H) (cmpD .notN) := by
  intro P G σ H s x y d e z Q R cx cy ez h
  cases e <;> simp only [cmpD, reduceCtorEq] at ez
  cases ez
  refine ⟨cy.none_, ?_⟩
  rw [non_iff cx]
  exact h G _ H .refl R (.bl _)
theorem st_eq (C : Cok X k) (ha : Sd X W a ma) (hb : Sd X W b mb) : SdT X W (.Compare a [.Eq] [b] pos) (TW.tVal (eCmp .eq ma mb)) := st_opR (op_eqD C.room.units) ok_eqD ha hb (nomark _)
theorem st_ne (C : Cok X k) (ha : Sd X W a ma) (hb : Sd X W b mb) : SdT X W (.Compare a [.NotEq] [b] pos) (TW.tVal (eCmp .ne ma mb)) := st_opR (op_neD C.room.units) ok_neD ha hb (nomark _)
theorem st_lt (ha : Sd X W a ma) (hb : Sd X W b mb) : SdT X W (.Compare a [.Lt] [b] pos) (TW.tVal (eCmp .lt ma mb)) := st_opR op_lt ok_lt ha hb (nomark _)
theorem st_ge (ha : Sd X W a ma) (hb : Sd X W b mb) : SdT X W (.Compare a [.GtE] [b] pos) (TW.tVal (eCmp .ge ma mb)) := st_opR op_ge ok_ge ha hb (nomark _)
theorem st_isN (ha : Sd X W a ma) (hb : Sd X W b mb) : SdT X W (.Compare a [.Is] [b] pos) (TW.tVal (eCmp .isN ma mb)) := st_opR op_isN ok_isN ha hb (nomark _)
theorem st_notN (ha : Sd X W a ma) (hb : Sd X W b mb) : SdT X W (.Compare a [.IsNot] [b] pos) (TW.tVal (eCmp .notN ma mb)) := st_opR op_notN ok_notN ha hb (nomark _)
theorem st_eq0 (C : Cok X k) (ha : Sd X W a ma) (hb : Sd X W b mb) : SdT X W (.Compare a [.Eq] [b] pos) (TW.tVal (eOp eq0D ma mb)) := st_opR (op_eq0 C.room.units) (ok_eq0 (fun _ => rfl) (fun _ => rfl) fun _ _ _ => eq0_inv) ha hb (nomark _)
theorem st_ne0 (C : Cok X k) (ha : Sd X W a ma) (hb : Sd X W b mb) : SdT X W (.Compare a [.NotEq] [b] pos) (TW.tVal (eOp ne0D ma mb)) := st_opR (op_ne0 C.room.units) (ok_eq0 (fun _ => rfl) (fun _ => rfl) fun _ _ _ => ne0_inv) ha hb (nomark _)
theorem st_in (ha : Sd X W a ma) (hb : Sd X W b mb) (hm : behindInMarks .In b = false := by first | exact nobehind _ (by decide) (by decide) | rfl) : SdT X W (.Compare a [.In] [b] pos) (TW.tVal (eOp (memD false) ma mb)) := st_opR op_in_seq (ok_mem false) ha hb hm
theorem st_nin (ha : Sd X W a ma) (hb : Sd X W b mb) (hm : behindInMarks .NotIn b = false := by first | exact nobehind _ (by decide) (by decide) | rfl) : SdT X W (.Compare a [.NotIn] [b] pos) (TW.tVal (eOp (memD true) ma mb)) := st_opR op_notIn_seq (ok_mem true) ha hb hm
theorem cl_chn {f g : PyData → PyData → Option PyData} {r r' : R2} {ta tb tc : TE} (ok : OpOk r f) (ok' : OpOk r' g) (ca : ClE W ta ma) (cb : ClE W tb mb) (cc : ClE W tc mc) : ClE W (tChain r r' ta tb tc) (eChn f g ma mb mc) := by
  intro P G σ H s Q R hw
  unfold eChn at hw
  refine ca.bind PostV.mono R hw fun o1 s1 G1 v1 H1 x1 R1 r1 hw1 => ?_
  refine cb.bind PostV.mono R1 hw1 fun o2 s2 G2 v2 H2 x2 R2 r2 hw2 => ?_
  obtain ⟨d, c1, hw3⟩ := peek_ok R2 (OR.ext x2 r1) (W.stuck _ _ _) hw2
  obtain ⟨e, c2, hw4⟩ := peek_ok R2 r2 (W.stuck _ _ _) hw3
  rw [pw_bind, pw_optM (W.stuck _ _ _)] at hw4
  obtain ⟨z, ez, hw5⟩ := hw4
  rw [pw_bind, pw_optM (W.stuck _ _ _)] at hw5
  obtain ⟨t, et, hw6⟩ := hw5
  refine ok P G2 σ H2 s2 v1 v2 d e z _ R2 c1 c2 ez fun G3 v3 H3 x3 R3 r3 => ?_
  cases z <;> simp only [boolD, reduceCtorEq] at et
  cases et
  refine ⟨t, r3.bool_inv, ?_⟩
  have hw6 := pw_ext (m := if t = true then _ else _) PostV.mono x3 hw6
  cases t with
  | false => exact hw6 G3 _ H3 .refl R3 (.bl _)
  | true =>
    refine cc.bind PostV.mono R3 hw6 fun o4 s4 G4 v4 H4 x4 R4 r4 hw7 => ?_
    obtain ⟨y', c3, hw8⟩ := peek_ok R4 (OR.ext (x3.trans x4) r2) (W.stuck _ _ _) hw7
    obtain ⟨w, c4, hw9⟩ := peek_ok R4 r4 (W.stuck _ _ _) hw8
    rw [pw_bind, pw_optM (W.stuck _ _ _)] at hw9
    obtain ⟨u, eu, hw10⟩ := hw9
    exact ok' P G4 σ H4 s4 v2 v4 y' w u Q R4 c3 c4 eu fun G' v H' x R' r => hw10 G' v H' x R' r
theorem st_chn {op op' : CmpOp} {f g : PyData → PyData → Option PyData} {r r' : R2} (hr : OpR X (compareOp op) r) (hr' : OpR X (compareOp op') r') (ok : OpOk r f) (ok' : OpOk r' g) (ha : Sd X W a ma) (hb : Sd X W b mb) (hc : Sd X W c mc)
    (hm : lastMarks [op, op'] [b, c] = false := by rfl) : SdT X W (.Compare a [op, op'] [b, c] pos) (TW.tVal (eChn f g ma mb mc)) := by
  obtain ⟨ta, pa, ca⟩ := ha.ex
  obtain ⟨tb, pb, cb⟩ := hb.ex
  obtain ⟨tc, pc, cc⟩ := hc.ex
  exact ⟨_, pt_chain hr hr' pa pb pc hm, cl_val (cl_chn ok ok' ca cb cc)⟩
end
end TW
set_option linter.all false
set_option Elab.async false
namespace TW
open PySem PySem.Spec PyProof.Rows L2
section
variable {P : Addr → Prop} {G G' : Gh} {σ : L2.St} {H H' : Hp} {s s' : Sx} {v : V} {o : Opd} {W : Wish} {X : Cx} {k : Nat}
def nOp (f : PyData → PyData → Option (List PyData)) (a b : M Opd) : M PyData := do let o ← a; let p ← b; let x ← peek o; let y ← peek p; let z ← optM (f x y); pure (.list z)
def catD : PyData → PyData → Option (List PyData)
  | .list xs, .list ys => if xs.length + ys.length ≤ lim then some (xs ++ ys) else none
  | _, _ => none
def nList (a : M (List Opd)) : M PyData := do let os ← a; let xs ← peeks os; match xs with
  | [.list ds] => pure (.list ds)
  | [.tuple ds] => pure (.list ds)
  | _ => stuck
end
end TW
set_option linter.all false
set_option Elab.async false
namespace TW
open PySem PySem.Spec PyProof.Rows L2
section
variable {X : Cx} {pins : List (Addr × Obj)} {σ : L2.St} {H H' : Hp} {s : Shared} {a : Addr}
end
section
variable {F : Addr → Prop} {H : Hp}
end
end TW
set_option linter.all false
set_option Elab.async false
namespace TW
open PySem PySem.Spec PyProof.Rows L2
def isTupD : PyData → Bool
  | .tuple _ => true
  | _ => false
section
variable {P : Addr → Prop} {G : Gh} {σ : L2.St} {H : Hp} {s : Sx} {v : V} {a : Addr}
end
section
variable {P : Addr → Prop} {G : Gh} {σ : L2.St} {H H' : Hp} {s : Sx} {v : V} {a : Addr} {W : Wish} {X : Cx} {k : Nat}
end
end TW
set_option linter.all false
set_option Elab.async false
namespace TW
open PySem PySem.Spec PyProof.Rows L2
section
variable {P : Addr → Prop} {G : Gh} {σ : L2.St} {H H' : Hp} {s : Sx} {v : V} {a : Addr} {W : Wish} {X : Cx} {k : Nat}
end
end TW
set_option Elab.async false
set_option linter.all false
set_option maxRecDepth 100000
set_option maxHeartbeats 4000000
namespace TW
open PySem PySem.Spec PyProof.Rows L2
section
variable {P : Program} {w : World} {A : Around} {E : Value → Shared → Prop} {s : Shared}
set_option maxRecDepth 100000 in
set_option maxHeartbeats 3200000 in
theorem call_set_lstI {l : Addr} {items : Array Value} (ns : List Int) {Q : Value → Shared → Prop} (hh : A.handled = none) (hl : s.heap.IsList l items) (hit : IntsAre items.toList ns) (hb : ns.length + 1 < scanBound)
    (h : ∀ (h' : Heap) (tk c : Nat), SetR w h' s.heap.objs.size (fun j => decide (j ∈ ns)) c → c ≤ ns.length → (∀ b o, s.heap.get? b = some o → h'.get? b = some o) → Q (.ref s.heap.objs.size) { s with heap := h', toks := tk }) :
    wpAny (model P w) A (call (.type "set") [.ref l]) Q E s := by
  have hisz : items.size = ns.length := by
    have q := IntsAre.length hit
    rw [Array.length_toList] at q
    exact q
  obtain ⟨c, tl, hmro⟩ := F.called_set.mro
  have hmade := F.called_set.made
  have hsub := F.called_set.sub
  refine wpAny_call (codeAny_of_tree ?_)
  show wpAny _ _ (callAny (.type "set") _) _ _ _
  refine wpAny_pure ⟨Code.quiet_builtin _ (by decide +kernel), codeAny_builtin F.entry_type_call ?_⟩
  rw [Around.under_plain (weight_type_call_type "set" [.ref l] []) rfl]
  have h1 := F.called_set.notType
  have h2 := F.called_set.canCreate
  have hct := F.typeCall_set_1 (.ref l)
  repeat (any_goals (first | assumption | wp_step))
  refine codeAny_mono (code_set_led1 (.ref l) (E := E) (Q₁ := fun obj s₁ => obj = .ref s.heap.objs.size ∧ s₁ = { s with heap := s.heap.push { cls := .type "set", dict := none, data := .set #[] 0 (.fresh 0 0 (!w.params.followText "set-order")) } }) ⟨rfl, rfl⟩) fun r s₁ hr => ?_
  cases r with
  | error e => exact hr
  | ok fl =>
    cases fl with
    | ret obj =>
      obtain ⟨rfl, rfl⟩ := hr
      have hS : (s.heap.push { cls := .type "set", dict := none, data := .set #[] 0 (.fresh 0 0 (!w.params.followText "set-order")) }).get? s.heap.objs.size = some { cls := .type "set", dict := none, data := .set #[] 0 (.fresh 0 0 (!w.params.followText "set-order")) } := Heap.get?_push_size _ rfl
      have hT : Shared.TypeIs { s with heap := s.heap.push { cls := .type "set", dict := none, data := .set #[] 0 (.fresh 0 0 (!w.params.followText "set-order")) } } (.ref s.heap.objs.size) "set" := ⟨_, hS, rfl⟩
      have hli := F.called_set.init.lookup
      have hbi := F.called_set.init.bind (.ref s.heap.objs.size)
      repeat (any_goals (first | assumption | wp_step))
      refine codeAny_mono (codeAny_call_builtin (R := wants (fun r s₂ => r = .none ∧ ∃ h' tk c, s₂ = { s with heap := h', toks := tk } ∧ SetR w h' s.heap.objs.size (fun j => decide (j ∈ ns)) c ∧ c ≤ ns.length ∧
          (∀ b o, s.heap.get? b = some o → h'.get? b = some o)) E) F.called_set.init.plain F.entry_set_init (check_set_init_1 hT ?_)) fun r₂ s₂ hr₂ => ?_
      · obtain ⟨ol, hol, hcl, nl, hdl⟩ := hl
        obtain ⟨ocls, odict, odata, oslots⟩ := ol
        simp only at hcl hdl
        subst hcl; subst hdl
        have hol' : (s.heap.push { cls := .type "set", dict := none, data := .set #[] 0 (.fresh 0 0 (!w.params.followText "set-order")) }).get? l = some { cls := .type "list", dict := odict, data := .seq items nl, slots := oslots } := Heap.get?_push_of_some _ hol
        have hsls := F.sub_list_set
        have hslf := F.sub_list_frozenset
        have hne : (Value.type "list" == Value.type "dict") = false := by decide
        have hl1 : (s.heap.push { cls := .type "set", dict := none, data := .set #[] 0 (.fresh 0 0 (!w.params.followText "set-order")) }).IsList l items := ⟨_, hol', rfl, nl, rfl⟩
        unfold Builtin.«set.__init__» noKeywords Builtin.Frozenset.updateFrom
        generalize hPI : pyIter = PI
        wp_walk
        subst hPI
        refine wpAny_pyIter_list hl1 ?_
        refine wpAny_bind (wpAny_runValue ?_)
        have hlS : l < s.heap.objs.size := Heap.lt_size hol
        have hh3 : A.in1.in1.in1.handled = none := by simp [hh]
        have hz1 : (s.heap.push { cls := .type "set", dict := none, data := .set #[] 0 (.fresh 0 0 (!w.params.followText "set-order")) }).objs.size = s.heap.objs.size + 1 := Heap.size_push ..
        have hneI : l ≠ (s.heap.push { cls := .type "set", dict := none, data := .set #[] 0 (.fresh 0 0 (!w.params.followText "set-order")) }).objs.size := by
          rw [Heap.size_push]; exact Nat.ne_of_lt (Nat.lt_succ_of_lt hlS)
        have hSf : s.heap.objs.size ∉ [(s.heap.push { cls := .type "set", dict := none, data := .set #[] 0 (.fresh 0 0 (!w.params.followText "set-order")) }).objs.size, l] := by
          rw [Heap.size_push]; simp only [List.mem_cons, List.mem_singleton, List.not_mem_nil, or_false, not_or]
          exact ⟨Nat.ne_of_lt (Nat.lt_succ_self _), Nat.ne_of_gt hlS⟩
        have hval : ∀ (i : Nat) (v : Value), items[i]? = some v → ∃ k t, ns[i]? = some k ∧ v = .int k t := fun i v hv => by
          have hi : i < ns.length := by rw [← hisz]; exact (Array.getElem?_eq_some_iff.mp hv).1
          obtain ⟨t, e⟩ := PyProof.Rows.IntsAre.int_at hit i v (by rw [Array.getElem?_toList]; exact hv)
          refine ⟨ns[i], t, List.getElem?_eq_getElem hi, ?_⟩
          rw [e, List.getD_eq_getElem?_getD, List.getElem?_eq_getElem hi] <;> rfl
        refine set_update_ints ((Walks.list hh3 _ l hneI items).toS) s.heap.objs.size
          hSf ns hisz hb hval (items.size - 0) 0 _ (by omega) (Nat.zero_le _)
          ⟨⟨_, Heap.get?_push_size _ rfl, rfl, rfl⟩, (hl1.push _)⟩ ?hS0 ?hR
        case hS0 =>
          have hget : ((s.heap.push { cls := .type "set", dict := none, data := .set #[] 0 (.fresh 0 0 (!w.params.followText "set-order")) }).push { cls := .type "list_iterator", data := .fields #[.ref l, .int 0 0] }).get? s.heap.objs.size
              = some { cls := .type "set", dict := none, data := .set #[] 0 (.fresh 0 0 (!w.params.followText "set-order")) } := Heap.get?_push_of_some _ hS
          exact ⟨0, Nat.le_refl 0, setR_new_at hget⟩
        case hR =>
          intro s' c' hm hc' hS'
          obtain ⟨h', g2, d', tk', os'⟩ := s'
          have eg : g2 = s.gens := hm.gens
          have ed : d' = s.drawn := hm.drawn
          have eo : os' = s.os := hm.os
          subst eg; subst ed; subst eo
          show wpAny _ _ _ _ _ _
          refine wpAny_pure ?_
          show wpAny _ _ (ret Value.none) _ _ _
          rw [hisz] at hc'
          refine wpAny_pure ⟨rfl, h', tk', c', rfl, hS', hc', fun b o e => ?_⟩
          have hb0 : b < s.heap.objs.size := Heap.lt_size e
          have hb1 : b ≠ s.heap.objs.size := Nat.ne_of_lt hb0
          have hb2 : b ≠ (s.heap.push { cls := .type "set", dict := none, data := .set #[] 0 (.fresh 0 0 (!w.params.followText "set-order")) }).objs.size := by
            rw [Heap.size_push]; exact Nat.ne_of_lt (Nat.lt_succ_of_lt hb0)
          exact hm.heap b o (by simp only [List.mem_cons, List.mem_singleton, List.not_mem_nil, or_false, not_or]; exact ⟨hb1, hb2⟩) (Heap.get?_push_of_some _ (Heap.get?_push_of_some _ e))
      · cases r₂ with
        | error e => exact hr₂
        | ok fl₂ =>
          cases fl₂ with
          | ret r =>
            obtain ⟨rfl, h', tk, c', rfl, hS', hc', hk'⟩ := hr₂
            repeat (any_goals (first | assumption | wp_step))
            exact h _ _ _ hS' hc' hk'
          | _ => exact hr₂.elim
    | _ => exact hr.elim
end
end TW
set_option Elab.async false
set_option linter.all false
namespace TW
open PySem PySem.Spec PyProof.Rows L2
def insI (k : Int) : List Int → List Int
  | [] => [k]
  | a :: r => if k < a then k :: a :: r else if k = a then a :: r else a :: insI k r
def sortS : List Int → List Int
  | [] => []
  | a :: r => insI a (sortS r)
theorem mem_insI {k j : Int} : ∀ {l : List Int}, j ∈ insI k l ↔ j = k ∨ j ∈ l
  | [] => by simp [insI]
  | a :: r => by
    unfold insI
    split
    · simp
    · split
      · rename_i h; subst h; simp
      · rw [List.mem_cons, mem_insI (l := r), List.mem_cons]
        constructor
        · rintro (h | h | h)
          · exact .inr (.inl h)
          · exact .inl h
          · exact .inr (.inr h)
        · rintro (h | h | h)
          · exact .inr (.inl h)
          · exact .inl h
          · exact .inr (.inr h)
theorem mem_sortS {j : Int} : ∀ {l : List Int}, j ∈ sortS l ↔ j ∈ l
  | [] => by simp [sortS]
  | a :: r => by rw [sortS, mem_insI, mem_sortS, List.mem_cons]
theorem insI_lt {k : Int} : ∀ {l : List Int}, l.Pairwise (· < ·) → (insI k l).Pairwise (· < ·)
  | [], _ => by simp [insI]
  | a :: r, h => by
    obtain ⟨h1, h2⟩ := List.pairwise_cons.mp h
    unfold insI
    split
    · rename_i hk
      refine List.pairwise_cons.mpr ⟨fun j hj => ?_, h⟩
      rcases List.mem_cons.mp hj with e | e
      · rw [e]; exact hk
      · have := h1 j e; omega
    · split
      · exact h
      · refine List.pairwise_cons.mpr ⟨fun j hj => ?_, insI_lt h2⟩
        rcases mem_insI.mp hj with e | e
        · rw [e]; omega
        · exact h1 j e
theorem sortS_lt : ∀ {l : List Int}, (sortS l).Pairwise (· < ·)
  | [] => List.Pairwise.nil
  | a :: r => insI_lt sortS_lt
theorem nodup_lt {l : List Int} (h : l.Pairwise (· < ·)) : l.Nodup := h.imp fun h => by omega
theorem sortS_one {a l : List Int} (h : a.Pairwise (· < ·)) (hm : ∀ k, k ∈ a ↔ k ∈ l) : a = sortS l := by
  have p : a.Perm (sortS l) := (List.perm_ext_iff_of_nodup (nodup_lt h) (nodup_lt sortS_lt)).mpr fun k => by rw [hm, mem_sortS]
  exact p.eq_of_pairwise (fun _ _ _ _ h1 h2 => by omega) h sortS_lt
theorem length_sortS {a l : List Int} (h : a.Nodup) (hm : ∀ k, k ∈ a ↔ k ∈ l) : a.length = (sortS l).length :=
  ((List.perm_ext_iff_of_nodup h (nodup_lt sortS_lt)).mpr fun k => by rw [hm, mem_sortS]).length_eq
def sortedSetD : List PyData → Option PyData
  | [.list ds] => (intsOf ds).bind fun ns => if ns.length ≤ 4000 ∧ (sortS ns).length < 64 then some (.list ((sortS ns).map PyData.int)) else none
  | [.tuple ds] => (intsOf ds).bind fun ns => if ns.length ≤ 4000 ∧ (sortS ns).length < 64 then some (.list ((sortS ns).map PyData.int)) else none
  | _ => none
def rSS (K : PySem.W.Frag) : List V → Hp → VK → Prop := fun vs H Q => ∃ (a : Addr) (ns : List Int), vs = [.ref a] ∧ (SqL K H a (ns.map V.int) ∨ SqT K H a (ns.map V.int)) ∧ (ns.length ≤ 4000 ∧ (sortS ns).length < 64) ∧ ∀ p, H p = none → Q (.ref p) (upd H p (.lst ((sortS ns).map V.int)))
theorem set_of {X : Cx} {pins : List (Addr × Obj)} {s : Shared} {σ : L2.St} {H : Hp} {vs : List V} {us : List Value} {a : Addr} {ns : List Int} {Q : Value → Shared → Prop} (hc : X.calm = true) (I : Inv X pins σ H s) (r : Vals vs us) (ev : vs = [.ref a])
    (hq : SqL X.K H a (ns.map V.int) ∨ SqT X.K H a (ns.map V.int)) (hl : ns.length ≤ 4000 ∧ (sortS ns).length < 64)
    (h : ∀ (h' : Heap) (tk c : Nat), SetR X.w h' s.heap.objs.size (fun j => decide (j ∈ ns)) c → c = (sortS ns).length → (∀ b o, s.heap.get? b = some o → h'.get? b = some o) → Q (.ref s.heap.objs.size) { s with heap := h', toks := tk }) :
    wpAny (model X.prog X.w) X.A (call (.type "set") us) Q X.xe s := by
  subst ev
  rw [Vals.ref1 r]
  have fin : ∀ (h' : Heap) (tk c : Nat), SetR X.w h' s.heap.objs.size (fun j => decide (j ∈ ns)) c → c ≤ ns.length → (∀ b o, s.heap.get? b = some o → h'.get? b = some o) → Q (.ref s.heap.objs.size) { s with heap := h', toks := tk } := fun h' tk c R _ k => by
    refine h h' tk c R ?_ k
    obtain ⟨o, es, ep, t, ho, hex, hdt, g, nd, hmm, hb, hf, hn, hr, hl2⟩ := R
    have z := length_sortS (l := ns) nd fun k => by rw [← hmm k, decide_eq_true_eq]
    rw [List.length_map, Array.length_toList] at z
    rw [← z, hn]
  obtain ⟨hl, h64⟩ := hl
  rcases hq with hq | hq
  · obtain ⟨its, rv, pt, hz⟩ := I.list hq
    have hi : IntsAre its.toArray.toList ns := ints_of_vals rv
    exact call_set_lstI ns (I.ok.hd hc) pt.isList hi (by unfold scanBound; omega) fin
  · obtain ⟨its, rv, pt, hz⟩ := I.tuple hq
    have hi : IntsAre its.toArray.toList ns := ints_of_vals rv
    exact call_set_tupI ns (I.ok.hd hc) (show s.heap.IsTuple a its.toArray from pt) hi (by unfold scanBound; omega) fin
section
variable {X : Cx} {e : Expr} {ta : TA} {p p2 pos pos2 : Pos}
theorem pe_SS (hc : X.calm = true) (hg : Gl X "sorted") (hm : X.mg "sorted" = none) (hg2 : Gl X "set") (hm2 : X.mg "set" = none) (ha : PA X [e] ta)
    (hs : starEach [e] X.env = [(false, eval e X.env)] := by rfl) (hs2 : starEach [.Call (.Name "set" p2) [e] [] pos2] X.env = [(false, eval (.Call (.Name "set" p2) [e] [] pos2) X.env)] := by rfl) : PE X (.Call (.Name "sorted" p) [.Call (.Name "set" p2) [e] [] pos2] [] pos) (tCB (rSS X.K) ta) := by
  refine ⟨fun pins s σ H Q I h => ?_⟩
  refine Call_ (ld_blt I hg hm boot_sorted ?_)
  refine PyProof.Rows.callWith_builtin1 (PyProof.Rows.args_cons ?_ hs2) hs2 rfl
  refine Call_ (ld_blt I hg2 hm2 boot_set ?_)
  refine PyProof.Rows.callWith_type1 (thn (ha.run pos2 pins s σ H _ I h) fun us s1 ⟨vs, H1, I1, r1, q1⟩ => ?_) hs rfl
  obtain ⟨a, ns, ev, hq, hl, q⟩ := q1
  refine set_of hc I1 r1 ev hq hl fun h' tk c R hcn k => ?_
  refine PyProof.Rows.args_nil ?_
  have hd := I1.ok.hd hc
  have I2 : Inv X pins σ H1 { s1 with heap := h', toks := tk } := I1.kept fun b o e => k b o e
  refine sorted_set R hd (by rw [hcn]; exact hl.2) fun s' p out c ns' k2 g o hp hgt hi hsr hmm hll => ?_
  have es : ns' = sortS ns := sortS_one hsr fun k => by rw [hmm, decide_eq_true_eq]
  subst es
  have hlen : ((sortS ns).map V.int).length ≤ sizeLine := by rw [List.length_map, hll, sizeLine_eq]; have := hl.2; omega
  have hn : H1 p = none := I2.hok.fresh hp
  have J : Inv X pins σ (upd H1 p (.lst ((sortS ns).map V.int))) { ({ s1 with heap := h', toks := tk } : Shared) with heap := s'.heap, gens := s'.gens, drawn := s'.drawn, toks := s'.toks } :=
    I2.call (ch := []) (Un.laid k2 hp hn) (I2.hok.laid k2 hp ⟨hlen, out.toList, c, vals_of_ints hi, hgt⟩) (by rw [g]; exact I2.bare) (fun _ z => nomatch z)
  have e : s' = { ({ s1 with heap := h', toks := tk } : Shared) with heap := s'.heap, gens := s'.gens, drawn := s'.drawn, toks := s'.toks } := by
    cases s'
    cases s1
    cases o
    rfl
  rw [e]
  exact ⟨.ref p, _, J, rfl, q p hn⟩
end
section
variable {G : Gh} {W : Wish} {X : Cx} {k : Nat}
theorem ok_SS : CallOk (rSS X.K) sortedSetD := by
  intro P G σ H s vs ds z Q R cc ez h
  have fin : ∀ (ns : List Int) (p : Addr), H p = none → z = .list ((sortS ns).map PyData.int) → Q (.ref p) (upd H p (.lst ((sortS ns).map V.int))) := fun ns p hp ez => by
    subst ez
    obtain ⟨x, R', r'⟩ := R.newLst hp (FzA.of_ints (F := G.F) (ns := sortS ns))
    exact h _ _ _ x R' r'
  unfold sortedSetD at ez
  split at ez
  · rename_i ds
    cases q : intsOf ds with
    | none => rw [q] at ez; cases ez
    | some ns =>
      rw [q] at ez
      simp only [Option.bind_some] at ez
      split at ez <;> cases ez
      rename_i hl
      obtain ⟨v, rfl, a, xs, rfl, e, r⟩ := one_of cc
      rw [intsOf_eq q] at r
      exact ⟨a, ns, rfl, .inl (SqL.of (by rw [e, r.ints])), hl, fun p hp => fin ns p hp rfl⟩
  · rename_i ds
    cases q : intsOf ds with
    | none => rw [q] at ez; cases ez
    | some ns =>
      rw [q] at ez
      simp only [Option.bind_some] at ez
      split at ez <;> cases ez
      rename_i hl
      obtain ⟨v, rfl, c⟩ := one_of cc
      obtain ⟨a, xs, rfl, f, e, r⟩ := c.tup
      rw [intsOf_eq q] at r
      exact ⟨a, ns, rfl, .inr (SqT.of (by rw [e, r.ints])), hl, fun p hp => fin ns p hp rfl⟩
  · cases ez
variable {e : Expr} {p p2 pos pos2 : Pos} {ma : M (List Opd)}
theorem sd_SS (C : Cok X k) (hg : Gl X "sorted") (hm : X.mg "sorted" = none) (hg2 : Gl X "set") (hm2 : X.mg "set" = none) (ha : SdA X W [e] ma)
    (hs : starEach [e] X.env = [(false, eval e X.env)] := by rfl) (hs2 : starEach [.Call (.Name "set" p2) [e] [] pos2] X.env = [(false, eval (.Call (.Name "set" p2) [e] [] pos2) X.env)] := by rfl) : Sd X W (.Call (.Name "sorted" p) [.Call (.Name "set" p2) [e] [] pos2] [] pos) (eFn sortedSetD ma) := by
  obtain ⟨ta, pa, ca⟩ := ha.ex
  exact ⟨_, pe_SS C.calm hg hm hg2 hm2 pa hs hs2, cl_fn ok_SS ca⟩
end
end TW
set_option Elab.async false
set_option linter.all false
namespace TW
open PySem PySem.Spec PyProof.Rows L2
section
variable {P : Addr → Prop} {G G' : Gh} {σ : L2.St} {H H' : Hp} {s s' : Sx} {v : V} {o : Opd} {W : Wish} {X : Cx} {k : Nat} {tg : Expr}
end
end TW
set_option linter.all false
set_option Elab.async false
namespace TW
open PySem PySem.Spec PyProof.Rows L2
structure XAt (mg : Str → Option Value) (P : Addr → Prop) (G : Gh) (H : Hp) (c : Str) (fs : List (Str × PyData)) (cls : Value) (d : Option Addr) : Prop where
  c : mg c = some cls
  d : (fs = [] ∧ d = none) ∨ ∃ (dd : Addr) (vs : List (Str × V)), d = some dd ∧ H dd = some (.xd vs) ∧ (¬ G.F dd ∧ ¬ P dd ∧ dd ∉ G.bs) ∧ ∀ f y, fs.lookup f = some y → ∃ v, vs.lookup f = some v ∧ Fz G.F H v y
def wishX (mg : Str → Option Value) (W : WX) : Wish where
  w := fun P G H e => match e with
    | .stuck => False
    | .exc c fs r b => ∀ G' σ' H' cls d, Ext P G H G' H' → Rel P G' σ' H' ⟨r, b⟩ → XAt mg P G' H' c fs cls d → W cls d σ' H'
  stuck := fun _ _ _ h => h
  mono := fun {P G H G' H' e} h x => by
    cases e with
    | stuck => exact h
    | exc c fs r b => exact fun G'' σ' H'' cls d y R z => h G'' σ' H'' cls d (x.trans y) R z
structure FnE (P : Program) (w : World) (K : PySem.W.Frag) (mg : Str → Option Value) (base : Heap) (k : Nat) (f : Addr) (fd : FuncData) (ps : List Str) (sp : Sp) : Prop where
  len : ∀ vs H Q E, sp vs H Q E → vs.length = ps.length
  run : ∀ (A : Around) (outer : List Env) (s : Shared) (H : Hp) (args : Args) (us : List Value) (vs : List V) (Q : VK) (E : XK), Room k A → A.guards = some [] → Env0 P w K mg base A outer s H → BindsTo s fd args (ps.zip us) → Vals vs us → sp vs H Q E →
    codeAny (model P w) A (.call (.ref f) args) (CR (L2.CX P w) outer P w H s Q E) s
section
variable {P : Program} {w : World} {K : PySem.W.Frag} {mg : Str → Option Value} {base : Heap}
theorem FnE.mono {j k : Nat} {f : Addr} {fd : FuncData} {ps : List Str} {sp : Sp} (F : FnE P w K mg base j f fd ps sp) (h : j ≤ k) : FnE P w K mg base k f fd ps sp :=
  ⟨F.len, fun A outer s H args us vs Q E hr => F.run A outer s H args us vs Q E (hr.mono h)⟩
end
section
variable {P : Addr → Prop} {G G' : Gh} {σ : L2.St} {H H' : Hp} {s s' : Sx} {v : V} {o : Opd} {W : Wish} {X : Cx} {k : Nat}
def callX (n : Nat) (F : Sem) (as : List Arg) : M PyData := fun s => if as.length ≠ n then .error .stuck else match F as s.b with
  | .ok (d, b') => .ok (d, { s with b := b' })
  | .error .stuck => .error .stuck
  | .error (.exc c fs _ b') => .error (.exc c fs s.r b')
def eCallX (n : Nat) (F : Sem) (a : M (List Opd)) : M Opd := do let os ← a; let as ← hands os; let d ← callX n F as; pure (.val d)
end
end TW
set_option linter.all false
set_option Elab.async false
set_option maxRecDepth 100000
namespace TW
open PySem PySem.Spec PyProof.Rows L2
section
variable {P : Program} {w : World} {K : PySem.W.Frag} {mg : Str → Option Value} {base : Heap}
end
def throwM {α : Type} (c : Str) (fl : List Str) (ds : List PyData) : M α := fun s => if ds.length = fl.length ∧ ds.length ≤ 1000 then .error (.exc c (fl.zip ds) s.r s.b) else .error .stuck
def sRaise (c : Str) (fl : List Str) (a : M (List Opd)) : M Fl := do let os ← a; let ds ← takes os; throwM c fl ds
section
variable {P : Addr → Prop} {G G' : Gh} {σ : L2.St} {H H' : Hp} {s s' : Sx} {v : V} {o : Opd} {W : Wish} {X : Cx} {k : Nat}
end
end TW
set_option linter.all false
set_option Elab.async false
set_option maxRecDepth 100000
namespace PySem.W
open PySem PySem.Spec PySem.Calls PyProof.Rows
section
variable {prog : Program} {w : World} {A : Around} {E : Value → Shared → Prop} {s : Shared} {K : Frag} {x D : Addr} {ox : Obj} {od : Option Obj}
end
end PySem.W
namespace TW
open PySem PySem.Spec PyProof.Rows L2
def XdAt (H : Hp) (d : Option Addr) : Prop := d = none ∨ ∃ (dd : Addr) (vs : List (Str × V)), d = some dd ∧ H dd = some (.xd vs)
section
variable {X : Cx} {a : Addr} {oe : Obj} {cls : Value} {d : Option Addr} {pn : List (Addr × Obj)}
end
end TW
set_option linter.all false
set_option Elab.async false
set_option maxRecDepth 100000
namespace TW
open PySem PySem.Spec PyProof.Rows L2
abbrev Fs := List (Str × PyData)
structure SuK (i : Nat) (mg : Str → Option Value) (a : Addr) (cls : Value) (d : Option Addr) (c : Str) (fs : Fs) (P : Addr → Prop) (G : Gh) (σ : L2.St) (H : Hp) : Prop where
  s : σ[i]? = some (some (V.ref a))
  c : mg c = some cls
  d : (fs = [] ∧ d = none) ∨ ∃ (dd : Addr) (vs : List (Str × V)), d = some dd ∧ P dd ∧ H dd = some (.xd vs) ∧ ∀ f y, fs.lookup f = some y → ∃ v, vs.lookup f = some v ∧ Fz G.F H v y
section
variable {P : Addr → Prop} {G G' : Gh} {σ σ' : L2.St} {H H' : Hp} {s s' : Sx} {v : V} {o : Opd} {X : Cx} {k i : Nat} {mg : Str → Option Value} {a : Addr} {cls : Value} {d : Option Addr} {c : Str} {fs : Fs}
theorem SuK.ext (K : SuK i mg a cls d c fs P G σ H) (x : Ext P G H G' H') (h : σ'[i]? = some (some (V.ref a))) : SuK i mg a cls d c fs P G' σ' H' :=
  ⟨h, K.c, K.d.elim .inl fun ⟨dd, vs, h1, h2, h3, h4⟩ => .inr ⟨dd, vs, h1, h2, (x.kX h2 h3 (fun _ z => nomatch z) fun _ z => nomatch z).trans h3, fun f y e => let ⟨v, e1, e2⟩ := h4 f y e; ⟨v, e1, e2.ext x⟩⟩⟩
theorem SuK.xd (K : SuK i mg a cls d c fs P G σ H) : XdAt H d := K.d.elim (fun q => .inl q.2) fun ⟨dd, vs, h1, _, h3, _⟩ => .inr ⟨dd, vs, h1, h3⟩
def ClXE (i : Nat) (mg : Str → Option Value) (te : Addr → Value → Option Addr → TE) (m : Str → Fs → M Opd) : Prop := ∀ a cls d c fs P G σ H s (Q : VK), SuK i mg a cls d c fs P G σ H → Rel P G σ H s → pw (m c fs) s (PostV P σ Q G H) (Wish.no.w P G H) → te a cls d σ H Q
def ClXT (i : Nat) (mg : Str → Option Value) (te : Addr → Value → Option Addr → TT) (m : Str → Fs → M Bool) : Prop := ∀ a cls d c fs P G σ H s (Q : Bool → Hp → Prop), SuK i mg a cls d c fs P G σ H → Rel P G σ H s → pw (m c fs) s (PostB P σ Q G H) (Wish.no.w P G H) → te a cls d σ H Q
def ClXA (i : Nat) (mg : Str → Option Value) (te : Addr → Value → Option Addr → TA) (m : Str → Fs → M (List Opd)) : Prop := ∀ a cls d c fs P G σ H s (Q : List V → Hp → Prop), SuK i mg a cls d c fs P G σ H → Rel P G σ H s → pw (m c fs) s (PostA P σ Q G H) (Wish.no.w P G H) → te a cls d σ H Q
structure SXT (X : Cx) (i : Nat) (e : Expr) (m : Str → Fs → M Bool) : Prop where
  ex : ∃ te, (∀ a oe cls d pn, Zc cls d oe → (∃ vs, oe.data = .fields vs) → PT (X.suite a ((a, oe) :: pn)) e (te a cls d)) ∧ ClXT i X.mg te m
structure SXW (X : Cx) (i : Nat) (e : Expr) (m : Str → Fs → M Bool) : Prop where
  ex : ∃ te, (∀ a oe cls d pn, Zc cls d oe → (∃ vs, oe.data = .fields vs) → PW (X.suite a ((a, oe) :: pn)) e (te a cls d)) ∧ ClXT i X.mg te m
theorem ClXE.bind {α : Type} {te : Addr → Value → Option Addr → TE} {m : Str → Fs → M Opd} {f : Opd → M α} {Q : VK} {Qp : Gh → Hp → α → Sx → Prop} (z : ClXE i mg te m) (hm : Mono P Qp) (K : SuK i mg a cls d c fs P G σ H) (R : Rel P G σ H s) (hw : pw (m c fs >>= f) s (Qp G H) (Wish.no.w P G H))
    (k : ∀ o s1 G1 v H1, Ext P G H G1 H1 → SuK i mg a cls d c fs P G1 σ H1 → Rel P G1 σ H1 s1 → OR G1 σ H1 v o → pw (f o) s1 (Qp G1 H1) (Wish.no.w P G1 H1) → Q v H1) : te a cls d σ H Q := by
  rw [pw_bind] at hw
  exact z a cls d c fs P G σ H s Q K R (pw_mono hw (fun o s1 h G1 v H1 x R1 r => k o s1 G1 v H1 x (K.ext x K.s) R1 r (pw_ext hm x h)) fun _ q => q)
theorem ClXT.bind {α : Type} {te : Addr → Value → Option Addr → TT} {m : Str → Fs → M Bool} {f : Bool → M α} {Q : Bool → Hp → Prop} {Qp : Gh → Hp → α → Sx → Prop} (z : ClXT i mg te m) (hm : Mono P Qp) (K : SuK i mg a cls d c fs P G σ H) (R : Rel P G σ H s) (hw : pw (m c fs >>= f) s (Qp G H) (Wish.no.w P G H))
    (k : ∀ o s1 G1 H1, Ext P G H G1 H1 → SuK i mg a cls d c fs P G1 σ H1 → Rel P G1 σ H1 s1 → pw (f o) s1 (Qp G1 H1) (Wish.no.w P G1 H1) → Q o H1) : te a cls d σ H Q := by
  rw [pw_bind] at hw
  exact z a cls d c fs P G σ H s Q K R (pw_mono hw (fun o s1 h G1 H1 x R1 => k o s1 G1 H1 x (K.ext x K.s) R1 (pw_ext hm x h)) fun _ q => q)
theorem ClXA.bind {α : Type} {te : Addr → Value → Option Addr → TA} {m : Str → Fs → M (List Opd)} {f : List Opd → M α} {Q : List V → Hp → Prop} {Qp : Gh → Hp → α → Sx → Prop} (z : ClXA i mg te m) (hm : Mono P Qp) (K : SuK i mg a cls d c fs P G σ H) (R : Rel P G σ H s) (hw : pw (m c fs >>= f) s (Qp G H) (Wish.no.w P G H))
    (k : ∀ o s1 G1 v H1, Ext P G H G1 H1 → SuK i mg a cls d c fs P G1 σ H1 → Rel P G1 σ H1 s1 → ORs G1 σ H1 v o → pw (f o) s1 (Qp G1 H1) (Wish.no.w P G1 H1) → Q v H1) : te a cls d σ H Q := by
  rw [pw_bind] at hw
  exact z a cls d c fs P G σ H s Q K R (pw_mono hw (fun o s1 h G1 v H1 x R1 r => k o s1 G1 v H1 x (K.ext x K.s) R1 r (pw_ext hm x h)) fun _ q => q)
def isM (tab : Str → Option Bool) (c : Str) : M Opd := match tab c with
  | some b => pure (.val (.bool b))
  | none => stuck
def fldM (ok : Str → Bool) (f : Str) (c : Str) (fs : Fs) : M Opd := if ok c = true then (match fs.lookup f with
  | some y => pure (.val y)
  | none => stuck) else stuck
theorem SXW.st {e : Expr} {m : Str → Fs → M Bool} (h : SXW X i e m) : SXT X i e m := let ⟨t, p, c⟩ := h.ex; ⟨t, fun a oe cls d pn hz hf => (p a oe cls d pn hz hf).pt, c⟩
end
end TW
set_option linter.all false
set_option Elab.async false
set_option maxRecDepth 100000
namespace TW
open PySem PySem.Spec PyProof.Rows L2
def PostX (i : Nat) (a : Addr) (P : Addr → Prop) (D : Ends) (G : Gh) (H : Hp) (f : Fl) (s' : Sx) : Prop := match f with
  | .nx => ∀ G' σ' H', Ext P G H G' H' → Rel P G' σ' H' s' → σ'[i]? = some (some (V.ref a)) → D.nx σ' H'
  | .rt d => ∀ G' σ' v H', Ext P G H G' H' → Rel P G' σ' H' s' → Fz G'.F H' v d → D.rt v H'
  | .bk => ∀ G' σ' H', Ext P G H G' H' → Rel P G' σ' H' s' → D.bk σ' H'
  | .ct => ∀ G' σ' H', Ext P G H G' H' → Rel P G' σ' H' s' → D.ct σ' H'
section
variable {P : Addr → Prop} {G G' : Gh} {σ σ' : L2.St} {H H' : Hp} {s s' : Sx} {v : V} {o : Opd} {X : Cx} {k i : Nat} {mg : Str → Option Value} {a : Addr} {cls : Value} {d : Option Addr} {c : Str} {fs : Fs} {W : Wish}
theorem PostX.mono {D : Ends} : Mono P (PostX i a P D) := fun G H G1 H1 f s x h => by
  cases f with
  | nx => exact fun G' σ' H' y => h G' σ' H' (x.trans y)
  | rt d => exact fun G' σ' v H' y => h G' σ' v H' (x.trans y)
  | bk => exact fun G' σ' H' y => h G' σ' H' (x.trans y)
  | ct => exact fun G' σ' H' y => h G' σ' H' (x.trans y)
def sTry (i : Nat) (hn : Str → Bool) (mb : M Fl) (hd : Str → Fs → M Fl) : M Fl := fun s => match mb s with
  | .ok p => .ok p
  | .error .stuck => .error .stuck
  | .error (.exc c fs r b) => if hn c = true ∧ fs.length ≤ 1000 ∧ i < r.length then (match hd c fs ⟨r.set i .no, b⟩ with
    | .ok (f, s') => .ok (f, ⟨s'.r.set i .no, s'.b⟩)
    | .error _ => .error .stuck) else .error .stuck
end
end TW
set_option linter.all false
set_option Elab.async false
set_option maxRecDepth 100000
namespace TW
open PySem PySem.Spec PyProof.Rows L2
section
variable {P : Program} {w : World} {K : PySem.W.Frag} {mg : Str → Option Value} {base : Heap} {X : Cx} {k : Nat} {W : Wish} {WW : WX}
theorem Sd.no {mg' : Str → Option Value} {e : Expr} {m : M Opd} (h : Sd X (wishX mg' WW) e m) : Sd X Wish.no e m :=
  let ⟨t, p, c⟩ := h.ex; ⟨t, p, fun P G σ H s Q R hw => c P G σ H s Q R (pw_mono hw (fun _ _ h => h) fun _ h => h.elim)⟩
end
section
variable {P : Addr → Prop} {G G' : Gh} {σ : L2.St} {H H' : Hp} {s s' : Sx} {v : V} {o : Opd} {W : Wish} {X : Cx} {k : Nat}
end
def RunsX (F : Sem) (as : List Arg) (b : Option Bx) (Q : PyData → Option Bx → Prop) (Ex : Str → Fs → Option Bx → Prop) : Prop := match F as b with
  | .ok (d, b') => Q d b'
  | .error .stuck => False
  | .error (.exc c fs _ b') => Ex c fs b'
theorem runsX_of {n : Nat} {body : M Fl} {as : List Arg} {b : Option Bx} {Q : PyData → Option Bx → Prop} {Ex : Str → Fs → Option Bx → Prop}
    (h : pw body ⟨as.map argSV ++ List.replicate (n - as.length) .no, b⟩ (fun f s => match f with
      | .rt d => Q d s.b
      | .nx => Q .none s.b
      | _ => False) (fun e => match e with
      | .stuck => False
      | .exc c fs _ b' => Ex c fs b')) : RunsX (runF n body) as b Q Ex := by
  unfold pw at h
  unfold RunsX runF
  cases q : body ⟨as.map argSV ++ List.replicate (n - as.length) .no, b⟩ with
  | error e => rw [q] at h; cases e with
    | stuck => exact h.elim
    | exc c fs r b' => exact h
  | ok p =>
    obtain ⟨f, s⟩ := p
    rw [q] at h
    cases f with
    | nx => exact h
    | rt d => exact h
    | bk => exact h.elim
    | ct => exact h.elim
end TW
set_option linter.all false
set_option Elab.async false
set_option maxRecDepth 100000
namespace TW
open PySem PySem.Spec PyProof.Rows L2
def tabL (l : List (Str × Bool)) (c : Str) : Option Bool := l.lookup c
def inL (l : List Str) (c : Str) : Bool := l.contains c
section
variable {P : Program} {w : World} {K : PySem.W.Frag} {mg : Str → Option Value} {base : Heap} {X : Cx} {k : Nat} {W : Wish} {WW : WX}
end
theorem q_throw {α : Type} {c : Str} {fl : List Str} {ds : List PyData} {s : Sx} {Q : α → Sx → Prop} {E : Er → Prop} (h1 : ds.length = fl.length) (h2 : ds.length ≤ 1000) : pw (throwM c fl ds : M α) s Q E ↔ E (.exc c (fl.zip ds) s.r s.b) := by
  unfold pw throwM
  rw [if_pos ⟨h1, h2⟩]
end TW
set_option linter.all false
set_option Elab.async false
set_option maxRecDepth 100000
namespace TW
open PySem PySem.Spec PyProof.Rows L2
section
variable {P : Addr → Prop} {G G' : Gh} {σ : L2.St} {H H' : Hp} {s s' : Sx} {v : V} {o : Opd} {W : Wish} {X : Cx} {k : Nat}
inductive Pn where
  | dat (d : PyData)
  | own (d : PyData)
inductive Pend (G : Gh) (σ : L2.St) (H : Hp) (s : Sx) : (Addr → Prop) → List V → List Pn → Prop
  | nil {P : Addr → Prop} : Pend G σ H s P [] []
  | dat {P : Addr → Prop} {v : V} {d : PyData} {vs : List V} {ps : List Pn} : Fz G.F H v d → Pend G σ H s P vs ps → Pend G σ H s P (v :: vs) (.dat d :: ps)
  | own {P : Addr → Prop} {a : Addr} {d : PyData} {vs : List V} {ps : List Pn} : Ow G.F H a d → Free P G σ s a → Pend G σ H s (also P a) vs ps → Pend G σ H s P (.ref a :: vs) (.own d :: ps)
abbrev PostP (P : Addr → Prop) (σ : L2.St) (Q : List V → Hp → Prop) (G : Gh) (H : Hp) (ps : List Pn) (s' : Sx) : Prop := ∀ G' vs H', Ext P G H G' H' → Rel P G' σ H' s' → Pend G' σ H' s' P vs ps → Q vs H'
theorem PostP.mono {Q : List V → Hp → Prop} : Mono P (PostP P σ Q) := fun _ _ _ _ _ _ x q G' v H' y => q G' v H' (x.trans y)
structure SdP (X : Cx) (W : Wish) (es : List Expr) (m : M (List Pn)) : Prop where
  ex : ∃ ta, PA X es ta ∧ ∀ P G σ H s (Q : List V → Hp → Prop), Rel P G σ H s → pw m s (PostP P σ Q G H) (W.w P G H) → ta σ H Q
def pNil : M (List Pn) := pure []
def pDat (m : M Opd) (r : M (List Pn)) : M (List Pn) := do let o ← m; let d ← take o; let ps ← r; pure (.dat d :: ps)
def pOwn (m : M PyData) (r : M (List Pn)) : M (List Pn) := do let d ← m; let ps ← noX r; pure (.own d :: ps)
theorem sp_nil : SdP X W [] pNil := ⟨_, pa_nil, fun P G σ H s Q R hw => hw G [] H .refl R .nil⟩
theorem sp_dat {e : Expr} {es : List Expr} {m : M Opd} {r : M (List Pn)} (h : Sd X W e m) (hr : SdP X W es r) (hs : starEach (e :: es) X.env = (false, eval e X.env) :: starEach es X.env := by rfl) : SdP X W (e :: es) (pDat m r) := by
  obtain ⟨te, pe, ce⟩ := h.ex
  obtain ⟨ta, pa, ca⟩ := hr.ex
  refine ⟨_, pa_cons pe pa hs, ?_⟩
  intro P G σ H s Q R hw
  unfold pDat at hw
  refine ce.bind PostP.mono R hw fun o1 s1 G1 v1 H1 x1 R1 r1 hw1 => ?_
  obtain ⟨G2, s2, d, x2, R2, z, hw2⟩ := take_ok PostP.mono R1 r1 hw1
  rw [pw_bind] at hw2
  exact ca P G2 σ H1 s2 _ R2 (pw_mono hw2 (fun ps s3 h G3 vs H3 x3 R3 pd => pw_ext (m := (pure (.dat d :: ps) : M (List Pn))) (W := W) PostP.mono x3 h G3 (v1 :: vs) H3 .refl R3 (.dat (z.ext x3) pd)) fun _ h => h)
theorem Free.keep {a : Addr} {d : PyData} (o : Ow G.F H a d) (f : Free P G σ s a) (x : Ext (also P a) G H G' H') (R : Rel (also P a) G' σ H' s') : Free P G' σ s' a :=
  ⟨fun q => Ow.nF x q f.f (.inr rfl) o, f.p, fun q => (R.bF a q).2.1 (.inr rfl), fun i d e q => by
    obtain ⟨b, k1, _, _, k2, _⟩ := R.own i d e
    rw [q] at k1
    cases k1
    exact k2 (.inr rfl)⟩
theorem sp_own {e : Expr} {es : List Expr} {m : M PyData} {r : M (List Pn)} (h : SdN X W e m) (hr : SdP X Wish.no es r) (hs : starEach (e :: es) X.env = (false, eval e X.env) :: starEach es X.env := by rfl) : SdP X W (e :: es) (pOwn m r) := by
  obtain ⟨te, pe, ce⟩ := h.ex
  obtain ⟨ta, pa, ca⟩ := hr.ex
  refine ⟨_, pa_cons pe pa hs, ?_⟩
  intro P G σ H s Q R hw
  unfold pOwn at hw
  rw [pw_bind] at hw
  refine ce P G σ H s _ R (pw_mono hw (fun d s1 h1 G1 a H1 x1 R1 ow f => ?_) fun _ h => h)
  have h1 := pw_ext (m := (noX r >>= fun ps => (pure (.own d :: ps) : M (List Pn)))) (W := W) PostP.mono x1 h1
  rw [pw_bind] at h1
  have h2 := pw_noX (W.stuck P G1 H1) h1
  have R2 := R1.also ow.tracked f ow.calm
  refine ca (also P a) G1 σ H1 s1 _ R2 (pw_mono h2 (fun ps s3 h3 G3 vs H3 x3 R3 pd => ?_) fun _ h => h.elim)
  have h3 : PostP P σ Q G1 H1 (.own d :: ps) s3 := h3
  exact h3 G3 (.ref a :: vs) H3 x3.less R3.less (.own (ow.sim x3.F x3.kF (x3.kP a (.inr rfl) f.f)) (f.keep ow x3 R3) pd)
def setP : List Nat → List Pn → M Unit
  | [], [] => pure ()
  | i :: is, .dat d :: ps => do setS i (.dat d); setP is ps
  | i :: is, .own d :: ps => do setS i (.own d); setP is ps
  | _, _ => stuck
def sParP (is : List Nat) (m : M (List Pn)) : M Fl := do let ps ← m; setP is ps; pure .nx
def setV : List Nat → List V → L2.St → L2.St
  | i :: is, v :: vs, σ => setV is vs (σ.set i (some v))
  | _, _, σ => σ
theorem Pend.setDat {vs : List V} {ps : List Pn} (h : Pend G σ H s P vs ps) {i : Nat} {x : PyData} {y : Option V} : Pend G (σ.set i y) H { s with r := s.r.set i (.dat x) } P vs ps := by
  induction h with
  | nil => exact .nil
  | dat r _ ih => exact .dat r ih
  | own ow f _ ih =>
    refine .own ow ⟨f.f, f.p, f.b, fun j e ej q => ?_⟩ ih
    rcases set_get ej with ⟨_, e1, _⟩ | ⟨hj, e1⟩
    · cases e1
    · rw [List.getElem?_set_ne (Ne.symm hj)] at q
      exact f.o j e e1 q
theorem Pend.setOwn {vs : List V} {ps : List Pn} (h : Pend G σ H s P vs ps) {i : Nat} {x : PyData} {a : Addr} (ha : P a) : Pend G (σ.set i (some (.ref a))) H { s with r := s.r.set i (.own x) } P vs ps := by
  induction h with
  | nil => exact .nil
  | dat r _ ih => exact .dat r (ih ha)
  | @own P b d vs ps ow f _ ih =>
    refine .own ow ⟨f.f, f.p, f.b, fun j e ej q => ?_⟩ (ih (.inl ha))
    rcases set_get ej with ⟨rfl, e1, hi⟩ | ⟨hj, e1⟩
    · rw [List.getElem?_set] at q
      rw [if_pos rfl] at q
      split at q
      · cases q
        exact f.p ha
      · cases q
    · rw [List.getElem?_set_ne (Ne.symm hj)] at q
      exact f.o j e e1 q
theorem setP_ok {D : Ends} : ∀ {is : List Nat} {ps : List Pn} {vs : List V} {P' : Addr → Prop} {σ : L2.St} {s : Sx}, (∀ a, P a → P' a) → Rel P G σ H s → Pend G σ H s P' vs ps → pw (setP is ps) s (fun _ s' => PostS P D G H .nx s') (W.w P G H) → is.length = vs.length ∧ D.nx (setV is vs σ) H
  | [], _, _, _, _, _, _, R, .nil, hw => ⟨rfl, hw G _ H .refl R⟩
  | [], _, _, _, _, _, _, _, .dat _ _, hw => absurd hw (W.stuck _ _ _)
  | [], _, _, _, _, _, _, _, .own _ _ _, hw => absurd hw (W.stuck _ _ _)
  | _ :: _, _, _, _, _, _, _, _, .nil, hw => absurd hw (W.stuck _ _ _)
  | i :: is, _, _, _, _, _, hP, R, .dat r pd, hw => by
    obtain ⟨h1, h2⟩ := setP_ok (is := is) hP (R.setDat i r) (pd.setDat (i := i)) hw
    exact ⟨by simp [h1], h2⟩
  | i :: is, _, _, _, _, _, hP, R, .own ow f pd, hw => by
    obtain ⟨h1, h2⟩ := setP_ok (is := is) (fun a h => .inl (hP a h)) (R.setOwn i ow ⟨f.f, fun q => f.p (hP _ q), f.b, f.o⟩) (pd.setOwn (i := i) (.inr rfl)) hw
    exact ⟨by simp [h1], h2⟩
theorem ss_parP3 {i j l : Nat} {x y z : Str} {a b c : Expr} {px py pz pt pos : Pos} {kt k2 : Nat} {pt2 : Pos} {m : M (List Pn)} (h : SdP X W [a, b, c] m)
    (hp : ∀ ta, PA X [a, b, c] ta → PS X (.Assign [.Tuple [.Name x px, .Name y py, .Name z pz] kt pt] (.Tuple [a, b, c] k2 pt2) pos) (tPar3 i j l ta)) : SdS X W (.Assign [.Tuple [.Name x px, .Name y py, .Name z pz] kt pt] (.Tuple [a, b, c] k2 pt2) pos) (sParP [i, j, l] m) := by
  obtain ⟨ta, pa, ca⟩ := h.ex
  refine ⟨_, hp ta pa, ?_⟩
  intro P G σ H s D R hw
  unfold sParP at hw
  rw [pw_bind] at hw
  refine ca P G σ H s _ R (pw_mono hw (fun ps s1 h1 G1 vs H1 x1 R1 pd => ?_) fun _ h => h)
  have h1 := pw_ext (m := (setP [i, j, l] ps >>= fun _ => (pure .nx : M Fl))) (W := W) PostS.mono x1 h1
  rw [pw_bind] at h1
  obtain ⟨h2, h3⟩ := setP_ok (P' := P) (fun _ h => h) R1 pd h1
  match vs, h2 with
  | [u, v, w], _ => exact ⟨u, v, w, rfl, h3⟩
end
end TW
set_option linter.all false
set_option Elab.async false
set_option maxRecDepth 100000
namespace TW
open PySem PySem.Spec PyProof.Rows L2
section
variable {P : Addr → Prop} {G G' : Gh} {σ : L2.St} {H H' : Hp} {s s' : Sx} {v : V} {o : Opd} {W : Wish} {X : Cx} {k : Nat}
end
end TW
set_option linter.all false
set_option Elab.async false
set_option maxRecDepth 100000
namespace TW
open PySem PySem.Spec PyProof.Rows L2
section
variable {P : Addr → Prop} {G G' : Gh} {σ : L2.St} {H H' : Hp} {s s' : Sx} {v : V} {o : Opd} {W : Wish} {X : Cx} {k : Nat}
end
end TW
set_option linter.all false
set_option Elab.async false
set_option maxRecDepth 100000
namespace TW
open PySem PySem.Spec PyProof.Rows L2
section
variable {P : Addr → Prop} {G G' : Gh} {σ : L2.St} {H H' : Hp} {s s' : Sx} {v : V} {o : Opd} {W : Wish} {X : Cx} {k : Nat}
end
end TW
set_option linter.all false
set_option Elab.async false
set_option maxRecDepth 100000
namespace TW
open PySem PySem.Spec PyProof.Rows L2
section
variable {P : Addr → Prop} {G G' : Gh} {σ : L2.St} {H H' : Hp} {s s' : Sx} {v : V} {o : Opd} {W : Wish} {X : Cx} {k : Nat}
end
end TW
set_option linter.all false
set_option Elab.async false
set_option maxRecDepth 100000
namespace TW
open PySem PySem.Spec PyProof.Rows L2
section
variable {P : Addr → Prop} {G G' : Gh} {σ : L2.St} {H H' : Hp} {s s' : Sx} {v : V} {o : Opd} {W : Wish} {X : Cx} {k : Nat}
end
end TW
set_option linter.all false
set_option Elab.async false
set_option maxRecDepth 100000
namespace TW
open PySem PySem.Spec PyProof.Rows L2
section
variable {P : Addr → Prop} {G G' : Gh} {σ : L2.St} {H H' : Hp} {s s' : Sx} {v : V} {o : Opd} {W : Wish} {X : Cx} {k : Nat}
end
end TW
set_option linter.all false
set_option Elab.async false
set_option maxRecDepth 100000
namespace TW
open PySem PySem.Spec PyProof.Rows L2
section
variable {P : Addr → Prop} {G G' : Gh} {σ : L2.St} {H H' : Hp} {s s' : Sx} {v : V} {o : Opd} {W : Wish} {X : Cx} {k : Nat}
end
end TW
set_option linter.all false
set_option Elab.async false
namespace TW
open PySem PySem.Spec PyProof.Rows L2
def Bg (b : Option Bx) : Prop := ∃ x, b = some x ∧ x.small ≠ []
theorem bg_of (ns : List Int) : Bg (some (boxOf ns)) := ⟨_, rfl, boxOf_good ns⟩
theorem drawB_good {b : Bx} {n : Int} (h : b.small ≠ []) : (drawB b n).small ≠ [] := by
  unfold drawB
  split <;> exact h
theorem runs_draw {n : Int} {b : Option Bx} (h1 : 1 ≤ n) (h2 : n < 1073741824) (hb : Bg b) : Runs drawF [.box, .dat (.int n)] b fun d b' => ∃ i, d = .int i ∧ 0 ≤ i ∧ i < n ∧ Bg b' := by
  obtain ⟨x, rfl, hx⟩ := hb
  refine ⟨.int (drawV x n), some (drawB x n), ?_, _, rfl, (drawV_range h1).1, (drawV_range h1).2, _, rfl, drawB_good hx⟩
  unfold drawF
  exact if_pos ⟨h1, h2, hx⟩
def isIn (lo hi : Int) : PyData → Bool
  | .int i => decide (lo ≤ i) && decide (i ≤ hi)
  | _ => false
theorem c_eq {i j : Int} : cmpD .eq (.int i) (.int j) = some (.bool (decide (i = j))) := by
  rw [cmpD_eq]
  simp [shp, SeqAt.shaped, PyData.canLay0, PyData.depth, PyData.eqv]
  by_cases h : i = j <;> simp [h]
theorem c_ne {i j : Int} : cmpD .ne (.int i) (.int j) = some (.bool (!decide (i = j))) := by
  rw [cmpD_ne]
  simp [shp, SeqAt.shaped, PyData.canLay0, PyData.depth, PyData.eqv]
  by_cases h : i = j <;> simp [h]
theorem c_lt {i j : Int} : cmpD .lt (.int i) (.int j) = some (.bool (decide (i < j))) := rfl
theorem c_le {i j : Int} : cmpD .le (.int i) (.int j) = some (.bool (decide (i ≤ j))) := rfl
theorem c_gt {i j : Int} : cmpD .gt (.int i) (.int j) = some (.bool (decide (j < i))) := rfl
theorem c_ge {i j : Int} : cmpD .ge (.int i) (.int j) = some (.bool (decide (j ≤ i))) := rfl
theorem c_isN {d : PyData} : cmpD .isN d .none = some (.bool (isNoneD d)) := by cases d <;> rfl
theorem c_notN {d : PyData} : cmpD .notN d .none = some (.bool (!isNoneD d)) := by cases d <;> rfl
theorem b_add {i j : Int} : binD .add (.int i) (.int j) = some (.int (i + j)) := rfl
theorem b_sub {i j : Int} : binD .sub (.int i) (.int j) = some (.int (i - j)) := rfl
theorem ix0 {d : PyData} {ds : List PyData} : ixD' (.tuple (d :: ds)) (.int 0) = some d := by
  show L2.atI (d :: ds) 0 = some d
  exact atI_nat (j := 0) rfl
theorem ix1 {d e : PyData} {ds : List PyData} : ixD' (.tuple (d :: e :: ds)) (.int 1) = some e := by
  show L2.atI (d :: e :: ds) 1 = some e
  exact atI_nat (j := 1) rfl
theorem ixN {ds : List PyData} {j : Nat} {d : PyData} (h : ds[j]? = some d) : ixD' (.tuple ds) (.int (j : Nat)) = some d := atI_nat h
theorem ixLN {ds : List PyData} {j : Nat} {d : PyData} (h : ds[j]? = some d) : ixD' (.list ds) (.int (j : Nat)) = some d := atI_nat h
theorem big62_of {j : Int} (h0 : -1000000 ≤ j) (h1 : j ≤ 1000000) : big62 j = true := by
  unfold big62
  rw [Bool.and_eq_true]
  exact ⟨decide_eq_true (by omega), decide_eq_true (by omega)⟩
theorem allD_bools {bs : List Bool} : allD [.list (bs.map PyData.bool)] = some (.bool (bs.all id)) := by
  simp only [allD, boolsOf_map]
  rfl
theorem q_map {vs : List Nat} {mi : M (List PyData)} {t : PyData → M Unit} {e : M Opd} {s : Sx} {Q : PyData → Sx → Prop} {E : Er → Prop} (r0 : List SV) (b0 : Option Bx) (f : PyData → PyData)
    (h : pw mi s (fun ds s1 => s1 = ⟨r0, b0⟩ ∧ ds.length ≤ lim ∧ (∀ d ∈ ds, pw (t d) ⟨wipeR r0 vs, b0⟩ (fun _ s1 => pw (e >>= take) s1 (fun x s3 => f d = x ∧ wipeR s3.r vs = wipeR r0 vs ∧ s3.b = b0) fun _ => False) fun _ => False) ∧
      (∀ r1, (r1 = r0 ∨ wipeR r1 vs = wipeR r0 vs) → Q (.list (ds.map f)) ⟨backR r0 r1 vs, b0⟩)) E) : pw (nCmp vs mi t (pure true) e) s Q E := by
  refine q_cmp_map r0 b0 (fun d => some (f d)) (pw_mono h (fun ds s1 ⟨e1, hl, h1, h2⟩ => ⟨e1, hl, fun d hd => ?_, fun r1 hr => ?_⟩) fun _ h => h)
  · refine pw_mono (h1 d hd) (fun _ s2 h3 => ?_) fun _ h => h
    rw [pw_pure, if_pos rfl]
    exact pw_mono h3 (fun x s3 ⟨a, b⟩ => ⟨by rw [a], b⟩) fun _ h => h
  · rw [show ds.filterMap (fun d => some (f d)) = ds.map f from congrFun List.filterMap_eq_map ds]
    exact h2 r1 hr
theorem wW : type_of% (And.intro @b_add (And.intro @b_sub (And.intro @ix0 (And.intro @ix1 (And.intro @c_eq (And.intro @c_ne (And.intro @c_lt (And.intro @c_le (And.intro @c_gt (And.intro @c_ge (And.intro @c_isN (And.intro @c_notN (And.intro @Bool.not_true (And.intro @Bool.not_false (And.intro @Bool.true_and (And.intro @Bool.false_and (And.intro @Bool.and_false (And.intro @and_self (And.intro @and_true (And.intro @true_and (And.intro @and_false (And.intro @false_and (And.intro @decide_true (And.intro @decide_false (@List.append_nil.{0}))))))))))))))))))))))))) := And.intro @b_add (And.intro @b_sub (And.intro @ix0 (And.intro @ix1 (And.intro @c_eq (And.intro @c_ne (And.intro @c_lt (And.intro @c_le (And.intro @c_gt (And.intro @c_ge (And.intro @c_isN (And.intro @c_notN (And.intro @Bool.not_true (And.intro @Bool.not_false (And.intro @Bool.true_and (And.intro @Bool.false_and (And.intro @Bool.and_false (And.intro @and_self (And.intro @and_true (And.intro @true_and (And.intro @and_false (And.intro @false_and (And.intro @decide_true (And.intro @decide_false (@List.append_nil.{0}))))))))))))))))))))))))
end TW
set_option linter.all false
set_option Elab.async false
namespace TW
open PySem PySem.Spec PyProof.Rows L2
theorem okS_app {x y : Str} (hx : PyData.strOk x = true) (hy : PyData.strOk y = true) : PyData.strOk (x ++ y) = true := by
  show (x.cps ++ y.cps).all _ = true
  rw [Array.all_append, Bool.and_eq_true]
  exact ⟨hx, hy⟩
theorem char_ok (c : Char) : c.toNat < 0x110000 := by
  have h := c.valid
  have e : c.toNat = c.val.toNat := rfl
  rw [e]
  rcases h with h | h
  · exact Nat.lt_trans h (by decide)
  · exact h.2
theorem okS_of (s : String) : PyData.strOk (Str.ofString s) = true := by
  rw [Str.ofString_eq_toList]
  unfold PyData.strOk
  rw [List.all_toArray, List.all_map, List.all_eq_true]
  intro c _
  exact decide_eq_true (char_ok c)
theorem okS_from : ∀ {ts : List Str} {k : Nat} {acc : Str}, (∀ t ∈ ts, PyData.strOk t = true) → PyData.strOk acc = true → PyData.strOk (textFrom k acc ts) = true
  | [], _, _, _, h => h
  | t :: ts, k, acc, ht, h => by
    unfold textFrom
    refine okS_from (fun u hu => ht u (List.mem_cons_of_mem _ hu)) (okS_app (okS_app h ?_) (ht t List.mem_cons_self))
    split <;> exact okS_of _
theorem okS_join {sep : Str} (hs : PyData.strOk sep = true) : ∀ {ts : List Str}, (∀ t ∈ ts, PyData.strOk t = true) → PyData.strOk (Str.join sep ts) = true
  | [], _ => by show PyData.strOk Str.empty = true; decide +kernel
  | [t], h => h t (by simp)
  | t :: u :: r, h => by
    show PyData.strOk (t ++ sep ++ Str.join sep (u :: r)) = true
    exact okS_app (okS_app (h t (by simp)) hs) (okS_join hs fun v hv => h v (List.mem_cons_of_mem _ hv))
theorem from_len : ∀ {ts : List Str} {k : Nat} {acc : Str}, (textFrom k acc ts).length ≤ acc.length + piled ts
  | [], k, acc => by show acc.length ≤ _; omega
  | t :: r, k, acc => by
    unfold textFrom
    have h := from_len (ts := r) (k := k + 1) (acc := acc ++ (if k > 0 then ", " else "" : String) ++ t)
    have e : (acc ++ (if k > 0 then ", " else "" : String) ++ t : Str).length ≤ acc.length + 2 + t.length := by
      rw [strLen_append, strLen_append]
      have : ((if k > 0 then ", " else "" : String) : Str).length ≤ 2 := by split <;> decide
      omega
    rw [piled_cons]
    omega
theorem join_len : ∀ {ts : List Str}, (Str.join ", " ts).length ≤ piled ts
  | [] => Nat.zero_le _
  | t :: r => by
    have := join_length_add (t :: r) (by simp)
    omega
mutual
def tame : PyData → Bool
  | .none => true
  | .bool _ => true
  | .int i => decide (i.natAbs < 10 ^ 40)
  | .str x => decide ((reprText x).length ≤ 12) && PyData.strOk (reprText x) && PyData.strOk x
  | .list xs => tameAll xs
  | .tuple xs => tameAll xs
  | .dict kvs => tameKv kvs
def tameAll : List PyData → Bool
  | [] => true
  | x :: xs => tame x && tameAll xs
def tameKv : List (PyData × PyData) → Bool
  | [] => true
  | (k, v) :: r => (tame k && tame v) && tameKv r
end
mutual
def sz : PyData → Nat
  | .none => 4
  | .bool _ => 5
  | .int i => if i.natAbs < 1000 then 4 else 42
  | .str _ => 12
  | .list xs => 4 + szAll xs
  | .tuple xs => 4 + szAll xs
  | .dict kvs => 4 + szKv kvs
def szAll : List PyData → Nat
  | [] => 0
  | x :: xs => sz x + 2 + szAll xs
def szKv : List (PyData × PyData) → Nat
  | [] => 0
  | (k, v) :: r => sz k + 2 + sz v + 2 + szKv r
end
structure Shw (d : PyData) : Prop where
  s : d.showable = true
  l : d.shown.length ≤ sz d
  k : PyData.strOk d.shown = true
mutual
theorem tame_shw : ∀ {d : PyData}, tame d = true → Shw d
  | .none, _ => ⟨rfl, (by decide), okS_of _⟩
  | .bool b, _ => ⟨rfl, (by cases b <;> decide), (by cases b <;> exact okS_of _)⟩
  | .int i, h => by
    have h1 : i.natAbs < 10 ^ 40 := of_decide_eq_true (by simpa [tame] using h)
    refine ⟨?_, ?_, okS_of _⟩
    · show decide (i.natAbs.log2 < 1920) = true
      refine decide_eq_true ?_
      by_cases h0 : i.natAbs = 0
      · rw [h0]; decide
      · exact (Nat.log2_lt h0).mpr (Nat.lt_trans h1 (by decide +kernel))
    · show (Str.ofString (toString i)).length ≤ (if i.natAbs < 1000 then 4 else 42)
      rw [PySem.ofString_length]
      split
      · rename_i h2
        exact int_text_length_le10 (k := 3) (by decide) h2
      · exact Nat.le_trans (int_text_length_le10 (k := 40) (by decide) h1) (by decide)
  | .str x, h => by
    have h1 : ((reprText x).length ≤ 12 ∧ PyData.strOk (reprText x) = true) ∧ PyData.strOk x = true := by simpa [tame] using h
    have h1 := h1.1
    exact ⟨rfl, h1.1, h1.2⟩
  | .list xs, h => by
    obtain ⟨h1, h2, h3⟩ := tame_all (by simpa [tame] using h)
    refine ⟨h1, ?_, ?_⟩
    · show (textFrom 0 "[" (PyData.shownAll xs) ++ ("]" : Str)).length ≤ 4 + szAll xs
      rw [strLen_append]
      have h4 := from_len (ts := PyData.shownAll xs) (k := 0) (acc := "[")
      have e1 : (("[" : String) : Str).length = 1 := by decide
      have e2 : (("]" : String) : Str).length = 1 := by decide
      rw [e1] at h4
      rw [e2]
      omega
    · exact okS_app (okS_from h3 (okS_of _)) (okS_of _)
  | .tuple xs, h => by
    obtain ⟨h1, h2, h3⟩ := tame_all (by simpa [tame] using h)
    refine ⟨h1, ?_, ?_⟩
    · show (tupleText (PyData.shownAll xs)).length ≤ 4 + szAll xs
      unfold tupleText
      rw [strLen_append, strLen_append]
      have h4 := join_len (ts := PyData.shownAll xs)
      have e1 : (("(" : String) : Str).length = 1 := by decide
      have e2 : ((if (PyData.shownAll xs).length == 1 then ",)" else ")" : String) : Str).length ≤ 2 := by split <;> decide
      rw [e1]
      omega
    · unfold PyData.shown tupleText
      refine okS_app (okS_app (okS_of _) (okS_join (okS_of _) h3)) ?_
      split <;> exact okS_of _
  | .dict kvs, h => by
    obtain ⟨h1, h2, h3⟩ := tame_kv (by simpa [tame] using h)
    refine ⟨h1, ?_, ?_⟩
    · show (dictText (PyData.shownKv kvs)).length ≤ 4 + szKv kvs
      unfold dictText
      rw [strLen_append, strLen_append]
      have h4 := join_len (ts := PyData.shownKv kvs)
      have e1 : (("{" : String) : Str).length = 1 := by decide
      have e2 : (("}" : String) : Str).length = 1 := by decide
      rw [e1, e2]
      omega
    · exact okS_app (okS_app (okS_of _) (okS_join (okS_of _) h3)) (okS_of _)
theorem tame_all : ∀ {xs : List PyData}, tameAll xs = true → PyData.showableAll xs = true ∧ piled (PyData.shownAll xs) ≤ szAll xs ∧ ∀ t ∈ PyData.shownAll xs, PyData.strOk t = true
  | [], _ => ⟨rfl, Nat.le_refl _, fun _ h => by cases h⟩
  | x :: xs, h => by
    have h : tame x = true ∧ tameAll xs = true := by simpa [tameAll] using h
    obtain ⟨a1, a2, a3⟩ := tame_shw h.1
    obtain ⟨b1, b2, b3⟩ := tame_all h.2
    refine ⟨?_, ?_, ?_⟩
    · simp [PyData.showableAll, a1, b1]
    · show piled (x.shown :: PyData.shownAll xs) ≤ sz x + 2 + szAll xs
      rw [piled_cons]
      omega
    · intro t ht
      have ht : t ∈ x.shown :: PyData.shownAll xs := ht
      rcases List.mem_cons.mp ht with e | e
      · rw [e]; exact a3
      · exact b3 t e
theorem tame_kv : ∀ {xs : List (PyData × PyData)}, tameKv xs = true → PyData.showableKv xs = true ∧ piled (PyData.shownKv xs) ≤ szKv xs ∧ ∀ t ∈ PyData.shownKv xs, PyData.strOk t = true
  | [], _ => ⟨rfl, Nat.le_refl _, fun _ h => by cases h⟩
  | (k, v) :: xs, h => by
    have h : (tame k = true ∧ tame v = true) ∧ tameKv xs = true := by simpa [tameKv] using h
    obtain ⟨a1, a2, a3⟩ := tame_shw h.1.1
    obtain ⟨c1, c2, c3⟩ := tame_shw h.1.2
    obtain ⟨b1, b2, b3⟩ := tame_kv h.2
    refine ⟨?_, ?_, ?_⟩
    · simp [PyData.showableKv, a1, b1, c1]
    · show piled ((k.shown ++ ": " ++ v.shown) :: PyData.shownKv xs) ≤ sz k + 2 + sz v + 2 + szKv xs
      rw [piled_cons, strLen_append, strLen_append]
      have e1 : ((": " : String) : Str).length = 2 := by decide
      rw [e1]
      omega
    · intro t ht
      have ht : t ∈ (k.shown ++ ": " ++ v.shown) :: PyData.shownKv xs := ht
      rcases List.mem_cons.mp ht with e | e
      · rw [e]; exact okS_app (okS_app a3 (okS_of _)) c3
      · exact b3 t e
end
structure Tm (n m : Nat) (d : PyData) : Prop where
  t : tame d = true
  n : sz d ≤ n
  m : d.depth ≤ m
theorem Tm.mono {n m n' m' : Nat} {d : PyData} (h : Tm n m d) (hn : n ≤ n') (hm : m ≤ m') : Tm n' m' d := ⟨h.t, Nat.le_trans h.n hn, Nat.le_trans h.m hm⟩
theorem repr_tm {n m : Nat} {d : PyData} (h : Tm n m d) (hn : n ≤ 16000000) (hm : m ≤ 64) : reprD [d] = some (.str d.shown) := by
  have s := tame_shw h.t
  unfold reprD
  refine if_pos ?_
  rw [Bool.and_eq_true, Bool.and_eq_true]
  refine ⟨⟨showT_of s.s, decide_eq_true (Nat.le_trans h.m hm)⟩, decide_eq_true ?_⟩
  rw [sizeLine_eq]
  exact Nat.le_trans s.l (Nat.le_trans h.n (Nat.le_trans hn (by decide)))
structure TmA (n m : Nat) (ds : List PyData) : Prop where
  t : tameAll ds = true
  n : szAll ds ≤ n
  m : PyData.depthAll ds ≤ m
theorem Tm.tup {n m : Nat} {ds : List PyData} (h : TmA n m ds) : Tm (4 + n) (m + 1) (.tuple ds) := ⟨by simpa [tame] using h.t, by have := h.n; simp only [sz]; omega, by have := h.m; simp only [PyData.depth]; omega⟩
theorem Tm.lst {n m : Nat} {ds : List PyData} (h : TmA n m ds) : Tm (4 + n) (m + 1) (.list ds) := ⟨by simpa [tame] using h.t, by have := h.n; simp only [sz]; omega, by have := h.m; simp only [PyData.depth]; omega⟩
theorem TmA.nil : TmA 0 0 [] := ⟨rfl, Nat.le_refl _, Nat.le_refl _⟩
theorem TmA.cons {n m n' m' : Nat} {d : PyData} {ds : List PyData} (h : Tm n m d) (h' : TmA n' m' ds) : TmA (n + 2 + n') (max m m') (d :: ds) :=
  ⟨by simp only [tameAll, h.t, h'.t, Bool.and_self], by have := h.n; have := h'.n; simp only [szAll]; omega, by have := h.m; have := h'.m; simp only [PyData.depthAll]; omega⟩
theorem TmA.mono {n m n' m' : Nat} {d : List PyData} (h : TmA n m d) (hn : n ≤ n') (hm : m ≤ m') : TmA n' m' d := ⟨h.t, Nat.le_trans h.n hn, Nat.le_trans h.m hm⟩
theorem tma_append {xs ys : List PyData} : (tameAll (xs ++ ys) = (tameAll xs && tameAll ys)) ∧ szAll (xs ++ ys) = szAll xs + szAll ys ∧ PyData.depthAll (xs ++ ys) = max (PyData.depthAll xs) (PyData.depthAll ys) := by
  induction xs with
  | nil => simp [tameAll, szAll, PyData.depthAll]
  | cons x xs ih =>
    obtain ⟨a, b, c⟩ := ih
    simp only [List.cons_append, tameAll, szAll, PyData.depthAll, a, b, c, Bool.and_assoc, true_and]
    omega
theorem TmA.of_app {n m : Nat} {xs ys : List PyData} (h : TmA n m (xs ++ ys)) : TmA n m xs ∧ TmA n m ys ∧ szAll xs + szAll ys ≤ n := by
  obtain ⟨a, b, c⟩ := tma_append (xs := xs) (ys := ys)
  obtain ⟨h1, h2, h3⟩ := h
  rw [a, Bool.and_eq_true] at h1
  exact ⟨⟨h1.1, by omega, by omega⟩, ⟨h1.2, by omega, by omega⟩, by omega⟩
theorem TmA.take {n m : Nat} {xs : List PyData} (h : TmA n m xs) (k : Nat) : TmA n m (xs.take k) := (TmA.of_app (ys := xs.drop k) (by rwa [List.take_append_drop])).1
theorem TmA.drop {n m : Nat} {xs : List PyData} (h : TmA n m xs) (k : Nat) : TmA n m (xs.drop k) := (TmA.of_app (xs := xs.take k) (by rwa [List.take_append_drop])).2.1
theorem tm_small {i : Int} (h : i.natAbs < 1000) : Tm 4 0 (.int i) := ⟨by simp only [tame]; exact decide_eq_true (Nat.lt_trans h (by decide +kernel)), by simp only [sz]; rw [if_pos h]; exact Nat.le_refl _, Nat.le_refl _⟩
theorem tm_none : Tm 4 0 .none := ⟨rfl, Nat.le_refl _, Nat.le_refl _⟩
end TW
set_option linter.all false
set_option Elab.async false
namespace TW
open PySem PySem.Spec PyProof.Rows L2
theorem q_cmpB {vs : List Nat} {mi : M (List PyData)} {t : PyData → M Unit} {e : M Opd} {s : Sx} {Q : PyData → Sx → Prop} {E : Er → Prop} (r0 : List SV) (P : PyData → Prop)
    (h : pw mi s (fun ds s1 => s1.r = r0 ∧ Bg s1.b ∧ ds.length ≤ lim ∧ (∀ d ∈ ds, ∀ b, Bg b → pw (t d) ⟨wipeR r0 vs, b⟩ (fun _ s1 => pw (e >>= take) s1 (fun x s3 => P x ∧ wipeR s3.r vs = wipeR r0 vs ∧ Bg s3.b) fun _ => False) fun _ => False) ∧
      (∀ xs b r1, (r1 = r0 ∨ wipeR r1 vs = wipeR r0 vs) → Bg b → xs.length = ds.length → (∀ x ∈ xs, P x) → Q (.list xs) ⟨backR r0 r1 vs, b⟩)) E) : pw (nCmp vs mi t (pure true) e) s Q E := by
  refine q_cmp (pw_mono h (fun ds s1 ⟨e1, hb, hl, hs, he⟩ => ?_) fun _ h => h)
  refine ⟨fun acc r s => (∃ p, ds = p ++ r ∧ acc.length = p.length) ∧ (s.r = r0 ∨ wipeR s.r vs = wipeR r0 vs) ∧ Bg s.b ∧ ∀ x ∈ acc, P x, ⟨⟨[], rfl, rfl⟩, .inl e1, hb, fun _ h => by cases h⟩, ?_, ?_⟩
  · rintro acc d r s2 ⟨⟨p, hp, hlen⟩, hw, hb2, hP⟩
    have hw : wipeR s2.r vs = wipeR r0 vs := hw.elim (fun e => by rw [e]) id
    rw [hw]
    refine pw_mono (hs d (by rw [hp]; simp) s2.b hb2) (fun _ s3 h3 => ?_) fun _ h => h
    rw [pw_pure, if_pos rfl]
    refine pw_mono h3 (fun x s5 ⟨h5, h6, h7⟩ => ⟨?_, ⟨p ++ [d], by rw [hp]; simp, by simp [hlen]⟩, .inr h6, h7, fun y hy => ?_⟩) fun _ h => h
    · have h2 : p.length < ds.length := by rw [hp]; simp
      omega
    · rcases List.mem_append.mp hy with q | q
      · exact hP y q
      · rw [List.mem_singleton.mp q]; exact h5
  · rintro acc s2 ⟨⟨p, hp, hlen⟩, hw, hb2, hP⟩
    rw [List.append_nil] at hp
    subst hp
    rw [e1]
    exact he acc s2.b s2.r hw hb2 hlen hP
def inR (n : Int) (d : PyData) : Prop := ∃ i, d = .int i ∧ 0 ≤ i ∧ i < n
theorem ints_of {n : Int} : ∀ {xs : List PyData}, (∀ x ∈ xs, inR n x) → ∃ ts : List Int, xs = ts.map PyData.int ∧ ∀ t ∈ ts, 0 ≤ t ∧ t < n
  | [], _ => ⟨[], rfl, fun _ h => by cases h⟩
  | x :: xs, h => by
    obtain ⟨i, rfl, h1⟩ := h x (by simp)
    obtain ⟨ts, rfl, h2⟩ := ints_of fun y hy => h y (List.mem_cons_of_mem _ hy)
    exact ⟨i :: ts, rfl, fun t ht => by
      rcases List.mem_cons.mp ht with e | e
      · rw [e]; exact h1
      · exact h2 t e⟩
def rgN (m : Nat) : List PyData := (List.range m).map fun i => .int (i : Nat)
theorem rgD_nat {m : Nat} : rgD 0 (m : Int) = rgN m := by
  unfold rgD rgN
  rw [show ((m : Int) - 0).toNat = m by omega]
  apply List.map_congr_left
  intro i _
  rw [Int.zero_add]
theorem rgN_len {m : Nat} : (rgN m).length = m := by simp [rgN]
theorem rgN_mem {m : Nat} {d : PyData} (h : d ∈ rgN m) : ∃ j : Nat, d = .int (j : Int) ∧ j < m := by
  obtain ⟨j, hj, rfl⟩ := List.mem_map.mp h
  exact ⟨j, rfl, List.mem_range.mp hj⟩
def IsK (n : Nat) (d : PyData) : Prop := ∃ (s : Int) (ts : List Int), d = .tuple [.int s, .tuple (ts.map PyData.int)] ∧ 0 ≤ s ∧ s < 4 ∧ ts.length = n ∧ ∀ t ∈ ts, 0 ≤ t ∧ t < (n : Int)
def IsH (n k : Nat) (d : PyData) : Prop := ∃ (ls : List Int) (ks : List PyData), d = .tuple [.tuple (ls.map PyData.int), .tuple ks] ∧ ls.length = n ∧ ks.length = k ∧ (∀ l ∈ ls, 0 ≤ l ∧ l < (n : Int)) ∧ ∀ x ∈ ks, IsK n x
def IsT (n : Nat) (d : PyData) : Prop := ∃ ts : List Int, d = .list (ts.map PyData.int) ∧ ts.length = n ∧ ∀ t ∈ ts, 0 ≤ t ∧ t < (n : Int)
theorem isT_of {n : Nat} {xs : List PyData} (hl : xs.length = n) (h : ∀ x ∈ xs, inR n x) : IsT n (.list xs) := by
  obtain ⟨ts, rfl, h2⟩ := ints_of h
  exact ⟨ts, rfl, by simpa using hl, h2⟩
theorem rep_one {d : PyData} {n : Nat} : (List.replicate n [d]).flatten = List.replicate n d := by
  induction n with
  | zero => rfl
  | succ n ih => rw [List.replicate_succ, List.flatten_cons, ih, List.replicate_succ]; rfl
theorem b_rep {d : PyData} {n : Nat} (h : n ≤ 1000) : binD .mul (.list [d]) (.int (n : Int)) = some (.list (List.replicate n d)) := by
  simp only [binD]
  rw [if_pos ⟨by omega, by omega, by simp⟩, Int.toNat_natCast, rep_one]
theorem set_no {r0 : List SV} {i : Nat} (hno : r0.getD i .no = .no) : r0.set i .no = r0 := by
  apply List.ext_getElem?
  intro j
  rw [List.getElem?_set]
  by_cases e : i = j
  · subst e
    rw [if_pos rfl]
    by_cases hi : i < r0.length
    · rw [if_pos hi]
      rw [List.getD_eq_getElem?_getD, List.getElem?_eq_getElem hi] at hno
      rw [List.getElem?_eq_getElem hi]
      exact congrArg some hno.symm
    · rw [if_neg hi, List.getElem?_eq_none (by omega)]
  · rw [if_neg e]
theorem back_no {r0 r1 : List SV} {i : Nat} (hno : r0.getD i .no = .no) (hr : r1 = r0 ∨ wipeR r1 [i] = wipeR r0 [i]) : backR r0 r1 [i] = r0 := by
  have e : r1.set i .no = r0.set i .no := hr.elim (fun e => by rw [e]) id
  have : backR r0 r1 [i] = r1.set i .no := by
    unfold backR backR
    rw [hno]
    rfl
  rw [this, e, set_no hno]
theorem le0 : 0 ≤ lim := by decide
end TW
set_option linter.all false
set_option Elab.async false
namespace TW
open PySem PySem.Spec PyProof.Rows L2
theorem back_any {r0 r1 : List SV} {i : Nat} (hr : r1 = r0 ∨ wipeR r1 [i] = wipeR r0 [i]) : backR r0 r1 [i] = r0.set i (keepD (r0.getD i .no)) := by
  have e : r1.set i .no = r0.set i .no := hr.elim (fun e => by rw [e]) id
  have h : ∀ z, r1.set i z = r0.set i z := fun z => by
    have := congrArg (fun r => r.set i z) e
    simpa [List.set_set] using this
  show r1.set i _ = _
  rw [h]
theorem q_map1 {i : Nat} {mi : M (List PyData)} {t : PyData → M Unit} {e : M Opd} {s : Sx} {Q : PyData → Sx → Prop} {E : Er → Prop} (f : PyData → PyData)
    (h : pw mi s (fun ds s1 => s1 = s ∧ ds.length ≤ lim ∧ (∀ d ∈ ds, pw (t d) ⟨s.r.set i .no, s.b⟩ (fun _ s1 => pw (e >>= take) s1 (fun x s3 => f d = x ∧ s3.r.set i .no = s.r.set i .no ∧ s3.b = s.b) fun _ => False) fun _ => False) ∧
      Q (.list (ds.map f)) ⟨s.r.set i (keepD (s.r.getD i .no)), s.b⟩) E) : pw (nCmp [i] mi t (pure true) e) s Q E := by
  refine q_map s.r s.b f (pw_mono h (fun ds s1 ⟨h1, h2, h3, h4⟩ => ⟨by rw [h1], h2, h3, fun r1 hr => ?_⟩) fun _ h => h)
  rw [back_any hr]
  exact h4
end TW
set_option linter.all false
set_option Elab.async false
set_option maxRecDepth 100000
namespace TW
open PySem PySem.Spec PyProof.Rows L2
section
variable {P : Addr → Prop} {G G' : Gh} {σ : L2.St} {H H' : Hp} {s s' : Sx} {v : V} {o : Opd} {W : Wish} {X : Cx} {k : Nat} {tg : Expr}
theorem FzK.get {F : Addr → Prop} : ∀ {ks : List (Key × V)} {ds : List (PyData × PyData)} {i : Nat} {p : PyData × PyData}, FzK F H ks ds → ds[i]? = some p → ∃ k v, ks[i]? = some (k, v) ∧ p.1 = keyD k ∧ Fz F H v p.2
  | _, _, _, _, .nil, e => by simp at e
  | _, _, 0, _, .cons a b, e => by
    simp at e
    subst e
    exact ⟨_, _, rfl, rfl, a⟩
  | _, _, i + 1, _, .cons a b, e => by
    obtain ⟨k, v, h1, h2⟩ := FzK.get (i := i) b (by simpa using e)
    exact ⟨k, v, by simpa using h1, h2⟩
def kdOk (ds : List (PyData × PyData)) : Bool := !ds.isEmpty && ds.all fun p => !isTupD p.1
theorem kd_of {v : V} {ds : List (PyData × PyData)} (h : Fz G.F H v (.dict ds)) (hk : kdOk ds = true) : ∃ a ks, v = .ref a ∧ G.F a ∧ Rd H a (.dK ks) ∧ FzK G.F H ks ds := by
  unfold kdOk at hk
  rw [Bool.and_eq_true] at hk
  cases h with
  | dic f e r => exact ⟨_, _, rfl, f, e, r⟩
  | dit f e r =>
    cases r with
    | nil => simp at hk
    | cons a b =>
      have := hk.2
      rw [List.all_cons, Bool.and_eq_true] at this
      have h := this.1
      simp [isTupD, tupD] at h
end
end TW
set_option linter.all false
set_option Elab.async false
set_option maxRecDepth 100000
namespace TW
open PySem PySem.Spec PyProof.Rows L2
structure Jr (G : Gh) (H0 : Hp) (x g : Addr) (gr : List Int) (t : Int) (H : Hp) : Prop where
  ext : Ext (prot G H0) G H0 G H
  hx : H x = some (.lst [.ref g, .int t])
  hg : H g = some (.lst (gr.map V.int))
  tb : Tb (fun _ => False) G.F H
section
variable {G : Gh} {H0 H : Hp} {x g : Addr} {gr : List Int} {t : Int}
structure JrC (G : Gh) (H0 : Hp) (x g : Addr) : Prop where
  gb : ∀ a, G.F a → H0 a ≠ none
  bF : ∀ a ∈ G.bs, ¬ G.F a
  bs : G.bs = [x, g]
  xg : x ≠ g
theorem Jr.fresh (C : JrC G H0 x g) (d : Jr G H0 x g gr t H) {p : Addr} {u : HO} (hp : H p = none) : Jr G H0 x g gr t (upd H p u) := by
  have nx : p ≠ x := fun e => by rw [e, d.hx] at hp; cases hp
  have ng : p ≠ g := fun e => by rw [e, d.hg] at hp; cases hp
  have e := d.ext
  refine ⟨⟨fun _ h => h, fun a h => ?_, fun a h n => ?_, fun _ h => .inl h, fun _ => rfl, fun _ h => .inl h⟩, by rw [upd_ne nx.symm]; exact d.hx, by rw [upd_ne ng.symm]; exact d.hg, d.tb.new hp⟩
  · have : a ≠ p := fun z => (e.kF a h).some (C.gb a h) (by rw [z]; exact hp)
    rw [upd_ne this]; exact e.kF a h
  · have : a ≠ p := fun z => by
      have := e.kP a h n
      rw [z, hp] at this
      exact h.1 (by rw [z]; exact this.symm)
    rw [upd_ne this]; exact e.kP a h n
theorem Jr.at_ (C : JrC G H0 x g) (d : Jr G H0 x g gr t H) {p : Addr} {u : HO} (hp : p ∈ G.bs) : Ext (prot G H0) G H0 G (upd H p u) := by
  have e := d.ext
  refine ⟨fun _ h => h, fun a h => ?_, fun a h n => ?_, fun _ h => .inl h, fun _ => rfl, fun _ h => .inl h⟩
  · rw [upd_ne fun z => C.bF p hp (by rw [← z]; exact h)]; exact e.kF a h
  · rw [upd_ne fun z => h.2.1 (by rw [z]; exact hp)]; exact e.kP a h n
theorem Jr.setG (C : JrC G H0 x g) (d : Jr G H0 x g gr t H) {gr' : List Int} : Jr G H0 x g gr' t (upd H g (.lst (gr'.map V.int))) :=
  ⟨d.at_ C (by rw [C.bs]; simp), by rw [upd_ne C.xg]; exact d.hx, upd_same, d.tb.upd (by rw [d.hg]; exact calm_lst)⟩
theorem Jr.setT (C : JrC G H0 x g) (d : Jr G H0 x g gr t H) {t' : Int} : Jr G H0 x g gr t' (upd H x (.lst [.ref g, .int t'])) :=
  ⟨d.at_ C (by rw [C.bs]; simp), upd_same, by rw [upd_ne C.xg.symm]; exact d.hg, d.tb.upd (by rw [d.hx]; exact calm_lst)⟩
theorem Jr.box (C : JrC G H0 x g) (d : Jr G H0 x g gr t H) : GB G H (some ⟨gr, [], t⟩) where
  bx := fun b' e => by
    cases e
    exact ⟨.inr ⟨rfl, x, g, C.bs, C.xg, d.hx, d.hg⟩⟩
  nb := fun e => by cases e
  fr := fun a h => (d.ext.kF a h).some (C.gb a h)
  bF := fun a h => ⟨C.bF a h, by
    rw [C.bs] at h
    simp at h
    rcases h with rfl | rfl
    · rw [d.hx]; simp
    · rw [d.hg]; simp⟩
  tb := d.tb
end
end TW
set_option linter.all false
set_option Elab.async false
set_option maxRecDepth 100000
namespace TW
open PySem PySem.Spec PyProof.Rows L2
section
variable {X : Cx}
theorem SqL.fresh {K : PySem.W.Frag} {H : Hp} {a p : Addr} {u : HO} {xs : List V} (h : SqL K H a xs) (hp : H p = none) : SqL K (upd H p u) a xs := by
  rcases h with (h | ⟨o, h⟩) | h
  · exact .inl (.inl (by rw [upd_ne fun z => by rw [z, hp] at h; cases h]; exact h))
  · exact .inl (.inr ⟨o, by rw [upd_ne fun z => by rw [z, hp] at h; cases h]; exact h⟩)
  · exact .inr h
end
end TW
set_option linter.all false
set_option Elab.async false
namespace TW
open PySem PySem.Spec PyProof.Rows L2
end TW
set_option linter.all false
set_option Elab.async false
set_option maxRecDepth 100000
namespace TW
open PySem PySem.Spec PyProof.Rows L2
section
variable {P : Program} {w : World} {X : Cx} {k : Nat} {W : Wish}
end
end TW
set_option linter.all false
set_option Elab.async false
set_option maxRecDepth 100000
namespace TW
open PySem PySem.Spec PyProof.Rows L2
section
variable {prog : Program} {w : World} {A : Around} {E : Value → Shared → Prop} {s : Shared} {d : Addr} {es : Array DictEntry} {ep : Nat}
end
def pk (p : Int × Int) : List Key := [.inl p.1, .inl p.2]
section
variable {X : Cx} {pins : List (Addr × Obj)} {σ : L2.St} {H : Hp} {s : Shared}
end
section
variable {P S : Addr → Prop} {G G' : Gh} {σ : L2.St} {H H' : Hp} {s s' : Sx} {v : V} {o : Opd} {W : Wish} {X : Cx} {k : Nat} {tg : Expr}
end
end TW
set_option linter.all false
set_option Elab.async false
set_option maxRecDepth 100000
namespace TW
open PySem PySem.Spec PyProof.Rows L2
section
variable {P : Addr → Prop} {G G' : Gh} {σ : L2.St} {H H' : Hp} {s s' : Sx} {v : V} {o : Opd} {W : Wish} {X : Cx} {k : Nat}
theorem Pend.lay {vs : List V} {ps : List Pn} {p : Addr} {u : HO} (h : Pend G σ H s P vs ps) (kF : ∀ a, G.F a → Same (H a) (upd H p u a)) (hp : H p = none) : Pend G σ (upd H p u) s P vs ps := by
  induction h with
  | nil => exact .nil
  | dat r _ ih => exact .dat (r.sim (fun _ h => h) kF) ih
  | own ow f t ih => exact .own (ow.sim (fun _ h => h) kF (upd_ne fun z => ow.tracked (by rw [z]; exact hp))) f ih
end
end TW
set_option linter.all false
set_option Elab.async false
set_option maxRecDepth 100000
namespace TW
open PySem PySem.Spec PyProof.Rows L2
section
variable {P : Addr → Prop} {G G' : Gh} {σ : L2.St} {H H' : Hp} {s s' : Sx} {v : V} {o : Opd} {W : Wish} {X : Cx} {k : Nat}
end
end TW
set_option linter.all false
set_option Elab.async false
set_option maxRecDepth 100000
namespace TW
open PySem PySem.Spec PyProof.Rows L2
section
variable {P : Addr → Prop} {G G' : Gh} {σ : L2.St} {H H' : Hp} {s s' : Sx} {v : V} {o : Opd} {W : Wish} {X : Cx} {k : Nat}
end
end TW
set_option linter.all false
set_option Elab.async false
set_option maxRecDepth 100000
namespace TW
open PySem PySem.Spec PyProof.Rows L2
section
variable {P : Addr → Prop} {G G' : Gh} {σ : L2.St} {H H' : Hp} {s s' : Sx} {v : V} {o : Opd} {W : Wish} {X : Cx} {k : Nat} {a : Addr}
end
end TW
set_option linter.all false
set_option Elab.async false
set_option maxRecDepth 100000
namespace TW
open PySem PySem.Spec PyProof.Rows L2
section
variable {P : Addr → Prop} {G G' : Gh} {σ : L2.St} {H H' : Hp} {s s' : Sx} {v : V} {o : Opd} {W : Wish} {X : Cx} {k : Nat}
end
end TW
set_option linter.all false
set_option Elab.async false
set_option maxRecDepth 100000
namespace TW
open PySem PySem.Spec PyProof.Rows L2
section
variable {P : Addr → Prop} {G G' : Gh} {σ : L2.St} {H H' : Hp} {s s' : Sx} {v : V} {o : Opd} {W : Wish} {X : Cx} {k : Nat} {tg : Expr} {vs : List Nat}
end
end TW
set_option linter.all false
set_option Elab.async false
set_option maxRecDepth 100000
namespace TW
open PySem PySem.Spec PyProof.Rows L2
section
variable {X : Cx} {k : Nat} {C : Addr} {bmB : List Value} {B newId initId : String}
end
end TW
set_option linter.all false
set_option Elab.async false
set_option maxRecDepth 100000
set_option maxHeartbeats 0
namespace K02
open PySem PySem.Spec PyProof.Rows L2 TW
def m_is_integer : M Fl :=
(TW.sRet (TW.eAnd (eIs .int (eVar 0)) (TW.eAnd (TW.eNot (eIs .bool (eVar 0))) (eChn (cmpD .le) (cmpD .le) (eVar 1) (eVar 0) (eVar 2)))))
def f_is_integer : Sem := runF 3 m_is_integer
def m_are_integers : M Fl :=
(TW.sSeq (TW.sIf (TW.tOr (TW.tNot (TW.tVal (eIs .tuple (eVar 0)))) (TW.tVal (eCmp .ne (eFn lenD (aCons (eVar 0) aNil)) (eVar 1))))
(TW.sRet (eC (.bool false)))
TW.sSkip)
(TW.sRet (eFn allD (aCons (eNw (nCmp [4] (iSeqM (eVar 0)) (tgName 4) (pure true) (eCall 3 f_is_integer (aCons (eVar 4) (aCons (eVar 2) (aCons (eVar 3) aNil)))))) aNil))))
def f_are_integers : Sem := runF 5 m_are_integers
def m_kind_word : M Fl :=
(TW.sSeq (TW.sIf (TW.tOr (TW.tNot (TW.tVal (eIs .tuple (eVar 1)))) (TW.tVal (eCmp .ne (eFn lenD (aCons (eVar 1) aNil)) (eC (.int 2)))))
(TW.sRet (eC (.str "kind")))
TW.sSkip)
(TW.sSeq (TW.sIf (TW.tNot (TW.tVal (eCall 3 f_is_integer (aCons (eIx (eVar 1) (eC (.int 0))) (aCons (eC (.int 0)) (aCons (eC (.int 3)) aNil))))))
(TW.sRet (eC (.str "sender")))
TW.sSkip)
(TW.sRet (TW.eIf (TW.tVal (eCall 4 f_are_integers (aCons (eIx (eVar 1) (eC (.int 1))) (aCons (eVar 0) (aCons (eC (.int 0)) (aCons (eBin .sub (eVar 0) (eC (.int 1))) aNil)))))) (eC .none) (eC (.str "targets"))))))
def f_kind_word : Sem := runF 2 m_kind_word
def m_are_labels : M Fl :=
(TW.sSeq (TW.sIf (TW.tOr (TW.tNot (TW.tVal (eIs .tuple (eVar 0)))) (TW.tNot (TW.tVal (eChn (cmpD .le) (cmpD .le) (eC (.int 2)) (eFn lenD (aCons (eVar 0) aNil)) (eC (.int 8))))))
(TW.sRet (eC (.bool false)))
TW.sSkip)
(TW.sRet (eCall 4 f_are_integers (aCons (eVar 0) (aCons (eFn lenD (aCons (eVar 0) aNil)) (aCons (eC (.int 0)) (aCons (eBin .sub (eFn lenD (aCons (eVar 0) aNil)) (eC (.int 1))) aNil)))))))
def f_are_labels : Sem := runF 1 m_are_labels
def m_handler_error : M Fl :=
(TW.sSeq (TW.sIf (TW.tOr (TW.tNot (TW.tVal (eIs .tuple (eVar 0)))) (TW.tVal (eCmp .ne (eFn lenD (aCons (eVar 0) aNil)) (eC (.int 2)))))
(TW.sRet (eTup (aCons (eC .none) (aCons (eC (.str "handler")) aNil))))
TW.sSkip)
(TW.sSeq (TW.sTg (tgTup [(tgName 1), (tgName 2)]) (eVar 0))
(TW.sSeq (TW.sIf (TW.tNot (TW.tVal (eCall 1 f_are_labels (aCons (eVar 1) aNil))))
(TW.sRet (eTup (aCons (eC .none) (aCons (eC (.str "labels")) aNil))))
TW.sSkip)
(TW.sSeq (TW.sIf (TW.tOr (TW.tNot (TW.tVal (eIs .tuple (eVar 2)))) (TW.tNot (TW.tVal (eChn (cmpD .le) (cmpD .le) (eC (.int 1)) (eFn lenD (aCons (eVar 2) aNil)) (eC (.int 6))))))
(TW.sRet (eTup (aCons (eC .none) (aCons (eC (.str "kinds")) aNil))))
TW.sSkip)
(TW.sSeq (TW.sFor (iEnM (eVar 2)) (tgTup [(tgName 3), (tgName 4)])
(TW.sSeq (TW.sAsg 5 (eCall 2 f_kind_word (aCons (eFn lenD (aCons (eVar 1) aNil)) (aCons (eVar 4) aNil))))
(TW.sIf (TW.tVal (eCmp .notN (eVar 5) (eC .none)))
(TW.sRet (eTup (aCons (eVar 3) (aCons (eVar 5) aNil))))
TW.sSkip)))
(TW.sRet (eC .none)))))))
def f_handler_error : Sem := runF 6 m_handler_error
def m_is_handler : M Fl :=
(TW.sRet (eCmp .isN (eCall 1 f_handler_error (aCons (eVar 0) aNil)) (eC .none)))
def f_is_handler : Sem := runF 1 m_is_handler
def m_law_one : M Fl :=
(TW.sRet (eIx (eVar 1) (eCall 2 drawF (aCons (eVar 0) (aCons (eFn lenD (aCons (eVar 1) aNil)) aNil)))))
def f_law_one : Sem := runF 2 m_law_one
def m_law_odd : M Fl :=
(TW.sSeq (TW.sAsg 1 (eNw (nLst (aCons (eC .none) (aCons (eC (.bool true)) (aCons (eC (.bool false)) (aCons (eUn neD (eC (.int 1))) (aCons (eC (.int 0)) (aCons (eC (.int 1)) (aCons (eC (.int 2)) (aCons (eC (.int 3)) (aCons (eC (.int 6)) (aCons (eC (.int 8)) (aCons (eC (.int 9)) (aCons (eC (.int 200)) (aCons (eBin .pow (eC (.int 10)) (eC (.int 18))) (aCons (eBin .pow (eC (.int 10)) (eC (.int 39))) (aCons (eC (.str "")) (aCons (eC (.str "-")) (aCons (eC (.str "0")) (aCons (eTup aNil) (aCons (eTup (aCons (eC (.int 0)) aNil)) (aCons (eTup (aCons (eC (.int 0)) (aCons (eC (.int 1)) aNil))) aNil)))))))))))))))))))))))
(TW.sSeq (TW.sAsg 1 (eBin .add (eVar 1) (eNw (nLst (aCons (eTup (aCons (eC (.int 1)) (aCons (eC (.int 0)) (aCons (eC (.int 0)) aNil)))) (aCons (eTup (aCons (eC (.int 0)) (aCons (eTup (aCons (eC (.int 0)) (aCons (eC (.int 1)) aNil))) aNil))) (aCons (eNw (nLst aNil)) (aCons (eNw (nLst (aCons (eC (.int 0)) aNil))) (aCons (eNw nDict0) (aCons (eNw (nDict1 "log" (eC (.int 0)))) (aCons (eTup (aCons (eTup aNil) aNil)) (aCons (eC (.str "0:0,1")) (aCons (eTup (aCons (eC (.int 0)) (aCons (eC (.int 0)) aNil))) (aCons (eTup (aCons (eC .none) (aCons (eC (.int 0)) aNil))) aNil))))))))))))))
(TW.sRet (eCall 2 f_law_one (aCons (eVar 0) (aCons (eVar 1) aNil))))))
def f_law_odd : Sem := runF 2 m_law_odd
def m_law_bent_1 (F : Sem) : M Fl :=
(TW.sRet (eCall 2 f_law_one (aCons (eVar 0) (aCons (eBin .add (eVar 4) (eNw (nLst (aCons (eBin .add (eBin .add (eSlc (eVar 1) pNone (pSome (eVar 3))) (eTup (aCons (eCall 1 f_law_odd (aCons (eVar 0) aNil)) aNil))) (eSlc (eVar 1) (pSome (eVar 3)) pNone)) (aCons (eBin .add (eVar 1) (eSlc (eVar 1) (pSome (eUn neD (eC (.int 1)))) pNone)) (aCons (eOp repD (eVar 1) (eC (.int 3))) aNil)))))) aNil))))
def m_law_bent_2 (F : Sem) : M Fl :=
(TW.sAsg 4 (eNw (nLst (aCons (eBin .add (eBin .add (eSlc (eVar 1) pNone (pSome (eVar 3))) (eTup (aCons (eCall 1 f_law_odd (aCons (eVar 0) aNil)) aNil))) (eSlc (eVar 1) (pSome (eBin .add (eVar 3) (eC (.int 1)))) pNone)) (aCons (eBin .add (eSlc (eVar 1) pNone (pSome (eVar 3))) (eSlc (eVar 1) (pSome (eBin .add (eVar 3) (eC (.int 1)))) pNone)) (aCons (eUn backD (eVar 1)) (aCons (eFn listD (aCons (eVar 1) aNil)) aNil)))))))
def m_law_bent_3 (F : Sem) : M Fl :=
(TW.sSeq (m_law_bent_2 F) (m_law_bent_1 F))
def m_law_bent_4 (F : Sem) : M Fl :=
(TW.sAsg 3 (eCall 2 drawF (aCons (eVar 0) (aCons (eBin .add (eFn lenD (aCons (eVar 1) aNil)) (eC (.int 1))) aNil))))
def m_law_bent_5 (F : Sem) : M Fl :=
(TW.sSeq (m_law_bent_4 F) (m_law_bent_3 F))
def m_law_bent_6 (F : Sem) : M Fl :=
(TW.sRet (eBin .add (eBin .add (eSlc (eVar 1) pNone (pSome (eVar 3))) (eTup (aCons (eCall 2 F (aCons (eVar 0) (aCons (eIx (eVar 1) (eVar 3)) aNil))) aNil))) (eSlc (eVar 1) (pSome (eBin .add (eVar 3) (eC (.int 1)))) pNone)))
def m_law_bent_7 (F : Sem) : M Fl :=
(TW.sAsg 3 (eIx (eVar 2) (eCall 2 drawF (aCons (eVar 0) (aCons (eFn lenD (aCons (eVar 2) aNil)) aNil)))))
def m_law_bent_8 (F : Sem) : M Fl :=
(TW.sIf (TW.tAnd (TW.tVal (eOp ne0D (eVar 2) (eNw (nLst aNil)))) (TW.tVal (eCmp .gt (eCall 2 drawF (aCons (eVar 0) (aCons (eC (.int 4)) aNil))) (eC (.int 0)))))
(TW.sSeq (m_law_bent_7 F) (m_law_bent_6 F))
TW.sSkip)
def m_law_bent_9 (F : Sem) : M Fl :=
(TW.sSeq (m_law_bent_8 F) (m_law_bent_5 F))
def m_law_bent_10 (F : Sem) : M Fl :=
(TW.sAsg 2 (eNw (nCmp [5] (iRg1 (eFn lenD (aCons (eVar 1) aNil))) (tgName 5) (TW.tVal (eIs .tuple (eIx (eVar 1) (eVar 5)))) (eVar 5))))
def m_law_bent (F : Sem) : M Fl :=
(TW.sSeq (m_law_bent_10 F) (m_law_bent_9 F))
def fr_law_bent : Nat → Sem
  | 0 => fun _ _ => .error .stuck
  | n + 1 => runF 6 (m_law_bent (fr_law_bent n))
def f_law_bent : Sem := fr_law_bent 12
def m_law_kind : M Fl :=
(TW.sSeq (TW.sTg (tgTup [(tgName 3), (tgName 4), (tgName 5)]) (eTup (aCons (eCall 2 drawF (aCons (eVar 0) (aCons (eVar 1) aNil))) (aCons (eCall 2 drawF (aCons (eVar 0) (aCons (eVar 1) aNil))) (aCons (eCall 2 drawF (aCons (eVar 0) (aCons (eC (.int 5)) aNil))) aNil)))))
(TW.sSeq (TW.sAsg 2 (eNw (nCmp [6] (iRg1 (eVar 1)) (tgName 6) (pure true) (eCall 2 drawF (aCons (eVar 0) (aCons (eVar 1) aNil))))))
(TW.sSeq (TW.sIf (TW.tVal (eCmp .eq (eVar 5) (eC (.int 0))))
(TW.sAsg 2 (eBin .mul (eNw (nLst (aCons (eVar 3) aNil))) (eVar 1)))
(TW.sIf (TW.tVal (eCmp .eq (eVar 5) (eC (.int 1))))
(TW.sAsg 2 (eNw (nCmp [6] (iRg1 (eVar 1)) (tgName 6) (pure true) (TW.eIf (TW.tVal (eCmp .eq (eVar 6) (eVar 3))) (eVar 4) (eVar 6)))))
(TW.sIf (TW.tVal (eCmp .eq (eVar 5) (eC (.int 2))))
(TW.sAsg 2 (eNw (nCmp [6] (iRg1 (eVar 1)) (tgName 6) (pure true) (eBin .mod (eFn intD (aCons (eBin .add (eVar 6) (eVar 3)) aNil)) (eVar 1)))))
(TW.sIf (TW.tVal (eCmp .eq (eVar 5) (eC (.int 3))))
(TW.sAsg 2 (eNw (nCmp [6] (iRg1 (eVar 1)) (tgName 6) (pure true) (TW.eIf (TW.tVal (eOp (memD true) (eVar 6) (eTup (aCons (eVar 3) (aCons (eVar 4) aNil))))) (eVar 6) (eBin .sub (eBin .add (eVar 3) (eVar 4)) (eVar 6))))))
TW.sSkip))))
(TW.sRet (eTup (aCons (eCall 2 drawF (aCons (eVar 0) (aCons (eC (.int 4)) aNil))) (aCons (eFn tupleD (aCons (eVar 2) aNil)) aNil)))))))
def f_law_kind : Sem := runF 7 m_law_kind
def m_law_handler : M Fl :=
(TW.sSeq (TW.sAsg 3 (eBin .add (eC (.int 2)) (eCall 2 drawF (aCons (eVar 0) (aCons (eBin .sub (eVar 1) (eC (.int 1))) aNil)))))
(TW.sSeq (TW.sAsg 4 (eNw (nCmp [5] (iRg1 (eVar 3)) (tgName 5) (pure true) (eCall 2 f_law_one (aCons (eVar 0) (aCons (eNw (nLst (aCons (eC (.int 0)) (aCons (eC (.int 0)) (aCons (eVar 5) (aCons (eCall 2 drawF (aCons (eVar 0) (aCons (eVar 3) aNil))) aNil)))))) aNil))))))
(TW.sRet (eTup (aCons (eFn tupleD (aCons (eVar 4) aNil)) (aCons (eFn tupleD (aCons (eNw (nCmp [5] (iRg1 (eBin .add (eC (.int 1)) (eCall 2 drawF (aCons (eVar 0) (aCons (eVar 2) aNil))))) (tgName 5) (pure true) (eCall 2 f_law_kind (aCons (eVar 0) (aCons (eVar 3) aNil))))) aNil)) aNil))))))
def f_law_handler : Sem := runF 6 m_law_handler
def m_law_whole : M Fl :=
(TW.sRet (TW.eAnd (eIs .int (eVar 0)) (TW.eAnd (TW.eNot (eIs .bool (eVar 0))) (eChn (cmpD .le) (cmpD .le) (eVar 1) (eVar 0) (eVar 2)))))
def f_law_whole : Sem := runF 3 m_law_whole
def m_law_kind_word : M Fl :=
(TW.sSeq (TW.sIf (TW.tOr (TW.tNot (TW.tVal (eIs .tuple (eVar 1)))) (TW.tVal (eCmp .ne (eFn lenD (aCons (eVar 1) aNil)) (eC (.int 2)))))
(TW.sRet (eC (.str "kind")))
TW.sSkip)
(TW.sSeq (TW.sIf (TW.tNot (TW.tVal (eCall 3 f_law_whole (aCons (eIx (eVar 1) (eC (.int 0))) (aCons (eC (.int 0)) (aCons (eC (.int 3)) aNil))))))
(TW.sRet (eC (.str "sender")))
TW.sSkip)
(TW.sSeq (TW.sIf (TW.tOr (TW.tNot (TW.tVal (eIs .tuple (eIx (eVar 1) (eC (.int 1)))))) (TW.tVal (eCmp .ne (eFn lenD (aCons (eIx (eVar 1) (eC (.int 1))) aNil)) (eVar 0))))
(TW.sRet (eC (.str "targets")))
TW.sSkip)
(TW.sSeq (TW.sAsg 2 (eNw (nCmp [3] (iSeqM (eIx (eVar 1) (eC (.int 1)))) (tgName 3) (TW.tNot (TW.tVal (eCall 3 f_law_whole (aCons (eVar 3) (aCons (eC (.int 0)) (aCons (eBin .sub (eVar 0) (eC (.int 1))) aNil)))))) (eVar 3))))
(TW.sRet (TW.eIf (TW.tVal (eOp eq0D (eVar 2) (eNw (nLst aNil)))) (eC .none) (eC (.str "targets"))))))))
def f_law_kind_word : Sem := runF 4 m_law_kind_word
def m_law_handler_error : M Fl :=
(TW.sSeq (TW.sIf (TW.tOr (TW.tNot (TW.tVal (eIs .tuple (eVar 0)))) (TW.tVal (eCmp .ne (eFn lenD (aCons (eVar 0) aNil)) (eC (.int 2)))))
(TW.sRet (eTup (aCons (eC .none) (aCons (eC (.str "handler")) aNil))))
TW.sSkip)
(TW.sSeq (TW.sTg (tgTup [(tgName 2), (tgName 3)]) (eVar 0))
(TW.sSeq (TW.sIf (TW.tOr (TW.tNot (TW.tVal (eIs .tuple (eVar 2)))) (TW.tNot (TW.tVal (eChn (cmpD .le) (cmpD .le) (eC (.int 2)) (eFn lenD (aCons (eVar 2) aNil)) (eC (.int 8))))))
(TW.sRet (eTup (aCons (eC .none) (aCons (eC (.str "labels")) aNil))))
TW.sSkip)
(TW.sSeq (TW.sIf (TW.tVal (eOp ne0D (eNw (nCmp [5] (iSeqM (eVar 2)) (tgName 5) (TW.tNot (TW.tVal (eCall 3 f_law_whole (aCons (eVar 5) (aCons (eC (.int 0)) (aCons (eBin .sub (eFn lenD (aCons (eVar 2) aNil)) (eC (.int 1))) aNil)))))) (eVar 5))) (eNw (nLst aNil))))
(TW.sRet (eTup (aCons (eC .none) (aCons (eC (.str "labels")) aNil))))
TW.sSkip)
(TW.sSeq (TW.sIf (TW.tOr (TW.tNot (TW.tVal (eIs .tuple (eVar 3)))) (TW.tNot (TW.tVal (eChn (cmpD .le) (cmpD .le) (eC (.int 1)) (eFn lenD (aCons (eVar 3) aNil)) (eC (.int 6))))))
(TW.sRet (eTup (aCons (eC .none) (aCons (eC (.str "kinds")) aNil))))
TW.sSkip)
(TW.sSeq (TW.sAsg 1 (eNw (nCmp [4] (iRg1 (eFn lenD (aCons (eVar 3) aNil))) (tgName 4) (pure true) (eTup (aCons (eVar 4) (aCons (eCall 2 f_law_kind_word (aCons (eFn lenD (aCons (eVar 2) aNil)) (aCons (eIx (eVar 3) (eVar 4)) aNil))) aNil))))))
(TW.sRet (eIx (eBin .add (eNw (nCmp [6] (iSeqM (eVar 1)) (tgName 6) (TW.tVal (eCmp .notN (eIx (eVar 6) (eC (.int 1))) (eC .none))) (eVar 6))) (eNw (nLst (aCons (eC .none) aNil)))) (eC (.int 0))))))))))
def f_law_handler_error : Sem := runF 7 m_law_handler_error
def m_law_1 : M Fl :=
(TW.sRet (eC (.bool true)))
def m_law_2 : M Fl :=
(TW.sIf (TW.tOr (TW.tVal (eCmp .ne (eFn reprD (aCons (eCall 1 f_is_handler (aCons (eVar 8) aNil)) aNil)) (eFn reprD (aCons (eCmp .eq (eVar 16) (eC (.str "None"))) aNil)))) (TW.tVal (eCmp .ne (eFn reprD (aCons (eVar 8) aNil)) (eVar 15))))
(TW.sRet (eC (.bool false)))
TW.sSkip)
def m_law_3 : M Fl :=
(TW.sIf (TW.tVal (eCmp .ne (eNw (nCmp [18] (iRg1 (eC (.int 2))) (tgName 18) (pure true) (eFn reprD (aCons (eCall 1 f_handler_error (aCons (eVar 8) aNil)) aNil)))) (eNw (nLst (aCons (eVar 16) (aCons (eVar 16) aNil))))))
(TW.sRet (eC (.bool false)))
TW.sSkip)
def m_law_4 : M Fl :=
(TW.sSeq m_law_3 m_law_2)
def m_law_5 : M Fl :=
(TW.sPar [tgName 15, tgName 16] (aCons (eFn reprD (aCons (eVar 8) aNil)) (aCons (eFn reprD (aCons (eCall 1 f_law_handler_error (aCons (eVar 8) aNil)) aNil)) aNil)))
def m_law_6 : M Fl :=
(TW.sSeq m_law_5 m_law_4)
def m_law_7 : M Fl :=
(TW.sFor (iSeqM (eBin .add (eVar 4) (eNw (nLst (aCons (eTup (aCons (eVar 9) (aCons (eOp repD (eTup (aCons (eTup (aCons (eC (.int 0)) (aCons (eOp repD (eTup (aCons (eC (.int 0)) aNil)) (eVar 12)) aNil))) aNil)) (eC (.int 6))) aNil))) (aCons (eTup (aCons (eVar 9) (aCons (eTup (aCons (eTup (aCons (eC (.int 3)) (aCons (eOp repD (eTup (aCons (eBin .sub (eVar 12) (eC (.int 1))) aNil)) (eVar 12)) aNil))) aNil)) aNil))) aNil)))))) (tgName 8)
m_law_6)
def m_law_8 : M Fl :=
(TW.sAsgN 4 (nOp catD (eVar 4) (eNw (nCmp [17] (iSeqM (eVar 7)) (tgName 17) (pure true) (eTup (aCons (eVar 9) (aCons (eBin .add (eBin .add (eSlc (eVar 10) pNone (pSome (eVar 5))) (eTup (aCons (eVar 17) aNil))) (eSlc (eVar 10) (pSome (eBin .add (eVar 5) (eC (.int 1)))) pNone)) aNil)))))))
def m_law_9 : M Fl :=
(TW.sSeq m_law_8 m_law_7)
def m_law_10 : M Fl :=
(TW.sAsg 7 (eBin .add (eVar 7) (eNw (nLst (aCons (eTup (aCons (eVar 13) aNil)) (aCons (eTup (aCons (eVar 13) (aCons (eVar 14) (aCons (eVar 14) aNil)))) aNil))))))
def m_law_11 : M Fl :=
(TW.sSeq m_law_10 m_law_9)
def m_law_12 : M Fl :=
(TW.sAsg 7 (eBin .add (eVar 7) (eNw (nLst (aCons (eTup (aCons (eVar 13) (aCons (eFn listD (aCons (eVar 14) aNil)) aNil))) (aCons (eTup (aCons (eVar 13) (aCons (eBin .add (eVar 14) (eTup (aCons (eC (.int 0)) aNil))) aNil))) (aCons (eTup (aCons (eVar 13) (aCons (eSlc (eVar 14) (pSome (eC (.int 1))) pNone) aNil))) (aCons (eTup (aCons (eVar 6) (aCons (eVar 6) aNil))) aNil))))))))
def m_law_13 : M Fl :=
(TW.sSeq m_law_12 m_law_11)
def m_law_14 : M Fl :=
(TW.sAsg 7 (eNw (nLst (aCons (eTup (aCons (eVar 6) (aCons (eVar 14) aNil))) (aCons (eTup (aCons (eC (.int 4)) (aCons (eVar 14) aNil))) (aCons (eTup (aCons (eUn neD (eC (.int 1))) (aCons (eVar 14) aNil))) (aCons (eTup (aCons (eVar 13) (aCons (eBin .add (eSlc (eVar 14) pNone (pSome (eUn neD (eC (.int 1))))) (eTup (aCons (eVar 6) aNil))) aNil))) aNil)))))))
def m_law_15 : M Fl :=
(TW.sSeq m_law_14 m_law_13)
def m_law_16 : M Fl :=
(TW.sAsg 6 (eCall 2 f_law_one (aCons (eVar 1) (aCons (eNw (nLst (aCons (eUn neD (eC (.int 1))) (aCons (eVar 12) (aCons (eC (.bool true)) (aCons (eC .none) (aCons (eC (.str "0")) (aCons (eBin .pow (eC (.int 10)) (eC (.int 39))) aNil)))))))) aNil))))
def m_law_17 : M Fl :=
(TW.sSeq m_law_16 m_law_15)
def m_law_18 : M Fl :=
(TW.sTg (tgTup [(tgName 13), (tgName 14)]) (eIx (eVar 10) (eVar 5)))
def m_law_19 : M Fl :=
(TW.sSeq m_law_18 m_law_17)
def m_law_20 : M Fl :=
(TW.sAsg 5 (eCall 2 drawF (aCons (eVar 1) (aCons (eFn lenD (aCons (eVar 10) aNil)) aNil))))
def m_law_21 : M Fl :=
(TW.sSeq m_law_20 m_law_19)
def m_law_22 : M Fl :=
(TW.sIf (TW.tAnd (TW.tVal (eIs .tuple (eVar 11))) (TW.tVal (eCmp .gt (eFn lenD (aCons (eVar 11) aNil)) (eC (.int 0)))))
(sApp 4 (eCall 2 f_law_bent (aCons (eVar 1) (aCons (eVar 11) aNil))))
TW.sSkip)
def m_law_23 : M Fl :=
(TW.sSeq m_law_22 m_law_21)
def m_law_24 : M Fl :=
(TW.sAsgN 4 (nOp catD (eVar 4) (eNw (nLst (aCons (eTup (aCons (eBin .add (eTup (aCons (eC (.bool true)) aNil)) (eSlc (eVar 9) (pSome (eC (.int 1))) pNone)) (aCons (eVar 10) aNil))) (aCons (eTup (aCons (eSlc (eVar 9) pNone (pSome (eC (.int 1)))) (aCons (eVar 10) aNil))) (aCons (eTup (aCons (eOp repD (eVar 9) (eC (.int 9))) (aCons (eVar 10) aNil))) (aCons (eTup (aCons (eVar 9) (aCons (eVar 10) (aCons (eVar 10) aNil)))) aNil))))))))
def m_law_25 : M Fl :=
(TW.sSeq m_law_24 m_law_23)
def m_law_26 : M Fl :=
(TW.sAsgN 4 (nOp catD (eVar 4) (eNw (nLst (aCons (eTup (aCons (eBin .add (eSlc (eVar 9) pNone (pSome (eUn neD (eC (.int 1))))) (eTup (aCons (eVar 12) aNil))) (aCons (eVar 10) aNil))) (aCons (eTup (aCons (eBin .add (eSlc (eVar 9) pNone (pSome (eUn neD (eC (.int 1))))) (eTup (aCons (eUn neD (eC (.int 1))) aNil))) (aCons (eVar 10) aNil))) (aCons (eTup (aCons (eFn listD (aCons (eVar 9) aNil)) (aCons (eVar 10) aNil))) aNil)))))))
def m_law_27 : M Fl :=
(TW.sSeq m_law_26 m_law_25)
def m_law_28 : M Fl :=
(sApp 4 (eTup (aCons (eVar 9) (aCons (eFn listD (aCons (eVar 10) aNil)) aNil))))
def m_law_29 : M Fl :=
(TW.sSeq m_law_28 m_law_27)
def m_law_30 : M Fl :=
(TW.sAsgN 4 (nLst (aCons (eVar 3) (aCons (eVar 11) (aCons (eCall 2 f_law_bent (aCons (eVar 1) (aCons (eVar 3) aNil))) (aCons (eCall 1 f_law_odd (aCons (eVar 1) aNil)) (aCons (eTup (aCons (eVar 9) (aCons (eOp repD (eVar 10) (eC (.int 7))) aNil))) (aCons (eTup (aCons (eVar 9) (aCons (eTup aNil) aNil))) aNil))))))))
def m_law_31 : M Fl :=
(TW.sSeq m_law_30 m_law_29)
def m_law_32 : M Fl :=
(TW.sPar [tgName 11, tgName 12] (aCons (eCall 2 f_law_bent (aCons (eVar 1) (aCons (eVar 3) aNil))) (aCons (eFn lenD (aCons (eVar 9) aNil)) aNil)))
def m_law_33 : M Fl :=
(TW.sSeq m_law_32 m_law_31)
def m_law_34 : M Fl :=
(TW.sTg (tgTup [(tgName 9), (tgName 10)]) (eVar 3))
def m_law_35 : M Fl :=
(TW.sSeq m_law_34 m_law_33)
def m_law_36 : M Fl :=
(TW.sAsg 3 (eCall 3 f_law_handler (aCons (eVar 1) (aCons (eC (.int 8)) (aCons (eC (.int 6)) aNil)))))
def m_law_37 : M Fl :=
(TW.sSeq m_law_36 m_law_35)
def m_law_38 : M Fl :=
(TW.sFor (iRg1 (eC (.int 12))) (tgName 2)
m_law_37)
def m_law : M Fl :=
(TW.sSeq m_law_38 m_law_1)
end K02
set_option linter.all false
set_option Elab.async false
set_option maxRecDepth 100000
set_option maxHeartbeats 0
namespace K08
open PySem PySem.Spec PyProof.Rows L2 TW
def m_is_row : M Fl :=
(TW.sSeq (TW.sIf (TW.tOr (TW.tNot (TW.tVal (eIs .tuple (eVar 2)))) (TW.tVal (eCmp .ne (eFn lenD (aCons (eVar 2) aNil)) (eFn lenD (aCons (eIx (eVar 0) (eC (.int 1))) aNil)))))
(TW.sRet (eC (.bool false)))
TW.sSkip)
(TW.sRet (eFn allD (aCons (eNw (nCmp [3] (iSeqM (eVar 2)) (tgName 3) (pure true) (TW.eOr (eCmp .isN (eVar 3) (eC .none)) (eCall 3 K02.f_is_integer (aCons (eVar 3) (aCons (eC (.int 0)) (aCons (eBin .sub (eVar 1) (eC (.int 1))) aNil))))))) aNil))))
def f_is_row : Sem := runF 4 m_is_row
def m_are_ends : M Fl :=
(TW.sSeq (TW.sIf (TW.tOr (TW.tNot (TW.tVal (eIs .tuple (eVar 1)))) (TW.tOr (TW.tVal (eOp eq0D (eVar 1) (eTup aNil))) (TW.tNot (TW.tVal (eFn allD (aCons (eNw (nCmp [4] (iSeqM (eVar 1)) (tgName 4) (pure true) (eCall 3 K02.f_is_integer (aCons (eVar 4) (aCons (eC (.int 0)) (aCons (eBin .sub (eVar 0) (eC (.int 1))) aNil)))))) aNil))))))
(TW.sRet (eC (.bool false)))
TW.sSkip)
(TW.sRet (eFn allD (aCons (eNw (nCmp [2, 3] (iZpM (eVar 1) (eSlc (eVar 1) (pSome (eC (.int 1))) pNone)) (tgTup [(tgName 2), (tgName 3)]) (pure true) (eCmp .lt (eVar 2) (eVar 3)))) aNil))))
def f_are_ends : Sem := runF 5 m_are_ends
def m_plan_error : M Fl :=
(TW.sSeq (TW.sIf (TW.tOr (TW.tNot (TW.tVal (eIs .tuple (eVar 1)))) (TW.tVal (eCmp .ne (eFn lenD (aCons (eVar 1) aNil)) (eC (.int 2)))))
(TW.sRet (eTup (aCons (eC .none) (aCons (eC (.str "plan")) aNil))))
TW.sSkip)
(TW.sSeq (TW.sTg (tgTup [(tgName 2), (tgName 3)]) (eVar 1))
(TW.sSeq (TW.sIf (TW.tOr (TW.tNot (TW.tVal (eIs .tuple (eVar 3)))) (TW.tNot (TW.tVal (eChn (cmpD .le) (cmpD .le) (eC (.int 1)) (eFn lenD (aCons (eVar 3) aNil)) (eC (.int 6))))))
(TW.sRet (eTup (aCons (eC .none) (aCons (eC (.str "rows")) aNil))))
TW.sSkip)
(TW.sSeq (TW.sFor (iEnM (eVar 3)) (tgTup [(tgName 4), (tgName 5)])
(TW.sIf (TW.tNot (TW.tVal (eCall 3 f_is_row (aCons (eVar 0) (aCons (eFn lenD (aCons (eVar 3) aNil)) (aCons (eVar 5) aNil))))))
(TW.sRet (eTup (aCons (eVar 4) (aCons (eC (.str "row")) aNil))))
TW.sSkip))
(TW.sRet (TW.eIf (TW.tVal (eCall 2 f_are_ends (aCons (eFn lenD (aCons (eVar 3) aNil)) (aCons (eVar 2) aNil)))) (eC .none) (eTup (aCons (eC .none) (aCons (eC (.str "ends")) aNil)))))))))
def f_plan_error : Sem := runF 6 m_plan_error
def m_is_plan : M Fl :=
(TW.sRet (eCmp .isN (eCall 2 f_plan_error (aCons (eVar 0) (aCons (eVar 1) aNil))) (eC .none)))
def f_is_plan : Sem := runF 2 m_is_plan
def m_free_plan : M Fl :=
(TW.sRet (eTup (aCons (eTup (aCons (eC (.int 0)) aNil)) (aCons (eTup (aCons (eOp repD (eTup (aCons (eC (.int 0)) aNil)) (eFn lenD (aCons (eIx (eVar 0) (eC (.int 1))) aNil))) aNil)) aNil))))
def f_free_plan : Sem := runF 1 m_free_plan
def m_law_plan : M Fl :=
(TW.sSeq (TW.sTg (tgTup [(tgName 6), (tgName 7)]) (eTup (aCons (eFn lenD (aCons (eIx (eVar 1) (eC (.int 1))) aNil)) (aCons (eBin .add (eC (.int 1)) (eCall 2 drawF (aCons (eVar 0) (aCons (eVar 2) aNil)))) aNil))))
(TW.sSeq (TW.sIf (TW.tVal (eCmp .eq (eCall 2 drawF (aCons (eVar 0) (aCons (eC (.int 5)) aNil))) (eC (.int 0))))
(TW.sRet (eTup (aCons (eTup (aCons (eC (.int 0)) aNil)) (aCons (eTup (aCons (eOp repD (eTup (aCons (eC (.int 0)) aNil)) (eVar 6)) aNil)) aNil))))
TW.sSkip)
(TW.sSeq (TW.sAsg 3 (eNw (nLst (aCons (eC .none) (aCons (eCall 2 drawF (aCons (eVar 0) (aCons (eVar 7) aNil))) (aCons (eCall 2 drawF (aCons (eVar 0) (aCons (eVar 7) aNil))) aNil))))))
(TW.sSeq (TW.sAsg 4 (eNw (nCmp [8] (iRg1 (eVar 7)) (tgName 8) (pure true) (eFn tupleD (aCons (eNw (nCmp [9] (iRg1 (eVar 6)) (tgName 9) (pure true) (eCall 2 K02.f_law_one (aCons (eVar 0) (aCons (eBin .add (eVar 3) (eNw (nLst (aCons (eCall 2 drawF (aCons (eVar 0) (aCons (eVar 7) aNil))) aNil)))) aNil))))) aNil)))))
(TW.sSeq (TW.sAsg 5 (eFn sortedSetD (aCons (eNw (nCmp [9] (iRg1 (eBin .add (eC (.int 1)) (eCall 2 drawF (aCons (eVar 0) (aCons (eVar 7) aNil))))) (tgName 9) (pure true) (eCall 2 drawF (aCons (eVar 0) (aCons (eVar 7) aNil))))) aNil)))
(TW.sRet (eTup (aCons (eFn tupleD (aCons (eVar 5) aNil)) (aCons (eFn tupleD (aCons (eVar 4) aNil)) aNil)))))))))
def f_law_plan : Sem := runF 10 m_law_plan
def m_law_plan_error : M Fl :=
(TW.sSeq (TW.sIf (TW.tOr (TW.tNot (TW.tVal (eIs .tuple (eVar 1)))) (TW.tVal (eCmp .ne (eFn lenD (aCons (eVar 1) aNil)) (eC (.int 2)))))
(TW.sRet (eTup (aCons (eC .none) (aCons (eC (.str "plan")) aNil))))
TW.sSkip)
(TW.sSeq (TW.sTg (tgTup [(tgName 4), (tgName 5)]) (eVar 1))
(TW.sSeq (TW.sIf (TW.tOr (TW.tNot (TW.tVal (eIs .tuple (eVar 5)))) (TW.tNot (TW.tVal (eChn (cmpD .le) (cmpD .le) (eC (.int 1)) (eFn lenD (aCons (eVar 5) aNil)) (eC (.int 6))))))
(TW.sRet (eTup (aCons (eC .none) (aCons (eC (.str "rows")) aNil))))
TW.sSkip)
(TW.sSeq (TW.sFor (iRg1 (eFn lenD (aCons (eVar 5) aNil))) (tgName 2)
(TW.sSeq (TW.sAsg 6 (eIx (eVar 5) (eVar 2)))
(TW.sSeq (TW.sIf (TW.tOr (TW.tNot (TW.tVal (eIs .tuple (eVar 6)))) (TW.tVal (eCmp .ne (eFn lenD (aCons (eVar 6) aNil)) (eFn lenD (aCons (eIx (eVar 0) (eC (.int 1))) aNil)))))
(TW.sRet (eTup (aCons (eVar 2) (aCons (eC (.str "row")) aNil))))
TW.sSkip)
(TW.sIf (TW.tVal (eOp ne0D (eNw (nCmp [7] (iSeqM (eVar 6)) (tgName 7) (TW.tAnd (TW.tVal (eCmp .notN (eVar 7) (eC .none))) (TW.tNot (TW.tVal (eCall 3 K02.f_law_whole (aCons (eVar 7) (aCons (eC (.int 0)) (aCons (eBin .sub (eFn lenD (aCons (eVar 5) aNil)) (eC (.int 1))) aNil))))))) (eVar 7))) (eNw (nLst aNil))))
(TW.sRet (eTup (aCons (eVar 2) (aCons (eC (.str "row")) aNil))))
TW.sSkip))))
(TW.sSeq (TW.sIf (TW.tOr (TW.tNot (TW.tVal (eIs .tuple (eVar 4)))) (TW.tVal (eOp eq0D (eVar 4) (eTup aNil))))
(TW.sRet (eTup (aCons (eC .none) (aCons (eC (.str "ends")) aNil))))
TW.sSkip)
(TW.sSeq (TW.sAsg 3 (eNw (nCmp [7] (iSeqM (eVar 4)) (tgName 7) (TW.tNot (TW.tVal (eCall 3 K02.f_law_whole (aCons (eVar 7) (aCons (eC (.int 0)) (aCons (eBin .sub (eFn lenD (aCons (eVar 5) aNil)) (eC (.int 1))) aNil)))))) (eVar 7))))
(TW.sRet (TW.eIf (TW.tAnd (TW.tVal (eOp eq0D (eVar 3) (eNw (nLst aNil)))) (TW.tVal (eCmp .eq (eFn listD (aCons (eVar 4) aNil)) (eFn sortedSetD (aCons (eVar 4) aNil))))) (eC .none) (eTup (aCons (eC .none) (aCons (eC (.str "ends")) aNil)))))))))))
def f_law_plan_error : Sem := runF 8 m_law_plan_error
def m_law_1 : M Fl :=
(TW.sRet (eC (.bool true)))
def m_law_2 : M Fl :=
(TW.sIf (TW.tVal (eCmp .ne (eFn reprD (aCons (eCall 1 f_free_plan (aCons (eVar 3) aNil)) aNil)) (eFn reprD (aCons (eTup (aCons (eTup (aCons (eC (.int 0)) aNil)) (aCons (eTup (aCons (eOp repD (eTup (aCons (eC (.int 0)) aNil)) (eVar 10)) aNil)) aNil))) aNil))))
(TW.sRet (eC (.bool false)))
TW.sSkip)
def m_law_3 : M Fl :=
(TW.sIf (TW.tOr (TW.tVal (eCmp .ne (eFn reprD (aCons (eCall 2 f_is_plan (aCons (eVar 3) (aCons (eVar 8) aNil))) aNil)) (eFn reprD (aCons (eCmp .eq (eVar 16) (eC (.str "None"))) aNil)))) (TW.tVal (eCmp .ne (eFn reprD (aCons (eVar 8) aNil)) (eVar 15))))
(TW.sRet (eC (.bool false)))
TW.sSkip)
def m_law_4 : M Fl :=
(TW.sIf (TW.tVal (eCmp .ne (eNw (nCmp [18] (iRg1 (eC (.int 2))) (tgName 18) (pure true) (eFn reprD (aCons (eCall 2 f_plan_error (aCons (eVar 3) (aCons (eVar 8) aNil))) aNil)))) (eNw (nLst (aCons (eVar 16) (aCons (eVar 16) aNil))))))
(TW.sRet (eC (.bool false)))
TW.sSkip)
def m_law_5 : M Fl :=
(TW.sSeq m_law_4 m_law_3)
def m_law_6 : M Fl :=
(TW.sPar [tgName 15, tgName 16] (aCons (eFn reprD (aCons (eVar 8) aNil)) (aCons (eFn reprD (aCons (eCall 2 f_law_plan_error (aCons (eVar 3) (aCons (eVar 8) aNil))) aNil)) aNil)))
def m_law_7 : M Fl :=
(TW.sSeq m_law_6 m_law_5)
def m_law_8 : M Fl :=
(TW.sFor (iSeqM (eBin .add (eVar 4) (eNw (nLst (aCons (eTup (aCons (eTup (aCons (eC (.int 5)) aNil)) (aCons (eOp repD (eTup (aCons (eOp repD (eTup (aCons (eC (.int 0)) aNil)) (eVar 10)) aNil)) (eC (.int 6))) aNil))) (aCons (eTup (aCons (eTup (aCons (eC (.int 0)) (aCons (eC (.int 1)) (aCons (eC (.int 2)) (aCons (eC (.int 3)) (aCons (eC (.int 4)) (aCons (eC (.int 5)) aNil))))))) (aCons (eOp repD (eTup (aCons (eOp repD (eTup (aCons (eC .none) aNil)) (eVar 10)) aNil)) (eC (.int 6))) aNil))) aNil)))))) (tgName 8)
m_law_7)
def m_law_9 : M Fl :=
(TW.sSeq m_law_8 m_law_2)
def m_law_10 : M Fl :=
(TW.sAsgN 4 (nOp catD (eVar 4) (eNw (nCmp [17] (iSeqM (eVar 7)) (tgName 17) (pure true) (eTup (aCons (eVar 11) (aCons (eBin .add (eBin .add (eSlc (eVar 12) pNone (pSome (eVar 5))) (eTup (aCons (eVar 17) aNil))) (eSlc (eVar 12) (pSome (eBin .add (eVar 5) (eC (.int 1)))) pNone)) aNil)))))))
def m_law_11 : M Fl :=
(TW.sSeq m_law_10 m_law_9)
def m_law_12 : M Fl :=
(TW.sAsg 7 (eNw (nLst (aCons (eBin .add (eSlc (eIx (eVar 12) (eVar 5)) pNone (pSome (eUn neD (eC (.int 1))))) (eTup (aCons (eVar 6) aNil))) (aCons (eBin .add (eTup (aCons (eVar 6) aNil)) (eSlc (eIx (eVar 12) (eVar 5)) (pSome (eC (.int 1))) pNone)) (aCons (eBin .add (eIx (eVar 12) (eVar 5)) (eTup (aCons (eC (.int 0)) aNil))) (aCons (eSlc (eIx (eVar 12) (eVar 5)) (pSome (eC (.int 1))) pNone) (aCons (eFn listD (aCons (eIx (eVar 12) (eVar 5)) aNil)) (aCons (eC .none) aNil)))))))))
def m_law_13 : M Fl :=
(TW.sSeq m_law_12 m_law_11)
def m_law_14 : M Fl :=
(TW.sAsg 6 (eCall 2 K02.f_law_one (aCons (eVar 1) (aCons (eNw (nLst (aCons (eUn neD (eC (.int 1))) (aCons (eVar 14) (aCons (eC (.bool true)) (aCons (eC (.str "0")) (aCons (eBin .pow (eC (.int 10)) (eC (.int 39))) (aCons (eTup aNil) aNil)))))))) aNil))))
def m_law_15 : M Fl :=
(TW.sSeq m_law_14 m_law_13)
def m_law_16 : M Fl :=
(TW.sAsg 5 (eCall 2 drawF (aCons (eVar 1) (aCons (eVar 14) aNil))))
def m_law_17 : M Fl :=
(TW.sSeq m_law_16 m_law_15)
def m_law_18 : M Fl :=
(TW.sIf (TW.tAnd (TW.tVal (eIs .tuple (eVar 13))) (TW.tVal (eCmp .gt (eFn lenD (aCons (eVar 13) aNil)) (eC (.int 0)))))
(sApp 4 (eCall 2 K02.f_law_bent (aCons (eVar 1) (aCons (eVar 13) aNil))))
TW.sSkip)
def m_law_19 : M Fl :=
(TW.sSeq m_law_18 m_law_17)
def m_law_20 : M Fl :=
(TW.sAsgN 4 (nOp catD (eVar 4) (eNw (nLst (aCons (eTup (aCons (eTup (aCons (eC (.bool true)) aNil)) (aCons (eVar 12) aNil))) (aCons (eTup (aCons (eBin .add (eVar 11) (eSlc (eVar 11) (pSome (eUn neD (eC (.int 1)))) pNone)) (aCons (eVar 12) aNil))) (aCons (eTup (aCons (eC .none) (aCons (eVar 12) aNil))) (aCons (eTup (aCons (eVar 11) (aCons (eVar 12) (aCons (eVar 12) aNil)))) (aCons (eNw (nLst (aCons (eVar 11) (aCons (eVar 12) aNil)))) aNil)))))))))
def m_law_21 : M Fl :=
(TW.sSeq m_law_20 m_law_19)
def m_law_22 : M Fl :=
(TW.sAsgN 4 (nOp catD (eVar 4) (eNw (nLst (aCons (eTup (aCons (eBin .add (eUn backD (eVar 11)) (eTup (aCons (eC (.int 0)) aNil))) (aCons (eVar 12) aNil))) (aCons (eTup (aCons (eTup aNil) (aCons (eVar 12) aNil))) (aCons (eTup (aCons (eFn listD (aCons (eVar 11) aNil)) (aCons (eVar 12) aNil))) (aCons (eTup (aCons (eTup (aCons (eVar 14) aNil)) (aCons (eVar 12) aNil))) (aCons (eTup (aCons (eTup (aCons (eUn neD (eC (.int 1))) aNil)) (aCons (eVar 12) aNil))) aNil)))))))))
def m_law_23 : M Fl :=
(TW.sSeq m_law_22 m_law_21)
def m_law_24 : M Fl :=
(TW.sAsgN 4 (nOp catD (eVar 4) (eNw (nLst (aCons (eTup (aCons (eVar 11) (aCons (eFn listD (aCons (eVar 12) aNil)) aNil))) (aCons (eTup (aCons (eTup aNil) (aCons (eTup aNil) aNil))) (aCons (eTup (aCons (eC .none) (aCons (eBin .add (eSlc (eVar 12) pNone (pSome (eUn neD (eC (.int 1))))) (eTup (aCons (eC .none) aNil))) aNil))) aNil)))))))
def m_law_25 : M Fl :=
(TW.sSeq m_law_24 m_law_23)
def m_law_26 : M Fl :=
(TW.sAsgN 4 (nLst (aCons (eVar 9) (aCons (eVar 13) (aCons (eCall 2 K02.f_law_bent (aCons (eVar 1) (aCons (eVar 9) aNil))) (aCons (eCall 1 K02.f_law_odd (aCons (eVar 1) aNil)) (aCons (eTup (aCons (eVar 11) (aCons (eOp repD (eVar 12) (eC (.int 7))) aNil))) (aCons (eTup (aCons (eVar 11) (aCons (eTup aNil) aNil))) (aCons (eTup (aCons (eVar 11) aNil)) aNil)))))))))
def m_law_27 : M Fl :=
(TW.sSeq m_law_26 m_law_25)
def m_law_28 : M Fl :=
(TW.sPar [tgName 13, tgName 14] (aCons (eCall 2 K02.f_law_bent (aCons (eVar 1) (aCons (eVar 9) aNil))) (aCons (eFn lenD (aCons (eVar 12) aNil)) aNil)))
def m_law_29 : M Fl :=
(TW.sSeq m_law_28 m_law_27)
def m_law_30 : M Fl :=
(TW.sTg (tgTup [(tgName 11), (tgName 12)]) (eVar 9))
def m_law_31 : M Fl :=
(TW.sSeq m_law_30 m_law_29)
def m_law_32 : M Fl :=
(TW.sPar [tgName 9, tgName 10] (aCons (eCall 3 f_law_plan (aCons (eVar 1) (aCons (eVar 3) (aCons (eC (.int 6)) aNil)))) (aCons (eFn lenD (aCons (eIx (eVar 3) (eC (.int 1))) aNil)) aNil)))
def m_law_33 : M Fl :=
(TW.sSeq m_law_32 m_law_31)
def m_law_34 : M Fl :=
(TW.sAsg 3 (eCall 3 K02.f_law_handler (aCons (eVar 1) (aCons (eC (.int 5)) (aCons (eC (.int 6)) aNil)))))
def m_law_35 : M Fl :=
(TW.sSeq m_law_34 m_law_33)
def m_law_36 : M Fl :=
(TW.sFor (iRg1 (eC (.int 12))) (tgName 2)
m_law_35)
def m_law : M Fl :=
(TW.sSeq m_law_36 m_law_1)
end K08
set_option linter.all false
set_option Elab.async false
set_option maxRecDepth 100000
set_option maxHeartbeats 0
namespace K09
open PySem PySem.Spec PyProof.Rows L2 TW
end K09
set_option linter.all false
set_option Elab.async false
set_option maxRecDepth 100000
set_option maxHeartbeats 0
namespace K17
open PySem PySem.Spec PyProof.Rows L2 TW
end K17
set_option linter.all false
set_option Elab.async false
set_option maxRecDepth 100000
set_option maxHeartbeats 0
namespace K04
open PySem PySem.Spec PyProof.Rows L2 TW
end K04
set_option linter.all false
set_option Elab.async false
namespace K02
open PySem TW
theorem r_is_integer (v : PyData) (lo hi : Int) (b : Option Bx) : Runs f_is_integer [.dat v, .dat (.int lo), .dat (.int hi)] b fun d b' => d = .bool (isIn lo hi v) ∧ b' = b := by
  refine runs_of ?_
  unfold m_is_integer
  simp only [List.map_cons, List.map_nil, argSV, List.length_cons, List.length_nil, Nat.reduceAdd, Nat.reduceSub, List.replicate, List.cons_append, List.nil_append]
  cases v <;> simp only [eCmp, eBin, eOp, eUn, eFn, eIx, eSlc, eChn, tVal, tNot, tAnd, tOr, eIf, eAnd, eOr, eNot, eIs, aNil, aCons, aStar, itemsO, eTup, nLst, eNw, pNone, pSome, sSkip, sSeq, sAsg, sAsgN, sRet, sRetN, sIf, tgName, tgAll, tgTup, sTg, sPar, sFor, iSeqM, iRg1, iRg2, iEnM, ownL, sApp, tgSet, ePop, ePopA, eCall, peeks, takes, hands, boolD, pw_bind, qQ, wipeR, reduceIte, nOp, nList, isD, lenD, wW, isIn]
  rename_i i
  by_cases h : lo ≤ i
  · simp only [eCmp, eBin, eOp, eUn, eFn, eIx, eSlc, eChn, tVal, tNot, tAnd, tOr, eIf, eAnd, eOr, eNot, eIs, aNil, aCons, aStar, itemsO, eTup, nLst, eNw, pNone, pSome, sSkip, sSeq, sAsg, sAsgN, sRet, sRetN, sIf, tgName, tgAll, tgTup, sTg, sPar, sFor, iSeqM, iRg1, iRg2, iEnM, ownL, sApp, tgSet, ePop, ePopA, eCall, peeks, takes, hands, boolD, pw_bind, qQ, wipeR, reduceIte, decide_eq_true h, Bool.true_and, and_self]
  · simp only [eCmp, eBin, eOp, eUn, eFn, eIx, eSlc, eChn, tVal, tNot, tAnd, tOr, eIf, eAnd, eOr, eNot, eIs, aNil, aCons, aStar, itemsO, eTup, nLst, eNw, pNone, pSome, sSkip, sSeq, sAsg, sAsgN, sRet, sRetN, sIf, tgName, tgAll, tgTup, sTg, sPar, sFor, iSeqM, iRg1, iRg2, iEnM, ownL, sApp, tgSet, ePop, ePopA, eCall, peeks, takes, hands, boolD, pw_bind, qQ, wipeR, reduceIte, decide_eq_false h, Bool.false_and, and_self]
def areIn (lo hi : Int) (n : Int) : PyData → Bool
  | .tuple ds => decide ((ds.length : Int) = n) && ds.all (isIn lo hi)
  | _ => false
theorem r_are_integers (v : PyData) (n lo hi : Int) (b : Option Bx) (hl : ∀ ds, v = .tuple ds → ds.length ≤ lim) : Runs f_are_integers [.dat v, .dat (.int n), .dat (.int lo), .dat (.int hi)] b fun d b' => d = .bool (areIn lo hi n v) ∧ b' = b := by
  refine runs_of ?_
  unfold m_are_integers
  simp only [List.map_cons, List.map_nil, argSV, List.length_cons, List.length_nil, Nat.reduceAdd, Nat.reduceSub, List.replicate, List.cons_append, List.nil_append]
  cases v <;> simp only [eCmp, eBin, eOp, eUn, eFn, eIx, eSlc, eChn, tVal, tNot, tAnd, tOr, eIf, eAnd, eOr, eNot, eIs, aNil, aCons, aStar, itemsO, eTup, nLst, eNw, pNone, pSome, sSkip, sSeq, sAsg, sAsgN, sRet, sRetN, sIf, tgName, tgAll, tgTup, sTg, sPar, sFor, iSeqM, iRg1, iRg2, iEnM, ownL, sApp, tgSet, ePop, ePopA, eCall, peeks, takes, hands, boolD, pw_bind, qQ, wipeR, reduceIte, nOp, nList, isD, lenD, wW, areIn]
  rename_i ds
  have hl := hl ds rfl
  by_cases h : (ds.length : Int) = n
  · simp only [eCmp, eBin, eOp, eUn, eFn, eIx, eSlc, eChn, tVal, tNot, tAnd, tOr, eIf, eAnd, eOr, eNot, eIs, aNil, aCons, aStar, itemsO, eTup, nLst, eNw, pNone, pSome, sSkip, sSeq, sAsg, sAsgN, sRet, sRetN, sIf, tgName, tgAll, tgTup, sTg, sPar, sFor, iSeqM, iRg1, iRg2, iEnM, ownL, sApp, tgSet, ePop, ePopA, eCall, peeks, takes, hands, boolD, pw_bind, qQ, wipeR, reduceIte, nOp, nList, isD, lenD, wW, decide_eq_true h]
    refine q_map [.dat (.tuple ds), .dat (.int n), .dat (.int lo), .dat (.int hi), .no] b (fun d => .bool (isIn lo hi d)) ⟨rfl, hl, fun d hd => ?_, fun r1 hr => ?_⟩
    · simp only [eCmp, eBin, eOp, eUn, eFn, eIx, eSlc, eChn, tVal, tNot, tAnd, tOr, eIf, eAnd, eOr, eNot, eIs, aNil, aCons, aStar, itemsO, eTup, nLst, eNw, pNone, pSome, sSkip, sSeq, sAsg, sAsgN, sRet, sRetN, sIf, tgName, tgAll, tgTup, sTg, sPar, sFor, iSeqM, iRg1, iRg2, iEnM, ownL, sApp, tgSet, ePop, ePopA, eCall, peeks, takes, hands, boolD, pw_bind, qQ, wipeR, reduceIte]
      refine q_callR (r_is_integer d lo hi b) rfl ?_
      rintro _ _ ⟨rfl, rfl⟩
      simp only [eCmp, eBin, eOp, eUn, eFn, eIx, eSlc, eChn, tVal, tNot, tAnd, tOr, eIf, eAnd, eOr, eNot, eIs, aNil, aCons, aStar, itemsO, eTup, nLst, eNw, pNone, pSome, sSkip, sSeq, sAsg, sAsgN, sRet, sRetN, sIf, tgName, tgAll, tgTup, sTg, sPar, sFor, iSeqM, iRg1, iRg2, iEnM, ownL, sApp, tgSet, ePop, ePopA, eCall, peeks, takes, hands, boolD, pw_bind, qQ, wipeR, reduceIte, nOp, nList, isD, lenD, wW]
    · rw [show ds.map (fun d => PyData.bool (isIn lo hi d)) = (ds.map (isIn lo hi)).map PyData.bool by rw [List.map_map]; rfl]
      simp only [eCmp, eBin, eOp, eUn, eFn, eIx, eSlc, eChn, tVal, tNot, tAnd, tOr, eIf, eAnd, eOr, eNot, eIs, aNil, aCons, aStar, itemsO, eTup, nLst, eNw, pNone, pSome, sSkip, sSeq, sAsg, sAsgN, sRet, sRetN, sIf, tgName, tgAll, tgTup, sTg, sPar, sFor, iSeqM, iRg1, iRg2, iEnM, ownL, sApp, tgSet, ePop, ePopA, eCall, peeks, takes, hands, boolD, pw_bind, qQ, wipeR, reduceIte, nOp, nList, isD, lenD, wW, allD_bools, List.all_map]
      rfl
  · simp only [eCmp, eBin, eOp, eUn, eFn, eIx, eSlc, eChn, tVal, tNot, tAnd, tOr, eIf, eAnd, eOr, eNot, eIs, aNil, aCons, aStar, itemsO, eTup, nLst, eNw, pNone, pSome, sSkip, sSeq, sAsg, sAsgN, sRet, sRetN, sIf, tgName, tgAll, tgTup, sTg, sPar, sFor, iSeqM, iRg1, iRg2, iEnM, ownL, sApp, tgSet, ePop, ePopA, eCall, peeks, takes, hands, boolD, pw_bind, qQ, wipeR, reduceIte, nOp, nList, isD, lenD, wW, decide_eq_false h]
def kindW (n : Int) : PyData → PyData
  | .tuple [s, t] => if isIn 0 3 s then (if areIn 0 (n - 1) n t then .none else .str "targets") else .str "sender"
  | _ => .str "kind"
theorem kindW_len {n : Int} {ds : List PyData} (h : ¬ ((ds.length : Int) = 2)) : kindW n (.tuple ds) = .str "kind" := by
  unfold kindW
  split
  · rename_i e
    cases e
    exact absurd rfl h
  · rfl
def small2 : PyData → Prop
  | .tuple ds => ds.length ≤ lim
  | _ => True
theorem r_kind_word (v : PyData) (n : Int) (b : Option Bx) (hl : ∀ s t, v = .tuple [s, t] → small2 t) : Runs f_kind_word [.dat (.int n), .dat v] b fun d b' => d = kindW n v ∧ b' = b := by
  refine runs_of ?_
  unfold m_kind_word
  simp only [List.map_cons, List.map_nil, argSV, List.length_cons, List.length_nil, Nat.reduceAdd, Nat.reduceSub, List.replicate, List.cons_append, List.nil_append]
  by_cases hv : ∃ ds, v = .tuple ds
  · obtain ⟨ds, rfl⟩ := hv
    by_cases h : (ds.length : Int) = 2
    · match ds, h with
      | [s, t], _ =>
        have hl := hl s t rfl
        simp only [eCmp, eBin, eOp, eUn, eFn, eIx, eSlc, eChn, tVal, tNot, tAnd, tOr, eIf, eAnd, eOr, eNot, eIs, aNil, aCons, aStar, itemsO, eTup, nLst, eNw, pNone, pSome, sSkip, sSeq, sAsg, sAsgN, sRet, sRetN, sIf, tgName, tgAll, tgTup, sTg, sPar, sFor, iSeqM, iRg1, iRg2, iEnM, ownL, sApp, tgSet, ePop, ePopA, eCall, peeks, takes, hands, boolD, pw_bind, qQ, wipeR, reduceIte, nOp, nList, isD, lenD, wW, decide_eq_true (show (((0 : Nat) + 1 + 1 : Nat) : Int) = 2 from rfl)]
        refine q_callR (r_is_integer s 0 3 b) rfl ?_
        rintro _ _ ⟨rfl, rfl⟩
        cases hs : isIn 0 3 s with
        | false => simp only [eCmp, eBin, eOp, eUn, eFn, eIx, eSlc, eChn, tVal, tNot, tAnd, tOr, eIf, eAnd, eOr, eNot, eIs, aNil, aCons, aStar, itemsO, eTup, nLst, eNw, pNone, pSome, sSkip, sSeq, sAsg, sAsgN, sRet, sRetN, sIf, tgName, tgAll, tgTup, sTg, sPar, sFor, iSeqM, iRg1, iRg2, iEnM, ownL, sApp, tgSet, ePop, ePopA, eCall, peeks, takes, hands, boolD, pw_bind, qQ, wipeR, reduceIte, nOp, nList, isD, lenD, wW, kindW, hs]
        | true =>
          simp only [eCmp, eBin, eOp, eUn, eFn, eIx, eSlc, eChn, tVal, tNot, tAnd, tOr, eIf, eAnd, eOr, eNot, eIs, aNil, aCons, aStar, itemsO, eTup, nLst, eNw, pNone, pSome, sSkip, sSeq, sAsg, sAsgN, sRet, sRetN, sIf, tgName, tgAll, tgTup, sTg, sPar, sFor, iSeqM, iRg1, iRg2, iEnM, ownL, sApp, tgSet, ePop, ePopA, eCall, peeks, takes, hands, boolD, pw_bind, qQ, wipeR, reduceIte, nOp, nList, isD, lenD, wW, kindW, hs]
          refine q_callR (r_are_integers t n 0 (n - 1) _ fun ds e => by subst e; exact hl) rfl ?_
          rintro _ _ ⟨rfl, rfl⟩
          cases ht : areIn 0 (n - 1) n t <;> simp only [eCmp, eBin, eOp, eUn, eFn, eIx, eSlc, eChn, tVal, tNot, tAnd, tOr, eIf, eAnd, eOr, eNot, eIs, aNil, aCons, aStar, itemsO, eTup, nLst, eNw, pNone, pSome, sSkip, sSeq, sAsg, sAsgN, sRet, sRetN, sIf, tgName, tgAll, tgTup, sTg, sPar, sFor, iSeqM, iRg1, iRg2, iEnM, ownL, sApp, tgSet, ePop, ePopA, eCall, peeks, takes, hands, boolD, pw_bind, qQ, wipeR, reduceIte, nOp, nList, isD, lenD, wW]
    · simp only [eCmp, eBin, eOp, eUn, eFn, eIx, eSlc, eChn, tVal, tNot, tAnd, tOr, eIf, eAnd, eOr, eNot, eIs, aNil, aCons, aStar, itemsO, eTup, nLst, eNw, pNone, pSome, sSkip, sSeq, sAsg, sAsgN, sRet, sRetN, sIf, tgName, tgAll, tgTup, sTg, sPar, sFor, iSeqM, iRg1, iRg2, iEnM, ownL, sApp, tgSet, ePop, ePopA, eCall, peeks, takes, hands, boolD, pw_bind, qQ, wipeR, reduceIte, nOp, nList, isD, lenD, wW, decide_eq_false h, kindW_len h]
  · cases v <;> first | exact absurd ⟨_, rfl⟩ hv | simp only [eCmp, eBin, eOp, eUn, eFn, eIx, eSlc, eChn, tVal, tNot, tAnd, tOr, eIf, eAnd, eOr, eNot, eIs, aNil, aCons, aStar, itemsO, eTup, nLst, eNw, pNone, pSome, sSkip, sSeq, sAsg, sAsgN, sRet, sRetN, sIf, tgName, tgAll, tgTup, sTg, sPar, sFor, iSeqM, iRg1, iRg2, iEnM, ownL, sApp, tgSet, ePop, ePopA, eCall, peeks, takes, hands, boolD, pw_bind, qQ, wipeR, reduceIte, nOp, nList, isD, lenD, wW, kindW]
def labelsOk : PyData → Bool
  | .tuple ds => decide (2 ≤ (ds.length : Int)) && decide ((ds.length : Int) ≤ 8) && areIn 0 ((ds.length : Int) - 1) ds.length (.tuple ds)
  | _ => false
theorem r_are_labels (v : PyData) (b : Option Bx) : Runs f_are_labels [.dat v] b fun d b' => d = .bool (labelsOk v) ∧ b' = b := by
  refine runs_of ?_
  unfold m_are_labels
  simp only [List.map_cons, List.map_nil, argSV, List.length_cons, List.length_nil, Nat.reduceAdd, Nat.reduceSub, List.replicate, List.cons_append, List.nil_append]
  by_cases hv : ∃ ds, v = .tuple ds
  · obtain ⟨ds, rfl⟩ := hv
    by_cases h1 : 2 ≤ (ds.length : Int)
    · by_cases h2 : (ds.length : Int) ≤ 8
      · simp only [eCmp, eBin, eOp, eUn, eFn, eIx, eSlc, eChn, tVal, tNot, tAnd, tOr, eIf, eAnd, eOr, eNot, eIs, aNil, aCons, aStar, itemsO, eTup, nLst, eNw, pNone, pSome, sSkip, sSeq, sAsg, sAsgN, sRet, sRetN, sIf, tgName, tgAll, tgTup, sTg, sPar, sFor, iSeqM, iRg1, iRg2, iEnM, ownL, sApp, tgSet, ePop, ePopA, eCall, peeks, takes, hands, boolD, pw_bind, qQ, wipeR, reduceIte, nOp, nList, isD, lenD, wW, decide_eq_true h1, decide_eq_true h2]
        refine q_callR (r_are_integers (.tuple ds) ds.length 0 ((ds.length : Int) - 1) _ fun ds' e => by cases e; exact Nat.le_trans (show ds.length ≤ 8 by omega) (by decide)) rfl ?_
        rintro _ _ ⟨rfl, rfl⟩
        simp only [eCmp, eBin, eOp, eUn, eFn, eIx, eSlc, eChn, tVal, tNot, tAnd, tOr, eIf, eAnd, eOr, eNot, eIs, aNil, aCons, aStar, itemsO, eTup, nLst, eNw, pNone, pSome, sSkip, sSeq, sAsg, sAsgN, sRet, sRetN, sIf, tgName, tgAll, tgTup, sTg, sPar, sFor, iSeqM, iRg1, iRg2, iEnM, ownL, sApp, tgSet, ePop, ePopA, eCall, peeks, takes, hands, boolD, pw_bind, qQ, wipeR, reduceIte, nOp, nList, isD, lenD, wW, labelsOk, decide_eq_true h1, decide_eq_true h2]
      · simp only [eCmp, eBin, eOp, eUn, eFn, eIx, eSlc, eChn, tVal, tNot, tAnd, tOr, eIf, eAnd, eOr, eNot, eIs, aNil, aCons, aStar, itemsO, eTup, nLst, eNw, pNone, pSome, sSkip, sSeq, sAsg, sAsgN, sRet, sRetN, sIf, tgName, tgAll, tgTup, sTg, sPar, sFor, iSeqM, iRg1, iRg2, iEnM, ownL, sApp, tgSet, ePop, ePopA, eCall, peeks, takes, hands, boolD, pw_bind, qQ, wipeR, reduceIte, nOp, nList, isD, lenD, wW, decide_eq_true h1, decide_eq_false h2, labelsOk, Bool.and_false]
    · simp only [eCmp, eBin, eOp, eUn, eFn, eIx, eSlc, eChn, tVal, tNot, tAnd, tOr, eIf, eAnd, eOr, eNot, eIs, aNil, aCons, aStar, itemsO, eTup, nLst, eNw, pNone, pSome, sSkip, sSeq, sAsg, sAsgN, sRet, sRetN, sIf, tgName, tgAll, tgTup, sTg, sPar, sFor, iSeqM, iRg1, iRg2, iEnM, ownL, sApp, tgSet, ePop, ePopA, eCall, peeks, takes, hands, boolD, pw_bind, qQ, wipeR, reduceIte, nOp, nList, isD, lenD, wW, decide_eq_false h1, labelsOk]
  · cases v <;> first | exact absurd ⟨_, rfl⟩ hv | simp only [eCmp, eBin, eOp, eUn, eFn, eIx, eSlc, eChn, tVal, tNot, tAnd, tOr, eIf, eAnd, eOr, eNot, eIs, aNil, aCons, aStar, itemsO, eTup, nLst, eNw, pNone, pSome, sSkip, sSeq, sAsg, sAsgN, sRet, sRetN, sIf, tgName, tgAll, tgTup, sTg, sPar, sFor, iSeqM, iRg1, iRg2, iEnM, ownL, sApp, tgSet, ePop, ePopA, eCall, peeks, takes, hands, boolD, pw_bind, qQ, wipeR, reduceIte, nOp, nList, isD, lenD, wW, labelsOk]
end K02
set_option linter.all false
set_option Elab.async false
namespace K02
open PySem TW
def kindsErr (n : Int) : Nat → List PyData → PyData
  | _, [] => .none
  | i, k :: r => match kindW n k with
    | .none => kindsErr n (i + 1) r
    | w => .tuple [.int (i : Nat), w]
def herr : PyData → PyData
  | .tuple [labels, kinds] =>
    if labelsOk labels = true then
      match kinds with
      | .tuple ks => if 1 ≤ (ks.length : Int) ∧ (ks.length : Int) ≤ 6 then (match labels with
        | .tuple ls => kindsErr ls.length 0 ks
        | _ => .none) else .tuple [.none, .str "kinds"]
      | _ => .tuple [.none, .str "kinds"]
    else .tuple [.none, .str "labels"]
  | _ => .tuple [.none, .str "handler"]
theorem herr_len {ds : List PyData} (h : ¬ ((ds.length : Int) = 2)) : herr (.tuple ds) = .tuple [.none, .str "handler"] := by
  unfold herr
  split
  · rename_i e
    cases e
    exact absurd rfl h
  · rfl
theorem kindW_cases (n : Int) (v : PyData) : kindW n v = .none ∨ kindW n v = .str "kind" ∨ kindW n v = .str "sender" ∨ kindW n v = .str "targets" := by
  unfold kindW
  split
  · split
    · split <;> simp
    · simp
  · simp
def low (v : PyData) : Prop := ∀ l ks k s t, v = .tuple [l, .tuple ks] → k ∈ ks → k = .tuple [s, t] → small2 t
theorem labels_tup {l : PyData} (h : labelsOk l = true) : ∃ ls, l = .tuple ls := by
  cases l <;> first | exact ⟨_, rfl⟩ | simp [labelsOk] at h
theorem le2 : 0 + 1 + 1 ≤ lim := by decide
theorem kinds_loop (n : Int) (v ls ks : PyData) (b : Option Bx) (lsl : List PyData) (hls : ls = .tuple lsl) (hn : (lsl.length : Int) = n) (kk : List PyData) (hv : ∀ k ∈ kk, ∀ s t, k = .tuple [s, t] → small2 t) : ∀ (i : Nat) (x3 x4 x5 : SV) (Q : Fl → Sx → Prop),
    (∀ w s, kindsErr n i kk = w → s.b = b → w ≠ .none → Q (.rt w) s) → (∀ y3 y4 y5, kindsErr n i kk = .none → Q .nx ⟨[.dat v, .dat ls, .dat ks, y3, y4, y5], b⟩) →
    pw (forL (tgTup [tgName 3, tgName 4]) (TW.sSeq (TW.sAsg 5 (eCall 2 f_kind_word (aCons (eFn lenD (aCons (eVar 1) aNil)) (aCons (eVar 4) aNil))))
      (TW.sIf (TW.tVal (eCmp .notN (eVar 5) (eC .none))) (TW.sRet (eTup (aCons (eVar 3) (aCons (eVar 5) aNil)))) TW.sSkip)) (pairsD i kk)) ⟨[.dat v, .dat ls, .dat ks, x3, x4, x5], b⟩ Q fun _ => False := by
  subst hls
  induction kk with
  | nil =>
    intro i x3 x4 x5 Q h1 h2
    exact h2 _ _ _ rfl
  | cons k r ih =>
    intro i x3 x4 x5 Q h1 h2
    unfold pairsD forL
    simp only [eCmp, eBin, eOp, eUn, eFn, eIx, eSlc, eChn, tVal, tNot, tAnd, tOr, eIf, eAnd, eOr, eNot, eIs, aNil, aCons, aStar, itemsO, eTup, nLst, eNw, pNone, pSome, sSkip, sSeq, sAsg, sAsgN, sRet, sRetN, sIf, tgName, tgAll, tgTup, sTg, sPar, sFor, iSeqM, iRg1, iRg2, iEnM, ownL, sApp, tgSet, ePop, ePopA, eCall, peeks, takes, hands, boolD, pw_bind, qQ, wipeR, reduceIte, nOp, nList, isD, lenD, wW, hn]
    refine q_callR (r_kind_word k n b fun s t e => hv k (by simp) s t e) rfl ?_
    rintro _ _ ⟨rfl, rfl⟩
    rcases kindW_cases n k with e | e | e | e
    · simp only [eCmp, eBin, eOp, eUn, eFn, eIx, eSlc, eChn, tVal, tNot, tAnd, tOr, eIf, eAnd, eOr, eNot, eIs, aNil, aCons, aStar, itemsO, eTup, nLst, eNw, pNone, pSome, sSkip, sSeq, sAsg, sAsgN, sRet, sRetN, sIf, tgName, tgAll, tgTup, sTg, sPar, sFor, iSeqM, iRg1, iRg2, iEnM, ownL, sApp, tgSet, ePop, ePopA, eCall, peeks, takes, hands, boolD, pw_bind, qQ, wipeR, reduceIte, nOp, nList, isD, lenD, wW, e, isNoneD]
      refine ih (fun k hk => hv k (List.mem_cons_of_mem _ hk)) (i + 1) _ _ _ Q (fun w s e1 e2 e3 => h1 w s ?_ e2 e3) fun y3 y4 y5 e1 => h2 _ _ _ ?_
      · unfold kindsErr; rw [e]; exact e1
      · unfold kindsErr; rw [e]; exact e1
    all_goals
      simp only [eCmp, eBin, eOp, eUn, eFn, eIx, eSlc, eChn, tVal, tNot, tAnd, tOr, eIf, eAnd, eOr, eNot, eIs, aNil, aCons, aStar, itemsO, eTup, nLst, eNw, pNone, pSome, sSkip, sSeq, sAsg, sAsgN, sRet, sRetN, sIf, tgName, tgAll, tgTup, sTg, sPar, sFor, iSeqM, iRg1, iRg2, iEnM, ownL, sApp, tgSet, ePop, ePopA, eCall, peeks, takes, hands, boolD, pw_bind, qQ, wipeR, reduceIte, nOp, nList, isD, lenD, wW, e, isNoneD, le2]
      refine h1 _ _ ?_ rfl (by simp)
      unfold kindsErr
      rw [e]
theorem r_handler_error (v : PyData) (b : Option Bx) (hv : low v) : Runs f_handler_error [.dat v] b fun d b' => d = herr v ∧ b' = b := by
  refine runs_of ?_
  unfold m_handler_error
  simp only [List.map_cons, List.map_nil, argSV, List.length_cons, List.length_nil, Nat.reduceAdd, Nat.reduceSub, List.replicate, List.cons_append, List.nil_append]
  by_cases hv2 : ∃ ds, v = .tuple ds
  · obtain ⟨ds, rfl⟩ := hv2
    by_cases h : (ds.length : Int) = 2
    · match ds, h with
      | [l, ks], _ =>
        simp only [eCmp, eBin, eOp, eUn, eFn, eIx, eSlc, eChn, tVal, tNot, tAnd, tOr, eIf, eAnd, eOr, eNot, eIs, aNil, aCons, aStar, itemsO, eTup, nLst, eNw, pNone, pSome, sSkip, sSeq, sAsg, sAsgN, sRet, sRetN, sIf, tgName, tgAll, tgTup, sTg, sPar, sFor, iSeqM, iRg1, iRg2, iEnM, ownL, sApp, tgSet, ePop, ePopA, eCall, peeks, takes, hands, boolD, pw_bind, qQ, wipeR, reduceIte, nOp, nList, isD, lenD, wW, decide_eq_true (show (((0 : Nat) + 1 + 1 : Nat) : Int) = 2 from rfl)]
        refine q_callR (r_are_labels l _) rfl ?_
        rintro _ _ ⟨rfl, rfl⟩
        cases hl : labelsOk l with
        | false => simp only [eCmp, eBin, eOp, eUn, eFn, eIx, eSlc, eChn, tVal, tNot, tAnd, tOr, eIf, eAnd, eOr, eNot, eIs, aNil, aCons, aStar, itemsO, eTup, nLst, eNw, pNone, pSome, sSkip, sSeq, sAsg, sAsgN, sRet, sRetN, sIf, tgName, tgAll, tgTup, sTg, sPar, sFor, iSeqM, iRg1, iRg2, iEnM, ownL, sApp, tgSet, ePop, ePopA, eCall, peeks, takes, hands, boolD, pw_bind, qQ, wipeR, reduceIte, nOp, nList, isD, lenD, wW, herr, hl, le2]
        | true =>
          obtain ⟨ls, rfl⟩ := labels_tup hl
          by_cases hk : ∃ kk, ks = .tuple kk
          · obtain ⟨kk, rfl⟩ := hk
            by_cases h1 : 1 ≤ (kk.length : Int)
            · by_cases h2 : (kk.length : Int) ≤ 6
              · simp only [eCmp, eBin, eOp, eUn, eFn, eIx, eSlc, eChn, tVal, tNot, tAnd, tOr, eIf, eAnd, eOr, eNot, eIs, aNil, aCons, aStar, itemsO, eTup, nLst, eNw, pNone, pSome, sSkip, sSeq, sAsg, sAsgN, sRet, sRetN, sIf, tgName, tgAll, tgTup, sTg, sPar, sFor, iSeqM, iRg1, iRg2, iEnM, ownL, sApp, tgSet, ePop, ePopA, eCall, peeks, takes, hands, boolD, pw_bind, qQ, wipeR, reduceIte, nOp, nList, isD, lenD, wW, h1, h2]
                refine kinds_loop ls.length _ _ _ _ ls rfl rfl kk (fun k hk s t e => hv _ _ _ s t rfl hk e) 0 _ _ _ _ (fun w s e1 e2 _ => ?_) fun y3 y4 y5 e => ?_
                · simp only [eCmp, eBin, eOp, eUn, eFn, eIx, eSlc, eChn, tVal, tNot, tAnd, tOr, eIf, eAnd, eOr, eNot, eIs, aNil, aCons, aStar, itemsO, eTup, nLst, eNw, pNone, pSome, sSkip, sSeq, sAsg, sAsgN, sRet, sRetN, sIf, tgName, tgAll, tgTup, sTg, sPar, sFor, iSeqM, iRg1, iRg2, iEnM, ownL, sApp, tgSet, ePop, ePopA, eCall, peeks, takes, hands, boolD, pw_bind, qQ, wipeR, reduceIte, nOp, nList, isD, lenD, wW, herr, hl, h1, h2, e1, e2]
                · simp only [eCmp, eBin, eOp, eUn, eFn, eIx, eSlc, eChn, tVal, tNot, tAnd, tOr, eIf, eAnd, eOr, eNot, eIs, aNil, aCons, aStar, itemsO, eTup, nLst, eNw, pNone, pSome, sSkip, sSeq, sAsg, sAsgN, sRet, sRetN, sIf, tgName, tgAll, tgTup, sTg, sPar, sFor, iSeqM, iRg1, iRg2, iEnM, ownL, sApp, tgSet, ePop, ePopA, eCall, peeks, takes, hands, boolD, pw_bind, qQ, wipeR, reduceIte, nOp, nList, isD, lenD, wW, herr, hl, h1, h2, e]
              · simp only [eCmp, eBin, eOp, eUn, eFn, eIx, eSlc, eChn, tVal, tNot, tAnd, tOr, eIf, eAnd, eOr, eNot, eIs, aNil, aCons, aStar, itemsO, eTup, nLst, eNw, pNone, pSome, sSkip, sSeq, sAsg, sAsgN, sRet, sRetN, sIf, tgName, tgAll, tgTup, sTg, sPar, sFor, iSeqM, iRg1, iRg2, iEnM, ownL, sApp, tgSet, ePop, ePopA, eCall, peeks, takes, hands, boolD, pw_bind, qQ, wipeR, reduceIte, nOp, nList, isD, lenD, wW, h1, h2, herr, hl, le2]
            · simp only [eCmp, eBin, eOp, eUn, eFn, eIx, eSlc, eChn, tVal, tNot, tAnd, tOr, eIf, eAnd, eOr, eNot, eIs, aNil, aCons, aStar, itemsO, eTup, nLst, eNw, pNone, pSome, sSkip, sSeq, sAsg, sAsgN, sRet, sRetN, sIf, tgName, tgAll, tgTup, sTg, sPar, sFor, iSeqM, iRg1, iRg2, iEnM, ownL, sApp, tgSet, ePop, ePopA, eCall, peeks, takes, hands, boolD, pw_bind, qQ, wipeR, reduceIte, nOp, nList, isD, lenD, wW, h1, herr, hl, le2]
          · cases ks <;> first | exact absurd ⟨_, rfl⟩ hk | simp only [eCmp, eBin, eOp, eUn, eFn, eIx, eSlc, eChn, tVal, tNot, tAnd, tOr, eIf, eAnd, eOr, eNot, eIs, aNil, aCons, aStar, itemsO, eTup, nLst, eNw, pNone, pSome, sSkip, sSeq, sAsg, sAsgN, sRet, sRetN, sIf, tgName, tgAll, tgTup, sTg, sPar, sFor, iSeqM, iRg1, iRg2, iEnM, ownL, sApp, tgSet, ePop, ePopA, eCall, peeks, takes, hands, boolD, pw_bind, qQ, wipeR, reduceIte, nOp, nList, isD, lenD, wW, herr, hl, le2]
    · simp only [eCmp, eBin, eOp, eUn, eFn, eIx, eSlc, eChn, tVal, tNot, tAnd, tOr, eIf, eAnd, eOr, eNot, eIs, aNil, aCons, aStar, itemsO, eTup, nLst, eNw, pNone, pSome, sSkip, sSeq, sAsg, sAsgN, sRet, sRetN, sIf, tgName, tgAll, tgTup, sTg, sPar, sFor, iSeqM, iRg1, iRg2, iEnM, ownL, sApp, tgSet, ePop, ePopA, eCall, peeks, takes, hands, boolD, pw_bind, qQ, wipeR, reduceIte, nOp, nList, isD, lenD, wW, h, herr_len h, le2]
  · cases v <;> first | exact absurd ⟨_, rfl⟩ hv2 | simp only [eCmp, eBin, eOp, eUn, eFn, eIx, eSlc, eChn, tVal, tNot, tAnd, tOr, eIf, eAnd, eOr, eNot, eIs, aNil, aCons, aStar, itemsO, eTup, nLst, eNw, pNone, pSome, sSkip, sSeq, sAsg, sAsgN, sRet, sRetN, sIf, tgName, tgAll, tgTup, sTg, sPar, sFor, iSeqM, iRg1, iRg2, iEnM, ownL, sApp, tgSet, ePop, ePopA, eCall, peeks, takes, hands, boolD, pw_bind, qQ, wipeR, reduceIte, nOp, nList, isD, lenD, wW, herr, le2]
end K02
set_option linter.all false
set_option Elab.async false
namespace K02
open PySem TW
end K02
set_option linter.all false
set_option Elab.async false
set_option maxHeartbeats 0
set_option maxRecDepth 10000
namespace K02
open PySem TW
end K02
set_option linter.all false
set_option Elab.async false
set_option maxHeartbeats 0
namespace K02
open PySem TW
theorem r_law_one (ds : List PyData) (b : Option Bx) (hb : Bg b) (h1 : 1 ≤ ds.length) (h2 : ds.length < 1073741824) : Runs f_law_one [.box, .dat (.list ds)] b fun d b' => d ∈ ds ∧ Bg b' := by
  refine runs_of ?_
  unfold m_law_one
  simp only [List.map_cons, List.map_nil, argSV, List.length_cons, List.length_nil, Nat.reduceAdd, Nat.reduceSub, List.replicate, List.cons_append, List.nil_append]
  simp only [eCmp, eBin, eOp, eUn, eFn, eIx, eSlc, eChn, tVal, tNot, tAnd, tOr, eIf, eAnd, eOr, eNot, eIs, aNil, aCons, aStar, itemsO, eTup, nLst, eNw, pNone, pSome, sSkip, sSeq, sAsg, sAsgN, sRet, sRetN, sIf, tgName, tgAll, tgTup, sTg, sPar, sFor, iSeqM, iRg1, iRg2, iEnM, ownL, sApp, tgSet, ePop, ePopA, eCall, peeks, takes, hands, boolD, pw_bind, qQ, wipeR, reduceIte, nOp, nList, isD, lenD, wW]
  refine q_callR (runs_draw (by omega) (by omega) hb) rfl ?_
  rintro _ b' ⟨i, rfl, h3, h4, hb'⟩
  have hi : i.toNat < ds.length := by omega
  have e : i = ((i.toNat : Nat) : Int) := by omega
  rw [e]
  simp only [eCmp, eBin, eOp, eUn, eFn, eIx, eSlc, eChn, tVal, tNot, tAnd, tOr, eIf, eAnd, eOr, eNot, eIs, aNil, aCons, aStar, itemsO, eTup, nLst, eNw, pNone, pSome, sSkip, sSeq, sAsg, sAsgN, sRet, sRetN, sIf, tgName, tgAll, tgTup, sTg, sPar, sFor, iSeqM, iRg1, iRg2, iEnM, ownL, sApp, tgSet, ePop, ePopA, eCall, peeks, takes, hands, boolD, pw_bind, qQ, wipeR, reduceIte, nOp, nList, isD, lenD, wW, ixLN (List.getElem?_eq_getElem hi)]
  exact ⟨List.getElem_mem hi, hb'⟩
theorem l3 : 0 + 1 + 1 + 1 ≤ lim := by decide
theorem l2 : 0 + 1 + 1 ≤ lim := by decide
theorem r_law_kind (n : Nat) (b : Option Bx) (hb : Bg b) (h1 : 1 ≤ n) (h2 : n ≤ 1000) : Runs f_law_kind [.box, .dat (.int n)] b fun d b' => IsK n d ∧ Bg b' := by
  refine runs_of ?_
  unfold m_law_kind
  simp only [List.map_cons, List.map_nil, argSV, List.length_cons, List.length_nil, Nat.reduceAdd, Nat.reduceSub, List.replicate, List.cons_append, List.nil_append]
  simp only [eCmp, eBin, eOp, eUn, eFn, eIx, eSlc, eChn, tVal, tNot, tAnd, tOr, eIf, eAnd, eOr, eNot, eIs, aNil, aCons, aStar, itemsO, eTup, nLst, eNw, pNone, pSome, sSkip, sSeq, sAsg, sAsgN, sRet, sRetN, sIf, tgName, tgAll, tgTup, sTg, sPar, sFor, iSeqM, iRg1, iRg2, iEnM, ownL, sApp, tgSet, ePop, ePopA, eCall, peeks, takes, hands, boolD, pw_bind, qQ, wipeR, reduceIte, nOp, nList, isD, lenD, wW]
  refine q_callR (runs_draw (n := (n : Int)) (by omega) (by omega) hb) rfl ?_
  rintro _ b1 ⟨x, rfl, hx1, hx2, hb1⟩
  simp only [eCmp, eBin, eOp, eUn, eFn, eIx, eSlc, eChn, tVal, tNot, tAnd, tOr, eIf, eAnd, eOr, eNot, eIs, aNil, aCons, aStar, itemsO, eTup, nLst, eNw, pNone, pSome, sSkip, sSeq, sAsg, sAsgN, sRet, sRetN, sIf, tgName, tgAll, tgTup, sTg, sPar, sFor, iSeqM, iRg1, iRg2, iEnM, ownL, sApp, tgSet, ePop, ePopA, eCall, peeks, takes, hands, boolD, pw_bind, qQ, wipeR, reduceIte, nOp, nList, isD, lenD, wW]
  refine q_callR (runs_draw (n := (n : Int)) (by omega) (by omega) hb1) rfl ?_
  rintro _ b2 ⟨y, rfl, hy1, hy2, hb2⟩
  simp only [eCmp, eBin, eOp, eUn, eFn, eIx, eSlc, eChn, tVal, tNot, tAnd, tOr, eIf, eAnd, eOr, eNot, eIs, aNil, aCons, aStar, itemsO, eTup, nLst, eNw, pNone, pSome, sSkip, sSeq, sAsg, sAsgN, sRet, sRetN, sIf, tgName, tgAll, tgTup, sTg, sPar, sFor, iSeqM, iRg1, iRg2, iEnM, ownL, sApp, tgSet, ePop, ePopA, eCall, peeks, takes, hands, boolD, pw_bind, qQ, wipeR, reduceIte, nOp, nList, isD, lenD, wW]
  refine q_callR (runs_draw (n := 5) (by omega) (by omega) hb2) rfl ?_
  rintro _ b3 ⟨w, rfl, hw1, hw2, hb3⟩
  simp only [eCmp, eBin, eOp, eUn, eFn, eIx, eSlc, eChn, tVal, tNot, tAnd, tOr, eIf, eAnd, eOr, eNot, eIs, aNil, aCons, aStar, itemsO, eTup, nLst, eNw, pNone, pSome, sSkip, sSeq, sAsg, sAsgN, sRet, sRetN, sIf, tgName, tgAll, tgTup, sTg, sPar, sFor, iSeqM, iRg1, iRg2, iEnM, ownL, sApp, tgSet, ePop, ePopA, eCall, peeks, takes, hands, boolD, pw_bind, qQ, wipeR, reduceIte, nOp, nList, isD, lenD, wW, l3]
  have hbig : big62 (n : Int) = true := big62_of (by omega) (by omega)
  have hlim : n ≤ lim := Nat.le_trans h2 (by decide)
  refine q_cmpB [.box, .dat (.int n), .no, .dat (.int x), .dat (.int y), .dat (.int w), .no] (inR n) ?_
  simp only [eCmp, eBin, eOp, eUn, eFn, eIx, eSlc, eChn, tVal, tNot, tAnd, tOr, eIf, eAnd, eOr, eNot, eIs, aNil, aCons, aStar, itemsO, eTup, nLst, eNw, pNone, pSome, sSkip, sSeq, sAsg, sAsgN, sRet, sRetN, sIf, tgName, tgAll, tgTup, sTg, sPar, sFor, iSeqM, iRg1, iRg2, iEnM, ownL, sApp, tgSet, ePop, ePopA, eCall, peeks, takes, hands, boolD, pw_bind, qQ, wipeR, reduceIte, nOp, nList, isD, lenD, wW, hbig, rgD_nat, rgN_len, hlim]
  refine ⟨hb3, fun d _ b4 hb4 => ?_, fun xs b4 r1 hr hb4 hlen hP => ?_⟩
  · refine q_callR (runs_draw (n := (n : Int)) (by omega) (by omega) hb4) rfl ?_
    rintro _ b5 ⟨z, rfl, hz1, hz2, hb5⟩
    simp only [eCmp, eBin, eOp, eUn, eFn, eIx, eSlc, eChn, tVal, tNot, tAnd, tOr, eIf, eAnd, eOr, eNot, eIs, aNil, aCons, aStar, itemsO, eTup, nLst, eNw, pNone, pSome, sSkip, sSeq, sAsg, sAsgN, sRet, sRetN, sIf, tgName, tgAll, tgTup, sTg, sPar, sFor, iSeqM, iRg1, iRg2, iEnM, ownL, sApp, tgSet, ePop, ePopA, eCall, peeks, takes, hands, boolD, pw_bind, qQ, wipeR, reduceIte, nOp, nList, isD, lenD, wW]
    exact ⟨⟨z, rfl, hz1, hz2⟩, hb5⟩
  · have hw : w = 0 ∨ w = 1 ∨ w = 2 ∨ w = 3 ∨ w = 4 := by omega
    rw [back_no rfl hr]
    have hxs : xs.length = n := by rw [hlen]
    have hn0 : (n : Int) ≠ 0 := by omega
    have body : ∀ (w : Int) (f : PyData → PyData) (e : M Opd) (Q : PyData → Sx → Prop), (∀ j : Nat, j < n → pw (e >>= take) ⟨[.box, .dat (.int n), .dat (.list xs), .dat (.int x), .dat (.int y), .dat (.int w), .dat (.int (j : Nat))], b4⟩ (fun z s => f (.int (j : Nat)) = z ∧ s = ⟨[.box, .dat (.int n), .dat (.list xs), .dat (.int x), .dat (.int y), .dat (.int w), .dat (.int (j : Nat))], b4⟩) fun _ => False) →
        Q (.list ((rgN n).map f)) ⟨[.box, .dat (.int n), .dat (.list xs), .dat (.int x), .dat (.int y), .dat (.int w), .no], b4⟩ →
        pw (nCmp [6] (iRg1 (eVar 1)) (tgName 6) (pure true) e) ⟨[.box, .dat (.int n), .dat (.list xs), .dat (.int x), .dat (.int y), .dat (.int w), .no], b4⟩ Q fun _ => False := by
      intro w f e Q he hq
      refine q_map [.box, .dat (.int n), .dat (.list xs), .dat (.int x), .dat (.int y), .dat (.int w), .no] b4 f ?_
      simp only [eCmp, eBin, eOp, eUn, eFn, eIx, eSlc, eChn, tVal, tNot, tAnd, tOr, eIf, eAnd, eOr, eNot, eIs, aNil, aCons, aStar, itemsO, eTup, nLst, eNw, pNone, pSome, sSkip, sSeq, sAsg, sAsgN, sRet, sRetN, sIf, tgName, tgAll, tgTup, sTg, sPar, sFor, iSeqM, iRg1, iRg2, iEnM, ownL, sApp, tgSet, ePop, ePopA, eCall, peeks, takes, hands, boolD, pw_bind, qQ, wipeR, reduceIte, nOp, nList, isD, lenD, wW, hbig, rgD_nat, rgN_len, hlim]
      refine ⟨fun d hd => ?_, fun r1 hr => ?_⟩
      · obtain ⟨j, rfl, hj⟩ := rgN_mem hd
        have he := he j hj
        rw [pw_bind] at he
        refine pw_mono he (fun o s0 h0 => pw_mono h0 (fun z s1 ⟨e1, e2⟩ => ?_) fun _ h => h) fun _ h => h
        subst e2
        exact ⟨e1, rfl, rfl⟩
      · rw [back_no rfl hr]
        exact hq
    have inrg : ∀ (f : PyData → PyData), (∀ j : Nat, j < n → inR n (f (.int (j : Nat)))) → IsT n (.list ((rgN n).map f)) := fun f hf => by
      refine isT_of (by rw [List.length_map, rgN_len]) fun z hz => ?_
      obtain ⟨d, hd, rfl⟩ := List.mem_map.mp hz
      obtain ⟨j, rfl, hj⟩ := rgN_mem hd
      exact hf j hj
    rcases hw with rfl | rfl | rfl | rfl | rfl
    · simp only [eCmp, eBin, eOp, eUn, eFn, eIx, eSlc, eChn, tVal, tNot, tAnd, tOr, eIf, eAnd, eOr, eNot, eIs, aNil, aCons, aStar, itemsO, eTup, nLst, eNw, pNone, pSome, sSkip, sSeq, sAsg, sAsgN, sRet, sRetN, sIf, tgName, tgAll, tgTup, sTg, sPar, sFor, iSeqM, iRg1, iRg2, iEnM, ownL, sApp, tgSet, ePop, ePopA, eCall, peeks, takes, hands, boolD, pw_bind, qQ, wipeR, reduceIte, nOp, nList, isD, lenD, wW, Int.reduceEq, b_rep h2]
      refine q_callR (runs_draw (n := 4) (by omega) (by omega) hb4) rfl ?_
      rintro _ b5 ⟨z, rfl, hz1, hz2, hb5⟩
      simp only [eCmp, eBin, eOp, eUn, eFn, eIx, eSlc, eChn, tVal, tNot, tAnd, tOr, eIf, eAnd, eOr, eNot, eIs, aNil, aCons, aStar, itemsO, eTup, nLst, eNw, pNone, pSome, sSkip, sSeq, sAsg, sAsgN, sRet, sRetN, sIf, tgName, tgAll, tgTup, sTg, sPar, sFor, iSeqM, iRg1, iRg2, iEnM, ownL, sApp, tgSet, ePop, ePopA, eCall, peeks, takes, hands, boolD, pw_bind, qQ, wipeR, reduceIte, nOp, nList, isD, lenD, wW, tupleD, l2]
      refine ⟨⟨z, List.replicate n x, ?_, hz1, hz2, List.length_replicate, fun t ht => ?_⟩, hb5⟩
      · rw [List.map_replicate]
      · rw [List.eq_of_mem_replicate ht]; exact ⟨hx1, hx2⟩
    · simp only [eCmp, eBin, eOp, eUn, eFn, eIx, eSlc, eChn, tVal, tNot, tAnd, tOr, eIf, eAnd, eOr, eNot, eIs, aNil, aCons, aStar, itemsO, eTup, nLst, eNw, pNone, pSome, sSkip, sSeq, sAsg, sAsgN, sRet, sRetN, sIf, tgName, tgAll, tgTup, sTg, sPar, sFor, iSeqM, iRg1, iRg2, iEnM, ownL, sApp, tgSet, ePop, ePopA, eCall, peeks, takes, hands, boolD, pw_bind, qQ, wipeR, reduceIte, nOp, nList, isD, lenD, wW, Int.reduceEq]
      refine body 1 (fun d => match d with
        | .int j => .int (if j = x then y else j)
        | d => d) _ _ (fun j hj => ?_) ?_
      · simp only [eCmp, eBin, eOp, eUn, eFn, eIx, eSlc, eChn, tVal, tNot, tAnd, tOr, eIf, eAnd, eOr, eNot, eIs, aNil, aCons, aStar, itemsO, eTup, nLst, eNw, pNone, pSome, sSkip, sSeq, sAsg, sAsgN, sRet, sRetN, sIf, tgName, tgAll, tgTup, sTg, sPar, sFor, iSeqM, iRg1, iRg2, iEnM, ownL, sApp, tgSet, ePop, ePopA, eCall, peeks, takes, hands, boolD, pw_bind, qQ, wipeR, reduceIte, nOp, nList, isD, lenD, wW]
        by_cases h : (j : Int) = x
        · simp only [eCmp, eBin, eOp, eUn, eFn, eIx, eSlc, eChn, tVal, tNot, tAnd, tOr, eIf, eAnd, eOr, eNot, eIs, aNil, aCons, aStar, itemsO, eTup, nLst, eNw, pNone, pSome, sSkip, sSeq, sAsg, sAsgN, sRet, sRetN, sIf, tgName, tgAll, tgTup, sTg, sPar, sFor, iSeqM, iRg1, iRg2, iEnM, ownL, sApp, tgSet, ePop, ePopA, eCall, peeks, takes, hands, boolD, pw_bind, qQ, wipeR, reduceIte, nOp, nList, isD, lenD, wW, h]
        · simp only [eCmp, eBin, eOp, eUn, eFn, eIx, eSlc, eChn, tVal, tNot, tAnd, tOr, eIf, eAnd, eOr, eNot, eIs, aNil, aCons, aStar, itemsO, eTup, nLst, eNw, pNone, pSome, sSkip, sSeq, sAsg, sAsgN, sRet, sRetN, sIf, tgName, tgAll, tgTup, sTg, sPar, sFor, iSeqM, iRg1, iRg2, iEnM, ownL, sApp, tgSet, ePop, ePopA, eCall, peeks, takes, hands, boolD, pw_bind, qQ, wipeR, reduceIte, nOp, nList, isD, lenD, wW, h]
      · simp only [eCmp, eBin, eOp, eUn, eFn, eIx, eSlc, eChn, tVal, tNot, tAnd, tOr, eIf, eAnd, eOr, eNot, eIs, aNil, aCons, aStar, itemsO, eTup, nLst, eNw, pNone, pSome, sSkip, sSeq, sAsg, sAsgN, sRet, sRetN, sIf, tgName, tgAll, tgTup, sTg, sPar, sFor, iSeqM, iRg1, iRg2, iEnM, ownL, sApp, tgSet, ePop, ePopA, eCall, peeks, takes, hands, boolD, pw_bind, qQ, wipeR, reduceIte, nOp, nList, isD, lenD, wW]
        refine q_callR (runs_draw (n := 4) (by omega) (by omega) hb4) rfl ?_
        rintro _ b5 ⟨z, rfl, hz1, hz2, hb5⟩
        simp only [eCmp, eBin, eOp, eUn, eFn, eIx, eSlc, eChn, tVal, tNot, tAnd, tOr, eIf, eAnd, eOr, eNot, eIs, aNil, aCons, aStar, itemsO, eTup, nLst, eNw, pNone, pSome, sSkip, sSeq, sAsg, sAsgN, sRet, sRetN, sIf, tgName, tgAll, tgTup, sTg, sPar, sFor, iSeqM, iRg1, iRg2, iEnM, ownL, sApp, tgSet, ePop, ePopA, eCall, peeks, takes, hands, boolD, pw_bind, qQ, wipeR, reduceIte, nOp, nList, isD, lenD, wW, tupleD, l2]
        obtain ⟨ts, e, ht1, ht2⟩ := inrg (fun d => match d with
          | .int j => .int (if j = x then y else j)
          | d => d) fun j hj => ⟨_, rfl, by split <;> omega, by split <;> omega⟩
        exact ⟨⟨z, ts, by rw [PyData.list.inj e], hz1, hz2, ht1, ht2⟩, hb5⟩
    · simp only [eCmp, eBin, eOp, eUn, eFn, eIx, eSlc, eChn, tVal, tNot, tAnd, tOr, eIf, eAnd, eOr, eNot, eIs, aNil, aCons, aStar, itemsO, eTup, nLst, eNw, pNone, pSome, sSkip, sSeq, sAsg, sAsgN, sRet, sRetN, sIf, tgName, tgAll, tgTup, sTg, sPar, sFor, iSeqM, iRg1, iRg2, iEnM, ownL, sApp, tgSet, ePop, ePopA, eCall, peeks, takes, hands, boolD, pw_bind, qQ, wipeR, reduceIte, nOp, nList, isD, lenD, wW, Int.reduceEq]
      have bm : ∀ i : Int, binD .mod (.int i) (.int n) = some (.int (i.fmod n)) := fun i => by
        simp only [binD]
        exact if_pos hn0
      refine body 2 (fun d => match d with
        | .int j => .int ((j + x).fmod n)
        | d => d) _ _ (fun j hj => ?_) ?_
      · simp only [eCmp, eBin, eOp, eUn, eFn, eIx, eSlc, eChn, tVal, tNot, tAnd, tOr, eIf, eAnd, eOr, eNot, eIs, aNil, aCons, aStar, itemsO, eTup, nLst, eNw, pNone, pSome, sSkip, sSeq, sAsg, sAsgN, sRet, sRetN, sIf, tgName, tgAll, tgTup, sTg, sPar, sFor, iSeqM, iRg1, iRg2, iEnM, ownL, sApp, tgSet, ePop, ePopA, eCall, peeks, takes, hands, boolD, pw_bind, qQ, wipeR, reduceIte, nOp, nList, isD, lenD, wW, intD, bm]
      · simp only [eCmp, eBin, eOp, eUn, eFn, eIx, eSlc, eChn, tVal, tNot, tAnd, tOr, eIf, eAnd, eOr, eNot, eIs, aNil, aCons, aStar, itemsO, eTup, nLst, eNw, pNone, pSome, sSkip, sSeq, sAsg, sAsgN, sRet, sRetN, sIf, tgName, tgAll, tgTup, sTg, sPar, sFor, iSeqM, iRg1, iRg2, iEnM, ownL, sApp, tgSet, ePop, ePopA, eCall, peeks, takes, hands, boolD, pw_bind, qQ, wipeR, reduceIte, nOp, nList, isD, lenD, wW]
        refine q_callR (runs_draw (n := 4) (by omega) (by omega) hb4) rfl ?_
        rintro _ b5 ⟨z, rfl, hz1, hz2, hb5⟩
        simp only [eCmp, eBin, eOp, eUn, eFn, eIx, eSlc, eChn, tVal, tNot, tAnd, tOr, eIf, eAnd, eOr, eNot, eIs, aNil, aCons, aStar, itemsO, eTup, nLst, eNw, pNone, pSome, sSkip, sSeq, sAsg, sAsgN, sRet, sRetN, sIf, tgName, tgAll, tgTup, sTg, sPar, sFor, iSeqM, iRg1, iRg2, iEnM, ownL, sApp, tgSet, ePop, ePopA, eCall, peeks, takes, hands, boolD, pw_bind, qQ, wipeR, reduceIte, nOp, nList, isD, lenD, wW, tupleD, l2]
        obtain ⟨ts, e, ht1, ht2⟩ := inrg (fun d => match d with
          | .int j => .int ((j + x).fmod n)
          | d => d) fun j hj => ⟨_, rfl, (fmod_range (by omega)).1, (fmod_range (by omega)).2⟩
        exact ⟨⟨z, ts, by rw [PyData.list.inj e], hz1, hz2, ht1, ht2⟩, hb5⟩
    · simp only [eCmp, eBin, eOp, eUn, eFn, eIx, eSlc, eChn, tVal, tNot, tAnd, tOr, eIf, eAnd, eOr, eNot, eIs, aNil, aCons, aStar, itemsO, eTup, nLst, eNw, pNone, pSome, sSkip, sSeq, sAsg, sAsgN, sRet, sRetN, sIf, tgName, tgAll, tgTup, sTg, sPar, sFor, iSeqM, iRg1, iRg2, iEnM, ownL, sApp, tgSet, ePop, ePopA, eCall, peeks, takes, hands, boolD, pw_bind, qQ, wipeR, reduceIte, nOp, nList, isD, lenD, wW, Int.reduceEq]
      have bm : ∀ j : Int, memD true (.int j) (.tuple [.int x, .int y]) = some (.bool (!(decide (x = j) || decide (y = j)))) := fun j => by
        simp only [memD, flatD, List.all_cons, List.all_nil, Bool.and_self, if_true, member, List.any_cons, List.any_nil, PyData.eqv, Bool.or_false]
        congr 2
        by_cases h1 : x = j <;> by_cases h2 : y = j <;> simp [h1, h2]
      refine body 3 (fun d => match d with
        | .int j => .int (if x = j ∨ y = j then x + y - j else j)
        | d => d) _ _ (fun j hj => ?_) ?_
      · simp only [eCmp, eBin, eOp, eUn, eFn, eIx, eSlc, eChn, tVal, tNot, tAnd, tOr, eIf, eAnd, eOr, eNot, eIs, aNil, aCons, aStar, itemsO, eTup, nLst, eNw, pNone, pSome, sSkip, sSeq, sAsg, sAsgN, sRet, sRetN, sIf, tgName, tgAll, tgTup, sTg, sPar, sFor, iSeqM, iRg1, iRg2, iEnM, ownL, sApp, tgSet, ePop, ePopA, eCall, peeks, takes, hands, boolD, pw_bind, qQ, wipeR, reduceIte, nOp, nList, isD, lenD, wW, l2, bm]
        by_cases h : x = (j : Int)
        · simp only [eCmp, eBin, eOp, eUn, eFn, eIx, eSlc, eChn, tVal, tNot, tAnd, tOr, eIf, eAnd, eOr, eNot, eIs, aNil, aCons, aStar, itemsO, eTup, nLst, eNw, pNone, pSome, sSkip, sSeq, sAsg, sAsgN, sRet, sRetN, sIf, tgName, tgAll, tgTup, sTg, sPar, sFor, iSeqM, iRg1, iRg2, iEnM, ownL, sApp, tgSet, ePop, ePopA, eCall, peeks, takes, hands, boolD, pw_bind, qQ, wipeR, reduceIte, nOp, nList, isD, lenD, wW, h, Bool.true_or, true_or]
        · by_cases h' : y = (j : Int)
          · simp only [eCmp, eBin, eOp, eUn, eFn, eIx, eSlc, eChn, tVal, tNot, tAnd, tOr, eIf, eAnd, eOr, eNot, eIs, aNil, aCons, aStar, itemsO, eTup, nLst, eNw, pNone, pSome, sSkip, sSeq, sAsg, sAsgN, sRet, sRetN, sIf, tgName, tgAll, tgTup, sTg, sPar, sFor, iSeqM, iRg1, iRg2, iEnM, ownL, sApp, tgSet, ePop, ePopA, eCall, peeks, takes, hands, boolD, pw_bind, qQ, wipeR, reduceIte, nOp, nList, isD, lenD, wW, h, h', Bool.or_true, or_true]
          · simp only [eCmp, eBin, eOp, eUn, eFn, eIx, eSlc, eChn, tVal, tNot, tAnd, tOr, eIf, eAnd, eOr, eNot, eIs, aNil, aCons, aStar, itemsO, eTup, nLst, eNw, pNone, pSome, sSkip, sSeq, sAsg, sAsgN, sRet, sRetN, sIf, tgName, tgAll, tgTup, sTg, sPar, sFor, iSeqM, iRg1, iRg2, iEnM, ownL, sApp, tgSet, ePop, ePopA, eCall, peeks, takes, hands, boolD, pw_bind, qQ, wipeR, reduceIte, nOp, nList, isD, lenD, wW, h, h', Bool.or_self, or_self]
      · simp only [eCmp, eBin, eOp, eUn, eFn, eIx, eSlc, eChn, tVal, tNot, tAnd, tOr, eIf, eAnd, eOr, eNot, eIs, aNil, aCons, aStar, itemsO, eTup, nLst, eNw, pNone, pSome, sSkip, sSeq, sAsg, sAsgN, sRet, sRetN, sIf, tgName, tgAll, tgTup, sTg, sPar, sFor, iSeqM, iRg1, iRg2, iEnM, ownL, sApp, tgSet, ePop, ePopA, eCall, peeks, takes, hands, boolD, pw_bind, qQ, wipeR, reduceIte, nOp, nList, isD, lenD, wW]
        refine q_callR (runs_draw (n := 4) (by omega) (by omega) hb4) rfl ?_
        rintro _ b5 ⟨z, rfl, hz1, hz2, hb5⟩
        simp only [eCmp, eBin, eOp, eUn, eFn, eIx, eSlc, eChn, tVal, tNot, tAnd, tOr, eIf, eAnd, eOr, eNot, eIs, aNil, aCons, aStar, itemsO, eTup, nLst, eNw, pNone, pSome, sSkip, sSeq, sAsg, sAsgN, sRet, sRetN, sIf, tgName, tgAll, tgTup, sTg, sPar, sFor, iSeqM, iRg1, iRg2, iEnM, ownL, sApp, tgSet, ePop, ePopA, eCall, peeks, takes, hands, boolD, pw_bind, qQ, wipeR, reduceIte, nOp, nList, isD, lenD, wW, tupleD, l2]
        obtain ⟨ts, e, ht1, ht2⟩ := inrg (fun d => match d with
          | .int j => .int (if x = j ∨ y = j then x + y - j else j)
          | d => d) fun j hj => ⟨_, rfl, by split <;> omega, by split <;> omega⟩
        exact ⟨⟨z, ts, by rw [PyData.list.inj e], hz1, hz2, ht1, ht2⟩, hb5⟩
    · simp only [eCmp, eBin, eOp, eUn, eFn, eIx, eSlc, eChn, tVal, tNot, tAnd, tOr, eIf, eAnd, eOr, eNot, eIs, aNil, aCons, aStar, itemsO, eTup, nLst, eNw, pNone, pSome, sSkip, sSeq, sAsg, sAsgN, sRet, sRetN, sIf, tgName, tgAll, tgTup, sTg, sPar, sFor, iSeqM, iRg1, iRg2, iEnM, ownL, sApp, tgSet, ePop, ePopA, eCall, peeks, takes, hands, boolD, pw_bind, qQ, wipeR, reduceIte, nOp, nList, isD, lenD, wW, Int.reduceEq]
      refine q_callR (runs_draw (n := 4) (by omega) (by omega) hb4) rfl ?_
      rintro _ b5 ⟨z, rfl, hz1, hz2, hb5⟩
      simp only [eCmp, eBin, eOp, eUn, eFn, eIx, eSlc, eChn, tVal, tNot, tAnd, tOr, eIf, eAnd, eOr, eNot, eIs, aNil, aCons, aStar, itemsO, eTup, nLst, eNw, pNone, pSome, sSkip, sSeq, sAsg, sAsgN, sRet, sRetN, sIf, tgName, tgAll, tgTup, sTg, sPar, sFor, iSeqM, iRg1, iRg2, iEnM, ownL, sApp, tgSet, ePop, ePopA, eCall, peeks, takes, hands, boolD, pw_bind, qQ, wipeR, reduceIte, nOp, nList, isD, lenD, wW, tupleD, l2]
      obtain ⟨ts, e, ht1, ht2⟩ := isT_of hxs hP
      exact ⟨⟨z, ts, by rw [PyData.list.inj e], hz1, hz2, ht1, ht2⟩, hb5⟩
end K02
set_option linter.all false
set_option Elab.async false
set_option maxHeartbeats 0
namespace K02
open PySem TW
theorem l4 : 0 + 1 + 1 + 1 + 1 ≤ lim := by decide
theorem r_law_handler (most many : Nat) (b : Option Bx) (hb : Bg b) (h1 : 2 ≤ most) (h2 : most ≤ 100) (h3 : 1 ≤ many) (h4 : many ≤ 100) : Runs f_law_handler [.box, .dat (.int most), .dat (.int many)] b fun d b' => (∃ n k, IsH n k d ∧ 2 ≤ n ∧ n ≤ most ∧ 1 ≤ k ∧ k ≤ many) ∧ Bg b' := by
  refine runs_of ?_
  unfold m_law_handler
  simp only [List.map_cons, List.map_nil, argSV, List.length_cons, List.length_nil, Nat.reduceAdd, Nat.reduceSub, List.replicate, List.cons_append, List.nil_append]
  simp only [eCmp, eBin, eOp, eUn, eFn, eIx, eSlc, eChn, tVal, tNot, tAnd, tOr, eIf, eAnd, eOr, eNot, eIs, aNil, aCons, aStar, itemsO, eTup, nLst, eNw, pNone, pSome, sSkip, sSeq, sAsg, sAsgN, sRet, sRetN, sIf, tgName, tgAll, tgTup, sTg, sPar, sFor, iSeqM, iRg1, iRg2, iEnM, ownL, sApp, tgSet, ePop, ePopA, eCall, peeks, takes, hands, boolD, pw_bind, qQ, wipeR, reduceIte, nOp, nList, isD, lenD, wW]
  refine q_callR (runs_draw (n := (most : Int) - 1) (by omega) (by omega) hb) rfl ?_
  rintro _ b1 ⟨x, rfl, hx1, hx2, hb1⟩
  obtain ⟨n, hn⟩ : ∃ n : Nat, 2 + x = (n : Int) := ⟨(2 + x).toNat, by omega⟩
  have hbig : big62 (n : Int) = true := big62_of (by omega) (by omega)
  have hlim : n ≤ lim := Nat.le_trans (show n ≤ 100 by omega) (by decide)
  simp only [eCmp, eBin, eOp, eUn, eFn, eIx, eSlc, eChn, tVal, tNot, tAnd, tOr, eIf, eAnd, eOr, eNot, eIs, aNil, aCons, aStar, itemsO, eTup, nLst, eNw, pNone, pSome, sSkip, sSeq, sAsg, sAsgN, sRet, sRetN, sIf, tgName, tgAll, tgTup, sTg, sPar, sFor, iSeqM, iRg1, iRg2, iEnM, ownL, sApp, tgSet, ePop, ePopA, eCall, peeks, takes, hands, boolD, pw_bind, qQ, wipeR, reduceIte, nOp, nList, isD, lenD, wW, hn]
  refine q_cmpB [.box, .dat (.int most), .dat (.int many), .dat (.int n), .no, .no] (inR n) ?_
  simp only [eCmp, eBin, eOp, eUn, eFn, eIx, eSlc, eChn, tVal, tNot, tAnd, tOr, eIf, eAnd, eOr, eNot, eIs, aNil, aCons, aStar, itemsO, eTup, nLst, eNw, pNone, pSome, sSkip, sSeq, sAsg, sAsgN, sRet, sRetN, sIf, tgName, tgAll, tgTup, sTg, sPar, sFor, iSeqM, iRg1, iRg2, iEnM, ownL, sApp, tgSet, ePop, ePopA, eCall, peeks, takes, hands, boolD, pw_bind, qQ, wipeR, reduceIte, nOp, nList, isD, lenD, wW, hbig, rgD_nat, rgN_len, hlim]
  refine ⟨hb1, fun d hd b2 hb2 => ?_, fun xs b2 r1 hr hb2 hlen hP => ?_⟩
  · obtain ⟨j, rfl, hj⟩ := rgN_mem hd
    refine q_callR (runs_draw (n := (n : Int)) (by omega) (by omega) hb2) rfl ?_
    rintro _ b3 ⟨z, rfl, hz1, hz2, hb3⟩
    simp only [eCmp, eBin, eOp, eUn, eFn, eIx, eSlc, eChn, tVal, tNot, tAnd, tOr, eIf, eAnd, eOr, eNot, eIs, aNil, aCons, aStar, itemsO, eTup, nLst, eNw, pNone, pSome, sSkip, sSeq, sAsg, sAsgN, sRet, sRetN, sIf, tgName, tgAll, tgTup, sTg, sPar, sFor, iSeqM, iRg1, iRg2, iEnM, ownL, sApp, tgSet, ePop, ePopA, eCall, peeks, takes, hands, boolD, pw_bind, qQ, wipeR, reduceIte, nOp, nList, isD, lenD, wW, l4]
    refine q_callR (r_law_one _ _ hb3 (by simp) (by simp)) rfl ?_
    rintro v b4 ⟨hv, hb4⟩
    simp only [eCmp, eBin, eOp, eUn, eFn, eIx, eSlc, eChn, tVal, tNot, tAnd, tOr, eIf, eAnd, eOr, eNot, eIs, aNil, aCons, aStar, itemsO, eTup, nLst, eNw, pNone, pSome, sSkip, sSeq, sAsg, sAsgN, sRet, sRetN, sIf, tgName, tgAll, tgTup, sTg, sPar, sFor, iSeqM, iRg1, iRg2, iEnM, ownL, sApp, tgSet, ePop, ePopA, eCall, peeks, takes, hands, boolD, pw_bind, qQ, wipeR, reduceIte, nOp, nList, isD, lenD, wW]
    refine ⟨?_, hb4⟩
    simp at hv
    rcases hv with rfl | rfl | rfl
    · exact ⟨0, rfl, by omega, by omega⟩
    · exact ⟨_, rfl, by omega, by omega⟩
    · exact ⟨_, rfl, hz1, hz2⟩
  · rw [back_no rfl hr]
    obtain ⟨ls, rfl, hls⟩ := ints_of hP
    have hll : ls.length = n := by simpa using hlen
    simp only [eCmp, eBin, eOp, eUn, eFn, eIx, eSlc, eChn, tVal, tNot, tAnd, tOr, eIf, eAnd, eOr, eNot, eIs, aNil, aCons, aStar, itemsO, eTup, nLst, eNw, pNone, pSome, sSkip, sSeq, sAsg, sAsgN, sRet, sRetN, sIf, tgName, tgAll, tgTup, sTg, sPar, sFor, iSeqM, iRg1, iRg2, iEnM, ownL, sApp, tgSet, ePop, ePopA, eCall, peeks, takes, hands, boolD, pw_bind, qQ, wipeR, reduceIte, nOp, nList, isD, lenD, wW, tupleD]
    refine q_cmpB [.box, .dat (.int most), .dat (.int many), .dat (.int n), .dat (.list (ls.map PyData.int)), .no] (IsK n) ?_
    simp only [eCmp, eBin, eOp, eUn, eFn, eIx, eSlc, eChn, tVal, tNot, tAnd, tOr, eIf, eAnd, eOr, eNot, eIs, aNil, aCons, aStar, itemsO, eTup, nLst, eNw, pNone, pSome, sSkip, sSeq, sAsg, sAsgN, sRet, sRetN, sIf, tgName, tgAll, tgTup, sTg, sPar, sFor, iSeqM, iRg1, iRg2, iEnM, ownL, sApp, tgSet, ePop, ePopA, eCall, peeks, takes, hands, boolD, pw_bind, qQ, wipeR, reduceIte, nOp, nList, isD, lenD, wW]
    refine q_callR (runs_draw (n := (many : Int)) (by omega) (by omega) hb2) rfl ?_
    rintro _ b3 ⟨z, rfl, hz1, hz2, hb3⟩
    obtain ⟨k, hk⟩ : ∃ k : Nat, 1 + z = (k : Int) := ⟨(1 + z).toNat, by omega⟩
    have hbigk : big62 (k : Int) = true := big62_of (by omega) (by omega)
    have hlimk : k ≤ lim := Nat.le_trans (show k ≤ 100 by omega) (by decide)
    simp only [eCmp, eBin, eOp, eUn, eFn, eIx, eSlc, eChn, tVal, tNot, tAnd, tOr, eIf, eAnd, eOr, eNot, eIs, aNil, aCons, aStar, itemsO, eTup, nLst, eNw, pNone, pSome, sSkip, sSeq, sAsg, sAsgN, sRet, sRetN, sIf, tgName, tgAll, tgTup, sTg, sPar, sFor, iSeqM, iRg1, iRg2, iEnM, ownL, sApp, tgSet, ePop, ePopA, eCall, peeks, takes, hands, boolD, pw_bind, qQ, wipeR, reduceIte, nOp, nList, isD, lenD, wW, hk, hbigk, rgD_nat, rgN_len, hlimk]
    refine ⟨hb3, fun d hd b4 hb4 => ?_, fun ks b4 r1 hr hb4 hlk hK => ?_⟩
    · refine q_callR (r_law_kind n b4 hb4 (by omega) (by omega)) rfl ?_
      rintro v b5 ⟨hv, hb5⟩
      simp only [eCmp, eBin, eOp, eUn, eFn, eIx, eSlc, eChn, tVal, tNot, tAnd, tOr, eIf, eAnd, eOr, eNot, eIs, aNil, aCons, aStar, itemsO, eTup, nLst, eNw, pNone, pSome, sSkip, sSeq, sAsg, sAsgN, sRet, sRetN, sIf, tgName, tgAll, tgTup, sTg, sPar, sFor, iSeqM, iRg1, iRg2, iEnM, ownL, sApp, tgSet, ePop, ePopA, eCall, peeks, takes, hands, boolD, pw_bind, qQ, wipeR, reduceIte, nOp, nList, isD, lenD, wW]
      exact ⟨hv, hb5⟩
    · simp only [eCmp, eBin, eOp, eUn, eFn, eIx, eSlc, eChn, tVal, tNot, tAnd, tOr, eIf, eAnd, eOr, eNot, eIs, aNil, aCons, aStar, itemsO, eTup, nLst, eNw, pNone, pSome, sSkip, sSeq, sAsg, sAsgN, sRet, sRetN, sIf, tgName, tgAll, tgTup, sTg, sPar, sFor, iSeqM, iRg1, iRg2, iEnM, ownL, sApp, tgSet, ePop, ePopA, eCall, peeks, takes, hands, boolD, pw_bind, qQ, wipeR, reduceIte, nOp, nList, isD, lenD, wW, l2]
      exact ⟨⟨n, k, ⟨ls, ks, rfl, hll, hlk, hls, hK⟩, by omega, by omega, by omega, by omega⟩, hb4⟩
end K02
set_option linter.all false
set_option Elab.async false
set_option maxHeartbeats 0
namespace K02
open PySem TW
end K02
set_option linter.all false
set_option Elab.async false
set_option maxHeartbeats 0
namespace K02
open PySem TW
theorem add_lst {xs ys : List PyData} (h : xs.length + ys.length ≤ lim) : binD .add (.list xs) (.list ys) = some (.list (xs ++ ys)) := by
  simp only [binD]
  exact if_pos h
theorem lim_le' {n : Nat} (h : n ≤ 1000000) : n ≤ lim := h
end K02
set_option linter.all false
set_option Elab.async false
set_option maxHeartbeats 0
namespace K02
open PySem TW
theorem tma_all {n m : Nat} : ∀ {ds : List PyData}, (∀ d ∈ ds, Tm n m d) → TmA (ds.length * (n + 2)) m ds
  | [], _ => ⟨rfl, Nat.zero_le _, Nat.zero_le _⟩
  | d :: ds, h => (TmA.cons (h d (by simp)) (tma_all fun e he => h e (List.mem_cons_of_mem _ he))).mono (by rw [List.length_cons, Nat.succ_mul]; omega) (by omega)
theorem tma_ints {n : Nat} {ls : List Int} (hn : n ≤ 900) (h : ∀ l ∈ ls, 0 ≤ l ∧ l < (n : Int)) : TmA (ls.length * 6) 0 (ls.map PyData.int) := by
  have := tma_all (n := 4) (m := 0) (ds := ls.map PyData.int) fun d hd => by
    obtain ⟨i, hi, rfl⟩ := List.mem_map.mp hd
    have := h i hi
    exact tm_small (by omega)
  rwa [List.length_map] at this
theorem tm_kind {n : Nat} {d : PyData} (hn : n ≤ 8) (h : IsK n d) : Tm 64 2 d := by
  obtain ⟨s, ts, rfl, h1, h2, h3, h4⟩ := h
  have := tma_ints (by omega) h4
  refine (Tm.tup (TmA.cons (tm_small (i := s) (by omega)) (TmA.cons (Tm.tup this) TmA.nil))).mono (by omega) (by omega)
theorem tm_labels {n : Nat} {ls : List Int} (hn : n ≤ 8) (h0 : ls.length = n) (h : ∀ l ∈ ls, 0 ≤ l ∧ l < (n : Int)) : Tm 52 1 (.tuple (ls.map PyData.int)) :=
  (Tm.tup (tma_ints (by omega) h)).mono (by omega) (by omega)
theorem tma_kinds {n k : Nat} {ks : List PyData} (hn : n ≤ 8) (hk : ks.length = k) (h6 : k ≤ 6) (h : ∀ x ∈ ks, IsK n x) : TmA 396 2 ks :=
  (tma_all fun x hx => tm_kind hn (h x hx)).mono (by omega) (by omega)
theorem tm_handler {l ks : PyData} (hl : Tm 52 1 l) (hk : Tm 400 3 ks) : Tm 460 4 (.tuple [l, ks]) :=
  (Tm.tup (TmA.cons hl (TmA.cons hk TmA.nil))).mono (by omega) (by omega)
end K02
set_option linter.all false
set_option Elab.async false
set_option maxHeartbeats 0
namespace K02
open PySem TW
theorem shp_strs {x y : Str} (hx : PyData.strOk x = true) (hy : PyData.strOk y = true) : shp (.list [.str x, .str y]) = true := by
  unfold shp SeqAt.shaped
  simp [PyData.canLay0, PyData.canLayAll0, PyData.depth, PyData.depthAll, hx, hy]
theorem shp_str {x : Str} (hx : PyData.strOk x = true) : shp (.str x) = true := by
  unfold shp SeqAt.shaped
  simp [PyData.canLay0, PyData.depth, hx]
theorem ne_str {x : Str} (hx : PyData.strOk x = true) : cmpD .ne (.str x) (.str x) = some (.bool false) := by
  rw [cmpD_ne, shp_str hx]
  simp [PyData.eqv]
theorem eq_str {x y : Str} (hx : PyData.strOk x = true) (hy : PyData.strOk y = true) : cmpD .eq (.str x) (.str y) = some (.bool (x == y)) := by
  rw [cmpD_eq, shp_str hx, shp_str hy]
  simp [PyData.eqv]
theorem ne_strs {x : Str} (hx : PyData.strOk x = true) : cmpD .ne (.list [.str x, .str x]) (.list [.str x, .str x]) = some (.bool false) := by
  rw [cmpD_ne, shp_strs hx hx]
  simp [PyData.eqv, PyData.eqvAll]
theorem rep_t {xs : List PyData} {k : Nat} (h0 : xs ≠ []) (h1 : 2 ≤ k) (h2 : k ≤ 1000) (h3 : xs.length ≤ 1000) : repD (.tuple xs) (.int (k : Int)) = some (.tuple (List.replicate k xs).flatten) := by
  simp only [repD]
  rw [if_neg (by simp [h0]; omega), if_pos ⟨by omega, by omega, h3⟩, Int.toNat_natCast]
end K02
set_option linter.all false
set_option Elab.async false
set_option maxHeartbeats 0
namespace K08
open PySem TW K02
end K08
set_option linter.all false
set_option Elab.async false
set_option maxHeartbeats 0
namespace K08
open PySem TW K02
end K08
set_option linter.all false
set_option Elab.async false
set_option maxHeartbeats 0
namespace K08
open PySem TW K02
end K08
set_option linter.all false
set_option Elab.async false
set_option maxHeartbeats 0
set_option maxRecDepth 10000
namespace K08
open PySem TW K02
theorem pair_short : ∀ {l : List Int} {lo hi : Int}, l.Pairwise (· < ·) → (∀ t ∈ l, lo ≤ t ∧ t < hi) → (l.length : Int) ≤ max 0 (hi - lo)
  | [], _, _, _, _ => by simp; omega
  | a :: r, lo, hi, h, hb => by
    obtain ⟨h1, h2⟩ := List.pairwise_cons.mp h
    have := pair_short (lo := a + 1) (hi := hi) h2 fun t ht => ⟨by have := h1 t ht; omega, (hb t (List.mem_cons_of_mem _ ht)).2⟩
    have := hb a (by simp)
    simp only [List.length_cons]
    omega
theorem sort_short {n : Nat} {ts : List Int} (h : ∀ t ∈ ts, 0 ≤ t ∧ t < (n : Int)) : (sortS ts).length ≤ n := by
  have := pair_short (lo := 0) (hi := n) sortS_lt fun t ht => h t (mem_sortS.mp ht)
  omega
theorem intsOf_map (ts : List Int) : intsOf (ts.map PyData.int) = some ts := by
  induction ts with
  | nil => rfl
  | cons a r ih => simp [intsOf, ih]
theorem set_lst {ts : List Int} (h1 : ts.length ≤ 4000) (h2 : (sortS ts).length < 64) : sortedSetD [.list (ts.map PyData.int)] = some (.list ((sortS ts).map PyData.int)) := by
  simp only [sortedSetD, intsOf_map, Option.bind_some]
  exact if_pos ⟨h1, h2⟩
end K08
set_option linter.all false
set_option Elab.async false
set_option maxHeartbeats 0
namespace K08
open PySem TW K02
def inRow (p : Nat) (d : PyData) : Prop := d = .none ∨ inR p d
def IsRow (k p : Nat) (d : PyData) : Prop := ∃ ds : List PyData, d = .tuple ds ∧ ds.length = k ∧ ∀ x ∈ ds, inRow p x
def IsP (k p : Nat) (d : PyData) : Prop := ∃ (es : List Int) (rows : List PyData), d = .tuple [.tuple (es.map PyData.int), .tuple rows] ∧ rows.length = p ∧ 1 ≤ es.length ∧ es.Pairwise (· < ·) ∧ (∀ e ∈ es, 0 ≤ e ∧ e < (p : Int)) ∧ ∀ r ∈ rows, IsRow k p r
theorem l1 : 0 + 1 ≤ lim := by decide
theorem rep_d {d : PyData} {k : Nat} (h1 : 1 ≤ k) (h2 : k ≤ 1000) : repD (.tuple [d]) (.int (k : Int)) = some (.tuple (List.replicate k d)) := by
  by_cases h : k = 1
  · subst h; rfl
  · rw [rep_t (by simp) (by omega) h2 (by simp), rep_one]
theorem free_isP {k : Nat} : IsP k 1 (.tuple [.tuple [.int 0], .tuple [.tuple (List.replicate k (.int 0))]]) :=
  ⟨[0], _, rfl, rfl, by simp, by simp, by simp, fun r hr => ⟨_, List.mem_singleton.mp hr, List.length_replicate, fun x hx => .inr ⟨0, List.eq_of_mem_replicate hx, by omega, by omega⟩⟩⟩
theorem r_law_plan (L : PyData) (ks : List PyData) (most : Nat) (b : Option Bx) (hb : Bg b) (h1 : 1 ≤ ks.length) (h2 : ks.length ≤ 100) (h3 : 1 ≤ most) (h4 : most ≤ 50) : Runs f_law_plan [.box, .dat (.tuple [L, .tuple ks]), .dat (.int most)] b fun d b' => (∃ p, IsP ks.length p d ∧ 1 ≤ p ∧ p ≤ most) ∧ Bg b' := by
  refine runs_of ?_
  unfold m_law_plan
  simp only [List.map_cons, List.map_nil, argSV, List.length_cons, List.length_nil, Nat.reduceAdd, Nat.reduceSub, List.replicate, List.cons_append, List.nil_append]
  simp only [eCmp, eBin, eOp, eUn, eFn, eIx, eSlc, eChn, tVal, tNot, tAnd, tOr, eIf, eAnd, eOr, eNot, eIs, aNil, aCons, aStar, itemsO, eTup, nLst, eNw, pNone, pSome, sSkip, sSeq, sAsg, sAsgN, sRet, sRetN, sIf, tgName, tgAll, tgTup, sTg, sPar, sFor, iSeqM, iRg1, iRg2, iEnM, ownL, sApp, tgSet, ePop, ePopA, eCall, peeks, takes, hands, boolD, pw_bind, qQ, wipeR, reduceIte, nOp, nList, isD, lenD, wW]
  refine q_callR (runs_draw (n := (most : Int)) (by omega) (by omega) hb) rfl ?_
  rintro _ b1 ⟨x, rfl, hx1, hx2, hb1⟩
  obtain ⟨p, hp⟩ : ∃ p : Nat, 1 + x = (p : Int) := ⟨(1 + x).toNat, by omega⟩
  have hbig : big62 (p : Int) = true := big62_of (by omega) (by omega)
  have hlim : p ≤ lim := Nat.le_trans (show p ≤ 100 by omega) (by decide)
  have hbigk : big62 (ks.length : Int) = true := big62_of (by omega) (by omega)
  have hlimk : ks.length ≤ lim := Nat.le_trans h2 (by decide)
  simp only [eCmp, eBin, eOp, eUn, eFn, eIx, eSlc, eChn, tVal, tNot, tAnd, tOr, eIf, eAnd, eOr, eNot, eIs, aNil, aCons, aStar, itemsO, eTup, nLst, eNw, pNone, pSome, sSkip, sSeq, sAsg, sAsgN, sRet, sRetN, sIf, tgName, tgAll, tgTup, sTg, sPar, sFor, iSeqM, iRg1, iRg2, iEnM, ownL, sApp, tgSet, ePop, ePopA, eCall, peeks, takes, hands, boolD, pw_bind, qQ, wipeR, reduceIte, nOp, nList, isD, lenD, wW, l2, tgAll, hp]
  refine q_callR (runs_draw (n := 5) (by omega) (by omega) hb1) rfl ?_
  rintro _ b2 ⟨y, rfl, hy1, hy2, hb2⟩
  by_cases hy : y = 0
  · simp only [eCmp, eBin, eOp, eUn, eFn, eIx, eSlc, eChn, tVal, tNot, tAnd, tOr, eIf, eAnd, eOr, eNot, eIs, aNil, aCons, aStar, itemsO, eTup, nLst, eNw, pNone, pSome, sSkip, sSeq, sAsg, sAsgN, sRet, sRetN, sIf, tgName, tgAll, tgTup, sTg, sPar, sFor, iSeqM, iRg1, iRg2, iEnM, ownL, sApp, tgSet, ePop, ePopA, eCall, peeks, takes, hands, boolD, pw_bind, qQ, wipeR, reduceIte, nOp, nList, isD, lenD, wW, hy, l1, l2, rep_d h1 (by omega)]
    exact ⟨⟨1, free_isP, by omega, by omega⟩, hb2⟩
  · simp only [eCmp, eBin, eOp, eUn, eFn, eIx, eSlc, eChn, tVal, tNot, tAnd, tOr, eIf, eAnd, eOr, eNot, eIs, aNil, aCons, aStar, itemsO, eTup, nLst, eNw, pNone, pSome, sSkip, sSeq, sAsg, sAsgN, sRet, sRetN, sIf, tgName, tgAll, tgTup, sTg, sPar, sFor, iSeqM, iRg1, iRg2, iEnM, ownL, sApp, tgSet, ePop, ePopA, eCall, peeks, takes, hands, boolD, pw_bind, qQ, wipeR, reduceIte, nOp, nList, isD, lenD, wW, hy]
    refine q_callR (runs_draw (n := (p : Int)) (by omega) (by omega) hb2) rfl ?_
    rintro _ b3 ⟨z, rfl, hz1, hz2, hb3⟩
    simp only [eCmp, eBin, eOp, eUn, eFn, eIx, eSlc, eChn, tVal, tNot, tAnd, tOr, eIf, eAnd, eOr, eNot, eIs, aNil, aCons, aStar, itemsO, eTup, nLst, eNw, pNone, pSome, sSkip, sSeq, sAsg, sAsgN, sRet, sRetN, sIf, tgName, tgAll, tgTup, sTg, sPar, sFor, iSeqM, iRg1, iRg2, iEnM, ownL, sApp, tgSet, ePop, ePopA, eCall, peeks, takes, hands, boolD, pw_bind, qQ, wipeR, reduceIte, nOp, nList, isD, lenD, wW]
    refine q_callR (runs_draw (n := (p : Int)) (by omega) (by omega) hb3) rfl ?_
    rintro _ b4 ⟨w, rfl, hw1, hw2, hb4⟩
    simp only [eCmp, eBin, eOp, eUn, eFn, eIx, eSlc, eChn, tVal, tNot, tAnd, tOr, eIf, eAnd, eOr, eNot, eIs, aNil, aCons, aStar, itemsO, eTup, nLst, eNw, pNone, pSome, sSkip, sSeq, sAsg, sAsgN, sRet, sRetN, sIf, tgName, tgAll, tgTup, sTg, sPar, sFor, iSeqM, iRg1, iRg2, iEnM, ownL, sApp, tgSet, ePop, ePopA, eCall, peeks, takes, hands, boolD, pw_bind, qQ, wipeR, reduceIte, nOp, nList, isD, lenD, wW, l3]
    refine q_cmpB [.box, .dat (.tuple [L, .tuple ks]), .dat (.int most), .dat (.list [.none, .int z, .int w]), .no, .no, .dat (.int ks.length), .dat (.int p), .no, .no] (IsRow ks.length p) ?_
    simp only [eCmp, eBin, eOp, eUn, eFn, eIx, eSlc, eChn, tVal, tNot, tAnd, tOr, eIf, eAnd, eOr, eNot, eIs, aNil, aCons, aStar, itemsO, eTup, nLst, eNw, pNone, pSome, sSkip, sSeq, sAsg, sAsgN, sRet, sRetN, sIf, tgName, tgAll, tgTup, sTg, sPar, sFor, iSeqM, iRg1, iRg2, iEnM, ownL, sApp, tgSet, ePop, ePopA, eCall, peeks, takes, hands, boolD, pw_bind, qQ, wipeR, reduceIte, nOp, nList, isD, lenD, wW, hbig, rgD_nat, rgN_len, hlim]
    refine ⟨hb4, fun d hd b5 hb5 => ?_, fun xs b5 r1 hr hb5 hlen hP => ?_⟩
    · refine q_cmpB [.box, .dat (.tuple [L, .tuple ks]), .dat (.int most), .dat (.list [.none, .int z, .int w]), .no, .no, .dat (.int ks.length), .dat (.int p), .dat d, .no] (inRow p) ?_
      simp only [eCmp, eBin, eOp, eUn, eFn, eIx, eSlc, eChn, tVal, tNot, tAnd, tOr, eIf, eAnd, eOr, eNot, eIs, aNil, aCons, aStar, itemsO, eTup, nLst, eNw, pNone, pSome, sSkip, sSeq, sAsg, sAsgN, sRet, sRetN, sIf, tgName, tgAll, tgTup, sTg, sPar, sFor, iSeqM, iRg1, iRg2, iEnM, ownL, sApp, tgSet, ePop, ePopA, eCall, peeks, takes, hands, boolD, pw_bind, qQ, wipeR, reduceIte, nOp, nList, isD, lenD, wW, hbigk, rgD_nat, rgN_len, hlimk]
      refine ⟨hb5, fun d2 hd2 b6 hb6 => ?_, fun xs b6 r1 hr hb6 hlen hP => ?_⟩
      · refine q_callR (runs_draw (n := (p : Int)) (by omega) (by omega) hb6) rfl ?_
        rintro _ b7 ⟨u, rfl, hu1, hu2, hb7⟩
        have e3 : binD .add (.list [.none, .int z, .int w]) (.list [.int u]) = some (.list [.none, .int z, .int w, .int u]) := add_lst (show 3 + 1 ≤ lim by decide)
        simp only [eCmp, eBin, eOp, eUn, eFn, eIx, eSlc, eChn, tVal, tNot, tAnd, tOr, eIf, eAnd, eOr, eNot, eIs, aNil, aCons, aStar, itemsO, eTup, nLst, eNw, pNone, pSome, sSkip, sSeq, sAsg, sAsgN, sRet, sRetN, sIf, tgName, tgAll, tgTup, sTg, sPar, sFor, iSeqM, iRg1, iRg2, iEnM, ownL, sApp, tgSet, ePop, ePopA, eCall, peeks, takes, hands, boolD, pw_bind, qQ, wipeR, reduceIte, nOp, nList, isD, lenD, wW, l1, e3]
        refine q_callR (r_law_one _ _ hb7 (by simp) (by simp)) rfl ?_
        rintro v b8 ⟨hv, hb8⟩
        simp only [eCmp, eBin, eOp, eUn, eFn, eIx, eSlc, eChn, tVal, tNot, tAnd, tOr, eIf, eAnd, eOr, eNot, eIs, aNil, aCons, aStar, itemsO, eTup, nLst, eNw, pNone, pSome, sSkip, sSeq, sAsg, sAsgN, sRet, sRetN, sIf, tgName, tgAll, tgTup, sTg, sPar, sFor, iSeqM, iRg1, iRg2, iEnM, ownL, sApp, tgSet, ePop, ePopA, eCall, peeks, takes, hands, boolD, pw_bind, qQ, wipeR, reduceIte, nOp, nList, isD, lenD, wW]
        refine ⟨?_, hb8⟩
        simp at hv
        rcases hv with rfl | rfl | rfl | rfl
        · exact .inl rfl
        · exact .inr ⟨_, rfl, hz1, hz2⟩
        · exact .inr ⟨_, rfl, hw1, hw2⟩
        · exact .inr ⟨_, rfl, hu1, hu2⟩
      · rw [back_no rfl hr]
        simp only [eCmp, eBin, eOp, eUn, eFn, eIx, eSlc, eChn, tVal, tNot, tAnd, tOr, eIf, eAnd, eOr, eNot, eIs, aNil, aCons, aStar, itemsO, eTup, nLst, eNw, pNone, pSome, sSkip, sSeq, sAsg, sAsgN, sRet, sRetN, sIf, tgName, tgAll, tgTup, sTg, sPar, sFor, iSeqM, iRg1, iRg2, iEnM, ownL, sApp, tgSet, ePop, ePopA, eCall, peeks, takes, hands, boolD, pw_bind, qQ, wipeR, reduceIte, nOp, nList, isD, lenD, wW, tupleD]
        exact ⟨⟨xs, rfl, hlen, hP⟩, hb6⟩
    · rw [back_no rfl hr]
      simp only [eCmp, eBin, eOp, eUn, eFn, eIx, eSlc, eChn, tVal, tNot, tAnd, tOr, eIf, eAnd, eOr, eNot, eIs, aNil, aCons, aStar, itemsO, eTup, nLst, eNw, pNone, pSome, sSkip, sSeq, sAsg, sAsgN, sRet, sRetN, sIf, tgName, tgAll, tgTup, sTg, sPar, sFor, iSeqM, iRg1, iRg2, iEnM, ownL, sApp, tgSet, ePop, ePopA, eCall, peeks, takes, hands, boolD, pw_bind, qQ, wipeR, reduceIte, nOp, nList, isD, lenD, wW]
      refine q_cmpB [.box, .dat (.tuple [L, .tuple ks]), .dat (.int most), .dat (.list [.none, .int z, .int w]), .dat (.list xs), .no, .dat (.int ks.length), .dat (.int p), .no, .no] (inR p) ?_
      simp only [eCmp, eBin, eOp, eUn, eFn, eIx, eSlc, eChn, tVal, tNot, tAnd, tOr, eIf, eAnd, eOr, eNot, eIs, aNil, aCons, aStar, itemsO, eTup, nLst, eNw, pNone, pSome, sSkip, sSeq, sAsg, sAsgN, sRet, sRetN, sIf, tgName, tgAll, tgTup, sTg, sPar, sFor, iSeqM, iRg1, iRg2, iEnM, ownL, sApp, tgSet, ePop, ePopA, eCall, peeks, takes, hands, boolD, pw_bind, qQ, wipeR, reduceIte, nOp, nList, isD, lenD, wW]
      refine q_callR (runs_draw (n := (p : Int)) (by omega) (by omega) hb5) rfl ?_
      rintro _ b6 ⟨u, rfl, hu1, hu2, hb6⟩
      obtain ⟨m, hm⟩ : ∃ m : Nat, 1 + u = (m : Int) := ⟨(1 + u).toNat, by omega⟩
      have hbigm : big62 (m : Int) = true := big62_of (by omega) (by omega)
      have hlimm : m ≤ lim := Nat.le_trans (show m ≤ 100 by omega) (by decide)
      simp only [eCmp, eBin, eOp, eUn, eFn, eIx, eSlc, eChn, tVal, tNot, tAnd, tOr, eIf, eAnd, eOr, eNot, eIs, aNil, aCons, aStar, itemsO, eTup, nLst, eNw, pNone, pSome, sSkip, sSeq, sAsg, sAsgN, sRet, sRetN, sIf, tgName, tgAll, tgTup, sTg, sPar, sFor, iSeqM, iRg1, iRg2, iEnM, ownL, sApp, tgSet, ePop, ePopA, eCall, peeks, takes, hands, boolD, pw_bind, qQ, wipeR, reduceIte, nOp, nList, isD, lenD, wW, hm, hbigm, rgD_nat, rgN_len, hlimm]
      refine ⟨hb6, fun d hd b7 hb7 => ?_, fun es b7 r1 hr hb7 hle hE => ?_⟩
      · refine q_callR (runs_draw (n := (p : Int)) (by omega) (by omega) hb7) rfl ?_
        rintro _ b8 ⟨u2, rfl, hu3, hu4, hb8⟩
        simp only [eCmp, eBin, eOp, eUn, eFn, eIx, eSlc, eChn, tVal, tNot, tAnd, tOr, eIf, eAnd, eOr, eNot, eIs, aNil, aCons, aStar, itemsO, eTup, nLst, eNw, pNone, pSome, sSkip, sSeq, sAsg, sAsgN, sRet, sRetN, sIf, tgName, tgAll, tgTup, sTg, sPar, sFor, iSeqM, iRg1, iRg2, iEnM, ownL, sApp, tgSet, ePop, ePopA, eCall, peeks, takes, hands, boolD, pw_bind, qQ, wipeR, reduceIte, nOp, nList, isD, lenD, wW]
        exact ⟨⟨u2, rfl, hu3, hu4⟩, hb8⟩
      · rw [back_no rfl hr]
        obtain ⟨ts, rfl, hts⟩ := ints_of hE
        rw [List.length_map] at hle
        have hsl := sort_short hts
        have hne : 1 ≤ (sortS ts).length := by
          have ht : 0 < ts.length := by omega
          have := mem_sortS.mpr (List.getElem_mem ht)
          cases hq : sortS ts with
          | nil => rw [hq] at this; cases this
          | cons a r => simp
        simp only [eCmp, eBin, eOp, eUn, eFn, eIx, eSlc, eChn, tVal, tNot, tAnd, tOr, eIf, eAnd, eOr, eNot, eIs, aNil, aCons, aStar, itemsO, eTup, nLst, eNw, pNone, pSome, sSkip, sSeq, sAsg, sAsgN, sRet, sRetN, sIf, tgName, tgAll, tgTup, sTg, sPar, sFor, iSeqM, iRg1, iRg2, iEnM, ownL, sApp, tgSet, ePop, ePopA, eCall, peeks, takes, hands, boolD, pw_bind, qQ, wipeR, reduceIte, nOp, nList, isD, lenD, wW, set_lst (ts := ts) (by omega) (by omega), tupleD, l2]
        exact ⟨⟨p, ⟨sortS ts, xs, rfl, hlen, hne, sortS_lt, fun e he => hts e (mem_sortS.mp he), hP⟩, by omega, by omega⟩, hb7⟩
end K08
set_option linter.all false
set_option Elab.async false
set_option maxHeartbeats 0
set_option maxRecDepth 10000
namespace K09
open PySem TW K02 K08
def eD (n : Nat) : PyData := .int (n : Nat)
structure PlanOk (k : Nat) (es : List Nat) (rs : List (List (Option Nat))) : Prop where
  r : ∀ r ∈ rs, r.length = k
  g : ∀ r ∈ rs, ∀ x ∈ r, ∀ j, x = some j → j < rs.length
  e : ∀ e ∈ es, e < rs.length
  p1 : 1 ≤ rs.length
  p6 : rs.length ≤ 6
  k1 : 1 ≤ k
  k6 : k ≤ 6
def goal (rs : List (List (Option Nat))) (a i : Nat) : Option Nat := (rs.getD a []).getD i none
def goalO (rs : List (List (Option Nat))) (o : Option Nat) (i : Nat) : Option Nat := match o with
  | some a => goal rs a i
  | none => none
def led (rs : List (List (Option Nat))) (log : List Nat) : Option Nat := log.foldl (goalO rs) (some 0)
def okO (rs : List (List (Option Nat))) (o : Option Nat) : Prop := ∀ j, o = some j → j < rs.length
theorem goal_get {k : Nat} {es : List Nat} {rs : List (List (Option Nat))} (P : PlanOk k es rs) {a i : Nat} (ha : a < rs.length) (hi : i < k) : ∃ r, rs[a]? = some r ∧ r[i]? = some (goal rs a i) ∧ okO rs (goal rs a i) := by
  have hr : rs[a] ∈ rs := List.getElem_mem ha
  have hl := P.r _ hr
  have hil : i < (rs[a]).length := by omega
  have e : goal rs a i = (rs[a])[i] := by
    have e1 : rs.getD a [] = rs[a] := by rw [List.getD_eq_getElem?_getD, List.getElem?_eq_getElem ha]; rfl
    unfold goal
    rw [e1, List.getD_eq_getElem?_getD, List.getElem?_eq_getElem hil]
    rfl
  refine ⟨rs[a], List.getElem?_eq_getElem ha, by rw [List.getElem?_eq_getElem hil, e], fun j hj => ?_⟩
  rw [e] at hj
  exact P.g _ hr _ (List.getElem_mem hil) j hj
end K09
set_option linter.all false
set_option Elab.async false
set_option maxHeartbeats 0
set_option maxRecDepth 10000
namespace K09
open PySem TW K02 K08
end K09
set_option linter.all false
set_option Elab.async false
set_option maxHeartbeats 0
set_option maxRecDepth 10000
namespace K09
open PySem TW K02 K08
abbrev KnL := List (Nat × List Nat)
def addK (rs : List (List (Option Nat))) (p : Nat) (l : List Nat) (st : KnL × KnL) (i : Nat) : KnL × KnL := match goal rs p i with
  | none => st
  | some g => if (st.1.find? fun q => q.1 == g).isSome then st else (st.1 ++ [(g, l ++ [i])], st.2 ++ [(g, l ++ [i])])
structure Good (rs : List (List (Option Nat))) (k : Nat) (kn : KnL) : Prop where
  nd : (kn.map (·.1)).Nodup
  r : ∀ p ∈ kn, p.1 < rs.length ∧ led rs p.2 = some p.1 ∧ (∀ i ∈ p.2, i < k) ∧ p.2.length < kn.length
theorem Good.len {rs : List (List (Option Nat))} {k : Nat} {kn : KnL} (G : Good rs k kn) : kn.length ≤ rs.length := by
  have h := G.nd
  have : ∀ {l : List Nat} {n : Nat}, l.Nodup → (∀ x ∈ l, x < n) → l.length ≤ n := by
    intro l n hn hb
    have hs : (l.map fun (x : Nat) => ((x : Nat) : Int)).Nodup := by
      rw [List.Nodup, List.pairwise_map]
      exact hn.imp fun hne => by omega
    have h1 := length_sortS hs fun k => Iff.rfl
    have h2 := sort_short (n := n) (ts := l.map fun (x : Nat) => ((x : Nat) : Int)) fun t ht => by
      obtain ⟨x, hx, rfl⟩ := List.mem_map.mp ht
      have := hb x hx
      omega
    rw [List.length_map] at h1
    omega
  have := this h (n := rs.length) fun x hx => by
    obtain ⟨p, hp, rfl⟩ := List.mem_map.mp hx
    exact (G.r p hp).1
  rwa [List.length_map] at this
theorem led_snoc {rs : List (List (Option Nat))} {l : List Nat} {i p : Nat} (h : led rs l = some p) : led rs (l ++ [i]) = goal rs p i := by
  unfold led at h ⊢
  rw [List.foldl_append, h]
  rfl
theorem addK_good {k : Nat} {es : List Nat} {rs : List (List (Option Nat))} (P : PlanOk k es rs) {p i : Nat} {l : List Nat} {kn lt : KnL} (G : Good rs k kn) (hm : (p, l) ∈ kn) (hi : i < k) (hs : ∀ q ∈ lt, q ∈ kn) (kn0 : KnL) (h0 : kn.length = kn0.length + lt.length) :
    Good rs k (addK rs p l (kn, lt) i).1 ∧ (p, l) ∈ (addK rs p l (kn, lt) i).1 ∧ (∀ q ∈ kn, q ∈ (addK rs p l (kn, lt) i).1) ∧ (∀ q ∈ (addK rs p l (kn, lt) i).2, q ∈ (addK rs p l (kn, lt) i).1) ∧ (addK rs p l (kn, lt) i).1.length = kn0.length + (addK rs p l (kn, lt) i).2.length := by
  unfold addK
  obtain ⟨hp1, hp2, hp3, hp4⟩ := G.r _ hm
  obtain ⟨r, _, _, hok⟩ := goal_get P hp1 hi
  cases hg : goal rs p i with
  | none => exact ⟨G, hm, fun q h => h, hs, h0⟩
  | some g =>
    dsimp only
    split
    · exact ⟨G, hm, fun q h => h, hs, h0⟩
    · rename_i hf
      have hf : (kn.find? fun q => q.1 == g) = none := by
        cases h : (kn.find? fun q => q.1 == g) with
        | none => rfl
        | some x => rw [h] at hf; simp at hf
      rw [List.find?_eq_none] at hf
      refine ⟨⟨?_, fun q hq => ?_⟩, List.mem_append_left _ hm, fun q h => List.mem_append_left _ h, fun q hq => ?_, by simp; omega⟩
      · rw [List.map_append, List.nodup_append]
        refine ⟨G.nd, by simp, fun a ha c hc => ?_⟩
        obtain ⟨x, hx, rfl⟩ := List.mem_map.mp ha
        simp at hc
        subst hc
        have := hf x hx
        simpa using this
      · rcases List.mem_append.mp hq with h | h
        · obtain ⟨h1, h2, h3, h4⟩ := G.r q h
          exact ⟨h1, h2, h3, by simp; omega⟩
        · rw [List.mem_singleton.mp h]
          refine ⟨hok g hg, by rw [led_snoc hp2, hg], fun j hj => ?_, by simp; omega⟩
          rcases List.mem_append.mp hj with h' | h'
          · exact hp3 j h'
          · rw [List.mem_singleton.mp h']; exact hi
      · rcases List.mem_append.mp hq with h | h
        · exact List.mem_append_left _ (hs q h)
        · exact List.mem_append_right _ h
end K09
set_option linter.all false
set_option Elab.async false
set_option maxHeartbeats 0
set_option maxRecDepth 10000
namespace K09
open PySem TW K02 K08
structure St (rs : List (List (Option Nat))) (k : Nat) (kn0 : KnL) (st : KnL × KnL) : Prop where
  g : Good rs k st.1
  s : ∀ q ∈ st.2, q ∈ st.1
  l : st.1.length = kn0.length + st.2.length
theorem St.add {k : Nat} {es : List Nat} {rs : List (List (Option Nat))} (P : PlanOk k es rs) {p i : Nat} {l : List Nat} {st : KnL × KnL} {kn0 : KnL} (S : St rs k kn0 st) (hm : (p, l) ∈ st.1) (hi : i < k) : St rs k kn0 (addK rs p l st i) ∧ (∀ q ∈ st.1, q ∈ (addK rs p l st i).1) := by
  obtain ⟨h1, h2, h3, h4, h5⟩ := addK_good P S.g hm hi S.s kn0 S.l
  exact ⟨⟨h1, h4, h5⟩, h3⟩
end K09
set_option linter.all false
set_option Elab.async false
set_option maxHeartbeats 0
set_option maxRecDepth 10000
namespace K04
open PySem TW K02 K08 K09
abbrev Kd := Int × List Nat
def kD (k : Kd) : PyData := .tuple [.int k.1, .tuple (k.2.map eD)]
def hD (L : PyData) (ks : List Kd) : PyData := .tuple [L, .tuple (ks.map kD)]
structure HOk (n : Nat) (ks : List Kd) : Prop where
  l : ∀ k ∈ ks, k.2.length = n
  t : ∀ k ∈ ks, ∀ x ∈ k.2, x < n
  n1 : 1 ≤ n
  n8 : n ≤ 8
  k1 : 0 ≤ ks.length
  k6 : ks.length ≤ 6
def stp (ks : List Kd) (a i : Nat) : Nat := ((ks.getD i (0, [])).2).getD a 0
theorem stp_get {n : Nat} {ks : List Kd} (P : HOk n ks) {a i : Nat} (ha : a < n) (hi : i < ks.length) : ∃ k, ks[i]? = some k ∧ k.2[a]? = some (stp ks a i) ∧ stp ks a i < n := by
  have hk : ks[i] ∈ ks := List.getElem_mem hi
  have hl := P.l _ hk
  have hal : a < (ks[i]).2.length := by omega
  have e1 : ks.getD i (0, []) = ks[i] := by rw [List.getD_eq_getElem?_getD, List.getElem?_eq_getElem hi]; rfl
  have e : stp ks a i = (ks[i]).2[a] := by
    unfold stp
    rw [e1, List.getD_eq_getElem?_getD, List.getElem?_eq_getElem hal]
    rfl
  exact ⟨ks[i], List.getElem?_eq_getElem hi, by rw [List.getElem?_eq_getElem hal, e], by rw [e]; exact P.t _ hk _ (List.getElem_mem hal)⟩
def ledS (ks : List Kd) (log : List Nat) : Nat := log.foldl (stp ks) 0
theorem led_snocS {ks : List Kd} {l : List Nat} {i p : Nat} (h : ledS ks l = p) : ledS ks (l ++ [i]) = stp ks p i := by
  unfold ledS at h ⊢
  rw [List.foldl_append, h]
  rfl
def addS (ks : List Kd) (p : Nat) (l : List Nat) (st : KnL × KnL) (i : Nat) : KnL × KnL :=
  if (st.1.find? fun q => q.1 == stp ks p i).isSome then st else (st.1 ++ [(stp ks p i, l ++ [i])], st.2 ++ [(stp ks p i, l ++ [i])])
structure GoodS (n : Nat) (ks : List Kd) (kn : KnL) : Prop where
  nd : (kn.map (·.1)).Nodup
  r : ∀ p ∈ kn, p.1 < n ∧ ledS ks p.2 = p.1 ∧ (∀ i ∈ p.2, i < ks.length) ∧ p.2.length < kn.length
theorem nodup_lt {n : Nat} {l : List Nat} (hn : l.Nodup) (hb : ∀ x ∈ l, x < n) : l.length ≤ n := by
  have hs : (l.map fun (x : Nat) => ((x : Nat) : Int)).Nodup := by
    rw [List.Nodup, List.pairwise_map]
    exact hn.imp fun hne => by omega
  have h1 := length_sortS hs fun k => Iff.rfl
  have h2 := sort_short (n := n) (ts := l.map fun (x : Nat) => ((x : Nat) : Int)) fun t ht => by
    obtain ⟨x, hx, rfl⟩ := List.mem_map.mp ht
    have := hb x hx
    omega
  rw [List.length_map] at h1
  omega
theorem GoodS.len {n : Nat} {ks : List Kd} {kn : KnL} (G : GoodS n ks kn) : kn.length ≤ n := by
  have := nodup_lt G.nd (n := n) fun x hx => by
    obtain ⟨p, hp, rfl⟩ := List.mem_map.mp hx
    exact (G.r p hp).1
  rwa [List.length_map] at this
structure StS (n : Nat) (ks : List Kd) (kn0 : KnL) (st : KnL × KnL) : Prop where
  g : GoodS n ks st.1
  s : ∀ q ∈ st.2, q ∈ st.1
  l : st.1.length = kn0.length + st.2.length
theorem StS.add {n : Nat} {ks : List Kd} (P : HOk n ks) {p i : Nat} {l : List Nat} {st : KnL × KnL} {kn0 : KnL} (S : StS n ks kn0 st) (hm : (p, l) ∈ st.1) (hi : i < ks.length) : StS n ks kn0 (addS ks p l st i) ∧ (∀ q ∈ st.1, q ∈ (addS ks p l st i).1) := by
  obtain ⟨G, hs, h0⟩ := S
  obtain ⟨kn, lt⟩ := st
  obtain ⟨hp1, hp2, hp3, hp4⟩ := G.r _ hm
  obtain ⟨r, _, _, hok⟩ := stp_get P hp1 hi
  unfold addS
  dsimp only at *
  generalize hg : stp ks p i = g at hok
  split
  · exact ⟨⟨G, hs, h0⟩, fun q h => h⟩
  · rename_i hf
    have hf : (kn.find? fun q => q.1 == g) = none := by
      cases h : (kn.find? fun q => q.1 == g) with
      | none => rfl
      | some x => rw [h] at hf; simp at hf
    rw [List.find?_eq_none] at hf
    refine ⟨⟨⟨?_, fun q hq => ?_⟩, fun q hq => ?_, by simp; omega⟩, fun q h => List.mem_append_left _ h⟩
    · rw [List.map_append, List.nodup_append]
      refine ⟨G.nd, by simp, fun a ha c hc => ?_⟩
      obtain ⟨x, hx, rfl⟩ := List.mem_map.mp ha
      simp at hc
      subst hc
      have := hf x hx
      simpa using this
    · rcases List.mem_append.mp hq with h | h
      · obtain ⟨h1, h2, h3, h4⟩ := G.r q h
        exact ⟨h1, h2, h3, by simp; omega⟩
      · rw [List.mem_singleton.mp h]
        refine ⟨hok, by rw [led_snocS hp2, hg], fun j hj => ?_, by simp; omega⟩
        rcases List.mem_append.mp hj with h' | h'
        · exact hp3 j h'
        · rw [List.mem_singleton.mp h']; exact hi
    · rcases List.mem_append.mp hq with h | h
      · exact List.mem_append_left _ (hs q h)
      · exact List.mem_append_right _ h
end K04
set_option linter.all false
set_option Elab.async false
set_option maxHeartbeats 0
set_option maxRecDepth 10000
namespace K04
open PySem TW K02 K08 K09
end K04
set_option linter.all false
set_option Elab.async false
set_option maxHeartbeats 0
set_option maxRecDepth 10000
namespace K04
open PySem TW K02 K08 K09
end K04
set_option linter.all false
set_option Elab.async false
set_option maxHeartbeats 0
set_option maxRecDepth 10000
namespace K08
open PySem TW K02
end K08
set_option linter.all false
set_option Elab.async false
set_option maxHeartbeats 0
namespace K08
open PySem TW K02
end K08
set_option linter.all false
set_option Elab.async false
set_option maxHeartbeats 0
set_option maxRecDepth 10000
namespace K04
open PySem TW K02 K08 K09
end K04
set_option linter.all false
set_option Elab.async false
set_option maxHeartbeats 0
set_option maxRecDepth 10000
namespace K17
open PySem TW K02 K08 K09 K04
section
variable {α : Type} [DecidableEq α]
def uniq : List α → List α → List α
  | kn, [] => kn
  | kn, a :: r => uniq (if a ∈ kn then kn else kn ++ [a]) r
def ordr (ms : List α) : List Nat := ms.map fun m => (uniq [] ms).idxOf m
end
section
variable {α : Type} [DecidableEq α] {q : α → PyData}
end
end K17
set_option linter.all false
set_option Elab.async false
set_option maxHeartbeats 0
set_option maxRecDepth 10000
namespace K17
open PySem TW K02 K08 K09 K04
def rowsC (ks : List Kd) (n : Nat) (c : List Nat) : List (List Nat) := (List.range n).map fun s => c.getD s 0 :: ks.map fun k => c.getD (k.2.getD s 0) 0
def cl (ls : List Int) (ks : List Kd) : Nat → List Nat
  | 0 => ordr ls
  | k + 1 => ordr (rowsC ks ls.length (cl ls ks k))
abbrev Ek (ls : List Int) (ks : List Kd) (k s t : Nat) : Prop := (cl ls ks k).getD s 0 = (cl ls ks k).getD t 0
variable {ls : List Int} {ks : List Kd}
def cls (ls : List Int) (ks : List Kd) : List Nat := cl ls ks ls.length
abbrev Al (ls : List Int) (ks : List Kd) (s t : Nat) : Prop := (cls ls ks).getD s 0 = (cls ls ks).getD t 0
end K17
set_option linter.all false
set_option Elab.async false
set_option maxHeartbeats 0
set_option maxRecDepth 10000
namespace K17
open PySem TW K02 K08 K09 K04
variable {ls : List Int} {ks : List Kd}
end K17
set_option linter.all false
set_option Elab.async false
set_option maxHeartbeats 0
set_option maxRecDepth 10000
namespace K17
open PySem TW K02 K08 K09 K04
variable {ls : List Int} {ks : List Kd}
def hm (ls : List Int) (ks : List Kd) (i a : Nat) : Bool := !decide (Al ls ks (stp ks a i) a)
end K17
set_option linter.all false
set_option Elab.async false
set_option maxHeartbeats 0
set_option maxRecDepth 10000
namespace K17
open PySem TW K02 K08 K09 K04
variable {ls : List Int} {ks : List Kd}
abbrev Pr := Nat × Nat
def upd1 (T : Pr → Bool) (p : Pr) : Pr → Bool := fun q => q == p || T q
def T0 (ls : List Int) : Pr → Bool := fun p => !decide (ls.getD p.1 0 = ls.getD p.2 0)
def prs (n : Nat) : List Pr := (List.range' 0 n).flatMap fun s => (List.range' 0 n).map fun t => (s, t)
def anyT (ks : List Kd) (T : Pr → Bool) (p : Pr) : Bool := ks.any fun k => T (k.2.getD p.1 0, k.2.getD p.2 0)
def memP (n : Nat) (p : Pr) : Prop := p.1 < n ∧ p.2 < n
end K17
set_option linter.all false
set_option Elab.async false
set_option maxHeartbeats 0
set_option maxRecDepth 10000
namespace K17
open PySem TW K02 K08 K09 K04
variable {ls : List Int} {ks : List Kd}
def Snd (ls : List Int) (ks : List Kd) (T : Pr → Bool) : Prop := ∀ p, memP ls.length p → T p = true → ¬ Al ls ks p.1 p.2
def Cmp (ls : List Int) (ks : List Kd) (k : Nat) (T : Pr → Bool) : Prop := ∀ p, memP ls.length p → ¬ Ek ls ks k p.1 p.2 → T p = true
end K17
set_option linter.all false
set_option Elab.async false
set_option maxRecDepth 100000
namespace TW
open PySem PySem.Spec PyProof.Rows L2 K02 K04 K17 K08 K09
def rowV (n : Nat) (T : Pr → Bool) (i : Nat) : List V := (List.range n).map fun j => .bl (T (i, j))
structure TbA (H0 : Hp) (D : Addr) (as : List Addr) (n : Nat) (T : Pr → Bool) (H : Hp) : Prop where
  ext : ∀ a, H0 a ≠ none → H a = H0 a
  D0 : H0 D = none
  hD : H D = some (.lst (as.map V.ref))
  row : ∀ i (h : i < as.length), H as[i] = some (.lst (rowV n T i))
  fr : ∀ a ∈ as, H0 a = none
  nd : as.Nodup
  nD : D ∉ as
section
variable {H0 H : Hp} {D : Addr} {as : List Addr} {n : Nat} {T : Pr → Bool} {K : PySem.W.Frag}
theorem TbA.fresh (t : TbA H0 D as n T H) {p : Addr} {u : HO} (hp : H p = none) : TbA H0 D as n T (upd H p u) := by
  have h1 : D ≠ p := fun e => by have := t.hD; rw [e, hp] at this; cases this
  refine ⟨fun a h => ?_, t.D0, by rw [upd_ne h1]; exact t.hD, fun i h => ?_, t.fr, t.nd, t.nD⟩
  · have : a ≠ p := fun e => by
      have h2 := t.ext a h
      rw [e, hp] at h2
      exact h (by rw [e]; exact h2.symm)
    rw [upd_ne this]
    exact t.ext a h
  · have := t.row i h
    rw [upd_ne fun e => by rw [e, hp] at this; cases this]
    exact this
theorem rowV_set {i j : Nat} : (rowV n T i).set j (.bl true) = rowV n (upd1 T (i, j)) i := by
  unfold rowV
  apply List.ext_getElem?
  intro k
  rw [List.getElem?_set]
  by_cases hk : k < n
  · rw [List.getElem?_map, List.getElem?_map, List.getElem?_range hk]
    by_cases e : j = k
    · subst e
      rw [if_pos rfl, if_pos (by simpa using hk)]
      simp [upd1]
    · rw [if_neg e]
      have : ((i, k) == (i, j)) = false := by
        rw [beq_eq_false_iff_ne]
        intro h
        cases h
        exact e rfl
      simp only [Option.map_some, upd1, this, Bool.false_or]
  · rw [List.getElem?_eq_none (by simp; omega), List.getElem?_eq_none (by simp; omega)]
    split
    · rename_i e
      rw [if_neg (by simp; omega)]
    · rfl
theorem rowV_ne {i k : Nat} {p : Pr} (h : p.1 ≠ k) : rowV n (upd1 T p) k = rowV n T k := by
  unfold rowV
  apply List.map_congr_left
  intro j _
  have : ((k, j) == p) = false := by
    rw [beq_eq_false_iff_ne]
    intro e
    subst e
    exact h rfl
  simp only [upd1, this, Bool.false_or]
theorem TbA.set (t : TbA H0 D as n T H) {i j : Nat} (hi : i < as.length) : TbA H0 D as n (upd1 T (i, j)) (upd H as[i] (.lst ((rowV n T i).set j (.bl true)))) := by
  have hm : as[i] ∈ as := List.getElem_mem hi
  have h1 : D ≠ as[i] := fun e => t.nD (by rw [e]; exact hm)
  refine ⟨fun a h => ?_, t.D0, by rw [upd_ne h1]; exact t.hD, fun k hk => ?_, t.fr, t.nd, t.nD⟩
  · rw [upd_ne fun e => h (by rw [e]; exact t.fr _ hm)]
    exact t.ext a h
  · by_cases e : k = i
    · subst e
      rw [upd_same, rowV_set]
    · have : as[k] ≠ as[i] := fun z => e ((List.getElem_inj t.nd).mp z)
      rw [upd_ne this, t.row k hk, rowV_ne (i := i) (p := (i, j)) fun z => e z.symm]
end
section
variable {F : Addr → Prop} {ls : List Int} {ks : List Kd} {H0 H : Hp} {D : Addr} {as : List Addr} {n : Nat} {T : Pr → Bool} {K : PySem.W.Frag} {vh vl vk : V}
end
def cntF (n : Nat) (T : Pr → Bool) : Nat := ((prs n).filter fun p => !T p).length
structure Lp (ls : List Int) (ks : List Kd) (T0 : Pr → Bool) (c : Bool) (T : Pr → Bool) (i j : Nat) : Prop where
  snd : Snd ls ks T
  cmp : Cmp ls ks 0 T
  yes : c = true → cntF ls.length T < cntF ls.length T0
  no : c = false → T = T0 ∧ ∀ p, memP ls.length p → (p.1 < i ∨ (p.1 = i ∧ p.2 < j)) → anyT ks T p = true → T p = true
section
variable {ls : List Int} {ks : List Kd} {T0 T : Pr → Bool} {c : Bool} {i j : Nat}
theorem Lp.row (h : Lp ls ks T0 c T i ls.length) : Lp ls ks T0 c T (i + 1) 0 :=
  ⟨h.snd, h.cmp, h.yes, fun hc => ⟨(h.no hc).1, fun p hp hb ha => (h.no hc).2 p hp (by
    rcases hb with hb | hb
    · by_cases e : p.1 = i
      · exact .inr ⟨e, hp.2⟩
      · exact .inl (by omega)
    · exact absurd hb.2 (by omega)) ha⟩⟩
end
section
variable {F : Addr → Prop} {ls : List Int} {ks : List Kd} {H0 H : Hp} {D : Addr} {as : List Addr} {T : Pr → Bool} {K : PySem.W.Frag} {vh vl vk : V}
end
section
variable {F : Addr → Prop} {ls : List Int} {ks : List Kd} {H0 H : Hp} {K : PySem.W.Frag} {vh vl vk : V}
end
end TW
set_option linter.all false
set_option Elab.async false
set_option maxRecDepth 100000
namespace TW
open PySem PySem.Spec PyProof.Rows L2
def SameL {α β : Type} : List α → List β → Prop
  | [], [] => True
  | _ :: l, _ :: r => SameL l r
  | _, _ => False
theorem SameL.length {α β : Type} : ∀ {l : List α} {r : List β}, SameL l r → r.length = l.length
  | [], [], _ => rfl
  | _ :: l, _ :: r, h => congrArg (· + 1) (SameL.length (l := l) (r := r) h)
  | [], _ :: _, h => h.elim
  | _ :: _, [], h => h.elim
section
variable {X : Cx} {W : Wish} {k : Nat}
end
end TW
set_option linter.all false
set_option Elab.async false
namespace TW
open PySem PySem.Spec PyProof.Rows L2
section
variable {P : Addr → Prop} {G G' : Gh} {σ : L2.St} {H H' : Hp} {s s' : Sx} {v : V} {o : Opd} {W : Wish} {X : Cx} {k : Nat} {tg : Expr} {vs : List Nat}
end
section
variable {X : Cx} {W : Wish} {k : Nat} {elt tg : Expr} {ifs : List Expr} {scope : Scope} {pos : Pos} {t : PyData → M Unit} {c : M Bool} {e : M Opd}
end
end TW
set_option linter.all false
set_option Elab.async false
set_option maxRecDepth 100000
namespace SrtT
open PySem PySem.W PySem.Calls PyProof.Rows Builtin SrtO
def IsTI (h : Heap) (v : Value) (ns : List Int) : Prop :=
  ∃ (a : Addr) (dd : Option Addr) (items : Array Value) (n : Nat) (sl : Array (Option Value)), v = .ref a ∧ h.get? a = some { cls := .type "tuple", dict := dd, data := .seq items n, slots := sl } ∧ IntsAre items.toList ns
theorem IsTI.keeps {h h' : Heap} {v : Value} {ns : List Int} (x : IsTI h v ns) (k : ∀ b o, v = .ref b → h.get? b = some o → h'.get? b = some o) : IsTI h' v ns := by
  obtain ⟨a, dd, items, n, sl, e, g, i⟩ := x
  exact ⟨a, dd, items, n, sl, e, k _ _ e g, i⟩
theorem IsTI.type {M : Model} {h : Heap} {v : Value} {ns : List Int} (x : IsTI h v ns) : Looks M h (typeOf v) (.type "tuple") := by
  obtain ⟨a, dd, items, n, sl, rfl, g, i⟩ := x
  exact (Looks.ld g).andThen .now
section
variable {prog : Program} {w : World} {A : Around} {E : Value → Shared → Prop} {s : Shared}
end
end SrtT
namespace L2
open PySem PySem.Spec PyProof.Rows
section
variable {X : Cx}
end
end L2
namespace TW
open PySem PySem.Spec PyProof.Rows L2
section
variable {P : Addr → Prop} {G G' : Gh} {σ : L2.St} {H H' : Hp} {s s' : Sx} {v : V} {o : Opd} {W : Wish} {X : Cx} {k : Nat}
end
end TW
set_option linter.all false
set_option Elab.async false
set_option maxRecDepth 100000
namespace TW
open PySem PySem.Spec PyProof.Rows L2
section
variable {P : Addr → Prop} {G G' : Gh} {σ : L2.St} {H H' : Hp} {s s' : Sx} {v : V} {o : Opd} {W : Wish} {X : Cx} {k : Nat} {tg : Expr}
end
end TW
set_option linter.all false
set_option Elab.async false
namespace TW
open PySem PySem.Spec PyProof.Rows L2
section
variable {P : Addr → Prop} {G G' : Gh} {σ : L2.St} {H H' : Hp} {s s' : Sx} {v : V} {o : Opd} {W : Wish} {X : Cx} {k : Nat}
end
end TW
set_option linter.all false
set_option Elab.async false
namespace TW
open PySem PySem.Spec PyProof.Rows L2
section
variable {W : Wish} {X : Cx} {a b : Expr} {pos : Pos} {ma mb : M Opd}
end
end TW
set_option linter.all false
set_option Elab.async false
set_option maxRecDepth 100000
namespace TW
open PySem PySem.Spec PyProof.Rows L2 HT
section
variable {P : Addr → Prop} {G G' : Gh} {σ : L2.St} {H H' : Hp} {s s' : Sx} {v : V} {o : Opd} {W : Wish} {X : Cx} {k : Nat}
end
end TW
set_option linter.all false
set_option Elab.async false
set_option maxRecDepth 100000
namespace TW
open PySem PySem.Spec PyProof.Rows L2
section
variable {P : Addr → Prop} {G G' : Gh} {σ : L2.St} {H H' : Hp} {s s' : Sx} {v : V} {o : Opd} {W : Wish} {X : Cx} {k : Nat} {a : Addr}
end
end TW
set_option linter.all false
set_option Elab.async false
set_option maxRecDepth 100000
namespace TW
open PySem PySem.Spec PyProof.Rows L2
section
variable {P : Addr → Prop} {G G' : Gh} {σ : L2.St} {H H' : Hp} {s s' : Sx} {v : V} {o : Opd} {W : Wish} {X : Cx} {k : Nat}
def backLD : PyData → Option PyData
  | .list ds => some (.list ds.reverse)
  | _ => none
end
end TW
set_option linter.all false
set_option Elab.async false
set_option maxRecDepth 100000
namespace MinT
open PySem PySem.Spec PyProof.Rows
abbrev Kp (h h' : Heap) : Prop := ∀ b o, h.get? b = some o → h'.get? b = some o
section
variable {prog : Program} {w : World} {A : Around} {R : Result → Shared → Prop} {items : Array Value} {lt : Nat → Nat → Bool} {l I S : Addr} {h0 : Heap}
end
section
variable {prog : Program} {w : World} {A : Around} {E : Value → Shared → Prop} {s : Shared} {items : Array Value} {lt : Nat → Nat → Bool} {l : Addr}
end
end MinT
namespace TW
open PySem PySem.Spec PyProof.Rows L2
mutual
/-- d < e of ints and tuples -/
def ltD : PyData → PyData → Bool
  | .int a, .int b => decide (a < b)
  | .tuple xs, .tuple ys => ltA xs ys
  | _, _ => false
def ltA : List PyData → List PyData → Bool
  | [], [] => false
  | [], _ :: _ => true
  | _ :: _, [] => false
  | x :: xs, y :: ys => if PyData.eqv x y = true then ltA xs ys else ltD x y
end
mutual
/-- they may be compared: ints stand where ints stand -/
def okLt : PyData → PyData → Bool
  | .int _, .int _ => true
  | .tuple xs, .tuple ys => okLtA xs ys
  | _, _ => false
def okLtA : List PyData → List PyData → Bool
  | x :: xs, y :: ys => okLt x y && okLtA xs ys
  | _, _ => true
end
end TW
set_option linter.all false
set_option Elab.async false
set_option maxRecDepth 100000
namespace TW
open PySem PySem.Spec PyProof.Rows L2
mutual
theorem reads_kp {h h' : Heap} (k : MinT.Kp h h') : ∀ {u : Value} {d : PyData} {as : List Addr}, Reads h u d as → Reads h' u d as
  | _, _, _, .none => .none
  | _, _, _, .bool b => .bool b
  | _, _, _, .int i t => .int i t
  | _, _, _, .str x t => .str x t
  | _, _, _, .list g c d a => .list (k _ _ g) c d (readsA_kp k a)
  | _, _, _, .tuple g c d a => .tuple (k _ _ g) c d (readsA_kp k a)
  | _, _, _, .dict g c d a b => .dict (k _ _ g) c d (readsA_kp k a) (readsA_kp k b)
theorem readsA_kp {h h' : Heap} (k : MinT.Kp h h') : ∀ {us : List Value} {ds : List PyData} {as : List Addr}, ReadsAll h us ds as → ReadsAll h' us ds as
  | _, _, _, .nil => .nil
  | _, _, _, .cons r rs => .cons (reads_kp k r) (readsA_kp k rs)
end
section
variable {P : Addr → Prop} {G G' : Gh} {σ : L2.St} {H H' : Hp} {s s' : Sx} {v : V} {o : Opd} {W : Wish} {X : Cx} {k : Nat}
end
end TW
set_option Elab.async false
set_option linter.all false
set_option maxRecDepth 100000
namespace TW
open PySem PySem.Spec PyProof.Rows L2
section
variable {P : Program} {w : World} {K : PySem.W.Frag} {elts : List Expr} {kk : Nat} {tpos : Pos} {a b z TI TO i1 i2 : Addr}
end
section
variable {P : Addr → Prop} {G G' : Gh} {σ : L2.St} {H H' : Hp} {s s' : Sx} {v : V} {o : Opd} {W : Wish} {X : Cx} {k : Nat} {tg : Expr}
end
end TW
set_option Elab.async false
set_option linter.all false
set_option maxRecDepth 100000
namespace TW
open PySem PySem.Spec PyProof.Rows L2
section
variable {prog : Program} {w : World} {A : Around} {E : Value → Shared → Prop} {s : Shared} {l : Addr} {xs : Array (Int × Tok)}
end
section
variable {P : Addr → Prop} {G G' : Gh} {σ : L2.St} {H H' : Hp} {s s' : Sx} {v : V} {o : Opd} {W : Wish} {X : Cx} {k : Nat}
end
end TW
set_option linter.all false
set_option Elab.async false
set_option maxRecDepth 100000
namespace TW
open PySem PySem.Spec PyProof.Rows L2
section
variable {P : Addr → Prop} {G G' : Gh} {σ : L2.St} {H H' : Hp} {s s' : Sx} {v : V} {o : Opd} {W : Wish} {X : Cx} {k : Nat}
end
end TW
set_option linter.all false
set_option Elab.async false
set_option maxRecDepth 100000
namespace TW
open PySem PySem.Spec PyProof.Rows L2
section
variable {P : Addr → Prop} {G G' : Gh} {σ : L2.St} {H H' : Hp} {s s' : Sx} {v : V} {o : Opd} {W : Wish} {X : Cx} {k : Nat}
end
end TW
set_option linter.all false
set_option Elab.async false
set_option maxRecDepth 100000
namespace ZL
open PySem PySem.Spec PyProof.Rows
variable {prog : Program} {w : World} {A : Around} {E : Value → Shared → Prop} {s : Shared} {z ti to i1 i2 a1 a2 T : Addr} {xs ys : Array Value}
structure Acc (h : Heap) (acc xs ys : Array Value) (k : Nat) (no : List Addr) (base : Nat) : Prop where
  n : acc.size = k
  at_ : ∀ j, j < k → ∃ (T : Addr) (x y : Value), acc[j]? = some (.ref T) ∧ xs[j]? = some x ∧ ys[j]? = some y ∧ IsPair h T x y ∧ T ∉ no ∧ base ≤ T
  nd : acc.toList.Nodup
theorem Acc.keep {h h' : Heap} {acc : Array Value} {k base : Nat} {no : List Addr} (c : Acc h acc xs ys k no base) (kp : ∀ b o, b ∉ no → h.get? b = some o → h'.get? b = some o) : Acc h' acc xs ys k no base :=
  ⟨c.n, fun j hj => let ⟨T, x, y, h1, h2, h3, h4, h5, h6⟩ := c.at_ j hj; ⟨T, x, y, h1, h2, h3, kp _ _ h5 h4, h5, h6⟩, c.nd⟩
theorem Acc.push {h : Heap} {acc : Array Value} {k base : Nat} {no : List Addr} {x y : Value} (c : Acc h acc xs ys k no base) (ex : xs[k]? = some x) (ey : ys[k]? = some y) (hT : IsPair h T x y) (hn : T ∉ no) (hb : base ≤ T) (ho : Value.ref T ∉ acc.toList) : Acc h (acc.push (.ref T)) xs ys (k + 1) no base := by
  refine ⟨by rw [Array.size_push, c.n], fun j hj => ?_, ?_⟩
  · rw [Array.getElem?_push, c.n]
    by_cases e : j = k
    · subst e
      rw [if_pos rfl]
      exact ⟨T, x, y, rfl, ex, ey, hT, hn, hb⟩
    · rw [if_neg e]
      exact c.at_ j (by omega)
  · rw [Array.toList_push, List.nodup_append]
    refine ⟨c.nd, by simp, fun a ha b hb e => ho ?_⟩
    rw [← List.mem_singleton.mp hb, ← e]
    exact ha
variable {R : Result → Shared → Prop} {S : Addr} {base : Nat}
structure Z0 (h : Heap) (z ti to i1 i2 a1 a2 : Addr) (xs ys : Array Value) : Prop where
  z : IsZip h z ti to .none
  p : IsPair h ti (.ref i1) (.ref i2)
  o : ∃ a b, IsPair h to a b
  u1 : h.IsTupleIter i1 a1 0
  u2 : h.IsTupleIter i2 a2 0
  l1 : h.IsTuple a1 xs
  l2 : h.IsTuple a2 ys
theorem Z0.keep {h h' : Heap} (Z : Z0 h z ti to i1 i2 a1 a2 xs ys) (k : ∀ b, b ∈ [z, ti, to, i1, i2, a1, a2] → ∀ o, h.get? b = some o → h'.get? b = some o) : Z0 h' z ti to i1 i2 a1 a2 xs ys := by
  obtain ⟨a, b, ho⟩ := Z.o
  exact ⟨k _ (by simp) _ Z.z, k _ (by simp) _ Z.p, ⟨a, b, k _ (by simp) _ ho⟩, Z.u1.at fun o e => k _ (by simp) o e, Z.u2.at fun o e => k _ (by simp) o e, Z.l1.at fun o e => k _ (by simp) o e, Z.l2.at fun o e => k _ (by simp) o e⟩
end ZL
set_option linter.all false
set_option Elab.async false
set_option maxRecDepth 100000
namespace TW
open PySem PySem.Spec PyProof.Rows L2
section
variable {P : Addr → Prop} {G G' : Gh} {σ : L2.St} {H H' : Hp} {s s' : Sx} {v : V} {o : Opd} {W : Wish} {X : Cx} {k : Nat}
end
end TW
set_option linter.all false
set_option Elab.async false
set_option maxRecDepth 100000
namespace TW
open PySem PySem.Spec PyProof.Rows L2
section
variable {P : Addr → Prop} {G G' : Gh} {σ : L2.St} {H H' : Hp} {s s' : Sx} {v : V} {o : Opd} {W : Wish} {X : Cx} {k : Nat} {e : Expr} {ta : TA} {p p2 pos pos2 : Pos}
end
end TW
set_option linter.all false
set_option Elab.async false
set_option maxRecDepth 100000
namespace TW
open PySem PySem.Spec PyProof.Rows L2
section
variable {X : Cx} {pins : List (Addr × Obj)} {σ : L2.St} {H : Hp} {s : Shared} {d : Addr} {o : Obj}
end
section
variable {P : Program} {w : World} {K : PySem.W.Frag} {d : Addr} {o : Obj} {es : Array DictEntry} {ep : Nat}
end
section
variable {X : Cx} {tg e : Expr} {td : TE} {apos cpos : Pos}
end
section
variable {P : Addr → Prop} {G G' : Gh} {σ : L2.St} {H H' : Hp} {s s' : Sx} {v : V} {o : Opd} {W : Wish} {X : Cx} {k : Nat} {tg : Expr}
theorem FzT.get {F : Addr → Prop} : ∀ {ks : List (List Key × V)} {ds : List (PyData × PyData)} {i : Nat} {p : PyData × PyData}, FzT F H ks ds → ds[i]? = some p → ∃ k v, ks[i]? = some (k, v) ∧ p.1 = tupD k ∧ Fz F H v p.2
  | _, _, _, _, .nil, e => by simp at e
  | _, _, 0, _, .cons a b, e => by
    simp at e
    subst e
    exact ⟨_, _, rfl, rfl, a⟩
  | _, _, i + 1, _, .cons a b, e => by
    obtain ⟨k, v, h1, h2⟩ := FzT.get (i := i) b (by simpa using e)
    exact ⟨k, v, by simpa using h1, h2⟩
end
end TW
set_option linter.all false
set_option Elab.async false
namespace TW
open PySem PySem.Spec PyProof.Rows L2
section
variable {s : Sx} {d x y z : PyData} {ds : List PyData} {i : Nat} {e a b : M Opd} {r : M (List Opd)}
def IsP (m : M (Option Int)) (s : Sx) (i : Option Int) : Prop := m s = .ok (i, s)
variable {Q : Fl → Sx → Prop} {E : Er → Prop}
end
end TW
set_option linter.all false
set_option Elab.async false
set_option maxRecDepth 100000
namespace TW
open PySem PySem.Spec PyProof.Rows L2
section
variable {X : Cx} {k : Nat} {WW : WX}
end
end TW
set_option linter.all false
set_option Elab.async false
set_option maxRecDepth 100000
namespace TW
open PySem PySem.Spec PyProof.Rows L2
section
variable {X : Cx} {n : Str} {i : Nat}
end
end TW
set_option linter.all false
set_option Elab.async false
set_option maxRecDepth 100000
namespace TW
open PySem PySem.Spec PyProof.Rows L2
inductive Wr where
  | bare
  | told (x : Str)
def Wr.d : Wr → PyData → PyData
  | .bare, d => d
  | .told x, d => .tuple [.str x, d]
theorem GB.bare {G : Gh} {H : Hp} {b : Option Bx} (g : GB G H b) {n : Nat} {σ : L2.St} (h : σ.length = n) : Rel (prot G H) G σ H ⟨List.replicate n .no, b⟩ := by
  have no : ∀ {i : Nat} {x : SV}, (List.replicate n SV.no)[i]? = some x → x = .no := fun {i x} e => by
    rw [List.getElem?_replicate] at e
    split at e
    · exact (Option.some.inj e).symm
    · cases e
  exact ⟨by rw [h, List.length_replicate], fun i d e => (by cases no e), fun i d e => (by cases no e), fun i j d e _ h _ => (by cases no h), fun i e => (by cases no e), g.bx, g.nb, g.fr, fun a h => h.1, fun a h => ⟨(g.bF a h).1, fun z => z.2.1 h, (g.bF a h).2⟩, ⟨g.tb.t, fun a h => ⟨(g.tb.n a h).1, fun z => z.2.2 h⟩⟩⟩
section
variable {X : Cx} {n : Str} {i N : Nat}
end
section
variable {X : Cx} {pins : List (Addr × Obj)} {σ : L2.St} {H : Hp} {s : Shared}
end
end TW
set_option linter.all false
set_option Elab.async false
set_option maxRecDepth 100000
namespace TW
open PySem PySem.Spec PyProof.Rows L2
section
variable {P : Addr → Prop} {G G' : Gh} {σ : L2.St} {H H' : Hp} {s s' : Sx} {v : V} {o : Opd} {W : Wish} {X : Cx} {k : Nat}
end
end TW
set_option linter.all false
set_option Elab.async false
set_option maxRecDepth 100000
namespace TW
open PySem PySem.Spec PyProof.Rows L2
section
variable {h : Heap} {K : PySem.W.Frag} {tf : List He.Defn} {cs : List (Addr × Addr)}
end
end TW
set_option linter.all false
set_option Elab.async false
set_option maxRecDepth 100000
namespace TW
open PySem PySem.Spec PyProof.Rows L2
section
variable {prog : Program} {w : World} {A : Around} {R : Result → Shared → Prop} {it S : Addr} {fp wr : List Addr} {n : Nat} {P : Nat → Value → Prop} {St : Nat → Heap → Prop} {kw : List (Str × Value)}
end
section
variable {prog : Program} {w : World} {A : Around} {E : Value → Shared → Prop} {s : Shared} {l : Addr} {xs : Array (Int × Tok)}
end
section
variable {P : Addr → Prop} {G G' : Gh} {σ : L2.St} {H H' : Hp} {s s' : Sx} {v : V} {o : Opd} {W : Wish} {X : Cx} {k : Nat}
end
end TW
set_option linter.all false
set_option Elab.async false
set_option maxRecDepth 100000
namespace TW
open PySem PySem.Spec PyProof.Rows L2
section
variable {P : Addr → Prop} {G G' : Gh} {σ : L2.St} {H H' : Hp} {s s' : Sx} {v : V} {o : Opd} {W : Wish} {X : Cx} {k i : Nat}
end
end TW
set_option linter.all false
set_option Elab.async false
set_option maxRecDepth 100000
namespace SrtO
open PySem PyProof.Rows Srt
section
variable {prog : Program} {w : World} {A : Around} {E : Value → Shared → Prop} {s : Shared}
end
end SrtO
namespace TW
open PySem PySem.Spec PyProof.Rows L2
section
variable {P : Addr → Prop} {G G' : Gh} {σ : L2.St} {H H' : Hp} {s s' : Sx} {v : V} {o : Opd} {W : Wish} {X : Cx} {k i : Nat}
end
section
variable {X : Cx} {e : Expr} {ta : TA} {p p2 pos pos2 : Pos}
end
section
variable {G : Gh} {W : Wish} {X : Cx} {k : Nat}
variable {e : Expr} {p p2 pos pos2 : Pos} {ma : M (List Opd)}
end
end TW
set_option linter.all false
set_option Elab.async false
set_option maxRecDepth 100000
namespace L2
open PySem PySem.Spec PyProof.Rows
section
variable {X : Cx}
end
end L2
namespace TW
open PySem PySem.Spec PyProof.Rows L2
variable {X : Cx} {W : Wish}
end TW
set_option Elab.async false
set_option linter.all false
set_option maxRecDepth 100000
set_option maxHeartbeats 4000000
namespace TW
open PySem PySem.Spec PyProof.Rows L2
section
variable {P : Program} {w : World} {A : Around} {E : Value → Shared → Prop} {s : Shared} {a : Addr}
end
section
variable {X : Cx} {e : Expr} {ta : TA} {p p2 pos pos2 : Pos}
end
section
variable {G : Gh} {W : Wish} {X : Cx} {k : Nat}
variable {e : Expr} {p p2 pos pos2 : Pos} {ma : M (List Opd)}
end
end TW
set_option linter.all false
set_option Elab.async false
set_option maxRecDepth 100000
set_option maxHeartbeats 4000000
namespace TW
open PySem PySem.Spec PyProof.Rows L2
def inTxD : PyData → PyData → Option PyData
  | .str x, .str z => match x.cps.toList with
    | [c] => some (.bool (decide (c ∈ z.cps.toList)))
    | _ => none
  | _, _ => none
def ninTxD : PyData → PyData → Option PyData
  | .str x, .str z => match x.cps.toList with
    | [c] => some (.bool (!decide (c ∈ z.cps.toList)))
    | _ => none
  | _, _ => none
def intTxD : List PyData → Option PyData
  | [.str a] => if a.length ≤ 640 then (PySem.intText? a).map PyData.int else none
  | _ => none
def slTxD : PyData → Option Int → Option Int → Option PyData
  | .str z, lo, hi => if z.length ≤ lim then some (.str (cutS z lo hi)) else none
  | _, _, _ => none
def eSlcT (a : M Opd) (l h : M (Option Int)) : M Opd := do let o ← a; let lo ← l; let hi ← h; let x ← peek o; let z ← optM (slTxD x lo hi); pure (.val z)
def splitD : PyData → PyData → Option (List PyData)
  | .str a, .str b => if (b.length == 0) = false ∧ a.length ≤ lim then some ((Txt.split a b).map PyData.str) else none
  | _, _ => none
def strsOf : List PyData → Option (List Str)
  | [] => some []
  | .str x :: r => (strsOf r).map (x :: ·)
  | _ => none
def joinD : PyData → PyData → Option PyData
  | .str s, .list ds => (strsOf ds).bind fun ys => if (ys.map (·.length)).sum + ys.length * s.length ≤ 16777216 then some (.str (Txt.join s ys)) else none
  | _, _ => none
def repTxD : PyData → PyData → Option PyData
  | .str x, .int k => if 2 ≤ k ∧ k ≤ 1000 ∧ 1 ≤ x.length ∧ x.length ≤ 1000 then some (.str ⟨(List.replicate k.toNat x.cps).foldl (· ++ ·) #[]⟩) else none
  | _, _ => none
theorem strsOf_map : ∀ ys : List Str, strsOf (ys.map PyData.str) = some ys
  | [] => rfl
  | y :: ys => by rw [List.map_cons, strsOf, strsOf_map ys]; rfl
theorem strsOf_eq : ∀ {ds : List PyData} {ys : List Str}, strsOf ds = some ys → ds = ys.map PyData.str
  | [], ys, h => by cases h; rfl
  | d :: ds, ys, h => by
    cases d <;> simp only [strsOf, reduceCtorEq] at h
    cases q : strsOf ds with
    | none => rw [q] at h; cases h
    | some zs =>
      rw [q] at h
      cases h
      rw [List.map_cons, strsOf_eq q]
section
variable {P : Addr → Prop} {G G' : Gh} {σ : L2.St} {H H' : Hp} {s s' : Sx} {v : V} {o : Opd} {W : Wish} {X : Cx} {k : Nat} {tg : Expr}
theorem one_sign {x : Str} {c : Nat} (h : x.cps.toList = [c]) : x = ⟨#[c]⟩ := by
  obtain ⟨a⟩ := x
  show (⟨a⟩ : Str) = _
  congr 1
  exact Array.toList_inj.mp (by simpa using h)
theorem ok_inTx : OpOk rInS inTxD := by
  intro P G σ H s x y d e z Q R cx cy ez h
  unfold inTxD at ez
  split at ez
  · split at ez
    · rename_i c hc
      cases ez
      refine ⟨c, _, ?_, cy.str_, h G _ H .refl R (.bl _)⟩
      rw [cx.str_, one_sign hc]
    · cases ez
  · cases ez
theorem sd_inTx {a b : Expr} {pos : Pos} {ma mb : M Opd} (ha : Sd X W a ma) (hb : Sd X W b mb) (hm : behindInMarks .In b = false := by first | exact nobehind _ (by decide) (by decide) | rfl) : Sd X W (.Compare a [.In] [b] pos) (eOp inTxD ma mb) := by
  obtain ⟨ta, pa, ca⟩ := ha.ex
  obtain ⟨tb, pb, cb⟩ := hb.ex
  exact ⟨_, pe_cmpR op_inS pa pb hm, cl_op ok_inTx ca cb⟩
theorem ok_intTx : CallOk (fun xs H Q => ∃ a n, xs = [V.str a] ∧ PySem.intText? a = some n ∧ a.length ≤ 640 ∧ Q (V.int n) H) intTxD := by
  intro P G σ H s vs ds z Q R cc ez h
  unfold intTxD at ez
  split at ez
  · split at ez
    · rename_i a hl
      obtain ⟨v, rfl, c⟩ := one_of cc
      cases hn : PySem.intText? a with
      | none => rw [hn] at ez; cases ez
      | some n =>
        rw [hn] at ez
        cases ez
        exact ⟨_, _, by rw [c.str_], hn, hl, h G _ H .refl R (.int _)⟩
    · cases ez
  · cases ez
theorem strs_fz {F : Addr → Prop} : ∀ ys : List Str, FzA F H (ys.map V.str) (ys.map PyData.str)
  | [] => .nil
  | y :: ys => .cons (.str y) (strs_fz ys)
def nSplit (a b : M Opd) : M PyData := do
  let o ← a
  let x ← peek o
  match x with
  | .str z => do
    let p ← b
    let y ← peek p
    let ds ← optM (splitD (.str z) y)
    pure (.list ds)
  | _ => stuck
def eJoin (a b : M Opd) : M Opd := do
  let o ← a
  let x ← peek o
  match x with
  | .str z => do
    let p ← b
    let y ← peek p
    let d ← optM (joinD (.str z) y)
    pure (.val d)
  | _ => stuck
theorem sn_split {o e : Expr} {apos pos : Pos} {mo me : M Opd} (ho : Sd X W o mo) (he : Sd X W e me) (hs : starEach [e] X.env = [(false, eval e X.env)] := by rfl) (hbase : attributeBase o "split" X.env (eval o X.env) = eval o X.env := by rfl) (hline : (apos.endLine == pos.line) = true := by rfl) :
    SdN X W (.Call (.Attribute o "split" apos) [e] [] pos) (nSplit mo me) := by
  obtain ⟨to, po, co⟩ := ho.ex
  obtain ⟨te, pe, ce⟩ := he.ex
  refine ⟨_, pe_split po pe hs hbase hline, ?_⟩
  intro P G σ H s Q R hw
  unfold nSplit at hw
  refine co.bind PostN.mono R hw fun o1 s1 G1 v1 H1 x1 R1 r1 hw1 => ?_
  obtain ⟨d, c1, hw2⟩ := peek_ok R1 r1 (W.stuck _ _ _) hw1
  cases d <;> try exact absurd hw2 (W.stuck _ _ _)
  rename_i z
  refine ⟨⟨z, c1.str_⟩, ?_⟩
  refine ce.bind PostN.mono R1 hw2 fun o2 s2 G2 v2 H2 x2 R2 r2 hw3 => ?_
  obtain ⟨e, c2, hw4⟩ := peek_ok R2 r2 (W.stuck _ _ _) hw3
  rw [pw_bind, pw_optM (W.stuck _ _ _)] at hw4
  obtain ⟨ds, ez, hw5⟩ := hw4
  unfold splitD at ez
  split at ez
  · rename_i a b ha
    split at ez
    · rename_i hb
      cases ez
      cases ha
      refine ⟨_, _, c1.str_, by rw [c2.str_], hb.1, ?_, fun p hp => ?_⟩
      · have := hb.2
        have hlim : lim + 2 ≤ sizeLine := by decide
        omega
      · obtain ⟨x3, R3, ow, f⟩ := R2.layOwn hp (strs_fz _)
        exact hw5 _ _ _ x3 R3 ow f
    · cases ez
  · cases ez
theorem strs_back {F : Addr → Prop} : ∀ {ys : List Str} {vs : List V}, FzA F H vs (ys.map PyData.str) → vs = ys.map V.str
  | [], vs, h => by cases h; rfl
  | y :: ys, vs, h => by
    cases h with
    | cons h1 h2 => rw [h1.str_inv, strs_back h2, List.map_cons]
theorem sd_join {o e : Expr} {apos pos : Pos} {mo me : M Opd} (ho : Sd X W o mo) (he : Sd X W e me) (hs : starEach [e] X.env = [(false, eval e X.env)] := by rfl) (hbase : attributeBase o "join" X.env (eval o X.env) = eval o X.env := by rfl) (hline : (apos.endLine == pos.line) = true := by rfl) :
    Sd X W (.Call (.Attribute o "join" apos) [e] [] pos) (eJoin mo me) := by
  obtain ⟨to, po, co⟩ := ho.ex
  obtain ⟨te, pe, ce⟩ := he.ex
  refine ⟨_, pe_join po pe hs hbase hline, ?_⟩
  intro P G σ H s Q R hw
  unfold eJoin at hw
  refine co.bind PostV.mono R hw fun o1 s1 G1 v1 H1 x1 R1 r1 hw1 => ?_
  obtain ⟨d, c1, hw2⟩ := peek_ok R1 r1 (W.stuck _ _ _) hw1
  cases d <;> try exact absurd hw2 (W.stuck _ _ _)
  rename_i z
  refine ⟨⟨z, c1.str_⟩, ?_⟩
  refine ce.bind PostV.mono R1 hw2 fun o2 s2 G2 v2 H2 x2 R2 r2 hw3 => ?_
  obtain ⟨e, c2, hw4⟩ := peek_ok R2 r2 (W.stuck _ _ _) hw3
  rw [pw_bind, pw_optM (W.stuck _ _ _)] at hw4
  obtain ⟨d, ez, hw5⟩ := hw4
  unfold joinD at ez
  split at ez
  · rename_i ds ha
    cases q : strsOf ds with
    | none => rw [q] at ez; cases ez
    | some ys =>
      rw [q, Option.bind_some] at ez
      split at ez <;> cases ez
      rename_i hl
      cases ha
      obtain ⟨a, xs, e1, h1, r⟩ := c2
      rw [strsOf_eq q] at r
      have := strs_back r
      subst this
      exact ⟨_, _, ys, c1.str_, by rw [e1], .inl (SqL.of h1), hl, hw5 _ _ _ .refl R2 (.str _)⟩
  · cases ez
theorem it_txt {x : Str} : ItOk P (Its x) G H (x.cps.toList.map fun c => .str ⟨#[c]⟩) := by
  intro P' G1 σ1 H1 s1 x1 R
  refine ⟨fun m d hd => ?_, by show x.cps.size ≤ _; simp⟩
  rw [List.getElem?_map] at hd
  cases q : x.cps.toList[m]? with
  | none => rw [q] at hd; cases hd
  | some c =>
    rw [q] at hd
    cases hd
    have hm := (List.getElem?_eq_some_iff.mp q).1
    refine ⟨by show m < x.cps.size; simpa using hm, fun y H' ⟨h1, c', h2, h3⟩ => ?_⟩
    subst h1
    have e : c' = c := by
      have q' : x.cps[m]? = some c := by simpa using q
      rw [q'] at h2
      cases h2
      rfl
    subst e h3
    exact ⟨G1, .refl, R, .str _⟩
theorem si_txt {e : Expr} {m : M Opd} (h : Sd X W e m) : SdI X W tg e (iStM m) := by
  obtain ⟨te, pe, ce⟩ := h.ex
  refine ⟨_, pi_str pe, ?_⟩
  intro P G σ H s R Re hw
  unfold iStM at hw
  refine ce.bind PostI.mono Re hw fun o1 s1 G1 v1 H1 x1 R1 r1 hw1 => ?_
  obtain ⟨d, c1, hw2⟩ := peek_ok R1 r1 (W.stuck _ _ _) hw1
  cases d <;> try exact absurd hw2 (W.stuck _ _ _)
  rename_i z
  exact ⟨z, c1.str_, hw2 _ _ _ .refl R1 it_txt⟩
end
end TW
set_option linter.all false
set_option Elab.async false
set_option maxRecDepth 100000
set_option maxHeartbeats 0
namespace K13
open PySem PySem.Spec PyProof.Rows L2 TW
def m_law_row_text : M Fl :=
(TW.sRet (eJoin (eC (.str ",")) (eNw (nCmp [1] (iSeqM (eVar 0)) (tgName 1) (pure true) (TW.eIf (TW.tVal (eCmp .isN (eVar 1) (eC .none))) (eC (.str "-")) (eFn strD (aCons (eVar 1) aNil)))))))
def f_law_row_text : Sem := runF 2 m_law_row_text
def m_law_kind_text : M Fl :=
(TW.sRet (eBin .add (eBin .add (eFn strD (aCons (eIx (eVar 0) (eC (.int 0))) aNil)) (eC (.str ":"))) (eCall 1 f_law_row_text (aCons (eIx (eVar 0) (eC (.int 1))) aNil))))
def f_law_kind_text : Sem := runF 1 m_law_kind_text
def m_law_handler_text : M Fl :=
(TW.sRet (eJoin (eC (.str " ")) (eBin .add (eNw (nLst (aCons (eCall 1 f_law_row_text (aCons (eIx (eVar 0) (eC (.int 0))) aNil)) aNil))) (eNw (nCmp [1] (iSeqM (eIx (eVar 0) (eC (.int 1)))) (tgName 1) (pure true) (eBin .add (eC (.str "/ ")) (eCall 1 f_law_kind_text (aCons (eVar 1) aNil))))))))
def f_law_handler_text : Sem := runF 2 m_law_handler_text
def m_law_number_1 : M Fl :=
(TW.sRet (TW.eIf (TW.tAnd (TW.tVal (eCmp .eq (eIx (eVar 0) (eC (.int 0))) (eC (.str "0")))) (TW.tVal (eCmp .ne (eVar 0) (eC (.str "0"))))) (eC .none) (eFn intTxD (aCons (eVar 0) aNil))))
def m_law_number_2 : M Fl :=
(TW.sIf (TW.tOr (TW.tNot (TW.tVal (eChn (cmpD .le) (cmpD .le) (eC (.int 1)) (eFn lenD (aCons (eVar 0) aNil)) (eC (.int 12))))) (TW.tVal (eOp ne0D (eNw (nCmp [1] (iStM (eVar 0)) (tgName 1) (TW.tVal (eOp ninTxD (eVar 1) (eC (.str "0123456789")))) (eVar 1))) (eNw (nLst aNil)))))
(TW.sRet (eC .none))
TW.sSkip)
def m_law_number : M Fl :=
(TW.sSeq m_law_number_2 m_law_number_1)
def f_law_number : Sem := runF 2 m_law_number
def m_law_numbers : M Fl :=
(TW.sSeq (TW.sAsg 1 (eNw (nCmp [2] (iSeqM (eNw (nSplit (eVar 0) (eC (.str ","))))) (tgName 2) (pure true) (eCall 1 f_law_number (aCons (eVar 2) aNil)))))
(TW.sRet (TW.eIf (TW.tVal (eOp (memD false) (eC .none) (eVar 1))) (eC .none) (eFn tupleD (aCons (eVar 1) aNil)))))
def f_law_numbers : Sem := runF 3 m_law_numbers
def m_law_kind_of_1 : M Fl :=
(TW.sRet (eTup (aCons (eCall 1 f_law_number (aCons (eIx (eVar 1) (eC (.int 0))) aNil)) (aCons (eCall 1 f_law_numbers (aCons (eIx (eVar 1) (eC (.int 1))) aNil)) aNil))))
def m_law_kind_of_2 : M Fl :=
(TW.sIf (TW.tOr (TW.tVal (eCmp .ne (eFn lenD (aCons (eVar 1) aNil)) (eC (.int 2)))) (TW.tOr (TW.tVal (eCmp .isN (eCall 1 f_law_number (aCons (eIx (eVar 1) (eC (.int 0))) aNil)) (eC .none))) (TW.tVal (eCmp .isN (eCall 1 f_law_numbers (aCons (eIx (eVar 1) (eC (.int 1))) aNil)) (eC .none)))))
(TW.sRet (eC .none))
TW.sSkip)
def m_law_kind_of_3 : M Fl :=
(TW.sSeq m_law_kind_of_2 m_law_kind_of_1)
def m_law_kind_of_4 : M Fl :=
(TW.sAsg 1 (eNw (nSplit (eVar 0) (eC (.str ":")))))
def m_law_kind_of : M Fl :=
(TW.sSeq m_law_kind_of_4 m_law_kind_of_3)
def f_law_kind_of : Sem := runF 2 m_law_kind_of
def m_law_due_1 : M Fl :=
(TW.sRet (TW.eIf (TW.tVal (eCmp .isN (eVar 2) (eC .none))) (eTup (aCons (eVar 3) (aCons (eFn tupleD (aCons (eVar 4) aNil)) aNil))) (eNw (nLst (aCons (eC (.str "handler")) (aCons (eVar 2) aNil))))))
def m_law_due_2 : M Fl :=
(TW.sAsg 2 (eCall 1 K02.f_law_handler_error (aCons (eTup (aCons (eVar 3) (aCons (eFn tupleD (aCons (eVar 4) aNil)) aNil))) aNil)))
def m_law_due_3 : M Fl :=
(TW.sSeq m_law_due_2 m_law_due_1)
def m_law_due_4 : M Fl :=
(TW.sAsg 5 (eBin .add (eVar 5) (eC (.int 2))))
def m_law_due_5 : M Fl :=
(sApp 4 (eVar 6))
def m_law_due_6 : M Fl :=
(TW.sSeq m_law_due_5 m_law_due_4)
def m_law_due_7 : M Fl :=
(TW.sIf (TW.tVal (eCmp .isN (eVar 6) (eC .none)))
(TW.sRet (eNw (nLst (aCons (eC (.str "text")) (aCons (eBin .add (eVar 5) (eC (.int 1))) aNil)))))
TW.sSkip)
def m_law_due_8 : M Fl :=
(TW.sSeq m_law_due_7 m_law_due_6)
def m_law_due_9 : M Fl :=
(TW.sAsg 6 (eCall 1 f_law_kind_of (aCons (eIx (eBin .add (eVar 1) (eNw (nLst (aCons (eC (.str "")) aNil)))) (eBin .add (eVar 5) (eC (.int 1)))) aNil)))
def m_law_due_10 : M Fl :=
(TW.sSeq m_law_due_9 m_law_due_8)
def m_law_due_11 : M Fl :=
(TW.sIf (TW.tOr (TW.tVal (eCmp .ge (eVar 5) (eFn lenD (aCons (eVar 1) aNil)))) (TW.tVal (eCmp .ne (eIx (eVar 1) (eVar 5)) (eC (.str "/")))))
(TW.sRet (eNw (nLst (aCons (eC (.str "text")) (aCons (eVar 5) aNil)))))
TW.sSkip)
def m_law_due_12 : M Fl :=
(TW.sSeq m_law_due_11 m_law_due_10)
def m_law_due_13 : M Fl :=
(whileL (TW.tOr (TW.tVal (eCmp .lt (eVar 5) (eFn lenD (aCons (eVar 1) aNil)))) (TW.tVal (eOp eq0D (eVar 4) (eNw (nLst aNil)))))
m_law_due_12 wFuel)
def m_law_due_14 : M Fl :=
(TW.sSeq m_law_due_13 m_law_due_3)
def m_law_due_15 : M Fl :=
(TW.sIf (TW.tVal (eCmp .isN (eVar 3) (eC .none)))
(TW.sRet (eNw (nLst (aCons (eC (.str "text")) (aCons (eC (.int 0)) aNil)))))
TW.sSkip)
def m_law_due_16 : M Fl :=
(TW.sSeq m_law_due_15 m_law_due_14)
def m_law_due_17 : M Fl :=
(sParP [3, 4, 5] (pDat (eCall 1 f_law_numbers (aCons (eIx (eVar 1) (eC (.int 0))) aNil)) (pOwn (nLst aNil) (pDat (eC (.int 1)) pNil))))
def m_law_due_18 : M Fl :=
(TW.sSeq m_law_due_17 m_law_due_16)
def m_law_due_19 : M Fl :=
(TW.sAsg 1 (eNw (nSplit (eVar 0) (eC (.str " ")))))
def m_law_due_20 : M Fl :=
(TW.sSeq m_law_due_19 m_law_due_18)
def m_law_due_21 : M Fl :=
(TW.sIf (TW.tNot (TW.tVal (eIs .str (eVar 0))))
(TW.sRet (eNw (nLst (aCons (eC (.str "text")) (aCons (eC .none) aNil)))))
TW.sSkip)
def m_law_due : M Fl :=
(TW.sSeq m_law_due_21 m_law_due_20)
def f_law_due : Sem := runF 7 m_law_due
def m_number_in_1 : M Fl :=
(TW.sRet (TW.eIf (TW.tAnd (TW.tVal (eCmp .eq (eIx (eVar 0) (eC (.int 0))) (eC (.str "0")))) (TW.tVal (eCmp .ne (eVar 0) (eC (.str "0"))))) (eC .none) (eFn intTxD (aCons (eVar 0) aNil))))
def m_number_in_2 : M Fl :=
(TW.sIf (TW.tOr (TW.tNot (TW.tVal (eChn (cmpD .le) (cmpD .le) (eC (.int 1)) (eFn lenD (aCons (eVar 0) aNil)) (eC (.int 12))))) (TW.tNot (TW.tVal (eFn allD (aCons (eNw (nCmp [1] (iStM (eVar 0)) (tgName 1) (pure true) (eOp inTxD (eVar 1) (eC (.str "0123456789"))))) aNil)))))
(TW.sRet (eC .none))
TW.sSkip)
def m_number_in : M Fl :=
(TW.sSeq m_number_in_2 m_number_in_1)
def f_number_in : Sem := runF 2 m_number_in
def m_row_in : M Fl :=
(TW.sSeq (TW.sAsg 1 (eNw (nCmp [2] (iSeqM (eNw (nSplit (eVar 0) (eC (.str ","))))) (tgName 2) (pure true) (eCall 1 f_number_in (aCons (eVar 2) aNil)))))
(TW.sRet (TW.eIf (TW.tVal (eOp (memD false) (eC .none) (eVar 1))) (eC .none) (eFn tupleD (aCons (eVar 1) aNil)))))
def f_row_in : Sem := runF 3 m_row_in
def m_kind_in_1 : M Fl :=
(TW.sRet (TW.eIf (TW.tOr (TW.tVal (eCmp .isN (eVar 2) (eC .none))) (TW.tVal (eCmp .isN (eVar 3) (eC .none)))) (eC .none) (eTup (aCons (eVar 2) (aCons (eVar 3) aNil)))))
def m_kind_in_2 : M Fl :=
(TW.sPar [tgName 2, tgName 3] (aCons (eCall 1 f_number_in (aCons (eIx (eVar 1) (eC (.int 0))) aNil)) (aCons (eCall 1 f_row_in (aCons (eIx (eVar 1) (eC (.int 1))) aNil)) aNil)))
def m_kind_in_3 : M Fl :=
(TW.sSeq m_kind_in_2 m_kind_in_1)
def m_kind_in_4 : M Fl :=
(TW.sIf (TW.tVal (eCmp .ne (eFn lenD (aCons (eVar 1) aNil)) (eC (.int 2))))
(TW.sRet (eC .none))
TW.sSkip)
def m_kind_in_5 : M Fl :=
(TW.sSeq m_kind_in_4 m_kind_in_3)
def m_kind_in_6 : M Fl :=
(TW.sAsg 1 (eNw (nSplit (eVar 0) (eC (.str ":")))))
def m_kind_in : M Fl :=
(TW.sSeq m_kind_in_6 m_kind_in_5)
def f_kind_in : Sem := runF 4 m_kind_in
def m_parse_handler_1 : M Fl :=
(TW.sRet (eVar 2))
def m_parse_handler_2 : M Fl :=
(TW.sIf (TW.tVal (eCmp .notN (eVar 3) (eC .none)))
(sRaise "BadHandler" ["error"] (aCons (eVar 3) aNil))
TW.sSkip)
def m_parse_handler_3 : M Fl :=
(TW.sSeq m_parse_handler_2 m_parse_handler_1)
def m_parse_handler_4 : M Fl :=
(TW.sAsg 3 (eCall 1 K02.f_handler_error (aCons (eVar 2) aNil)))
def m_parse_handler_5 : M Fl :=
(TW.sSeq m_parse_handler_4 m_parse_handler_3)
def m_parse_handler_6 : M Fl :=
(TW.sAsg 2 (eTup (aCons (eVar 4) (aCons (eFn tupleD (aCons (eVar 5) aNil)) aNil))))
def m_parse_handler_7 : M Fl :=
(TW.sSeq m_parse_handler_6 m_parse_handler_5)
def m_parse_handler_8 : M Fl :=
(TW.sAsg 6 (eBin .add (eVar 6) (eC (.int 2))))
def m_parse_handler_9 : M Fl :=
(sApp 5 (eVar 7))
def m_parse_handler_10 : M Fl :=
(TW.sSeq m_parse_handler_9 m_parse_handler_8)
def m_parse_handler_11 : M Fl :=
(TW.sIf (TW.tVal (eCmp .isN (eVar 7) (eC .none)))
(sRaise "BadText" ["index"] (aCons (eBin .add (eVar 6) (eC (.int 1))) aNil))
TW.sSkip)
def m_parse_handler_12 : M Fl :=
(TW.sSeq m_parse_handler_11 m_parse_handler_10)
def m_parse_handler_13 : M Fl :=
(TW.sAsg 7 (TW.eIf (TW.tVal (eCmp .lt (eBin .add (eVar 6) (eC (.int 1))) (eFn lenD (aCons (eVar 1) aNil)))) (eCall 1 f_kind_in (aCons (eIx (eVar 1) (eBin .add (eVar 6) (eC (.int 1)))) aNil)) (eC .none)))
def m_parse_handler_14 : M Fl :=
(TW.sSeq m_parse_handler_13 m_parse_handler_12)
def m_parse_handler_15 : M Fl :=
(TW.sIf (TW.tOr (TW.tVal (eCmp .ge (eVar 6) (eFn lenD (aCons (eVar 1) aNil)))) (TW.tVal (eCmp .ne (eIx (eVar 1) (eVar 6)) (eC (.str "/")))))
(sRaise "BadText" ["index"] (aCons (eVar 6) aNil))
TW.sSkip)
def m_parse_handler_16 : M Fl :=
(TW.sSeq m_parse_handler_15 m_parse_handler_14)
def m_parse_handler_17 : M Fl :=
(whileL (TW.tOr (TW.tVal (eCmp .lt (eVar 6) (eFn lenD (aCons (eVar 1) aNil)))) (TW.tVal (eOp eq0D (eVar 5) (eNw (nLst aNil)))))
m_parse_handler_16 wFuel)
def m_parse_handler_18 : M Fl :=
(TW.sSeq m_parse_handler_17 m_parse_handler_7)
def m_parse_handler_19 : M Fl :=
(TW.sIf (TW.tVal (eCmp .isN (eVar 4) (eC .none)))
(sRaise "BadText" ["index"] (aCons (eC (.int 0)) aNil))
TW.sSkip)
def m_parse_handler_20 : M Fl :=
(TW.sSeq m_parse_handler_19 m_parse_handler_18)
def m_parse_handler_21 : M Fl :=
(sParP [4, 5, 6] (pDat (eCall 1 f_row_in (aCons (eIx (eVar 1) (eC (.int 0))) aNil)) (pOwn (nLst aNil) (pDat (eC (.int 1)) pNil))))
def m_parse_handler_22 : M Fl :=
(TW.sSeq m_parse_handler_21 m_parse_handler_20)
def m_parse_handler_23 : M Fl :=
(TW.sAsg 1 (eNw (nSplit (eVar 0) (eC (.str " ")))))
def m_parse_handler_24 : M Fl :=
(TW.sSeq m_parse_handler_23 m_parse_handler_22)
def m_parse_handler_25 : M Fl :=
(TW.sIf (TW.tNot (TW.tVal (eIs .str (eVar 0))))
(sRaise "BadText" ["index"] (aCons (eC .none) aNil))
TW.sSkip)
def m_parse_handler : M Fl :=
(TW.sSeq m_parse_handler_25 m_parse_handler_24)
def f_parse_handler : Sem := runF 8 m_parse_handler
def m_law_told_1 : M Fl :=
(TW.sRet (eVar 1))
def m_law_told_2 : M Fl :=
(sTry 2 (inL ["BadHandler", "BadText"]) (TW.sAsg 1 (eCallX 1 f_parse_handler (aCons (eVar 0) aNil))) (fun c fs =>
(TW.sSeq (TW.sAsg 1 (eNw (nLst (aCons (eC (.str "other")) aNil))))
(TW.sIf (TW.tAnd (TW.tVal (isM (tabL [("BadHandler", false), ("BadText", true)]) c)) (TW.tNot (TW.tVal (isM (tabL [("BadHandler", true), ("BadText", false)]) c))))
(TW.sAsg 1 (eNw (nLst (aCons (eC (.str "text")) (aCons (fldM (inL ["BadText"]) "index" c fs) aNil)))))
(TW.sIf (TW.tAnd (TW.tVal (isM (tabL [("BadHandler", true), ("BadText", false)]) c)) (TW.tNot (TW.tVal (isM (tabL [("BadHandler", false), ("BadText", true)]) c))))
(TW.sAsg 1 (eNw (nLst (aCons (eC (.str "handler")) (aCons (fldM (inL ["BadHandler"]) "error" c fs) aNil)))))
TW.sSkip)))))
def m_law_told_3 : M Fl :=
(TW.sSeq m_law_told_2 m_law_told_1)
def m_law_told_4 : M Fl :=
(TW.sAsg 1 (eC .none))
def m_law_told : M Fl :=
(TW.sSeq m_law_told_4 m_law_told_3)
def f_law_told : Sem := runF 3 m_law_told
def m_law_changed_1 : M Fl :=
(TW.sRet (eCall 2 K02.f_law_one (aCons (eVar 0) (aCons (eBin .add (eVar 3) (eNw (nLst (aCons (eJoin (eC (.str " ")) (eUn backLD (eVar 6))) (aCons (eBin .add (eC (.str " ")) (eVar 1)) (aCons (eBin .add (eVar 1) (eC (.str " "))) (aCons (eBin .add (eVar 1) (eC (.str " /"))) (aCons (eBin .add (eVar 1) (eC (.str " / 0"))) aNil)))))))) aNil))))
def m_law_changed_2 : M Fl :=
(sApp 3 (eJoin (eC (.str " ")) (eBin .add (eSlc (eVar 6) pNone (pSome (eC (.int 1)))) (eBin .mul (eSlc (eVar 6) (pSome (eC (.int 1))) pNone) (eIx (eNw (nLst (aCons (eC (.int 7)) (aCons (eC (.int 1)) aNil)))) (eFn intD (aCons (eCmp .gt (eFn lenD (aCons (eVar 6) aNil)) (eC (.int 20))) aNil)))))))
def m_law_changed_3 : M Fl :=
(TW.sSeq m_law_changed_2 m_law_changed_1)
def m_law_changed_4 : M Fl :=
(sApp 3 (eJoin (eC (.str " ")) (eBin .add (eBin .add (eSlc (eVar 6) pNone (pSome (eVar 4))) (eSlc (eVar 6) (pSome (eVar 4)) (pSome (eBin .add (eVar 4) (eC (.int 1)))))) (eSlc (eVar 6) (pSome (eVar 4)) pNone))))
def m_law_changed_5 : M Fl :=
(TW.sSeq m_law_changed_4 m_law_changed_3)
def m_law_changed_6 : M Fl :=
(TW.sAsgN 3 (nOp catD (eVar 3) (eNw (nLst (aCons (eJoin (eC (.str " ")) (eBin .add (eSlc (eVar 6) pNone (pSome (eVar 4))) (eSlc (eVar 6) (pSome (eBin .add (eVar 4) (eC (.int 1)))) pNone))) (aCons (eJoin (eC (.str " ")) (eBin .add (eVar 6) (eSlc (eVar 6) (pSome (eVar 4)) pNone))) (aCons (eJoin (eC (.str " ")) (eSlc (eVar 6) pNone (pSome (eVar 4)))) aNil)))))))
def m_law_changed_7 : M Fl :=
(TW.sSeq m_law_changed_6 m_law_changed_5)
def m_law_changed_8 : M Fl :=
(TW.sAsg 4 (eCall 2 drawF (aCons (eVar 0) (aCons (eFn lenD (aCons (eVar 6) aNil)) aNil))))
def m_law_changed_9 : M Fl :=
(TW.sSeq m_law_changed_8 m_law_changed_7)
def m_law_changed_10 : M Fl :=
(TW.sAsgN 3 (nLst (aCons (eBin .add (eBin .add (eSlcT (eVar 1) pNone (pSome (eVar 5))) (eVar 2)) (eSlcT (eVar 1) (pSome (eVar 5)) pNone)) (aCons (eBin .add (eSlcT (eVar 1) pNone (pSome (eVar 5))) (eSlcT (eVar 1) (pSome (eBin .add (eVar 5) (eC (.int 1)))) pNone)) (aCons (eBin .add (eBin .add (eSlcT (eVar 1) pNone (pSome (eVar 5))) (eVar 2)) (eSlcT (eVar 1) (pSome (eBin .add (eVar 5) (eC (.int 1)))) pNone)) (aCons (eBin .add (eVar 1) (eVar 2)) aNil))))))
def m_law_changed_11 : M Fl :=
(TW.sSeq m_law_changed_10 m_law_changed_9)
def m_law_changed_12 : M Fl :=
(TW.sAsg 2 (eCall 2 K02.f_law_one (aCons (eVar 0) (aCons (eNw (nLst (aCons (eC (.str "0")) (aCons (eC (.str "1")) (aCons (eC (.str "-")) (aCons (eC (.str "5")) (aCons (eC (.str " ")) (aCons (eC (.str ":")) (aCons (eC (.str ",")) (aCons (eC (.str "/")) (aCons (eC (.str "a")) (aCons (eC (.str "+")) (aCons (eC (.str "_")) (aCons (eC (.str "")) (aCons (eC (.str "00")) (aCons (eC (.str ".")) (aCons (eC (.str "\n")) (aCons (eOp repTxD (eC (.str "9")) (eC (.int 13))) aNil)))))))))))))))))) aNil))))
def m_law_changed_13 : M Fl :=
(TW.sSeq m_law_changed_12 m_law_changed_11)
def m_law_changed_14 : M Fl :=
(TW.sPar [tgName 5, tgName 6] (aCons (eCall 2 drawF (aCons (eVar 0) (aCons (eBin .add (eFn lenD (aCons (eVar 1) aNil)) (eC (.int 1))) aNil))) (aCons (eNw (nSplit (eVar 1) (eC (.str " ")))) aNil)))
def m_law_changed : M Fl :=
(TW.sSeq m_law_changed_14 m_law_changed_13)
def f_law_changed : Sem := runF 7 m_law_changed
def m_law_1 : M Fl :=
(TW.sRet (eC (.bool true)))
def m_law_2 : M Fl :=
(TW.sIf (TW.tVal (eCmp .ne (eNw (nCmp [8] (iRg1 (eC (.int 2))) (tgName 8) (pure true) (eFn reprD (aCons (eCall 1 f_law_told (aCons (eVar 6) aNil)) aNil)))) (eNw (nLst (aCons (eVar 7) (aCons (eVar 7) aNil))))))
(TW.sRet (eC (.bool false)))
TW.sSkip)
def m_law_3 : M Fl :=
(TW.sAsg 7 (eFn reprD (aCons (eCall 1 f_law_due (aCons (eVar 6) aNil)) aNil)))
def m_law_4 : M Fl :=
(TW.sSeq m_law_3 m_law_2)
def m_law_5 : M Fl :=
(TW.sFor (iSeqM (eBin .add (eVar 4) (eNw (nLst (aCons (eC (.str "0,1 / 0:-,0")) aNil))))) (tgName 6)
m_law_4)
def m_law_6 : M Fl :=
(TW.sAsgN 4 (nOp catD (eVar 4) (eNw (nLst (aCons (eC (.str "0,1 / 0:0,1_0")) (aCons (eC (.str "0,01 / 0:0,0")) (aCons (eC (.str "0,1 / +0:0,0")) (aCons (eC (.str "0,1 / 0:0, 0")) (aCons (eC (.str ",0 / 0:0,0")) aNil)))))))))
def m_law_7 : M Fl :=
(TW.sSeq m_law_6 m_law_5)
def m_law_8 : M Fl :=
(TW.sAsgN 4 (nOp catD (eVar 4) (eNw (nLst (aCons (eC (.str "0,1 / 00:0,0")) (aCons (eC (.str "0,1 / 4:0,0")) (aCons (eC (.str "0,1 / 0:0,2")) (aCons (eC (.str "0,2 / 0:0,0")) (aCons (eC (.str "0,1 / 0:0,0,0")) (aCons (eC (.str "0,1 / 0:0:0")) aNil))))))))))
def m_law_9 : M Fl :=
(TW.sSeq m_law_8 m_law_7)
def m_law_10 : M Fl :=
(TW.sAsgN 4 (nOp catD (eVar 4) (eNw (nLst (aCons (eVar 6) (aCons (eCall 2 f_law_changed (aCons (eVar 1) (aCons (eVar 6) aNil))) aNil))))))
def m_law_11 : M Fl :=
(TW.sAsg 6 (eCall 2 f_law_changed (aCons (eVar 1) (aCons (eVar 3) aNil))))
def m_law_12 : M Fl :=
(TW.sSeq m_law_11 m_law_10)
def m_law_13 : M Fl :=
(TW.sFor (iRg1 (eC (.int 8))) (tgName 5)
m_law_12)
def m_law_14 : M Fl :=
(TW.sSeq m_law_13 m_law_9)
def m_law_15 : M Fl :=
(sApp 4 (eCall 1 K02.f_law_odd (aCons (eVar 1) aNil)))
def m_law_16 : M Fl :=
(TW.sSeq m_law_15 m_law_14)
def m_law_17 : M Fl :=
(TW.sAsgN 4 (nLst (aCons (eVar 3) (aCons (eC .none) (aCons (eNw (nLst (aCons (eVar 3) aNil))) (aCons (eC (.str "")) (aCons (eC (.str "0,1")) (aCons (eC (.str "0,1 /")) (aCons (eC (.str "0,1 / 0")) (aCons (eC (.str "0,1 / 0:")) (aCons (eC (.str "0,1 / 0:0,0 /")) (aCons (eC (.str "0 / 0:0")) aNil))))))))))))
def m_law_18 : M Fl :=
(TW.sSeq m_law_17 m_law_16)
def m_law_19 : M Fl :=
(TW.sAsg 3 (eCall 1 f_law_handler_text (aCons (eCall 3 K02.f_law_handler (aCons (eVar 1) (aCons (eC (.int 8)) (aCons (eC (.int 6)) aNil)))) aNil)))
def m_law_20 : M Fl :=
(TW.sSeq m_law_19 m_law_18)
def m_law_21 : M Fl :=
(TW.sFor (iRg1 (eC (.int 8))) (tgName 2)
m_law_20)
def m_law : M Fl :=
(TW.sSeq m_law_21 m_law_1)
end K13
set_option linter.all false
set_option Elab.async false
set_option maxRecDepth 100000
set_option maxHeartbeats 0
namespace K12
open PySem PySem.Spec PyProof.Rows L2 TW
def m_row_text : M Fl :=
(TW.sRet (eJoin (eC (.str ",")) (eNw (nCmp [1] (iSeqM (eVar 0)) (tgName 1) (pure true) (TW.eIf (TW.tVal (eCmp .isN (eVar 1) (eC .none))) (eC (.str "-")) (eFn strD (aCons (eVar 1) aNil)))))))
def f_row_text : Sem := runF 2 m_row_text
def m_kind_text : M Fl :=
(TW.sRet (eBin .add (eBin .add (eFn strD (aCons (eIx (eVar 0) (eC (.int 0))) aNil)) (eC (.str ":"))) (eCall 1 f_row_text (aCons (eIx (eVar 0) (eC (.int 1))) aNil))))
def f_kind_text : Sem := runF 1 m_kind_text
def m_handler_text : M Fl :=
(TW.sRet (eJoin (eC (.str " / ")) (eNw (nLst (aCons (eCall 1 f_row_text (aCons (eIx (eVar 0) (eC (.int 0))) aNil)) (aStar (eNw (nCmp [1] (iSeqM (eIx (eVar 0) (eC (.int 1)))) (tgName 1) (pure true) (eCall 1 f_kind_text (aCons (eVar 1) aNil)))) aNil))))))
def f_handler_text : Sem := runF 2 m_handler_text
def m_plan_text : M Fl :=
(TW.sRet (eJoin (eC (.str " / ")) (eNw (nLst (aCons (eCall 1 f_row_text (aCons (eIx (eVar 0) (eC (.int 0))) aNil)) (aStar (eNw (nCmp [1] (iSeqM (eIx (eVar 0) (eC (.int 1)))) (tgName 1) (pure true) (eCall 1 f_row_text (aCons (eVar 1) aNil)))) aNil))))))
def f_plan_text : Sem := runF 2 m_plan_text
def m_log_text : M Fl :=
(TW.sRet (TW.eIf (TW.tVal (eOp ne0D (eVar 0) (eTup aNil))) (eJoin (eC (.str " ")) (eNw (nCmp [1] (iSeqM (eVar 0)) (tgName 1) (pure true) (eFn strD (aCons (eVar 1) aNil))))) (eC (.str "none"))))
def f_log_text : Sem := runF 2 m_log_text
def m_parse_handler_1 : M Fl :=
(TW.sRet (eVar 2))
def m_parse_handler_2 : M Fl :=
(TW.sIf (TW.tVal (eCmp .notN (eVar 3) (eC .none)))
stuck
TW.sSkip)
def m_parse_handler_3 : M Fl :=
(TW.sSeq m_parse_handler_2 m_parse_handler_1)
def m_parse_handler_4 : M Fl :=
(TW.sAsg 3 (eCall 1 K02.f_handler_error (aCons (eVar 2) aNil)))
def m_parse_handler_5 : M Fl :=
(TW.sSeq m_parse_handler_4 m_parse_handler_3)
def m_parse_handler_6 : M Fl :=
(TW.sAsg 2 (eTup (aCons (eVar 4) (aCons (eFn tupleD (aCons (eVar 5) aNil)) aNil))))
def m_parse_handler_7 : M Fl :=
(TW.sSeq m_parse_handler_6 m_parse_handler_5)
def m_parse_handler_8 : M Fl :=
(TW.sAsg 6 (eBin .add (eVar 6) (eC (.int 2))))
def m_parse_handler_9 : M Fl :=
(sApp 5 (eVar 7))
def m_parse_handler_10 : M Fl :=
(TW.sSeq m_parse_handler_9 m_parse_handler_8)
def m_parse_handler_11 : M Fl :=
(TW.sIf (TW.tVal (eCmp .isN (eVar 7) (eC .none)))
stuck
TW.sSkip)
def m_parse_handler_12 : M Fl :=
(TW.sSeq m_parse_handler_11 m_parse_handler_10)
def m_parse_handler_13 : M Fl :=
(TW.sAsg 7 (TW.eIf (TW.tVal (eCmp .lt (eBin .add (eVar 6) (eC (.int 1))) (eFn lenD (aCons (eVar 1) aNil)))) (eCall 1 K13.f_kind_in (aCons (eIx (eVar 1) (eBin .add (eVar 6) (eC (.int 1)))) aNil)) (eC .none)))
def m_parse_handler_14 : M Fl :=
(TW.sSeq m_parse_handler_13 m_parse_handler_12)
def m_parse_handler_15 : M Fl :=
(TW.sIf (TW.tOr (TW.tVal (eCmp .ge (eVar 6) (eFn lenD (aCons (eVar 1) aNil)))) (TW.tVal (eCmp .ne (eIx (eVar 1) (eVar 6)) (eC (.str "/")))))
stuck
TW.sSkip)
def m_parse_handler_16 : M Fl :=
(TW.sSeq m_parse_handler_15 m_parse_handler_14)
def m_parse_handler_17 : M Fl :=
(whileL (TW.tOr (TW.tVal (eCmp .lt (eVar 6) (eFn lenD (aCons (eVar 1) aNil)))) (TW.tVal (eOp eq0D (eVar 5) (eNw (nLst aNil)))))
m_parse_handler_16 wFuel)
def m_parse_handler_18 : M Fl :=
(TW.sSeq m_parse_handler_17 m_parse_handler_7)
def m_parse_handler_19 : M Fl :=
(TW.sIf (TW.tVal (eCmp .isN (eVar 4) (eC .none)))
stuck
TW.sSkip)
def m_parse_handler_20 : M Fl :=
(TW.sSeq m_parse_handler_19 m_parse_handler_18)
def m_parse_handler_21 : M Fl :=
(sParP [4, 5, 6] (pDat (eCall 1 K13.f_row_in (aCons (eIx (eVar 1) (eC (.int 0))) aNil)) (pOwn (nLst aNil) (pDat (eC (.int 1)) pNil))))
def m_parse_handler_22 : M Fl :=
(TW.sSeq m_parse_handler_21 m_parse_handler_20)
def m_parse_handler_23 : M Fl :=
(TW.sAsg 1 (eNw (nSplit (eVar 0) (eC (.str " ")))))
def m_parse_handler_24 : M Fl :=
(TW.sSeq m_parse_handler_23 m_parse_handler_22)
def m_parse_handler_25 : M Fl :=
(TW.sIf (TW.tNot (TW.tVal (eIs .str (eVar 0))))
stuck
TW.sSkip)
def m_parse_handler : M Fl :=
(TW.sSeq m_parse_handler_25 m_parse_handler_24)
def f_parse_handler : Sem := runF 8 m_parse_handler
def m_law_log : M Fl :=
(TW.sRet (eFn tupleD (aCons (eNw (nCmp [3] (iRg1 (eCall 2 drawF (aCons (eVar 0) (aCons (eBin .add (eVar 2) (eC (.int 1))) aNil)))) (tgName 3) (pure true) (eCall 2 drawF (aCons (eVar 0) (aCons (eFn lenD (aCons (eIx (eVar 1) (eC (.int 1))) aNil)) aNil))))) aNil)))
def f_law_log : Sem := runF 4 m_law_log
def m_law_row_text : M Fl :=
(TW.sRet (eJoin (eC (.str ",")) (eNw (nCmp [1] (iSeqM (eVar 0)) (tgName 1) (pure true) (TW.eIf (TW.tVal (eCmp .isN (eVar 1) (eC .none))) (eC (.str "-")) (eFn strD (aCons (eVar 1) aNil)))))))
def f_law_row_text : Sem := runF 2 m_law_row_text
def m_law_kind_text : M Fl :=
(TW.sRet (eBin .add (eBin .add (eFn strD (aCons (eIx (eVar 0) (eC (.int 0))) aNil)) (eC (.str ":"))) (eCall 1 f_law_row_text (aCons (eIx (eVar 0) (eC (.int 1))) aNil))))
def f_law_kind_text : Sem := runF 1 m_law_kind_text
def m_law_handler_text : M Fl :=
(TW.sRet (eJoin (eC (.str " ")) (eBin .add (eNw (nLst (aCons (eCall 1 f_law_row_text (aCons (eIx (eVar 0) (eC (.int 0))) aNil)) aNil))) (eNw (nCmp [1] (iSeqM (eIx (eVar 0) (eC (.int 1)))) (tgName 1) (pure true) (eBin .add (eC (.str "/ ")) (eCall 1 f_law_kind_text (aCons (eVar 1) aNil))))))))
def f_law_handler_text : Sem := runF 2 m_law_handler_text
def m_law_plan_text : M Fl :=
(TW.sRet (eJoin (eC (.str " ")) (eBin .add (eNw (nLst (aCons (eCall 1 f_law_row_text (aCons (eIx (eVar 0) (eC (.int 0))) aNil)) aNil))) (eNw (nCmp [1] (iSeqM (eIx (eVar 0) (eC (.int 1)))) (tgName 1) (pure true) (eBin .add (eC (.str "/ ")) (eCall 1 f_law_row_text (aCons (eVar 1) aNil))))))))
def f_law_plan_text : Sem := runF 2 m_law_plan_text
def m_law_1 : M Fl :=
(TW.sRet (eC (.bool true)))
def m_law_2 : M Fl :=
(TW.sIf (TW.tOr (TW.tVal (eCmp .ne (eCall 1 f_log_text (aCons (eVar 6) aNil)) (eVar 4))) (TW.tOr (TW.tVal (eCmp .ne (eCall 1 f_log_text (aCons (eTup aNil) aNil)) (eC (.str "none")))) (TW.tVal (eCmp .ne (eFn reprD (aCons (eNw (nLst (aCons (eVar 3) (aCons (eVar 5) (aCons (eVar 6) aNil))))) aNil)) (eVar 7)))))
(TW.sRet (eC (.bool false)))
TW.sSkip)
def m_law_3 : M Fl :=
(TW.sAsg 4 (TW.eIf (TW.tVal (eOp eq0D (eVar 6) (eTup aNil))) (eC (.str "none")) (eJoin (eC (.str " ")) (eNw (nCmp [10] (iSeqM (eVar 6)) (tgName 10) (pure true) (eFn strD (aCons (eVar 10) aNil)))))))
def m_law_4 : M Fl :=
(TW.sSeq m_law_3 m_law_2)
def m_law_5 : M Fl :=
(TW.sIf (TW.tVal (eCmp .ne (eNw (nLst (aCons (eCall 1 f_plan_text (aCons (eVar 5) aNil)) (aCons (eCall 1 f_plan_text (aCons (eVar 5) aNil)) aNil)))) (eBin .mul (eNw (nLst (aCons (eCall 1 f_law_plan_text (aCons (eVar 5) aNil)) aNil))) (eC (.int 2)))))
(TW.sRet (eC (.bool false)))
TW.sSkip)
def m_law_6 : M Fl :=
(TW.sSeq m_law_5 m_law_4)
def m_law_7 : M Fl :=
(TW.sIf (TW.tVal (eCmp .ne (eNw (nCmp [9] (iSeqM (eIx (eVar 3) (eC (.int 1)))) (tgName 9) (pure true) (eCall 1 f_kind_text (aCons (eVar 9) aNil)))) (eNw (nCmp [9] (iSeqM (eIx (eVar 3) (eC (.int 1)))) (tgName 9) (pure true) (eCall 1 f_law_kind_text (aCons (eVar 9) aNil))))))
(TW.sRet (eC (.bool false)))
TW.sSkip)
def m_law_8 : M Fl :=
(TW.sSeq m_law_7 m_law_6)
def m_law_9 : M Fl :=
(TW.sIf (TW.tOr (TW.tVal (eCmp .ne (eNw (nLst (aCons (eCall 1 f_handler_text (aCons (eVar 3) aNil)) (aCons (eCall 1 f_handler_text (aCons (eVar 3) aNil)) aNil)))) (eNw (nLst (aCons (eVar 8) (aCons (eVar 8) aNil)))))) (TW.tVal (eCmp .ne (eFn reprD (aCons (eCall 1 f_parse_handler (aCons (eVar 8) aNil)) aNil)) (eFn reprD (aCons (eVar 3) aNil)))))
(TW.sRet (eC (.bool false)))
TW.sSkip)
def m_law_10 : M Fl :=
(TW.sSeq m_law_9 m_law_8)
def m_law_11 : M Fl :=
(TW.sPar [tgName 7, tgName 8] (aCons (eFn reprD (aCons (eNw (nLst (aCons (eVar 3) (aCons (eVar 5) (aCons (eVar 6) aNil))))) aNil)) (aCons (eCall 1 f_law_handler_text (aCons (eVar 3) aNil)) aNil)))
def m_law_12 : M Fl :=
(TW.sSeq m_law_11 m_law_10)
def m_law_13 : M Fl :=
(TW.sPar [tgName 5, tgName 6] (aCons (eCall 3 K08.f_law_plan (aCons (eVar 1) (aCons (eVar 3) (aCons (eC (.int 6)) aNil)))) (aCons (eCall 3 f_law_log (aCons (eVar 1) (aCons (eVar 3) (aCons (eIx (eNw (nLst (aCons (eC (.int 3)) (aCons (eC (.int 200)) aNil)))) (eBin .mod (eVar 2) (eC (.int 2)))) aNil)))) aNil)))
def m_law_14 : M Fl :=
(TW.sSeq m_law_13 m_law_12)
def m_law_15 : M Fl :=
(TW.sAsg 3 (eCall 3 K02.f_law_handler (aCons (eVar 1) (aCons (eC (.int 8)) (aCons (eC (.int 6)) aNil)))))
def m_law_16 : M Fl :=
(TW.sSeq m_law_15 m_law_14)
def m_law_17 : M Fl :=
(TW.sFor (iRg1 (eC (.int 16))) (tgName 2)
m_law_16)
def m_law : M Fl :=
(TW.sSeq m_law_17 m_law_1)
end K12
set_option linter.all false
set_option Elab.async false
set_option maxHeartbeats 0
set_option maxRecDepth 10000
namespace K13
open PySem TW K02
open TL (joinL tl_join join_eq)
open L2 (cutS atI)
open PySem.Builtin.Str (glued)
theorem join_split (x y : Str) : Txt.join y (Txt.split x y) = x := by
  unfold Txt.split
  split
  · rfl
  · split
    · rfl
    · exact PySem.StrLaws.glued_between_self x y _
theorem split_sum (x y : Str) : ((Txt.split x y).map (·.length)).sum + ((Txt.split x y).length - 1) * y.length = x.length := by
  have h := PySem.size_glued y (Txt.split x y)
  have e : (glued y (Txt.split x y)).length = x.length := congrArg Str.length (join_split x y)
  rw [← h, e]
theorem le_sum : ∀ {l : List Str} {p : Str}, p ∈ l → p.length ≤ (l.map (·.length)).sum
  | a :: l, p, h => by
    rw [List.map_cons, List.sum_cons]
    rcases List.mem_cons.mp h with rfl | h
    · omega
    · have := le_sum h
      omega
theorem split_part {x y p : Str} (h : p ∈ Txt.split x y) : p.length ≤ x.length := by
  have h1 := split_sum x y
  have h2 := le_sum h
  omega
theorem split_len {x y : Str} (hy : 1 ≤ y.length) : (Txt.split x y).length ≤ x.length + 1 := by
  have h1 := split_sum x y
  have h2 : (Txt.split x y).length - 1 ≤ ((Txt.split x y).length - 1) * y.length := Nat.le_mul_of_pos_right _ hy
  omega
theorem split_ne {x y : Str} : Txt.split x y ≠ [] := by
  unfold Txt.split
  split
  · simp
  · split
    · simp
    · intro h
      have := congrArg List.length h
      rw [PySem.length_partsBetween] at this
      cases this
theorem mem_joinL {S : List Nat} : ∀ {ps : List (List Nat)} {p : List Nat}, p ∈ ps → ∀ c ∈ p, c ∈ joinL S ps
  | [q], p, h, c, hc => by
    rw [List.mem_singleton.mp h] at hc
    exact hc
  | q :: r :: ps, p, h, c, hc => by
    show c ∈ q ++ (S ++ joinL S (r :: ps))
    rcases List.mem_cons.mp h with rfl | h
    · exact List.mem_append_left _ hc
    · exact List.mem_append_right _ (List.mem_append_right _ (mem_joinL h c hc))
theorem split_mem {x y p : Str} (h : p ∈ Txt.split x y) {c : Nat} (hc : c ∈ p.cps.toList) : c ∈ x.cps.toList := by
  have e := tl_join y (Txt.split x y)
  rw [← join_eq, join_split] at e
  have h2 : c ∈ joinL (TL.tl y) ((Txt.split x y).map TL.tl) := mem_joinL (List.mem_map.mpr ⟨p, h, rfl⟩) c hc
  rw [← e] at h2
  exact h2
theorem ok_iff {x : Str} : PyData.strOk x = true ↔ ∀ c ∈ x.cps.toList, c < 0x110000 := by
  unfold PyData.strOk
  rw [← Array.all_toList, List.all_eq_true]
  exact ⟨fun h c hc => of_decide_eq_true (h c hc), fun h c hc => decide_eq_true (h c hc)⟩
theorem split_ok {x y p : Str} (hx : PyData.strOk x = true) (h : p ∈ Txt.split x y) : PyData.strOk p = true := ok_iff.mpr fun c hc => ok_iff.mp hx c (split_mem h hc)
structure Tx (n : Nat) (z : Str) : Prop where
  l : z.length ≤ n
  k : PyData.strOk z = true
theorem Tx.part {n : Nat} {z y p : Str} (h : Tx n z) (hp : p ∈ Txt.split z y) : Tx n p := ⟨Nat.le_trans (split_part hp) h.l, split_ok h.k hp⟩
def dig : Str := "0123456789"
def zS : Str := "0"
theorem dig_list : dig.cps.toList = [48, 49, 50, 51, 52, 53, 54, 55, 56, 57] := by decide +kernel
def dB (c : Nat) : Bool := decide (c ∈ dig.cps.toList)
theorem dB_iff {c : Nat} : dB c = true ↔ 48 ≤ c ∧ c ≤ 57 := by
  unfold dB
  rw [dig_list, decide_eq_true_eq]
  simp only [List.mem_cons, List.not_mem_nil, or_false]
  omega
def chB : PyData → Bool
  | .str s => s.cps.toList.all dB
  | _ => false
def digB (z : Str) : Bool := z.cps.toList.all dB
def numT (z : Str) : PyData := if (((⟨#[z.cps.toList.headD 0]⟩ : Str) == zS) && !(z == zS)) = true then .none else .int ((PySem.NumText.digitsVal z.cps.toList : Nat) : Int)
def numF (z : Str) : PyData := if (decide ((1 : Int) ≤ (z.length : Int)) && decide ((z.length : Int) ≤ 12)) = true then (if digB z = true then numT z else .none) else .none
def chs (z : Str) : List PyData := z.cps.toList.map fun c => .str ⟨#[c]⟩
theorem chs_len {z : Str} : (chs z).length = z.length := by
  unfold chs
  rw [List.length_map]
  exact Array.length_toList
theorem chs_all {z : Str} : (chs z).all chB = digB z := by
  unfold chs digB
  rw [List.all_map]
  congr 1
  funext c
  show ([c].all dB) = dB c
  simp
theorem in_ch {c : Nat} : inTxD (.str ⟨#[c]⟩) (.str "0123456789") = some (.bool (dB c)) := rfl
theorem ch_mem {z : Str} {d : PyData} (h : d ∈ chs z) : ∃ c, d = .str ⟨#[c]⟩ ∧ c ∈ z.cps.toList ∧ chB d = dB c := by
  unfold chs at h
  obtain ⟨c, hc, rfl⟩ := List.mem_map.mp h
  refine ⟨c, rfl, hc, ?_⟩
  show ([c].all dB) = dB c
  simp
theorem int_tx {z : Str} (h1 : 1 ≤ z.length) (h12 : z.length ≤ 12) (hd : digB z = true) : intTxD [.str z] = some (.int ((PySem.NumText.digitsVal z.cps.toList : Nat) : Int)) := by
  unfold digB at hd
  rw [List.all_eq_true] at hd
  have hl : z.cps.toList.length = z.length := Array.length_toList
  have := PySem.intText_digits (x := z) (fun c hc => dB_iff.mp (hd c hc)) (by intro e; rw [e] at hl; simp at hl; omega) (by omega)
  show (if z.length ≤ 640 then (PySem.intText? z).map PyData.int else none) = _
  rw [if_pos (by omega), this]
  rfl
theorem ix_tx {z : Str} (h1 : 1 ≤ z.length) (h12 : z.length ≤ 12) : ixD' (.str z) (.int 0) = some (.str ⟨#[z.cps.toList.headD 0]⟩) := by
  have hl : z.cps.toList.length = z.length := Array.length_toList
  show (if z.length ≤ lim then (atI z.cps.toList 0).map (fun c => PyData.str ⟨#[c]⟩) else none) = _
  rw [if_pos (lim_le' (by omega))]
  generalize z.cps.toList = l at hl
  cases l with
  | nil => simp at hl; omega
  | cons c r =>
    have e : L2.ixN (c :: r).length 0 = some 0 := by
      unfold L2.ixN
      simp
    show ((L2.ixN (c :: r).length 0).bind fun j => (c :: r)[j]?).map _ = _
    rw [e]
    rfl
theorem one_ok {z : Str} (hk : PyData.strOk z = true) (h1 : 1 ≤ z.length) : PyData.strOk (⟨#[z.cps.toList.headD 0]⟩ : Str) = true := by
  have hl : z.cps.toList.length = z.length := Array.length_toList
  have := ok_iff.mp hk
  generalize z.cps.toList = l at hl this
  cases l with
  | nil => simp at hl; omega
  | cons c r =>
    refine ok_iff.mpr fun d hd => ?_
    have e : d = c := by simpa using hd
    rw [e]
    exact this c (by simp)
theorem zS_ok : PyData.strOk zS = true := okS_of _
theorem num_end {z : Str} (h1 : 1 ≤ z.length) (h12 : z.length ≤ 12) (hk : PyData.strOk z = true) (hd : digB z = true) (b : Option Bx) (Q : Fl → Sx → Prop) (x1 : SV) (h : Q (.rt (numT z)) ⟨[.dat (.str z), x1], b⟩) : pw m_number_in_1 ⟨[.dat (.str z), x1], b⟩ Q fun _ => False := by
  have e1 : cmpD .eq (.str ⟨#[z.cps.toList.headD 0]⟩) (.str "0") = some (.bool ((⟨#[z.cps.toList.headD 0]⟩ : Str) == zS)) := eq_str (one_ok hk h1) zS_ok
  have e2 : cmpD .ne (.str z) (.str "0") = some (.bool (!(z == zS))) := by
    rw [cmpD_ne, shp_str hk, shp_str (okS_of _)]
    simp [PyData.eqv, zS]
  unfold m_number_in_1
  unfold numT at h
  rcases Bool.eq_false_or_eq_true ((⟨#[z.cps.toList.headD 0]⟩ : Str) == zS) with h3 | h3
  · rw [h3] at h
    rcases Bool.eq_false_or_eq_true (z == zS) with h4 | h4
    · rw [h4] at h
      simp only [eCmp, eBin, eOp, eUn, eFn, eIx, eSlc, eChn, TW.tVal, TW.tNot, TW.tAnd, TW.tOr, TW.eIf, TW.eAnd, TW.eOr, TW.eNot, eIs, aNil, aCons, aStar, itemsO, eTup, nLst, eNw, pNone, pSome, TW.sSkip, TW.sSeq, TW.sAsg, TW.sAsgN, TW.sRet, TW.sRetN, TW.sIf, tgName, tgAll, tgTup, TW.sTg, TW.sPar, TW.sFor, iSeqM, iRg1, iRg2, iEnM, ownL, sApp, tgSet, ePop, ePopA, eCall, peeks, takes, hands, boolD, pw_bind, qQ, wipeR, reduceIte, nOp, nList, isD, lenD, wW, ix_tx h1 h12, e1, h3, e2, h4, int_tx h1 h12 hd]
      exact h
    · rw [h4] at h
      simp only [eCmp, eBin, eOp, eUn, eFn, eIx, eSlc, eChn, TW.tVal, TW.tNot, TW.tAnd, TW.tOr, TW.eIf, TW.eAnd, TW.eOr, TW.eNot, eIs, aNil, aCons, aStar, itemsO, eTup, nLst, eNw, pNone, pSome, TW.sSkip, TW.sSeq, TW.sAsg, TW.sAsgN, TW.sRet, TW.sRetN, TW.sIf, tgName, tgAll, tgTup, TW.sTg, TW.sPar, TW.sFor, iSeqM, iRg1, iRg2, iEnM, ownL, sApp, tgSet, ePop, ePopA, eCall, peeks, takes, hands, boolD, pw_bind, qQ, wipeR, reduceIte, nOp, nList, isD, lenD, wW, ix_tx h1 h12, e1, h3, e2, h4]
      exact h
  · rw [h3] at h
    simp only [eCmp, eBin, eOp, eUn, eFn, eIx, eSlc, eChn, TW.tVal, TW.tNot, TW.tAnd, TW.tOr, TW.eIf, TW.eAnd, TW.eOr, TW.eNot, eIs, aNil, aCons, aStar, itemsO, eTup, nLst, eNw, pNone, pSome, TW.sSkip, TW.sSeq, TW.sAsg, TW.sAsgN, TW.sRet, TW.sRetN, TW.sIf, tgName, tgAll, tgTup, TW.sTg, TW.sPar, TW.sFor, iSeqM, iRg1, iRg2, iEnM, ownL, sApp, tgSet, ePop, ePopA, eCall, peeks, takes, hands, boolD, pw_bind, qQ, wipeR, reduceIte, nOp, nList, isD, lenD, wW, ix_tx h1 h12, e1, h3, int_tx h1 h12 hd]
    exact h
theorem r_number_in {z : Str} (T : Tx 100000 z) (b : Option Bx) : Runs f_number_in [.dat (.str z)] b fun d b' => d = numF z ∧ b' = b := by
  have hl := T.l
  refine runs_of ?_
  unfold m_number_in m_number_in_2 numF
  simp only [List.map_cons, List.map_nil, argSV, List.length_cons, List.length_nil, Nat.reduceAdd, Nat.reduceSub, List.replicate, List.cons_append, List.nil_append]
  have hlm : z.length ≤ lim := lim_le' (by omega)
  simp only [eCmp, eBin, eOp, eUn, eFn, eIx, eSlc, eChn, TW.tVal, TW.tNot, TW.tAnd, TW.tOr, TW.eIf, TW.eAnd, TW.eOr, TW.eNot, eIs, aNil, aCons, aStar, itemsO, eTup, nLst, eNw, pNone, pSome, TW.sSkip, TW.sSeq, TW.sAsg, TW.sAsgN, TW.sRet, TW.sRetN, TW.sIf, tgName, tgAll, tgTup, TW.sTg, TW.sPar, TW.sFor, iSeqM, iRg1, iRg2, iEnM, ownL, sApp, tgSet, ePop, ePopA, eCall, peeks, takes, hands, boolD, pw_bind, qQ, wipeR, reduceIte, nOp, nList, isD, lenD, wW, hlm, eChn]
  rcases Bool.eq_false_or_eq_true (decide ((1 : Int) ≤ (z.length : Int))) with q1 | q1
  · rcases Bool.eq_false_or_eq_true (decide ((z.length : Int) ≤ 12)) with q2 | q2
    · have h1 := of_decide_eq_true q1
      have h12 := of_decide_eq_true q2
      have go := num_end (z := z) (by omega) (by omega) T.k
      rw [q1, q2]
      simp only [eCmp, eBin, eOp, eUn, eFn, eIx, eSlc, eChn, TW.tVal, TW.tNot, TW.tAnd, TW.tOr, TW.eIf, TW.eAnd, TW.eOr, TW.eNot, eIs, aNil, aCons, aStar, itemsO, eTup, nLst, eNw, pNone, pSome, TW.sSkip, TW.sSeq, TW.sAsg, TW.sAsgN, TW.sRet, TW.sRetN, TW.sIf, tgName, tgAll, tgTup, TW.sTg, TW.sPar, TW.sFor, iSeqM, iRg1, iRg2, iEnM, ownL, sApp, tgSet, ePop, ePopA, eCall, peeks, takes, hands, boolD, pw_bind, qQ, wipeR, reduceIte, nOp, nList, isD, lenD, wW]
      refine q_map1 (fun d => .bool (chB d)) ?_
      simp only [eCmp, eBin, eOp, eUn, eFn, eIx, eSlc, eChn, TW.tVal, TW.tNot, TW.tAnd, TW.tOr, TW.eIf, TW.eAnd, TW.eOr, TW.eNot, eIs, aNil, aCons, aStar, itemsO, eTup, nLst, eNw, pNone, pSome, TW.sSkip, TW.sSeq, TW.sAsg, TW.sAsgN, TW.sRet, TW.sRetN, TW.sIf, tgName, tgAll, tgTup, TW.sTg, TW.sPar, TW.sFor, iSeqM, iRg1, iRg2, iEnM, ownL, sApp, tgSet, ePop, ePopA, eCall, peeks, takes, hands, boolD, pw_bind, qQ, wipeR, reduceIte, nOp, nList, isD, lenD, wW, iStM]
      refine ⟨lim_le' (by show (chs z).length ≤ _; rw [chs_len]; omega), fun d hd => ?_, ?_⟩
      · obtain ⟨c, rfl, _, e⟩ := ch_mem (z := z) hd
        simp only [eCmp, eBin, eOp, eUn, eFn, eIx, eSlc, eChn, TW.tVal, TW.tNot, TW.tAnd, TW.tOr, TW.eIf, TW.eAnd, TW.eOr, TW.eNot, eIs, aNil, aCons, aStar, itemsO, eTup, nLst, eNw, pNone, pSome, TW.sSkip, TW.sSeq, TW.sAsg, TW.sAsgN, TW.sRet, TW.sRetN, TW.sIf, tgName, tgAll, tgTup, TW.sTg, TW.sPar, TW.sFor, iSeqM, iRg1, iRg2, iEnM, ownL, sApp, tgSet, ePop, ePopA, eCall, peeks, takes, hands, boolD, pw_bind, qQ, wipeR, reduceIte, nOp, nList, isD, lenD, wW, in_ch, e]
      · have e : ((z.cps.toList.map fun c => PyData.str ⟨#[c]⟩).map fun d => PyData.bool (chB d)) = ((chs z).map chB).map PyData.bool := by
          unfold chs
          rw [List.map_map, List.map_map, List.map_map]
          rfl
        have e2 : ((chs z).map chB).all id = digB z := by
          rw [List.all_map]
          exact chs_all
        rw [e]
        simp only [eCmp, eBin, eOp, eUn, eFn, eIx, eSlc, eChn, TW.tVal, TW.tNot, TW.tAnd, TW.tOr, TW.eIf, TW.eAnd, TW.eOr, TW.eNot, eIs, aNil, aCons, aStar, itemsO, eTup, nLst, eNw, pNone, pSome, TW.sSkip, TW.sSeq, TW.sAsg, TW.sAsgN, TW.sRet, TW.sRetN, TW.sIf, tgName, tgAll, tgTup, TW.sTg, TW.sPar, TW.sFor, iSeqM, iRg1, iRg2, iEnM, ownL, sApp, tgSet, ePop, ePopA, eCall, peeks, takes, hands, boolD, pw_bind, qQ, wipeR, reduceIte, nOp, nList, isD, lenD, wW, allD_bools, e2, keepD]
        rcases Bool.eq_false_or_eq_true (digB z) with h3 | h3
        · rw [h3]
          simp only [eCmp, eBin, eOp, eUn, eFn, eIx, eSlc, eChn, TW.tVal, TW.tNot, TW.tAnd, TW.tOr, TW.eIf, TW.eAnd, TW.eOr, TW.eNot, eIs, aNil, aCons, aStar, itemsO, eTup, nLst, eNw, pNone, pSome, TW.sSkip, TW.sSeq, TW.sAsg, TW.sAsgN, TW.sRet, TW.sRetN, TW.sIf, tgName, tgAll, tgTup, TW.sTg, TW.sPar, TW.sFor, iSeqM, iRg1, iRg2, iEnM, ownL, sApp, tgSet, ePop, ePopA, eCall, peeks, takes, hands, boolD, pw_bind, qQ, wipeR, reduceIte, nOp, nList, isD, lenD, wW]
          exact go h3 _ _ _ ⟨rfl, rfl⟩
        · rw [h3]
          simp only [eCmp, eBin, eOp, eUn, eFn, eIx, eSlc, eChn, TW.tVal, TW.tNot, TW.tAnd, TW.tOr, TW.eIf, TW.eAnd, TW.eOr, TW.eNot, eIs, aNil, aCons, aStar, itemsO, eTup, nLst, eNw, pNone, pSome, TW.sSkip, TW.sSeq, TW.sAsg, TW.sAsgN, TW.sRet, TW.sRetN, TW.sIf, tgName, tgAll, tgTup, TW.sTg, TW.sPar, TW.sFor, iSeqM, iRg1, iRg2, iEnM, ownL, sApp, tgSet, ePop, ePopA, eCall, peeks, takes, hands, boolD, pw_bind, qQ, wipeR, reduceIte, nOp, nList, isD, lenD, wW]
    · rw [q1, q2]
      simp only [eCmp, eBin, eOp, eUn, eFn, eIx, eSlc, eChn, TW.tVal, TW.tNot, TW.tAnd, TW.tOr, TW.eIf, TW.eAnd, TW.eOr, TW.eNot, eIs, aNil, aCons, aStar, itemsO, eTup, nLst, eNw, pNone, pSome, TW.sSkip, TW.sSeq, TW.sAsg, TW.sAsgN, TW.sRet, TW.sRetN, TW.sIf, tgName, tgAll, tgTup, TW.sTg, TW.sPar, TW.sFor, iSeqM, iRg1, iRg2, iEnM, ownL, sApp, tgSet, ePop, ePopA, eCall, peeks, takes, hands, boolD, pw_bind, qQ, wipeR, reduceIte, nOp, nList, isD, lenD, wW]
  · rw [q1]
    simp only [eCmp, eBin, eOp, eUn, eFn, eIx, eSlc, eChn, TW.tVal, TW.tNot, TW.tAnd, TW.tOr, TW.eIf, TW.eAnd, TW.eOr, TW.eNot, eIs, aNil, aCons, aStar, itemsO, eTup, nLst, eNw, pNone, pSome, TW.sSkip, TW.sSeq, TW.sAsg, TW.sAsgN, TW.sRet, TW.sRetN, TW.sIf, tgName, tgAll, tgTup, TW.sTg, TW.sPar, TW.sFor, iSeqM, iRg1, iRg2, iEnM, ownL, sApp, tgSet, ePop, ePopA, eCall, peeks, takes, hands, boolD, pw_bind, qQ, wipeR, reduceIte, nOp, nList, isD, lenD, wW]
theorem num_cases (z : Str) : numF z = .none ∨ ∃ k : Nat, numF z = .int (k : Nat) := by
  unfold numF
  split
  · split
    · unfold numT
      split
      · exact .inl rfl
      · exact .inr ⟨_, rfl⟩
    · exact .inl rfl
  · exact .inl rfl
def parts (z : Str) (y : String) : List Str := Txt.split z y
def rowL (z : Str) : List PyData := (parts z ",").map numF
def rowF (z : Str) : PyData := if (rowL z).any isNoneD = true then .none else .tuple (rowL z)
def strF (f : Str → PyData) : PyData → PyData
  | .str z => f z
  | d => d
theorem split_run {z : Str} (T : Tx 100000 z) {y : String} (hy : ((y : Str).length == 0) = false) : splitD (.str z) (.str y) = some ((parts z y).map PyData.str) := if_pos ⟨hy, lim_le' (by have := T.l; omega)⟩
theorem eqv_none : ∀ d : PyData, PyData.eqv d .none = isNoneD d
  | .none => rfl
  | .bool _ => rfl
  | .int _ => rfl
  | .str _ => rfl
  | .list _ => rfl
  | .tuple _ => rfl
  | .dict _ => rfl
theorem row_flat {z : Str} : (rowL z).all flatD = true := by
  rw [List.all_eq_true]
  intro d hd
  obtain ⟨p, _, rfl⟩ := List.mem_map.mp hd
  rcases num_cases p with h | ⟨k, h⟩ <;> rw [h] <;> rfl
theorem none_in {z : Str} : memD false .none (.list (rowL z)) = some (.bool ((rowL z).any isNoneD)) := by
  show (if (flatD .none && (rowL z).all flatD) = true then some (PyData.bool (member .none (rowL z) != false)) else none) = _
  rw [row_flat, if_pos (show (flatD .none && true) = true from rfl)]
  have e : member .none (rowL z) = (rowL z).any isNoneD := by
    unfold member
    congr 1
    funext d
    exact eqv_none d
  rw [e, Bool.bne_false]
theorem comma_len : (("," : String) : Str).length = 1 := by decide
theorem row_len {z : Str} : (rowL z).length ≤ z.length + 1 := by
  unfold rowL parts
  rw [List.length_map]
  exact split_len (by rw [comma_len]; exact Nat.le_refl _)
theorem row_run {z : Str} (T : Tx 100000 z) (F : Sem) (hF : ∀ p, Tx 100000 p → ∀ b, Runs F [.dat (.str p)] b fun d b' => d = numF p ∧ b' = b) (b : Option Bx) : Runs (runF 3 (TW.sSeq (TW.sAsg 1 (eNw (nCmp [2] (iSeqM (eNw (nSplit (eVar 0) (eC (.str ","))))) (tgName 2) (pure true) (eCall 1 F (aCons (eVar 2) aNil)))))
    (TW.sRet (TW.eIf (TW.tVal (eOp (memD false) (eC .none) (eVar 1))) (eC .none) (eFn tupleD (aCons (eVar 1) aNil)))))) [.dat (.str z)] b fun d b' => d = rowF z ∧ b' = b := by
  have hl := T.l
  have hsp := split_run T (y := ",") (by decide)
  have hrl : (rowL z).length ≤ lim := lim_le' (by have := row_len (z := z); omega)
  refine runs_of ?_
  simp only [List.map_cons, List.map_nil, argSV, List.length_cons, List.length_nil, Nat.reduceAdd, Nat.reduceSub, List.replicate, List.cons_append, List.nil_append]
  simp only [eCmp, eBin, eOp, eUn, eFn, eIx, eSlc, eChn, TW.tVal, TW.tNot, TW.tAnd, TW.tOr, TW.eIf, TW.eAnd, TW.eOr, TW.eNot, eIs, aNil, aCons, aStar, itemsO, eTup, nLst, eNw, pNone, pSome, TW.sSkip, TW.sSeq, TW.sAsg, TW.sAsgN, TW.sRet, TW.sRetN, TW.sIf, tgName, tgAll, tgTup, TW.sTg, TW.sPar, TW.sFor, iSeqM, iRg1, iRg2, iEnM, ownL, sApp, tgSet, ePop, ePopA, eCall, peeks, takes, hands, boolD, pw_bind, qQ, wipeR, reduceIte, nOp, nList, isD, lenD, wW]
  refine q_map1 (strF numF) ?_
  simp only [eCmp, eBin, eOp, eUn, eFn, eIx, eSlc, eChn, TW.tVal, TW.tNot, TW.tAnd, TW.tOr, TW.eIf, TW.eAnd, TW.eOr, TW.eNot, eIs, aNil, aCons, aStar, itemsO, eTup, nLst, eNw, pNone, pSome, TW.sSkip, TW.sSeq, TW.sAsg, TW.sAsgN, TW.sRet, TW.sRetN, TW.sIf, tgName, tgAll, tgTup, TW.sTg, TW.sPar, TW.sFor, iSeqM, iRg1, iRg2, iEnM, ownL, sApp, tgSet, ePop, ePopA, eCall, peeks, takes, hands, boolD, pw_bind, qQ, wipeR, reduceIte, nOp, nList, isD, lenD, wW, nSplit, hsp]
  refine ⟨by rw [List.length_map]; unfold rowL at hrl; rw [List.length_map] at hrl; exact hrl, fun d hd => ?_, ?_⟩
  · obtain ⟨p, hp, rfl⟩ := List.mem_map.mp hd
    refine q_callR (hF p (T.part hp) b) rfl ?_
    rintro _ _ ⟨rfl, rfl⟩
    simp only [eCmp, eBin, eOp, eUn, eFn, eIx, eSlc, eChn, TW.tVal, TW.tNot, TW.tAnd, TW.tOr, TW.eIf, TW.eAnd, TW.eOr, TW.eNot, eIs, aNil, aCons, aStar, itemsO, eTup, nLst, eNw, pNone, pSome, TW.sSkip, TW.sSeq, TW.sAsg, TW.sAsgN, TW.sRet, TW.sRetN, TW.sIf, tgName, tgAll, tgTup, TW.sTg, TW.sPar, TW.sFor, iSeqM, iRg1, iRg2, iEnM, ownL, sApp, tgSet, ePop, ePopA, eCall, peeks, takes, hands, boolD, pw_bind, qQ, wipeR, reduceIte, nOp, nList, isD, lenD, wW]
    rfl
  · have e : ((parts z ",").map PyData.str).map (strF numF) = rowL z := by
      rw [List.map_map]
      rfl
    rw [e]
    unfold rowF
    rcases Bool.eq_false_or_eq_true ((rowL z).any isNoneD) with h | h
    · simp only [eCmp, eBin, eOp, eUn, eFn, eIx, eSlc, eChn, TW.tVal, TW.tNot, TW.tAnd, TW.tOr, TW.eIf, TW.eAnd, TW.eOr, TW.eNot, eIs, aNil, aCons, aStar, itemsO, eTup, nLst, eNw, pNone, pSome, TW.sSkip, TW.sSeq, TW.sAsg, TW.sAsgN, TW.sRet, TW.sRetN, TW.sIf, tgName, tgAll, tgTup, TW.sTg, TW.sPar, TW.sFor, iSeqM, iRg1, iRg2, iEnM, ownL, sApp, tgSet, ePop, ePopA, eCall, peeks, takes, hands, boolD, pw_bind, qQ, wipeR, reduceIte, nOp, nList, isD, lenD, wW, none_in, h, keepD]
    · simp only [eCmp, eBin, eOp, eUn, eFn, eIx, eSlc, eChn, TW.tVal, TW.tNot, TW.tAnd, TW.tOr, TW.eIf, TW.eAnd, TW.eOr, TW.eNot, eIs, aNil, aCons, aStar, itemsO, eTup, nLst, eNw, pNone, pSome, TW.sSkip, TW.sSeq, TW.sAsg, TW.sAsgN, TW.sRet, TW.sRetN, TW.sIf, tgName, tgAll, tgTup, TW.sTg, TW.sPar, TW.sFor, iSeqM, iRg1, iRg2, iEnM, ownL, sApp, tgSet, ePop, ePopA, eCall, peeks, takes, hands, boolD, pw_bind, qQ, wipeR, reduceIte, nOp, nList, isD, lenD, wW, none_in, h, keepD, tupleD]
theorem r_row_in {z : Str} (T : Tx 100000 z) (b : Option Bx) : Runs f_row_in [.dat (.str z)] b fun d b' => d = rowF z ∧ b' = b := row_run T f_number_in (fun p hp b => r_number_in hp b) b
def kindG (a c : PyData) : PyData := if isNoneD a = true then .none else if isNoneD c = true then .none else .tuple [a, c]
def kindF (z : Str) : PyData := match parts z ":" with
  | [a, c] => kindG (numF a) (rowF c)
  | _ => .none
theorem kind_long {z : Str} (h : (parts z ":").length ≠ 2) : kindF z = .none := by
  unfold kindF
  split
  · rename_i e
    rw [e] at h
    exact absurd rfl h
  · rfl
theorem part_lim {z : Str} (T : Tx 100000 z) {y : String} (hy : 1 ≤ (y : Str).length) : ((parts z y).map PyData.str).length ≤ 100001 := by
  rw [List.length_map]
  have := split_len (x := z) (y := y) hy
  have := T.l
  unfold parts
  omega
theorem r_kind_in {z : Str} (T : Tx 100000 z) (b : Option Bx) : Runs f_kind_in [.dat (.str z)] b fun d b' => d = kindF z ∧ b' = b := by
  have hsp := split_run T (y := ":") (by decide)
  have hlm : ((parts z ":").map PyData.str).length ≤ lim := lim_le' (by have := part_lim T (y := ":") (by decide); omega)
  refine runs_of ?_
  unfold m_kind_in m_kind_in_6 m_kind_in_5 m_kind_in_4
  simp only [List.map_cons, List.map_nil, argSV, List.length_cons, List.length_nil, Nat.reduceAdd, Nat.reduceSub, List.replicate, List.cons_append, List.nil_append]
  simp only [eCmp, eBin, eOp, eUn, eFn, eIx, eSlc, eChn, TW.tVal, TW.tNot, TW.tAnd, TW.tOr, TW.eIf, TW.eAnd, TW.eOr, TW.eNot, eIs, aNil, aCons, aStar, itemsO, eTup, nLst, eNw, pNone, pSome, TW.sSkip, TW.sSeq, TW.sAsg, TW.sAsgN, TW.sRet, TW.sRetN, TW.sIf, tgName, tgAll, tgTup, TW.sTg, TW.sPar, TW.sFor, iSeqM, iRg1, iRg2, iEnM, ownL, sApp, tgSet, ePop, ePopA, eCall, peeks, takes, hands, boolD, pw_bind, qQ, wipeR, reduceIte, nOp, nList, isD, lenD, wW, nSplit, hsp, hlm]
  by_cases h2 : (parts z ":").length = 2
  · obtain ⟨a, c, e⟩ : ∃ a c, parts z ":" = [a, c] := by
      match hq : parts z ":", h2 with
      | [a, c], _ => exact ⟨a, c, rfl⟩
    have ha : Tx 100000 a := T.part (y := ":") (by show a ∈ parts z ":"; rw [e]; simp)
    have hc : Tx 100000 c := T.part (y := ":") (by show c ∈ parts z ":"; rw [e]; simp)
    have d2 : decide (((([a, c] : List Str).map PyData.str).length : Int) = 2) = true := rfl
    have i0 : ixD' (.list (([a, c] : List Str).map PyData.str)) (.int 0) = some (.str a) := ixLN (j := 0) rfl
    have i1 : ixD' (.list (([a, c] : List Str).map PyData.str)) (.int 1) = some (.str c) := ixLN (j := 1) rfl
    have ek : kindF z = kindG (numF a) (rowF c) := by unfold kindF; rw [e]
    rw [e, ek]
    unfold m_kind_in_3 m_kind_in_2 m_kind_in_1 kindG
    generalize ([a, c] : List Str).map PyData.str = L at d2 i0 i1 ⊢
    simp only [eCmp, eBin, eOp, eUn, eFn, eIx, eSlc, eChn, TW.tVal, TW.tNot, TW.tAnd, TW.tOr, TW.eIf, TW.eAnd, TW.eOr, TW.eNot, eIs, aNil, aCons, aStar, itemsO, eTup, nLst, eNw, pNone, pSome, TW.sSkip, TW.sSeq, TW.sAsg, TW.sAsgN, TW.sRet, TW.sRetN, TW.sIf, tgName, tgAll, tgTup, TW.sTg, TW.sPar, TW.sFor, iSeqM, iRg1, iRg2, iEnM, ownL, sApp, tgSet, ePop, ePopA, eCall, peeks, takes, hands, boolD, pw_bind, qQ, wipeR, reduceIte, nOp, nList, isD, lenD, wW, d2, i0]
    refine q_callR (r_number_in ha b) rfl ?_
    rintro _ _ ⟨rfl, rfl⟩
    simp only [eCmp, eBin, eOp, eUn, eFn, eIx, eSlc, eChn, TW.tVal, TW.tNot, TW.tAnd, TW.tOr, TW.eIf, TW.eAnd, TW.eOr, TW.eNot, eIs, aNil, aCons, aStar, itemsO, eTup, nLst, eNw, pNone, pSome, TW.sSkip, TW.sSeq, TW.sAsg, TW.sAsgN, TW.sRet, TW.sRetN, TW.sIf, tgName, tgAll, tgTup, TW.sTg, TW.sPar, TW.sFor, iSeqM, iRg1, iRg2, iEnM, ownL, sApp, tgSet, ePop, ePopA, eCall, peeks, takes, hands, boolD, pw_bind, qQ, wipeR, reduceIte, nOp, nList, isD, lenD, wW, i1]
    refine q_callR (r_row_in hc _) rfl ?_
    rintro _ _ ⟨rfl, rfl⟩
    generalize numF a = x
    generalize rowF c = y
    rcases Bool.eq_false_or_eq_true (isNoneD x) with q1 | q1
    · simp only [eCmp, eBin, eOp, eUn, eFn, eIx, eSlc, eChn, TW.tVal, TW.tNot, TW.tAnd, TW.tOr, TW.eIf, TW.eAnd, TW.eOr, TW.eNot, eIs, aNil, aCons, aStar, itemsO, eTup, nLst, eNw, pNone, pSome, TW.sSkip, TW.sSeq, TW.sAsg, TW.sAsgN, TW.sRet, TW.sRetN, TW.sIf, tgName, tgAll, tgTup, TW.sTg, TW.sPar, TW.sFor, iSeqM, iRg1, iRg2, iEnM, ownL, sApp, tgSet, ePop, ePopA, eCall, peeks, takes, hands, boolD, pw_bind, qQ, wipeR, reduceIte, nOp, nList, isD, lenD, wW, tgAll, q1]
    · rcases Bool.eq_false_or_eq_true (isNoneD y) with q2 | q2
      · simp only [eCmp, eBin, eOp, eUn, eFn, eIx, eSlc, eChn, TW.tVal, TW.tNot, TW.tAnd, TW.tOr, TW.eIf, TW.eAnd, TW.eOr, TW.eNot, eIs, aNil, aCons, aStar, itemsO, eTup, nLst, eNw, pNone, pSome, TW.sSkip, TW.sSeq, TW.sAsg, TW.sAsgN, TW.sRet, TW.sRetN, TW.sIf, tgName, tgAll, tgTup, TW.sTg, TW.sPar, TW.sFor, iSeqM, iRg1, iRg2, iEnM, ownL, sApp, tgSet, ePop, ePopA, eCall, peeks, takes, hands, boolD, pw_bind, qQ, wipeR, reduceIte, nOp, nList, isD, lenD, wW, tgAll, q1, q2]
      · simp only [eCmp, eBin, eOp, eUn, eFn, eIx, eSlc, eChn, TW.tVal, TW.tNot, TW.tAnd, TW.tOr, TW.eIf, TW.eAnd, TW.eOr, TW.eNot, eIs, aNil, aCons, aStar, itemsO, eTup, nLst, eNw, pNone, pSome, TW.sSkip, TW.sSeq, TW.sAsg, TW.sAsgN, TW.sRet, TW.sRetN, TW.sIf, tgName, tgAll, tgTup, TW.sTg, TW.sPar, TW.sFor, iSeqM, iRg1, iRg2, iEnM, ownL, sApp, tgSet, ePop, ePopA, eCall, peeks, takes, hands, boolD, pw_bind, qQ, wipeR, reduceIte, nOp, nList, isD, lenD, wW, tgAll, q1, q2, l2]
  · have d2 : decide ((((parts z ":").map PyData.str).length : Int) = 2) = false := decide_eq_false (by rw [List.length_map]; omega)
    rw [kind_long h2]
    simp only [eCmp, eBin, eOp, eUn, eFn, eIx, eSlc, eChn, TW.tVal, TW.tNot, TW.tAnd, TW.tOr, TW.eIf, TW.eAnd, TW.eOr, TW.eNot, eIs, aNil, aCons, aStar, itemsO, eTup, nLst, eNw, pNone, pSome, TW.sSkip, TW.sSeq, TW.sAsg, TW.sAsgN, TW.sRet, TW.sRetN, TW.sIf, tgName, tgAll, tgTup, TW.sTg, TW.sPar, TW.sFor, iSeqM, iRg1, iRg2, iEnM, ownL, sApp, tgSet, ePop, ePopA, eCall, peeks, takes, hands, boolD, pw_bind, qQ, wipeR, reduceIte, nOp, nList, isD, lenD, wW, d2]
end K13
set_option linter.all false
set_option Elab.async false
set_option maxHeartbeats 0
set_option maxRecDepth 10000
namespace K13
open PySem TW K02
inductive Pr where
  | txt (n : Nat)
  | done (ks : List PyData)
inductive Out where
  | ret (d : PyData)
  | txt (d : PyData)
  | bad (d : PyData)
def slash : Str := "/"
def loopF : List Str → List PyData → Nat → Pr
  | [], acc, n => if acc.isEmpty = true then .txt n else .done acc
  | [w], _, n => if (w == slash) = true then .txt (n + 1) else .txt n
  | w :: k :: r, acc, n => if (w == slash) = true then (if isNoneD (kindF k) = true then .txt (n + 1) else loopF r (acc ++ [kindF k]) (n + 2)) else .txt n
def endO (lab : PyData) (ks : List PyData) : Out := if isNoneD (herr (.tuple [lab, .tuple ks])) = true then .ret (.tuple [lab, .tuple ks]) else .bad (herr (.tuple [lab, .tuple ks]))
def outW : List Str → Out
  | [] => .txt .none
  | w :: r => if isNoneD (rowF w) = true then .txt (.int 0) else match loopF r [] 1 with
    | .txt n => .txt (.int (n : Nat))
    | .done ks => endO (rowF w) ks
def outF : PyData → Out
  | .str z => outW (parts z " ")
  | _ => .txt .none
def GdK (acc : List PyData) : Prop := ∀ k ∈ acc, ∃ p, Tx 100000 p ∧ k = kindF p
theorem gdk_snoc {acc : List PyData} (h : GdK acc) {p : Str} (hp : Tx 100000 p) : GdK (acc ++ [kindF p]) := fun k hk => by
  rcases List.mem_append.mp hk with q | q
  · exact h k q
  · exact ⟨p, hp, List.mem_singleton.mp q⟩
theorem drop_cons {ws : List Str} {n : Nat} (h : n < ws.length) : ∃ w, ws[n]? = some w ∧ w ∈ ws ∧ ws.drop n = w :: ws.drop (n + 1) :=
  ⟨ws[n], List.getElem?_eq_getElem h, List.getElem_mem h, List.drop_eq_getElem_cons h⟩
theorem ix_w {ws : List Str} {n : Nat} {w : Str} (h : ws[n]? = some w) : ixD' (.list (ws.map PyData.str)) (.int (n : Nat)) = some (.str w) := ixLN (by rw [List.getElem?_map, h]; rfl)
theorem ne_slash {w : Str} (hw : PyData.strOk w = true) : cmpD .ne (.str w) (.str "/") = some (.bool (!(w == slash))) := by
  rw [cmpD_ne, shp_str hw, shp_str (okS_of _)]
  simp [PyData.eqv, slash]
theorem low_k (lab : PyData) {acc : List PyData} (h : GdK acc) : low (.tuple [lab, .tuple acc]) := by
  rintro l ks k s t e hk rfl
  cases e
  obtain ⟨p, hp, e⟩ := h _ hk
  unfold kindF at e
  split at e
  · rename_i a c ep
    unfold kindG at e
    split at e
    · cases e
    · split at e
      · cases e
      · cases e
        have hc : Tx 100000 c := hp.part (y := ":") (by show c ∈ parts p ":"; rw [ep]; simp)
        have := row_len (z := c)
        have := hc.l
        unfold rowF
        split
        · exact trivial
        · exact lim_le' (show (rowL c).length ≤ 1000000 by omega)
  · cases e
abbrev pR (v : PyData) (ws : List Str) (lab : PyData) (acc : List PyData) (n : Nat) (x7 : SV) : List SV := [.dat v, .dat (.list (ws.map PyData.str)), .no, .no, .dat lab, .own (.list acc), .dat (.int (n : Nat)), x7]
structure Ws (ws : List Str) : Prop where
  l : ws.length ≤ 100001
  t : ∀ w ∈ ws, Tx 100000 w
theorem pl_body {ws : List Str} (W : Ws ws) (v lab : PyData) {acc : List PyData} (hG : GdK acc) {n : Nat} (hn : n ≤ ws.length) (hc : n < ws.length ∨ acc = []) (hl : acc.length ≤ n) (x7 : SV) (b : Option Bx) (Q : Fl → Sx → Prop) (E : Er → Prop)
    (hE : ∀ j r, loopF (ws.drop n) acc n = .txt j → E (.exc "BadText" [("index", .int (j : Nat))] r b))
    (hQ : ∀ k acc', acc' = acc ++ [k] → GdK acc' → n + 2 ≤ ws.length → loopF (ws.drop (n + 2)) acc' (n + 2) = loopF (ws.drop n) acc n → Q .nx ⟨pR v ws lab acc' (n + 2) (.dat k), b⟩) :
    pw m_parse_handler_16 ⟨pR v ws lab acc n x7, b⟩ Q E := by
  have hlw : ((ws.map PyData.str).length : Int) = ws.length := by rw [List.length_map]
  have hwl := W.l
  have hlm : (ws.map PyData.str).length ≤ lim := lim_le' (by rw [List.length_map]; omega)
  have hal : acc.length < lim := lim_le' (by omega)
  unfold m_parse_handler_16 m_parse_handler_15 m_parse_handler_14
  by_cases h : n < ws.length
  · obtain ⟨w, h1, h2, h3⟩ := drop_cons h
    have hw := W.t w h2
    have dge : decide ((n : Int) ≥ ((ws.map PyData.str).length : Int)) = false := by rw [hlw]; exact decide_eq_false (by omega)
    have dge' : decide (((ws.map PyData.str).length : Int) ≤ (n : Int)) = false := dge
    cases hs : (w == slash) with
    | false =>
      have e : loopF (ws.drop n) acc n = .txt n := by
        rw [h3]
        cases ws.drop (n + 1) with
        | nil => unfold loopF; rw [hs]; rfl
        | cons k r => unfold loopF; rw [hs]; rfl
      simp only [eCmp, eBin, eOp, eUn, eFn, eIx, eSlc, eChn, tVal, tNot, tAnd, tOr, eIf, eAnd, eOr, eNot, eIs, aNil, aCons, aStar, itemsO, eTup, nLst, eNw, pNone, pSome, sSkip, sSeq, sAsg, sAsgN, sRet, sRetN, sIf, tgName, tgAll, tgTup, sTg, sPar, sFor, iSeqM, iRg1, iRg2, iEnM, ownL, sApp, tgSet, ePop, ePopA, eCall, peeks, takes, hands, boolD, pw_bind, qQ, wipeR, reduceIte, nOp, nList, isD, lenD, wW, hlm, dge, dge', ix_w h1, ne_slash hw.k, hs, sRaise]
      rw [q_throw rfl (by simp)]
      exact hE n _ e
    | true =>
      unfold m_parse_handler_13
      by_cases hk : n + 1 < ws.length
      · obtain ⟨k, k1, k2, k3⟩ := drop_cons hk
        have hkx := W.t k k2
        have e : loopF (ws.drop n) acc n = if isNoneD (kindF k) = true then .txt (n + 1) else loopF (ws.drop (n + 2)) (acc ++ [kindF k]) (n + 2) := by
          rw [h3, k3, loopF, if_pos hs]
        have dlt : decide ((n : Int) + 1 < ((ws.map PyData.str).length : Int)) = true := by rw [hlw]; exact decide_eq_true (by omega)
        have ix1 : ixD' (.list (ws.map PyData.str)) (.int ((n : Int) + 1)) = some (.str k) := ix_w (n := n + 1) k1
        simp only [eCmp, eBin, eOp, eUn, eFn, eIx, eSlc, eChn, tVal, tNot, tAnd, tOr, eIf, eAnd, eOr, eNot, eIs, aNil, aCons, aStar, itemsO, eTup, nLst, eNw, pNone, pSome, sSkip, sSeq, sAsg, sAsgN, sRet, sRetN, sIf, tgName, tgAll, tgTup, sTg, sPar, sFor, iSeqM, iRg1, iRg2, iEnM, ownL, sApp, tgSet, ePop, ePopA, eCall, peeks, takes, hands, boolD, pw_bind, qQ, wipeR, reduceIte, nOp, nList, isD, lenD, wW, hlm, dge, dge', ix_w h1, ne_slash hw.k, hs, dlt, ix1]
        refine q_callR (r_kind_in hkx b) rfl ?_
        rintro _ _ ⟨rfl, rfl⟩
        rename_i b
        unfold m_parse_handler_12 m_parse_handler_11
        rcases Bool.eq_false_or_eq_true (isNoneD (kindF k)) with q | q
        · rw [q, if_pos rfl] at e
          simp only [eCmp, eBin, eOp, eUn, eFn, eIx, eSlc, eChn, tVal, tNot, tAnd, tOr, eIf, eAnd, eOr, eNot, eIs, aNil, aCons, aStar, itemsO, eTup, nLst, eNw, pNone, pSome, sSkip, sSeq, sAsg, sAsgN, sRet, sRetN, sIf, tgName, tgAll, tgTup, sTg, sPar, sFor, iSeqM, iRg1, iRg2, iEnM, ownL, sApp, tgSet, ePop, ePopA, eCall, peeks, takes, hands, boolD, pw_bind, qQ, wipeR, reduceIte, nOp, nList, isD, lenD, wW, q, sRaise]
          rw [q_throw rfl (by simp)]
          exact hE (n + 1) _ e
        · rw [q, if_neg (by simp)] at e
          unfold m_parse_handler_10 m_parse_handler_9 m_parse_handler_8
          simp only [eCmp, eBin, eOp, eUn, eFn, eIx, eSlc, eChn, tVal, tNot, tAnd, tOr, eIf, eAnd, eOr, eNot, eIs, aNil, aCons, aStar, itemsO, eTup, nLst, eNw, pNone, pSome, sSkip, sSeq, sAsg, sAsgN, sRet, sRetN, sIf, tgName, tgAll, tgTup, sTg, sPar, sFor, iSeqM, iRg1, iRg2, iEnM, ownL, sApp, tgSet, ePop, ePopA, eCall, peeks, takes, hands, boolD, pw_bind, qQ, wipeR, reduceIte, nOp, nList, isD, lenD, wW, q, hal]
          exact hQ (kindF k) _ rfl (gdk_snoc hG hkx) (by omega) e.symm
      · have e0 : ws.drop (n + 1) = [] := List.drop_eq_nil_of_le (by omega)
        have e : loopF (ws.drop n) acc n = .txt (n + 1) := by
          rw [h3, e0, loopF, if_pos hs]
        have dlt : decide ((n : Int) + 1 < ((ws.map PyData.str).length : Int)) = false := by rw [hlw]; exact decide_eq_false (by omega)
        unfold m_parse_handler_12 m_parse_handler_11
        simp only [eCmp, eBin, eOp, eUn, eFn, eIx, eSlc, eChn, tVal, tNot, tAnd, tOr, eIf, eAnd, eOr, eNot, eIs, aNil, aCons, aStar, itemsO, eTup, nLst, eNw, pNone, pSome, sSkip, sSeq, sAsg, sAsgN, sRet, sRetN, sIf, tgName, tgAll, tgTup, sTg, sPar, sFor, iSeqM, iRg1, iRg2, iEnM, ownL, sApp, tgSet, ePop, ePopA, eCall, peeks, takes, hands, boolD, pw_bind, qQ, wipeR, reduceIte, nOp, nList, isD, lenD, wW, hlm, dge, dge', ix_w h1, ne_slash hw.k, hs, dlt, sRaise]
        rw [q_throw rfl (by simp)]
        exact hE (n + 1) _ e
  · have ha : acc = [] := hc.resolve_left h
    subst ha
    have e0 : ws.drop n = [] := List.drop_eq_nil_of_le (by omega)
    have e : loopF (ws.drop n) [] n = .txt n := by rw [e0]; rfl
    have dge : decide ((n : Int) ≥ ((ws.map PyData.str).length : Int)) = true := by rw [hlw]; exact decide_eq_true (by omega)
    have dge' : decide (((ws.map PyData.str).length : Int) ≤ (n : Int)) = true := dge
    simp only [eCmp, eBin, eOp, eUn, eFn, eIx, eSlc, eChn, tVal, tNot, tAnd, tOr, eIf, eAnd, eOr, eNot, eIs, aNil, aCons, aStar, itemsO, eTup, nLst, eNw, pNone, pSome, sSkip, sSeq, sAsg, sAsgN, sRet, sRetN, sIf, tgName, tgAll, tgTup, sTg, sPar, sFor, iSeqM, iRg1, iRg2, iEnM, ownL, sApp, tgSet, ePop, ePopA, eCall, peeks, takes, hands, boolD, pw_bind, qQ, wipeR, reduceIte, nOp, nList, isD, lenD, wW, hlm, dge, dge', sRaise]
    rw [q_throw rfl (by simp)]
    exact hE n _ e
theorem emp_l {acc : List PyData} : acc.isEmpty = true ↔ acc = [] := List.isEmpty_iff
theorem pl_loop {ws : List Str} (W : Ws ws) (v lab : PyData) (b : Option Bx) (Q : Fl → Sx → Prop) (E : Er → Prop) (h1 : 1 ≤ ws.length)
    (hE : ∀ j r, loopF (ws.drop 1) [] 1 = .txt j → E (.exc "BadText" [("index", .int (j : Nat))] r b))
    (hQ : ∀ acc n x7, GdK acc → loopF (ws.drop 1) [] 1 = .done acc → acc.length ≤ 100001 → Q .nx ⟨pR v ws lab acc n x7, b⟩) :
    pw m_parse_handler_17 ⟨pR v ws lab [] 1 .no, b⟩ Q E := by
  have hlw : ((ws.map PyData.str).length : Int) = ws.length := by rw [List.length_map]
  have hwl := W.l
  have hlm : (ws.map PyData.str).length ≤ lim := lim_le' (by rw [List.length_map]; omega)
  unfold m_parse_handler_17
  refine q_while (fun m s => ∃ acc n x7, s = ⟨pR v ws lab acc n x7, b⟩ ∧ GdK acc ∧ n ≤ ws.length ∧ acc.length ≤ n ∧ loopF (ws.drop n) acc n = loopF (ws.drop 1) [] 1 ∧ ws.length - n + 1 ≤ m) (n := ws.length + 1) ⟨[], 1, _, rfl, (fun k h => by cases h), h1, by simp, rfl, by omega⟩ ?_ ?_
  · rintro m s ⟨acc, n, x7, rfl, hG, hn, ha, he, hm⟩
    have body := fun hc => pl_body W v lab hG hn hc ha x7 b (fun f s2 => match f with
      | .bk => Q .nx s2
      | .rt v => Q (.rt v) s2
      | _ => ∃ m', m' < m ∧ ∃ acc n x7, s2 = ⟨pR v ws lab acc n x7, b⟩ ∧ GdK acc ∧ n ≤ ws.length ∧ acc.length ≤ n ∧ loopF (ws.drop n) acc n = loopF (ws.drop 1) [] 1 ∧ ws.length - n + 1 ≤ m') E (fun j r h => hE j r (he ▸ h)) (fun k acc' h1 h2 h3 h4 => ⟨m - 1, by omega, acc', n + 2, _, rfl, h2, h3, by rw [h1, List.length_append, List.length_singleton]; omega, h4.trans he, by omega⟩)
    by_cases h : n < ws.length
    · have dlt : decide ((n : Int) < ((ws.map PyData.str).length : Int)) = true := by rw [hlw]; exact decide_eq_true (by omega)
      simp only [eCmp, eBin, eOp, eUn, eFn, eIx, eSlc, eChn, tVal, tNot, tAnd, tOr, eIf, eAnd, eOr, eNot, eIs, aNil, aCons, aStar, itemsO, eTup, nLst, eNw, pNone, pSome, sSkip, sSeq, sAsg, sAsgN, sRet, sRetN, sIf, tgName, tgAll, tgTup, sTg, sPar, sFor, iSeqM, iRg1, iRg2, iEnM, ownL, sApp, tgSet, ePop, ePopA, eCall, peeks, takes, hands, boolD, pw_bind, qQ, wipeR, reduceIte, nOp, nList, isD, lenD, wW, hlm, dlt]
      exact body (.inl h)
    · have dlt : decide ((n : Int) < ((ws.map PyData.str).length : Int)) = false := by rw [hlw]; exact decide_eq_false (by omega)
      have e0 : ws.drop n = [] := List.drop_eq_nil_of_le (by omega)
      have e0d : eq0D (.list acc) (.list []) = some (.bool acc.isEmpty) := rfl
      rcases Bool.eq_false_or_eq_true acc.isEmpty with q | q
      · simp only [eCmp, eBin, eOp, eUn, eFn, eIx, eSlc, eChn, tVal, tNot, tAnd, tOr, eIf, eAnd, eOr, eNot, eIs, aNil, aCons, aStar, itemsO, eTup, nLst, eNw, pNone, pSome, sSkip, sSeq, sAsg, sAsgN, sRet, sRetN, sIf, tgName, tgAll, tgTup, sTg, sPar, sFor, iSeqM, iRg1, iRg2, iEnM, ownL, sApp, tgSet, ePop, ePopA, eCall, peeks, takes, hands, boolD, pw_bind, qQ, wipeR, reduceIte, nOp, nList, isD, lenD, wW, hlm, dlt, le0, e0d, q]
        exact body (.inr (emp_l.mp q))
      · simp only [eCmp, eBin, eOp, eUn, eFn, eIx, eSlc, eChn, tVal, tNot, tAnd, tOr, eIf, eAnd, eOr, eNot, eIs, aNil, aCons, aStar, itemsO, eTup, nLst, eNw, pNone, pSome, sSkip, sSeq, sAsg, sAsgN, sRet, sRetN, sIf, tgName, tgAll, tgTup, sTg, sPar, sFor, iSeqM, iRg1, iRg2, iEnM, ownL, sApp, tgSet, ePop, ePopA, eCall, peeks, takes, hands, boolD, pw_bind, qQ, wipeR, reduceIte, nOp, nList, isD, lenD, wW, hlm, dlt, le0, e0d, q]
        refine hQ acc n x7 hG ?_ (by omega)
        rw [← he, e0]
        show (if acc.isEmpty = true then Pr.txt n else .done acc) = _
        rw [q]
        rfl
  · exact Nat.lt_of_le_of_lt (show ws.length + 1 ≤ 100002 by omega) (by decide)
theorem q_noXE {α : Type} {m : M α} {s : Sx} {Q : α → Sx → Prop} {E : Er → Prop} (h : pw m s Q fun _ => False) : pw (noX m) s Q E := by
  unfold pw noX at *
  cases q : m s with
  | ok p =>
    rw [q] at h
    exact h
  | error e =>
    rw [q] at h
    exact h.elim
theorem ws_of {z : Str} (T : Tx 100000 z) : Ws (parts z " ") := ⟨by
  have := part_lim T (y := " ") (by decide)
  rwa [List.length_map] at this, fun w hw => T.part hw⟩
theorem r_parse_handler {v : PyData} (hv : ∀ z, v = .str z → Tx 100000 z) (b : Option Bx) : RunsX f_parse_handler [.dat v] b (fun d b' => outF v = .ret d ∧ b' = b)
    (fun c fs b' => ((∃ i, outF v = .txt i ∧ c = "BadText" ∧ fs = [(("index" : Str), i)]) ∨ ∃ e, outF v = .bad e ∧ c = "BadHandler" ∧ fs = [(("error" : Str), e)]) ∧ b' = b) := by
  refine runsX_of ?_
  unfold m_parse_handler m_parse_handler_25 m_parse_handler_24 m_parse_handler_23
  simp only [List.map_cons, List.map_nil, argSV, List.length_cons, List.length_nil, Nat.reduceAdd, Nat.reduceSub, List.replicate, List.cons_append, List.nil_append]
  by_cases hs : ∃ z, v = .str z
  · obtain ⟨z, rfl⟩ := hs
    have T := hv z rfl
    have W := ws_of T
    have hsp := split_run T (y := " ") (by decide)
    have hlm : ((parts z " ").map PyData.str).length ≤ lim := lim_le' (by have := part_lim T (y := " ") (by decide); omega)
    have eo : outF (.str z) = outW (parts z " ") := rfl
    rw [eo]
    unfold m_parse_handler_22 m_parse_handler_21
    simp only [eCmp, eBin, eOp, eUn, eFn, eIx, eSlc, eChn, tVal, tNot, tAnd, tOr, eIf, eAnd, eOr, eNot, eIs, aNil, aCons, aStar, itemsO, eTup, nLst, eNw, pNone, pSome, sSkip, sSeq, sAsg, sAsgN, sRet, sRetN, sIf, tgName, tgAll, tgTup, sTg, sPar, sFor, iSeqM, iRg1, iRg2, iEnM, ownL, sApp, tgSet, ePop, ePopA, eCall, peeks, takes, hands, boolD, pw_bind, qQ, wipeR, reduceIte, nOp, nList, isD, lenD, wW, nSplit, hsp, hlm]
    have hne : parts z " " ≠ [] := split_ne
    generalize parts z " " = ws at W hne ⊢
    cases ws with
    | nil => exact absurd rfl hne
    | cons w r =>
      have hw := W.t w (by simp)
      have i0 : ixD' (.list ((w :: r).map PyData.str)) (.int 0) = some (.str w) := ix_w (n := 0) rfl
      have loop := fun lab Q E hE hQ => pl_loop W (.str z) lab b Q E (by simp) hE hQ
      simp only [eCmp, eBin, eOp, eUn, eFn, eIx, eSlc, eChn, tVal, tNot, tAnd, tOr, eIf, eAnd, eOr, eNot, eIs, aNil, aCons, aStar, itemsO, eTup, nLst, eNw, pNone, pSome, sSkip, sSeq, sAsg, sAsgN, sRet, sRetN, sIf, tgName, tgAll, tgTup, sTg, sPar, sFor, iSeqM, iRg1, iRg2, iEnM, ownL, sApp, tgSet, ePop, ePopA, eCall, peeks, takes, hands, boolD, pw_bind, qQ, wipeR, reduceIte, nOp, nList, isD, lenD, wW, sParP, pOwn, pDat, pNil, setP, le0, i0]
      refine q_callR (r_row_in hw b) rfl ?_
      rintro _ _ ⟨rfl, rfl⟩
      rename_i b
      unfold m_parse_handler_20 m_parse_handler_19 m_parse_handler_18
      have eo : outW (w :: r) = if isNoneD (rowF w) = true then .txt (.int 0) else match loopF r [] 1 with
        | .txt n => .txt (.int (n : Nat))
        | .done ks => endO (rowF w) ks := rfl
      rw [eo]
      refine q_noXE ?_
      simp only [eCmp, eBin, eOp, eUn, eFn, eIx, eSlc, eChn, tVal, tNot, tAnd, tOr, eIf, eAnd, eOr, eNot, eIs, aNil, aCons, aStar, itemsO, eTup, nLst, eNw, pNone, pSome, sSkip, sSeq, sAsg, sAsgN, sRet, sRetN, sIf, tgName, tgAll, tgTup, sTg, sPar, sFor, iSeqM, iRg1, iRg2, iEnM, ownL, sApp, tgSet, ePop, ePopA, eCall, peeks, takes, hands, boolD, pw_bind, qQ, wipeR, reduceIte, nOp, nList, isD, lenD, wW, setP]
      rcases Bool.eq_false_or_eq_true (isNoneD (rowF w)) with q | q
      · rw [if_pos q]
        simp only [eCmp, eBin, eOp, eUn, eFn, eIx, eSlc, eChn, tVal, tNot, tAnd, tOr, eIf, eAnd, eOr, eNot, eIs, aNil, aCons, aStar, itemsO, eTup, nLst, eNw, pNone, pSome, sSkip, sSeq, sAsg, sAsgN, sRet, sRetN, sIf, tgName, tgAll, tgTup, sTg, sPar, sFor, iSeqM, iRg1, iRg2, iEnM, ownL, sApp, tgSet, ePop, ePopA, eCall, peeks, takes, hands, boolD, pw_bind, qQ, wipeR, reduceIte, nOp, nList, isD, lenD, wW, q, sRaise]
        rw [q_throw rfl (by simp)]
        exact ⟨.inl ⟨_, rfl, rfl, rfl⟩, rfl⟩
      · rw [if_neg (by rw [q]; simp)]
        simp only [eCmp, eBin, eOp, eUn, eFn, eIx, eSlc, eChn, tVal, tNot, tAnd, tOr, eIf, eAnd, eOr, eNot, eIs, aNil, aCons, aStar, itemsO, eTup, nLst, eNw, pNone, pSome, sSkip, sSeq, sAsg, sAsgN, sRet, sRetN, sIf, tgName, tgAll, tgTup, sTg, sPar, sFor, iSeqM, iRg1, iRg2, iEnM, ownL, sApp, tgSet, ePop, ePopA, eCall, peeks, takes, hands, boolD, pw_bind, qQ, wipeR, reduceIte, nOp, nList, isD, lenD, wW, q]
        refine loop _ _ _ (fun j rr h => ?_) (fun acc n x7 hG h hl => ?_)
        · have h : loopF r [] 1 = .txt j := h
          rw [h]
          exact ⟨.inl ⟨_, rfl, rfl, rfl⟩, rfl⟩
        · have h : loopF r [] 1 = .done acc := h
          rw [h]
          have hal : acc.length ≤ lim := lim_le' (by omega)
          unfold m_parse_handler_7 m_parse_handler_6 m_parse_handler_5 m_parse_handler_4 m_parse_handler_3 m_parse_handler_2 m_parse_handler_1 endO
          simp only [eCmp, eBin, eOp, eUn, eFn, eIx, eSlc, eChn, tVal, tNot, tAnd, tOr, eIf, eAnd, eOr, eNot, eIs, aNil, aCons, aStar, itemsO, eTup, nLst, eNw, pNone, pSome, sSkip, sSeq, sAsg, sAsgN, sRet, sRetN, sIf, tgName, tgAll, tgTup, sTg, sPar, sFor, iSeqM, iRg1, iRg2, iEnM, ownL, sApp, tgSet, ePop, ePopA, eCall, peeks, takes, hands, boolD, pw_bind, qQ, wipeR, reduceIte, nOp, nList, isD, lenD, wW, tupleD, l2]
          refine q_callR (r_handler_error _ b (low_k _ hG)) rfl ?_
          rintro _ _ ⟨rfl, rfl⟩
          rcases Bool.eq_false_or_eq_true (isNoneD (herr (.tuple [rowF w, .tuple acc]))) with q2 | q2
          · simp only [eCmp, eBin, eOp, eUn, eFn, eIx, eSlc, eChn, tVal, tNot, tAnd, tOr, eIf, eAnd, eOr, eNot, eIs, aNil, aCons, aStar, itemsO, eTup, nLst, eNw, pNone, pSome, sSkip, sSeq, sAsg, sAsgN, sRet, sRetN, sIf, tgName, tgAll, tgTup, sTg, sPar, sFor, iSeqM, iRg1, iRg2, iEnM, ownL, sApp, tgSet, ePop, ePopA, eCall, peeks, takes, hands, boolD, pw_bind, qQ, wipeR, reduceIte, nOp, nList, isD, lenD, wW, q2]
          · simp only [eCmp, eBin, eOp, eUn, eFn, eIx, eSlc, eChn, tVal, tNot, tAnd, tOr, eIf, eAnd, eOr, eNot, eIs, aNil, aCons, aStar, itemsO, eTup, nLst, eNw, pNone, pSome, sSkip, sSeq, sAsg, sAsgN, sRet, sRetN, sIf, tgName, tgAll, tgTup, sTg, sPar, sFor, iSeqM, iRg1, iRg2, iEnM, ownL, sApp, tgSet, ePop, ePopA, eCall, peeks, takes, hands, boolD, pw_bind, qQ, wipeR, reduceIte, nOp, nList, isD, lenD, wW, q2, sRaise]
            rw [q_throw rfl (by simp)]
            exact ⟨.inr ⟨_, rfl, rfl, rfl⟩, rfl⟩
  · have e : outF v = .txt .none := by
      cases v <;> first | exact absurd ⟨_, rfl⟩ hs | rfl
    rw [e]
    cases v <;> first | exact absurd ⟨_, rfl⟩ hs | (simp only [eCmp, eBin, eOp, eUn, eFn, eIx, eSlc, eChn, tVal, tNot, tAnd, tOr, eIf, eAnd, eOr, eNot, eIs, aNil, aCons, aStar, itemsO, eTup, nLst, eNw, pNone, pSome, sSkip, sSeq, sAsg, sAsgN, sRet, sRetN, sIf, tgName, tgAll, tgTup, sTg, sPar, sFor, iSeqM, iRg1, iRg2, iEnM, ownL, sApp, tgSet, ePop, ePopA, eCall, peeks, takes, hands, boolD, pw_bind, qQ, wipeR, reduceIte, nOp, nList, isD, lenD, wW, sRaise]; rw [q_throw rfl (by simp)]; exact ⟨.inl ⟨_, rfl, rfl, rfl⟩, rfl⟩)
end K13
set_option linter.all false
set_option Elab.async false
set_option maxHeartbeats 0
set_option maxRecDepth 10000
namespace K13
open PySem TW K02
end K13
set_option linter.all false
set_option Elab.async false
set_option maxHeartbeats 0
set_option maxRecDepth 10000
namespace K13
open PySem TW K02
open TL (joinL tl_join join_eq)
open L2 (cutS)
def meas (ys : List Str) : Nat := (ys.map fun y => y.length + 1).sum
theorem meas_eq : ∀ ys : List Str, meas ys = (ys.map (·.length)).sum + ys.length
  | [] => rfl
  | y :: ys => by
    have := meas_eq ys
    unfold meas at this ⊢
    rw [List.map_cons, List.sum_cons, this, List.map_cons, List.sum_cons, List.length_cons]
    omega
theorem meas_app (xs ys : List Str) : meas (xs ++ ys) = meas xs + meas ys := by
  unfold meas
  rw [List.map_append, List.sum_append]
theorem meas_take (xs : List Str) (k : Nat) : meas (xs.take k) + meas (xs.drop k) = meas xs := by rw [← meas_app, List.take_append_drop]
theorem meas_rep (xs : List Str) : ∀ k : Nat, meas (List.replicate k xs).flatten = k * meas xs
  | 0 => by rw [Nat.zero_mul]; rfl
  | k + 1 => by rw [List.replicate_succ, List.flatten_cons, meas_app, meas_rep xs k, Nat.succ_mul, Nat.add_comm]
structure WsM (m : Nat) (ds : List PyData) : Prop where
  e : ∃ ys, ds = ys.map PyData.str ∧ meas ys ≤ m ∧ ∀ y ∈ ys, PyData.strOk y = true
theorem WsM.mono {m n : Nat} {ds : List PyData} (h : WsM m ds) (hm : m ≤ n) : WsM n ds := by
  obtain ⟨ys, h1, h2, h3⟩ := h.e
  exact ⟨ys, h1, by omega, h3⟩
theorem WsM.take {m : Nat} {xs : List PyData} (h : WsM m xs) (k : Nat) : WsM m (xs.take k) := by
  obtain ⟨a, rfl, a2, a3⟩ := h.e
  have := meas_take a k
  exact ⟨a.take k, by rw [List.map_take], by omega, fun y hy => a3 y (List.mem_of_mem_take hy)⟩
theorem WsM.drop {m : Nat} {xs : List PyData} (h : WsM m xs) (k : Nat) : WsM m (xs.drop k) := by
  obtain ⟨a, rfl, a2, a3⟩ := h.e
  have := meas_take a k
  exact ⟨a.drop k, by rw [List.map_drop], by omega, fun y hy => a3 y (List.mem_of_mem_drop hy)⟩
theorem WsM.rep {m : Nat} {xs : List PyData} (h : WsM m xs) (k : Nat) : WsM (k * m) (List.replicate k xs).flatten := by
  obtain ⟨a, rfl, a2, a3⟩ := h.e
  refine ⟨(List.replicate k a).flatten, ?_, by rw [meas_rep]; exact Nat.mul_le_mul_left _ a2, fun y hy => ?_⟩
  · rw [List.map_flatten, List.map_replicate]
  · obtain ⟨l, hl, hy⟩ := List.mem_flatten.mp hy
    rw [List.eq_of_mem_replicate hl] at hy
    exact a3 y hy
theorem WsM.len {m : Nat} {xs : List PyData} (h : WsM m xs) : xs.length ≤ m := by
  obtain ⟨a, rfl, a2, a3⟩ := h.e
  rw [List.length_map]
  rw [meas_eq] at a2
  omega
theorem ok_joinL {S : List Nat} (hS : ∀ c ∈ S, c < 0x110000) : ∀ {ps : List (List Nat)}, (∀ p ∈ ps, ∀ c ∈ p, c < 0x110000) → ∀ c ∈ joinL S ps, c < 0x110000
  | [], _, c, h => by cases h
  | [p], hp, c, h => hp p (by simp) c h
  | p :: q :: r, hp, c, h => by
    have h : c ∈ p ++ (S ++ joinL S (q :: r)) := h
    rcases List.mem_append.mp h with h | h
    · exact hp p (by simp) c h
    · rcases List.mem_append.mp h with h | h
      · exact hS c h
      · exact ok_joinL hS (fun x hx => hp x (List.mem_cons_of_mem _ hx)) c h
theorem add_tx {n m : Nat} {x y : Str} (hx : Tx n x) (hy : Tx m y) (h : n + m ≤ 1000000) : binD .add (.str x) (.str y) = some (.str (x ++ y)) ∧ Tx (n + m) (x ++ y) := by
  have := hx.l
  have := hy.l
  refine ⟨if_pos (lim_le' (by omega)), by rw [strLen_append]; omega, okS_app hx.k hy.k⟩
theorem tx_c {n : Nat} {s : String} (h : (s : Str).length ≤ n) : Tx n (s : Str) := ⟨h, okS_of _⟩
theorem Tx.mono {n m : Nat} {z : Str} (h : Tx n z) (hn : n ≤ m) : Tx m z := ⟨Nat.le_trans h.l hn, h.k⟩
def TxD (n : Nat) (d : PyData) : Prop := ∃ z, d = .str z ∧ Tx n z
end K13
set_option linter.all false
set_option Elab.async false
set_option maxHeartbeats 0
set_option maxRecDepth 10000
namespace K13
open PySem TW K02
open L2 (cutS)
def TxL (n : Nat) (ds : List PyData) : Prop := ∀ d ∈ ds, TxD n d
theorem TxL.nil {n : Nat} : TxL n [] := fun d h => by cases h
theorem TxL.cons {n : Nat} {z : Str} {ds : List PyData} (hz : Tx n z) (h : TxL n ds) : TxL n (.str z :: ds) := fun d hd => by
  rcases List.mem_cons.mp hd with rfl | hd
  · exact ⟨z, rfl, hz⟩
  · exact h d hd
section
variable {n : Nat} {z : Str}
end
end K13
set_option linter.all false
set_option Elab.async false
set_option maxHeartbeats 0
set_option maxRecDepth 10000
namespace K13
open PySem TW K02
def numS : PyData → Str
  | .none => "-"
  | .int i => Str.ofString (toString i)
  | _ => ""
def Fg (d : PyData) : Prop := d = .none ∨ ∃ i : Int, d = .int i ∧ 0 ≤ i ∧ i < 10
theorem fig_s {i : Int} (h0 : 0 ≤ i) (h1 : i < 10) : strD [.int i] = some (.str (numS (.int i))) ∧ (numS (.int i)).length = 1 := by
  have h : i = 0 ∨ i = 1 ∨ i = 2 ∨ i = 3 ∨ i = 4 ∨ i = 5 ∨ i = 6 ∨ i = 7 ∨ i = 8 ∨ i = 9 := by omega
  rcases h with rfl | rfl | rfl | rfl | rfl | rfl | rfl | rfl | rfl | rfl <;> exact ⟨rfl, by decide⟩
theorem fg_tx {d : PyData} (h : Fg d) : Tx 1 (numS d) := by
  rcases h with rfl | ⟨i, rfl, h0, h1⟩
  · exact tx_c (by decide)
  · exact ⟨Nat.le_of_eq (fig_s h0 h1).2, okS_of _⟩
theorem join_val {s : String} {ys : List Str} (hl : (ys.map (·.length)).sum + ys.length * (s : Str).length ≤ 16777216) : joinD (.str s) (.list (ys.map PyData.str)) = some (.str (Txt.join s ys)) := by
  show ((strsOf (ys.map PyData.str)).bind fun zs => if (zs.map (·.length)).sum + zs.length * (s : Str).length ≤ 16777216 then some (PyData.str (Txt.join s zs)) else none) = _
  rw [strsOf_map, Option.bind_some, if_pos hl]
theorem join_len {s : String} (hs : (s : Str).length = 1) (ys : List Str) : (Txt.join s ys).length = (ys.map (·.length)).sum + (ys.length - 1) := by
  have e := PySem.size_glued s ys
  rw [hs, Nat.mul_one] at e
  exact e
theorem join_ok {s : String} {ys : List Str} (h3 : ∀ y ∈ ys, PyData.strOk y = true) : PyData.strOk (Txt.join s ys) = true := by
  refine ok_iff.mpr fun c hc => ?_
  have e := TL.tl_join s ys
  rw [← TL.join_eq] at e
  have hc : c ∈ TL.tl (Txt.join s ys) := hc
  rw [e] at hc
  refine ok_joinL (ok_iff.mp (okS_of s)) (fun p hp c hc => ?_) c hc
  obtain ⟨y, hy, rfl⟩ := List.mem_map.mp hp
  exact ok_iff.mp (h3 y hy) c hc
theorem sum_le {k : Nat} : ∀ {ys : List Str}, (∀ y ∈ ys, Tx k y) → (ys.map (·.length)).sum ≤ k * ys.length
  | [], _ => Nat.zero_le _
  | y :: ys, h => by
    have h1 := (h y (by simp)).l
    have h2 := sum_le (k := k) (ys := ys) fun z hz => h z (List.mem_cons_of_mem _ hz)
    rw [List.map_cons, List.sum_cons, List.length_cons, Nat.mul_succ]
    omega
theorem join_k {s : String} (hs : (s : Str).length = 1) {k m : Nat} {ys : List Str} (h : ∀ y ∈ ys, Tx k y) (hm : ys.length ≤ m) (hk : k * m ≤ 1000000) (hm2 : m ≤ 1000) : joinD (.str s) (.list (ys.map PyData.str)) = some (.str (Txt.join s ys)) ∧ Tx (k * m + (m - 1)) (Txt.join s ys) := by
  have h1 := sum_le h
  have h2 : k * ys.length ≤ k * m := Nat.mul_le_mul_left _ hm
  exact ⟨join_val (by rw [hs]; omega), by rw [join_len hs]; omega, join_ok fun y hy => (h y hy).k⟩
def rowT (ds : List PyData) : Str := Txt.join "," (ds.map numS)
def rtF (d : PyData) : PyData := .str (numS d)
theorem row_tx {ds : List PyData} (h : ∀ d ∈ ds, Fg d) (hl : ds.length ≤ 8) : joinD (.str ",") (.list ((ds.map numS).map PyData.str)) = some (.str (rowT ds)) ∧ Tx 15 (rowT ds) := by
  have := join_k (s := ",") (by decide) (k := 1) (m := 8) (ys := ds.map numS) (fun y hy => by
    obtain ⟨d, hd, rfl⟩ := List.mem_map.mp hy
    exact fg_tx (h d hd)) (by rw [List.length_map]; exact hl) (by omega) (by omega)
  exact this
theorem r_law_row_text {ds : List PyData} (h : ∀ d ∈ ds, Fg d) (hl : ds.length ≤ 8) (b : Option Bx) : Runs f_law_row_text [.dat (.tuple ds)] b fun d b' => d = .str (rowT ds) ∧ b' = b := by
  refine runs_of ?_
  unfold m_law_row_text
  simp only [List.map_cons, List.map_nil, argSV, List.length_cons, List.length_nil, Nat.reduceAdd, Nat.reduceSub, List.replicate, List.cons_append, List.nil_append]
  simp only [eCmp, eBin, eOp, eUn, eFn, eIx, eSlc, eChn, tVal, tNot, tAnd, tOr, eIf, eAnd, eOr, eNot, eIs, aNil, aCons, aStar, itemsO, eTup, nLst, eNw, pNone, pSome, sSkip, sSeq, sAsg, sAsgN, sRet, sRetN, sIf, tgName, tgAll, tgTup, sTg, sPar, sFor, iSeqM, iRg1, iRg2, iEnM, ownL, sApp, tgSet, ePop, ePopA, eCall, peeks, takes, hands, boolD, pw_bind, qQ, wipeR, reduceIte, nOp, nList, isD, lenD, wW, eJoin]
  refine q_map1 rtF ?_
  simp only [eCmp, eBin, eOp, eUn, eFn, eIx, eSlc, eChn, tVal, tNot, tAnd, tOr, eIf, eAnd, eOr, eNot, eIs, aNil, aCons, aStar, itemsO, eTup, nLst, eNw, pNone, pSome, sSkip, sSeq, sAsg, sAsgN, sRet, sRetN, sIf, tgName, tgAll, tgTup, sTg, sPar, sFor, iSeqM, iRg1, iRg2, iEnM, ownL, sApp, tgSet, ePop, ePopA, eCall, peeks, takes, hands, boolD, pw_bind, qQ, wipeR, reduceIte, nOp, nList, isD, lenD, wW]
  refine ⟨lim_le' (by omega), fun d hd => ?_, ?_⟩
  · rcases h d hd with rfl | ⟨i, rfl, h0, h1⟩
    · rfl
    · simp only [eCmp, eBin, eOp, eUn, eFn, eIx, eSlc, eChn, tVal, tNot, tAnd, tOr, eIf, eAnd, eOr, eNot, eIs, aNil, aCons, aStar, itemsO, eTup, nLst, eNw, pNone, pSome, sSkip, sSeq, sAsg, sAsgN, sRet, sRetN, sIf, tgName, tgAll, tgTup, sTg, sPar, sFor, iSeqM, iRg1, iRg2, iEnM, ownL, sApp, tgSet, ePop, ePopA, eCall, peeks, takes, hands, boolD, pw_bind, qQ, wipeR, reduceIte, nOp, nList, isD, lenD, wW, (fig_s h0 h1).1]
      rfl
  · have e : ds.map rtF = (ds.map numS).map PyData.str := by
      rw [List.map_map]
      rfl
    rw [e]
    simp only [eCmp, eBin, eOp, eUn, eFn, eIx, eSlc, eChn, tVal, tNot, tAnd, tOr, eIf, eAnd, eOr, eNot, eIs, aNil, aCons, aStar, itemsO, eTup, nLst, eNw, pNone, pSome, sSkip, sSeq, sAsg, sAsgN, sRet, sRetN, sIf, tgName, tgAll, tgTup, sTg, sPar, sFor, iSeqM, iRg1, iRg2, iEnM, ownL, sApp, tgSet, ePop, ePopA, eCall, peeks, takes, hands, boolD, pw_bind, qQ, wipeR, reduceIte, nOp, nList, isD, lenD, wW, (row_tx h hl).1]
def kindT (s : Int) (ts : List PyData) : Str := numS (.int s) ++ ":" ++ rowT ts
theorem r_law_kind_text {s : Int} (h0 : 0 ≤ s) (h1 : s < 10) {ts : List PyData} (h : ∀ d ∈ ts, Fg d) (hl : ts.length ≤ 8) (b : Option Bx) : Runs f_law_kind_text [.dat (.tuple [.int s, .tuple ts])] b fun d b' => d = .str (kindT s ts) ∧ b' = b := by
  have c1 : Tx 1 ((":" : String) : Str) := tx_c (by decide)
  obtain ⟨a1, t1⟩ := add_tx (fg_tx (.inr ⟨s, rfl, h0, h1⟩)) c1 (by omega)
  obtain ⟨a2, t2⟩ := add_tx t1 (row_tx h hl).2 (by omega)
  refine runs_of ?_
  unfold m_law_kind_text
  simp only [List.map_cons, List.map_nil, argSV, List.length_cons, List.length_nil, Nat.reduceAdd, Nat.reduceSub, List.replicate, List.cons_append, List.nil_append]
  simp only [eCmp, eBin, eOp, eUn, eFn, eIx, eSlc, eChn, tVal, tNot, tAnd, tOr, eIf, eAnd, eOr, eNot, eIs, aNil, aCons, aStar, itemsO, eTup, nLst, eNw, pNone, pSome, sSkip, sSeq, sAsg, sAsgN, sRet, sRetN, sIf, tgName, tgAll, tgTup, sTg, sPar, sFor, iSeqM, iRg1, iRg2, iEnM, ownL, sApp, tgSet, ePop, ePopA, eCall, peeks, takes, hands, boolD, pw_bind, qQ, wipeR, reduceIte, nOp, nList, isD, lenD, wW, ix0, (fig_s h0 h1).1, a1, ix1]
  refine q_callR (r_law_row_text h hl b) rfl ?_
  rintro _ _ ⟨rfl, rfl⟩
  simp only [eCmp, eBin, eOp, eUn, eFn, eIx, eSlc, eChn, tVal, tNot, tAnd, tOr, eIf, eAnd, eOr, eNot, eIs, aNil, aCons, aStar, itemsO, eTup, nLst, eNw, pNone, pSome, sSkip, sSeq, sAsg, sAsgN, sRet, sRetN, sIf, tgName, tgAll, tgTup, sTg, sPar, sFor, iSeqM, iRg1, iRg2, iEnM, ownL, sApp, tgSet, ePop, ePopA, eCall, peeks, takes, hands, boolD, pw_bind, qQ, wipeR, reduceIte, nOp, nList, isD, lenD, wW, a2]
  rfl
theorem kind_tx {s : Int} (h0 : 0 ≤ s) (h1 : s < 10) {ts : List PyData} (h : ∀ d ∈ ts, Fg d) (hl : ts.length ≤ 8) : Tx 17 (kindT s ts) := by
  have c1 : Tx 1 ((":" : String) : Str) := tx_c (by decide)
  obtain ⟨a1, t1⟩ := add_tx (fg_tx (.inr ⟨s, rfl, h0, h1⟩)) c1 (by omega)
  exact (add_tx t1 (row_tx h hl).2 (by omega)).2
theorem fg_ints {n : Nat} (hn : n ≤ 8) {ts : List Int} (h : ∀ t ∈ ts, 0 ≤ t ∧ t < (n : Int)) : ∀ d ∈ ts.map PyData.int, Fg d := fun d hd => by
  obtain ⟨t, ht, rfl⟩ := List.mem_map.mp hd
  have := h t ht
  exact .inr ⟨t, rfl, by omega, by omega⟩
def ktS : PyData → Str
  | .tuple [.int s, .tuple ts] => ("/ " : Str) ++ kindT s ts
  | _ => ""
def ktF (d : PyData) : PyData := .str (ktS d)
def handT (ls : List Int) (ks : List PyData) : Str := Txt.join " " (rowT (ls.map PyData.int) :: ks.map ktS)
theorem r_law_handler_text {n k : Nat} (hn : n ≤ 8) (hk : k ≤ 6) {v : PyData} (hv : IsH n k v) (b : Option Bx) : Runs f_law_handler_text [.dat v] b fun d b' => (∃ z, d = .str z ∧ Tx 135 z) ∧ b' = b := by
  obtain ⟨ls, ks, rfl, hl, hkl, hb, hK⟩ := hv
  have c2 : Tx 2 (("/ " : String) : Str) := tx_c (by decide)
  have hL := fg_ints hn hb
  have hLl : (ls.map PyData.int).length ≤ 8 := by rw [List.length_map]; omega
  have l1 : 0 + 1 ≤ lim := by decide
  have kt : ∀ x ∈ ks, ∃ s ts, x = .tuple [.int s, .tuple ts] ∧ 0 ≤ s ∧ s < 10 ∧ (∀ d ∈ ts, Fg d) ∧ ts.length ≤ 8 := fun x hx => by
    obtain ⟨s, ts, rfl, h0, h4, hts, hbs⟩ := hK x hx
    exact ⟨s, _, rfl, h0, by omega, fg_ints hn hbs, by rw [List.length_map]; omega⟩
  refine runs_of ?_
  unfold m_law_handler_text
  simp only [List.map_cons, List.map_nil, argSV, List.length_cons, List.length_nil, Nat.reduceAdd, Nat.reduceSub, List.replicate, List.cons_append, List.nil_append]
  simp only [eCmp, eBin, eOp, eUn, eFn, eIx, eSlc, eChn, tVal, tNot, tAnd, tOr, eIf, eAnd, eOr, eNot, eIs, aNil, aCons, aStar, itemsO, eTup, nLst, eNw, pNone, pSome, sSkip, sSeq, sAsg, sAsgN, sRet, sRetN, sIf, tgName, tgAll, tgTup, sTg, sPar, sFor, iSeqM, iRg1, iRg2, iEnM, ownL, sApp, tgSet, ePop, ePopA, eCall, peeks, takes, hands, boolD, pw_bind, qQ, wipeR, reduceIte, nOp, nList, isD, lenD, wW, eJoin, ix0]
  refine q_callR (r_law_row_text hL hLl b) rfl ?_
  rintro _ _ ⟨rfl, rfl⟩
  rename_i b
  simp only [eCmp, eBin, eOp, eUn, eFn, eIx, eSlc, eChn, tVal, tNot, tAnd, tOr, eIf, eAnd, eOr, eNot, eIs, aNil, aCons, aStar, itemsO, eTup, nLst, eNw, pNone, pSome, sSkip, sSeq, sAsg, sAsgN, sRet, sRetN, sIf, tgName, tgAll, tgTup, sTg, sPar, sFor, iSeqM, iRg1, iRg2, iEnM, ownL, sApp, tgSet, ePop, ePopA, eCall, peeks, takes, hands, boolD, pw_bind, qQ, wipeR, reduceIte, nOp, nList, isD, lenD, wW, l1, ix1]
  refine q_map1 ktF ?_
  simp only [eCmp, eBin, eOp, eUn, eFn, eIx, eSlc, eChn, tVal, tNot, tAnd, tOr, eIf, eAnd, eOr, eNot, eIs, aNil, aCons, aStar, itemsO, eTup, nLst, eNw, pNone, pSome, sSkip, sSeq, sAsg, sAsgN, sRet, sRetN, sIf, tgName, tgAll, tgTup, sTg, sPar, sFor, iSeqM, iRg1, iRg2, iEnM, ownL, sApp, tgSet, ePop, ePopA, eCall, peeks, takes, hands, boolD, pw_bind, qQ, wipeR, reduceIte, nOp, nList, isD, lenD, wW, ix1]
  refine ⟨lim_le' (by omega), fun d hd => ?_, ?_⟩
  · obtain ⟨s, ts, rfl, h0, h1, h2, h3⟩ := kt d hd
    refine q_callR (r_law_kind_text h0 h1 h2 h3 b) rfl ?_
    rintro _ _ ⟨rfl, rfl⟩
    simp only [eCmp, eBin, eOp, eUn, eFn, eIx, eSlc, eChn, tVal, tNot, tAnd, tOr, eIf, eAnd, eOr, eNot, eIs, aNil, aCons, aStar, itemsO, eTup, nLst, eNw, pNone, pSome, sSkip, sSeq, sAsg, sAsgN, sRet, sRetN, sIf, tgName, tgAll, tgTup, sTg, sPar, sFor, iSeqM, iRg1, iRg2, iEnM, ownL, sApp, tgSet, ePop, ePopA, eCall, peeks, takes, hands, boolD, pw_bind, qQ, wipeR, reduceIte, nOp, nList, isD, lenD, wW, (add_tx c2 (kind_tx h0 h1 h2 h3) (by omega)).1]
    rfl
  · have e : ks.map ktF = (ks.map ktS).map PyData.str := by
      rw [List.map_map]
      rfl
    have hj := join_k (s := " ") (by decide) (k := 19) (m := 6) (ys := ks.map ktS) (fun y hy => by
      obtain ⟨x, hx, rfl⟩ := List.mem_map.mp hy
      obtain ⟨s, ts, rfl, h0, h1, h2, h3⟩ := kt x hx
      exact (add_tx c2 (kind_tx h0 h1 h2 h3) (by omega)).2) (by rw [List.length_map]; omega) (by omega) (by omega)
    have hsum := sum_le (k := 19) (ys := ks.map ktS) (fun y hy => by
      obtain ⟨x, hx, rfl⟩ := List.mem_map.mp hy
      obtain ⟨s, ts, rfl, h0, h1, h2, h3⟩ := kt x hx
      exact (add_tx c2 (kind_tx h0 h1 h2 h3) (by omega)).2)
    have hr := (row_tx hL hLl).2
    have hrl := hr.l
    have hadd : binD .add (.list [.str (rowT (ls.map PyData.int))]) (.list ((ks.map ktS).map PyData.str)) = some (.list ((rowT (ls.map PyData.int) :: ks.map ktS).map PyData.str)) := by
      rw [add_lst (lim_le' (by rw [List.length_map, List.length_map]; simp; omega))]
      rfl
    have hsp : ((" " : String) : Str).length = 1 := by decide
    rw [List.length_map] at hsum
    have hjv : joinD (.str " ") (.list ((rowT (ls.map PyData.int) :: ks.map ktS).map PyData.str)) = some (.str (handT ls ks)) := join_val (by
      rw [hsp, List.map_cons, List.sum_cons, List.length_cons, List.length_map]
      omega)
    rw [e]
    simp only [eCmp, eBin, eOp, eUn, eFn, eIx, eSlc, eChn, tVal, tNot, tAnd, tOr, eIf, eAnd, eOr, eNot, eIs, aNil, aCons, aStar, itemsO, eTup, nLst, eNw, pNone, pSome, sSkip, sSeq, sAsg, sAsgN, sRet, sRetN, sIf, tgName, tgAll, tgTup, sTg, sPar, sFor, iSeqM, iRg1, iRg2, iEnM, ownL, sApp, tgSet, ePop, ePopA, eCall, peeks, takes, hands, boolD, pw_bind, qQ, wipeR, reduceIte, nOp, nList, isD, lenD, wW, hadd, hjv]
    refine ⟨_, rfl, ?_, join_ok fun y hy => ?_⟩
    · unfold handT
      rw [join_len hsp, List.map_cons, List.sum_cons, List.length_cons, List.length_map]
      omega
    · rcases List.mem_cons.mp hy with rfl | hy
      · exact hr.k
      · obtain ⟨x, hx, rfl⟩ := List.mem_map.mp hy
        obtain ⟨s, ts, rfl, h0, h1, h2, h3⟩ := kt x hx
        exact (add_tx c2 (kind_tx h0 h1 h2 h3) (by omega)).2.k
end K13
set_option linter.all false
set_option Elab.async false
set_option maxHeartbeats 0
set_option maxRecDepth 10000
namespace K12
open PySem TW K02 K13
open TL (joinL tl_join join_eq tl tl_append)
theorem joinL_pre {S P k : List Nat} : ∀ r : List (List Nat), joinL S ((P ++ k) :: r) = P ++ joinL S (k :: r)
  | [] => rfl
  | q :: r => by
    show (P ++ k) ++ (S ++ joinL S (q :: r)) = P ++ (k ++ (S ++ joinL S (q :: r)))
    rw [List.append_assoc]
theorem joinL_two {S P : List Nat} : ∀ (a : List Nat) (ks : List (List Nat)), joinL (S ++ P) (a :: ks) = joinL S (a :: ks.map (P ++ ·))
  | a, [] => rfl
  | a, k :: r => by
    show a ++ ((S ++ P) ++ joinL (S ++ P) (k :: r)) = a ++ (S ++ joinL S ((P ++ k) :: r.map (P ++ ·)))
    rw [joinL_two k r, joinL_pre, List.append_assoc]
theorem joinL_words {S : List Nat} {c : List Nat} : ∀ (a : List Nat) (ks : List (List Nat)), joinL S (a :: ks.map ((c ++ S) ++ ·)) = joinL S (a :: ks.flatMap fun k => [c, k])
  | a, [] => rfl
  | a, k :: r => by
    show a ++ (S ++ joinL S (((c ++ S) ++ k) :: r.map ((c ++ S) ++ ·))) = a ++ (S ++ (c ++ (S ++ joinL S (k :: r.flatMap fun k => [c, k]))))
    rw [joinL_pre, joinL_words k r, List.append_assoc]
theorem tl_inj {x y : Str} (h : tl x = tl y) : x = y := TL.ext_tl h
theorem join_tl (s : Str) (ps : List Str) : tl (Txt.join s ps) = joinL (tl s) (ps.map tl) := by rw [join_eq, tl_join]
theorem join_slash (a : Str) (ks : List Str) : Txt.join (" / " : String) (a :: ks) = Txt.join (" " : String) (a :: ks.map (("/ " : Str) ++ ·)) := by
  refine tl_inj ?_
  have e : tl ((" / " : String) : Str) = tl ((" " : String) : Str) ++ tl (("/ " : String) : Str) := by decide +kernel
  rw [join_tl, join_tl, List.map_cons, List.map_cons, e, joinL_two, List.map_map, List.map_map]
  congr 2
  refine List.map_congr_left fun k _ => ?_
  show tl _ ++ tl k = tl (_ ++ k)
  rw [tl_append]
theorem join_ws (a : Str) (ks : List Str) : Txt.join (" " : String) (a :: ks.map (("/ " : Str) ++ ·)) = Txt.join (" " : String) (a :: ks.flatMap fun k => [slash, k]) := by
  refine tl_inj ?_
  have e : tl (("/ " : String) : Str) = tl slash ++ tl ((" " : String) : Str) := by decide +kernel
  rw [join_tl, join_tl, List.map_cons, List.map_cons, List.map_map, List.map_flatMap]
  have h := joinL_words (S := tl ((" " : String) : Str)) (c := tl slash) (tl a) (ks.map tl)
  rw [List.map_map, List.flatMap_map] at h
  have e1 : (ks.map (tl ∘ (("/ " : Str) ++ ·))) = ks.map ((fun x => tl slash ++ tl ((" " : String) : Str) ++ x) ∘ tl) := List.map_congr_left fun k _ => by
    show tl (_ ++ k) = (tl slash ++ tl ((" " : String) : Str)) ++ tl k
    rw [tl_append, ← e]
  rw [e1]
  exact h
theorem figs {i : Int} (h0 : 0 ≤ i) (h1 : i < 10) : numF (numS (.int i)) = .int i ∧ (∀ c ∈ tl (numS (.int i)), 48 ≤ c ∧ c ≤ 57) := by
  have h : i = 0 ∨ i = 1 ∨ i = 2 ∨ i = 3 ∨ i = 4 ∨ i = 5 ∨ i = 6 ∨ i = 7 ∨ i = 8 ∨ i = 9 := by omega
  rcases h with rfl | rfl | rfl | rfl | rfl | rfl | rfl | rfl | rfl | rfl <;> exact ⟨rfl, by decide⟩
end K12
set_option linter.all false
set_option Elab.async false
set_option maxHeartbeats 0
set_option maxRecDepth 10000
namespace K12
open PySem TW K02 K13
open TL (joinL tl_join join_eq tl tl_append)
theorem read_back {y : String} {s : Nat} (ey : tl (y : Str) = [s]) (hs : (((y : Str).cps).all fun x => decide (x < 256)) = true) {ps : List Str} (hne : ps ≠ []) (hp : ∀ p ∈ ps, s ∉ tl p) : K13.parts (Txt.join (y : Str) ps) y = ps :=
  TL.split_join ey hs hne hp
theorem sep_c : tl ((":" : String) : Str) = [58] ∧ tl ((" " : String) : Str) = [32] ∧ tl (("," : String) : Str) = [44] ∧ tl (slash) = [47] := by decide +kernel
theorem mem_join {s : Str} {ps : List Str} {c : Nat} (h : c ∈ tl (Txt.join s ps)) : c ∈ tl s ∨ ∃ p ∈ ps, c ∈ tl p := by
  rw [join_tl] at h
  have go : ∀ (S : List Nat) (qs : List (List Nat)), c ∈ joinL S qs → c ∈ S ∨ ∃ q ∈ qs, c ∈ q := by
    intro S qs
    induction qs with
    | nil => intro h; cases h
    | cons q r ih =>
      cases r with
      | nil => intro h; exact .inr ⟨q, by simp, h⟩
      | cons q2 r =>
        intro h
        have h : c ∈ q ++ (S ++ joinL S (q2 :: r)) := h
        rcases List.mem_append.mp h with h | h
        · exact .inr ⟨q, by simp, h⟩
        · rcases List.mem_append.mp h with h | h
          · exact .inl h
          · rcases ih h with h | ⟨p, hp, hc⟩
            · exact .inl h
            · exact .inr ⟨p, List.mem_cons_of_mem _ hp, hc⟩
  rcases go _ _ h with h | ⟨q, hq, hc⟩
  · exact .inl h
  · obtain ⟨p, hp, rfl⟩ := List.mem_map.mp hq
    exact .inr ⟨p, hp, hc⟩
def Dg (d : PyData) : Prop := ∃ i : Int, d = .int i ∧ 0 ≤ i ∧ i < 10
theorem dg_ints {n : Nat} (hn : n ≤ 8) {ts : List Int} (h : ∀ t ∈ ts, 0 ≤ t ∧ t < (n : Int)) : ∀ d ∈ ts.map PyData.int, Dg d := fun d hd => by
  obtain ⟨t, ht, rfl⟩ := List.mem_map.mp hd
  have := h t ht
  exact ⟨t, rfl, by omega, by omega⟩
theorem dg_num {d : PyData} (h : Dg d) : numF (numS d) = d ∧ isNoneD d = false ∧ ∀ c ∈ tl (numS d), 48 ≤ c ∧ c ≤ 57 := by
  obtain ⟨i, rfl, h0, h1⟩ := h
  obtain ⟨e1, e2⟩ := figs h0 h1
  exact ⟨e1, rfl, e2⟩
theorem dgs_num : ∀ {ds : List PyData}, (∀ d ∈ ds, Dg d) → (ds.map numS).map numF = ds ∧ ds.any isNoneD = false
  | [], _ => ⟨rfl, rfl⟩
  | d :: ds, h => by
    obtain ⟨e1, e2⟩ := dgs_num fun x hx => h x (List.mem_cons_of_mem d hx)
    obtain ⟨f1, f2, _⟩ := dg_num (h d (by simp))
    exact ⟨by rw [List.map_cons, List.map_cons, e1, f1], by rw [List.any_cons, f2, e2]; rfl⟩
theorem row_chars {ds : List PyData} (h : ∀ d ∈ ds, Dg d) : ∀ c ∈ tl (rowT ds), c = 44 ∨ 48 ≤ c ∧ c ≤ 57 := fun c hc => by
  rcases mem_join hc with h1 | ⟨p, hp, h1⟩
  · have e := sep_c.2.2.1
    have h1 : c ∈ tl (("," : String) : Str) := h1
    rw [e] at h1
    exact .inl (List.mem_singleton.mp h1)
  · obtain ⟨d, hd, rfl⟩ := List.mem_map.mp hp
    exact .inr ((dg_num (h d hd)).2.2 c h1)
theorem row_back {ds : List PyData} (h : ∀ d ∈ ds, Dg d) (hne : ds ≠ []) : rowF (rowT ds) = .tuple ds := by
  have e : K13.parts (rowT ds) "," = ds.map numS := read_back sep_c.2.2.1 (by decide +kernel) (by simpa using hne) fun p hp hc => by
    obtain ⟨d, hd, rfl⟩ := List.mem_map.mp hp
    have := (dg_num (h d hd)).2.2 _ hc
    omega
  have e2 : rowL (rowT ds) = ds := by
    show (K13.parts (rowT ds) ",").map numF = ds
    rw [e, (dgs_num h).1]
  unfold rowF
  rw [e2, (dgs_num h).2]
  rfl
theorem kindT_join (s : Int) (ts : List PyData) : kindT s ts = Txt.join ((":" : String) : Str) [numS (.int s), rowT ts] := by
  refine tl_inj ?_
  rw [join_tl]
  show tl ((numS (.int s) ++ ((":" : String) : Str)) ++ rowT ts) = tl (numS (.int s)) ++ (tl ((":" : String) : Str) ++ tl (rowT ts))
  rw [tl_append, tl_append, List.append_assoc]
theorem kind_chars {s : Int} (h0 : 0 ≤ s) (h1 : s < 10) {ts : List PyData} (h : ∀ d ∈ ts, Dg d) : ∀ c ∈ tl (kindT s ts), c = 58 ∨ c = 44 ∨ 48 ≤ c ∧ c ≤ 57 := fun c hc => by
  rw [kindT_join] at hc
  rcases mem_join hc with h1' | ⟨p, hp, h2⟩
  · have e := sep_c.1
    rw [e] at h1'
    exact .inl (List.mem_singleton.mp h1')
  · simp only [List.mem_cons, List.not_mem_nil, or_false] at hp
    rcases hp with rfl | rfl
    · exact .inr (.inr ((dg_num ⟨s, rfl, h0, h1⟩).2.2 c h2))
    · exact .inr (row_chars h c h2)
theorem kind_back {s : Int} (h0 : 0 ≤ s) (h1 : s < 10) {ts : List PyData} (h : ∀ d ∈ ts, Dg d) (hne : ts ≠ []) : kindF (kindT s ts) = .tuple [.int s, .tuple ts] := by
  have e : K13.parts (kindT s ts) ":" = [numS (.int s), rowT ts] := by
    rw [kindT_join]
    refine read_back sep_c.1 (by decide +kernel) (by simp) fun p hp hc => ?_
    simp only [List.mem_cons, List.not_mem_nil, or_false] at hp
    rcases hp with rfl | rfl
    · have := (dg_num ⟨s, rfl, h0, h1⟩).2.2 _ hc
      omega
    · have := row_chars h _ hc
      omega
  unfold kindF
  rw [e]
  show kindG (numF (numS (.int s))) (rowF (rowT ts)) = _
  rw [(dg_num ⟨s, rfl, h0, h1⟩).1, row_back h hne]
  rfl
def kS : PyData → Str
  | .tuple [.int s, .tuple ts] => kindT s ts
  | _ => ""
def Kd (x : PyData) : Prop := ∃ s ts, x = .tuple [.int s, .tuple ts] ∧ 0 ≤ s ∧ s < 10 ∧ (∀ d ∈ ts, Dg d) ∧ ts.length ≤ 8 ∧ ts ≠ []
theorem kd_of {n : Nat} (hn : n ≤ 8) (h1 : 1 ≤ n) {x : PyData} (h : IsK n x) : Kd x := by
  obtain ⟨s, ts, rfl, h0, h4, hts, hbs⟩ := h
  refine ⟨s, _, rfl, h0, by omega, dg_ints hn hbs, by rw [List.length_map]; omega, fun e => ?_⟩
  have := congrArg List.length e
  rw [List.length_map] at this
  simp at this
  subst this
  simp at hts
  omega
theorem ktS_kS {x : PyData} (h : Kd x) : ktS x = ("/ " : Str) ++ kS x := by
  obtain ⟨s, ts, rfl, _⟩ := h
  rfl
theorem words_of {a : Str} {ks : List PyData} (ha : 32 ∉ tl a) (hk : ∀ x ∈ ks, Kd x) : K13.parts (Txt.join (" " : String) (a :: ks.map ktS)) " " = a :: ks.flatMap fun x => [slash, kS x] := by
  have e1 : ks.map ktS = (ks.map kS).map (("/ " : Str) ++ ·) := by
    rw [List.map_map]
    exact List.map_congr_left fun x hx => ktS_kS (hk x hx)
  have e2 : (ks.map kS).flatMap (fun k => [slash, k]) = ks.flatMap fun x => [slash, kS x] := by
    rw [List.flatMap_map]
  rw [e1, join_ws, e2]
  refine read_back sep_c.2.1 (by decide +kernel) (by simp) fun p hp hc => ?_
  rcases List.mem_cons.mp hp with rfl | hp
  · exact ha hc
  · obtain ⟨x, hx, hp⟩ := List.mem_flatMap.mp hp
    simp only [List.mem_cons, List.not_mem_nil, or_false] at hp
    rcases hp with rfl | rfl
    · have hc : 32 ∈ tl slash := hc
      rw [sep_c.2.2.2] at hc
      simp at hc
    · obtain ⟨s, ts, rfl, h0, h1, h2, h3, h4⟩ := hk x hx
      have := kind_chars h0 h1 h2 _ hc
      omega
theorem loop_back : ∀ (ks acc : List PyData) (n : Nat), (∀ x ∈ ks, Kd x) → acc ++ ks ≠ [] → loopF (ks.flatMap fun x => [slash, kS x]) acc n = .done (acc ++ ks)
  | [], acc, n, _, hne => by
    rw [List.append_nil] at hne ⊢
    cases acc with
    | nil => exact absurd rfl hne
    | cons a r => rfl
  | x :: ks, acc, n, h, _ => by
    obtain ⟨s, ts, rfl, h0, h1, h2, h3, h4⟩ := h x (by simp)
    have e : kindF (kindT s ts) = .tuple [.int s, .tuple ts] := kind_back h0 h1 h2 h4
    show loopF (slash :: kindT s ts :: (ks.flatMap fun x => [slash, kS x])) acc n = _
    rw [loopF, if_pos (by decide +kernel), e]
    show loopF _ (acc ++ [_]) (n + 2) = _
    rw [loop_back ks (acc ++ [_]) (n + 2) (fun y hy => h y (List.mem_cons_of_mem _ hy)) (by simp), List.append_assoc]
    rfl
theorem isIn_of {a c i : Int} (h0 : a ≤ i) (h1 : i ≤ c) : isIn a c (.int i) = true := by
  unfold isIn
  simp [h0, h1]
theorem areIn_of {n : Nat} {ts : List Int} (hl : ts.length = n) (h : ∀ t ∈ ts, 0 ≤ t ∧ t < (n : Int)) : areIn 0 ((n : Int) - 1) n (.tuple (ts.map PyData.int)) = true := by
  unfold areIn
  simp [hl, List.all_eq_true]
  intro t ht
  have := h t ht
  exact isIn_of (by omega) (by omega)
theorem kerr_none {n : Nat} : ∀ {ks : List PyData} (i : Nat), (∀ x ∈ ks, IsK n x) → kindsErr (n : Int) i ks = .none
  | [], _, _ => rfl
  | k :: r, i, h => by
    obtain ⟨s, ts, rfl, h0, h4, hts, hbs⟩ := h k (by simp)
    have e : kindW (n : Int) (.tuple [.int s, .tuple (ts.map PyData.int)]) = .none := by
      show (if isIn 0 3 (.int s) = true then (if areIn 0 ((n : Int) - 1) n (.tuple (ts.map PyData.int)) = true then PyData.none else .str "targets") else .str "sender") = _
      have h3 : isIn 0 3 (.int s) = true := isIn_of (by omega) (by omega)
      rw [if_pos h3, if_pos (areIn_of hts hbs)]
    unfold kindsErr
    rw [e]
    exact kerr_none (i + 1) fun x hx => h x (List.mem_cons_of_mem _ hx)
theorem herr_none {n k : Nat} {d : PyData} (H : IsH n k d) (h2 : 2 ≤ n) (h8 : n ≤ 8) (k1 : 1 ≤ k) (k6 : k ≤ 6) : herr d = .none := by
  obtain ⟨ls, ks, rfl, hl, hk, hb, hK⟩ := H
  have e : labelsOk (.tuple (ls.map PyData.int)) = true := by
    show (decide (2 ≤ ((ls.map PyData.int).length : Int)) && decide (((ls.map PyData.int).length : Int) ≤ 8) && areIn 0 (((ls.map PyData.int).length : Int) - 1) (ls.map PyData.int).length (.tuple (ls.map PyData.int))) = true
    rw [List.length_map, hl, areIn_of hl hb, decide_eq_true (show (2 : Int) ≤ (n : Int) by omega), decide_eq_true (show (n : Int) ≤ 8 by omega)]
    rfl
  show (if labelsOk (.tuple (ls.map PyData.int)) = true then (if 1 ≤ (ks.length : Int) ∧ (ks.length : Int) ≤ 6 then kindsErr ((ls.map PyData.int).length : Int) 0 ks else _) else _) = _
  rw [if_pos e, if_pos ⟨by omega, by omega⟩, List.length_map, hl]
  exact kerr_none 0 hK
theorem out_hand {n k : Nat} {d : PyData} (H : IsH n k d) (h2 : 2 ≤ n) (h8 : n ≤ 8) (k1 : 1 ≤ k) (k6 : k ≤ 6) {ls : List Int} {ks : List PyData} (e : d = .tuple [.tuple (ls.map PyData.int), .tuple ks]) : outW (K13.parts (handT ls ks) " ") = .ret d := by
  have hn := herr_none H h2 h8 k1 k6
  obtain ⟨ls', ks', e', hl, hk, hb, hK⟩ := H
  obtain ⟨rfl, rfl⟩ : ls = ls' ∧ ks = ks' := by
    rw [e] at e'
    simp only [PyData.tuple.injEq, List.cons.injEq, and_true] at e'
    refine ⟨?_, e'.2⟩
    have h1 := e'.1
    have : ∀ (a c : List Int), a.map PyData.int = c.map PyData.int → a = c := fun a => by
      induction a with
      | nil => intro c h; cases c with
        | nil => rfl
        | cons x y => cases h
      | cons u v ih => intro c h; cases c with
        | nil => cases h
        | cons x y =>
          rw [List.map_cons, List.map_cons] at h
          injection h with h3 h4
          injection h3 with h3
          rw [h3, ih y h4]
    exact this _ _ h1
  have hd := dg_ints h8 hb
  have hkd : ∀ x ∈ ks, Kd x := fun x hx => kd_of h8 (by omega) (hK x hx)
  have hw := words_of (a := rowT (ls.map PyData.int)) (fun hc => by have := row_chars hd _ hc; omega) hkd
  have hw : K13.parts (handT ls ks) " " = _ := hw
  have hr := row_back hd (by
    intro h0
    have := congrArg List.length h0
    rw [List.length_map] at this
    simp at this
    subst this
    simp at hl
    omega)
  have hlp := loop_back ks [] 1 hkd (by
    rw [List.nil_append]
    intro h0
    subst h0
    simp at hk
    omega)
  rw [hw]
  show (if isNoneD (rowF (rowT (ls.map PyData.int))) = true then Out.txt (.int 0) else match loopF (ks.flatMap fun x => [slash, kS x]) [] 1 with
    | .txt n => .txt (.int (n : Nat))
    | .done ks => endO (rowF (rowT (ls.map PyData.int))) ks) = _
  rw [hr, hlp]
  show endO (.tuple (ls.map PyData.int)) ks = _
  unfold endO
  rw [← e, hn]
  rfl
end K12
set_option linter.all false
set_option Elab.async false
set_option maxHeartbeats 0
set_option maxRecDepth 10000
namespace K12
open PySem TW K02 K13
theorem f_row_same : f_row_text = K13.f_law_row_text := rfl
theorem f_lrow_same : f_law_row_text = K13.f_law_row_text := rfl
theorem f_kind_same : f_kind_text = K13.f_law_kind_text := rfl
theorem f_lkind_same : f_law_kind_text = K13.f_law_kind_text := rfl
theorem f_lhand_same : f_law_handler_text = K13.f_law_handler_text := rfl
theorem q_takesA {s : Sx} {Q : List PyData → Sx → Prop} {E : Er → Prop} : ∀ (ds : List PyData), pw (takes (ds.map Opd.val)) s Q E = Q ds s
  | [] => rfl
  | d :: ds => by
    have ih := q_takesA (s := s) (Q := fun xs s' => Q (d :: xs) s') (E := E) ds
    rw [List.map_cons]
    show pw (take (.val d) >>= fun x => (do let xs ← takes (ds.map Opd.val); pure (x :: xs) : M (List PyData))) s Q E = _
    simp only [pw_bind, q_takeV, q_pure]
    exact ih
theorem c2 : Tx 2 (("/ " : String) : Str) := tx_c (by decide)
theorem sp1 : ((" " : String) : Str).length = 1 := by decide
theorem pieces {a : Str} (ha : Tx 15 a) {ks : List PyData} {f : PyData → Str} (hk : ∀ x ∈ ks, Tx 19 (f x)) (hl : ks.length ≤ 8) :
    joinD (.str " ") (.list ((a :: ks.map f).map PyData.str)) = some (.str (Txt.join (" " : String) (a :: ks.map f))) ∧ Tx 200 (Txt.join (" " : String) (a :: ks.map f)) ∧ binD .add (.list [.str a]) (.list (ks.map fun x => .str (f x))) = some (.list ((a :: ks.map f).map PyData.str)) := by
  have hsum := sum_le (k := 19) (ys := ks.map f) (fun y hy => by
    obtain ⟨x, hx, rfl⟩ := List.mem_map.mp hy
    exact hk x hx)
  have hrl := ha.l
  rw [List.length_map] at hsum
  refine ⟨join_val ?_, ⟨?_, join_ok fun y hy => ?_⟩, ?_⟩
  · rw [sp1, List.map_cons, List.sum_cons, List.length_cons, List.length_map]
    omega
  · rw [join_len sp1, List.map_cons, List.sum_cons, List.length_cons, List.length_map]
    omega
  · rcases List.mem_cons.mp hy with rfl | hy
    · exact ha.k
    · obtain ⟨x, hx, rfl⟩ := List.mem_map.mp hy
      exact (hk x hx).k
  · rw [add_lst (lim_le' (by rw [List.length_map]; simp; omega)), List.map_cons, List.map_map]
    rfl
theorem slashed {a : Str} (ha : Tx 15 a) {ks : List PyData} {f : PyData → Str} (hk : ∀ x ∈ ks, Tx 17 (f x)) (hl : ks.length ≤ 8) :
    joinD (.str " / ") (.list ((a :: ks.map f).map PyData.str)) = some (.str (Txt.join (" " : String) (a :: ks.map fun x => ("/ " : Str) ++ f x))) := by
  have e : Txt.join (" / " : String) (a :: ks.map f) = Txt.join (" " : String) (a :: ks.map fun x => ("/ " : Str) ++ f x) := by
    rw [join_slash, List.map_map]
    rfl
  rw [← e]
  have hsum := sum_le (k := 17) (ys := ks.map f) (fun y hy => by
    obtain ⟨x, hx, rfl⟩ := List.mem_map.mp hy
    exact hk x hx)
  have hrl := ha.l
  rw [List.length_map] at hsum
  have s3 : ((" / " : String) : Str).length = 3 := by decide
  refine join_val ?_
  rw [s3, List.map_cons, List.sum_cons, List.length_cons, List.length_map]
  omega
theorem kd_fg {x : PyData} (h : Kd x) : ∃ s ts, x = .tuple [.int s, .tuple ts] ∧ 0 ≤ s ∧ s < 10 ∧ (∀ d ∈ ts, Fg d) ∧ ts.length ≤ 8 := by
  obtain ⟨s, ts, e, h0, h1, h2, h3, _⟩ := h
  exact ⟨s, ts, e, h0, h1, fun d hd => .inr (h2 d hd), h3⟩
theorem kS_tx {x : PyData} (h : Kd x) : Tx 17 (kS x) := by
  obtain ⟨s, ts, rfl, h0, h1, h2, h3⟩ := kd_fg h
  exact kind_tx h0 h1 h2 h3
theorem ktS_tx {x : PyData} (h : Kd x) : Tx 19 (ktS x) := by
  rw [ktS_kS h]
  exact (add_tx c2 (kS_tx h) (by omega)).2
theorem r_kind {x : PyData} (h : Kd x) (b : Option Bx) : Runs K13.f_law_kind_text [.dat x] b fun d b' => d = .str (kS x) ∧ b' = b := by
  obtain ⟨s, ts, rfl, h0, h1, h2, h3⟩ := kd_fg h
  exact r_law_kind_text h0 h1 h2 h3 b
structure Hd (ls : List Int) (ks : List PyData) : Prop where
  l : ∀ d ∈ ls.map PyData.int, Fg d
  ll : (ls.map PyData.int).length ≤ 8
  k : ∀ x ∈ ks, Kd x
  kl : ks.length ≤ 6
theorem Hd.row {ls : List Int} {ks : List PyData} (H : Hd ls ks) : Tx 15 (rowT (ls.map PyData.int)) := (row_tx H.l H.ll).2
theorem Hd.tx {ls : List Int} {ks : List PyData} (H : Hd ls ks) : Tx 200 (handT ls ks) := (pieces H.row (fun x hx => ktS_tx (H.k x hx)) (by have := H.kl; omega)).2.1
abbrev hV (ls : List Int) (ks : List PyData) : PyData := .tuple [.tuple (ls.map PyData.int), .tuple ks]
theorem r_law_handler_text {ls : List Int} {ks : List PyData} (H : Hd ls ks) (b : Option Bx) : Runs f_law_handler_text [.dat (hV ls ks)] b fun d b' => d = .str (handT ls ks) ∧ b' = b := by
  have l1 : 0 + 1 ≤ lim := by decide
  have hkl := H.kl
  obtain ⟨j1, j2, j3⟩ := pieces H.row (fun x hx => ktS_tx (H.k x hx)) (by omega)
  rw [f_lhand_same]
  refine runs_of ?_
  unfold K13.m_law_handler_text
  simp only [List.map_cons, List.map_nil, argSV, List.length_cons, List.length_nil, Nat.reduceAdd, Nat.reduceSub, List.replicate, List.cons_append, List.nil_append]
  simp only [eCmp, eBin, eOp, eUn, eFn, eIx, eSlc, eChn, tVal, tNot, tAnd, tOr, eIf, eAnd, eOr, eNot, eIs, aNil, aCons, aStar, itemsO, eTup, nLst, eNw, pNone, pSome, sSkip, sSeq, sAsg, sAsgN, sRet, sRetN, sIf, tgName, tgAll, tgTup, sTg, sPar, sFor, iSeqM, iRg1, iRg2, iEnM, ownL, sApp, tgSet, ePop, ePopA, eCall, peeks, takes, hands, boolD, pw_bind, qQ, wipeR, reduceIte, nOp, nList, isD, lenD, wW, eJoin, ix0]
  refine q_callR (K13.r_law_row_text H.l H.ll b) rfl ?_
  rintro _ _ ⟨rfl, rfl⟩
  rename_i b
  simp only [eCmp, eBin, eOp, eUn, eFn, eIx, eSlc, eChn, tVal, tNot, tAnd, tOr, eIf, eAnd, eOr, eNot, eIs, aNil, aCons, aStar, itemsO, eTup, nLst, eNw, pNone, pSome, sSkip, sSeq, sAsg, sAsgN, sRet, sRetN, sIf, tgName, tgAll, tgTup, sTg, sPar, sFor, iSeqM, iRg1, iRg2, iEnM, ownL, sApp, tgSet, ePop, ePopA, eCall, peeks, takes, hands, boolD, pw_bind, qQ, wipeR, reduceIte, nOp, nList, isD, lenD, wW, l1, ix1]
  refine q_map1 (fun x => .str (ktS x)) ?_
  simp only [eCmp, eBin, eOp, eUn, eFn, eIx, eSlc, eChn, tVal, tNot, tAnd, tOr, eIf, eAnd, eOr, eNot, eIs, aNil, aCons, aStar, itemsO, eTup, nLst, eNw, pNone, pSome, sSkip, sSeq, sAsg, sAsgN, sRet, sRetN, sIf, tgName, tgAll, tgTup, sTg, sPar, sFor, iSeqM, iRg1, iRg2, iEnM, ownL, sApp, tgSet, ePop, ePopA, eCall, peeks, takes, hands, boolD, pw_bind, qQ, wipeR, reduceIte, nOp, nList, isD, lenD, wW, ix1]
  refine ⟨lim_le' (by omega), fun d hd => ?_, ?_⟩
  · have hk := H.k d hd
    refine q_callR (r_kind hk b) rfl ?_
    rintro _ _ ⟨rfl, rfl⟩
    simp only [eCmp, eBin, eOp, eUn, eFn, eIx, eSlc, eChn, tVal, tNot, tAnd, tOr, eIf, eAnd, eOr, eNot, eIs, aNil, aCons, aStar, itemsO, eTup, nLst, eNw, pNone, pSome, sSkip, sSeq, sAsg, sAsgN, sRet, sRetN, sIf, tgName, tgAll, tgTup, sTg, sPar, sFor, iSeqM, iRg1, iRg2, iEnM, ownL, sApp, tgSet, ePop, ePopA, eCall, peeks, takes, hands, boolD, pw_bind, qQ, wipeR, reduceIte, nOp, nList, isD, lenD, wW, (add_tx c2 (kS_tx hk) (by omega)).1]
    rw [ktS_kS hk]
  · simp only [eCmp, eBin, eOp, eUn, eFn, eIx, eSlc, eChn, tVal, tNot, tAnd, tOr, eIf, eAnd, eOr, eNot, eIs, aNil, aCons, aStar, itemsO, eTup, nLst, eNw, pNone, pSome, sSkip, sSeq, sAsg, sAsgN, sRet, sRetN, sIf, tgName, tgAll, tgTup, sTg, sPar, sFor, iSeqM, iRg1, iRg2, iEnM, ownL, sApp, tgSet, ePop, ePopA, eCall, peeks, takes, hands, boolD, pw_bind, qQ, wipeR, reduceIte, nOp, nList, isD, lenD, wW, j3, j1]
    rfl
theorem r_handler_text {ls : List Int} {ks : List PyData} (H : Hd ls ks) (b : Option Bx) : Runs f_handler_text [.dat (hV ls ks)] b fun d b' => d = .str (handT ls ks) ∧ b' = b := by
  have hkl := H.kl
  have j := slashed H.row (fun x hx => kS_tx (H.k x hx)) (by omega)
  have e : ks.map (fun x => ("/ " : Str) ++ kS x) = ks.map ktS := List.map_congr_left fun x hx => (ktS_kS (H.k x hx)).symm
  rw [e] at j
  have e2 : (rowT (ls.map PyData.int) :: ks.map kS).map PyData.str = .str (rowT (ls.map PyData.int)) :: ks.map fun x => .str (kS x) := by
    rw [List.map_cons, List.map_map]
    rfl
  rw [e2] at j
  refine runs_of ?_
  unfold m_handler_text
  rw [f_row_same, f_kind_same]
  simp only [List.map_cons, List.map_nil, argSV, List.length_cons, List.length_nil, Nat.reduceAdd, Nat.reduceSub, List.replicate, List.cons_append, List.nil_append]
  simp only [eCmp, eBin, eOp, eUn, eFn, eIx, eSlc, eChn, tVal, tNot, tAnd, tOr, eIf, eAnd, eOr, eNot, eIs, aNil, aCons, aStar, itemsO, eTup, nLst, eNw, pNone, pSome, sSkip, sSeq, sAsg, sAsgN, sRet, sRetN, sIf, tgName, tgAll, tgTup, sTg, sPar, sFor, iSeqM, iRg1, iRg2, iEnM, ownL, sApp, tgSet, ePop, ePopA, eCall, peeks, takes, hands, boolD, pw_bind, qQ, wipeR, reduceIte, nOp, nList, isD, lenD, wW, eJoin, ix0]
  refine q_callR (K13.r_law_row_text H.l H.ll b) rfl ?_
  rintro _ _ ⟨rfl, rfl⟩
  rename_i b
  simp only [eCmp, eBin, eOp, eUn, eFn, eIx, eSlc, eChn, tVal, tNot, tAnd, tOr, eIf, eAnd, eOr, eNot, eIs, aNil, aCons, aStar, itemsO, eTup, nLst, eNw, pNone, pSome, sSkip, sSeq, sAsg, sAsgN, sRet, sRetN, sIf, tgName, tgAll, tgTup, sTg, sPar, sFor, iSeqM, iRg1, iRg2, iEnM, ownL, sApp, tgSet, ePop, ePopA, eCall, peeks, takes, hands, boolD, pw_bind, qQ, wipeR, reduceIte, nOp, nList, isD, lenD, wW, ix1]
  refine q_map1 (fun x => .str (kS x)) ?_
  simp only [eCmp, eBin, eOp, eUn, eFn, eIx, eSlc, eChn, tVal, tNot, tAnd, tOr, eIf, eAnd, eOr, eNot, eIs, aNil, aCons, aStar, itemsO, eTup, nLst, eNw, pNone, pSome, sSkip, sSeq, sAsg, sAsgN, sRet, sRetN, sIf, tgName, tgAll, tgTup, sTg, sPar, sFor, iSeqM, iRg1, iRg2, iEnM, ownL, sApp, tgSet, ePop, ePopA, eCall, peeks, takes, hands, boolD, pw_bind, qQ, wipeR, reduceIte, nOp, nList, isD, lenD, wW, ix1]
  refine ⟨lim_le' (by omega), fun d hd => ?_, ?_⟩
  · have hk := H.k d hd
    refine q_callR (r_kind hk b) rfl ?_
    rintro _ _ ⟨rfl, rfl⟩
    simp only [eCmp, eBin, eOp, eUn, eFn, eIx, eSlc, eChn, tVal, tNot, tAnd, tOr, eIf, eAnd, eOr, eNot, eIs, aNil, aCons, aStar, itemsO, eTup, nLst, eNw, pNone, pSome, sSkip, sSeq, sAsg, sAsgN, sRet, sRetN, sIf, tgName, tgAll, tgTup, sTg, sPar, sFor, iSeqM, iRg1, iRg2, iEnM, ownL, sApp, tgSet, ePop, ePopA, eCall, peeks, takes, hands, boolD, pw_bind, qQ, wipeR, reduceIte, nOp, nList, isD, lenD, wW]
  · have hal : (ks.map fun x => PyData.str (kS x)).length + 1 ≤ lim := lim_le' (by rw [List.length_map]; omega)
    rw [q_takesA]
    simp only [eCmp, eBin, eOp, eUn, eFn, eIx, eSlc, eChn, tVal, tNot, tAnd, tOr, eIf, eAnd, eOr, eNot, eIs, aNil, aCons, aStar, itemsO, eTup, nLst, eNw, pNone, pSome, sSkip, sSeq, sAsg, sAsgN, sRet, sRetN, sIf, tgName, tgAll, tgTup, sTg, sPar, sFor, iSeqM, iRg1, iRg2, iEnM, ownL, sApp, tgSet, ePop, ePopA, eCall, peeks, takes, hands, boolD, pw_bind, qQ, wipeR, reduceIte, nOp, nList, isD, lenD, wW, hal, j]
    rfl
def rS : PyData → Str
  | .tuple ds => rowT ds
  | _ => ""
def rtS (x : PyData) : Str := ("/ " : Str) ++ rS x
def Rw (x : PyData) : Prop := ∃ ds, x = .tuple ds ∧ (∀ d ∈ ds, Fg d) ∧ ds.length ≤ 8
theorem rS_tx {x : PyData} (h : Rw x) : Tx 17 (rS x) := by
  obtain ⟨ds, rfl, h1, h2⟩ := h
  exact (row_tx h1 h2).2.mono (by omega)
theorem rtS_tx {x : PyData} (h : Rw x) : Tx 19 (rtS x) := (add_tx c2 (rS_tx h) (by omega)).2
theorem r_row {x : PyData} (h : Rw x) (b : Option Bx) : Runs K13.f_law_row_text [.dat x] b fun d b' => d = .str (rS x) ∧ b' = b := by
  obtain ⟨ds, rfl, h1, h2⟩ := h
  exact K13.r_law_row_text h1 h2 b
structure Pd (es : List Int) (rs : List PyData) : Prop where
  l : ∀ d ∈ es.map PyData.int, Fg d
  ll : (es.map PyData.int).length ≤ 8
  k : ∀ x ∈ rs, Rw x
  kl : rs.length ≤ 6
theorem Pd.row {es : List Int} {rs : List PyData} (H : Pd es rs) : Tx 15 (rowT (es.map PyData.int)) := (row_tx H.l H.ll).2
def planT (es : List Int) (rs : List PyData) : Str := Txt.join " " (rowT (es.map PyData.int) :: rs.map rtS)
theorem Pd.tx {es : List Int} {rs : List PyData} (H : Pd es rs) : Tx 200 (planT es rs) := (pieces H.row (fun x hx => rtS_tx (H.k x hx)) (by have := H.kl; omega)).2.1
theorem r_law_plan_text {es : List Int} {rs : List PyData} (H : Pd es rs) (b : Option Bx) : Runs f_law_plan_text [.dat (hV es rs)] b fun d b' => d = .str (planT es rs) ∧ b' = b := by
  have l1 : 0 + 1 ≤ lim := by decide
  have hkl := H.kl
  obtain ⟨j1, j2, j3⟩ := pieces H.row (fun x hx => rtS_tx (H.k x hx)) (by omega)
  refine runs_of ?_
  unfold m_law_plan_text
  rw [f_lrow_same]
  simp only [List.map_cons, List.map_nil, argSV, List.length_cons, List.length_nil, Nat.reduceAdd, Nat.reduceSub, List.replicate, List.cons_append, List.nil_append]
  simp only [eCmp, eBin, eOp, eUn, eFn, eIx, eSlc, eChn, tVal, tNot, tAnd, tOr, eIf, eAnd, eOr, eNot, eIs, aNil, aCons, aStar, itemsO, eTup, nLst, eNw, pNone, pSome, sSkip, sSeq, sAsg, sAsgN, sRet, sRetN, sIf, tgName, tgAll, tgTup, sTg, sPar, sFor, iSeqM, iRg1, iRg2, iEnM, ownL, sApp, tgSet, ePop, ePopA, eCall, peeks, takes, hands, boolD, pw_bind, qQ, wipeR, reduceIte, nOp, nList, isD, lenD, wW, eJoin, ix0]
  refine q_callR (K13.r_law_row_text H.l H.ll b) rfl ?_
  rintro _ _ ⟨rfl, rfl⟩
  rename_i b
  simp only [eCmp, eBin, eOp, eUn, eFn, eIx, eSlc, eChn, tVal, tNot, tAnd, tOr, eIf, eAnd, eOr, eNot, eIs, aNil, aCons, aStar, itemsO, eTup, nLst, eNw, pNone, pSome, sSkip, sSeq, sAsg, sAsgN, sRet, sRetN, sIf, tgName, tgAll, tgTup, sTg, sPar, sFor, iSeqM, iRg1, iRg2, iEnM, ownL, sApp, tgSet, ePop, ePopA, eCall, peeks, takes, hands, boolD, pw_bind, qQ, wipeR, reduceIte, nOp, nList, isD, lenD, wW, l1, ix1]
  refine q_map1 (fun x => .str (rtS x)) ?_
  simp only [eCmp, eBin, eOp, eUn, eFn, eIx, eSlc, eChn, tVal, tNot, tAnd, tOr, eIf, eAnd, eOr, eNot, eIs, aNil, aCons, aStar, itemsO, eTup, nLst, eNw, pNone, pSome, sSkip, sSeq, sAsg, sAsgN, sRet, sRetN, sIf, tgName, tgAll, tgTup, sTg, sPar, sFor, iSeqM, iRg1, iRg2, iEnM, ownL, sApp, tgSet, ePop, ePopA, eCall, peeks, takes, hands, boolD, pw_bind, qQ, wipeR, reduceIte, nOp, nList, isD, lenD, wW, ix1]
  refine ⟨lim_le' (by omega), fun d hd => ?_, ?_⟩
  · have hk := H.k d hd
    refine q_callR (r_row hk b) rfl ?_
    rintro _ _ ⟨rfl, rfl⟩
    simp only [eCmp, eBin, eOp, eUn, eFn, eIx, eSlc, eChn, tVal, tNot, tAnd, tOr, eIf, eAnd, eOr, eNot, eIs, aNil, aCons, aStar, itemsO, eTup, nLst, eNw, pNone, pSome, sSkip, sSeq, sAsg, sAsgN, sRet, sRetN, sIf, tgName, tgAll, tgTup, sTg, sPar, sFor, iSeqM, iRg1, iRg2, iEnM, ownL, sApp, tgSet, ePop, ePopA, eCall, peeks, takes, hands, boolD, pw_bind, qQ, wipeR, reduceIte, nOp, nList, isD, lenD, wW, (add_tx c2 (rS_tx hk) (by omega)).1]
    rfl
  · simp only [eCmp, eBin, eOp, eUn, eFn, eIx, eSlc, eChn, tVal, tNot, tAnd, tOr, eIf, eAnd, eOr, eNot, eIs, aNil, aCons, aStar, itemsO, eTup, nLst, eNw, pNone, pSome, sSkip, sSeq, sAsg, sAsgN, sRet, sRetN, sIf, tgName, tgAll, tgTup, sTg, sPar, sFor, iSeqM, iRg1, iRg2, iEnM, ownL, sApp, tgSet, ePop, ePopA, eCall, peeks, takes, hands, boolD, pw_bind, qQ, wipeR, reduceIte, nOp, nList, isD, lenD, wW, j3, j1]
    rfl
theorem r_plan_text {es : List Int} {rs : List PyData} (H : Pd es rs) (b : Option Bx) : Runs f_plan_text [.dat (hV es rs)] b fun d b' => d = .str (planT es rs) ∧ b' = b := by
  have hkl := H.kl
  have j := slashed H.row (fun x hx => rS_tx (H.k x hx)) (by omega)
  have e2 : (rowT (es.map PyData.int) :: rs.map rS).map PyData.str = .str (rowT (es.map PyData.int)) :: rs.map fun x => .str (rS x) := by
    rw [List.map_cons, List.map_map]
    rfl
  rw [e2] at j
  refine runs_of ?_
  unfold m_plan_text
  rw [f_row_same]
  simp only [List.map_cons, List.map_nil, argSV, List.length_cons, List.length_nil, Nat.reduceAdd, Nat.reduceSub, List.replicate, List.cons_append, List.nil_append]
  simp only [eCmp, eBin, eOp, eUn, eFn, eIx, eSlc, eChn, tVal, tNot, tAnd, tOr, eIf, eAnd, eOr, eNot, eIs, aNil, aCons, aStar, itemsO, eTup, nLst, eNw, pNone, pSome, sSkip, sSeq, sAsg, sAsgN, sRet, sRetN, sIf, tgName, tgAll, tgTup, sTg, sPar, sFor, iSeqM, iRg1, iRg2, iEnM, ownL, sApp, tgSet, ePop, ePopA, eCall, peeks, takes, hands, boolD, pw_bind, qQ, wipeR, reduceIte, nOp, nList, isD, lenD, wW, eJoin, ix0]
  refine q_callR (K13.r_law_row_text H.l H.ll b) rfl ?_
  rintro _ _ ⟨rfl, rfl⟩
  rename_i b
  simp only [eCmp, eBin, eOp, eUn, eFn, eIx, eSlc, eChn, tVal, tNot, tAnd, tOr, eIf, eAnd, eOr, eNot, eIs, aNil, aCons, aStar, itemsO, eTup, nLst, eNw, pNone, pSome, sSkip, sSeq, sAsg, sAsgN, sRet, sRetN, sIf, tgName, tgAll, tgTup, sTg, sPar, sFor, iSeqM, iRg1, iRg2, iEnM, ownL, sApp, tgSet, ePop, ePopA, eCall, peeks, takes, hands, boolD, pw_bind, qQ, wipeR, reduceIte, nOp, nList, isD, lenD, wW, ix1]
  refine q_map1 (fun x => .str (rS x)) ?_
  simp only [eCmp, eBin, eOp, eUn, eFn, eIx, eSlc, eChn, tVal, tNot, tAnd, tOr, eIf, eAnd, eOr, eNot, eIs, aNil, aCons, aStar, itemsO, eTup, nLst, eNw, pNone, pSome, sSkip, sSeq, sAsg, sAsgN, sRet, sRetN, sIf, tgName, tgAll, tgTup, sTg, sPar, sFor, iSeqM, iRg1, iRg2, iEnM, ownL, sApp, tgSet, ePop, ePopA, eCall, peeks, takes, hands, boolD, pw_bind, qQ, wipeR, reduceIte, nOp, nList, isD, lenD, wW, ix1]
  refine ⟨lim_le' (by omega), fun d hd => ?_, ?_⟩
  · have hk := H.k d hd
    refine q_callR (r_row hk b) rfl ?_
    rintro _ _ ⟨rfl, rfl⟩
    simp only [eCmp, eBin, eOp, eUn, eFn, eIx, eSlc, eChn, tVal, tNot, tAnd, tOr, eIf, eAnd, eOr, eNot, eIs, aNil, aCons, aStar, itemsO, eTup, nLst, eNw, pNone, pSome, sSkip, sSeq, sAsg, sAsgN, sRet, sRetN, sIf, tgName, tgAll, tgTup, sTg, sPar, sFor, iSeqM, iRg1, iRg2, iEnM, ownL, sApp, tgSet, ePop, ePopA, eCall, peeks, takes, hands, boolD, pw_bind, qQ, wipeR, reduceIte, nOp, nList, isD, lenD, wW]
  · have hal : (rs.map fun x => PyData.str (rS x)).length + 1 ≤ lim := lim_le' (by rw [List.length_map]; omega)
    rw [q_takesA]
    simp only [eCmp, eBin, eOp, eUn, eFn, eIx, eSlc, eChn, tVal, tNot, tAnd, tOr, eIf, eAnd, eOr, eNot, eIs, aNil, aCons, aStar, itemsO, eTup, nLst, eNw, pNone, pSome, sSkip, sSeq, sAsg, sAsgN, sRet, sRetN, sIf, tgName, tgAll, tgTup, sTg, sPar, sFor, iSeqM, iRg1, iRg2, iEnM, ownL, sApp, tgSet, ePop, ePopA, eCall, peeks, takes, hands, boolD, pw_bind, qQ, wipeR, reduceIte, nOp, nList, isD, lenD, wW, hal, j]
    rfl
def logT (ds : List PyData) : Str := if ds.isEmpty = true then ("none" : String) else Txt.join " " (ds.map numS)
structure Ld (ds : List PyData) : Prop where
  k : ∀ d ∈ ds, Dg d
  l : ds.length ≤ 300
theorem Ld.j {ds : List PyData} (H : Ld ds) : joinD (.str " ") (.list (ds.map fun d => .str (numS d))) = some (.str (Txt.join " " (ds.map numS))) ∧ Tx 1000 (Txt.join " " (ds.map numS)) := by
  obtain ⟨j1, j2⟩ := join_k (s := " ") sp1 (k := 1) (m := 300) (ys := ds.map numS) (fun y hy => by
    obtain ⟨d, hd, rfl⟩ := List.mem_map.mp hy
    exact fg_tx (.inr (H.k d hd))) (by rw [List.length_map]; exact H.l) (by omega) (by omega)
  rw [List.map_map] at j1
  exact ⟨j1, j2.mono (by omega)⟩
theorem Ld.tx {ds : List PyData} (H : Ld ds) : Tx 1000 (logT ds) := by
  unfold logT
  split
  · exact ⟨by decide, okS_of _⟩
  · exact H.j.2
theorem r_log_text {ds : List PyData} (H : Ld ds) (b : Option Bx) : Runs f_log_text [.dat (.tuple ds)] b fun d b' => d = .str (logT ds) ∧ b' = b := by
  have hl := H.l
  have en : ne0D (.tuple ds) (.tuple []) = some (.bool (!ds.isEmpty)) := rfl
  refine runs_of ?_
  unfold m_log_text
  simp only [List.map_cons, List.map_nil, argSV, List.length_cons, List.length_nil, Nat.reduceAdd, Nat.reduceSub, List.replicate, List.cons_append, List.nil_append]
  unfold logT
  rcases Bool.eq_false_or_eq_true ds.isEmpty with q | q
  · rw [q] at en ⊢
    simp only [eCmp, eBin, eOp, eUn, eFn, eIx, eSlc, eChn, tVal, tNot, tAnd, tOr, eIf, eAnd, eOr, eNot, eIs, aNil, aCons, aStar, itemsO, eTup, nLst, eNw, pNone, pSome, sSkip, sSeq, sAsg, sAsgN, sRet, sRetN, sIf, tgName, tgAll, tgTup, sTg, sPar, sFor, iSeqM, iRg1, iRg2, iEnM, ownL, sApp, tgSet, ePop, ePopA, eCall, peeks, takes, hands, boolD, pw_bind, qQ, wipeR, reduceIte, nOp, nList, isD, lenD, wW, en, le0]
  · rw [q] at en ⊢
    simp only [eCmp, eBin, eOp, eUn, eFn, eIx, eSlc, eChn, tVal, tNot, tAnd, tOr, eIf, eAnd, eOr, eNot, eIs, aNil, aCons, aStar, itemsO, eTup, nLst, eNw, pNone, pSome, sSkip, sSeq, sAsg, sAsgN, sRet, sRetN, sIf, tgName, tgAll, tgTup, sTg, sPar, sFor, iSeqM, iRg1, iRg2, iEnM, ownL, sApp, tgSet, ePop, ePopA, eCall, peeks, takes, hands, boolD, pw_bind, qQ, wipeR, reduceIte, nOp, nList, isD, lenD, wW, en, le0, eJoin]
    refine q_map1 (fun d => .str (numS d)) ?_
    simp only [eCmp, eBin, eOp, eUn, eFn, eIx, eSlc, eChn, tVal, tNot, tAnd, tOr, eIf, eAnd, eOr, eNot, eIs, aNil, aCons, aStar, itemsO, eTup, nLst, eNw, pNone, pSome, sSkip, sSeq, sAsg, sAsgN, sRet, sRetN, sIf, tgName, tgAll, tgTup, sTg, sPar, sFor, iSeqM, iRg1, iRg2, iEnM, ownL, sApp, tgSet, ePop, ePopA, eCall, peeks, takes, hands, boolD, pw_bind, qQ, wipeR, reduceIte, nOp, nList, isD, lenD, wW]
    refine ⟨lim_le' (by omega), fun d hd => ?_, ?_⟩
    · obtain ⟨i, rfl, h0, h1⟩ := H.k d hd
      simp only [eCmp, eBin, eOp, eUn, eFn, eIx, eSlc, eChn, tVal, tNot, tAnd, tOr, eIf, eAnd, eOr, eNot, eIs, aNil, aCons, aStar, itemsO, eTup, nLst, eNw, pNone, pSome, sSkip, sSeq, sAsg, sAsgN, sRet, sRetN, sIf, tgName, tgAll, tgTup, sTg, sPar, sFor, iSeqM, iRg1, iRg2, iEnM, ownL, sApp, tgSet, ePop, ePopA, eCall, peeks, takes, hands, boolD, pw_bind, qQ, wipeR, reduceIte, nOp, nList, isD, lenD, wW, (fig_s h0 h1).1]
    · simp only [eCmp, eBin, eOp, eUn, eFn, eIx, eSlc, eChn, tVal, tNot, tAnd, tOr, eIf, eAnd, eOr, eNot, eIs, aNil, aCons, aStar, itemsO, eTup, nLst, eNw, pNone, pSome, sSkip, sSeq, sAsg, sAsgN, sRet, sRetN, sIf, tgName, tgAll, tgTup, sTg, sPar, sFor, iSeqM, iRg1, iRg2, iEnM, ownL, sApp, tgSet, ePop, ePopA, eCall, peeks, takes, hands, boolD, pw_bind, qQ, wipeR, reduceIte, nOp, nList, isD, lenD, wW, H.j.1]
end K12
set_option linter.all false
set_option Elab.async false
set_option maxHeartbeats 0
set_option maxRecDepth 10000
namespace K12
open PySem TW K02 K13
theorem pl_body {ws : List Str} (W : Ws ws) (v lab : PyData) {acc : List PyData} (hG : GdK acc) {n : Nat} (hn : n ≤ ws.length) (hc : n < ws.length ∨ acc = []) (hl : acc.length ≤ n) (x7 : SV) (b : Option Bx) (Q : Fl → Sx → Prop) (E : Er → Prop)
    (hE : ∀ j, loopF (ws.drop n) acc n = .txt j → False)
    (hQ : ∀ k acc', acc' = acc ++ [k] → GdK acc' → n + 2 ≤ ws.length → loopF (ws.drop (n + 2)) acc' (n + 2) = loopF (ws.drop n) acc n → Q .nx ⟨pR v ws lab acc' (n + 2) (.dat k), b⟩) :
    pw m_parse_handler_16 ⟨pR v ws lab acc n x7, b⟩ Q E := by
  have hlw : ((ws.map PyData.str).length : Int) = ws.length := by rw [List.length_map]
  have hwl := W.l
  have hlm : (ws.map PyData.str).length ≤ lim := lim_le' (by rw [List.length_map]; omega)
  have hal : acc.length < lim := lim_le' (by omega)
  unfold m_parse_handler_16 m_parse_handler_15 m_parse_handler_14
  by_cases h : n < ws.length
  · obtain ⟨w, h1, h2, h3⟩ := drop_cons h
    have hw := W.t w h2
    have dge : decide ((n : Int) ≥ ((ws.map PyData.str).length : Int)) = false := by rw [hlw]; exact decide_eq_false (by omega)
    have dge' : decide (((ws.map PyData.str).length : Int) ≤ (n : Int)) = false := dge
    cases hs : (w == slash) with
    | false =>
      have e : loopF (ws.drop n) acc n = .txt n := by
        rw [h3]
        cases ws.drop (n + 1) with
        | nil => unfold loopF; rw [hs]; rfl
        | cons k r => unfold loopF; rw [hs]; rfl
      simp only [eCmp, eBin, eOp, eUn, eFn, eIx, eSlc, eChn, tVal, tNot, tAnd, tOr, eIf, eAnd, eOr, eNot, eIs, aNil, aCons, aStar, itemsO, eTup, nLst, eNw, pNone, pSome, sSkip, sSeq, sAsg, sAsgN, sRet, sRetN, sIf, tgName, tgAll, tgTup, sTg, sPar, sFor, iSeqM, iRg1, iRg2, iEnM, ownL, sApp, tgSet, ePop, ePopA, eCall, peeks, takes, hands, boolD, pw_bind, qQ, wipeR, reduceIte, nOp, nList, isD, lenD, wW, hlm, dge, dge', ix_w h1, ne_slash hw.k, hs]
      exact (hE n e).elim
    | true =>
      unfold m_parse_handler_13
      by_cases hk : n + 1 < ws.length
      · obtain ⟨k, k1, k2, k3⟩ := drop_cons hk
        have hkx := W.t k k2
        have e : loopF (ws.drop n) acc n = if isNoneD (kindF k) = true then .txt (n + 1) else loopF (ws.drop (n + 2)) (acc ++ [kindF k]) (n + 2) := by
          rw [h3, k3, loopF, if_pos hs]
        have dlt : decide ((n : Int) + 1 < ((ws.map PyData.str).length : Int)) = true := by rw [hlw]; exact decide_eq_true (by omega)
        have ix1 : ixD' (.list (ws.map PyData.str)) (.int ((n : Int) + 1)) = some (.str k) := ix_w (n := n + 1) k1
        simp only [eCmp, eBin, eOp, eUn, eFn, eIx, eSlc, eChn, tVal, tNot, tAnd, tOr, eIf, eAnd, eOr, eNot, eIs, aNil, aCons, aStar, itemsO, eTup, nLst, eNw, pNone, pSome, sSkip, sSeq, sAsg, sAsgN, sRet, sRetN, sIf, tgName, tgAll, tgTup, sTg, sPar, sFor, iSeqM, iRg1, iRg2, iEnM, ownL, sApp, tgSet, ePop, ePopA, eCall, peeks, takes, hands, boolD, pw_bind, qQ, wipeR, reduceIte, nOp, nList, isD, lenD, wW, hlm, dge, dge', ix_w h1, ne_slash hw.k, hs, dlt, ix1]
        refine q_callR (r_kind_in hkx b) rfl ?_
        rintro _ _ ⟨rfl, rfl⟩
        rename_i b
        unfold m_parse_handler_12 m_parse_handler_11
        rcases Bool.eq_false_or_eq_true (isNoneD (kindF k)) with q | q
        · rw [q, if_pos rfl] at e
          simp only [eCmp, eBin, eOp, eUn, eFn, eIx, eSlc, eChn, tVal, tNot, tAnd, tOr, eIf, eAnd, eOr, eNot, eIs, aNil, aCons, aStar, itemsO, eTup, nLst, eNw, pNone, pSome, sSkip, sSeq, sAsg, sAsgN, sRet, sRetN, sIf, tgName, tgAll, tgTup, sTg, sPar, sFor, iSeqM, iRg1, iRg2, iEnM, ownL, sApp, tgSet, ePop, ePopA, eCall, peeks, takes, hands, boolD, pw_bind, qQ, wipeR, reduceIte, nOp, nList, isD, lenD, wW, q]
          exact (hE (n + 1) e).elim
        · rw [q, if_neg (by simp)] at e
          unfold m_parse_handler_10 m_parse_handler_9 m_parse_handler_8
          simp only [eCmp, eBin, eOp, eUn, eFn, eIx, eSlc, eChn, tVal, tNot, tAnd, tOr, eIf, eAnd, eOr, eNot, eIs, aNil, aCons, aStar, itemsO, eTup, nLst, eNw, pNone, pSome, sSkip, sSeq, sAsg, sAsgN, sRet, sRetN, sIf, tgName, tgAll, tgTup, sTg, sPar, sFor, iSeqM, iRg1, iRg2, iEnM, ownL, sApp, tgSet, ePop, ePopA, eCall, peeks, takes, hands, boolD, pw_bind, qQ, wipeR, reduceIte, nOp, nList, isD, lenD, wW, q, hal]
          exact hQ (kindF k) _ rfl (gdk_snoc hG hkx) (by omega) e.symm
      · have e0 : ws.drop (n + 1) = [] := List.drop_eq_nil_of_le (by omega)
        have e : loopF (ws.drop n) acc n = .txt (n + 1) := by
          rw [h3, e0, loopF, if_pos hs]
        have dlt : decide ((n : Int) + 1 < ((ws.map PyData.str).length : Int)) = false := by rw [hlw]; exact decide_eq_false (by omega)
        unfold m_parse_handler_12 m_parse_handler_11
        simp only [eCmp, eBin, eOp, eUn, eFn, eIx, eSlc, eChn, tVal, tNot, tAnd, tOr, eIf, eAnd, eOr, eNot, eIs, aNil, aCons, aStar, itemsO, eTup, nLst, eNw, pNone, pSome, sSkip, sSeq, sAsg, sAsgN, sRet, sRetN, sIf, tgName, tgAll, tgTup, sTg, sPar, sFor, iSeqM, iRg1, iRg2, iEnM, ownL, sApp, tgSet, ePop, ePopA, eCall, peeks, takes, hands, boolD, pw_bind, qQ, wipeR, reduceIte, nOp, nList, isD, lenD, wW, hlm, dge, dge', ix_w h1, ne_slash hw.k, hs, dlt]
        exact (hE (n + 1) e).elim
  · have ha : acc = [] := hc.resolve_left h
    subst ha
    have e0 : ws.drop n = [] := List.drop_eq_nil_of_le (by omega)
    have e : loopF (ws.drop n) [] n = .txt n := by rw [e0]; rfl
    have dge : decide ((n : Int) ≥ ((ws.map PyData.str).length : Int)) = true := by rw [hlw]; exact decide_eq_true (by omega)
    have dge' : decide (((ws.map PyData.str).length : Int) ≤ (n : Int)) = true := dge
    simp only [eCmp, eBin, eOp, eUn, eFn, eIx, eSlc, eChn, tVal, tNot, tAnd, tOr, eIf, eAnd, eOr, eNot, eIs, aNil, aCons, aStar, itemsO, eTup, nLst, eNw, pNone, pSome, sSkip, sSeq, sAsg, sAsgN, sRet, sRetN, sIf, tgName, tgAll, tgTup, sTg, sPar, sFor, iSeqM, iRg1, iRg2, iEnM, ownL, sApp, tgSet, ePop, ePopA, eCall, peeks, takes, hands, boolD, pw_bind, qQ, wipeR, reduceIte, nOp, nList, isD, lenD, wW, hlm, dge, dge']
    exact (hE n e).elim
theorem pl_loop {ws : List Str} (W : Ws ws) (v lab : PyData) (b : Option Bx) (Q : Fl → Sx → Prop) (E : Er → Prop) (h1 : 1 ≤ ws.length)
    (hE : ∀ j, loopF (ws.drop 1) [] 1 = .txt j → False)
    (hQ : ∀ acc n x7, GdK acc → loopF (ws.drop 1) [] 1 = .done acc → acc.length ≤ 100001 → Q .nx ⟨pR v ws lab acc n x7, b⟩) :
    pw m_parse_handler_17 ⟨pR v ws lab [] 1 .no, b⟩ Q E := by
  have hlw : ((ws.map PyData.str).length : Int) = ws.length := by rw [List.length_map]
  have hwl := W.l
  have hlm : (ws.map PyData.str).length ≤ lim := lim_le' (by rw [List.length_map]; omega)
  unfold m_parse_handler_17
  refine q_while (fun m s => ∃ acc n x7, s = ⟨pR v ws lab acc n x7, b⟩ ∧ GdK acc ∧ n ≤ ws.length ∧ acc.length ≤ n ∧ loopF (ws.drop n) acc n = loopF (ws.drop 1) [] 1 ∧ ws.length - n + 1 ≤ m) (n := ws.length + 1) ⟨[], 1, _, rfl, (fun k h => by cases h), h1, by simp, rfl, by omega⟩ ?_ ?_
  · rintro m s ⟨acc, n, x7, rfl, hG, hn, ha, he, hm⟩
    have body := fun hc => pl_body W v lab hG hn hc ha x7 b (fun f s2 => match f with
      | .bk => Q .nx s2
      | .rt v => Q (.rt v) s2
      | _ => ∃ m', m' < m ∧ ∃ acc n x7, s2 = ⟨pR v ws lab acc n x7, b⟩ ∧ GdK acc ∧ n ≤ ws.length ∧ acc.length ≤ n ∧ loopF (ws.drop n) acc n = loopF (ws.drop 1) [] 1 ∧ ws.length - n + 1 ≤ m') E (fun j h => hE j (he ▸ h)) (fun k acc' h1 h2 h3 h4 => ⟨m - 1, by omega, acc', n + 2, _, rfl, h2, h3, by rw [h1, List.length_append, List.length_singleton]; omega, h4.trans he, by omega⟩)
    by_cases h : n < ws.length
    · have dlt : decide ((n : Int) < ((ws.map PyData.str).length : Int)) = true := by rw [hlw]; exact decide_eq_true (by omega)
      simp only [eCmp, eBin, eOp, eUn, eFn, eIx, eSlc, eChn, tVal, tNot, tAnd, tOr, eIf, eAnd, eOr, eNot, eIs, aNil, aCons, aStar, itemsO, eTup, nLst, eNw, pNone, pSome, sSkip, sSeq, sAsg, sAsgN, sRet, sRetN, sIf, tgName, tgAll, tgTup, sTg, sPar, sFor, iSeqM, iRg1, iRg2, iEnM, ownL, sApp, tgSet, ePop, ePopA, eCall, peeks, takes, hands, boolD, pw_bind, qQ, wipeR, reduceIte, nOp, nList, isD, lenD, wW, hlm, dlt]
      exact body (.inl h)
    · have dlt : decide ((n : Int) < ((ws.map PyData.str).length : Int)) = false := by rw [hlw]; exact decide_eq_false (by omega)
      have e0 : ws.drop n = [] := List.drop_eq_nil_of_le (by omega)
      have e0d : eq0D (.list acc) (.list []) = some (.bool acc.isEmpty) := rfl
      rcases Bool.eq_false_or_eq_true acc.isEmpty with q | q
      · simp only [eCmp, eBin, eOp, eUn, eFn, eIx, eSlc, eChn, tVal, tNot, tAnd, tOr, eIf, eAnd, eOr, eNot, eIs, aNil, aCons, aStar, itemsO, eTup, nLst, eNw, pNone, pSome, sSkip, sSeq, sAsg, sAsgN, sRet, sRetN, sIf, tgName, tgAll, tgTup, sTg, sPar, sFor, iSeqM, iRg1, iRg2, iEnM, ownL, sApp, tgSet, ePop, ePopA, eCall, peeks, takes, hands, boolD, pw_bind, qQ, wipeR, reduceIte, nOp, nList, isD, lenD, wW, hlm, dlt, le0, e0d, q]
        exact body (.inr (emp_l.mp q))
      · simp only [eCmp, eBin, eOp, eUn, eFn, eIx, eSlc, eChn, tVal, tNot, tAnd, tOr, eIf, eAnd, eOr, eNot, eIs, aNil, aCons, aStar, itemsO, eTup, nLst, eNw, pNone, pSome, sSkip, sSeq, sAsg, sAsgN, sRet, sRetN, sIf, tgName, tgAll, tgTup, sTg, sPar, sFor, iSeqM, iRg1, iRg2, iEnM, ownL, sApp, tgSet, ePop, ePopA, eCall, peeks, takes, hands, boolD, pw_bind, qQ, wipeR, reduceIte, nOp, nList, isD, lenD, wW, hlm, dlt, le0, e0d, q]
        refine hQ acc n x7 hG ?_ (by omega)
        rw [← he, e0]
        show (if acc.isEmpty = true then Pr.txt n else .done acc) = _
        rw [q]
        rfl
  · exact Nat.lt_of_le_of_lt (show ws.length + 1 ≤ 100002 by omega) (by decide)
theorem r_parse_handler {z : Str} (T : Tx 100000 z) {v : PyData} (hv : outW (K13.parts z " ") = .ret v) (b : Option Bx) : Runs f_parse_handler [.dat (.str z)] b fun d b' => d = v ∧ b' = b := by
  refine runs_of ?_
  unfold m_parse_handler m_parse_handler_25 m_parse_handler_24 m_parse_handler_23
  simp only [List.map_cons, List.map_nil, argSV, List.length_cons, List.length_nil, Nat.reduceAdd, Nat.reduceSub, List.replicate, List.cons_append, List.nil_append]
  have W := ws_of T
  have hsp := split_run T (y := " ") (by decide)
  have hlm : ((K13.parts z " ").map PyData.str).length ≤ lim := lim_le' (by have := part_lim T (y := " ") (by decide); omega)
  unfold m_parse_handler_22 m_parse_handler_21
  simp only [eCmp, eBin, eOp, eUn, eFn, eIx, eSlc, eChn, tVal, tNot, tAnd, tOr, eIf, eAnd, eOr, eNot, eIs, aNil, aCons, aStar, itemsO, eTup, nLst, eNw, pNone, pSome, sSkip, sSeq, sAsg, sAsgN, sRet, sRetN, sIf, tgName, tgAll, tgTup, sTg, sPar, sFor, iSeqM, iRg1, iRg2, iEnM, ownL, sApp, tgSet, ePop, ePopA, eCall, peeks, takes, hands, boolD, pw_bind, qQ, wipeR, reduceIte, nOp, nList, isD, lenD, wW, nSplit, hsp, hlm]
  have hne : K13.parts z " " ≠ [] := split_ne
  generalize K13.parts z " " = ws at W hne hv ⊢
  cases ws with
  | nil => exact absurd rfl hne
  | cons w r =>
    have hw := W.t w (by simp)
    have i0 : ixD' (.list ((w :: r).map PyData.str)) (.int 0) = some (.str w) := ix_w (n := 0) rfl
    have loop := fun lab Q E hE hQ => pl_loop W (.str z) lab b Q E (by simp) hE hQ
    simp only [eCmp, eBin, eOp, eUn, eFn, eIx, eSlc, eChn, tVal, tNot, tAnd, tOr, eIf, eAnd, eOr, eNot, eIs, aNil, aCons, aStar, itemsO, eTup, nLst, eNw, pNone, pSome, sSkip, sSeq, sAsg, sAsgN, sRet, sRetN, sIf, tgName, tgAll, tgTup, sTg, sPar, sFor, iSeqM, iRg1, iRg2, iEnM, ownL, sApp, tgSet, ePop, ePopA, eCall, peeks, takes, hands, boolD, pw_bind, qQ, wipeR, reduceIte, nOp, nList, isD, lenD, wW, sParP, pOwn, pDat, pNil, setP, le0, i0]
    refine q_callR (r_row_in hw b) rfl ?_
    rintro _ _ ⟨rfl, rfl⟩
    rename_i b
    unfold m_parse_handler_20 m_parse_handler_19 m_parse_handler_18
    have eo : outW (w :: r) = if isNoneD (rowF w) = true then .txt (.int 0) else match loopF r [] 1 with
      | .txt n => .txt (.int (n : Nat))
      | .done ks => endO (rowF w) ks := rfl
    rw [eo] at hv
    refine q_noXE ?_
    simp only [eCmp, eBin, eOp, eUn, eFn, eIx, eSlc, eChn, tVal, tNot, tAnd, tOr, eIf, eAnd, eOr, eNot, eIs, aNil, aCons, aStar, itemsO, eTup, nLst, eNw, pNone, pSome, sSkip, sSeq, sAsg, sAsgN, sRet, sRetN, sIf, tgName, tgAll, tgTup, sTg, sPar, sFor, iSeqM, iRg1, iRg2, iEnM, ownL, sApp, tgSet, ePop, ePopA, eCall, peeks, takes, hands, boolD, pw_bind, qQ, wipeR, reduceIte, nOp, nList, isD, lenD, wW, setP]
    rcases Bool.eq_false_or_eq_true (isNoneD (rowF w)) with q | q
    · rw [if_pos q] at hv
      cases hv
    · rw [if_neg (by rw [q]; simp)] at hv
      simp only [eCmp, eBin, eOp, eUn, eFn, eIx, eSlc, eChn, tVal, tNot, tAnd, tOr, eIf, eAnd, eOr, eNot, eIs, aNil, aCons, aStar, itemsO, eTup, nLst, eNw, pNone, pSome, sSkip, sSeq, sAsg, sAsgN, sRet, sRetN, sIf, tgName, tgAll, tgTup, sTg, sPar, sFor, iSeqM, iRg1, iRg2, iEnM, ownL, sApp, tgSet, ePop, ePopA, eCall, peeks, takes, hands, boolD, pw_bind, qQ, wipeR, reduceIte, nOp, nList, isD, lenD, wW, q]
      refine loop _ _ _ (fun j h => ?_) (fun acc n x7 hG h hl => ?_)
      · have h : loopF r [] 1 = .txt j := h
        rw [h] at hv
        cases hv
      · have h : loopF r [] 1 = .done acc := h
        rw [h] at hv
        have hv : endO (rowF w) acc = .ret v := hv
        have hal : acc.length ≤ lim := lim_le' (by omega)
        unfold m_parse_handler_7 m_parse_handler_6 m_parse_handler_5 m_parse_handler_4 m_parse_handler_3 m_parse_handler_2 m_parse_handler_1
        unfold endO at hv
        simp only [eCmp, eBin, eOp, eUn, eFn, eIx, eSlc, eChn, tVal, tNot, tAnd, tOr, eIf, eAnd, eOr, eNot, eIs, aNil, aCons, aStar, itemsO, eTup, nLst, eNw, pNone, pSome, sSkip, sSeq, sAsg, sAsgN, sRet, sRetN, sIf, tgName, tgAll, tgTup, sTg, sPar, sFor, iSeqM, iRg1, iRg2, iEnM, ownL, sApp, tgSet, ePop, ePopA, eCall, peeks, takes, hands, boolD, pw_bind, qQ, wipeR, reduceIte, nOp, nList, isD, lenD, wW, tupleD, l2]
        refine q_callR (r_handler_error _ b (low_k _ hG)) rfl ?_
        rintro _ _ ⟨rfl, rfl⟩
        rcases Bool.eq_false_or_eq_true (isNoneD (herr (.tuple [rowF w, .tuple acc]))) with q2 | q2
        · rw [if_pos q2] at hv
          cases hv
          simp only [eCmp, eBin, eOp, eUn, eFn, eIx, eSlc, eChn, tVal, tNot, tAnd, tOr, eIf, eAnd, eOr, eNot, eIs, aNil, aCons, aStar, itemsO, eTup, nLst, eNw, pNone, pSome, sSkip, sSeq, sAsg, sAsgN, sRet, sRetN, sIf, tgName, tgAll, tgTup, sTg, sPar, sFor, iSeqM, iRg1, iRg2, iEnM, ownL, sApp, tgSet, ePop, ePopA, eCall, peeks, takes, hands, boolD, pw_bind, qQ, wipeR, reduceIte, nOp, nList, isD, lenD, wW, q2]
        · rw [if_neg (by rw [q2]; simp)] at hv
          cases hv
end K12
set_option linter.all false
set_option Elab.async false
set_option maxHeartbeats 0
set_option maxRecDepth 10000
namespace K09
open PySem TW K02 K08
end K09
set_option linter.all false
set_option Elab.async false
set_option maxHeartbeats 0
set_option maxRecDepth 10000
namespace K09
open PySem TW K02 K08
end K09
set_option linter.all false
set_option Elab.async false
set_option maxHeartbeats 0
set_option maxRecDepth 10000
namespace K09
open PySem TW K02 K08
end K09
set_option linter.all false
set_option Elab.async false
set_option maxHeartbeats 0
set_option maxRecDepth 10000
namespace K09
open PySem TW K02 K08
end K09
set_option linter.all false
set_option Elab.async false
set_option maxHeartbeats 0
set_option maxRecDepth 10000
namespace K12
open PySem TW K02 K13
open K08 (IsP IsRow inRow pair_short)
theorem lay_strs : ∀ {xs : List PyData}, (∀ x ∈ xs, ∃ z, x = .str z ∧ PyData.strOk z = true) → PyData.canLayAll0 xs = true ∧ PyData.depthAll xs ≤ 0
  | [], _ => ⟨rfl, Nat.le_refl _⟩
  | x :: xs, h => by
    obtain ⟨e1, e2⟩ := lay_strs fun y hy => h y (List.mem_cons_of_mem x hy)
    obtain ⟨z, rfl, hz⟩ := h x (by simp)
    refine ⟨?_, ?_⟩
    · simp only [PyData.canLayAll0, PyData.canLay0, e1, hz, Bool.and_self]
    · simp only [PyData.depthAll, PyData.depth]
      omega
theorem ne_list {xs : List PyData} (h : ∀ x ∈ xs, ∃ z, x = .str z ∧ PyData.strOk z = true) : cmpD .ne (.list xs) (.list xs) = some (.bool false) := by
  obtain ⟨h1, h2⟩ := lay_strs h
  have key : shp (.list xs) = true := by
    unfold shp SeqAt.shaped
    simp only [PyData.canLay0, PyData.depth, h1, Bool.true_and]
    exact decide_eq_true (by omega)
  have k2 : PyData.eqv (.list xs) (.list xs) = true := SeqAt.eqv_refl _ (SeqAt.canLay_of_shaped key)
  rw [cmpD_ne, key, k2]
  rfl
theorem hd_of {n k : Nat} {d : PyData} (h2 : 2 ≤ n) (h8 : n ≤ 8) (k6 : k ≤ 6) (H : IsH n k d) : ∃ ls ks, d = hV ls ks ∧ Hd ls ks ∧ ks.length = k := by
  obtain ⟨ls, ks, rfl, hl, hk, hb, hK⟩ := H
  exact ⟨ls, ks, rfl, ⟨fg_ints h8 hb, by rw [List.length_map]; omega, fun x hx => kd_of h8 (by omega) (hK x hx), by omega⟩, hk⟩
theorem rw_of {k p : Nat} (hk : k ≤ 6) (hp : p ≤ 6) {x : PyData} (h : IsRow k p x) : Rw x := by
  obtain ⟨ds, rfl, hl, hi⟩ := h
  refine ⟨ds, rfl, fun d hd => ?_, by omega⟩
  rcases hi d hd with e | ⟨i, e, h1, h2⟩
  · exact .inl e
  · exact .inr ⟨i, e, h1, by omega⟩
theorem row_tm {k p : Nat} (hk : k ≤ 6) (hp : p ≤ 6) {x : PyData} (h : IsRow k p x) : Tm 40 1 x := by
  obtain ⟨ds, rfl, hl, hi⟩ := h
  refine (Tm.tup ((tma_all (n := 4) (m := 0) fun d hd => ?_).mono (n' := 36) (m' := 0) (by omega) (Nat.le_refl _))).mono (by omega) (by omega)
  rcases hi d hd with e | ⟨i, e, h1, h2⟩
  · rw [e]; exact tm_none
  · rw [e]; exact tm_small (by omega)
theorem pd_of {k p : Nat} (hk : k ≤ 6) (h1 : 1 ≤ p) (hp : p ≤ 6) {d : PyData} (H : IsP k p d) : ∃ es rs, d = hV es rs ∧ Pd es rs ∧ Tm 400 3 d := by
  obtain ⟨es, rs, rfl, hr, he1, hu, he, hi⟩ := H
  have e6 : (es.length : Int) ≤ max 0 ((p : Int) - 0) := pair_short hu he
  have t1 : Tm 40 1 (.tuple (es.map PyData.int)) := (Tm.tup (tma_ints (n := p) (by omega) he)).mono (by omega) (by omega)
  have t2 : Tm 260 2 (.tuple rs) := (Tm.tup (tma_all fun r hr => row_tm hk hp (hi r hr))).mono (by omega) (by omega)
  exact ⟨es, rs, rfl, ⟨fg_ints (n := p) (by omega) he, by rw [List.length_map]; omega, fun x hx => rw_of hk hp (hi x hx), by omega⟩, (Tm.tup (TmA.cons t1 (TmA.cons t2 TmA.nil))).mono (by omega) (by omega)⟩
theorem hand_tm {n k : Nat} {d : PyData} (h8 : n ≤ 8) (k6 : k ≤ 6) (H : IsH n k d) : Tm 460 4 d := by
  obtain ⟨ls, ks, rfl, hl, hk, hb, hK⟩ := H
  exact tm_handler (tm_labels h8 hl hb) ((Tm.tup (tma_kinds h8 hk k6 hK)).mono (by omega) (by omega))
theorem log_tm {ds : List PyData} (H : Ld ds) : Tm 2000 1 (.tuple ds) := by
  have hl := H.l
  refine (Tm.tup ((tma_all (n := 4) (m := 0) fun d hd => ?_).mono (n' := 1900) (m' := 0) (by omega) (Nat.le_refl _))).mono (by omega) (by omega)
  obtain ⟨i, rfl, h0, h1⟩ := H.k d hd
  exact tm_small (by omega)
theorem r_law_log {L : PyData} {ks : List PyData} (k1 : 1 ≤ ks.length) (k6 : ks.length ≤ 6) {most : Nat} (hm : most ≤ 200) (b : Option Bx) (hb : Bg b) : Runs f_law_log [.box, .dat (.tuple [L, .tuple ks]), .dat (.int (most : Nat))] b fun d b' => (∃ ds, d = .tuple ds ∧ Ld ds) ∧ Bg b' := by
  refine runs_of ?_
  unfold m_law_log
  simp only [List.map_cons, List.map_nil, argSV, List.length_cons, List.length_nil, Nat.reduceAdd, Nat.reduceSub, List.replicate, List.cons_append, List.nil_append]
  simp only [eCmp, eBin, eOp, eUn, eFn, eIx, eSlc, eChn, tVal, tNot, tAnd, tOr, eIf, eAnd, eOr, eNot, eIs, aNil, aCons, aStar, itemsO, eTup, nLst, eNw, pNone, pSome, sSkip, sSeq, sAsg, sAsgN, sRet, sRetN, sIf, tgName, tgAll, tgTup, sTg, sPar, sFor, iSeqM, iRg1, iRg2, iEnM, ownL, sApp, tgSet, ePop, ePopA, eCall, peeks, takes, hands, boolD, pw_bind, qQ, wipeR, reduceIte, nOp, nList, isD, lenD, wW]
  refine q_cmpB [.box, .dat (.tuple [L, .tuple ks]), .dat (.int (most : Nat)), .no] (inR 6) ?_
  simp only [eCmp, eBin, eOp, eUn, eFn, eIx, eSlc, eChn, tVal, tNot, tAnd, tOr, eIf, eAnd, eOr, eNot, eIs, aNil, aCons, aStar, itemsO, eTup, nLst, eNw, pNone, pSome, sSkip, sSeq, sAsg, sAsgN, sRet, sRetN, sIf, tgName, tgAll, tgTup, sTg, sPar, sFor, iSeqM, iRg1, iRg2, iEnM, ownL, sApp, tgSet, ePop, ePopA, eCall, peeks, takes, hands, boolD, pw_bind, qQ, wipeR, reduceIte, nOp, nList, isD, lenD, wW]
  refine q_callR (runs_draw (n := (most : Int) + 1) (by omega) (by omega) hb) rfl ?_
  rintro _ b1 ⟨u, rfl, hu1, hu2, hb1⟩
  obtain ⟨m, rfl⟩ : ∃ m : Nat, u = (m : Int) := ⟨u.toNat, by omega⟩
  have hbigm : big62 (m : Int) = true := big62_of (by omega) (by omega)
  have hlimm : m ≤ lim := lim_le' (by omega)
  have hlk : ks.length ≤ lim := lim_le' (by omega)
  simp only [eCmp, eBin, eOp, eUn, eFn, eIx, eSlc, eChn, tVal, tNot, tAnd, tOr, eIf, eAnd, eOr, eNot, eIs, aNil, aCons, aStar, itemsO, eTup, nLst, eNw, pNone, pSome, sSkip, sSeq, sAsg, sAsgN, sRet, sRetN, sIf, tgName, tgAll, tgTup, sTg, sPar, sFor, iSeqM, iRg1, iRg2, iEnM, ownL, sApp, tgSet, ePop, ePopA, eCall, peeks, takes, hands, boolD, pw_bind, qQ, wipeR, reduceIte, nOp, nList, isD, lenD, wW, hbigm, rgD_nat, rgN_len, hlimm]
  refine ⟨hb1, fun d hd b2 hb2 => ?_, fun xs b2 r1 hr hb2 hlen hP => ?_⟩
  · refine q_callR (runs_draw (n := (ks.length : Int)) (by omega) (by omega) hb2) rfl ?_
    rintro _ b3 ⟨v, rfl, hv1, hv2, hb3⟩
    simp only [eCmp, eBin, eOp, eUn, eFn, eIx, eSlc, eChn, tVal, tNot, tAnd, tOr, eIf, eAnd, eOr, eNot, eIs, aNil, aCons, aStar, itemsO, eTup, nLst, eNw, pNone, pSome, sSkip, sSeq, sAsg, sAsgN, sRet, sRetN, sIf, tgName, tgAll, tgTup, sTg, sPar, sFor, iSeqM, iRg1, iRg2, iEnM, ownL, sApp, tgSet, ePop, ePopA, eCall, peeks, takes, hands, boolD, pw_bind, qQ, wipeR, reduceIte, nOp, nList, isD, lenD, wW]
    exact ⟨⟨v, rfl, hv1, by omega⟩, hb3⟩
  · simp only [eCmp, eBin, eOp, eUn, eFn, eIx, eSlc, eChn, tVal, tNot, tAnd, tOr, eIf, eAnd, eOr, eNot, eIs, aNil, aCons, aStar, itemsO, eTup, nLst, eNw, pNone, pSome, sSkip, sSeq, sAsg, sAsgN, sRet, sRetN, sIf, tgName, tgAll, tgTup, sTg, sPar, sFor, iSeqM, iRg1, iRg2, iEnM, ownL, sApp, tgSet, ePop, ePopA, eCall, peeks, takes, hands, boolD, pw_bind, qQ, wipeR, reduceIte, nOp, nList, isD, lenD, wW, tupleD]
    refine ⟨⟨xs, rfl, fun d hd => ?_, by omega⟩, hb2⟩
    obtain ⟨i, rfl, h1, h2⟩ := hP d hd
    exact ⟨i, rfl, h1, by omega⟩
end K12
set_option linter.all false
set_option Elab.async false
set_option maxHeartbeats 0
set_option maxRecDepth 10000
namespace K12
open PySem TW K02 K13
open K08 (IsP IsRow inRow pair_short)
abbrev wR (x2 x3 x4 x5 x6 x7 x8 : SV) : List SV := [.no, .box, x2, x3, x4, x5, x6, x7, x8, .no, .no]
def FormL (s : Sx) : Prop := ∃ x2 x3 x4 x5 x6 x7 x8, s.r = wR x2 x3 x4 x5 x6 x7 x8 ∧ Bg s.b
theorem two_l : 0 + 1 + 1 ≤ lim := by decide
theorem thr_l : 0 + 1 + 1 + 1 ≤ lim := by decide
theorem mul2 (d : PyData) : binD .mul (.list [d]) (.int 2) = some (.list [d, d]) := b_rep (n := 2) (by omega)
structure Tn (ls : List Int) (ks : List PyData) (es : List Int) (rs ds : List PyData) : Prop where
  h : Hd ls ks
  p : Pd es rs
  l : Ld ds
  th : Tm 460 4 (hV ls ks)
  tp : Tm 400 3 (hV es rs)
  tl : Tm 2000 1 (.tuple ds)
  o : outW (K13.parts (handT ls ks) " ") = .ret (hV ls ks)
abbrev allV (ls : List Int) (ks : List PyData) (es : List Int) (rs ds : List PyData) : PyData := .list [hV ls ks, hV es rs, .tuple ds]
theorem Tn.all {ls : List Int} {ks : List PyData} {es : List Int} {rs ds : List PyData} (N : Tn ls ks es rs ds) : Tm 3000 5 (allV ls ks es rs ds) :=
  (Tm.lst (TmA.cons N.th (TmA.cons N.tp (TmA.cons N.tl TmA.nil)))).mono (by omega) (by omega)
theorem la2 {ls : List Int} {ks : List PyData} {es : List Int} {rs ds : List PyData} (N : Tn ls ks es rs ds) (x2 x8 : SV) (b : Option Bx) :
    pw m_law_2 ⟨wR x2 (.dat (hV ls ks)) (.dat (.str (logT ds))) (.dat (hV es rs)) (.dat (.tuple ds)) (.dat (.str (allV ls ks es rs ds).shown)) x8, b⟩ (fun f s => f = .nx ∧ s = ⟨wR x2 (.dat (hV ls ks)) (.dat (.str (logT ds))) (.dat (hV es rs)) (.dat (.tuple ds)) (.dat (.str (allV ls ks es rs ds).shown)) x8, b⟩) fun _ => False := by
  have hr := repr_tm N.all (by omega) (by omega)
  have hk := ne_str (tame_shw N.all.t).k
  have hL0 : Ld [] := ⟨(fun d h => by cases h), by simp⟩
  have hn : cmpD .ne (.str (logT [])) (.str "none") = some (.bool false) := ne_str (x := "none") (okS_of _)
  have hl := ne_str N.l.tx.k
  unfold m_law_2
  simp only [eCmp, eBin, eOp, eUn, eFn, eIx, eSlc, eChn, tVal, tNot, tAnd, tOr, eIf, eAnd, eOr, eNot, eIs, aNil, aCons, aStar, itemsO, eTup, nLst, eNw, pNone, pSome, sSkip, sSeq, sAsg, sAsgN, sRet, sRetN, sIf, tgName, tgAll, tgTup, sTg, sPar, sFor, iSeqM, iRg1, iRg2, iEnM, ownL, sApp, tgSet, ePop, ePopA, eCall, peeks, takes, hands, boolD, pw_bind, qQ, wipeR, reduceIte, nOp, nList, isD, lenD, wW]
  refine q_callR (r_log_text N.l b) rfl ?_
  rintro _ _ ⟨rfl, rfl⟩
  simp only [eCmp, eBin, eOp, eUn, eFn, eIx, eSlc, eChn, tVal, tNot, tAnd, tOr, eIf, eAnd, eOr, eNot, eIs, aNil, aCons, aStar, itemsO, eTup, nLst, eNw, pNone, pSome, sSkip, sSeq, sAsg, sAsgN, sRet, sRetN, sIf, tgName, tgAll, tgTup, sTg, sPar, sFor, iSeqM, iRg1, iRg2, iEnM, ownL, sApp, tgSet, ePop, ePopA, eCall, peeks, takes, hands, boolD, pw_bind, qQ, wipeR, reduceIte, nOp, nList, isD, lenD, wW, hl, le0]
  refine q_callR (r_log_text hL0 _) rfl ?_
  rintro _ _ ⟨rfl, rfl⟩
  simp only [eCmp, eBin, eOp, eUn, eFn, eIx, eSlc, eChn, tVal, tNot, tAnd, tOr, eIf, eAnd, eOr, eNot, eIs, aNil, aCons, aStar, itemsO, eTup, nLst, eNw, pNone, pSome, sSkip, sSeq, sAsg, sAsgN, sRet, sRetN, sIf, tgName, tgAll, tgTup, sTg, sPar, sFor, iSeqM, iRg1, iRg2, iEnM, ownL, sApp, tgSet, ePop, ePopA, eCall, peeks, takes, hands, boolD, pw_bind, qQ, wipeR, reduceIte, nOp, nList, isD, lenD, wW, hn, thr_l, hr, hk]
theorem la4 {ls : List Int} {ks : List PyData} {es : List Int} {rs ds : List PyData} (N : Tn ls ks es rs ds) (x2 x4 x8 : SV) (b : Option Bx) :
    pw m_law_4 ⟨wR x2 (.dat (hV ls ks)) x4 (.dat (hV es rs)) (.dat (.tuple ds)) (.dat (.str (allV ls ks es rs ds).shown)) x8, b⟩ (fun f s => f = .nx ∧ s = ⟨wR x2 (.dat (hV ls ks)) (.dat (.str (logT ds))) (.dat (hV es rs)) (.dat (.tuple ds)) (.dat (.str (allV ls ks es rs ds).shown)) x8, b⟩) fun _ => False := by
  have hl := N.l.l
  have en : eq0D (.tuple ds) (.tuple []) = some (.bool ds.isEmpty) := rfl
  have e2 := la2 N x2 x8 b
  unfold m_law_4 m_law_3
  rcases Bool.eq_false_or_eq_true ds.isEmpty with q | q
  · have e3 : logT ds = ("none" : String) := by unfold logT; rw [if_pos q]
    rw [q] at en
    simp only [eCmp, eBin, eOp, eUn, eFn, eIx, eSlc, eChn, tVal, tNot, tAnd, tOr, eIf, eAnd, eOr, eNot, eIs, aNil, aCons, aStar, itemsO, eTup, nLst, eNw, pNone, pSome, sSkip, sSeq, sAsg, sAsgN, sRet, sRetN, sIf, tgName, tgAll, tgTup, sTg, sPar, sFor, iSeqM, iRg1, iRg2, iEnM, ownL, sApp, tgSet, ePop, ePopA, eCall, peeks, takes, hands, boolD, pw_bind, qQ, wipeR, reduceIte, nOp, nList, isD, lenD, wW, en, le0]
    rw [← e3]
    exact e2
  · have e3 : logT ds = Txt.join " " (ds.map numS) := by unfold logT; rw [if_neg (by rw [q]; simp)]
    rw [q] at en
    simp only [eCmp, eBin, eOp, eUn, eFn, eIx, eSlc, eChn, tVal, tNot, tAnd, tOr, eIf, eAnd, eOr, eNot, eIs, aNil, aCons, aStar, itemsO, eTup, nLst, eNw, pNone, pSome, sSkip, sSeq, sAsg, sAsgN, sRet, sRetN, sIf, tgName, tgAll, tgTup, sTg, sPar, sFor, iSeqM, iRg1, iRg2, iEnM, ownL, sApp, tgSet, ePop, ePopA, eCall, peeks, takes, hands, boolD, pw_bind, qQ, wipeR, reduceIte, nOp, nList, isD, lenD, wW, en, le0, eJoin]
    refine q_map1 (fun d => .str (numS d)) ?_
    simp only [eCmp, eBin, eOp, eUn, eFn, eIx, eSlc, eChn, tVal, tNot, tAnd, tOr, eIf, eAnd, eOr, eNot, eIs, aNil, aCons, aStar, itemsO, eTup, nLst, eNw, pNone, pSome, sSkip, sSeq, sAsg, sAsgN, sRet, sRetN, sIf, tgName, tgAll, tgTup, sTg, sPar, sFor, iSeqM, iRg1, iRg2, iEnM, ownL, sApp, tgSet, ePop, ePopA, eCall, peeks, takes, hands, boolD, pw_bind, qQ, wipeR, reduceIte, nOp, nList, isD, lenD, wW]
    refine ⟨lim_le' (by omega), fun d hd => ?_, ?_⟩
    · obtain ⟨i, rfl, h0, h1⟩ := N.l.k d hd
      simp only [eCmp, eBin, eOp, eUn, eFn, eIx, eSlc, eChn, tVal, tNot, tAnd, tOr, eIf, eAnd, eOr, eNot, eIs, aNil, aCons, aStar, itemsO, eTup, nLst, eNw, pNone, pSome, sSkip, sSeq, sAsg, sAsgN, sRet, sRetN, sIf, tgName, tgAll, tgTup, sTg, sPar, sFor, iSeqM, iRg1, iRg2, iEnM, ownL, sApp, tgSet, ePop, ePopA, eCall, peeks, takes, hands, boolD, pw_bind, qQ, wipeR, reduceIte, nOp, nList, isD, lenD, wW, (fig_s h0 h1).1]
    · simp only [eCmp, eBin, eOp, eUn, eFn, eIx, eSlc, eChn, tVal, tNot, tAnd, tOr, eIf, eAnd, eOr, eNot, eIs, aNil, aCons, aStar, itemsO, eTup, nLst, eNw, pNone, pSome, sSkip, sSeq, sAsg, sAsgN, sRet, sRetN, sIf, tgName, tgAll, tgTup, sTg, sPar, sFor, iSeqM, iRg1, iRg2, iEnM, ownL, sApp, tgSet, ePop, ePopA, eCall, peeks, takes, hands, boolD, pw_bind, qQ, wipeR, reduceIte, nOp, nList, isD, lenD, wW, N.l.j.1, keepD]
      rw [← e3]
      exact e2
theorem la6 {ls : List Int} {ks : List PyData} {es : List Int} {rs ds : List PyData} (N : Tn ls ks es rs ds) (x2 x4 x8 : SV) (b : Option Bx) :
    pw m_law_6 ⟨wR x2 (.dat (hV ls ks)) x4 (.dat (hV es rs)) (.dat (.tuple ds)) (.dat (.str (allV ls ks es rs ds).shown)) x8, b⟩ (fun f s => f = .nx ∧ s = ⟨wR x2 (.dat (hV ls ks)) (.dat (.str (logT ds))) (.dat (hV es rs)) (.dat (.tuple ds)) (.dat (.str (allV ls ks es rs ds).shown)) x8, b⟩) fun _ => False := by
  have e4 := la4 N x2 x4 x8 b
  have l1 : 0 + 1 ≤ lim := by decide
  have hp := ne_strs N.p.tx.k
  unfold m_law_6 m_law_5
  simp only [eCmp, eBin, eOp, eUn, eFn, eIx, eSlc, eChn, tVal, tNot, tAnd, tOr, eIf, eAnd, eOr, eNot, eIs, aNil, aCons, aStar, itemsO, eTup, nLst, eNw, pNone, pSome, sSkip, sSeq, sAsg, sAsgN, sRet, sRetN, sIf, tgName, tgAll, tgTup, sTg, sPar, sFor, iSeqM, iRg1, iRg2, iEnM, ownL, sApp, tgSet, ePop, ePopA, eCall, peeks, takes, hands, boolD, pw_bind, qQ, wipeR, reduceIte, nOp, nList, isD, lenD, wW]
  refine q_callR (r_plan_text N.p b) rfl ?_
  rintro _ _ ⟨rfl, rfl⟩
  simp only [eCmp, eBin, eOp, eUn, eFn, eIx, eSlc, eChn, tVal, tNot, tAnd, tOr, eIf, eAnd, eOr, eNot, eIs, aNil, aCons, aStar, itemsO, eTup, nLst, eNw, pNone, pSome, sSkip, sSeq, sAsg, sAsgN, sRet, sRetN, sIf, tgName, tgAll, tgTup, sTg, sPar, sFor, iSeqM, iRg1, iRg2, iEnM, ownL, sApp, tgSet, ePop, ePopA, eCall, peeks, takes, hands, boolD, pw_bind, qQ, wipeR, reduceIte, nOp, nList, isD, lenD, wW]
  refine q_callR (r_plan_text N.p _) rfl ?_
  rintro _ _ ⟨rfl, rfl⟩
  simp only [eCmp, eBin, eOp, eUn, eFn, eIx, eSlc, eChn, tVal, tNot, tAnd, tOr, eIf, eAnd, eOr, eNot, eIs, aNil, aCons, aStar, itemsO, eTup, nLst, eNw, pNone, pSome, sSkip, sSeq, sAsg, sAsgN, sRet, sRetN, sIf, tgName, tgAll, tgTup, sTg, sPar, sFor, iSeqM, iRg1, iRg2, iEnM, ownL, sApp, tgSet, ePop, ePopA, eCall, peeks, takes, hands, boolD, pw_bind, qQ, wipeR, reduceIte, nOp, nList, isD, lenD, wW, two_l]
  refine q_callR (r_law_plan_text N.p _) rfl ?_
  rintro _ _ ⟨rfl, rfl⟩
  simp only [eCmp, eBin, eOp, eUn, eFn, eIx, eSlc, eChn, tVal, tNot, tAnd, tOr, eIf, eAnd, eOr, eNot, eIs, aNil, aCons, aStar, itemsO, eTup, nLst, eNw, pNone, pSome, sSkip, sSeq, sAsg, sAsgN, sRet, sRetN, sIf, tgName, tgAll, tgTup, sTg, sPar, sFor, iSeqM, iRg1, iRg2, iEnM, ownL, sApp, tgSet, ePop, ePopA, eCall, peeks, takes, hands, boolD, pw_bind, qQ, wipeR, reduceIte, nOp, nList, isD, lenD, wW, l1, mul2, hp]
  exact e4
theorem la8 {ls : List Int} {ks : List PyData} {es : List Int} {rs ds : List PyData} (N : Tn ls ks es rs ds) (x2 x4 x8 : SV) (b : Option Bx) :
    pw m_law_8 ⟨wR x2 (.dat (hV ls ks)) x4 (.dat (hV es rs)) (.dat (.tuple ds)) (.dat (.str (allV ls ks es rs ds).shown)) x8, b⟩ (fun f s => f = .nx ∧ s = ⟨wR x2 (.dat (hV ls ks)) (.dat (.str (logT ds))) (.dat (hV es rs)) (.dat (.tuple ds)) (.dat (.str (allV ls ks es rs ds).shown)) x8, b⟩) fun _ => False := by
  have e6 := la6 N x2 x4 x8 b
  have hkl := N.h.kl
  have hks : ks.length ≤ lim := lim_le' (by omega)
  have hne := ne_list (xs := ks.map fun x => .str (kS x)) fun x hx => by
    obtain ⟨y, hy, rfl⟩ := List.mem_map.mp hx
    exact ⟨_, rfl, (kS_tx (N.h.k y hy)).k⟩
  have go : ∀ d ∈ ks, ∀ (r : List SV) (b : Option Bx) (Q : PyData → Sx → Prop), Q (.str (kS d)) ⟨r, b⟩ → pw (callF 1 K13.f_law_kind_text [.dat d]) ⟨r, b⟩ Q fun _ => False := fun d hd r b Q h => by
    refine q_callR (r_kind (N.h.k d hd) b) rfl ?_
    rintro _ _ ⟨rfl, rfl⟩
    exact h
  unfold m_law_8 m_law_7
  rw [f_kind_same, f_lkind_same]
  simp only [eCmp, eBin, eOp, eUn, eFn, eIx, eSlc, eChn, tVal, tNot, tAnd, tOr, eIf, eAnd, eOr, eNot, eIs, aNil, aCons, aStar, itemsO, eTup, nLst, eNw, pNone, pSome, sSkip, sSeq, sAsg, sAsgN, sRet, sRetN, sIf, tgName, tgAll, tgTup, sTg, sPar, sFor, iSeqM, iRg1, iRg2, iEnM, ownL, sApp, tgSet, ePop, ePopA, eCall, peeks, takes, hands, boolD, pw_bind, qQ, wipeR, reduceIte, nOp, nList, isD, lenD, wW, ix1]
  refine q_map1 (fun x => .str (kS x)) ?_
  simp only [eCmp, eBin, eOp, eUn, eFn, eIx, eSlc, eChn, tVal, tNot, tAnd, tOr, eIf, eAnd, eOr, eNot, eIs, aNil, aCons, aStar, itemsO, eTup, nLst, eNw, pNone, pSome, sSkip, sSeq, sAsg, sAsgN, sRet, sRetN, sIf, tgName, tgAll, tgTup, sTg, sPar, sFor, iSeqM, iRg1, iRg2, iEnM, ownL, sApp, tgSet, ePop, ePopA, eCall, peeks, takes, hands, boolD, pw_bind, qQ, wipeR, reduceIte, nOp, nList, isD, lenD, wW, ix1]
  refine ⟨hks, fun d hd => ?_, ?_⟩
  · refine go d hd _ _ _ ?_
    simp only [eCmp, eBin, eOp, eUn, eFn, eIx, eSlc, eChn, tVal, tNot, tAnd, tOr, eIf, eAnd, eOr, eNot, eIs, aNil, aCons, aStar, itemsO, eTup, nLst, eNw, pNone, pSome, sSkip, sSeq, sAsg, sAsgN, sRet, sRetN, sIf, tgName, tgAll, tgTup, sTg, sPar, sFor, iSeqM, iRg1, iRg2, iEnM, ownL, sApp, tgSet, ePop, ePopA, eCall, peeks, takes, hands, boolD, pw_bind, qQ, wipeR, reduceIte, nOp, nList, isD, lenD, wW]
  · simp only [eCmp, eBin, eOp, eUn, eFn, eIx, eSlc, eChn, tVal, tNot, tAnd, tOr, eIf, eAnd, eOr, eNot, eIs, aNil, aCons, aStar, itemsO, eTup, nLst, eNw, pNone, pSome, sSkip, sSeq, sAsg, sAsgN, sRet, sRetN, sIf, tgName, tgAll, tgTup, sTg, sPar, sFor, iSeqM, iRg1, iRg2, iEnM, ownL, sApp, tgSet, ePop, ePopA, eCall, peeks, takes, hands, boolD, pw_bind, qQ, wipeR, reduceIte, nOp, nList, isD, lenD, wW, keepD]
    refine q_map1 (fun x => .str (kS x)) ?_
    simp only [eCmp, eBin, eOp, eUn, eFn, eIx, eSlc, eChn, tVal, tNot, tAnd, tOr, eIf, eAnd, eOr, eNot, eIs, aNil, aCons, aStar, itemsO, eTup, nLst, eNw, pNone, pSome, sSkip, sSeq, sAsg, sAsgN, sRet, sRetN, sIf, tgName, tgAll, tgTup, sTg, sPar, sFor, iSeqM, iRg1, iRg2, iEnM, ownL, sApp, tgSet, ePop, ePopA, eCall, peeks, takes, hands, boolD, pw_bind, qQ, wipeR, reduceIte, nOp, nList, isD, lenD, wW, ix1]
    refine ⟨hks, fun d hd => ?_, ?_⟩
    · refine go d hd _ _ _ ?_
      simp only [eCmp, eBin, eOp, eUn, eFn, eIx, eSlc, eChn, tVal, tNot, tAnd, tOr, eIf, eAnd, eOr, eNot, eIs, aNil, aCons, aStar, itemsO, eTup, nLst, eNw, pNone, pSome, sSkip, sSeq, sAsg, sAsgN, sRet, sRetN, sIf, tgName, tgAll, tgTup, sTg, sPar, sFor, iSeqM, iRg1, iRg2, iEnM, ownL, sApp, tgSet, ePop, ePopA, eCall, peeks, takes, hands, boolD, pw_bind, qQ, wipeR, reduceIte, nOp, nList, isD, lenD, wW]
    · simp only [eCmp, eBin, eOp, eUn, eFn, eIx, eSlc, eChn, tVal, tNot, tAnd, tOr, eIf, eAnd, eOr, eNot, eIs, aNil, aCons, aStar, itemsO, eTup, nLst, eNw, pNone, pSome, sSkip, sSeq, sAsg, sAsgN, sRet, sRetN, sIf, tgName, tgAll, tgTup, sTg, sPar, sFor, iSeqM, iRg1, iRg2, iEnM, ownL, sApp, tgSet, ePop, ePopA, eCall, peeks, takes, hands, boolD, pw_bind, qQ, wipeR, reduceIte, nOp, nList, isD, lenD, wW, keepD, hne]
      exact e6
theorem la10 {ls : List Int} {ks : List PyData} {es : List Int} {rs ds : List PyData} (N : Tn ls ks es rs ds) (x2 x4 : SV) (b : Option Bx) :
    pw m_law_10 ⟨wR x2 (.dat (hV ls ks)) x4 (.dat (hV es rs)) (.dat (.tuple ds)) (.dat (.str (allV ls ks es rs ds).shown)) (.dat (.str (handT ls ks))), b⟩ (fun f s => f = .nx ∧ s = ⟨wR x2 (.dat (hV ls ks)) (.dat (.str (logT ds))) (.dat (hV es rs)) (.dat (.tuple ds)) (.dat (.str (allV ls ks es rs ds).shown)) (.dat (.str (handT ls ks))), b⟩) fun _ => False := by
  have e8 := la8 N x2 x4 (.dat (.str (handT ls ks))) b
  have hh := ne_strs N.h.tx.k
  have hr := repr_tm N.th (by omega) (by omega)
  have hk := ne_str (tame_shw N.th.t).k
  unfold m_law_10 m_law_9
  simp only [eCmp, eBin, eOp, eUn, eFn, eIx, eSlc, eChn, tVal, tNot, tAnd, tOr, eIf, eAnd, eOr, eNot, eIs, aNil, aCons, aStar, itemsO, eTup, nLst, eNw, pNone, pSome, sSkip, sSeq, sAsg, sAsgN, sRet, sRetN, sIf, tgName, tgAll, tgTup, sTg, sPar, sFor, iSeqM, iRg1, iRg2, iEnM, ownL, sApp, tgSet, ePop, ePopA, eCall, peeks, takes, hands, boolD, pw_bind, qQ, wipeR, reduceIte, nOp, nList, isD, lenD, wW]
  refine q_callR (r_handler_text N.h b) rfl ?_
  rintro _ _ ⟨rfl, rfl⟩
  simp only [eCmp, eBin, eOp, eUn, eFn, eIx, eSlc, eChn, tVal, tNot, tAnd, tOr, eIf, eAnd, eOr, eNot, eIs, aNil, aCons, aStar, itemsO, eTup, nLst, eNw, pNone, pSome, sSkip, sSeq, sAsg, sAsgN, sRet, sRetN, sIf, tgName, tgAll, tgTup, sTg, sPar, sFor, iSeqM, iRg1, iRg2, iEnM, ownL, sApp, tgSet, ePop, ePopA, eCall, peeks, takes, hands, boolD, pw_bind, qQ, wipeR, reduceIte, nOp, nList, isD, lenD, wW]
  refine q_callR (r_handler_text N.h _) rfl ?_
  rintro _ _ ⟨rfl, rfl⟩
  simp only [eCmp, eBin, eOp, eUn, eFn, eIx, eSlc, eChn, tVal, tNot, tAnd, tOr, eIf, eAnd, eOr, eNot, eIs, aNil, aCons, aStar, itemsO, eTup, nLst, eNw, pNone, pSome, sSkip, sSeq, sAsg, sAsgN, sRet, sRetN, sIf, tgName, tgAll, tgTup, sTg, sPar, sFor, iSeqM, iRg1, iRg2, iEnM, ownL, sApp, tgSet, ePop, ePopA, eCall, peeks, takes, hands, boolD, pw_bind, qQ, wipeR, reduceIte, nOp, nList, isD, lenD, wW, two_l, hh]
  refine q_callR (r_parse_handler (N.h.tx.mono (by omega)) N.o _) rfl ?_
  rintro _ _ ⟨rfl, rfl⟩
  simp only [eCmp, eBin, eOp, eUn, eFn, eIx, eSlc, eChn, tVal, tNot, tAnd, tOr, eIf, eAnd, eOr, eNot, eIs, aNil, aCons, aStar, itemsO, eTup, nLst, eNw, pNone, pSome, sSkip, sSeq, sAsg, sAsgN, sRet, sRetN, sIf, tgName, tgAll, tgTup, sTg, sPar, sFor, iSeqM, iRg1, iRg2, iEnM, ownL, sApp, tgSet, ePop, ePopA, eCall, peeks, takes, hands, boolD, pw_bind, qQ, wipeR, reduceIte, nOp, nList, isD, lenD, wW, hr, hk]
  exact e8
theorem la12 {ls : List Int} {ks : List PyData} {es : List Int} {rs ds : List PyData} (N : Tn ls ks es rs ds) (x2 x4 x7 x8 : SV) (b : Option Bx) (hb : Bg b) :
    pw m_law_12 ⟨wR x2 (.dat (hV ls ks)) x4 (.dat (hV es rs)) (.dat (.tuple ds)) x7 x8, b⟩ (fun f s => f = .nx ∧ FormL s) fun _ => False := by
  have hr := repr_tm N.all (by omega) (by omega)
  have e10 := la10 N x2 x4 b
  unfold m_law_12 m_law_11
  simp only [eCmp, eBin, eOp, eUn, eFn, eIx, eSlc, eChn, tVal, tNot, tAnd, tOr, eIf, eAnd, eOr, eNot, eIs, aNil, aCons, aStar, itemsO, eTup, nLst, eNw, pNone, pSome, sSkip, sSeq, sAsg, sAsgN, sRet, sRetN, sIf, tgName, tgAll, tgTup, sTg, sPar, sFor, iSeqM, iRg1, iRg2, iEnM, ownL, sApp, tgSet, ePop, ePopA, eCall, peeks, takes, hands, boolD, pw_bind, qQ, wipeR, reduceIte, nOp, nList, isD, lenD, wW, thr_l, hr]
  refine q_callR (r_law_handler_text N.h b) rfl ?_
  rintro _ _ ⟨rfl, rfl⟩
  simp only [eCmp, eBin, eOp, eUn, eFn, eIx, eSlc, eChn, tVal, tNot, tAnd, tOr, eIf, eAnd, eOr, eNot, eIs, aNil, aCons, aStar, itemsO, eTup, nLst, eNw, pNone, pSome, sSkip, sSeq, sAsg, sAsgN, sRet, sRetN, sIf, tgName, tgAll, tgTup, sTg, sPar, sFor, iSeqM, iRg1, iRg2, iEnM, ownL, sApp, tgSet, ePop, ePopA, eCall, peeks, takes, hands, boolD, pw_bind, qQ, wipeR, reduceIte, nOp, nList, isD, lenD, wW, tgAll]
  refine pw_mono e10 (fun f s ⟨e1, e2⟩ => ?_) fun _ h => h
  subst e1 e2
  exact ⟨rfl, _, _, _, _, _, _, _, rfl, hb⟩
@[irreducible] def n16 : M Fl := m_law_16
theorem n16_eq : n16 = m_law_16 := by unfold n16; rfl
theorem la16 (t : Nat) (x3 x4 x5 x6 x7 x8 : SV) (b : Option Bx) (hb : Bg b) : pw n16 ⟨wR (.dat (.int (t : Nat))) x3 x4 x5 x6 x7 x8, b⟩ (fun f s => f = .nx ∧ FormL s) fun _ => False := by
  have hmod : binD .mod (.int (t : Nat)) (.int 2) = some (.int ((t % 2 : Nat) : Int)) := by
    show (if (2 : Int) = 0 then none else some (PyData.int (Int.fmod t 2))) = _
    rw [if_neg (by omega), Int.fmod_eq_emod_of_nonneg _ (by omega)]
    rfl
  obtain ⟨most, hm, hix⟩ : ∃ most : Nat, most ≤ 200 ∧ ixD' (.list [.int 3, .int 200]) (.int ((t % 2 : Nat) : Int)) = some (.int (most : Nat)) := by
    rcases Nat.mod_two_eq_zero_or_one t with e | e
    · rw [e]; exact ⟨3, by omega, rfl⟩
    · rw [e]; exact ⟨200, by omega, rfl⟩
  rw [n16_eq]
  unfold m_law_16 m_law_15
  simp only [eCmp, eBin, eOp, eUn, eFn, eIx, eSlc, eChn, tVal, tNot, tAnd, tOr, eIf, eAnd, eOr, eNot, eIs, aNil, aCons, aStar, itemsO, eTup, nLst, eNw, pNone, pSome, sSkip, sSeq, sAsg, sAsgN, sRet, sRetN, sIf, tgName, tgAll, tgTup, sTg, sPar, sFor, iSeqM, iRg1, iRg2, iEnM, ownL, sApp, tgSet, ePop, ePopA, eCall, peeks, takes, hands, boolD, pw_bind, qQ, wipeR, reduceIte, nOp, nList, isD, lenD, wW]
  refine q_callR (K02.r_law_handler 8 6 b hb (by omega) (by omega) (by omega) (by omega)) rfl ?_
  rintro d b1 ⟨⟨n, k, hH, h2, h8, hk1, hk6⟩, hb1⟩
  obtain ⟨ls, ks, e, hd, hkl⟩ := hd_of h2 h8 hk6 hH
  have hT := hand_tm h8 hk6 hH
  have hO := out_hand hH h2 h8 hk1 hk6 e
  subst e
  unfold m_law_14 m_law_13
  simp only [eCmp, eBin, eOp, eUn, eFn, eIx, eSlc, eChn, tVal, tNot, tAnd, tOr, eIf, eAnd, eOr, eNot, eIs, aNil, aCons, aStar, itemsO, eTup, nLst, eNw, pNone, pSome, sSkip, sSeq, sAsg, sAsgN, sRet, sRetN, sIf, tgName, tgAll, tgTup, sTg, sPar, sFor, iSeqM, iRg1, iRg2, iEnM, ownL, sApp, tgSet, ePop, ePopA, eCall, peeks, takes, hands, boolD, pw_bind, qQ, wipeR, reduceIte, nOp, nList, isD, lenD, wW]
  refine q_callR (K08.r_law_plan (.tuple (ls.map PyData.int)) ks 6 b1 hb1 (by omega) (by omega) (by omega) (by omega)) rfl ?_
  rintro d b2 ⟨⟨p, hP, hp1, hp6⟩, hb2⟩
  obtain ⟨es, rs, rfl, hpd, hTp⟩ := pd_of (by omega) hp1 hp6 hP
  simp only [eCmp, eBin, eOp, eUn, eFn, eIx, eSlc, eChn, tVal, tNot, tAnd, tOr, eIf, eAnd, eOr, eNot, eIs, aNil, aCons, aStar, itemsO, eTup, nLst, eNw, pNone, pSome, sSkip, sSeq, sAsg, sAsgN, sRet, sRetN, sIf, tgName, tgAll, tgTup, sTg, sPar, sFor, iSeqM, iRg1, iRg2, iEnM, ownL, sApp, tgSet, ePop, ePopA, eCall, peeks, takes, hands, boolD, pw_bind, qQ, wipeR, reduceIte, nOp, nList, isD, lenD, wW, two_l, hmod, hix]
  refine q_callR (r_law_log (L := .tuple (ls.map PyData.int)) (ks := ks) (by omega) (by omega) hm b2 hb2) rfl ?_
  rintro _ b3 ⟨⟨ds, rfl, hL⟩, hb3⟩
  simp only [eCmp, eBin, eOp, eUn, eFn, eIx, eSlc, eChn, tVal, tNot, tAnd, tOr, eIf, eAnd, eOr, eNot, eIs, aNil, aCons, aStar, itemsO, eTup, nLst, eNw, pNone, pSome, sSkip, sSeq, sAsg, sAsgN, sRet, sRetN, sIf, tgName, tgAll, tgTup, sTg, sPar, sFor, iSeqM, iRg1, iRg2, iEnM, ownL, sApp, tgSet, ePop, ePopA, eCall, peeks, takes, hands, boolD, pw_bind, qQ, wipeR, reduceIte, nOp, nList, isD, lenD, wW, tgAll]
  exact la12 ⟨hd, hpd, hL, hT, hTp, log_tm hL, hO⟩ _ _ _ _ _ hb3
theorem law_loop : ∀ (ds : List PyData) (s : Sx), (∀ d ∈ ds, ∃ t : Nat, d = .int (t : Nat)) → FormL s → pw (forL (tgName 2) n16 ds) s (fun f s => f = .nx ∧ FormL s) fun _ => False
  | [], s, _, h => ⟨rfl, h⟩
  | d :: ds, s, hd, h => by
    obtain ⟨x2, x3, x4, x5, x6, x7, x8, hr, hb⟩ := h
    obtain ⟨r, b⟩ := s
    subst hr
    obtain ⟨t, rfl⟩ := hd d (by simp)
    unfold forL
    simp only [eCmp, eBin, eOp, eUn, eFn, eIx, eSlc, eChn, tVal, tNot, tAnd, tOr, eIf, eAnd, eOr, eNot, eIs, aNil, aCons, aStar, itemsO, eTup, nLst, eNw, pNone, pSome, sSkip, sSeq, sAsg, sAsgN, sRet, sRetN, sIf, tgName, tgAll, tgTup, sTg, sPar, sFor, iSeqM, iRg1, iRg2, iEnM, ownL, sApp, tgSet, ePop, ePopA, eCall, peeks, takes, hands, boolD, pw_bind, qQ, wipeR, reduceIte, nOp, nList, isD, lenD, wW]
    refine pw_mono (la16 t _ _ _ _ _ _ _ hb) (fun f s2 ⟨e1, e2⟩ => ?_) fun _ h => h
    subst e1
    exact law_loop ds s2 (fun x hx => hd x (List.mem_cons_of_mem _ hx)) e2
theorem hp (ns : List Int) (h : ns.length ≤ 63) : pw m_law (lawS 11 ns) (fun f _ => f = .rt (.bool true)) fun _ => False := by
  have hbig : big62 (16 : Int) = true := big62_of (by omega) (by omega)
  have r16 : rgD 0 16 = rgN 16 := rgD_nat (m := 16)
  unfold m_law m_law_17 m_law_1
  rw [← n16_eq]
  simp only [eCmp, eBin, eOp, eUn, eFn, eIx, eSlc, eChn, tVal, tNot, tAnd, tOr, eIf, eAnd, eOr, eNot, eIs, aNil, aCons, aStar, itemsO, eTup, nLst, eNw, pNone, pSome, sSkip, sSeq, sAsg, sAsgN, sRet, sRetN, sIf, tgName, tgAll, tgTup, sTg, sPar, sFor, iSeqM, iRg1, iRg2, iEnM, ownL, sApp, tgSet, ePop, ePopA, eCall, peeks, takes, hands, boolD, pw_bind, qQ, wipeR, reduceIte, nOp, nList, isD, lenD, wW, hbig, r16]
  refine pw_mono (law_loop _ _ (fun d hd => ?_) ⟨.no, .no, .no, .no, .no, .no, .no, rfl, bg_of ns⟩) (fun f s ⟨e1, _⟩ => ?_) fun _ h => h
  · obtain ⟨i, _, rfl⟩ := List.mem_map.mp hd
    exact ⟨i, rfl⟩
  · subst e1
    simp only [eCmp, eBin, eOp, eUn, eFn, eIx, eSlc, eChn, tVal, tNot, tAnd, tOr, eIf, eAnd, eOr, eNot, eIs, aNil, aCons, aStar, itemsO, eTup, nLst, eNw, pNone, pSome, sSkip, sSeq, sAsg, sAsgN, sRet, sRetN, sIf, tgName, tgAll, tgTup, sTg, sPar, sFor, iSeqM, iRg1, iRg2, iEnM, ownL, sApp, tgSet, ePop, ePopA, eCall, peeks, takes, hands, boolD, pw_bind, qQ, wipeR, reduceIte, nOp, nList, isD, lenD, wW]
end K12
set_option linter.all false
set_option Elab.async false
set_option maxRecDepth 100000
set_option maxHeartbeats 0
namespace K12
open PySem PySem.Spec PyProof.Rows L2 TW
abbrev pg : Program := PySem.Challenge.pw_twicesafe_k12_texts_of_handlers_and_plan
def top (i : Nat) : Stmt := pg.main.body.getD i (.Pass ⟨0, 0, 0, 0⟩)
abbrev s_row_text : Stmt := top 18
theorem sc_row_text : FnScope ["numbers", "number"] ["numbers"] (defScope s_row_text) := ⟨rfl, rfl, rfl, by decide +kernel, rfl, by decide +kernel, by decide +kernel⟩
def d_row_text : He.DefD := ⟨("row_text", none), "row_text", "row_text", defArgs s_row_text, defBody s_row_text, defScope s_row_text, [], []⟩
abbrev s_kind_text : Stmt := top 19
theorem sc_kind_text : FnScope ["kind"] ["kind"] (defScope s_kind_text) := ⟨rfl, rfl, rfl, by decide +kernel, rfl, by decide +kernel, by decide +kernel⟩
def d_kind_text : He.DefD := ⟨("kind_text", none), "kind_text", "kind_text", defArgs s_kind_text, defBody s_kind_text, defScope s_kind_text, [], []⟩
abbrev s_handler_text : Stmt := top 20
theorem sc_handler_text : FnScope ["handler", "kind"] ["handler"] (defScope s_handler_text) := ⟨rfl, rfl, rfl, by decide +kernel, rfl, by decide +kernel, by decide +kernel⟩
def d_handler_text : He.DefD := ⟨("handler_text", none), "handler_text", "handler_text", defArgs s_handler_text, defBody s_handler_text, defScope s_handler_text, [], []⟩
abbrev s_plan_text : Stmt := top 21
theorem sc_plan_text : FnScope ["plan", "row"] ["plan"] (defScope s_plan_text) := ⟨rfl, rfl, rfl, by decide +kernel, rfl, by decide +kernel, by decide +kernel⟩
def d_plan_text : He.DefD := ⟨("plan_text", none), "plan_text", "plan_text", defArgs s_plan_text, defBody s_plan_text, defScope s_plan_text, [], []⟩
abbrev s_log_text : Stmt := top 22
theorem sc_log_text : FnScope ["log", "index"] ["log"] (defScope s_log_text) := ⟨rfl, rfl, rfl, by decide +kernel, rfl, by decide +kernel, by decide +kernel⟩
def d_log_text : He.DefD := ⟨("log_text", none), "log_text", "log_text", defArgs s_log_text, defBody s_log_text, defScope s_log_text, [], []⟩
abbrev s_is_integer : Stmt := top 7
theorem sc_is_integer : FnScope ["value", "low", "high"] ["value", "low", "high"] (defScope s_is_integer) := ⟨rfl, rfl, rfl, by decide +kernel, rfl, by decide +kernel, by decide +kernel⟩
def d_is_integer : He.DefD := ⟨("is_integer", none), "is_integer", "is_integer", defArgs s_is_integer, defBody s_is_integer, defScope s_is_integer, [], []⟩
abbrev s_are_integers : Stmt := top 8
theorem sc_are_integers : FnScope ["value", "many", "low", "high", "item"] ["value", "many", "low", "high"] (defScope s_are_integers) := ⟨rfl, rfl, rfl, by decide +kernel, rfl, by decide +kernel, by decide +kernel⟩
def d_are_integers : He.DefD := ⟨("are_integers", none), "are_integers", "are_integers", defArgs s_are_integers, defBody s_are_integers, defScope s_are_integers, [], []⟩
abbrev s_kind_word : Stmt := top 9
theorem sc_kind_word : FnScope ["states", "value"] ["states", "value"] (defScope s_kind_word) := ⟨rfl, rfl, rfl, by decide +kernel, rfl, by decide +kernel, by decide +kernel⟩
def d_kind_word : He.DefD := ⟨("kind_word", none), "kind_word", "kind_word", defArgs s_kind_word, defBody s_kind_word, defScope s_kind_word, [], []⟩
abbrev s_are_labels : Stmt := top 10
theorem sc_are_labels : FnScope ["value"] ["value"] (defScope s_are_labels) := ⟨rfl, rfl, rfl, by decide +kernel, rfl, by decide +kernel, by decide +kernel⟩
def d_are_labels : He.DefD := ⟨("are_labels", none), "are_labels", "are_labels", defArgs s_are_labels, defBody s_are_labels, defScope s_are_labels, [], []⟩
abbrev s_handler_error : Stmt := top 11
theorem sc_handler_error : FnScope ["value", "labels", "kinds", "index", "kind", "word"] ["value"] (defScope s_handler_error) := ⟨rfl, rfl, rfl, by decide +kernel, rfl, by decide +kernel, by decide +kernel⟩
def d_handler_error : He.DefD := ⟨("handler_error", none), "handler_error", "handler_error", defArgs s_handler_error, defBody s_handler_error, defScope s_handler_error, [], []⟩
abbrev s_number_in : Stmt := top 15
theorem sc_number_in : FnScope ["text", "sign"] ["text"] (defScope s_number_in) := ⟨rfl, rfl, rfl, by decide +kernel, rfl, by decide +kernel, by decide +kernel⟩
def d_number_in : He.DefD := ⟨("number_in", none), "number_in", "number_in", defArgs s_number_in, defBody s_number_in, defScope s_number_in, [], []⟩
abbrev s_row_in : Stmt := top 16
theorem sc_row_in : FnScope ["text", "found", "part"] ["text"] (defScope s_row_in) := ⟨rfl, rfl, rfl, by decide +kernel, rfl, by decide +kernel, by decide +kernel⟩
def d_row_in : He.DefD := ⟨("row_in", none), "row_in", "row_in", defArgs s_row_in, defBody s_row_in, defScope s_row_in, [], []⟩
abbrev s_kind_in : Stmt := top 17
theorem sc_kind_in : FnScope ["text", "parts", "sender", "targets"] ["text"] (defScope s_kind_in) := ⟨rfl, rfl, rfl, by decide +kernel, rfl, by decide +kernel, by decide +kernel⟩
def d_kind_in : He.DefD := ⟨("kind_in", none), "kind_in", "kind_in", defArgs s_kind_in, defBody s_kind_in, defScope s_kind_in, [], []⟩
abbrev s_parse_handler : Stmt := top 23
theorem sc_parse_handler : FnScope ["value", "words", "handler", "error", "labels", "kinds", "at", "kind"] ["value"] (defScope s_parse_handler) := ⟨rfl, rfl, rfl, by decide +kernel, rfl, by decide +kernel, by decide +kernel⟩
def d_parse_handler : He.DefD := ⟨("parse_handler", none), "parse_handler", "parse_handler", defArgs s_parse_handler, defBody s_parse_handler, defScope s_parse_handler, [], []⟩
abbrev s_law_opened : Stmt := top 25
theorem sc_law_opened : FnScope ["_law_script", "_law_cells", "_law_small", "_law_great", "_law_cell"] ["_law_script"] (defScope s_law_opened) := ⟨rfl, rfl, rfl, by decide +kernel, rfl, by decide +kernel, by decide +kernel⟩
def d_law_opened : He.DefD := ⟨("_law_opened", none), "_law_opened", "_law_opened", defArgs s_law_opened, defBody s_law_opened, defScope s_law_opened, [], []⟩
abbrev s_law_draw : Stmt := top 26
theorem sc_law_draw : FnScope ["_law_box", "_law_many", "_law_great", "_law_digit", "_law_cell", "_law_mixed"] ["_law_box", "_law_many"] (defScope s_law_draw) := ⟨rfl, rfl, rfl, by decide +kernel, rfl, by decide +kernel, by decide +kernel⟩
def d_law_draw : He.DefD := ⟨("_law_draw", none), "_law_draw", "_law_draw", defArgs s_law_draw, defBody s_law_draw, defScope s_law_draw, [], []⟩
abbrev s_law_one : Stmt := top 27
theorem sc_law_one : FnScope ["_law_box", "_law_items"] ["_law_box", "_law_items"] (defScope s_law_one) := ⟨rfl, rfl, rfl, by decide +kernel, rfl, by decide +kernel, by decide +kernel⟩
def d_law_one : He.DefD := ⟨("_law_one", none), "_law_one", "_law_one", defArgs s_law_one, defBody s_law_one, defScope s_law_one, [], []⟩
abbrev s_law_kind : Stmt := top 28
theorem sc_law_kind : FnScope ["_law_box", "_law_states", "_law_targets", "_law_one_here", "_law_other", "_law_way", "_law_k"] ["_law_box", "_law_states"] (defScope s_law_kind) := ⟨rfl, rfl, rfl, by decide +kernel, rfl, by decide +kernel, by decide +kernel⟩
def d_law_kind : He.DefD := ⟨("_law_kind", none), "_law_kind", "_law_kind", defArgs s_law_kind, defBody s_law_kind, defScope s_law_kind, [], []⟩
abbrev s_law_handler : Stmt := top 29
theorem sc_law_handler : FnScope ["_law_box", "_law_most", "_law_many", "_law_states", "_law_labels", "_law_k"] ["_law_box", "_law_most", "_law_many"] (defScope s_law_handler) := ⟨rfl, rfl, rfl, by decide +kernel, rfl, by decide +kernel, by decide +kernel⟩
def d_law_handler : He.DefD := ⟨("_law_handler", none), "_law_handler", "_law_handler", defArgs s_law_handler, defBody s_law_handler, defScope s_law_handler, [], []⟩
abbrev s_law_plan : Stmt := top 30
theorem sc_law_plan : FnScope ["_law_box", "_law_handler_here", "_law_most", "_law_some", "_law_rows", "_law_ends", "_law_many", "_law_places", "_law_place", "_law_k"] ["_law_box", "_law_handler_here", "_law_most"] (defScope s_law_plan) := ⟨rfl, rfl, rfl, by decide +kernel, rfl, by decide +kernel, by decide +kernel⟩
def d_law_plan : He.DefD := ⟨("_law_plan", none), "_law_plan", "_law_plan", defArgs s_law_plan, defBody s_law_plan, defScope s_law_plan, [], []⟩
abbrev s_law_log : Stmt := top 31
theorem sc_law_log : FnScope ["_law_box", "_law_handler_here", "_law_most", "_law_k"] ["_law_box", "_law_handler_here", "_law_most"] (defScope s_law_log) := ⟨rfl, rfl, rfl, by decide +kernel, rfl, by decide +kernel, by decide +kernel⟩
def d_law_log : He.DefD := ⟨("_law_log", none), "_law_log", "_law_log", defArgs s_law_log, defBody s_law_log, defScope s_law_log, [], []⟩
abbrev s_law_row_text : Stmt := top 32
theorem sc_law_row_text : FnScope ["_law_numbers", "_law_number"] ["_law_numbers"] (defScope s_law_row_text) := ⟨rfl, rfl, rfl, by decide +kernel, rfl, by decide +kernel, by decide +kernel⟩
def d_law_row_text : He.DefD := ⟨("_law_row_text", none), "_law_row_text", "_law_row_text", defArgs s_law_row_text, defBody s_law_row_text, defScope s_law_row_text, [], []⟩
abbrev s_law_kind_text : Stmt := top 33
theorem sc_law_kind_text : FnScope ["_law_kind_here"] ["_law_kind_here"] (defScope s_law_kind_text) := ⟨rfl, rfl, rfl, by decide +kernel, rfl, by decide +kernel, by decide +kernel⟩
def d_law_kind_text : He.DefD := ⟨("_law_kind_text", none), "_law_kind_text", "_law_kind_text", defArgs s_law_kind_text, defBody s_law_kind_text, defScope s_law_kind_text, [], []⟩
abbrev s_law_handler_text : Stmt := top 34
theorem sc_law_handler_text : FnScope ["_law_handler_here", "_law_kind_here"] ["_law_handler_here"] (defScope s_law_handler_text) := ⟨rfl, rfl, rfl, by decide +kernel, rfl, by decide +kernel, by decide +kernel⟩
def d_law_handler_text : He.DefD := ⟨("_law_handler_text", none), "_law_handler_text", "_law_handler_text", defArgs s_law_handler_text, defBody s_law_handler_text, defScope s_law_handler_text, [], []⟩
abbrev s_law_plan_text : Stmt := top 35
theorem sc_law_plan_text : FnScope ["_law_plan_here", "_law_row"] ["_law_plan_here"] (defScope s_law_plan_text) := ⟨rfl, rfl, rfl, by decide +kernel, rfl, by decide +kernel, by decide +kernel⟩
def d_law_plan_text : He.DefD := ⟨("_law_plan_text", none), "_law_plan_text", "_law_plan_text", defArgs s_law_plan_text, defBody s_law_plan_text, defScope s_law_plan_text, [], []⟩
abbrev s_law : Stmt := top 36
theorem sc_law : FnScope ["_law_script", "_law_box", "_law_turn", "_law_handler_here", "_law_due", "_law_plan_here", "_law_log_here", "_law_shown", "_law_text", "_law_kind_here", "_law_index"] ["_law_script"] (defScope s_law) := ⟨rfl, rfl, rfl, by decide +kernel, rfl, by decide +kernel, by decide +kernel⟩
def d_law : He.DefD := ⟨("law", none), "law", "law", defArgs s_law, defBody s_law, defScope s_law, [], []⟩
def fn : List He.DefD := [d_row_text, d_kind_text, d_handler_text, d_plan_text, d_log_text, d_is_integer, d_are_integers, d_kind_word, d_are_labels, d_handler_error, d_number_in, d_row_in, d_kind_in, d_parse_handler, d_law_opened, d_law_draw, d_law_one, d_law_kind, d_law_handler, d_law_plan, d_law_log, d_law_row_text, d_law_kind_text, d_law_handler_text, d_law_plan_text, d_law]
def fa : List He.Fa := [.glo "row_text", .glo "kind_text", .glo "handler_text", .glo "plan_text", .glo "log_text", .glo "is_integer", .glo "are_integers", .glo "kind_word", .glo "are_labels", .glo "handler_error", .glo "number_in", .glo "row_in", .glo "kind_in", .glo "parse_handler", .glo "_law_opened", .glo "_law_draw", .glo "_law_one", .glo "_law_kind", .glo "_law_handler", .glo "_law_plan", .glo "_law_log", .glo "_law_row_text", .glo "_law_kind_text", .glo "_law_handler_text", .glo "_law_plan_text", .glo "law", .free "abs", .free "all", .free "bool", .free "enumerate", .free "int", .free "isinstance", .free "len", .free "range", .free "repr", .free "set", .free "sorted", .free "str", .free "tuple", .str "DIGITS" "0123456789", .int "LONGEST" 12, .int "MAX_KINDS" 6, .int "MAX_STATES" 8]
structure Kn (K : PySem.W.Frag) (mg : Str → Option Value) (base : Heap) : Prop where
  sm : SmP base
  g_row_text : mg "row_text" = some (.ref (He.fAd K ("row_text", none)))
  d_row_text : ∃ fd, FunD K "row_text" "row_text" (defArgs s_row_text) (defBody s_row_text) (defScope s_row_text) [] [] (He.fAd K ("row_text", none)) fd
  k_row_text : PySem.W.keepIn K (.ref (He.fAd K ("row_text", none))) = true
  g_kind_text : mg "kind_text" = some (.ref (He.fAd K ("kind_text", none)))
  d_kind_text : ∃ fd, FunD K "kind_text" "kind_text" (defArgs s_kind_text) (defBody s_kind_text) (defScope s_kind_text) [] [] (He.fAd K ("kind_text", none)) fd
  k_kind_text : PySem.W.keepIn K (.ref (He.fAd K ("kind_text", none))) = true
  g_handler_text : mg "handler_text" = some (.ref (He.fAd K ("handler_text", none)))
  d_handler_text : ∃ fd, FunD K "handler_text" "handler_text" (defArgs s_handler_text) (defBody s_handler_text) (defScope s_handler_text) [] [] (He.fAd K ("handler_text", none)) fd
  k_handler_text : PySem.W.keepIn K (.ref (He.fAd K ("handler_text", none))) = true
  g_plan_text : mg "plan_text" = some (.ref (He.fAd K ("plan_text", none)))
  d_plan_text : ∃ fd, FunD K "plan_text" "plan_text" (defArgs s_plan_text) (defBody s_plan_text) (defScope s_plan_text) [] [] (He.fAd K ("plan_text", none)) fd
  k_plan_text : PySem.W.keepIn K (.ref (He.fAd K ("plan_text", none))) = true
  g_log_text : mg "log_text" = some (.ref (He.fAd K ("log_text", none)))
  d_log_text : ∃ fd, FunD K "log_text" "log_text" (defArgs s_log_text) (defBody s_log_text) (defScope s_log_text) [] [] (He.fAd K ("log_text", none)) fd
  k_log_text : PySem.W.keepIn K (.ref (He.fAd K ("log_text", none))) = true
  g_is_integer : mg "is_integer" = some (.ref (He.fAd K ("is_integer", none)))
  d_is_integer : ∃ fd, FunD K "is_integer" "is_integer" (defArgs s_is_integer) (defBody s_is_integer) (defScope s_is_integer) [] [] (He.fAd K ("is_integer", none)) fd
  k_is_integer : PySem.W.keepIn K (.ref (He.fAd K ("is_integer", none))) = true
  g_are_integers : mg "are_integers" = some (.ref (He.fAd K ("are_integers", none)))
  d_are_integers : ∃ fd, FunD K "are_integers" "are_integers" (defArgs s_are_integers) (defBody s_are_integers) (defScope s_are_integers) [] [] (He.fAd K ("are_integers", none)) fd
  k_are_integers : PySem.W.keepIn K (.ref (He.fAd K ("are_integers", none))) = true
  g_kind_word : mg "kind_word" = some (.ref (He.fAd K ("kind_word", none)))
  d_kind_word : ∃ fd, FunD K "kind_word" "kind_word" (defArgs s_kind_word) (defBody s_kind_word) (defScope s_kind_word) [] [] (He.fAd K ("kind_word", none)) fd
  k_kind_word : PySem.W.keepIn K (.ref (He.fAd K ("kind_word", none))) = true
  g_are_labels : mg "are_labels" = some (.ref (He.fAd K ("are_labels", none)))
  d_are_labels : ∃ fd, FunD K "are_labels" "are_labels" (defArgs s_are_labels) (defBody s_are_labels) (defScope s_are_labels) [] [] (He.fAd K ("are_labels", none)) fd
  k_are_labels : PySem.W.keepIn K (.ref (He.fAd K ("are_labels", none))) = true
  g_handler_error : mg "handler_error" = some (.ref (He.fAd K ("handler_error", none)))
  d_handler_error : ∃ fd, FunD K "handler_error" "handler_error" (defArgs s_handler_error) (defBody s_handler_error) (defScope s_handler_error) [] [] (He.fAd K ("handler_error", none)) fd
  k_handler_error : PySem.W.keepIn K (.ref (He.fAd K ("handler_error", none))) = true
  g_number_in : mg "number_in" = some (.ref (He.fAd K ("number_in", none)))
  d_number_in : ∃ fd, FunD K "number_in" "number_in" (defArgs s_number_in) (defBody s_number_in) (defScope s_number_in) [] [] (He.fAd K ("number_in", none)) fd
  k_number_in : PySem.W.keepIn K (.ref (He.fAd K ("number_in", none))) = true
  g_row_in : mg "row_in" = some (.ref (He.fAd K ("row_in", none)))
  d_row_in : ∃ fd, FunD K "row_in" "row_in" (defArgs s_row_in) (defBody s_row_in) (defScope s_row_in) [] [] (He.fAd K ("row_in", none)) fd
  k_row_in : PySem.W.keepIn K (.ref (He.fAd K ("row_in", none))) = true
  g_kind_in : mg "kind_in" = some (.ref (He.fAd K ("kind_in", none)))
  d_kind_in : ∃ fd, FunD K "kind_in" "kind_in" (defArgs s_kind_in) (defBody s_kind_in) (defScope s_kind_in) [] [] (He.fAd K ("kind_in", none)) fd
  k_kind_in : PySem.W.keepIn K (.ref (He.fAd K ("kind_in", none))) = true
  g_parse_handler : mg "parse_handler" = some (.ref (He.fAd K ("parse_handler", none)))
  d_parse_handler : ∃ fd, FunD K "parse_handler" "parse_handler" (defArgs s_parse_handler) (defBody s_parse_handler) (defScope s_parse_handler) [] [] (He.fAd K ("parse_handler", none)) fd
  k_parse_handler : PySem.W.keepIn K (.ref (He.fAd K ("parse_handler", none))) = true
  g__law_opened : mg "_law_opened" = some (.ref (He.fAd K ("_law_opened", none)))
  d__law_opened : ∃ fd, FunD K "_law_opened" "_law_opened" (defArgs s_law_opened) (defBody s_law_opened) (defScope s_law_opened) [] [] (He.fAd K ("_law_opened", none)) fd
  k__law_opened : PySem.W.keepIn K (.ref (He.fAd K ("_law_opened", none))) = true
  g__law_draw : mg "_law_draw" = some (.ref (He.fAd K ("_law_draw", none)))
  d__law_draw : ∃ fd, FunD K "_law_draw" "_law_draw" (defArgs s_law_draw) (defBody s_law_draw) (defScope s_law_draw) [] [] (He.fAd K ("_law_draw", none)) fd
  k__law_draw : PySem.W.keepIn K (.ref (He.fAd K ("_law_draw", none))) = true
  g__law_one : mg "_law_one" = some (.ref (He.fAd K ("_law_one", none)))
  d__law_one : ∃ fd, FunD K "_law_one" "_law_one" (defArgs s_law_one) (defBody s_law_one) (defScope s_law_one) [] [] (He.fAd K ("_law_one", none)) fd
  k__law_one : PySem.W.keepIn K (.ref (He.fAd K ("_law_one", none))) = true
  g__law_kind : mg "_law_kind" = some (.ref (He.fAd K ("_law_kind", none)))
  d__law_kind : ∃ fd, FunD K "_law_kind" "_law_kind" (defArgs s_law_kind) (defBody s_law_kind) (defScope s_law_kind) [] [] (He.fAd K ("_law_kind", none)) fd
  k__law_kind : PySem.W.keepIn K (.ref (He.fAd K ("_law_kind", none))) = true
  g__law_handler : mg "_law_handler" = some (.ref (He.fAd K ("_law_handler", none)))
  d__law_handler : ∃ fd, FunD K "_law_handler" "_law_handler" (defArgs s_law_handler) (defBody s_law_handler) (defScope s_law_handler) [] [] (He.fAd K ("_law_handler", none)) fd
  k__law_handler : PySem.W.keepIn K (.ref (He.fAd K ("_law_handler", none))) = true
  g__law_plan : mg "_law_plan" = some (.ref (He.fAd K ("_law_plan", none)))
  d__law_plan : ∃ fd, FunD K "_law_plan" "_law_plan" (defArgs s_law_plan) (defBody s_law_plan) (defScope s_law_plan) [] [] (He.fAd K ("_law_plan", none)) fd
  k__law_plan : PySem.W.keepIn K (.ref (He.fAd K ("_law_plan", none))) = true
  g__law_log : mg "_law_log" = some (.ref (He.fAd K ("_law_log", none)))
  d__law_log : ∃ fd, FunD K "_law_log" "_law_log" (defArgs s_law_log) (defBody s_law_log) (defScope s_law_log) [] [] (He.fAd K ("_law_log", none)) fd
  k__law_log : PySem.W.keepIn K (.ref (He.fAd K ("_law_log", none))) = true
  g__law_row_text : mg "_law_row_text" = some (.ref (He.fAd K ("_law_row_text", none)))
  d__law_row_text : ∃ fd, FunD K "_law_row_text" "_law_row_text" (defArgs s_law_row_text) (defBody s_law_row_text) (defScope s_law_row_text) [] [] (He.fAd K ("_law_row_text", none)) fd
  k__law_row_text : PySem.W.keepIn K (.ref (He.fAd K ("_law_row_text", none))) = true
  g__law_kind_text : mg "_law_kind_text" = some (.ref (He.fAd K ("_law_kind_text", none)))
  d__law_kind_text : ∃ fd, FunD K "_law_kind_text" "_law_kind_text" (defArgs s_law_kind_text) (defBody s_law_kind_text) (defScope s_law_kind_text) [] [] (He.fAd K ("_law_kind_text", none)) fd
  k__law_kind_text : PySem.W.keepIn K (.ref (He.fAd K ("_law_kind_text", none))) = true
  g__law_handler_text : mg "_law_handler_text" = some (.ref (He.fAd K ("_law_handler_text", none)))
  d__law_handler_text : ∃ fd, FunD K "_law_handler_text" "_law_handler_text" (defArgs s_law_handler_text) (defBody s_law_handler_text) (defScope s_law_handler_text) [] [] (He.fAd K ("_law_handler_text", none)) fd
  k__law_handler_text : PySem.W.keepIn K (.ref (He.fAd K ("_law_handler_text", none))) = true
  g__law_plan_text : mg "_law_plan_text" = some (.ref (He.fAd K ("_law_plan_text", none)))
  d__law_plan_text : ∃ fd, FunD K "_law_plan_text" "_law_plan_text" (defArgs s_law_plan_text) (defBody s_law_plan_text) (defScope s_law_plan_text) [] [] (He.fAd K ("_law_plan_text", none)) fd
  k__law_plan_text : PySem.W.keepIn K (.ref (He.fAd K ("_law_plan_text", none))) = true
  g_law : mg "law" = some (.ref (He.fAd K ("law", none)))
  d_law : ∃ fd, FunD K "law" "law" (defArgs s_law) (defBody s_law) (defScope s_law) [] [] (He.fAd K ("law", none)) fd
  k_law : PySem.W.keepIn K (.ref (He.fAd K ("law", none))) = true
  g_abs : mg "abs" = none
  g_all : mg "all" = none
  g_bool : mg "bool" = none
  g_enumerate : mg "enumerate" = none
  g_int : mg "int" = none
  g_isinstance : mg "isinstance" = none
  g_len : mg "len" = none
  g_range : mg "range" = none
  g_repr : mg "repr" = none
  g_set : mg "set" = none
  g_sorted : mg "sorted" = none
  g_str : mg "str" = none
  g_tuple : mg "tuple" = none
  c_DIGITS : ∃ t, mg "DIGITS" = some (.str "0123456789" t)
  c_LONGEST : ∃ t, mg "LONGEST" = some (.int 12 t)
  c_MAX_KINDS : ∃ t, mg "MAX_KINDS" = some (.int 6 t)
  c_MAX_STATES : ∃ t, mg "MAX_STATES" = some (.int 8 t)
theorem kn {K : PySem.W.Frag} {mg : Str → Option Value} {base h : Heap} (X : K.In h) (G : h.Ns mainGlobals mg) (c : He.SaysD fa fn K) (sm : SmP base) : Kn K mg base where
  sm := sm
  g_row_text := He.glo_ok X G (c.fact 0 (f := .glo "row_text") rfl)
  d_row_text := c.def_ 0 (d := d_row_text) rfl
  k_row_text := (c.def_ 0 (d := d_row_text) rfl).elim fun _ F => F.kp
  g_kind_text := He.glo_ok X G (c.fact 1 (f := .glo "kind_text") rfl)
  d_kind_text := c.def_ 1 (d := d_kind_text) rfl
  k_kind_text := (c.def_ 1 (d := d_kind_text) rfl).elim fun _ F => F.kp
  g_handler_text := He.glo_ok X G (c.fact 2 (f := .glo "handler_text") rfl)
  d_handler_text := c.def_ 2 (d := d_handler_text) rfl
  k_handler_text := (c.def_ 2 (d := d_handler_text) rfl).elim fun _ F => F.kp
  g_plan_text := He.glo_ok X G (c.fact 3 (f := .glo "plan_text") rfl)
  d_plan_text := c.def_ 3 (d := d_plan_text) rfl
  k_plan_text := (c.def_ 3 (d := d_plan_text) rfl).elim fun _ F => F.kp
  g_log_text := He.glo_ok X G (c.fact 4 (f := .glo "log_text") rfl)
  d_log_text := c.def_ 4 (d := d_log_text) rfl
  k_log_text := (c.def_ 4 (d := d_log_text) rfl).elim fun _ F => F.kp
  g_is_integer := He.glo_ok X G (c.fact 5 (f := .glo "is_integer") rfl)
  d_is_integer := c.def_ 5 (d := d_is_integer) rfl
  k_is_integer := (c.def_ 5 (d := d_is_integer) rfl).elim fun _ F => F.kp
  g_are_integers := He.glo_ok X G (c.fact 6 (f := .glo "are_integers") rfl)
  d_are_integers := c.def_ 6 (d := d_are_integers) rfl
  k_are_integers := (c.def_ 6 (d := d_are_integers) rfl).elim fun _ F => F.kp
  g_kind_word := He.glo_ok X G (c.fact 7 (f := .glo "kind_word") rfl)
  d_kind_word := c.def_ 7 (d := d_kind_word) rfl
  k_kind_word := (c.def_ 7 (d := d_kind_word) rfl).elim fun _ F => F.kp
  g_are_labels := He.glo_ok X G (c.fact 8 (f := .glo "are_labels") rfl)
  d_are_labels := c.def_ 8 (d := d_are_labels) rfl
  k_are_labels := (c.def_ 8 (d := d_are_labels) rfl).elim fun _ F => F.kp
  g_handler_error := He.glo_ok X G (c.fact 9 (f := .glo "handler_error") rfl)
  d_handler_error := c.def_ 9 (d := d_handler_error) rfl
  k_handler_error := (c.def_ 9 (d := d_handler_error) rfl).elim fun _ F => F.kp
  g_number_in := He.glo_ok X G (c.fact 10 (f := .glo "number_in") rfl)
  d_number_in := c.def_ 10 (d := d_number_in) rfl
  k_number_in := (c.def_ 10 (d := d_number_in) rfl).elim fun _ F => F.kp
  g_row_in := He.glo_ok X G (c.fact 11 (f := .glo "row_in") rfl)
  d_row_in := c.def_ 11 (d := d_row_in) rfl
  k_row_in := (c.def_ 11 (d := d_row_in) rfl).elim fun _ F => F.kp
  g_kind_in := He.glo_ok X G (c.fact 12 (f := .glo "kind_in") rfl)
  d_kind_in := c.def_ 12 (d := d_kind_in) rfl
  k_kind_in := (c.def_ 12 (d := d_kind_in) rfl).elim fun _ F => F.kp
  g_parse_handler := He.glo_ok X G (c.fact 13 (f := .glo "parse_handler") rfl)
  d_parse_handler := c.def_ 13 (d := d_parse_handler) rfl
  k_parse_handler := (c.def_ 13 (d := d_parse_handler) rfl).elim fun _ F => F.kp
  g__law_opened := He.glo_ok X G (c.fact 14 (f := .glo "_law_opened") rfl)
  d__law_opened := c.def_ 14 (d := d_law_opened) rfl
  k__law_opened := (c.def_ 14 (d := d_law_opened) rfl).elim fun _ F => F.kp
  g__law_draw := He.glo_ok X G (c.fact 15 (f := .glo "_law_draw") rfl)
  d__law_draw := c.def_ 15 (d := d_law_draw) rfl
  k__law_draw := (c.def_ 15 (d := d_law_draw) rfl).elim fun _ F => F.kp
  g__law_one := He.glo_ok X G (c.fact 16 (f := .glo "_law_one") rfl)
  d__law_one := c.def_ 16 (d := d_law_one) rfl
  k__law_one := (c.def_ 16 (d := d_law_one) rfl).elim fun _ F => F.kp
  g__law_kind := He.glo_ok X G (c.fact 17 (f := .glo "_law_kind") rfl)
  d__law_kind := c.def_ 17 (d := d_law_kind) rfl
  k__law_kind := (c.def_ 17 (d := d_law_kind) rfl).elim fun _ F => F.kp
  g__law_handler := He.glo_ok X G (c.fact 18 (f := .glo "_law_handler") rfl)
  d__law_handler := c.def_ 18 (d := d_law_handler) rfl
  k__law_handler := (c.def_ 18 (d := d_law_handler) rfl).elim fun _ F => F.kp
  g__law_plan := He.glo_ok X G (c.fact 19 (f := .glo "_law_plan") rfl)
  d__law_plan := c.def_ 19 (d := d_law_plan) rfl
  k__law_plan := (c.def_ 19 (d := d_law_plan) rfl).elim fun _ F => F.kp
  g__law_log := He.glo_ok X G (c.fact 20 (f := .glo "_law_log") rfl)
  d__law_log := c.def_ 20 (d := d_law_log) rfl
  k__law_log := (c.def_ 20 (d := d_law_log) rfl).elim fun _ F => F.kp
  g__law_row_text := He.glo_ok X G (c.fact 21 (f := .glo "_law_row_text") rfl)
  d__law_row_text := c.def_ 21 (d := d_law_row_text) rfl
  k__law_row_text := (c.def_ 21 (d := d_law_row_text) rfl).elim fun _ F => F.kp
  g__law_kind_text := He.glo_ok X G (c.fact 22 (f := .glo "_law_kind_text") rfl)
  d__law_kind_text := c.def_ 22 (d := d_law_kind_text) rfl
  k__law_kind_text := (c.def_ 22 (d := d_law_kind_text) rfl).elim fun _ F => F.kp
  g__law_handler_text := He.glo_ok X G (c.fact 23 (f := .glo "_law_handler_text") rfl)
  d__law_handler_text := c.def_ 23 (d := d_law_handler_text) rfl
  k__law_handler_text := (c.def_ 23 (d := d_law_handler_text) rfl).elim fun _ F => F.kp
  g__law_plan_text := He.glo_ok X G (c.fact 24 (f := .glo "_law_plan_text") rfl)
  d__law_plan_text := c.def_ 24 (d := d_law_plan_text) rfl
  k__law_plan_text := (c.def_ 24 (d := d_law_plan_text) rfl).elim fun _ F => F.kp
  g_law := He.glo_ok X G (c.fact 25 (f := .glo "law") rfl)
  d_law := c.def_ 25 (d := d_law) rfl
  k_law := (c.def_ 25 (d := d_law) rfl).elim fun _ F => F.kp
  g_abs := He.free_ok X G (c.fact 26 (f := .free "abs") rfl)
  g_all := He.free_ok X G (c.fact 27 (f := .free "all") rfl)
  g_bool := He.free_ok X G (c.fact 28 (f := .free "bool") rfl)
  g_enumerate := He.free_ok X G (c.fact 29 (f := .free "enumerate") rfl)
  g_int := He.free_ok X G (c.fact 30 (f := .free "int") rfl)
  g_isinstance := He.free_ok X G (c.fact 31 (f := .free "isinstance") rfl)
  g_len := He.free_ok X G (c.fact 32 (f := .free "len") rfl)
  g_range := He.free_ok X G (c.fact 33 (f := .free "range") rfl)
  g_repr := He.free_ok X G (c.fact 34 (f := .free "repr") rfl)
  g_set := He.free_ok X G (c.fact 35 (f := .free "set") rfl)
  g_sorted := He.free_ok X G (c.fact 36 (f := .free "sorted") rfl)
  g_str := He.free_ok X G (c.fact 37 (f := .free "str") rfl)
  g_tuple := He.free_ok X G (c.fact 38 (f := .free "tuple") rfl)
  c_DIGITS := He.str_ok X G (c.fact 39 (f := .str "DIGITS" "0123456789") rfl)
  c_LONGEST := He.int_ok X G (c.fact 40 (f := .int "LONGEST" 12) rfl)
  c_MAX_KINDS := He.int_ok X G (c.fact 41 (f := .int "MAX_KINDS" 6) rfl)
  c_MAX_STATES := He.int_ok X G (c.fact 42 (f := .int "MAX_STATES" 8) rfl)
section
variable {P : Program} {w : World} {K : PySem.W.Frag} {mg : Str → Option Value} {base : Heap}
theorem ok_row_text (E : Kn K mg base) : FnX P w K mg base 1 "row_text" ["numbers"] f_row_text := by
  obtain ⟨fd, F⟩ := E.d_row_text
  refine ⟨fd, fn_of_body (m := m_row_text) 2 F sc_row_text E.sm rfl fun cdv A outer s H E' C => ?_, F.bindsN fun _ _ _ _ _ _ us hl => match us, hl with | [_], _ => rfl⟩
  exact (sb_one (ss_ret (sd_join sd_str (sd_nw (sn_cmp [("number", 1)] C (si_seq (sd_var rfl (by first | exact .inl (by rfl) | exact .inr (.inl (by rfl)) | exact .inr (.inr (by rfl))))) (blkOk_by (by kernel_rfl)) (fun _ _ _ _ _ => (sgw_name (by decide) (C.blk _ _ _ _ _) rfl (by first | exact .inl (by rfl) | exact .inr (by rfl)))) (fun _ _ _ _ _ => sts_nil) (fun _ _ _ _ _ => (sd_if (st_isN (sd_var rfl (by first | exact .inl (by rfl) | exact .inr (.inl (by rfl)) | exact .inr (.inr (by rfl)))) sd_none) sd_str (sd_callT call_str_int ok_str (by rfl) (E.g_str) tb_str (sa_cons (sd_var rfl (by first | exact .inl (by rfl) | exact .inr (.inl (by rfl)) | exact .inr (.inr (by rfl)))) sa_nil)))))))))
theorem ok_kind_text (E : Kn K mg base) : FnX P w K mg base 2 "kind_text" ["kind"] f_kind_text := by
  obtain ⟨fd, F⟩ := E.d_kind_text
  refine ⟨fd, fn_of_body (m := m_kind_text) 1 F sc_kind_text E.sm rfl fun cdv A outer s H E' C => ?_, F.bindsN fun _ _ _ _ _ _ us hl => match us, hl with | [_], _ => rfl⟩
  exact (sb_one (ss_ret (sd_add (sd_add (sd_callT call_str_int ok_str (by rfl) (E.g_str) tb_str (sa_cons (sd_ix (sd_var rfl (by first | exact .inl (by rfl) | exact .inr (.inl (by rfl)) | exact .inr (.inr (by rfl)))) sd_int fun _ _ => rfl) sa_nil)) sd_str) (sd_callX C (ok_row_text E) (by decide) (by rfl) E.g_row_text E.k_row_text (sa_cons (sd_ix (sd_var rfl (by first | exact .inl (by rfl) | exact .inr (.inl (by rfl)) | exact .inr (.inr (by rfl)))) sd_int fun _ _ => rfl) sa_nil)))))
theorem ok_handler_text (E : Kn K mg base) : FnX P w K mg base 3 "handler_text" ["handler"] f_handler_text := by
  obtain ⟨fd, F⟩ := E.d_handler_text
  refine ⟨fd, fn_of_body (m := m_handler_text) 2 F sc_handler_text E.sm rfl fun cdv A outer s H E' C => ?_, F.bindsN fun _ _ _ _ _ _ us hl => match us, hl with | [_], _ => rfl⟩
  exact (sb_one (ss_ret (sd_join sd_str (sd_nw (sn_lst (sa_cons (sd_callX C (ok_row_text E) (by decide) (by rfl) E.g_row_text E.k_row_text (sa_cons (sd_ix (sd_var rfl (by first | exact .inl (by rfl) | exact .inr (.inl (by rfl)) | exact .inr (.inr (by rfl)))) sd_int fun _ _ => rfl) sa_nil)) (sa_star (sd_nw (sn_cmp [("kind", 1)] C (si_seq (sd_ix (sd_var rfl (by first | exact .inl (by rfl) | exact .inr (.inl (by rfl)) | exact .inr (.inr (by rfl)))) sd_int fun _ _ => rfl)) (blkOk_by (by kernel_rfl)) (fun _ _ _ _ _ => (sgw_name (by decide) (C.blk _ _ _ _ _) rfl (by first | exact .inl (by rfl) | exact .inr (by rfl)))) (fun _ _ _ _ _ => sts_nil) (fun _ _ _ _ _ => (sd_callX (C.blk _ _ _ _ _) (ok_kind_text E) (by decide) (by rfl) E.g_kind_text E.k_kind_text (sa_cons (sd_var rfl (by first | exact .inl (by rfl) | exact .inr (.inl (by rfl)) | exact .inr (.inr (by rfl)))) sa_nil))))) sa_nil)))))))
theorem ok_plan_text (E : Kn K mg base) : FnX P w K mg base 2 "plan_text" ["plan"] f_plan_text := by
  obtain ⟨fd, F⟩ := E.d_plan_text
  refine ⟨fd, fn_of_body (m := m_plan_text) 2 F sc_plan_text E.sm rfl fun cdv A outer s H E' C => ?_, F.bindsN fun _ _ _ _ _ _ us hl => match us, hl with | [_], _ => rfl⟩
  exact (sb_one (ss_ret (sd_join sd_str (sd_nw (sn_lst (sa_cons (sd_callX C (ok_row_text E) (by decide) (by rfl) E.g_row_text E.k_row_text (sa_cons (sd_ix (sd_var rfl (by first | exact .inl (by rfl) | exact .inr (.inl (by rfl)) | exact .inr (.inr (by rfl)))) sd_int fun _ _ => rfl) sa_nil)) (sa_star (sd_nw (sn_cmp [("row", 1)] C (si_seq (sd_ix (sd_var rfl (by first | exact .inl (by rfl) | exact .inr (.inl (by rfl)) | exact .inr (.inr (by rfl)))) sd_int fun _ _ => rfl)) (blkOk_by (by kernel_rfl)) (fun _ _ _ _ _ => (sgw_name (by decide) (C.blk _ _ _ _ _) rfl (by first | exact .inl (by rfl) | exact .inr (by rfl)))) (fun _ _ _ _ _ => sts_nil) (fun _ _ _ _ _ => (sd_callX (C.blk _ _ _ _ _) (ok_row_text E) (by decide) (by rfl) E.g_row_text E.k_row_text (sa_cons (sd_var rfl (by first | exact .inl (by rfl) | exact .inr (.inl (by rfl)) | exact .inr (.inr (by rfl)))) sa_nil))))) sa_nil)))))))
theorem ok_log_text (E : Kn K mg base) : FnX P w K mg base 1 "log_text" ["log"] f_log_text := by
  obtain ⟨fd, F⟩ := E.d_log_text
  refine ⟨fd, fn_of_body (m := m_log_text) 2 F sc_log_text E.sm rfl fun cdv A outer s H E' C => ?_, F.bindsN fun _ _ _ _ _ _ us hl => match us, hl with | [_], _ => rfl⟩
  exact (sb_one (ss_ret (sd_if (st_ne0 C (sd_var rfl (by first | exact .inl (by rfl) | exact .inr (.inl (by rfl)) | exact .inr (.inr (by rfl)))) (sd_tup sa_nil)) (sd_join sd_str (sd_nw (sn_cmp [("index", 1)] C (si_seq (sd_var rfl (by first | exact .inl (by rfl) | exact .inr (.inl (by rfl)) | exact .inr (.inr (by rfl))))) (blkOk_by (by kernel_rfl)) (fun _ _ _ _ _ => (sgw_name (by decide) (C.blk _ _ _ _ _) rfl (by first | exact .inl (by rfl) | exact .inr (by rfl)))) (fun _ _ _ _ _ => sts_nil) (fun _ _ _ _ _ => (sd_callT call_str_int ok_str (by rfl) (E.g_str) tb_str (sa_cons (sd_var rfl (by first | exact .inl (by rfl) | exact .inr (.inl (by rfl)) | exact .inr (.inr (by rfl)))) sa_nil)))))) sd_str)))
theorem ok_is_integer (E : Kn K mg base) : FnX P w K mg base 1 "is_integer" ["value", "low", "high"] K02.f_is_integer := by
  obtain ⟨fd, F⟩ := E.d_is_integer
  refine ⟨fd, fn_of_body (m := K02.m_is_integer) 3 F sc_is_integer E.sm rfl fun cdv A outer s H E' C => ?_, F.bindsN fun _ _ _ _ _ _ us hl => match us, hl with | [_, _, _], _ => rfl⟩
  exact (sb_one (ss_ret (sd_and (sd_is .int (sd_var rfl (by first | exact .inl (by rfl) | exact .inr (.inl (by rfl)) | exact .inr (.inr (by rfl)))) (by rfl) (E.g_isinstance) tb_isinstance (by rfl) (E.g_int) tb_int) (sd_and (sd_not (sd_is .bool (sd_var rfl (by first | exact .inl (by rfl) | exact .inr (.inl (by rfl)) | exact .inr (.inr (by rfl)))) (by rfl) (E.g_isinstance) tb_isinstance (by rfl) (E.g_bool) tb_bool)) (sd_one (sd_chn op_le op_le ok_le ok_le (sd_var rfl (by first | exact .inl (by rfl) | exact .inr (.inl (by rfl)) | exact .inr (.inr (by rfl)))) (sd_var rfl (by first | exact .inl (by rfl) | exact .inr (.inl (by rfl)) | exact .inr (.inr (by rfl)))) (sd_var rfl (by first | exact .inl (by rfl) | exact .inr (.inl (by rfl)) | exact .inr (.inr (by rfl))))))))))
theorem ok_are_integers (E : Kn K mg base) : FnX P w K mg base 2 "are_integers" ["value", "many", "low", "high"] K02.f_are_integers := by
  obtain ⟨fd, F⟩ := E.d_are_integers
  refine ⟨fd, fn_of_body (m := K02.m_are_integers) 5 F sc_are_integers E.sm rfl fun cdv A outer s H E' C => ?_, F.bindsN fun _ _ _ _ _ _ us hl => match us, hl with | [_, _, _, _], _ => rfl⟩
  exact (sb_cons (ss_if (SdW.st (sw_or (st_not (st_val (sd_is .tuple (sd_var rfl (by first | exact .inl (by rfl) | exact .inr (.inl (by rfl)) | exact .inr (.inr (by rfl)))) (by rfl) (E.g_isinstance) tb_isinstance (by rfl) (E.g_tuple) tb_tuple))) (sw_or1 (st_ne C (sd_callB call_lenA ok_len (by rfl) (E.g_len) tb_len (sa_cons (sd_var rfl (by first | exact .inl (by rfl) | exact .inr (.inl (by rfl)) | exact .inr (.inr (by rfl)))) sa_nil)) (sd_var rfl (by first | exact .inl (by rfl) | exact .inr (.inl (by rfl)) | exact .inr (.inr (by rfl))))))))
(sb_one (ss_ret sd_bool))
sb_nil)
(sb_one (ss_ret (sd_callB (cr_all C.calm) ok_all (by rfl) (E.g_all) tb_all (sa_cons (sd_nw (sn_cmp [("item", 4)] C (si_seq (sd_var rfl (by first | exact .inl (by rfl) | exact .inr (.inl (by rfl)) | exact .inr (.inr (by rfl))))) (blkOk_by (by kernel_rfl)) (fun _ _ _ _ _ => (sgw_name (by decide) (C.blk _ _ _ _ _) rfl (by first | exact .inl (by rfl) | exact .inr (by rfl)))) (fun _ _ _ _ _ => sts_nil) (fun _ _ _ _ _ => (sd_callX (C.blk _ _ _ _ _) (ok_is_integer E) (by decide) (by rfl) E.g_is_integer E.k_is_integer (sa_cons (sd_var rfl (by first | exact .inl (by rfl) | exact .inr (.inl (by rfl)) | exact .inr (.inr (by rfl)))) (sa_cons (sd_var rfl (by first | exact .inl (by rfl) | exact .inr (.inl (by rfl)) | exact .inr (.inr (by rfl)))) (sa_cons (sd_var rfl (by first | exact .inl (by rfl) | exact .inr (.inl (by rfl)) | exact .inr (.inr (by rfl)))) sa_nil))))))) sa_nil)))))
theorem ok_kind_word (E : Kn K mg base) : FnX P w K mg base 3 "kind_word" ["states", "value"] K02.f_kind_word := by
  obtain ⟨fd, F⟩ := E.d_kind_word
  refine ⟨fd, fn_of_body (m := K02.m_kind_word) 2 F sc_kind_word E.sm rfl fun cdv A outer s H E' C => ?_, F.bindsN fun _ _ _ _ _ _ us hl => match us, hl with | [_, _], _ => rfl⟩
  exact (sb_cons (ss_if (SdW.st (sw_or (st_not (st_val (sd_is .tuple (sd_var rfl (by first | exact .inl (by rfl) | exact .inr (.inl (by rfl)) | exact .inr (.inr (by rfl)))) (by rfl) (E.g_isinstance) tb_isinstance (by rfl) (E.g_tuple) tb_tuple))) (sw_or1 (st_ne C (sd_callB call_lenA ok_len (by rfl) (E.g_len) tb_len (sa_cons (sd_var rfl (by first | exact .inl (by rfl) | exact .inr (.inl (by rfl)) | exact .inr (.inr (by rfl)))) sa_nil)) sd_int))))
(sb_one (ss_ret sd_str))
sb_nil)
(sb_cons (ss_if (st_not (st_val (sd_callX C (ok_is_integer E) (by decide) (by rfl) E.g_is_integer E.k_is_integer (sa_cons (sd_ix (sd_var rfl (by first | exact .inl (by rfl) | exact .inr (.inl (by rfl)) | exact .inr (.inr (by rfl)))) sd_int fun _ _ => rfl) (sa_cons sd_int (sa_cons sd_int sa_nil))))))
(sb_one (ss_ret sd_str))
sb_nil)
(sb_one (ss_ret (sd_if (st_val (sd_callX C (ok_are_integers E) (by decide) (by rfl) E.g_are_integers E.k_are_integers (sa_cons (sd_ix (sd_var rfl (by first | exact .inl (by rfl) | exact .inr (.inl (by rfl)) | exact .inr (.inr (by rfl)))) sd_int fun _ _ => rfl) (sa_cons (sd_var rfl (by first | exact .inl (by rfl) | exact .inr (.inl (by rfl)) | exact .inr (.inr (by rfl)))) (sa_cons sd_int (sa_cons (sd_sub (sd_var rfl (by first | exact .inl (by rfl) | exact .inr (.inl (by rfl)) | exact .inr (.inr (by rfl)))) sd_int) sa_nil)))))) sd_none sd_str)))))
theorem ok_are_labels (E : Kn K mg base) : FnX P w K mg base 3 "are_labels" ["value"] K02.f_are_labels := by
  obtain ⟨fd, F⟩ := E.d_are_labels
  refine ⟨fd, fn_of_body (m := K02.m_are_labels) 1 F sc_are_labels E.sm rfl fun cdv A outer s H E' C => ?_, F.bindsN fun _ _ _ _ _ _ us hl => match us, hl with | [_], _ => rfl⟩
  exact (sb_cons (ss_if (SdW.st (sw_or (st_not (st_val (sd_is .tuple (sd_var rfl (by first | exact .inl (by rfl) | exact .inr (.inl (by rfl)) | exact .inr (.inr (by rfl)))) (by rfl) (E.g_isinstance) tb_isinstance (by rfl) (E.g_tuple) tb_tuple))) (sw_or1 (st_not (st_chn op_le op_le ok_le ok_le sd_int (sd_callB call_lenA ok_len (by rfl) (E.g_len) tb_len (sa_cons (sd_var rfl (by first | exact .inl (by rfl) | exact .inr (.inl (by rfl)) | exact .inr (.inr (by rfl)))) sa_nil)) (sd_glob (by rfl) E.c_MAX_STATES))))))
(sb_one (ss_ret sd_bool))
sb_nil)
(sb_one (ss_ret (sd_callX C (ok_are_integers E) (by decide) (by rfl) E.g_are_integers E.k_are_integers (sa_cons (sd_var rfl (by first | exact .inl (by rfl) | exact .inr (.inl (by rfl)) | exact .inr (.inr (by rfl)))) (sa_cons (sd_callB call_lenA ok_len (by rfl) (E.g_len) tb_len (sa_cons (sd_var rfl (by first | exact .inl (by rfl) | exact .inr (.inl (by rfl)) | exact .inr (.inr (by rfl)))) sa_nil)) (sa_cons sd_int (sa_cons (sd_sub (sd_callB call_lenA ok_len (by rfl) (E.g_len) tb_len (sa_cons (sd_var rfl (by first | exact .inl (by rfl) | exact .inr (.inl (by rfl)) | exact .inr (.inr (by rfl)))) sa_nil)) sd_int) sa_nil))))))))
theorem ok_handler_error (E : Kn K mg base) : FnX P w K mg base 4 "handler_error" ["value"] K02.f_handler_error := by
  obtain ⟨fd, F⟩ := E.d_handler_error
  refine ⟨fd, fn_of_body (m := K02.m_handler_error) 6 F sc_handler_error E.sm rfl fun cdv A outer s H E' C => ?_, F.bindsN fun _ _ _ _ _ _ us hl => match us, hl with | [_], _ => rfl⟩
  exact (sb_cons (ss_if (SdW.st (sw_or (st_not (st_val (sd_is .tuple (sd_var rfl (by first | exact .inl (by rfl) | exact .inr (.inl (by rfl)) | exact .inr (.inr (by rfl)))) (by rfl) (E.g_isinstance) tb_isinstance (by rfl) (E.g_tuple) tb_tuple))) (sw_or1 (st_ne C (sd_callB call_lenA ok_len (by rfl) (E.g_len) tb_len (sa_cons (sd_var rfl (by first | exact .inl (by rfl) | exact .inr (.inl (by rfl)) | exact .inr (.inr (by rfl)))) sa_nil)) sd_int))))
(sb_one (ss_ret (sd_tup (sa_cons sd_none (sa_cons sd_str sa_nil)))))
sb_nil)
(sb_cons (ss_tg (sd_var rfl (by first | exact .inl (by rfl) | exact .inr (.inl (by rfl)) | exact .inr (.inr (by rfl)))) (sg_tup C (sgs_cons (sg_name C rfl (by first | exact .inl (by rfl) | exact .inr (by rfl))) (sgs_cons (sg_name C rfl (by first | exact .inl (by rfl) | exact .inr (by rfl))) sgs_nil))))
(sb_cons (ss_if (st_not (st_val (sd_callX C (ok_are_labels E) (by decide) (by rfl) E.g_are_labels E.k_are_labels (sa_cons (sd_var rfl (by first | exact .inl (by rfl) | exact .inr (.inl (by rfl)) | exact .inr (.inr (by rfl)))) sa_nil))))
(sb_one (ss_ret (sd_tup (sa_cons sd_none (sa_cons sd_str sa_nil)))))
sb_nil)
(sb_cons (ss_if (SdW.st (sw_or (st_not (st_val (sd_is .tuple (sd_var rfl (by first | exact .inl (by rfl) | exact .inr (.inl (by rfl)) | exact .inr (.inr (by rfl)))) (by rfl) (E.g_isinstance) tb_isinstance (by rfl) (E.g_tuple) tb_tuple))) (sw_or1 (st_not (st_chn op_le op_le ok_le ok_le sd_int (sd_callB call_lenA ok_len (by rfl) (E.g_len) tb_len (sa_cons (sd_var rfl (by first | exact .inl (by rfl) | exact .inr (.inl (by rfl)) | exact .inr (.inr (by rfl)))) sa_nil)) (sd_glob (by rfl) E.c_MAX_KINDS))))))
(sb_one (ss_ret (sd_tup (sa_cons sd_none (sa_cons sd_str sa_nil)))))
sb_nil)
(sb_cons (ss_for C (fun _ _ h => False.elim h) (si_en (by rfl) (E.g_enumerate) (sd_var rfl (by first | exact .inl (by rfl) | exact .inr (.inl (by rfl)) | exact .inr (.inr (by rfl))))) (sg_tup C (sgs_cons (sg_name C rfl (by first | exact .inl (by rfl) | exact .inr (by rfl))) (sgs_cons (sg_name C rfl (by first | exact .inl (by rfl) | exact .inr (by rfl))) sgs_nil)))
(sb_cons (ss_asg C (sd_callX C (ok_kind_word E) (by decide) (by rfl) E.g_kind_word E.k_kind_word (sa_cons (sd_callB call_lenA ok_len (by rfl) (E.g_len) tb_len (sa_cons (sd_var rfl (by first | exact .inl (by rfl) | exact .inr (.inl (by rfl)) | exact .inr (.inr (by rfl)))) sa_nil)) (sa_cons (sd_var rfl (by first | exact .inl (by rfl) | exact .inr (.inl (by rfl)) | exact .inr (.inr (by rfl)))) sa_nil))) rfl (by first | exact .inl (by rfl) | exact .inr (by rfl)))
(sb_one (ss_if (st_notN (sd_var rfl (by first | exact .inl (by rfl) | exact .inr (.inl (by rfl)) | exact .inr (.inr (by rfl)))) sd_none)
(sb_one (ss_ret (sd_tup (sa_cons (sd_var rfl (by first | exact .inl (by rfl) | exact .inr (.inl (by rfl)) | exact .inr (.inr (by rfl)))) (sa_cons (sd_var rfl (by first | exact .inl (by rfl) | exact .inr (.inl (by rfl)) | exact .inr (.inr (by rfl)))) sa_nil)))))
sb_nil))))
(sb_one (ss_ret sd_none)))))))
theorem ok_number_in (E : Kn K mg base) : FnX P w K mg base 1 "number_in" ["text"] K13.f_number_in := by
  obtain ⟨fd, F⟩ := E.d_number_in
  refine ⟨fd, fn_of_body (m := K13.m_number_in) 2 F sc_number_in E.sm rfl fun cdv A outer s H E' C => ?_, F.bindsN fun _ _ _ _ _ _ us hl => match us, hl with | [_], _ => rfl⟩
  exact (sb_cons (ss_if (SdW.st (sw_or (st_not (st_chn op_le op_le ok_le ok_le sd_int (sd_callB call_lenA ok_len (by rfl) (E.g_len) tb_len (sa_cons (sd_var rfl (by first | exact .inl (by rfl) | exact .inr (.inl (by rfl)) | exact .inr (.inr (by rfl)))) sa_nil)) (sd_glob (by rfl) E.c_LONGEST))) (sw_or1 (st_not (st_val (sd_callB (cr_all C.calm) ok_all (by rfl) (E.g_all) tb_all (sa_cons (sd_nw (sn_cmp [("sign", 1)] C (si_txt (sd_var rfl (by first | exact .inl (by rfl) | exact .inr (.inl (by rfl)) | exact .inr (.inr (by rfl))))) (blkOk_by (by kernel_rfl)) (fun _ _ _ _ _ => (sgw_name (by decide) (C.blk _ _ _ _ _) rfl (by first | exact .inl (by rfl) | exact .inr (by rfl)))) (fun _ _ _ _ _ => sts_nil) (fun _ _ _ _ _ => (sd_inTx (sd_var rfl (by first | exact .inl (by rfl) | exact .inr (.inl (by rfl)) | exact .inr (.inr (by rfl)))) (sd_globS (by rfl) E.c_DIGITS))))) sa_nil)))))))
(sb_one (ss_ret sd_none))
sb_nil)
(sb_one (ss_ret (sd_if (SdW.st (sw_and (st_eq C (sd_ix (sd_var rfl (by first | exact .inl (by rfl) | exact .inr (.inl (by rfl)) | exact .inr (.inr (by rfl)))) sd_int fun _ _ => rfl) sd_str) (sw_and1 (st_ne C (sd_var rfl (by first | exact .inl (by rfl) | exact .inr (.inl (by rfl)) | exact .inr (.inr (by rfl)))) sd_str)))) sd_none (sd_callT call_int_str ok_intTx (by rfl) (E.g_int) tb_int (sa_cons (sd_var rfl (by first | exact .inl (by rfl) | exact .inr (.inl (by rfl)) | exact .inr (.inr (by rfl)))) sa_nil))))))
theorem ok_row_in (E : Kn K mg base) : FnX P w K mg base 2 "row_in" ["text"] K13.f_row_in := by
  obtain ⟨fd, F⟩ := E.d_row_in
  refine ⟨fd, fn_of_body (m := K13.m_row_in) 3 F sc_row_in E.sm rfl fun cdv A outer s H E' C => ?_, F.bindsN fun _ _ _ _ _ _ us hl => match us, hl with | [_], _ => rfl⟩
  exact (sb_cons (ss_cmpD [("part", 2)] C rfl (by rfl) (sw_cmp (by rfl) (by rfl) rfl (by rfl)) (si_seq (sd_nw (sn_split (sd_var rfl (by first | exact .inl (by rfl) | exact .inr (.inl (by rfl)) | exact .inr (.inr (by rfl)))) sd_str))) (blkOk_by (by kernel_rfl)) (fun _ _ _ _ _ => (sgw_name (by decide) (C.blk _ _ _ _ _) rfl (by first | exact .inl (by rfl) | exact .inr (by rfl)))) (fun _ _ _ _ _ => sts_nil) (fun _ _ _ _ _ => (sd_callX (C.blk _ _ _ _ _) (ok_number_in E) (by decide) (by rfl) E.g_number_in E.k_number_in (sa_cons (sd_var rfl (by first | exact .inl (by rfl) | exact .inr (.inl (by rfl)) | exact .inr (.inr (by rfl)))) sa_nil))))
(sb_one (ss_ret (sd_if (st_in sd_none (sd_var rfl (by first | exact .inl (by rfl) | exact .inr (.inl (by rfl)) | exact .inr (.inr (by rfl))))) sd_none (sd_callT call_tuple_of ok_tuple (by rfl) (E.g_tuple) tb_tuple (sa_cons (sd_var rfl (by first | exact .inl (by rfl) | exact .inr (.inl (by rfl)) | exact .inr (.inr (by rfl)))) sa_nil))))))
theorem ok_kind_in (E : Kn K mg base) : FnX P w K mg base 3 "kind_in" ["text"] K13.f_kind_in := by
  obtain ⟨fd, F⟩ := E.d_kind_in
  refine ⟨fd, fn_of_body (m := K13.m_kind_in) 4 F sc_kind_in E.sm rfl fun cdv A outer s H E' C => ?_, F.bindsN fun _ _ _ _ _ _ us hl => match us, hl with | [_], _ => rfl⟩
  exact (sb_cons (ss_asg C (sd_nw (sn_split (sd_var rfl (by first | exact .inl (by rfl) | exact .inr (.inl (by rfl)) | exact .inr (.inr (by rfl)))) sd_str)) rfl (by first | exact .inl (by rfl) | exact .inr (by rfl)))
(sb_cons (ss_if (st_ne C (sd_callB call_lenA ok_len (by rfl) (E.g_len) tb_len (sa_cons (sd_var rfl (by first | exact .inl (by rfl) | exact .inr (.inl (by rfl)) | exact .inr (.inr (by rfl)))) sa_nil)) sd_int)
(sb_one (ss_ret sd_none))
sb_nil)
(sb_cons (ss_par C rfl rfl (by decide) (sa_cons (sd_callX C (ok_number_in E) (by decide) (by rfl) E.g_number_in E.k_number_in (sa_cons (sd_ix (sd_var rfl (by first | exact .inl (by rfl) | exact .inr (.inl (by rfl)) | exact .inr (.inr (by rfl)))) sd_int fun _ _ => rfl) sa_nil)) (sa_cons (sd_callX C (ok_row_in E) (by decide) (by rfl) E.g_row_in E.k_row_in (sa_cons (sd_ix (sd_var rfl (by first | exact .inl (by rfl) | exact .inr (.inl (by rfl)) | exact .inr (.inr (by rfl)))) sd_int fun _ _ => rfl) sa_nil)) sa_nil)) fun ta h => ps_par C.calm C.nd rfl rfl (by decide) (by rfl) (by rfl) h rfl)
(sb_one (ss_ret (sd_if (SdW.st (sw_or (st_isN (sd_var rfl (by first | exact .inl (by rfl) | exact .inr (.inl (by rfl)) | exact .inr (.inr (by rfl)))) sd_none) (sw_or1 (st_isN (sd_var rfl (by first | exact .inl (by rfl) | exact .inr (.inl (by rfl)) | exact .inr (.inr (by rfl)))) sd_none)))) sd_none (sd_tup (sa_cons (sd_var rfl (by first | exact .inl (by rfl) | exact .inr (.inl (by rfl)) | exact .inr (.inr (by rfl)))) (sa_cons (sd_var rfl (by first | exact .inl (by rfl) | exact .inr (.inl (by rfl)) | exact .inr (.inr (by rfl)))) sa_nil)))))))))
theorem ok_parse_handler (E : Kn K mg base) : FnX P w K mg base 5 "parse_handler" ["value"] f_parse_handler := by
  obtain ⟨fd, F⟩ := E.d_parse_handler
  refine ⟨fd, fn_of_body (m := m_parse_handler) 8 F sc_parse_handler E.sm rfl fun cdv A outer s H E' C => ?_, F.bindsN fun _ _ _ _ _ _ us hl => match us, hl with | [_], _ => rfl⟩
  exact (sb_cons (ss_if (st_not (st_val (sd_is .str (sd_var rfl (by first | exact .inl (by rfl) | exact .inr (.inl (by rfl)) | exact .inr (.inr (by rfl)))) (by rfl) (E.g_isinstance) tb_isinstance (by rfl) (E.g_str) tb_str)))
(sb_one ss_never)
sb_nil)
(sb_cons (ss_asg C (sd_nw (sn_split (sd_var rfl (by first | exact .inl (by rfl) | exact .inr (.inl (by rfl)) | exact .inr (.inr (by rfl)))) sd_str)) rfl (by first | exact .inl (by rfl) | exact .inr (by rfl)))
(sb_cons (ss_parP3 (sp_dat (sd_callX C (ok_row_in E) (by decide) (by rfl) E.g_row_in E.k_row_in (sa_cons (sd_ix (sd_var rfl (by first | exact .inl (by rfl) | exact .inr (.inl (by rfl)) | exact .inr (.inr (by rfl)))) sd_int fun _ _ => rfl) sa_nil)) (sp_own (sn_lst sa_nil) (sp_dat sd_int sp_nil))) fun ta h => ps_par3 C.calm C.nd rfl rfl rfl (by decide) (by decide) (by decide) (by rfl) (by rfl) (by rfl) h rfl)
(sb_cons (ss_if (st_isN (sd_var rfl (by first | exact .inl (by rfl) | exact .inr (.inl (by rfl)) | exact .inr (.inr (by rfl)))) sd_none)
(sb_one ss_never)
sb_nil)
(sb_cons (ss_while wFuel (fun _ _ h => False.elim h) (SdW.st (sw_or (st_lt (sd_var rfl (by first | exact .inl (by rfl) | exact .inr (.inl (by rfl)) | exact .inr (.inr (by rfl)))) (sd_callB call_lenA ok_len (by rfl) (E.g_len) tb_len (sa_cons (sd_var rfl (by first | exact .inl (by rfl) | exact .inr (.inl (by rfl)) | exact .inr (.inr (by rfl)))) sa_nil))) (sw_or1 (st_eq0 C (sd_var rfl (by first | exact .inl (by rfl) | exact .inr (.inl (by rfl)) | exact .inr (.inr (by rfl)))) (sd_nw (sn_lst sa_nil))))))
(sb_cons (ss_if (SdW.st (sw_or (st_ge (sd_var rfl (by first | exact .inl (by rfl) | exact .inr (.inl (by rfl)) | exact .inr (.inr (by rfl)))) (sd_callB call_lenA ok_len (by rfl) (E.g_len) tb_len (sa_cons (sd_var rfl (by first | exact .inl (by rfl) | exact .inr (.inl (by rfl)) | exact .inr (.inr (by rfl)))) sa_nil))) (sw_or1 (st_ne C (sd_ix (sd_var rfl (by first | exact .inl (by rfl) | exact .inr (.inl (by rfl)) | exact .inr (.inr (by rfl)))) (sd_var rfl (by first | exact .inl (by rfl) | exact .inr (.inl (by rfl)) | exact .inr (.inr (by rfl)))) fun _ _ => rfl) sd_str))))
(sb_one ss_never)
sb_nil)
(sb_cons (ss_asg C (sd_if (st_lt (sd_add (sd_var rfl (by first | exact .inl (by rfl) | exact .inr (.inl (by rfl)) | exact .inr (.inr (by rfl)))) sd_int) (sd_callB call_lenA ok_len (by rfl) (E.g_len) tb_len (sa_cons (sd_var rfl (by first | exact .inl (by rfl) | exact .inr (.inl (by rfl)) | exact .inr (.inr (by rfl)))) sa_nil))) (sd_callX C (ok_kind_in E) (by decide) (by rfl) E.g_kind_in E.k_kind_in (sa_cons (sd_ix (sd_var rfl (by first | exact .inl (by rfl) | exact .inr (.inl (by rfl)) | exact .inr (.inr (by rfl)))) (sd_add (sd_var rfl (by first | exact .inl (by rfl) | exact .inr (.inl (by rfl)) | exact .inr (.inr (by rfl)))) sd_int) fun _ _ => rfl) sa_nil)) sd_none) rfl (by first | exact .inl (by rfl) | exact .inr (by rfl)))
(sb_cons (ss_if (st_isN (sd_var rfl (by first | exact .inl (by rfl) | exact .inr (.inl (by rfl)) | exact .inr (.inr (by rfl)))) sd_none)
(sb_one ss_never)
sb_nil)
(sb_cons (ss_app (sd_var rfl (by first | exact .inl (by rfl) | exact .inr (.inl (by rfl)) | exact .inr (.inr (by rfl)))) rfl (by first | exact .inl (by rfl) | exact .inr (.inl (by rfl)) | exact .inr (.inr (by rfl))))
(sb_one (ss_asg C (sd_add (sd_var rfl (by first | exact .inl (by rfl) | exact .inr (.inl (by rfl)) | exact .inr (.inr (by rfl)))) sd_int) rfl (by first | exact .inl (by rfl) | exact .inr (by rfl)))))))))
(sb_cons (ss_asg C (sd_tup (sa_cons (sd_var rfl (by first | exact .inl (by rfl) | exact .inr (.inl (by rfl)) | exact .inr (.inr (by rfl)))) (sa_cons (sd_callT call_tuple_of ok_tuple (by rfl) (E.g_tuple) tb_tuple (sa_cons (sd_var rfl (by first | exact .inl (by rfl) | exact .inr (.inl (by rfl)) | exact .inr (.inr (by rfl)))) sa_nil)) sa_nil))) rfl (by first | exact .inl (by rfl) | exact .inr (by rfl)))
(sb_cons (ss_asg C (sd_callX C (ok_handler_error E) (by decide) (by rfl) E.g_handler_error E.k_handler_error (sa_cons (sd_var rfl (by first | exact .inl (by rfl) | exact .inr (.inl (by rfl)) | exact .inr (.inr (by rfl)))) sa_nil)) rfl (by first | exact .inl (by rfl) | exact .inr (by rfl)))
(sb_cons (ss_if (st_notN (sd_var rfl (by first | exact .inl (by rfl) | exact .inr (.inl (by rfl)) | exact .inr (.inr (by rfl)))) sd_none)
(sb_one ss_never)
sb_nil)
(sb_one (ss_ret (sd_var rfl (by first | exact .inl (by rfl) | exact .inr (.inl (by rfl)) | exact .inr (.inr (by rfl))))))))))))))
theorem ok_law_opened (E : Kn K mg base) : ∃ fd, Fn P w K mg base 1 (He.fAd K ("_law_opened", none)) fd ["_law_script"] (spOpen K) ∧ Binds K fd ["_law_script"] [] := by
  obtain ⟨fd, F⟩ := E.d__law_opened
  refine ⟨fd, fn_mk F sc_law_opened (fun vs H Q E h => ?_) (fun cdv A outer s H vs Q E' hr hgd h => ?_), F.bindsN fun _ _ _ _ _ _ us hl => match us, hl with | [_], _ => rfl⟩
  · obtain ⟨a, ns, rfl, _⟩ := h
    rfl
  · have C : Cok (cxN P w K mg base ["_law_script", "_law_cells", "_law_small", "_law_great", "_law_cell"] "_law_opened" (defScope s_law_opened) _ cdv A outer s H E') 0 := ⟨rfl, sc_law_opened.nd, hr, hgd, E.sm⟩
    obtain ⟨t, pt, ht⟩ : ∃ t, PSs (cxN P w K mg base ["_law_script", "_law_cells", "_law_small", "_law_great", "_law_cell"] "_law_opened" (defScope s_law_opened) (He.fAd K ("_law_opened", none)) cdv A outer s H E') (defBody s_law_opened) t ∧ ∀ vs H Q E, spOpen K vs H Q E → t { nx := fun _ H' => Q .non H', rt := Q } (start ["_law_script", "_law_cells", "_law_small", "_law_great", "_law_cell"] vs) H := open_ok
      (ps_setLc C.calm C.nd rfl (by rfl) (sw_true (by rfl) (by rfl) rfl (by rfl)) (pi_sq (pe_slice sl_list (pe_var rfl (by first | exact .inl (by rfl) | exact .inr (.inl (by rfl)) | exact .inr (.inr (by rfl)))) po_none (po_some pe_int))) (blkOk_by (own := [("_law_cell", 4)]) (by kernel_rfl)) (fun _ _ _ _ _ => (sgw_name (by decide) (C.blk _ _ _ _ _) rfl (by first | exact .inl (by rfl) | exact .inr (by rfl))).pg) (fun _ _ _ _ _ => sts_nil.pts) (fun _ _ _ _ _ => (sd_callB call_abs ok_abs (by rfl) E.g_abs tb_abs (sa_cons (sd_var rfl (by first | exact .inl (by rfl) | exact .inr (.inl (by rfl)) | exact .inr (.inr (by rfl)))) sa_nil)).pe))
      (ss_cmp [("_law_cell", 4)] C rfl (by rfl) (sw_true (by rfl) (by rfl) rfl (by rfl)) (si_seq (sd_var rfl (by first | exact .inl (by rfl) | exact .inr (.inl (by rfl)) | exact .inr (.inr (by rfl))))) (blkOk_by (by kernel_rfl)) (fun _ _ _ _ _ => sgw_name (by decide) (C.blk _ _ _ _ _) rfl (by first | exact .inl (by rfl) | exact .inr (by rfl))) (fun _ _ _ _ _ => sts_one (st_lt (sd_var rfl (by first | exact .inl (by rfl) | exact .inr (.inl (by rfl)) | exact .inr (.inr (by rfl)))) (sd_pow sd_int sd_int))) (fun _ _ _ _ _ => sd_var rfl (by first | exact .inl (by rfl) | exact .inr (.inl (by rfl)) | exact .inr (.inr (by rfl))))) (ss_cmp [("_law_cell", 4)] C rfl (by rfl) (sw_true (by rfl) (by rfl) rfl (by rfl)) (si_seq (sd_var rfl (by first | exact .inl (by rfl) | exact .inr (.inl (by rfl)) | exact .inr (.inr (by rfl))))) (blkOk_by (by kernel_rfl)) (fun _ _ _ _ _ => sgw_name (by decide) (C.blk _ _ _ _ _) rfl (by first | exact .inl (by rfl) | exact .inr (by rfl))) (fun _ _ _ _ _ => sts_one (st_ge (sd_var rfl (by first | exact .inl (by rfl) | exact .inr (.inl (by rfl)) | exact .inr (.inr (by rfl)))) (sd_pow sd_int sd_int))) (fun _ _ _ _ _ => sd_var rfl (by first | exact .inl (by rfl) | exact .inr (.inl (by rfl)) | exact .inr (.inr (by rfl)))))
      (sd_add (sd_var rfl (by first | exact .inl (by rfl) | exact .inr (.inl (by rfl)) | exact .inr (.inr (by rfl)))) (sd_mul (sd_nw (sn_lst (sa_cons sd_int sa_nil))) (sd_callT call_int1 ok_int (by rfl) E.g_int tb_int (sa_cons (sd_eq C (sd_var rfl (by first | exact .inl (by rfl) | exact .inr (.inl (by rfl)) | exact .inr (.inr (by rfl)))) (sd_nw (sn_lst sa_nil))) sa_nil))))
      (fun te h => ps_ret (pe_disp (pps_cons pe_str (pe_var rfl (by first | exact .inl (by rfl) | exact .inr (.inl (by rfl)) | exact .inr (.inr (by rfl)))) (pps_cons pe_str h (pps_cons pe_str pe_int pps_nil))) rfl rfl (by simp) (show 3 ≤ 15 by decide)))
    exact ⟨t, pt, ht vs H Q (fun _ _ _ => False) h⟩
theorem ok_law_draw (E : Kn K mg base) : FnX P w K mg base 1 "_law_draw" ["_law_box", "_law_many"] drawF := by
  obtain ⟨fd, F⟩ := E.d__law_draw
  refine ⟨fd, fn_mk F sc_law_draw (fun vs H Q E h => ?_) (fun cdv A outer s H vs Q E' hr hgd h => ⟨tDraw K, ?_, draw_ok h⟩), F.bindsN fun _ _ _ _ _ _ us hl => match us, hl with | [_, _], _ => rfl⟩
  · obtain ⟨G, as, b, h1, h2, _⟩ := h
    rw [h2.length, h1]
  · have C : Cok (cxN P w K mg base ["_law_box", "_law_many", "_law_great", "_law_digit", "_law_cell", "_law_mixed"] "_law_draw" (defScope s_law_draw) _ cdv A outer s H E') 0 := ⟨rfl, sc_law_draw.nd, hr, hgd, E.sm⟩
    refine pss_cons (ps_set C.nd rfl (by first | exact .inl (by rfl) | exact .inr (by rfl)) (pe_dget (room1 C.room) (pe_var rfl (by first | exact .inl (by rfl) | exact .inr (.inl (by rfl)) | exact .inr (.inr (by rfl)))) pe_str fun _ _ => rfl)) (pss_cons (ps_while (fun _ _ h => False.elim h) (pt_cmpR (op_neD C.room.units) (pe_var rfl (by first | exact .inl (by rfl) | exact .inr (.inl (by rfl)) | exact .inr (.inr (by rfl)))) (pe_lst pa_nil) (nomark _)) (pss_cons ?a ?b)) (pss_cons ?c ?d))
    case a => exact ps_if (pt_cmpR op_gt (pe_ix ix_seq (pe_var rfl (by first | exact .inl (by rfl) | exact .inr (.inl (by rfl)) | exact .inr (.inr (by rfl)))) (pe_un un_neg pe_int) fun _ _ => rfl) pe_int (nomark _)) (pss_cons (ps_set C.nd rfl (by first | exact .inl (by rfl) | exact .inr (by rfl)) (pe_op op_modN (pe_callTy call_int1 (by rfl) E.g_int tb_int (pa_cons (pe_ix ix_seq (pe_var rfl (by first | exact .inl (by rfl) | exact .inr (.inl (by rfl)) | exact .inr (.inr (by rfl)))) (pe_un un_neg pe_int) fun _ _ => rfl) pa_nil)) (pe_var rfl (by first | exact .inl (by rfl) | exact .inr (.inl (by rfl)) | exact .inr (.inr (by rfl))))))
       (pss_cons (ps_asg (pe_op op_fdivN (pe_callTy call_int1 (by rfl) E.g_int tb_int (pa_cons (pe_ix ix_seq (pe_var rfl (by first | exact .inl (by rfl) | exact .inr (.inl (by rfl)) | exact .inr (.inr (by rfl)))) (pe_un un_neg pe_int) fun _ _ => rfl) pa_nil)) (pe_var rfl (by first | exact .inl (by rfl) | exact .inr (.inl (by rfl)) | exact .inr (.inr (by rfl))))) (pg_sub (pe_var rfl (by first | exact .inl (by rfl) | exact .inr (.inl (by rfl)) | exact .inr (.inr (by rfl)))) (pe_un un_neg pe_int) set_list)) (pss_one (ps_ret (pe_var rfl (by first | exact .inl (by rfl) | exact .inr (.inl (by rfl)) | exact .inr (.inr (by rfl)))))))) pss_nil
    case b => exact (pss_one (ps_expr (pe_bm0 PySem.F.plainAttrs_list PySem.F.slot_list_pop PySem.F.type_list_pop mt_pop (pe_var rfl (by first | exact .inl (by rfl) | exact .inr (.inl (by rfl)) | exact .inr (.inr (by rfl)))) rfl rfl)))
    case c => exact (ps_dput (room1 C.room) (pe_var rfl (by first | exact .inl (by rfl) | exact .inr (.inl (by rfl)) | exact .inr (.inr (by rfl)))) pe_str (pe_op op_add (pe_dget (room1 C.room) (pe_var rfl (by first | exact .inl (by rfl) | exact .inr (.inl (by rfl)) | exact .inr (.inr (by rfl)))) pe_str fun _ _ => rfl) pe_int) rfl)
    refine (pss_cons (ps_set C.nd rfl (by first | exact .inl (by rfl) | exact .inr (by rfl)) (pe_ix ix_seq (pe_dget (room1 C.room) (pe_var rfl (by first | exact .inl (by rfl) | exact .inr (.inl (by rfl)) | exact .inr (.inr (by rfl)))) pe_str fun _ _ => rfl) (pe_op op_modN (pe_callTy call_int1 (by rfl) E.g_int tb_int (pa_cons (pe_dget (room1 C.room) (pe_var rfl (by first | exact .inl (by rfl) | exact .inr (.inl (by rfl)) | exact .inr (.inr (by rfl)))) pe_str fun _ _ => rfl) pa_nil)) (pe_callB call_len_seq (by rfl) E.g_len tb_len (pa_cons (pe_dget (room1 C.room) (pe_var rfl (by first | exact .inl (by rfl) | exact .inr (.inl (by rfl)) | exact .inr (.inr (by rfl)))) pe_str fun _ _ => rfl) pa_nil))) fun _ _ => rfl)) ?_)
    refine pss_cons (ps_set C.nd rfl (by first | exact .inl (by rfl) | exact .inr (by rfl)) (pe_op op_add (pe_op op_mul (pe_var rfl (by first | exact .inl (by rfl) | exact .inr (.inl (by rfl)) | exact .inr (.inr (by rfl)))) pe_int) (pe_op op_mul (pe_dget (room1 C.room) (pe_var rfl (by first | exact .inl (by rfl) | exact .inr (.inl (by rfl)) | exact .inr (.inr (by rfl)))) pe_str fun _ _ => rfl) pe_int))) ?_
    refine pss_cons (ps_set C.nd rfl (by first | exact .inl (by rfl) | exact .inr (by rfl)) (pe_op op_modN (pe_callTy call_int1 (by rfl) E.g_int tb_int (pa_cons (pe_var rfl (by first | exact .inl (by rfl) | exact .inr (.inl (by rfl)) | exact .inr (.inr (by rfl)))) pa_nil)) pe_int)) ?_
    refine pss_cons (ps_set C.nd rfl (by first | exact .inl (by rfl) | exact .inr (by rfl)) (pe_op op_modN (pe_callTy call_int1 (by rfl) E.g_int tb_int (pa_cons (pe_op op_mul (pe_var rfl (by first | exact .inl (by rfl) | exact .inr (.inl (by rfl)) | exact .inr (.inr (by rfl)))) (pe_op op_add (pe_op op_fdivW (pe_var rfl (by first | exact .inl (by rfl) | exact .inr (.inl (by rfl)) | exact .inr (.inr (by rfl)))) pe_int) pe_int)) pa_nil)) pe_int)) ?_
    exact pss_one (ps_ret (pe_op op_modN (pe_callTy call_int1 (by rfl) E.g_int tb_int (pa_cons (pe_op op_fdivN (pe_var rfl (by first | exact .inl (by rfl) | exact .inr (.inl (by rfl)) | exact .inr (.inr (by rfl)))) pe_int) pa_nil)) (pe_var rfl (by first | exact .inl (by rfl) | exact .inr (.inl (by rfl)) | exact .inr (.inr (by rfl))))))
theorem ok_law_one (E : Kn K mg base) : FnX P w K mg base 2 "_law_one" ["_law_box", "_law_items"] K02.f_law_one := by
  obtain ⟨fd, F⟩ := E.d__law_one
  refine ⟨fd, fn_of_body (m := K02.m_law_one) 2 F sc_law_one E.sm rfl fun cdv A outer s H E' C => ?_, F.bindsN fun _ _ _ _ _ _ us hl => match us, hl with | [_, _], _ => rfl⟩
  exact (sb_one (ss_ret (sd_ix (sd_var rfl (by first | exact .inl (by rfl) | exact .inr (.inl (by rfl)) | exact .inr (.inr (by rfl)))) (sd_callX C (ok_law_draw E) (by decide) (by rfl) E.g__law_draw E.k__law_draw (sa_cons (sd_var rfl (by first | exact .inl (by rfl) | exact .inr (.inl (by rfl)) | exact .inr (.inr (by rfl)))) (sa_cons (sd_callB call_lenA ok_len (by rfl) (E.g_len) tb_len (sa_cons (sd_var rfl (by first | exact .inl (by rfl) | exact .inr (.inl (by rfl)) | exact .inr (.inr (by rfl)))) sa_nil)) sa_nil))) fun _ _ => rfl)))
theorem ok_law_kind (E : Kn K mg base) : FnX P w K mg base 2 "_law_kind" ["_law_box", "_law_states"] K02.f_law_kind := by
  obtain ⟨fd, F⟩ := E.d__law_kind
  refine ⟨fd, fn_of_body (m := K02.m_law_kind) 7 F sc_law_kind E.sm rfl fun cdv A outer s H E' C => ?_, F.bindsN fun _ _ _ _ _ _ us hl => match us, hl with | [_, _], _ => rfl⟩
  exact (sb_cons (ss_tg (sd_tup (sa_cons (sd_callX C (ok_law_draw E) (by decide) (by rfl) E.g__law_draw E.k__law_draw (sa_cons (sd_var rfl (by first | exact .inl (by rfl) | exact .inr (.inl (by rfl)) | exact .inr (.inr (by rfl)))) (sa_cons (sd_var rfl (by first | exact .inl (by rfl) | exact .inr (.inl (by rfl)) | exact .inr (.inr (by rfl)))) sa_nil))) (sa_cons (sd_callX C (ok_law_draw E) (by decide) (by rfl) E.g__law_draw E.k__law_draw (sa_cons (sd_var rfl (by first | exact .inl (by rfl) | exact .inr (.inl (by rfl)) | exact .inr (.inr (by rfl)))) (sa_cons (sd_var rfl (by first | exact .inl (by rfl) | exact .inr (.inl (by rfl)) | exact .inr (.inr (by rfl)))) sa_nil))) (sa_cons (sd_callX C (ok_law_draw E) (by decide) (by rfl) E.g__law_draw E.k__law_draw (sa_cons (sd_var rfl (by first | exact .inl (by rfl) | exact .inr (.inl (by rfl)) | exact .inr (.inr (by rfl)))) (sa_cons sd_int sa_nil))) sa_nil)))) (sg_tup C (sgs_cons (sg_name C rfl (by first | exact .inl (by rfl) | exact .inr (by rfl))) (sgs_cons (sg_name C rfl (by first | exact .inl (by rfl) | exact .inr (by rfl))) (sgs_cons (sg_name C rfl (by first | exact .inl (by rfl) | exact .inr (by rfl))) sgs_nil)))))
(sb_cons (ss_cmpD [("_law_k", 6)] C rfl (by rfl) (sw_cmp (by rfl) (by rfl) rfl (by rfl)) (si_rg1 (by rfl) (E.g_range) (sd_var rfl (by first | exact .inl (by rfl) | exact .inr (.inl (by rfl)) | exact .inr (.inr (by rfl))))) (blkOk_by (by kernel_rfl)) (fun _ _ _ _ _ => (sgw_name (by decide) (C.blk _ _ _ _ _) rfl (by first | exact .inl (by rfl) | exact .inr (by rfl)))) (fun _ _ _ _ _ => sts_nil) (fun _ _ _ _ _ => (sd_callX (C.blk _ _ _ _ _) (ok_law_draw E) (by decide) (by rfl) E.g__law_draw E.k__law_draw (sa_cons (sd_var rfl (by first | exact .inl (by rfl) | exact .inr (.inl (by rfl)) | exact .inr (.inr (by rfl)))) (sa_cons (sd_var rfl (by first | exact .inl (by rfl) | exact .inr (.inl (by rfl)) | exact .inr (.inr (by rfl)))) sa_nil)))))
(sb_cons (ss_if (st_eq C (sd_var rfl (by first | exact .inl (by rfl) | exact .inr (.inl (by rfl)) | exact .inr (.inr (by rfl)))) sd_int)
(sb_one (ss_asg C (sd_mul (sd_nw (sn_lst (sa_cons (sd_var rfl (by first | exact .inl (by rfl) | exact .inr (.inl (by rfl)) | exact .inr (.inr (by rfl)))) sa_nil))) (sd_var rfl (by first | exact .inl (by rfl) | exact .inr (.inl (by rfl)) | exact .inr (.inr (by rfl))))) rfl (by first | exact .inl (by rfl) | exact .inr (by rfl))))
(sb_one (ss_if (st_eq C (sd_var rfl (by first | exact .inl (by rfl) | exact .inr (.inl (by rfl)) | exact .inr (.inr (by rfl)))) sd_int)
(sb_one (ss_cmpD [("_law_k", 6)] C rfl (by rfl) (sw_cmp (by rfl) (by rfl) rfl (by rfl)) (si_rg1 (by rfl) (E.g_range) (sd_var rfl (by first | exact .inl (by rfl) | exact .inr (.inl (by rfl)) | exact .inr (.inr (by rfl))))) (blkOk_by (by kernel_rfl)) (fun _ _ _ _ _ => (sgw_name (by decide) (C.blk _ _ _ _ _) rfl (by first | exact .inl (by rfl) | exact .inr (by rfl)))) (fun _ _ _ _ _ => sts_nil) (fun _ _ _ _ _ => (sd_if (st_eq (C.blk _ _ _ _ _) (sd_var rfl (by first | exact .inl (by rfl) | exact .inr (.inl (by rfl)) | exact .inr (.inr (by rfl)))) (sd_var rfl (by first | exact .inl (by rfl) | exact .inr (.inl (by rfl)) | exact .inr (.inr (by rfl))))) (sd_var rfl (by first | exact .inl (by rfl) | exact .inr (.inl (by rfl)) | exact .inr (.inr (by rfl)))) (sd_var rfl (by first | exact .inl (by rfl) | exact .inr (.inl (by rfl)) | exact .inr (.inr (by rfl))))))))
(sb_one (ss_if (st_eq C (sd_var rfl (by first | exact .inl (by rfl) | exact .inr (.inl (by rfl)) | exact .inr (.inr (by rfl)))) sd_int)
(sb_one (ss_cmpD [("_law_k", 6)] C rfl (by rfl) (sw_cmp (by rfl) (by rfl) rfl (by rfl)) (si_rg1 (by rfl) (E.g_range) (sd_var rfl (by first | exact .inl (by rfl) | exact .inr (.inl (by rfl)) | exact .inr (.inr (by rfl))))) (blkOk_by (by kernel_rfl)) (fun _ _ _ _ _ => (sgw_name (by decide) (C.blk _ _ _ _ _) rfl (by first | exact .inl (by rfl) | exact .inr (by rfl)))) (fun _ _ _ _ _ => sts_nil) (fun _ _ _ _ _ => (sd_mod (sd_callT call_int1 ok_int (by rfl) (E.g_int) tb_int (sa_cons (sd_add (sd_var rfl (by first | exact .inl (by rfl) | exact .inr (.inl (by rfl)) | exact .inr (.inr (by rfl)))) (sd_var rfl (by first | exact .inl (by rfl) | exact .inr (.inl (by rfl)) | exact .inr (.inr (by rfl))))) sa_nil)) (sd_var rfl (by first | exact .inl (by rfl) | exact .inr (.inl (by rfl)) | exact .inr (.inr (by rfl))))))))
(sb_one (ss_if (st_eq C (sd_var rfl (by first | exact .inl (by rfl) | exact .inr (.inl (by rfl)) | exact .inr (.inr (by rfl)))) sd_int)
(sb_one (ss_cmpD [("_law_k", 6)] C rfl (by rfl) (sw_cmp (by rfl) (by rfl) rfl (by rfl)) (si_rg1 (by rfl) (E.g_range) (sd_var rfl (by first | exact .inl (by rfl) | exact .inr (.inl (by rfl)) | exact .inr (.inr (by rfl))))) (blkOk_by (by kernel_rfl)) (fun _ _ _ _ _ => (sgw_name (by decide) (C.blk _ _ _ _ _) rfl (by first | exact .inl (by rfl) | exact .inr (by rfl)))) (fun _ _ _ _ _ => sts_nil) (fun _ _ _ _ _ => (sd_if (st_nin (sd_var rfl (by first | exact .inl (by rfl) | exact .inr (.inl (by rfl)) | exact .inr (.inr (by rfl)))) (sd_tup (sa_cons (sd_var rfl (by first | exact .inl (by rfl) | exact .inr (.inl (by rfl)) | exact .inr (.inr (by rfl)))) (sa_cons (sd_var rfl (by first | exact .inl (by rfl) | exact .inr (.inl (by rfl)) | exact .inr (.inr (by rfl)))) sa_nil)))) (sd_var rfl (by first | exact .inl (by rfl) | exact .inr (.inl (by rfl)) | exact .inr (.inr (by rfl)))) (sd_sub (sd_add (sd_var rfl (by first | exact .inl (by rfl) | exact .inr (.inl (by rfl)) | exact .inr (.inr (by rfl)))) (sd_var rfl (by first | exact .inl (by rfl) | exact .inr (.inl (by rfl)) | exact .inr (.inr (by rfl))))) (sd_var rfl (by first | exact .inl (by rfl) | exact .inr (.inl (by rfl)) | exact .inr (.inr (by rfl)))))))))
sb_nil)))))))
(sb_one (ss_ret (sd_tup (sa_cons (sd_callX C (ok_law_draw E) (by decide) (by rfl) E.g__law_draw E.k__law_draw (sa_cons (sd_var rfl (by first | exact .inl (by rfl) | exact .inr (.inl (by rfl)) | exact .inr (.inr (by rfl)))) (sa_cons sd_int sa_nil))) (sa_cons (sd_callT call_tuple_of ok_tuple (by rfl) (E.g_tuple) tb_tuple (sa_cons (sd_var rfl (by first | exact .inl (by rfl) | exact .inr (.inl (by rfl)) | exact .inr (.inr (by rfl)))) sa_nil)) sa_nil))))))))
theorem ok_law_handler (E : Kn K mg base) : FnX P w K mg base 3 "_law_handler" ["_law_box", "_law_most", "_law_many"] K02.f_law_handler := by
  obtain ⟨fd, F⟩ := E.d__law_handler
  refine ⟨fd, fn_of_body (m := K02.m_law_handler) 6 F sc_law_handler E.sm rfl fun cdv A outer s H E' C => ?_, F.bindsN fun _ _ _ _ _ _ us hl => match us, hl with | [_, _, _], _ => rfl⟩
  exact (sb_cons (ss_asg C (sd_add sd_int (sd_callX C (ok_law_draw E) (by decide) (by rfl) E.g__law_draw E.k__law_draw (sa_cons (sd_var rfl (by first | exact .inl (by rfl) | exact .inr (.inl (by rfl)) | exact .inr (.inr (by rfl)))) (sa_cons (sd_sub (sd_var rfl (by first | exact .inl (by rfl) | exact .inr (.inl (by rfl)) | exact .inr (.inr (by rfl)))) sd_int) sa_nil)))) rfl (by first | exact .inl (by rfl) | exact .inr (by rfl)))
(sb_cons (ss_cmpD [("_law_k", 5)] C rfl (by rfl) (sw_cmp (by rfl) (by rfl) rfl (by rfl)) (si_rg1 (by rfl) (E.g_range) (sd_var rfl (by first | exact .inl (by rfl) | exact .inr (.inl (by rfl)) | exact .inr (.inr (by rfl))))) (blkOk_by (by kernel_rfl)) (fun _ _ _ _ _ => (sgw_name (by decide) (C.blk _ _ _ _ _) rfl (by first | exact .inl (by rfl) | exact .inr (by rfl)))) (fun _ _ _ _ _ => sts_nil) (fun _ _ _ _ _ => (sd_callX (C.blk _ _ _ _ _) (ok_law_one E) (by decide) (by rfl) E.g__law_one E.k__law_one (sa_cons (sd_var rfl (by first | exact .inl (by rfl) | exact .inr (.inl (by rfl)) | exact .inr (.inr (by rfl)))) (sa_cons (sd_nw (sn_lst (sa_cons sd_int (sa_cons sd_int (sa_cons (sd_var rfl (by first | exact .inl (by rfl) | exact .inr (.inl (by rfl)) | exact .inr (.inr (by rfl)))) (sa_cons (sd_callX (C.blk _ _ _ _ _) (ok_law_draw E) (by decide) (by rfl) E.g__law_draw E.k__law_draw (sa_cons (sd_var rfl (by first | exact .inl (by rfl) | exact .inr (.inl (by rfl)) | exact .inr (.inr (by rfl)))) (sa_cons (sd_var rfl (by first | exact .inl (by rfl) | exact .inr (.inl (by rfl)) | exact .inr (.inr (by rfl)))) sa_nil))) sa_nil)))))) sa_nil)))))
(sb_one (ss_ret (sd_tup (sa_cons (sd_callT call_tuple_of ok_tuple (by rfl) (E.g_tuple) tb_tuple (sa_cons (sd_var rfl (by first | exact .inl (by rfl) | exact .inr (.inl (by rfl)) | exact .inr (.inr (by rfl)))) sa_nil)) (sa_cons (sd_callT call_tuple_of ok_tuple (by rfl) (E.g_tuple) tb_tuple (sa_cons (sd_nw (sn_cmp [("_law_k", 5)] C (si_rg1 (by rfl) (E.g_range) (sd_add sd_int (sd_callX C (ok_law_draw E) (by decide) (by rfl) E.g__law_draw E.k__law_draw (sa_cons (sd_var rfl (by first | exact .inl (by rfl) | exact .inr (.inl (by rfl)) | exact .inr (.inr (by rfl)))) (sa_cons (sd_var rfl (by first | exact .inl (by rfl) | exact .inr (.inl (by rfl)) | exact .inr (.inr (by rfl)))) sa_nil))))) (blkOk_by (by kernel_rfl)) (fun _ _ _ _ _ => (sgw_name (by decide) (C.blk _ _ _ _ _) rfl (by first | exact .inl (by rfl) | exact .inr (by rfl)))) (fun _ _ _ _ _ => sts_nil) (fun _ _ _ _ _ => (sd_callX (C.blk _ _ _ _ _) (ok_law_kind E) (by decide) (by rfl) E.g__law_kind E.k__law_kind (sa_cons (sd_var rfl (by first | exact .inl (by rfl) | exact .inr (.inl (by rfl)) | exact .inr (.inr (by rfl)))) (sa_cons (sd_var rfl (by first | exact .inl (by rfl) | exact .inr (.inl (by rfl)) | exact .inr (.inr (by rfl)))) sa_nil)))))) sa_nil)) sa_nil)))))))
theorem ok_law_plan (E : Kn K mg base) : FnX P w K mg base 3 "_law_plan" ["_law_box", "_law_handler_here", "_law_most"] K08.f_law_plan := by
  obtain ⟨fd, F⟩ := E.d__law_plan
  refine ⟨fd, fn_of_body (m := K08.m_law_plan) 10 F sc_law_plan E.sm rfl fun cdv A outer s H E' C => ?_, F.bindsN fun _ _ _ _ _ _ us hl => match us, hl with | [_, _, _], _ => rfl⟩
  exact (sb_cons (ss_tg (sd_tup (sa_cons (sd_callB call_lenA ok_len (by rfl) (E.g_len) tb_len (sa_cons (sd_ix (sd_var rfl (by first | exact .inl (by rfl) | exact .inr (.inl (by rfl)) | exact .inr (.inr (by rfl)))) sd_int fun _ _ => rfl) sa_nil)) (sa_cons (sd_add sd_int (sd_callX C (ok_law_draw E) (by decide) (by rfl) E.g__law_draw E.k__law_draw (sa_cons (sd_var rfl (by first | exact .inl (by rfl) | exact .inr (.inl (by rfl)) | exact .inr (.inr (by rfl)))) (sa_cons (sd_var rfl (by first | exact .inl (by rfl) | exact .inr (.inl (by rfl)) | exact .inr (.inr (by rfl)))) sa_nil)))) sa_nil))) (sg_tup C (sgs_cons (sg_name C rfl (by first | exact .inl (by rfl) | exact .inr (by rfl))) (sgs_cons (sg_name C rfl (by first | exact .inl (by rfl) | exact .inr (by rfl))) sgs_nil))))
(sb_cons (ss_if (st_eq C (sd_callX C (ok_law_draw E) (by decide) (by rfl) E.g__law_draw E.k__law_draw (sa_cons (sd_var rfl (by first | exact .inl (by rfl) | exact .inr (.inl (by rfl)) | exact .inr (.inr (by rfl)))) (sa_cons sd_int sa_nil))) sd_int)
(sb_one (ss_ret (sd_tup (sa_cons (sd_tup (sa_cons sd_int sa_nil)) (sa_cons (sd_tup (sa_cons (sd_rep (sd_tup (sa_cons sd_int sa_nil)) (sd_var rfl (by first | exact .inl (by rfl) | exact .inr (.inl (by rfl)) | exact .inr (.inr (by rfl))))) sa_nil)) sa_nil)))))
sb_nil)
(sb_cons (ss_asg C (sd_nw (sn_lst (sa_cons sd_none (sa_cons (sd_callX C (ok_law_draw E) (by decide) (by rfl) E.g__law_draw E.k__law_draw (sa_cons (sd_var rfl (by first | exact .inl (by rfl) | exact .inr (.inl (by rfl)) | exact .inr (.inr (by rfl)))) (sa_cons (sd_var rfl (by first | exact .inl (by rfl) | exact .inr (.inl (by rfl)) | exact .inr (.inr (by rfl)))) sa_nil))) (sa_cons (sd_callX C (ok_law_draw E) (by decide) (by rfl) E.g__law_draw E.k__law_draw (sa_cons (sd_var rfl (by first | exact .inl (by rfl) | exact .inr (.inl (by rfl)) | exact .inr (.inr (by rfl)))) (sa_cons (sd_var rfl (by first | exact .inl (by rfl) | exact .inr (.inl (by rfl)) | exact .inr (.inr (by rfl)))) sa_nil))) sa_nil))))) rfl (by first | exact .inl (by rfl) | exact .inr (by rfl)))
(sb_cons (ss_cmpD [("_law_place", 8)] C rfl (by rfl) (sw_cmp (by rfl) (by rfl) rfl (by rfl)) (si_rg1 (by rfl) (E.g_range) (sd_var rfl (by first | exact .inl (by rfl) | exact .inr (.inl (by rfl)) | exact .inr (.inr (by rfl))))) (blkOk_by (by kernel_rfl)) (fun _ _ _ _ _ => (sgw_name (by decide) (C.blk _ _ _ _ _) rfl (by first | exact .inl (by rfl) | exact .inr (by rfl)))) (fun _ _ _ _ _ => sts_nil) (fun _ _ _ _ _ => (sd_callT call_tuple_of ok_tuple (by rfl) (E.g_tuple) tb_tuple (sa_cons (sd_nw (sn_cmp [("_law_k", 9)] (C.blk _ _ _ _ _) (si_rg1 (by rfl) (E.g_range) (sd_var rfl (by first | exact .inl (by rfl) | exact .inr (.inl (by rfl)) | exact .inr (.inr (by rfl))))) (blkOk_by (by kernel_rfl)) (fun _ _ _ _ _ => (sgw_name (by decide) ((C.blk _ _ _ _ _).blk _ _ _ _ _) rfl (by first | exact .inl (by rfl) | exact .inr (by rfl)))) (fun _ _ _ _ _ => sts_nil) (fun _ _ _ _ _ => (sd_callX ((C.blk _ _ _ _ _).blk _ _ _ _ _) (ok_law_one E) (by decide) (by rfl) E.g__law_one E.k__law_one (sa_cons (sd_var rfl (by first | exact .inl (by rfl) | exact .inr (.inl (by rfl)) | exact .inr (.inr (by rfl)))) (sa_cons (sd_add (sd_var rfl (by first | exact .inl (by rfl) | exact .inr (.inl (by rfl)) | exact .inr (.inr (by rfl)))) (sd_nw (sn_lst (sa_cons (sd_callX ((C.blk _ _ _ _ _).blk _ _ _ _ _) (ok_law_draw E) (by decide) (by rfl) E.g__law_draw E.k__law_draw (sa_cons (sd_var rfl (by first | exact .inl (by rfl) | exact .inr (.inl (by rfl)) | exact .inr (.inr (by rfl)))) (sa_cons (sd_var rfl (by first | exact .inl (by rfl) | exact .inr (.inl (by rfl)) | exact .inr (.inr (by rfl)))) sa_nil))) sa_nil)))) sa_nil)))))) sa_nil))))
(sb_cons (ss_asg C (sd_SS C (by rfl) (E.g_sorted) (by rfl) (E.g_set) (sa_cons (sd_nw (sn_cmp [("_law_k", 9)] C (si_rg1 (by rfl) (E.g_range) (sd_add sd_int (sd_callX C (ok_law_draw E) (by decide) (by rfl) E.g__law_draw E.k__law_draw (sa_cons (sd_var rfl (by first | exact .inl (by rfl) | exact .inr (.inl (by rfl)) | exact .inr (.inr (by rfl)))) (sa_cons (sd_var rfl (by first | exact .inl (by rfl) | exact .inr (.inl (by rfl)) | exact .inr (.inr (by rfl)))) sa_nil))))) (blkOk_by (by kernel_rfl)) (fun _ _ _ _ _ => (sgw_name (by decide) (C.blk _ _ _ _ _) rfl (by first | exact .inl (by rfl) | exact .inr (by rfl)))) (fun _ _ _ _ _ => sts_nil) (fun _ _ _ _ _ => (sd_callX (C.blk _ _ _ _ _) (ok_law_draw E) (by decide) (by rfl) E.g__law_draw E.k__law_draw (sa_cons (sd_var rfl (by first | exact .inl (by rfl) | exact .inr (.inl (by rfl)) | exact .inr (.inr (by rfl)))) (sa_cons (sd_var rfl (by first | exact .inl (by rfl) | exact .inr (.inl (by rfl)) | exact .inr (.inr (by rfl)))) sa_nil)))))) sa_nil)) rfl (by first | exact .inl (by rfl) | exact .inr (by rfl)))
(sb_one (ss_ret (sd_tup (sa_cons (sd_callT call_tuple_of ok_tuple (by rfl) (E.g_tuple) tb_tuple (sa_cons (sd_var rfl (by first | exact .inl (by rfl) | exact .inr (.inl (by rfl)) | exact .inr (.inr (by rfl)))) sa_nil)) (sa_cons (sd_callT call_tuple_of ok_tuple (by rfl) (E.g_tuple) tb_tuple (sa_cons (sd_var rfl (by first | exact .inl (by rfl) | exact .inr (.inl (by rfl)) | exact .inr (.inr (by rfl)))) sa_nil)) sa_nil))))))))))
theorem ok_law_log (E : Kn K mg base) : FnX P w K mg base 2 "_law_log" ["_law_box", "_law_handler_here", "_law_most"] f_law_log := by
  obtain ⟨fd, F⟩ := E.d__law_log
  refine ⟨fd, fn_of_body (m := m_law_log) 4 F sc_law_log E.sm rfl fun cdv A outer s H E' C => ?_, F.bindsN fun _ _ _ _ _ _ us hl => match us, hl with | [_, _, _], _ => rfl⟩
  exact (sb_one (ss_ret (sd_callT call_tuple_of ok_tuple (by rfl) (E.g_tuple) tb_tuple (sa_cons (sd_nw (sn_cmp [("_law_k", 3)] C (si_rg1 (by rfl) (E.g_range) (sd_callX C (ok_law_draw E) (by decide) (by rfl) E.g__law_draw E.k__law_draw (sa_cons (sd_var rfl (by first | exact .inl (by rfl) | exact .inr (.inl (by rfl)) | exact .inr (.inr (by rfl)))) (sa_cons (sd_add (sd_var rfl (by first | exact .inl (by rfl) | exact .inr (.inl (by rfl)) | exact .inr (.inr (by rfl)))) sd_int) sa_nil)))) (blkOk_by (by kernel_rfl)) (fun _ _ _ _ _ => (sgw_name (by decide) (C.blk _ _ _ _ _) rfl (by first | exact .inl (by rfl) | exact .inr (by rfl)))) (fun _ _ _ _ _ => sts_nil) (fun _ _ _ _ _ => (sd_callX (C.blk _ _ _ _ _) (ok_law_draw E) (by decide) (by rfl) E.g__law_draw E.k__law_draw (sa_cons (sd_var rfl (by first | exact .inl (by rfl) | exact .inr (.inl (by rfl)) | exact .inr (.inr (by rfl)))) (sa_cons (sd_callB call_lenA ok_len (by rfl) (E.g_len) tb_len (sa_cons (sd_ix (sd_var rfl (by first | exact .inl (by rfl) | exact .inr (.inl (by rfl)) | exact .inr (.inr (by rfl)))) sd_int fun _ _ => rfl) sa_nil)) sa_nil)))))) sa_nil))))
theorem ok_law_row_text (E : Kn K mg base) : FnX P w K mg base 1 "_law_row_text" ["_law_numbers"] f_law_row_text := by
  obtain ⟨fd, F⟩ := E.d__law_row_text
  refine ⟨fd, fn_of_body (m := m_law_row_text) 2 F sc_law_row_text E.sm rfl fun cdv A outer s H E' C => ?_, F.bindsN fun _ _ _ _ _ _ us hl => match us, hl with | [_], _ => rfl⟩
  exact (sb_one (ss_ret (sd_join sd_str (sd_nw (sn_cmp [("_law_number", 1)] C (si_seq (sd_var rfl (by first | exact .inl (by rfl) | exact .inr (.inl (by rfl)) | exact .inr (.inr (by rfl))))) (blkOk_by (by kernel_rfl)) (fun _ _ _ _ _ => (sgw_name (by decide) (C.blk _ _ _ _ _) rfl (by first | exact .inl (by rfl) | exact .inr (by rfl)))) (fun _ _ _ _ _ => sts_nil) (fun _ _ _ _ _ => (sd_if (st_isN (sd_var rfl (by first | exact .inl (by rfl) | exact .inr (.inl (by rfl)) | exact .inr (.inr (by rfl)))) sd_none) sd_str (sd_callT call_str_int ok_str (by rfl) (E.g_str) tb_str (sa_cons (sd_var rfl (by first | exact .inl (by rfl) | exact .inr (.inl (by rfl)) | exact .inr (.inr (by rfl)))) sa_nil)))))))))
theorem ok_law_kind_text (E : Kn K mg base) : FnX P w K mg base 2 "_law_kind_text" ["_law_kind_here"] f_law_kind_text := by
  obtain ⟨fd, F⟩ := E.d__law_kind_text
  refine ⟨fd, fn_of_body (m := m_law_kind_text) 1 F sc_law_kind_text E.sm rfl fun cdv A outer s H E' C => ?_, F.bindsN fun _ _ _ _ _ _ us hl => match us, hl with | [_], _ => rfl⟩
  exact (sb_one (ss_ret (sd_add (sd_add (sd_callT call_str_int ok_str (by rfl) (E.g_str) tb_str (sa_cons (sd_ix (sd_var rfl (by first | exact .inl (by rfl) | exact .inr (.inl (by rfl)) | exact .inr (.inr (by rfl)))) sd_int fun _ _ => rfl) sa_nil)) sd_str) (sd_callX C (ok_law_row_text E) (by decide) (by rfl) E.g__law_row_text E.k__law_row_text (sa_cons (sd_ix (sd_var rfl (by first | exact .inl (by rfl) | exact .inr (.inl (by rfl)) | exact .inr (.inr (by rfl)))) sd_int fun _ _ => rfl) sa_nil)))))
theorem ok_law_handler_text (E : Kn K mg base) : FnX P w K mg base 3 "_law_handler_text" ["_law_handler_here"] f_law_handler_text := by
  obtain ⟨fd, F⟩ := E.d__law_handler_text
  refine ⟨fd, fn_of_body (m := m_law_handler_text) 2 F sc_law_handler_text E.sm rfl fun cdv A outer s H E' C => ?_, F.bindsN fun _ _ _ _ _ _ us hl => match us, hl with | [_], _ => rfl⟩
  exact (sb_one (ss_ret (sd_join sd_str (sd_add (sd_nw (sn_lst (sa_cons (sd_callX C (ok_law_row_text E) (by decide) (by rfl) E.g__law_row_text E.k__law_row_text (sa_cons (sd_ix (sd_var rfl (by first | exact .inl (by rfl) | exact .inr (.inl (by rfl)) | exact .inr (.inr (by rfl)))) sd_int fun _ _ => rfl) sa_nil)) sa_nil))) (sd_nw (sn_cmp [("_law_kind_here", 1)] C (si_seq (sd_ix (sd_var rfl (by first | exact .inl (by rfl) | exact .inr (.inl (by rfl)) | exact .inr (.inr (by rfl)))) sd_int fun _ _ => rfl)) (blkOk_by (by kernel_rfl)) (fun _ _ _ _ _ => (sgw_name (by decide) (C.blk _ _ _ _ _) rfl (by first | exact .inl (by rfl) | exact .inr (by rfl)))) (fun _ _ _ _ _ => sts_nil) (fun _ _ _ _ _ => (sd_add sd_str (sd_callX (C.blk _ _ _ _ _) (ok_law_kind_text E) (by decide) (by rfl) E.g__law_kind_text E.k__law_kind_text (sa_cons (sd_var rfl (by first | exact .inl (by rfl) | exact .inr (.inl (by rfl)) | exact .inr (.inr (by rfl)))) sa_nil))))))))))
theorem ok_law_plan_text (E : Kn K mg base) : FnX P w K mg base 2 "_law_plan_text" ["_law_plan_here"] f_law_plan_text := by
  obtain ⟨fd, F⟩ := E.d__law_plan_text
  refine ⟨fd, fn_of_body (m := m_law_plan_text) 2 F sc_law_plan_text E.sm rfl fun cdv A outer s H E' C => ?_, F.bindsN fun _ _ _ _ _ _ us hl => match us, hl with | [_], _ => rfl⟩
  exact (sb_one (ss_ret (sd_join sd_str (sd_add (sd_nw (sn_lst (sa_cons (sd_callX C (ok_law_row_text E) (by decide) (by rfl) E.g__law_row_text E.k__law_row_text (sa_cons (sd_ix (sd_var rfl (by first | exact .inl (by rfl) | exact .inr (.inl (by rfl)) | exact .inr (.inr (by rfl)))) sd_int fun _ _ => rfl) sa_nil)) sa_nil))) (sd_nw (sn_cmp [("_law_row", 1)] C (si_seq (sd_ix (sd_var rfl (by first | exact .inl (by rfl) | exact .inr (.inl (by rfl)) | exact .inr (.inr (by rfl)))) sd_int fun _ _ => rfl)) (blkOk_by (by kernel_rfl)) (fun _ _ _ _ _ => (sgw_name (by decide) (C.blk _ _ _ _ _) rfl (by first | exact .inl (by rfl) | exact .inr (by rfl)))) (fun _ _ _ _ _ => sts_nil) (fun _ _ _ _ _ => (sd_add sd_str (sd_callX (C.blk _ _ _ _ _) (ok_law_row_text E) (by decide) (by rfl) E.g__law_row_text E.k__law_row_text (sa_cons (sd_var rfl (by first | exact .inl (by rfl) | exact .inr (.inl (by rfl)) | exact .inr (.inr (by rfl)))) sa_nil))))))))))
theorem ok_law {fd : FuncData} (F : FunD K "law" "law" (defArgs s_law) (defBody s_law) (defScope s_law) [] [] (He.fAd K ("law", none)) fd) (E : Kn K mg base) (hp : ∀ ns : List Int, ns.length ≤ 63 → pw m_law (lawS 11 ns) (fun f _ => f = .rt (.bool true)) fun _ => False) :
    Fn P w K mg base 6 (He.fAd K ("law", none)) fd ["_law_script"] (spLaw K) := by
  obtain ⟨fo, FO, BO⟩ := ok_law_opened (P := P) (w := w) E
  refine fn_law 11 F sc_law E.sm rfl (by decide) (fun cdv A outer s H E' C => (ps_set C.nd rfl (by first | exact .inl (by rfl) | exact .inr (by rfl)) (pe_callN C FO (by decide) (by rfl) E.g__law_opened E.k__law_opened BO (pa_cons (pe_var rfl (by first | exact .inl (by rfl) | exact .inr (.inl (by rfl)) | exact .inr (.inr (by rfl)))) pa_nil)))) (fun cdv A outer s H E' C => ?_) hp
  exact (sb_cons (ss_for C (fun _ _ h => False.elim h) (si_rg1 (by rfl) (E.g_range) sd_int) (sg_name C rfl (by first | exact .inl (by rfl) | exact .inr (by rfl)))
(sb_cons (ss_asg C (sd_callX C (ok_law_handler E) (by decide) (by rfl) E.g__law_handler E.k__law_handler (sa_cons (sd_var rfl (by first | exact .inl (by rfl) | exact .inr (.inl (by rfl)) | exact .inr (.inr (by rfl)))) (sa_cons sd_int (sa_cons sd_int sa_nil)))) rfl (by first | exact .inl (by rfl) | exact .inr (by rfl)))
(sb_cons (ss_par C rfl rfl (by decide) (sa_cons (sd_callX C (ok_law_plan E) (by decide) (by rfl) E.g__law_plan E.k__law_plan (sa_cons (sd_var rfl (by first | exact .inl (by rfl) | exact .inr (.inl (by rfl)) | exact .inr (.inr (by rfl)))) (sa_cons (sd_var rfl (by first | exact .inl (by rfl) | exact .inr (.inl (by rfl)) | exact .inr (.inr (by rfl)))) (sa_cons sd_int sa_nil)))) (sa_cons (sd_callX C (ok_law_log E) (by decide) (by rfl) E.g__law_log E.k__law_log (sa_cons (sd_var rfl (by first | exact .inl (by rfl) | exact .inr (.inl (by rfl)) | exact .inr (.inr (by rfl)))) (sa_cons (sd_var rfl (by first | exact .inl (by rfl) | exact .inr (.inl (by rfl)) | exact .inr (.inr (by rfl)))) (sa_cons (sd_ix (sd_nw (sn_lst (sa_cons sd_int (sa_cons sd_int sa_nil)))) (sd_mod (sd_var rfl (by first | exact .inl (by rfl) | exact .inr (.inl (by rfl)) | exact .inr (.inr (by rfl)))) sd_int) fun _ _ => rfl) sa_nil)))) sa_nil)) fun ta h => ps_par C.calm C.nd rfl rfl (by decide) (by rfl) (by rfl) h rfl)
(sb_cons (ss_par C rfl rfl (by decide) (sa_cons (sd_callB (call_repr C.sok (room66 C.room)) ok_repr (by rfl) (E.g_repr) tb_repr (sa_cons (sd_nw (sn_lst (sa_cons (sd_var rfl (by first | exact .inl (by rfl) | exact .inr (.inl (by rfl)) | exact .inr (.inr (by rfl)))) (sa_cons (sd_var rfl (by first | exact .inl (by rfl) | exact .inr (.inl (by rfl)) | exact .inr (.inr (by rfl)))) (sa_cons (sd_var rfl (by first | exact .inl (by rfl) | exact .inr (.inl (by rfl)) | exact .inr (.inr (by rfl)))) sa_nil))))) sa_nil)) (sa_cons (sd_callX C (ok_law_handler_text E) (by decide) (by rfl) E.g__law_handler_text E.k__law_handler_text (sa_cons (sd_var rfl (by first | exact .inl (by rfl) | exact .inr (.inl (by rfl)) | exact .inr (.inr (by rfl)))) sa_nil)) sa_nil)) fun ta h => ps_par C.calm C.nd rfl rfl (by decide) (by rfl) (by rfl) h rfl)
(sb_cons (ss_if (SdW.st (sw_or (st_ne C (sd_nw (sn_lst (sa_cons (sd_callX C (ok_handler_text E) (by decide) (by rfl) E.g_handler_text E.k_handler_text (sa_cons (sd_var rfl (by first | exact .inl (by rfl) | exact .inr (.inl (by rfl)) | exact .inr (.inr (by rfl)))) sa_nil)) (sa_cons (sd_callX C (ok_handler_text E) (by decide) (by rfl) E.g_handler_text E.k_handler_text (sa_cons (sd_var rfl (by first | exact .inl (by rfl) | exact .inr (.inl (by rfl)) | exact .inr (.inr (by rfl)))) sa_nil)) sa_nil)))) (sd_nw (sn_lst (sa_cons (sd_var rfl (by first | exact .inl (by rfl) | exact .inr (.inl (by rfl)) | exact .inr (.inr (by rfl)))) (sa_cons (sd_var rfl (by first | exact .inl (by rfl) | exact .inr (.inl (by rfl)) | exact .inr (.inr (by rfl)))) sa_nil))))) (sw_or1 (st_ne C (sd_callB (call_repr C.sok (room66 C.room)) ok_repr (by rfl) (E.g_repr) tb_repr (sa_cons (sd_callX C (ok_parse_handler E) (by decide) (by rfl) E.g_parse_handler E.k_parse_handler (sa_cons (sd_var rfl (by first | exact .inl (by rfl) | exact .inr (.inl (by rfl)) | exact .inr (.inr (by rfl)))) sa_nil)) sa_nil)) (sd_callB (call_repr C.sok (room66 C.room)) ok_repr (by rfl) (E.g_repr) tb_repr (sa_cons (sd_var rfl (by first | exact .inl (by rfl) | exact .inr (.inl (by rfl)) | exact .inr (.inr (by rfl)))) sa_nil))))))
(sb_one (ss_ret sd_bool))
sb_nil)
(sb_cons (ss_if (st_ne C (sd_nw (sn_cmp [("_law_kind_here", 9)] C (si_seq (sd_ix (sd_var rfl (by first | exact .inl (by rfl) | exact .inr (.inl (by rfl)) | exact .inr (.inr (by rfl)))) sd_int fun _ _ => rfl)) (blkOk_by (by kernel_rfl)) (fun _ _ _ _ _ => (sgw_name (by decide) (C.blk _ _ _ _ _) rfl (by first | exact .inl (by rfl) | exact .inr (by rfl)))) (fun _ _ _ _ _ => sts_nil) (fun _ _ _ _ _ => (sd_callX (C.blk _ _ _ _ _) (ok_kind_text E) (by decide) (by rfl) E.g_kind_text E.k_kind_text (sa_cons (sd_var rfl (by first | exact .inl (by rfl) | exact .inr (.inl (by rfl)) | exact .inr (.inr (by rfl)))) sa_nil))))) (sd_nw (sn_cmp [("_law_kind_here", 9)] C (si_seq (sd_ix (sd_var rfl (by first | exact .inl (by rfl) | exact .inr (.inl (by rfl)) | exact .inr (.inr (by rfl)))) sd_int fun _ _ => rfl)) (blkOk_by (by kernel_rfl)) (fun _ _ _ _ _ => (sgw_name (by decide) (C.blk _ _ _ _ _) rfl (by first | exact .inl (by rfl) | exact .inr (by rfl)))) (fun _ _ _ _ _ => sts_nil) (fun _ _ _ _ _ => (sd_callX (C.blk _ _ _ _ _) (ok_law_kind_text E) (by decide) (by rfl) E.g__law_kind_text E.k__law_kind_text (sa_cons (sd_var rfl (by first | exact .inl (by rfl) | exact .inr (.inl (by rfl)) | exact .inr (.inr (by rfl)))) sa_nil))))))
(sb_one (ss_ret sd_bool))
sb_nil)
(sb_cons (ss_if (st_ne C (sd_nw (sn_lst (sa_cons (sd_callX C (ok_plan_text E) (by decide) (by rfl) E.g_plan_text E.k_plan_text (sa_cons (sd_var rfl (by first | exact .inl (by rfl) | exact .inr (.inl (by rfl)) | exact .inr (.inr (by rfl)))) sa_nil)) (sa_cons (sd_callX C (ok_plan_text E) (by decide) (by rfl) E.g_plan_text E.k_plan_text (sa_cons (sd_var rfl (by first | exact .inl (by rfl) | exact .inr (.inl (by rfl)) | exact .inr (.inr (by rfl)))) sa_nil)) sa_nil)))) (sd_mul (sd_nw (sn_lst (sa_cons (sd_callX C (ok_law_plan_text E) (by decide) (by rfl) E.g__law_plan_text E.k__law_plan_text (sa_cons (sd_var rfl (by first | exact .inl (by rfl) | exact .inr (.inl (by rfl)) | exact .inr (.inr (by rfl)))) sa_nil)) sa_nil))) sd_int))
(sb_one (ss_ret sd_bool))
sb_nil)
(sb_cons (ss_asg C (sd_if (st_eq0 C (sd_var rfl (by first | exact .inl (by rfl) | exact .inr (.inl (by rfl)) | exact .inr (.inr (by rfl)))) (sd_tup sa_nil)) sd_str (sd_join sd_str (sd_nw (sn_cmp [("_law_index", 10)] C (si_seq (sd_var rfl (by first | exact .inl (by rfl) | exact .inr (.inl (by rfl)) | exact .inr (.inr (by rfl))))) (blkOk_by (by kernel_rfl)) (fun _ _ _ _ _ => (sgw_name (by decide) (C.blk _ _ _ _ _) rfl (by first | exact .inl (by rfl) | exact .inr (by rfl)))) (fun _ _ _ _ _ => sts_nil) (fun _ _ _ _ _ => (sd_callT call_str_int ok_str (by rfl) (E.g_str) tb_str (sa_cons (sd_var rfl (by first | exact .inl (by rfl) | exact .inr (.inl (by rfl)) | exact .inr (.inr (by rfl)))) sa_nil))))))) rfl (by first | exact .inl (by rfl) | exact .inr (by rfl)))
(sb_one (ss_if (SdW.st (sw_or (st_ne C (sd_callX C (ok_log_text E) (by decide) (by rfl) E.g_log_text E.k_log_text (sa_cons (sd_var rfl (by first | exact .inl (by rfl) | exact .inr (.inl (by rfl)) | exact .inr (.inr (by rfl)))) sa_nil)) (sd_var rfl (by first | exact .inl (by rfl) | exact .inr (.inl (by rfl)) | exact .inr (.inr (by rfl))))) (sw_or (st_ne C (sd_callX C (ok_log_text E) (by decide) (by rfl) E.g_log_text E.k_log_text (sa_cons (sd_tup sa_nil) sa_nil)) sd_str) (sw_or1 (st_ne C (sd_callB (call_repr C.sok (room66 C.room)) ok_repr (by rfl) (E.g_repr) tb_repr (sa_cons (sd_nw (sn_lst (sa_cons (sd_var rfl (by first | exact .inl (by rfl) | exact .inr (.inl (by rfl)) | exact .inr (.inr (by rfl)))) (sa_cons (sd_var rfl (by first | exact .inl (by rfl) | exact .inr (.inl (by rfl)) | exact .inr (.inr (by rfl)))) (sa_cons (sd_var rfl (by first | exact .inl (by rfl) | exact .inr (.inl (by rfl)) | exact .inr (.inr (by rfl)))) sa_nil))))) sa_nil)) (sd_var rfl (by first | exact .inl (by rfl) | exact .inr (.inl (by rfl)) | exact .inr (.inr (by rfl)))))))))
(sb_one (ss_ret sd_bool))
sb_nil))))))))))
(sb_one (ss_ret sd_bool)))
end
def names0 : List Str := ["ServiceError", "BadHandler", "BadText", "MAX_KINDS", "MAX_STATES", "is_integer", "are_integers", "kind_word", "are_labels", "handler_error", "DIGITS", "LONGEST", "number_in", "row_in", "kind_in", "row_text", "kind_text", "handler_text", "plan_text", "log_text", "parse_handler", "_law_opened", "_law_draw", "_law_one", "_law_kind", "_law_handler", "_law_plan", "_law_log", "_law_row_text", "_law_kind_text"]
def names1 : List Str := ["_law_handler_text", "_law_plan_text"]
def names : List Str := names0 ++ names1
abbrev R : PySem.W.OpenRow := PySem.W.OpenLaw.row PySem.Challenge.rw_twicesafe_k12_texts_of_handlers_and_plan
theorem run (w : World) : HandSHeadRun.RunEq R (PySem.W.view R.prog [36]) (hookT 4 fa fn) (obT 4 fa fn) 4000 names w := by
  intro os
  kernel_rfl
theorem facts {w : World} {K : PySem.W.Frag} {h : Heap} {mg : Str → Option Value} {f : Addr} (hp : ∀ ns : List Int, ns.length ≤ 63 → pw m_law (lawS 11 ns) (fun f _ => f = .rt (.bool true)) fun _ => False)
    (X : K.In h) (c : He.SaysD fa fn K) (G : h.Ns mainGlobals mg) (hf : mg ("law" : Str) = some (.ref f)) :
    ∃ fd : FuncData, (∀ (s : Shared) (u : Value), BindsTo s fd ⟨[u], []⟩ [(("_law_script" : Str), u)]) ∧
        ∀ base : Heap, (SmP base) → Fn pg w K mg base 6 f fd ["_law_script"] (spLaw K) := by
  obtain ⟨fd, F⟩ := c.def_ 25 (d := d_law) rfl
  have e := hf.symm.trans (He.glo_ok X G (c.fact 25 (f := .glo "law") rfl))
  cases e
  have b := FunD.bindsA (ps := ["_law_script"]) F fun _ _ _ _ _ _ us hl => match us, hl with | [_], _ => rfl
  refine ⟨fd, fun s v => b s [v] rfl, fun base sm => ?_⟩
  exact ok_law (P := pg) (w := w) F (kn X G c sm) hp
end K12
open K12 PySem PySem.W PySem.Calls PyProof.Rows TW in
theorem K12.holds (hp : ∀ ns : List Int, ns.length ≤ 63 → pw m_law (lawS 11 ns) (fun f _ => f = .rt (.bool true)) fun _ => False) : PySem.Challenge.rw_twicesafe_k12_texts_of_handlers_and_plan.Holds := by
  w_on; o_law
  refine HandSHeadRun.head_any (r := OpenLaw.row PySem.Challenge.rw_twicesafe_k12_texts_of_handlers_and_plan) (q := view (OpenLaw.row PySem.Challenge.rw_twicesafe_k12_texts_of_handlers_and_plan).prog [36]) (H := hookT 4 fa fn) (ob := obT 4 fa fn) (M := 4000) (loose := names) (d := HandSHeadRun.topDef (OpenLaw.row PySem.Challenge.rw_twicesafe_k12_texts_of_handlers_and_plan).prog 36) (kwd := []) obT_eq
    (by kernel_rfl) (fun s => by kernel_rfl) K12.run (by kernel_rfl) (by kernel_rfl) (by kernel_rfl) (by rfl) (by first | assumption | decide +kernel) (by decide +kernel) ⟨rfl, rfl, rfl, rfl, rfl, by decide +kernel⟩ ?hw ?hc
  case hw => w_witness2
  case hc =>
    refine walk_law (l := PySem.Challenge.rw_twicesafe_k12_texts_of_handlers_and_plan) (j := 4) (fa := fa) (fn := fn) 6 rfl (by kernel_rfl) ⟨rfl, by decide, by decide⟩ (fun p hp => by cases hp) ?_
    intro w mg f h K X c G hmg
    exact facts hp X c G (by
      have e : (HandSHeadRun.topDef (OpenLaw.row PySem.Challenge.rw_twicesafe_k12_texts_of_handlers_and_plan).prog 36).name = ("law" : PySem.Str) := by kernel_rfl
      rw [← e]
      exact hmg)
theorem PySem.Challenge.cw_twicesafe_k12_texts_of_handlers_and_plan_holds : PySem.Challenge.rw_twicesafe_k12_texts_of_handlers_and_plan.Holds :=
  K12.holds K12.hp
