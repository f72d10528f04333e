import PyProof.Rows.All
import Wide.All
import OpenK.AllK
import Wide.FinOn
import HandS.ForMost
import HandS.Lambda
import HandS.Deep
import HandS.TupAny
import HandS.TupMul
import HandS.TupLen
import HandS.Style
import HandS.Star
import HandS.IsInst
import HandS.Zip
import HandS.Conv
import HandS.SetFor
import HandS.SortInts
import HandS.Codes
import HandS.Flow
import PyProof.ReprRoads
import KE.GoesEnum
import HandS.Small
import HandS.Defaults
import HandS.Wide
import HandS.HeadEnd
import HandS.HeadHook2
import HandS.Head2
import HandS.EndTab
import HandS.Strs
import HandS.ExcInit
import HandS.ExcField
import HandS.ExcOwn
import HandS.ExcIs
import HandS.More
import PyProof.Rows.TupDisplay
import HandS.NoneIn
import PyProof.FitsInt
import HandS.SortRule
import HandS.DictTup
import KE.KDictSum
import HandS.TupLe
import HandS.SetKeys
import HandS.MakeKwOnly
import HandS.NamedTupSort
import KE.GoesMore
import KE.KDictList
import KE.KDictZip
import HandS.ExcValue
import HandS.TupSets
import HandS.TryMany
import HandS.HeadHook4
import HandS.SortKw
import KE.KMinKey
import HandS.Remove
import PySem.Challenge.RW_twicesafe_k51_orders_and_their_holds
set_option linter.all false
set_option Elab.async false
namespace TW
open PySem
inductive SV where
  | no
  | dat (d : PyData)
  | own (d : PyData)
  | box
structure Bx where
  great : List Int
  small : List Int
  turn : Int
inductive Er where
  | stuck
  | exc (c : Str) (fs : List (Str × PyData)) (r : List SV) (b : Option Bx)
structure Sx where
  r : List SV
  b : Option Bx
def M (α : Type) := Sx → Except Er (α × Sx)
def M.pure {α : Type} (a : α) : M α := fun s => .ok (a, s)
def M.bind {α β : Type} (m : M α) (f : α → M β) : M β := fun s => match m s with
  | .ok (a, s') => f a s'
  | .error e => .error e
instance : Monad M where
  pure := M.pure
  bind := M.bind
def stuck {α : Type} : M α := fun _ => .error .stuck
def pw {α : Type} (m : M α) (s : Sx) (Q : α → Sx → Prop) (E : Er → Prop) : Prop := match m s with
  | .ok (a, s') => Q a s'
  | .error e => E e
section
variable {α β : Type} {m : M α} {f : α → M β} {s : Sx} {Q Q' : α → Sx → Prop} {E E' : Er → Prop} {R : β → Sx → Prop} {a : α}
theorem pw_pure : pw (Pure.pure a : M α) s Q E ↔ Q a s := Iff.rfl
theorem pw_bind : pw (m >>= f) s R E ↔ pw m s (fun a s' => pw (f a) s' R E) E := by
  show pw (M.bind m f) s R E ↔ _
  unfold pw M.bind
  cases m s with
  | ok p => exact Iff.rfl
  | error e => exact Iff.rfl
theorem pw_mono (h : pw m s Q E) (hq : ∀ a s', Q a s' → Q' a s') (he : ∀ e, E e → E' e) : pw m s Q' E' := by
  unfold pw at h ⊢
  cases q : m s with
  | ok p => rw [q] at h; exact hq _ _ h
  | error e => rw [q] at h; exact he _ h
end
def getS (i : Nat) : M SV := fun s => .ok (s.r.getD i .no, s)
def setS (i : Nat) (v : SV) : M Unit := fun s => .ok ((), { s with r := s.r.set i v })
theorem pw_getS {i : Nat} {s : Sx} {Q : SV → Sx → Prop} {E : Er → Prop} : pw (getS i) s Q E ↔ Q (s.r.getD i .no) s := Iff.rfl
inductive Opd where
  | slot (i : Nat)
  | val (d : PyData)
def peek : Opd → M PyData
  | .val d => pure d
  | .slot i => do match ← getS i with
    | .dat d => pure d
    | .own d => pure d
    | _ => stuck
def take : Opd → M PyData
  | .val d => pure d
  | .slot i => do match ← getS i with
    | .dat d => pure d
    | .own d => do setS i (.dat d); pure d
    | _ => stuck
def peeks : List Opd → M (List PyData)
  | [] => pure []
  | o :: os => do let d ← peek o; let ds ← peeks os; pure (d :: ds)
def takes : List Opd → M (List PyData)
  | [] => pure []
  | o :: os => do let d ← take o; let ds ← takes os; pure (d :: ds)
inductive Arg where
  | dat (d : PyData)
  | box
def handO : Opd → M Arg
  | .val d => pure (.dat d)
  | .slot i => do match ← getS i with
    | .dat d => pure (.dat d)
    | .own d => do setS i (.dat d); pure (.dat d)
    | .box => pure .box
    | .no => stuck
def hands : List Opd → M (List Arg)
  | [] => pure []
  | o :: os => do let d ← handO o; let ds ← hands os; pure (d :: ds)
def lim : Nat := 1000000
inductive Bop where
  | add | sub | mul | fdiv | mod | pow
inductive Cop where
  | eq | ne | lt | le | gt | ge | isN | notN | isin | notin
def small (i : Int) : Bool := decide (-(2 ^ 64) < i) && decide (i < 2 ^ 64)
def binD : Bop → PyData → PyData → Option PyData
  | .add, .int i, .int j => some (.int (i + j))
  | .add, .str x, .str y => if x.length + y.length ≤ lim then some (.str (x ++ y)) else none
  | .add, .tuple xs, .tuple ys => if xs.length + ys.length ≤ lim then some (.tuple (xs ++ ys)) else none
  | .add, .list xs, .list ys => if xs.length + ys.length ≤ lim then some (.list (xs ++ ys)) else none
  | .sub, .int i, .int j => some (.int (i - j))
  | .mul, .int i, .int j => if small i || small j then some (.int (i * j)) else none
  | .mul, .list xs, .int k => if -1000 ≤ k ∧ k ≤ 1000 ∧ xs.length ≤ 1000 then some (.list (List.replicate k.toNat xs).flatten) else none
  | .mul, .tuple xs, .int k => if 2 ≤ k ∧ k ≤ 1000 ∧ xs.length ≤ 1000 ∧ xs ≠ [] then some (.tuple (List.replicate k.toNat xs).flatten) else none
  | .fdiv, .int i, .int j => if j ≠ 0 ∧ j.natAbs < 1073741824 then some (.int (i.fdiv j)) else none
  | .mod, .int i, .int j => if j ≠ 0 then some (.int (i.fmod j)) else none
  | .pow, .int i, .int j => if 0 ≤ j ∧ j ≤ 1000000 ∧ i.natAbs < 2 ^ 64 then some (.int (i ^ j.toNat)) else none
  | _, _, _ => none
def shp (d : PyData) : Bool := SeqAt.shaped d
def isNoneD : PyData → Bool
  | .none => true
  | _ => false
def look (k : PyData) : List (PyData × PyData) → Option PyData
  | [] => none
  | (a, v) :: r => if PyData.eqv a k then some v else look k r
def flatD : PyData → Bool
  | .none => true
  | .bool _ => true
  | .int _ => true
  | .str _ => true
  | _ => false
def keyish : PyData → Bool
  | .int _ => true
  | .str _ => true
  | .tuple ds => ds.all fun
    | .int _ => true
    | .str _ => true
    | _ => false
  | _ => false
def member (x : PyData) (xs : List PyData) : Bool := xs.any fun y => PyData.eqv y x
def cmpD : Cop → PyData → PyData → Option PyData
  | .eq, x, y => if shp x && shp y then some (.bool (PyData.eqv x y)) else none
  | .ne, x, y => if shp x && shp y then some (.bool (!PyData.eqv x y)) else none
  | .lt, .int i, .int j => some (.bool (decide (i < j)))
  | .le, .int i, .int j => some (.bool (decide (i ≤ j)))
  | .gt, .int i, .int j => some (.bool (decide (j < i)))
  | .ge, .int i, .int j => some (.bool (decide (j ≤ i)))
  | .isN, x, .none => some (.bool (isNoneD x))
  | .notN, x, .none => some (.bool (!isNoneD x))
  | .isin, x, .list xs => if shp x && shp (.list xs) then some (.bool (member x xs)) else none
  | .isin, x, .tuple xs => if shp x && xs.all flatD && flatD x then some (.bool (member x xs)) else none
  | .notin, x, .list xs => if shp x && shp (.list xs) then some (.bool (!member x xs)) else none
  | .notin, x, .tuple xs => if shp x && xs.all flatD && flatD x then some (.bool (!member x xs)) else none
  | .isin, x, .dict ds => if keyish x then some (.bool (look x ds).isSome) else none
  | .notin, x, .dict ds => if keyish x then some (.bool (!(look x ds).isSome)) else none
  | _, _, _ => none
def optM {α : Type} : Option α → M α
  | some a => pure a
  | none => stuck
theorem pw_optM {α : Type} {o : Option α} {s : Sx} {Q : α → Sx → Prop} {E : Er → Prop} (hE : ¬ E .stuck) : pw (optM o) s Q E ↔ ∃ a, o = some a ∧ Q a s := by
  cases o with
  | none => exact ⟨fun h => absurd h hE, fun ⟨a, e, _⟩ => nomatch e⟩
  | some a => exact ⟨fun h => ⟨a, rfl, h⟩, fun ⟨b, e, h⟩ => by cases e; exact h⟩
def eVar (i : Nat) : M Opd := do match ← getS i with
  | .no => stuck
  | _ => pure (.slot i)
def eC (d : PyData) : M Opd := pure (.val d)
def aNil : M (List Opd) := pure []
def aCons (m : M Opd) (r : M (List Opd)) : M (List Opd) := do let o ← m; let os ← r; pure (o :: os)
def itemsO (o : Opd) : M (List PyData) := do match ← peek o with
  | .list ds => pure ds
  | .tuple ds => pure ds
  | _ => stuck
def aStar (m : M Opd) (r : M (List Opd)) : M (List Opd) := do let o ← m; let ds ← itemsO o; let os ← r; pure (ds.map Opd.val ++ os)
def eTup (m : M (List Opd)) : M Opd := do let os ← m; let ds ← takes os; if ds.length ≤ lim then pure (.val (.tuple ds)) else stuck
def nLst (m : M (List Opd)) : M PyData := do let os ← m; let ds ← takes os; if ds.length ≤ lim then pure (.list ds) else stuck
def eNw (m : M PyData) : M Opd := do let d ← m; pure (.val d)
def eOp (f : PyData → PyData → Option PyData) (a b : M Opd) : M Opd := do let o ← a; let p ← b; let x ← peek o; let y ← peek p; let z ← optM (f x y); pure (.val z)
def eBin (o : Bop) (a b : M Opd) : M Opd := eOp (binD o) a b
def eCmp (o : Cop) (a b : M Opd) : M Opd := eOp (cmpD o) a b
def neD : PyData → Option PyData
  | .int i => some (.int (-i))
  | _ => none
def eUn (f : PyData → Option PyData) (a : M Opd) : M Opd := do let o ← a; let x ← peek o; let z ← optM (f x); pure (.val z)
def eFn (f : List PyData → Option PyData) (a : M (List Opd)) : M Opd := do let os ← a; let xs ← peeks os; let z ← optM (f xs); pure (.val z)
def boolD : PyData → Option Bool
  | .bool b => some b
  | _ => none
def tVal (a : M Opd) : M Bool := do let o ← a; let x ← peek o; optM (boolD x)
def tNot (a : M Bool) : M Bool := do let b ← a; pure (!b)
def tAnd (a b : M Bool) : M Bool := do let x ← a; if x = true then b else pure false
def tOr (a b : M Bool) : M Bool := do let x ← a; if x = true then pure true else b
def eIf (c : M Bool) (a b : M Opd) : M Opd := do let x ← c; if x = true then a else b
def eAnd (a b : M Opd) : M Opd := do let x ← tVal a; if x = true then b else pure (.val (.bool false))
def eOr (a b : M Opd) : M Opd := do let x ← tVal a; if x = true then pure (.val (.bool true)) else b
def eNot (a : M Opd) : M Opd := do let x ← tVal a; pure (.val (.bool (!x)))
end TW
set_option linter.all false
set_option Elab.async false
namespace TW
open PySem L2
def tabs0 : List (Addr × Str) := [(225, (("_law_right" : Str) ++ ".<locals>.") ++ "<lambda>"), (230, (("law" : Str) ++ ".<locals>.") ++ "<lambda>")]
abbrev boxC : Int := 61
def isTab (a : Addr) : Prop := ∃ p ∈ tabs0, p.1 = a
structure Tb (P F : Addr → Prop) (H : Hp) : Prop where
  t : LamX.Tabs tabs0 H
  n : ∀ a, isTab a → ¬ F a ∧ ¬ P a
def Still (H H' : Hp) : Prop := (∀ a ps, H a = some (.tbl ps) → H' a = some (.tbl ps)) ∧ ∀ a φ, H a = some (.ext φ) → H' a = some (.ext φ)
def Calm (o : Option HO) : Prop := (∀ ps, o ≠ some (.tbl ps)) ∧ ∀ φ, o ≠ some (.ext φ)
theorem Still.of {H H' : Hp} (h : ∀ a o, H a = some o → H' a = some o) : Still H H' := ⟨fun a _ e => h a _ e, fun a _ e => h a _ e⟩
theorem Still.upd {H : Hp} {a : Addr} {u : HO} (h : Calm (H a)) : Still H (upd H a u) := ⟨fun b ps e => by
  rw [upd_ne fun z => h.1 ps (by rw [← z]; exact e)]
  exact e, fun b φ e => by
  rw [upd_ne fun z => h.2 φ (by rw [← z]; exact e)]
  exact e⟩
theorem calm_none : Calm none := ⟨fun _ e => (by cases e), fun _ e => (by cases e)⟩
theorem calm_lst {xs : List V} : Calm (some (.lst xs)) := ⟨fun _ e => (by cases e), fun _ e => (by cases e)⟩
theorem calm_dK {xs : List (Key × V)} : Calm (some (.dK xs)) := ⟨fun _ e => (by cases e), fun _ e => (by cases e)⟩
theorem calm_dT {xs : List (List Key × V)} : Calm (some (.dT xs)) := ⟨fun _ e => (by cases e), fun _ e => (by cases e)⟩
theorem calm_xd {xs : List (Str × V)} : Calm (some (.xd xs)) := ⟨fun _ e => (by cases e), fun _ e => (by cases e)⟩
theorem Still.new {H : Hp} {a : Addr} {u : HO} (h : H a = none) : Still H (L2.upd H a u) := .upd (by rw [h]; exact calm_none)
theorem tabs_still {T : List (Addr × Str)} {H H' : Hp} (t : LamX.Tabs T H) (h : Still H H') : LamX.Tabs T H' := fun p hp => by
  obtain ⟨ps, h1, h2, h3⟩ := t p hp
  refine ⟨ps, h.1 _ _ h1, h2, fun pos cv hc => ?_⟩
  obtain ⟨c, e1, e2⟩ := h3 pos cv hc
  exact ⟨c, e1, h.2 _ _ e2⟩
section
variable {P P' F F' : Addr → Prop} {H H' : Hp} {a : Addr} {u : HO}
theorem Tb.still (t : Tb P F H) (h : Still H H') : Tb P F H' := ⟨tabs_still t.t h, t.n⟩
theorem Tb.upd (t : Tb P F H) (h : Calm (H a)) : Tb P F (L2.upd H a u) := t.still (.upd h)
theorem Tb.new (t : Tb P F H) (h : H a = none) : Tb P F (L2.upd H a u) := t.still (.new h)
theorem Tb.tbl (t : Tb P F H) (h : isTab a) : ∃ ps, H a = some (.tbl ps) := by
  obtain ⟨p, hp, rfl⟩ := h
  obtain ⟨ps, h1, _⟩ := t.t p hp
  exact ⟨ps, h1⟩
theorem Tb.not (t : Tb P F H) (h : Calm (H a)) : ¬ isTab a := fun z => let ⟨ps, e⟩ := t.tbl z; h.1 ps e
theorem Tb.addF (t : Tb P F H) (h : ¬ isTab a) : Tb P (fun b => F b ∨ b = a) H := ⟨t.t, fun b hb => ⟨fun z => z.elim (t.n b hb).1 fun z => h (z ▸ hb), (t.n b hb).2⟩⟩
theorem Tb.addP (t : Tb P F H) (h : ¬ isTab a) : Tb (fun b => P b ∨ b = a) F H := ⟨t.t, fun b hb => ⟨(t.n b hb).1, fun z => z.elim (t.n b hb).2 fun z => h (z ▸ hb)⟩⟩
theorem Tb.lessP (t : Tb P F H) (h : ∀ a, P' a → P a) : Tb P' F H := ⟨t.t, fun b hb => ⟨(t.n b hb).1, fun z => (t.n b hb).2 (h b z)⟩⟩
end
end TW
set_option linter.all false
set_option Elab.async false
namespace TW
open PySem L2
def keyD : Key → PyData
  | .inl i => .int i
  | .inr x => .str x
def tupD (k : List Key) : PyData := .tuple (k.map keyD)
structure Gh where
  F : Addr → Prop
  bs : List Addr
def Same (x y : Option HO) : Prop := y = x ∨ ∃ (u : HO) (o : Obj), ((∃ ks, u = .dK ks) ∨ ∃ ks, u = .dT ks) ∧ x = some u ∧ y = some (.frz o u)
theorem Same.trans {x y z : Option HO} (h : Same x y) (g : Same y z) : Same x z := by
  rcases h with rfl | ⟨u, o, hu, rfl, rfl⟩
  · exact g
  · rcases g with rfl | ⟨u2, o2, h2, e, _⟩
    · exact .inr ⟨u, o, hu, rfl, rfl⟩
    · cases e
      rcases h2 with ⟨ks, h2⟩ | ⟨ks, h2⟩ <;> cases h2
theorem Same.lst {x y : Option HO} {xs : List V} (h : Same x y) (e : x = some (.lst xs)) : y = some (.lst xs) := by
  rcases h with rfl | ⟨u, o, hu, rfl, rfl⟩
  · exact e
  · cases e
    rcases hu with ⟨ks, h2⟩ | ⟨ks, h2⟩ <;> cases h2
theorem Same.tup {x y : Option HO} {xs : List V} (h : Same x y) (e : x = some (.tup xs)) : y = some (.tup xs) := by
  rcases h with rfl | ⟨u, o, hu, rfl, rfl⟩
  · exact e
  · cases e
    rcases hu with ⟨ks, h2⟩ | ⟨ks, h2⟩ <;> cases h2
theorem Same.some {x y : Option HO} (h : Same x y) (e : x ≠ none) : y ≠ none := by
  rcases h with rfl | ⟨u, o, hu, rfl, rfl⟩
  · exact e
  · simp
theorem Same.rd {H H' : Hp} {a : Addr} {u : HO} (h : Same (H a) (H' a)) (e : Rd H a u) : Rd H' a u := by
  rcases h with h | ⟨u2, o, hu, h1, h2⟩
  · rcases e with e | ⟨o, e⟩
    · exact .inl (h.trans e)
    · exact .inr ⟨o, h.trans e⟩
  · rcases e with e | ⟨o2, e⟩
    · rw [h1] at e
      cases e
      exact .inr ⟨o, h2⟩
    · rw [h1] at e
      cases e
      rcases hu with ⟨ks, h2⟩ | ⟨ks, h2⟩ <;> cases h2
mutual
inductive Fz (F : Addr → Prop) (H : Hp) : V → PyData → Prop
  | non : Fz F H .non .none
  | bl (b : Bool) : Fz F H (.bl b) (.bool b)
  | int (i : Int) : Fz F H (.int i) (.int i)
  | str (x : Str) : Fz F H (.str x) (.str x)
  | lst {a : Addr} {xs : List V} {ds : List PyData} : F a → H a = some (.lst xs) → FzA F H xs ds → Fz F H (.ref a) (.list ds)
  | tup {a : Addr} {xs : List V} {ds : List PyData} : F a → H a = some (.tup xs) → FzA F H xs ds → Fz F H (.ref a) (.tuple ds)
  | dic {a : Addr} {ks : List (Key × V)} {ds : List (PyData × PyData)} : F a → Rd H a (.dK ks) → FzK F H ks ds → Fz F H (.ref a) (.dict ds)
  | dit {a : Addr} {ks : List (List Key × V)} {ds : List (PyData × PyData)} : F a → Rd H a (.dT ks) → FzT F H ks ds → Fz F H (.ref a) (.dict ds)
inductive FzA (F : Addr → Prop) (H : Hp) : List V → List PyData → Prop
  | nil : FzA F H [] []
  | cons {v : V} {vs : List V} {d : PyData} {ds : List PyData} : Fz F H v d → FzA F H vs ds → FzA F H (v :: vs) (d :: ds)
inductive FzK (F : Addr → Prop) (H : Hp) : List (Key × V) → List (PyData × PyData) → Prop
  | nil : FzK F H [] []
  | cons {k : Key} {v : V} {vs : List (Key × V)} {d : PyData} {ds : List (PyData × PyData)} : Fz F H v d → FzK F H vs ds → FzK F H ((k, v) :: vs) ((keyD k, d) :: ds)
inductive FzT (F : Addr → Prop) (H : Hp) : List (List Key × V) → List (PyData × PyData) → Prop
  | nil : FzT F H [] []
  | cons {k : List Key} {v : V} {vs : List (List Key × V)} {d : PyData} {ds : List (PyData × PyData)} : Fz F H v d → FzT F H vs ds → FzT F H ((k, v) :: vs) ((tupD k, d) :: ds)
end
section
variable {F F' : Addr → Prop} {H H' : Hp}
mutual
theorem Fz.sim (hF : ∀ a, F a → F' a) (hH : ∀ a, F a → Same (H a) (H' a)) : ∀ {d : PyData} {v : V}, Fz F H v d → Fz F' H' v d
  | .none, _, h => by cases h; exact .non
  | .bool _, _, h => by cases h; exact .bl _
  | .int _, _, h => by cases h; exact .int _
  | .str _, _, h => by cases h; exact .str _
  | .list _, _, h => by
    cases h with
    | lst f e r => exact .lst (hF _ f) ((hH _ f).lst e) (FzA.sim hF hH r)
  | .tuple _, _, h => by
    cases h with
    | tup f e r => exact .tup (hF _ f) ((hH _ f).tup e) (FzA.sim hF hH r)
  | .dict _, _, h => by
    cases h with
    | dic f e r => exact .dic (hF _ f) ((hH _ f).rd e) (FzK.sim hF hH r)
    | dit f e r => exact .dit (hF _ f) ((hH _ f).rd e) (FzT.sim hF hH r)
theorem FzA.sim (hF : ∀ a, F a → F' a) (hH : ∀ a, F a → Same (H a) (H' a)) : ∀ {ds : List PyData} {vs : List V}, FzA F H vs ds → FzA F' H' vs ds
  | [], _, h => by cases h; exact .nil
  | _ :: _, _, h => by
    cases h with
    | cons a b => exact .cons (Fz.sim hF hH a) (FzA.sim hF hH b)
theorem FzK.sim (hF : ∀ a, F a → F' a) (hH : ∀ a, F a → Same (H a) (H' a)) : ∀ {ds : List (PyData × PyData)} {vs : List (Key × V)}, FzK F H vs ds → FzK F' H' vs ds
  | [], _, h => by cases h; exact .nil
  | (_, _) :: _, _, h => by
    cases h with
    | cons a b => exact .cons (Fz.sim hF hH a) (FzK.sim hF hH b)
theorem FzT.sim (hF : ∀ a, F a → F' a) (hH : ∀ a, F a → Same (H a) (H' a)) : ∀ {ds : List (PyData × PyData)} {vs : List (List Key × V)}, FzT F H vs ds → FzT F' H' vs ds
  | [], _, h => by cases h; exact .nil
  | (_, _) :: _, _, h => by
    cases h with
    | cons a b => exact .cons (Fz.sim hF hH a) (FzT.sim hF hH b)
end
theorem Fz.mono (hF : ∀ a, F a → F' a) (hH : ∀ a, F a → H' a = H a) {d : PyData} {v : V} (h : Fz F H v d) : Fz F' H' v d := h.sim hF fun a f => .inl (hH a f)
theorem FzA.mono (hF : ∀ a, F a → F' a) (hH : ∀ a, F a → H' a = H a) {ds : List PyData} {vs : List V} (h : FzA F H vs ds) : FzA F' H' vs ds := h.sim hF fun a f => .inl (hH a f)
theorem FzK.mono (hF : ∀ a, F a → F' a) (hH : ∀ a, F a → H' a = H a) {ds : List (PyData × PyData)} {vs : List (Key × V)} (h : FzK F H vs ds) : FzK F' H' vs ds := h.sim hF fun a f => .inl (hH a f)
theorem FzT.mono (hF : ∀ a, F a → F' a) (hH : ∀ a, F a → H' a = H a) {ds : List (PyData × PyData)} {vs : List (List Key × V)} (h : FzT F H vs ds) : FzT F' H' vs ds := h.sim hF fun a f => .inl (hH a f)
theorem FzA.length : ∀ {vs : List V} {ds : List PyData}, FzA F H vs ds → vs.length = ds.length
  | [], _, h => by cases h; rfl
  | _ :: _, _, h => by
    cases h with
    | cons a b => exact congrArg (· + 1) (FzA.length b)
theorem FzA.get : ∀ {vs : List V} {ds : List PyData} {i : Nat} {d : PyData}, FzA F H vs ds → ds[i]? = some d → ∃ v, vs[i]? = some v ∧ Fz F H v d
  | _, [], _, _, _, e => by simp at e
  | _, _ :: _, 0, _, h, e => by
    cases h with
    | cons a b => simp at e; subst e; exact ⟨_, rfl, a⟩
  | _, _ :: _, i + 1, _, h, e => by
    cases h with
    | cons a b =>
      obtain ⟨v, h1, h2⟩ := FzA.get (i := i) b (by simpa using e)
      exact ⟨v, by simpa using h1, h2⟩
theorem FzA.append : ∀ {xs ys : List V} {ds es : List PyData}, FzA F H xs ds → FzA F H ys es → FzA F H (xs ++ ys) (ds ++ es)
  | _, _, [], _, h, g => by cases h; exact g
  | _, _, _ :: _, _, h, g => by
    cases h with
    | cons a b => exact .cons a (b.append g)
theorem FzA.take : ∀ (n : Nat) {vs : List V} {ds : List PyData}, FzA F H vs ds → FzA F H (vs.take n) (ds.take n)
  | 0, _, _, _ => .nil
  | _ + 1, _, _, .nil => .nil
  | n + 1, _, _, .cons a b => .cons a (b.take n)
theorem FzA.drop : ∀ (n : Nat) {vs : List V} {ds : List PyData}, FzA F H vs ds → FzA F H (vs.drop n) (ds.drop n)
  | 0, _, _, h => h
  | _ + 1, _, _, .nil => .nil
  | n + 1, _, _, .cons _ b => b.drop n
theorem FzA.reverse : ∀ {vs : List V} {ds : List PyData}, FzA F H vs ds → FzA F H vs.reverse ds.reverse
  | _, _, .nil => .nil
  | _, _, .cons a b => by
    rw [List.reverse_cons, List.reverse_cons]
    exact b.reverse.append (.cons a .nil)
theorem FzA.set {v : V} {d : PyData} (r : Fz F H v d) : ∀ (i : Nat) {vs : List V} {ds : List PyData}, FzA F H vs ds → FzA F H (vs.set i v) (ds.set i d)
  | _, _, _, .nil => .nil
  | 0, _, _, .cons _ b => .cons r b
  | i + 1, _, _, .cons a b => .cons a (FzA.set r i b)
theorem FzA.rep {vs : List V} {ds : List PyData} (h : FzA F H vs ds) : ∀ n : Nat, FzA F H (List.replicate n vs).flatten (List.replicate n ds).flatten
  | 0 => .nil
  | n + 1 => by
    rw [List.replicate_succ, List.replicate_succ, List.flatten_cons, List.flatten_cons]
    exact h.append (h.rep n)
theorem FzA.ints : ∀ {vs : List V} {ns : List Int}, FzA F H vs (ns.map PyData.int) → vs = ns.map V.int
  | _, [], h => by cases h; rfl
  | _, n :: ns, h => by
    rw [List.map_cons] at h
    cases h with
    | cons a b =>
      cases a
      rw [List.map_cons, FzA.ints b]
theorem FzA.of_ints : ∀ {ns : List Int}, FzA F H (ns.map V.int) (ns.map PyData.int)
  | [] => .nil
  | n :: ns => .cons (.int n) FzA.of_ints
theorem FzA.bools : ∀ {vs : List V} {ns : List Bool}, FzA F H vs (ns.map PyData.bool) → vs = ns.map V.bl
  | _, [], h => by cases h; rfl
  | _, n :: ns, h => by
    rw [List.map_cons] at h
    cases h with
    | cons a b =>
      cases a
      rw [List.map_cons, FzA.bools b]
theorem Fz.int_inv {v : V} {i : Int} (h : Fz F H v (.int i)) : v = .int i := by cases h; rfl
theorem Fz.str_inv {v : V} {x : Str} (h : Fz F H v (.str x)) : v = .str x := by cases h; rfl
theorem Fz.bool_inv {v : V} {b : Bool} (h : Fz F H v (.bool b)) : v = .bl b := by cases h; rfl
theorem Fz.none_inv {v : V} (h : Fz F H v .none) : v = .non := by cases h; rfl
theorem Fz.list_inv {v : V} {ds : List PyData} (h : Fz F H v (.list ds)) : ∃ a xs, v = .ref a ∧ F a ∧ H a = some (.lst xs) ∧ FzA F H xs ds := by
  cases h with
  | lst f e r => exact ⟨_, _, rfl, f, e, r⟩
theorem Fz.tup_inv {v : V} {ds : List PyData} (h : Fz F H v (.tuple ds)) : ∃ a xs, v = .ref a ∧ F a ∧ H a = some (.tup xs) ∧ FzA F H xs ds := by
  cases h with
  | tup f e r => exact ⟨_, _, rfl, f, e, r⟩
end
def Ow (F : Addr → Prop) (H : Hp) (a : Addr) : PyData → Prop
  | .list ds => ∃ xs, H a = some (.lst xs) ∧ FzA F H xs ds
  | .dict ds => (∃ ks, H a = some (.dK ks) ∧ FzK F H ks ds) ∨ (∃ ks, H a = some (.dT ks) ∧ FzT F H ks ds)
  | _ => False
theorem Ow.sim {F F' : Addr → Prop} {H H' : Hp} {a : Addr} (hF : ∀ a, F a → F' a) (hH : ∀ a, F a → Same (H a) (H' a)) (ha : H' a = H a) : ∀ {d : PyData}, Ow F H a d → Ow F' H' a d
  | .list _, ⟨xs, e, r⟩ => ⟨xs, ha.trans e, r.sim hF hH⟩
  | .dict _, .inl ⟨ks, e, r⟩ => .inl ⟨ks, ha.trans e, r.sim hF hH⟩
  | .dict _, .inr ⟨ks, e, r⟩ => .inr ⟨ks, ha.trans e, r.sim hF hH⟩
theorem Ow.mono {F F' : Addr → Prop} {H H' : Hp} {a : Addr} (hF : ∀ a, F a → F' a) (hH : ∀ a, F a → H' a = H a) (ha : H' a = H a) {d : PyData} (h : Ow F H a d) : Ow F' H' a d := h.sim hF (fun a f => .inl (hH a f)) ha
theorem Ow.calm {F : Addr → Prop} {H : Hp} {a : Addr} : ∀ {d : PyData}, Ow F H a d → Calm (H a)
  | .list _, ⟨xs, e, r⟩ => by rw [e]; exact calm_lst
  | .dict _, .inl ⟨ks, e, r⟩ => by rw [e]; exact calm_dK
  | .dict _, .inr ⟨ks, e, r⟩ => by rw [e]; exact calm_dT
theorem Ow.tracked {F : Addr → Prop} {H : Hp} {a : Addr} : ∀ {d : PyData}, Ow F H a d → H a ≠ none
  | .list _, ⟨xs, e, r⟩ => by rw [e]; simp
  | .dict _, .inl ⟨ks, e, r⟩ => by rw [e]; simp
  | .dict _, .inr ⟨ks, e, r⟩ => by rw [e]; simp
structure BoxOk (H : Hp) (bs : List Addr) (b : Bx) : Prop where
  at_ : (b.small ≠ [] ∧ ∃ x g m, bs = [x, g, m] ∧ x ≠ g ∧ x ≠ m ∧ g ≠ m ∧
    H x = some (.dK [(.inr "great", .ref g), (.inr "small", .ref m), (.inr "turn", .int b.turn)]) ∧
    H g = some (.lst (b.great.map V.int)) ∧ H m = some (.lst (b.small.map V.int))) ∨
    (b.small = [] ∧ ∃ x g, bs = [x, g] ∧ x ≠ g ∧ H x = some (.lst [.ref g, .int b.turn]) ∧ H g = some (.lst (b.great.map V.int)))
theorem BoxOk.stay {H H' : Hp} {bs : List Addr} {b : Bx} (h : BoxOk H bs b) (k : ∀ c u, c ∈ bs → H c = some u → H' c = some u) : BoxOk H' bs b := by
  rcases h.at_ with ⟨h0, x, g, m, rfl, n1, n2, n3, h1, h2, h3⟩ | ⟨h0, x, g, rfl, n1, h1, h2⟩
  · exact ⟨.inl ⟨h0, x, g, m, rfl, n1, n2, n3, k _ _ (by simp) h1, k _ _ (by simp) h2, k _ _ (by simp) h3⟩⟩
  · exact ⟨.inr ⟨h0, x, g, rfl, n1, k _ _ (by simp) h1, k _ _ (by simp) h2⟩⟩
theorem BoxOk.ne {H : Hp} {bs : List Addr} {b : Bx} (h : BoxOk H bs b) : ∀ a ∈ bs, H a ≠ none := by
  rcases h.at_ with ⟨h0, x, g, m, rfl, n1, n2, n3, h1, h2, h3⟩ | ⟨h0, x, g, rfl, n1, h1, h2⟩
  · intro a ha
    simp at ha
    rcases ha with rfl | rfl | rfl
    · rw [h1]; simp
    · rw [h2]; simp
    · rw [h3]; simp
  · intro a ha
    simp at ha
    rcases ha with rfl | rfl
    · rw [h1]; simp
    · rw [h2]; simp
structure Rel (P : Addr → Prop) (G : Gh) (σ : L2.St) (H : Hp) (s : Sx) : Prop where
  len : σ.length = s.r.length
  dat : ∀ (i : Nat) (d : PyData), s.r[i]? = some (SV.dat d) → ∃ v, σ[i]? = some (some v) ∧ Fz G.F H v d
  own : ∀ (i : Nat) (d : PyData), s.r[i]? = some (SV.own d) → ∃ a, σ[i]? = some (some (V.ref a)) ∧ Ow G.F H a d ∧ ¬ G.F a ∧ ¬ P a ∧ a ∉ G.bs
  sep : ∀ (i j : Nat) (d e : PyData), i ≠ j → s.r[i]? = some (SV.own d) → s.r[j]? = some (SV.own e) → σ[i]? ≠ σ[j]?
  box : ∀ (i : Nat), s.r[i]? = some SV.box → ∃ x, G.bs.head? = some x ∧ σ[i]? = some (some (V.ref x))
  bx : ∀ b, s.b = some b → BoxOk H G.bs b
  nb : s.b = none → G.bs = []
  fr : ∀ a, G.F a → H a ≠ none
  pr : ∀ a, P a → H a ≠ none
  bF : ∀ a ∈ G.bs, ¬ G.F a ∧ ¬ P a ∧ H a ≠ none
  tb : Tb P G.F H
structure Ext (P : Addr → Prop) (G : Gh) (H : Hp) (G' : Gh) (H' : Hp) : Prop where
  F : ∀ a, G.F a → G'.F a
  kF : ∀ a, G.F a → Same (H a) (H' a)
  kP : ∀ a, P a → ¬ G.F a → H' a = H a
  new : ∀ a, G'.F a → G.F a ∨ ¬ P a ∨ ∃ xs, H a = some (.tup xs)
  bs : G.bs ≠ [] → G'.bs = G.bs
  bn : ∀ a ∈ G'.bs, a ∈ G.bs ∨ ¬ P a
theorem Ext.refl {P : Addr → Prop} {G : Gh} {H : Hp} : Ext P G H G H := ⟨fun _ h => h, fun _ _ => .inl rfl, fun _ _ _ => rfl, fun _ h => .inl h, fun _ => rfl, fun _ h => .inl h⟩
theorem Ext.trans {P : Addr → Prop} {G G1 G2 : Gh} {H H1 H2 : Hp} (x : Ext P G H G1 H1) (y : Ext P G1 H1 G2 H2) : Ext P G H G2 H2 :=
  ⟨fun a h => y.F a (x.F a h), fun a h => (x.kF a h).trans (y.kF a (x.F a h)), fun a h n => (by
    by_cases z : G1.F a
    · rcases x.new a z with q | q | ⟨xs, q⟩
      · exact absurd q n
      · exact absurd h q
      · have e1 := x.kP a h n
        rw [← e1] at q
        exact ((y.kF a z).tup q).trans (q.symm.trans e1)
    · exact (y.kP a h z).trans (x.kP a h n)), fun a h => (by
    rcases y.new a h with q | q | ⟨xs, q⟩
    · exact x.new a q
    · exact .inr (.inl q)
    · by_cases n : G.F a
      · exact .inl n
      · by_cases p : P a
        · exact .inr (.inr ⟨xs, (x.kP a p n).symm.trans q⟩)
        · exact .inr (.inl p)), fun h => by
    have e := x.bs h
    rw [y.bs (by rw [e]; exact h), e], fun a h => (y.bn a h).elim (x.bn a) .inr⟩
theorem Ext.kX {P : Addr → Prop} {G G' : Gh} {H H' : Hp} {a : Addr} {u : HO} (x : Ext P G H G' H') (h : P a) (e : H a = some u) (n : ∀ ks, u ≠ .dK ks) (n2 : ∀ ks, u ≠ .dT ks) : H' a = H a := by
  by_cases z : G.F a
  · rcases x.kF a z with q | ⟨u2, o, hu, q, _⟩
    · exact q
    · rw [e] at q
      cases q
      rcases hu with ⟨ks, h2⟩ | ⟨ks, h2⟩
      · exact absurd h2 (n ks)
      · exact absurd h2 (n2 ks)
  · exact x.kP a h z
theorem Ext.nF {P : Addr → Prop} {G G' : Gh} {H H' : Hp} {a : Addr} {u : HO} (x : Ext P G H G' H') (z : G'.F a) (n : ¬ G.F a) (p : P a) (e : H a = some u) (t : ∀ xs, u ≠ .tup xs) : False := by
  rcases x.new a z with q | q | ⟨xs, q⟩
  · exact n q
  · exact q p
  · rw [e] at q
    exact t xs (Option.some.inj q)
theorem Fz.ext {P : Addr → Prop} {G G' : Gh} {H H' : Hp} {v : V} {d : PyData} (h : Fz G.F H v d) (x : Ext P G H G' H') : Fz G'.F H' v d := h.sim x.F x.kF
theorem FzA.ext {P : Addr → Prop} {G G' : Gh} {H H' : Hp} {v : List V} {d : List PyData} (h : FzA G.F H v d) (x : Ext P G H G' H') : FzA G'.F H' v d := h.sim x.F x.kF
def OR (G : Gh) (σ : L2.St) (H : Hp) (v : V) : Opd → Prop
  | .val d => Fz G.F H v d
  | .slot i => σ[i]? = some (some v)
theorem OR.ext {P : Addr → Prop} {G G' : Gh} {σ : L2.St} {H H' : Hp} {v : V} (x : Ext P G H G' H') : ∀ {o : Opd}, OR G σ H v o → OR G' σ H' v o
  | .val _, h => Fz.ext h x
  | .slot _, h => h
abbrev ORs (G : Gh) (σ : L2.St) (H : Hp) : List V → List Opd → Prop := Paired (OR G σ H)
theorem ORs.ext {P : Addr → Prop} {G G' : Gh} {σ : L2.St} {H H' : Hp} (x : Ext P G H G' H') : ∀ {vs : List V} {os : List Opd}, ORs G σ H vs os → ORs G' σ H' vs os
  | _, _, .nil => .nil
  | _, _, .cons a b => .cons (a.ext x) (ORs.ext x b)
abbrev Pk (H : Hp) (v : V) (d : PyData) : Prop := Fz (fun _ => True) H v d
theorem Fz.pk {F : Addr → Prop} {H : Hp} {v : V} {d : PyData} (h : Fz F H v d) : Pk H v d := h.mono (fun _ _ => trivial) fun _ _ => rfl
theorem FzA.pk {F : Addr → Prop} {H : Hp} {v : List V} {d : List PyData} (h : FzA F H v d) : FzA (fun _ => True) H v d := h.mono (fun _ _ => trivial) fun _ _ => rfl
theorem Ow.nF {P : Addr → Prop} {G G' : Gh} {H H' : Hp} {a : Addr} {F : Addr → Prop} (x : Ext P G H G' H') (z : G'.F a) (n : ¬ G.F a) (p : P a) : ∀ {d : PyData}, Ow F H a d → False
  | .list _, ⟨xs, e, r⟩ => x.nF z n p e fun _ h => nomatch h
  | .dict _, .inl ⟨ks, e, r⟩ => x.nF z n p e fun _ h => nomatch h
  | .dict _, .inr ⟨ks, e, r⟩ => x.nF z n p e fun _ h => nomatch h
structure Wish where
  w : (Addr → Prop) → Gh → Hp → Er → Prop
  stuck : ∀ P G H, ¬ w P G H .stuck
  mono : ∀ {P G H G' H' e}, w P G H e → Ext P G H G' H' → w P G' H' e
def Wish.no : Wish := ⟨fun _ _ _ _ => False, fun _ _ _ h => h, fun h _ => h⟩
end TW
set_option linter.all false
set_option Elab.async false
namespace TW
open PySem L2
def SmP (base : Heap) : Prop := (∃ o, base.get? sysModules = some o) ∧ base.NoDigits
structure Cok (X : Cx) (k : Nat) : Prop where
  calm : X.calm = true
  nd : X.N.Nodup
  room : Room k X.A
  gd : X.A.guards = some []
  sm : SmP X.base
abbrev PostV (P : Addr → Prop) (σ : L2.St) (Q : VK) (G : Gh) (H : Hp) (o : Opd) (s' : Sx) : Prop := ∀ G' v H', Ext P G H G' H' → Rel P G' σ H' s' → OR G' σ H' v o → Q v H'
abbrev PostB (P : Addr → Prop) (σ : L2.St) (Q : Bool → Hp → Prop) (G : Gh) (H : Hp) (b : Bool) (s' : Sx) : Prop := ∀ G' H', Ext P G H G' H' → Rel P G' σ H' s' → Q b H'
abbrev PostA (P : Addr → Prop) (σ : L2.St) (Q : List V → Hp → Prop) (G : Gh) (H : Hp) (os : List Opd) (s' : Sx) : Prop := ∀ G' vs H', Ext P G H G' H' → Rel P G' σ H' s' → ORs G' σ H' vs os → Q vs H'
def ClE (W : Wish) (te : TE) (m : M Opd) : Prop := ∀ P G σ H s (Q : VK), Rel P G σ H s → pw m s (PostV P σ Q G H) (W.w P G H) → te σ H Q
def ClT (W : Wish) (tt : TT) (m : M Bool) : Prop := ∀ P G σ H s (Q : Bool → Hp → Prop), Rel P G σ H s → pw m s (PostB P σ Q G H) (W.w P G H) → tt σ H Q
def ClA (W : Wish) (ta : TA) (m : M (List Opd)) : Prop := ∀ P G σ H s (Q : List V → Hp → Prop), Rel P G σ H s → pw m s (PostA P σ Q G H) (W.w P G H) → ta σ H Q
structure Sd (X : Cx) (W : Wish) (e : Expr) (m : M Opd) : Prop where
  ex : ∃ te, PE X e te ∧ ClE W te m
structure SdT (X : Cx) (W : Wish) (e : Expr) (m : M Bool) : Prop where
  ex : ∃ tt, PT X e tt ∧ ClT W tt m
structure SdA (X : Cx) (W : Wish) (es : List Expr) (m : M (List Opd)) : Prop where
  ex : ∃ ta, PA X es ta ∧ ClA W ta m
section
variable {P : Addr → Prop} {G G' : Gh} {σ : L2.St} {H H' : Hp} {s s' : Sx} {v : V} {o : Opd} {W : Wish}
def Mono {α : Type} (P : Addr → Prop) (Qp : Gh → Hp → α → Sx → Prop) : Prop := ∀ G H G1 H1 (a : α) (s : Sx), Ext P G H G1 H1 → Qp G H a s → Qp G1 H1 a s
theorem PostV.mono {Q : VK} : Mono P (PostV P σ Q) := fun _ _ _ _ _ _ x q G' v H' y => q G' v H' (x.trans y)
theorem PostB.mono {Q : Bool → Hp → Prop} : Mono P (PostB P σ Q) := fun _ _ _ _ _ _ x q G' H' y => q G' H' (x.trans y)
theorem PostA.mono {Q : List V → Hp → Prop} : Mono P (PostA P σ Q) := fun _ _ _ _ _ _ x q G' v H' y => q G' v H' (x.trans y)
theorem pw_ext {α : Type} {m : M α} {Qp : Gh → Hp → α → Sx → Prop} (hm : Mono P Qp) (x : Ext P G H G' H') (h : pw m s (Qp G H) (W.w P G H)) : pw m s (Qp G' H') (W.w P G' H') :=
  pw_mono h (fun _ _ q => hm _ _ _ _ _ _ x q) fun _ q => W.mono q x
theorem ClE.bind {α : Type} {te : TE} {m : M Opd} {f : Opd → M α} {Q : VK} {Qp : Gh → Hp → α → Sx → Prop} (c : ClE W te m) (hm : Mono P Qp) (R : Rel P G σ H s) (hw : pw (m >>= f) s (Qp G H) (W.w P G H))
    (k : ∀ o s1 G1 v H1, Ext P G H G1 H1 → Rel P G1 σ H1 s1 → OR G1 σ H1 v o → pw (f o) s1 (Qp G1 H1) (W.w P G1 H1) → Q v H1) : te σ H Q := by
  rw [pw_bind] at hw
  exact c P G σ H s Q R (pw_mono hw (fun o s1 h G1 v H1 x R1 r => k o s1 G1 v H1 x R1 r (pw_ext hm x h)) fun _ q => q)
theorem ClT.bind {α : Type} {te : TT} {m : M Bool} {f : Bool → M α} {Q : Bool → Hp → Prop} {Qp : Gh → Hp → α → Sx → Prop} (c : ClT W te m) (hm : Mono P Qp) (R : Rel P G σ H s) (hw : pw (m >>= f) s (Qp G H) (W.w P G H))
    (k : ∀ o s1 G1 H1, Ext P G H G1 H1 → Rel P G1 σ H1 s1 → pw (f o) s1 (Qp G1 H1) (W.w P G1 H1) → Q o H1) : te σ H Q := by
  rw [pw_bind] at hw
  exact c P G σ H s Q R (pw_mono hw (fun o s1 h G1 H1 x R1 => k o s1 G1 H1 x R1 (pw_ext hm x h)) fun _ q => q)
theorem ClA.bind {α : Type} {te : TA} {m : M (List Opd)} {f : List Opd → M α} {Q : List V → Hp → Prop} {Qp : Gh → Hp → α → Sx → Prop} (c : ClA W te m) (hm : Mono P Qp) (R : Rel P G σ H s) (hw : pw (m >>= f) s (Qp G H) (W.w P G H))
    (k : ∀ o s1 G1 v H1, Ext P G H G1 H1 → Rel P G1 σ H1 s1 → ORs G1 σ H1 v o → pw (f o) s1 (Qp G1 H1) (W.w P G1 H1) → Q v H1) : te σ H Q := by
  rw [pw_bind] at hw
  exact c P G σ H s Q R (pw_mono hw (fun o s1 h G1 v H1 x R1 r => k o s1 G1 v H1 x R1 r (pw_ext hm x h)) fun _ q => q)
def Gh.add (G : Gh) (a : Addr) : Gh := ⟨fun b => G.F b ∨ b = a, G.bs⟩
theorem Rel.fix {a : Addr} (R : Rel P G σ H s) (ha : H a ≠ none) (hP : ¬ P a) (hb : a ∉ G.bs) (ho : ∀ (i : Nat) d, s.r[i]? = some (SV.own d) → σ[i]? ≠ some (some (V.ref a))) (ht : ¬ isTab a) : Ext P G H (G.add a) H ∧ Rel P (G.add a) σ H s := by
  refine ⟨⟨fun _ h => .inl h, fun _ _ => .inl rfl, fun _ _ _ => rfl, fun b h => ?_, fun _ => rfl, fun _ h => .inl h⟩, R.len, fun i d e => ?_, fun i d e => ?_, R.sep, R.box, R.bx, R.nb, fun b h => ?_, R.pr, fun b h => ⟨fun z => ?_, (R.bF b h).2⟩, R.tb.addF ht⟩
  · rcases h with h | h
    · exact .inl h
    · exact .inr (.inl (h ▸ hP))
  · obtain ⟨v, h1, h2⟩ := R.dat i d e
    exact ⟨v, h1, h2.mono (fun _ h => .inl h) fun _ _ => rfl⟩
  · obtain ⟨b, h1, h2, h3, h4, h5⟩ := R.own i d e
    refine ⟨b, h1, h2.mono (fun _ h => .inl h) (fun _ _ => rfl) rfl, fun z => ?_, h4, h5⟩
    rcases z with z | z
    · exact h3 z
    · exact ho i d e (z ▸ h1)
  · rcases h with h | h
    · exact R.fr b h
    · exact h ▸ ha
  · rcases z with z | z
    · exact (R.bF b h).1 z
    · exact hb (z ▸ h)
theorem Rel.lay {a : Addr} {u : HO} (R : Rel P G σ H s) (hn : H a = none) : Ext P G H G (upd H a u) ∧ Rel P G σ (upd H a u) s ∧ ¬ G.F a ∧ ¬ P a ∧ a ∉ G.bs ∧ (∀ (i : Nat) d, s.r[i]? = some (SV.own d) → σ[i]? ≠ some (some (V.ref a))) := by
  have kF : ∀ b, G.F b → upd H a u b = H b := fun b h => upd_ne fun z => R.fr b h (z ▸ hn)
  have kP : ∀ b, P b → upd H a u b = H b := fun b h => upd_ne fun z => R.pr b h (z ▸ hn)
  have up : ∀ b, H b ≠ none → upd H a u b ≠ none := fun b h => by
    have n : b ≠ a := fun z => h (by rw [z]; exact hn)
    rw [upd_ne n]; exact h
  have kn : ∀ b, H b ≠ none → upd H a u b = H b := fun b h => upd_ne fun z => h (by rw [z]; exact hn)
  refine ⟨⟨fun _ h => h, fun b h => .inl (kF b h), fun b h _ => kP b h, fun _ h => .inl h, fun _ => rfl, fun _ h => .inl h⟩, ⟨R.len, fun i d e => ?_, fun i d e => ?_, R.sep, R.box, fun b e => ?_, R.nb, fun b h => up b (R.fr b h), fun b h => up b (R.pr b h), fun b h => ⟨(R.bF b h).1, (R.bF b h).2.1, up b (R.bF b h).2.2⟩, R.tb.new hn⟩, fun z => R.fr a z hn, fun z => R.pr a z hn, fun z => (R.bF a z).2.2 hn, fun i d e z => ?_⟩
  · obtain ⟨v, h1, h2⟩ := R.dat i d e
    exact ⟨v, h1, h2.mono (fun _ h => h) kF⟩
  · obtain ⟨b, h1, h2, h3⟩ := R.own i d e
    exact ⟨b, h1, h2.mono (fun _ h => h) kF (kn b h2.tracked), h3⟩
  · exact (R.bx b e).stay fun c u' _ hc => (kn c (by rw [hc]; simp)).trans hc
  · obtain ⟨b, h1, h2, _⟩ := R.own i d e
    rw [h1] at z
    cases z
    exact h2.tracked hn
theorem Rel.new {a : Addr} {u : HO} (R : Rel P G σ H s) (hn : H a = none) : Ext P G H (G.add a) (upd H a u) ∧ Rel P (G.add a) σ (upd H a u) s := by
  obtain ⟨x, R1, h1, h2, h3, h4⟩ := R.lay (u := u) hn
  obtain ⟨y, R2⟩ := R1.fix (a := a) (by rw [upd_same]; simp) h2 h3 h4 (R.tb.not (by rw [hn]; exact calm_none))
  exact ⟨x.trans y, R2⟩
theorem getD_of {l : List SV} {i : Nat} {x : SV} (h : l.getD i .no = x) (hx : x ≠ .no) : l[i]? = some x := by
  rw [List.getD_eq_getElem?_getD] at h
  cases e : l[i]? with
  | none => rw [e] at h; exact absurd h.symm hx
  | some y => rw [e] at h; exact congrArg some h
def Ct (G : Gh) (H : Hp) (v : V) : PyData → Prop
  | .list ds => ∃ a xs, v = .ref a ∧ H a = some (.lst xs) ∧ FzA G.F H xs ds
  | .dict ds => ∃ a, v = .ref a ∧ ((∃ ks, Rd H a (.dK ks) ∧ FzK G.F H ks ds) ∨ (∃ ks, Rd H a (.dT ks) ∧ FzT G.F H ks ds))
  | d => Fz G.F H v d
theorem Fz.ct {d : PyData} (h : Fz G.F H v d) : Ct G H v d := by
  cases h with
  | lst f e r => exact ⟨_, _, rfl, e, r⟩
  | dic f e r => exact ⟨_, rfl, .inl ⟨_, e, r⟩⟩
  | dit f e r => exact ⟨_, rfl, .inr ⟨_, e, r⟩⟩
  | non => exact .non
  | bl b => exact .bl b
  | int i => exact .int i
  | str x => exact .str x
  | tup f e r => exact .tup f e r
theorem Ow.ct {a : Addr} : ∀ {d : PyData}, Ow G.F H a d → Ct G H (.ref a) d
  | .list _, ⟨xs, e, r⟩ => ⟨a, xs, rfl, e, r⟩
  | .dict _, .inl ⟨ks, e, r⟩ => ⟨a, rfl, .inl ⟨ks, .inl e, r⟩⟩
  | .dict _, .inr ⟨ks, e, r⟩ => ⟨a, rfl, .inr ⟨ks, .inl e, r⟩⟩
theorem Ct.pk : ∀ {d : PyData} {v : V}, Ct G H v d → Pk H v d
  | .list _, _, ⟨_, _, e0, e, r⟩ => by rw [e0]; exact .lst trivial e r.pk
  | .dict _, _, ⟨_, e0, .inl ⟨_, e, r⟩⟩ => by rw [e0]; exact .dic trivial e (r.mono (fun _ _ => trivial) fun _ _ => rfl)
  | .dict _, _, ⟨_, e0, .inr ⟨_, e, r⟩⟩ => by rw [e0]; exact .dit trivial e (r.mono (fun _ _ => trivial) fun _ _ => rfl)
  | .none, _, h => Fz.pk h
  | .bool _, _, h => Fz.pk h
  | .int _, _, h => Fz.pk h
  | .str _, _, h => Fz.pk h
  | .tuple _, _, h => Fz.pk h
abbrev CtA (G : Gh) (H : Hp) : List V → List PyData → Prop := Paired (Ct G H)
theorem peek_ok {α : Type} {f : PyData → M α} {Q : α → Sx → Prop} {E : Er → Prop} (R : Rel P G σ H s) (r : OR G σ H v o) (hE : ¬ E .stuck) (hw : pw (peek o >>= f) s Q E) : ∃ d, Ct G H v d ∧ pw (f d) s Q E := by
  cases o with
  | val d => exact ⟨d, Fz.ct r, hw⟩
  | slot i =>
    unfold peek at hw
    rw [pw_bind, pw_bind, pw_getS] at hw
    have r : σ[i]? = some (some v) := r
    cases e : s.r.getD i .no with
    | no => rw [e] at hw; exact absurd hw hE
    | box => rw [e] at hw; exact absurd hw hE
    | dat d =>
      rw [e] at hw
      obtain ⟨w, h1, h2⟩ := R.dat i d (getD_of e (by simp))
      rw [r] at h1; cases h1
      exact ⟨d, h2.ct, hw⟩
    | own d =>
      rw [e] at hw
      obtain ⟨a, h1, h2, _⟩ := R.own i d (getD_of e (by simp))
      rw [r] at h1; cases h1
      exact ⟨d, h2.ct, hw⟩
theorem peeks_ok {α : Type} : ∀ {os : List Opd} {vs : List V} {f : List PyData → M α} {Q : α → Sx → Prop} {E : Er → Prop}, Rel P G σ H s → ORs G σ H vs os → ¬ E .stuck → pw (peeks os >>= f) s Q E → ∃ ds, CtA G H vs ds ∧ pw (f ds) s Q E
  | [], _, f, _, _, _, r, _, hw => by
    cases r
    exact ⟨[], .nil, hw⟩
  | o :: os, _, f, Q, E, R, r, hE, hw => by
    cases r with
    | cons r1 r2 =>
      unfold peeks at hw
      rw [pw_bind, pw_bind] at hw
      obtain ⟨d, h1, h2⟩ := peek_ok (f := fun d => do let ds ← peeks os; f (d :: ds)) R r1 hE (by
        rw [pw_bind]
        refine pw_mono hw (fun d s1 h => ?_) fun _ h => h
        rw [pw_bind] at h ⊢
        exact pw_mono h (fun ds s2 h => h) fun _ h => h)
      obtain ⟨ds, h3, h4⟩ := peeks_ok (f := fun ds => f (d :: ds)) R r2 hE h2
      exact ⟨d :: ds, .cons h1 h3, h4⟩
theorem Rel.own_to_dat {a : Addr} {d : PyData} {i : Nat} (R : Rel P G σ H s) (e : s.r[i]? = some (SV.own d)) (hs : σ[i]? = some (some (V.ref a))) : Ext P G H (G.add a) H ∧ Rel P (G.add a) σ H { s with r := s.r.set i (.dat d) } ∧ Fz (G.add a).F H (.ref a) d := by
  obtain ⟨b, h1, h2, h3, h4, h5⟩ := R.own i d e
  rw [hs] at h1; cases h1
  have hi : i < s.r.length := (List.getElem?_eq_some_iff.mp e).1
  have other : ∀ {j : Nat} {x : SV}, (s.r.set i (.dat d))[j]? = some x → (j = i ∧ x = .dat d) ∨ (j ≠ i ∧ s.r[j]? = some x) := fun {j x} h => by
    by_cases hj : j = i
    · subst hj
      rw [List.getElem?_set_self hi] at h
      cases h
      exact .inl ⟨rfl, rfl⟩
    · rw [List.getElem?_set_ne (Ne.symm hj)] at h
      exact .inr ⟨hj, h⟩
  have z : Fz (G.add a).F H (.ref a) d := by
    have up : ∀ c, G.F c → (G.add a).F c := fun c h => .inl h
    have me : (G.add a).F a := .inr rfl
    cases d with
    | list ds => obtain ⟨xs, e1, r⟩ := h2; exact .lst me e1 (r.mono up fun _ _ => rfl)
    | dict ds =>
      rcases h2 with ⟨ks, e1, r⟩ | ⟨ks, e1, r⟩
      · exact .dic me (.inl e1) (r.mono up fun _ _ => rfl)
      · exact .dit me (.inl e1) (r.mono up fun _ _ => rfl)
    | none => exact h2.elim
    | bool _ => exact h2.elim
    | int _ => exact h2.elim
    | str _ => exact h2.elim
    | tuple _ => exact h2.elim
  refine ⟨⟨fun _ h => .inl h, fun _ _ => .inl rfl, fun _ _ _ => rfl, fun b h => ?_, fun _ => rfl, fun _ h => .inl h⟩, ⟨by rw [R.len]; simp, fun j x h => ?_, fun j x h => ?_, fun j l x y hjl h h' => ?_, fun j h => ?_, R.bx, R.nb, fun b h => ?_, R.pr, fun b h => ⟨fun z => ?_, (R.bF b h).2⟩, R.tb.addF (R.tb.not h2.calm)⟩, z⟩
  · rcases h with h | h
    · exact .inl h
    · exact .inr (h ▸ (.inl h4))
  · rcases other h with ⟨rfl, q⟩ | ⟨_, q⟩
    · cases q
      exact ⟨_, hs, z⟩
    · obtain ⟨v, k1, k2⟩ := R.dat j x q
      exact ⟨v, k1, k2.mono (fun _ h => .inl h) fun _ _ => rfl⟩
  · rcases other h with ⟨_, q⟩ | ⟨hj, q⟩
    · cases q
    · obtain ⟨b, k1, k2, k3, k4, k5⟩ := R.own j x q
      refine ⟨b, k1, k2.mono (fun _ h => .inl h) (fun _ _ => rfl) rfl, fun w => ?_, k4, k5⟩
      rcases w with w | w
      · exact k3 w
      · exact R.sep j i x d hj q e (by rw [k1, hs, w])
  · rcases other h with ⟨_, q⟩ | ⟨_, q⟩
    · cases q
    · rcases other h' with ⟨_, q'⟩ | ⟨_, q'⟩
      · cases q'
      · exact R.sep j l x y hjl q q'
  · rcases other h with ⟨_, q⟩ | ⟨_, q⟩
    · cases q
    · exact R.box j q
  · rcases h with h | h
    · exact R.fr b h
    · exact h ▸ h2.tracked
  · rcases z with z | z
    · exact (R.bF b h).1 z
    · exact h5 (z ▸ h)
theorem take_ok {α : Type} {f : PyData → M α} {Qp : Gh → Hp → α → Sx → Prop} (hm : Mono P Qp) (R : Rel P G σ H s) (r : OR G σ H v o) (hw : pw (take o >>= f) s (Qp G H) (W.w P G H)) :
    ∃ G' s' d, Ext P G H G' H ∧ Rel P G' σ H s' ∧ Fz G'.F H v d ∧ pw (f d) s' (Qp G' H) (W.w P G' H) := by
  cases o with
  | val d => exact ⟨G, s, d, .refl, R, r, hw⟩
  | slot i =>
    unfold take at hw
    rw [pw_bind, pw_bind, pw_getS] at hw
    have r : σ[i]? = some (some v) := r
    cases e : s.r.getD i .no with
    | no => rw [e] at hw; exact absurd hw (W.stuck _ _ _)
    | box => rw [e] at hw; exact absurd hw (W.stuck _ _ _)
    | dat d =>
      rw [e] at hw
      obtain ⟨w, h1, h2⟩ := R.dat i d (getD_of e (by simp))
      rw [r] at h1; cases h1
      exact ⟨G, s, d, .refl, R, h2, hw⟩
    | own d =>
      rw [e] at hw
      have e' := getD_of e (by simp)
      obtain ⟨a, h1, _⟩ := R.own i d e'
      rw [r] at h1; cases h1
      obtain ⟨x, R', z⟩ := R.own_to_dat e' r
      exact ⟨_, _, d, x, R', z, pw_ext (s := { s with r := s.r.set i (.dat d) }) hm x hw⟩
theorem takes_ok {α : Type} {Qp : Gh → Hp → α → Sx → Prop} (hm : Mono P Qp) : ∀ {os : List Opd} {vs : List V} {f : List PyData → M α} {G : Gh} {s : Sx}, Rel P G σ H s → ORs G σ H vs os → pw (takes os >>= f) s (Qp G H) (W.w P G H) →
    ∃ G' s' ds, Ext P G H G' H ∧ Rel P G' σ H s' ∧ FzA G'.F H vs ds ∧ pw (f ds) s' (Qp G' H) (W.w P G' H)
  | [], _, f, _, _, R, r, hw => by
    cases r
    exact ⟨_, _, [], .refl, R, .nil, hw⟩
  | o :: os, _, f, _, _, R, r, hw => by
    cases r with
    | cons r1 r2 =>
      unfold takes at hw
      rw [pw_bind, pw_bind] at hw
      obtain ⟨G1, s1, d, x1, R1, z1, h1⟩ := take_ok (f := fun d => do let ds ← takes os; f (d :: ds)) hm R r1 (by
        rw [pw_bind]
        refine pw_mono hw (fun d s1 h => ?_) fun _ h => h
        rw [pw_bind] at h ⊢
        exact pw_mono h (fun ds s2 h => h) fun _ h => h)
      obtain ⟨G2, s2, ds, x2, R2, z2, h2⟩ := takes_ok hm (f := fun ds => f (d :: ds)) R1 (ORs.ext x1 r2) h1
      exact ⟨G2, s2, d :: ds, x1.trans x2, R2, .cons (z1.ext x2) z2, h2⟩
end
end TW
set_option linter.all false
set_option Elab.async false
namespace TW
open PySem L2
section
variable {P : Addr → Prop} {G G' : Gh} {σ : L2.St} {H H' : Hp} {s s' : Sx} {v : V} {o : Opd} {W : Wish} {X : Cx} {k : Nat}
theorem Rel.newTup {p : Addr} {xs : List V} {ds : List PyData} (R : Rel P G σ H s) (hp : H p = none) (r : FzA G.F H xs ds) :
    Ext P G H (G.add p) (upd H p (.tup xs)) ∧ Rel P (G.add p) σ (upd H p (.tup xs)) s ∧ Fz (G.add p).F (upd H p (.tup xs)) (.ref p) (.tuple ds) := by
  obtain ⟨x, R'⟩ := R.new (u := .tup xs) hp
  exact ⟨x, R', .tup (.inr rfl) upd_same (r.ext x)⟩
theorem Rel.newLst {p : Addr} {xs : List V} {ds : List PyData} (R : Rel P G σ H s) (hp : H p = none) (r : FzA G.F H xs ds) :
    Ext P G H (G.add p) (upd H p (.lst xs)) ∧ Rel P (G.add p) σ (upd H p (.lst xs)) s ∧ Fz (G.add p).F (upd H p (.lst xs)) (.ref p) (.list ds) := by
  obtain ⟨x, R'⟩ := R.new (u := .lst xs) hp
  exact ⟨x, R', .lst (.inr rfl) upd_same (r.ext x)⟩
theorem lim_line {n : Nat} (h : n ≤ lim) : n ≤ sizeLine := Nat.le_trans h (by rw [sizeLine_eq]; decide)
theorem Ct.tup {xs : List PyData} (h : Ct G H v (.tuple xs)) : ∃ a vs, v = .ref a ∧ G.F a ∧ H a = some (.tup vs) ∧ FzA G.F H vs xs := Fz.tup_inv h
theorem Ct.int_ {i : Int} (h : Ct G H v (.int i)) : v = .int i := Fz.int_inv h
theorem Ct.str_ {i : Str} (h : Ct G H v (.str i)) : v = .str i := Fz.str_inv h
theorem Ct.bool_ {i : Bool} (h : Ct G H v (.bool i)) : v = .bl i := Fz.bool_inv h
theorem Ct.none_ (h : Ct G H v .none) : v = .non := Fz.none_inv h
def OpOk (r : R2) (f : PyData → PyData → Option PyData) : Prop := ∀ P G σ H s x y d e z (Q : VK), Rel P G σ H s → Ct G H x d → Ct G H y e → f d e = some z →
  (∀ G' v H', Ext P G H G' H' → Rel P G' σ H' s → Fz G'.F H' v z → Q v H') → r x y H Q
theorem cl_op {r : R2} {f : PyData → PyData → Option PyData} {ta tb : TE} {ma mb : M Opd} (ok : OpOk r f) (ha : ClE W ta ma) (hb : ClE W tb mb) : ClE W (tOp r ta tb) (eOp f ma mb) := by
  intro P G σ H s Q R hw
  unfold eOp at hw
  refine ha.bind PostV.mono R hw fun o1 s1 G1 v1 H1 x1 R1 r1 hw1 => ?_
  refine hb.bind PostV.mono R1 hw1 fun o2 s2 G2 v2 H2 x2 R2 r2 hw2 => ?_
  obtain ⟨d, c1, hw3⟩ := peek_ok R2 (OR.ext x2 r1) (W.stuck _ _ _) hw2
  obtain ⟨e, c2, hw4⟩ := peek_ok R2 r2 (W.stuck _ _ _) hw3
  rw [pw_bind, pw_optM (W.stuck _ _ _)] at hw4
  obtain ⟨z, ez, hw5⟩ := hw4
  exact ok P G2 σ H2 s2 v1 v2 d e z Q R2 c1 c2 ez fun G' v H' x R' r => hw5 G' v H' x R' r
theorem sd_bin {op : Operator} {o : Bop} {r : R2} {a b : Expr} {pos : Pos} {ma mb : M Opd} (hr : OpR X (binaryOp op) r) (ok : OpOk r (binD o)) (ha : Sd X W a ma) (hb : Sd X W b mb) : Sd X W (.BinOp a op b pos) (eBin o ma mb) := by
  obtain ⟨ta, pa, ca⟩ := ha.ex
  obtain ⟨tb, pb, cb⟩ := hb.ex
  exact ⟨_, pe_op hr pa pb, cl_op ok ca cb⟩
theorem sd_add {a b : Expr} {pos : Pos} {ma mb : M Opd} (ha : Sd X W a ma) (hb : Sd X W b mb) : Sd X W (.BinOp a .Add b pos) (eBin .add ma mb) := by
  refine sd_bin (op_add.or (op_add_str.or (op_catA.or op_cat))) ?_ ha hb
  intro P G σ H s x y d e z Q R cx cy ez h
  cases d <;> cases e <;> simp only [binD, reduceCtorEq] at ez
  · cases ez
    exact .inl ⟨_, _, cx.int_, cy.int_, h G _ H .refl R (.int _)⟩
  · split at ez <;> cases ez
    rename_i hl
    exact .inr (.inl ⟨_, _, cx.str_, cy.str_, lim_line hl, h G _ H .refl R (.str _)⟩)
  · split at ez <;> cases ez
    rename_i hl
    obtain ⟨a1, xs, e1, h1, r1⟩ := cx
    obtain ⟨a2, ys, e2, h2, r2⟩ := cy
    refine .inr (.inr (.inr ⟨a1, a2, xs, ys, e1, e2, h1, h2, by rw [r1.length, r2.length]; exact lim_line hl, fun p hp => ?_⟩))
    obtain ⟨x, R', r⟩ := R.newLst hp (r1.append r2)
    exact h _ _ _ x R' r
  · split at ez <;> cases ez
    rename_i hl
    obtain ⟨a1, xs, e1, f1, h1, r1⟩ := cx.tup
    obtain ⟨a2, ys, e2, f2, h2, r2⟩ := cy.tup
    refine .inr (.inr (.inl ⟨a1, a2, xs, ys, e1, e2, SqT.of h1, SqT.of h2, by rw [r1.length, r2.length]; exact lim_line hl, fun q => ?_, fun _ q => ?_, fun _ _ p hp => ?_⟩))
    · subst q
      cases r1
      exact h G _ H .refl R (.tup f2 h2 r2)
    · subst q
      cases r2
      rw [List.append_nil] at h
      exact h G _ H .refl R (.tup f1 h1 r1)
    · obtain ⟨x, R', r⟩ := R.newTup hp (r1.append r2)
      exact h _ _ _ x R' r
theorem sd_sub {a b : Expr} {pos : Pos} {ma mb : M Opd} (ha : Sd X W a ma) (hb : Sd X W b mb) : Sd X W (.BinOp a .Sub b pos) (eBin .sub ma mb) := by
  refine sd_bin op_sub ?_ ha hb
  intro P G σ H s x y d e z Q R cx cy ez h
  cases d <;> cases e <;> simp only [binD, reduceCtorEq] at ez
  cases ez
  exact ⟨_, _, cx.int_, cy.int_, h G _ H .refl R (.int _)⟩
theorem sd_pow {a b : Expr} {pos : Pos} {ma mb : M Opd} (ha : Sd X W a ma) (hb : Sd X W b mb) : Sd X W (.BinOp a .Pow b pos) (eBin .pow ma mb) := by
  refine sd_bin op_pow ?_ ha hb
  intro P G σ H s x y d e z Q R cx cy ez h
  cases d <;> cases e <;> simp only [binD, reduceCtorEq] at ez
  split at ez <;> cases ez
  rename_i hc
  exact ⟨_, _, cx.int_, cy.int_, hc, h G _ H .refl R (.int _)⟩
theorem sd_neg {a : Expr} {pos : Pos} {ma : M Opd} (ha : Sd X W a ma) : Sd X W (.UnaryOp .USub a pos) (eUn neD ma) := by
  obtain ⟨ta, pa, ca⟩ := ha.ex
  refine ⟨_, pe_un un_neg pa, ?_⟩
  intro P G σ H s Q R hw
  unfold eUn at hw
  refine ca.bind PostV.mono R hw fun o1 s1 G1 v1 H1 x1 R1 r1 hw1 => ?_
  obtain ⟨d, c1, hw3⟩ := peek_ok R1 r1 (W.stuck _ _ _) hw1
  rw [pw_bind, pw_optM (W.stuck _ _ _)] at hw3
  obtain ⟨z, ez, hw5⟩ := hw3
  cases d <;> simp only [neD, reduceCtorEq] at ez
  cases ez
  exact ⟨_, c1.int_, hw5 G1 _ H1 .refl R1 (.int _)⟩
theorem sd_var {i : Nat} {x : Str} {pos : Pos} (hN : X.N[i]? = some x) (hv : Vis X.env.scope x) (hd : (x == ("__debug__" : Str)) = false := by decide) (hcd : (x == ("__classdict__" : Str)) = false := by decide) : Sd X W (.Name x pos) (eVar i) := by
  refine ⟨_, pe_var hN hv hd hcd, ?_⟩
  intro P G σ H s Q R hw
  unfold eVar at hw
  rw [pw_bind, pw_getS] at hw
  have fin : ∀ w, σ[i]? = some (some w) → PostV P σ Q G H (.slot i) s → tVar i σ H Q := fun w h q => ⟨w, h, q G w H .refl R h⟩
  cases e : s.r.getD i .no with
  | no => rw [e] at hw; exact absurd hw (W.stuck _ _ _)
  | dat d =>
    rw [e] at hw
    obtain ⟨w, h1, _⟩ := R.dat i d (getD_of e (by simp))
    exact fin w h1 hw
  | own d =>
    rw [e] at hw
    obtain ⟨a, h1, _⟩ := R.own i d (getD_of e (by simp))
    exact fin _ h1 hw
  | box =>
    rw [e] at hw
    obtain ⟨a, _, h1⟩ := R.box i (getD_of e (by simp))
    exact fin _ h1 hw
theorem cl_c {v : V} {d : PyData} (h : ∀ F H, Fz F H v d) : ClE W (tC v) (eC d) := fun P G σ H s Q R hw => hw G v H .refl R (h G.F H)
theorem sd_int {i : Int} {j pos} : Sd X W (.Constant (.int i) j pos) (eC (.int i)) := ⟨_, pe_int, cl_c fun _ _ => .int i⟩
theorem sd_bool {b : Bool} {j pos} : Sd X W (.Constant (.bool b) j pos) (eC (.bool b)) := ⟨_, pe_bl, cl_c fun _ _ => .bl b⟩
theorem sd_none {j pos} : Sd X W (.Constant .none j pos) (eC .none) := ⟨_, pe_non, cl_c fun _ _ => .non⟩
theorem sd_str {x : Str} {j pos} : Sd X W (.Constant (.str x) j pos) (eC (.str x)) := ⟨_, pe_str, cl_c fun _ _ => .str x⟩
theorem sd_glob {x : Str} {i : Int} {pos : Pos} (hg : Gl X x) (hm : ∃ t, X.mg x = some (.int i t)) (hd : (x == ("__debug__" : Str)) = false := by decide) : Sd X W (.Name x pos) (eC (.int i)) := by
  obtain ⟨t, e⟩ := hm
  exact ⟨_, pe_glob (v := .int i) hg e ⟨t, rfl⟩ hd, cl_c fun _ _ => .int i⟩
theorem sa_nil : SdA X W [] aNil := ⟨_, pa_nil, fun P G σ H s Q R hw => hw G [] H .refl R .nil⟩
theorem sa_cons {e : Expr} {es : List Expr} {m : M Opd} {r : M (List Opd)} (h : Sd X W e m) (hr : SdA X W es r) (hs : starEach (e :: es) X.env = (false, eval e X.env) :: starEach es X.env := by rfl) : SdA X W (e :: es) (aCons m r) := by
  obtain ⟨te, pe, ce⟩ := h.ex
  obtain ⟨ta, pa, ca⟩ := hr.ex
  refine ⟨_, pa_cons pe pa hs, ?_⟩
  intro P G σ H s Q R hw
  unfold aCons at hw
  refine ce.bind PostA.mono R hw fun o1 s1 G1 v1 H1 x1 R1 r1 hw1 => ?_
  refine ca.bind PostA.mono R1 hw1 fun o2 s2 G2 v2 H2 x2 R2 r2 hw2 => ?_
  exact hw2 G2 _ H2 .refl R2 (.cons (OR.ext x2 r1) r2)
theorem sd_tup {es : List Expr} {x1 : Nat} {pos : Pos} {m : M (List Opd)} (h : SdA X W es m) : Sd X W (.Tuple es x1 pos) (eTup m) := by
  obtain ⟨ta, pa, ca⟩ := h.ex
  refine ⟨_, pe_tup pa, ?_⟩
  intro P G σ H s Q R hw
  unfold eTup at hw
  refine ca.bind PostV.mono R hw fun os s1 G1 vs H1 x1 R1 r1 hw1 => ?_
  obtain ⟨G2, s2, ds, x2, R2, z, hw2⟩ := takes_ok PostV.mono R1 r1 hw1
  split at hw2
  · rename_i hl
    refine ⟨by rw [z.length]; exact lim_line hl, fun p hp => ?_⟩
    obtain ⟨x3, R3, r3⟩ := R2.newTup hp z
    exact hw2 _ _ _ x3 R3 r3
  · exact absurd hw2 (W.stuck _ _ _)
end
end TW
set_option linter.all false
set_option Elab.async false
namespace TW
open PySem L2
section
variable {P : Addr → Prop} {G G' : Gh} {σ : L2.St} {H H' : Hp} {s s' : Sx} {v : V} {o : Opd} {W : Wish} {X : Cx} {k : Nat}
mutual
theorem Fz.dp {K : PySem.W.Frag} {F : Addr → Prop} : ∀ {d : PyData} {v : V}, d.canLay0 = true → Fz F H v d → Dp K H v d
  | .none, _, _, h => by cases h; exact .non
  | .bool _, _, _, h => by cases h; exact .bl _
  | .int _, _, _, h => by cases h; exact .int _
  | .str _, _, _, h => by cases h; exact .str _
  | .list ds, _, c, h => by
    cases h with
    | lst f e r => exact .lst (SqL.of e) (FzA.dp (by simpa [PyData.canLay0] using c) r)
  | .tuple ds, _, c, h => by
    cases h with
    | tup f e r => exact .tup (SqT.of e) (FzA.dp (by simpa [PyData.canLay0] using c) r)
  | .dict _, _, c, _ => by simp [PyData.canLay0] at c
theorem FzA.dp {K : PySem.W.Frag} {F : Addr → Prop} : ∀ {ds : List PyData} {vs : List V}, PyData.canLayAll0 ds = true → FzA F H vs ds → DpAll K H vs ds
  | [], _, _, h => by cases h; exact .nil
  | d :: ds, _, c, h => by
    have c' : d.canLay0 = true ∧ PyData.canLayAll0 ds = true := by simpa [PyData.canLayAll0] using c
    cases h with
    | cons a b => exact .cons (Fz.dp c'.1 a) (FzA.dp c'.2 b)
end
theorem Ct.dp {K : PySem.W.Frag} {d : PyData} (h : Ct G H v d) (c : shp d = true) : Dp K H v d := Fz.dp (SeqAt.canLay_of_shaped c) h.pk
theorem sd_cmp {op : CmpOp} {o : Cop} {r : R2} {a b : Expr} {pos : Pos} {ma mb : M Opd} (hr : OpR X (compareOp op) r) (ok : OpOk r (cmpD o)) (ha : Sd X W a ma) (hb : Sd X W b mb) (hm : behindInMarks op b = false) : Sd X W (.Compare a [op] [b] pos) (eCmp o ma mb) := by
  obtain ⟨ta, pa, ca⟩ := ha.ex
  obtain ⟨tb, pb, cb⟩ := hb.ex
  exact ⟨_, pe_cmpR hr pa pb hm, cl_op ok ca cb⟩
theorem cmpD_eq {x y : PyData} : cmpD .eq x y = if shp x && shp y then some (.bool (PyData.eqv x y)) else none := by simp only [cmpD]
theorem cmpD_ne {x y : PyData} : cmpD .ne x y = if shp x && shp y then some (.bool (!PyData.eqv x y)) else none := by simp only [cmpD]
theorem sd_eq {a b : Expr} {pos : Pos} {ma mb : M Opd} (C : Cok X k) (ha : Sd X W a ma) (hb : Sd X W b mb) : Sd X W (.Compare a [.Eq] [b] pos) (eCmp .eq ma mb) := by
  refine sd_cmp (op_eqD C.room.units) ?_ ha hb (nomark _)
  intro P G σ H s x y d e z Q R cx cy ez h
  rw [cmpD_eq] at ez
  split at ez <;> cases ez
  rename_i hc
  rw [Bool.and_eq_true] at hc
  exact ⟨d, e, cx.dp hc.1, cy.dp hc.2, hc.1, hc.2, h G _ H .refl R (.bl _)⟩
theorem ok_lt : OpOk (rI0 fun i j => .bl (decide (i < j))) (cmpD .lt) := by
  intro P G σ H s x y d e z Q R cx cy ez h
  cases d <;> cases e <;> simp only [cmpD, reduceCtorEq] at ez
  cases ez
  exact ⟨_, _, cx.int_, cy.int_, h G _ H .refl R (.bl _)⟩
theorem ok_le : OpOk (rI0 fun i j => .bl (decide (i ≤ j))) (cmpD .le) := by
  intro P G σ H s x y d e z Q R cx cy ez h
  cases d <;> cases e <;> simp only [cmpD, reduceCtorEq] at ez
  cases ez
  exact ⟨_, _, cx.int_, cy.int_, h G _ H .refl R (.bl _)⟩
theorem ok_gt : OpOk (rI0 fun i j => .bl (decide (j < i))) (cmpD .gt) := by
  intro P G σ H s x y d e z Q R cx cy ez h
  cases d <;> cases e <;> simp only [cmpD, reduceCtorEq] at ez
  cases ez
  exact ⟨_, _, cx.int_, cy.int_, h G _ H .refl R (.bl _)⟩
theorem ok_ge : OpOk (rI0 fun i j => .bl (decide (j ≤ i))) (cmpD .ge) := by
  intro P G σ H s x y d e z Q R cx cy ez h
  cases d <;> cases e <;> simp only [cmpD, reduceCtorEq] at ez
  cases ez
  exact ⟨_, _, cx.int_, cy.int_, h G _ H .refl R (.bl _)⟩
def eChn (f g : PyData → PyData → Option PyData) (a b c : M Opd) : M Opd := do let o ← a; let p ← b; let x ← peek o; let y ← peek p; let z ← optM (f x y); let t ← optM (boolD z); if t = true then (do let q ← c; let y' ← peek p; let w ← peek q; let u ← optM (g y' w); pure (.val u)) else pure (.val (.bool false))
theorem sd_chn {op op' : CmpOp} {f g : PyData → PyData → Option PyData} {r r' : R2} {a b c : Expr} {pos : Pos} {ma mb mc : M Opd} (hr : OpR X (compareOp op) r) (hr' : OpR X (compareOp op') r') (ok : OpOk r f) (ok' : OpOk r' g) (ha : Sd X W a ma) (hb : Sd X W b mb) (hc : Sd X W c mc)
    (hm : lastMarks [op, op'] [b, c] = false := by rfl) : Sd X W (.Compare a [op, op'] [b, c] pos) (eChn f g ma mb mc) := by
  obtain ⟨ta, pa, ca⟩ := ha.ex
  obtain ⟨tb, pb, cb⟩ := hb.ex
  obtain ⟨tc, pc, cc⟩ := hc.ex
  refine ⟨_, pe_chain hr hr' pa pb pc hm, ?_⟩
  intro P G σ H s Q R hw
  unfold eChn at hw
  refine ca.bind PostV.mono R hw fun o1 s1 G1 v1 H1 x1 R1 r1 hw1 => ?_
  refine cb.bind PostV.mono R1 hw1 fun o2 s2 G2 v2 H2 x2 R2 r2 hw2 => ?_
  obtain ⟨d, c1, hw3⟩ := peek_ok R2 (OR.ext x2 r1) (W.stuck _ _ _) hw2
  obtain ⟨e, c2, hw4⟩ := peek_ok R2 r2 (W.stuck _ _ _) hw3
  rw [pw_bind, pw_optM (W.stuck _ _ _)] at hw4
  obtain ⟨z, ez, hw5⟩ := hw4
  rw [pw_bind, pw_optM (W.stuck _ _ _)] at hw5
  obtain ⟨t, et, hw6⟩ := hw5
  refine ok P G2 σ H2 s2 v1 v2 d e z _ R2 c1 c2 ez fun G3 v3 H3 x3 R3 r3 => ?_
  cases z <;> simp only [boolD, reduceCtorEq] at et
  cases et
  refine ⟨t, r3.bool_inv, ?_⟩
  have hw6 := pw_ext (m := if t = true then _ else _) PostV.mono x3 hw6
  cases t with
  | false => exact hw6 G3 _ H3 .refl R3 (.bl _)
  | true =>
    refine cc.bind PostV.mono R3 hw6 fun o4 s4 G4 v4 H4 x4 R4 r4 hw7 => ?_
    obtain ⟨y', c3, hw8⟩ := peek_ok R4 (OR.ext (x3.trans x4) r2) (W.stuck _ _ _) hw7
    obtain ⟨w, c4, hw9⟩ := peek_ok R4 r4 (W.stuck _ _ _) hw8
    rw [pw_bind, pw_optM (W.stuck _ _ _)] at hw9
    obtain ⟨u, eu, hw10⟩ := hw9
    exact ok' P G4 σ H4 s4 v2 v4 y' w u Q R4 c3 c4 eu fun G' v H' x R' r => hw10 G' v H' x R' r
theorem st_val {e : Expr} {m : M Opd} (h : Sd X W e m) (he : ∀ whole, isTrue e X.env whole = (do let v ← whole; standAt e.pos; holding [v] (truthy v)) := by intro _; rfl) : SdT X W e (tVal m) := by
  obtain ⟨te, pe, ce⟩ := h.ex
  refine ⟨_, pt_val pe he, ?_⟩
  intro P G σ H s Q R hw
  unfold tVal at hw
  refine ce.bind PostB.mono R hw fun o1 s1 G1 v1 H1 x1 R1 r1 hw1 => ?_
  obtain ⟨d, c1, hw2⟩ := peek_ok R1 r1 (W.stuck _ _ _) hw1
  rw [pw_optM (W.stuck _ _ _)] at hw2
  obtain ⟨b, eb, hw3⟩ := hw2
  cases d <;> simp only [boolD, reduceCtorEq] at eb
  cases eb
  exact ⟨b, c1.bool_, hw3 G1 H1 .refl R1⟩
theorem st_not {a : Expr} {pos : Pos} {m : M Bool} (h : SdT X W a m) : SdT X W (.UnaryOp .Not a pos) (tNot m) := by
  obtain ⟨te, pe, ce⟩ := h.ex
  refine ⟨_, pt_not pe, ?_⟩
  intro P G σ H s Q R hw
  unfold TW.tNot at hw
  exact ce.bind PostB.mono R hw fun b s1 G1 H1 x1 R1 hw1 => hw1 G1 H1 .refl R1
structure SdW (X : Cx) (W : Wish) (e : Expr) (m : M Bool) : Prop where
  ex : ∃ tt, PW X e tt ∧ ClT W tt m
theorem SdW.st {e : Expr} {m : M Bool} (h : SdW X W e m) : SdT X W e m := let ⟨t, p, c⟩ := h.ex; ⟨t, p.pt, c⟩
theorem sw_and1 {a : Expr} {pos : Pos} {m : M Bool} (h : SdT X W a m) : SdW X W (.BoolOp .And [a] pos) m := let ⟨t, p, c⟩ := h.ex; ⟨t, pw_and1 p, c⟩
theorem sw_or1 {a : Expr} {pos : Pos} {m : M Bool} (h : SdT X W a m) : SdW X W (.BoolOp .Or [a] pos) m := let ⟨t, p, c⟩ := h.ex; ⟨t, pw_or1 p, c⟩
theorem sw_and {a b : Expr} {pos : Pos} {rest : List Expr} {ma mb : M Bool} (ha : SdT X W a ma) (hb : SdW X W (.BoolOp .And (b :: rest) pos) mb) : SdW X W (.BoolOp .And (a :: b :: rest) pos) (TW.tAnd ma mb) := by
  obtain ⟨ta, pa, ca⟩ := ha.ex
  obtain ⟨tb, pb, cb⟩ := hb.ex
  refine ⟨_, pw_and pa pb, ?_⟩
  intro P G σ H s Q R hw
  unfold TW.tAnd at hw
  refine ca.bind PostB.mono R hw fun b s1 G1 H1 x1 R1 hw1 => ?_
  cases b with
  | true => exact cb P G1 σ H1 s1 Q R1 hw1
  | false => exact hw1 G1 H1 .refl R1
theorem sw_or {a b : Expr} {pos : Pos} {rest : List Expr} {ma mb : M Bool} (ha : SdT X W a ma) (hb : SdW X W (.BoolOp .Or (b :: rest) pos) mb) : SdW X W (.BoolOp .Or (a :: b :: rest) pos) (TW.tOr ma mb) := by
  obtain ⟨ta, pa, ca⟩ := ha.ex
  obtain ⟨tb, pb, cb⟩ := hb.ex
  refine ⟨_, pw_or pa pb, ?_⟩
  intro P G σ H s Q R hw
  unfold TW.tOr at hw
  refine ca.bind PostB.mono R hw fun b s1 G1 H1 x1 R1 hw1 => ?_
  cases b with
  | false => exact cb P G1 σ H1 s1 Q R1 hw1
  | true => exact hw1 G1 H1 .refl R1
theorem sd_one {op : BoolOp} {a : Expr} {pos : Pos} {m : M Opd} (h : Sd X W a m) : Sd X W (.BoolOp op [a] pos) m := let ⟨t, p, c⟩ := h.ex; ⟨t, pe_one p, c⟩
theorem cl_val {te : TE} {m : M Opd} (ce : ClE W te m) : ClT W (fun σ H Q => te σ H fun x H1 => ∃ c, x = .bl c ∧ Q c H1) (tVal m) := by
  intro P G σ H s Q R hw
  unfold tVal at hw
  refine ce.bind PostB.mono R hw fun o1 s1 G1 v1 H1 x1 R1 r1 hw1 => ?_
  obtain ⟨d, c1, hw2⟩ := peek_ok R1 r1 (W.stuck _ _ _) hw1
  rw [pw_optM (W.stuck _ _ _)] at hw2
  obtain ⟨b, eb, hw3⟩ := hw2
  cases d <;> simp only [boolD, reduceCtorEq] at eb
  cases eb
  exact ⟨b, c1.bool_, hw3 G1 H1 .refl R1⟩
theorem sd_and {a b : Expr} {pos : Pos} {rest : List Expr} {ma mb : M Opd} (ha : Sd X W a ma) (hb : Sd X W (.BoolOp .And (b :: rest) pos) mb) : Sd X W (.BoolOp .And (a :: b :: rest) pos) (eAnd ma mb) := by
  obtain ⟨ta, pa, ca⟩ := ha.ex
  obtain ⟨tb, pb, cb⟩ := hb.ex
  refine ⟨_, pe_and pa pb, ?_⟩
  intro P G σ H s Q R hw
  unfold eAnd at hw
  have := (cl_val ca).bind (Q := fun c H1 => if c = true then tb σ H1 Q else Q (.bl false) H1) PostV.mono R hw fun c s1 G1 H1 x1 R1 hw1 => by
    cases c with
    | true => exact cb P G1 σ H1 s1 Q R1 hw1
    | false => exact hw1 G1 _ H1 .refl R1 (.bl false)
  exact this
theorem sd_not {a : Expr} {pos : Pos} {m : M Opd} (h : Sd X W a m) : Sd X W (.UnaryOp .Not a pos) (eNot m) := by
  obtain ⟨te, pe, ce⟩ := h.ex
  refine ⟨_, pe_not pe, ?_⟩
  intro P G σ H s Q R hw
  unfold eNot at hw
  exact (cl_val ce).bind (Q := fun c H1 => Q (.bl (!c)) H1) PostV.mono R hw fun c s1 G1 H1 x1 R1 hw1 => hw1 G1 _ H1 .refl R1 (.bl _)
theorem sd_if {c a b : Expr} {pos : Pos} {mc : M Bool} {ma mb : M Opd} (hc : SdT X W c mc) (ha : Sd X W a ma) (hb : Sd X W b mb) : Sd X W (.IfExp c a b pos) (eIf mc ma mb) := by
  obtain ⟨tc, pc, cc⟩ := hc.ex
  obtain ⟨ta, pa, ca⟩ := ha.ex
  obtain ⟨tb, pb, cb⟩ := hb.ex
  refine ⟨_, pe_ifExp pc pa pb, ?_⟩
  intro P G σ H s Q R hw
  unfold eIf at hw
  refine cc.bind PostV.mono R hw fun c s1 G1 H1 x1 R1 hw1 => ?_
  cases c with
  | true => exact ca P G1 σ H1 s1 Q R1 hw1
  | false => exact cb P G1 σ H1 s1 Q R1 hw1
end
end TW
set_option linter.all false
set_option Elab.async false
namespace TW
open PySem L2
def cutD (ds : List PyData) (lo hi : Option Int) : List PyData := (ds.drop (HT.sIx ds.length 0 lo)).take (HT.sIx ds.length ds.length hi - HT.sIx ds.length 0 lo)
def pNone : M (Option Int) := pure none
def pSome (m : M Opd) : M (Option Int) := do let o ← m; match ← peek o with
  | .int i => pure (some i)
  | _ => stuck
def slD : PyData → Option Int → Option Int → Option PyData
  | .list ds, lo, hi => some (.list (cutD ds lo hi))
  | .tuple ds, lo, hi => some (.tuple (cutD ds lo hi))
  | _, _, _ => none
def eSlc (a : M Opd) (l h : M (Option Int)) : M Opd := do let o ← a; let lo ← l; let hi ← h; let x ← peek o; let z ← optM (slD x lo hi); pure (.val z)
def ClX {α : Type} (W : Wish) (t : L2.St → Hp → (α → Hp → Prop) → Prop) (m : M α) : Prop := ∀ P G σ H s (Q : α → Hp → Prop), Rel P G σ H s → pw m s (fun a s' => ∀ G' H', Ext P G H G' H' → Rel P G' σ H' s' → Q a H') (W.w P G H) → t σ H Q
structure SdO (X : Cx) (W : Wish) (e : Option Expr) (m : M (Option Int)) : Prop where
  ex : ∃ to, PO X e to ∧ ClX W to m
section
variable {P : Addr → Prop} {G G' : Gh} {σ : L2.St} {H H' : Hp} {s s' : Sx} {v : V} {o : Opd} {W : Wish} {X : Cx} {k : Nat}
theorem ClX.bind {α β : Type} {t : L2.St → Hp → (α → Hp → Prop) → Prop} {m : M α} {f : α → M β} {Q : α → Hp → Prop} {Qp : Gh → Hp → β → Sx → Prop} (c : ClX W t m) (hm : Mono P Qp) (R : Rel P G σ H s) (hw : pw (m >>= f) s (Qp G H) (W.w P G H))
    (k : ∀ o s1 G1 H1, Ext P G H G1 H1 → Rel P G1 σ H1 s1 → pw (f o) s1 (Qp G1 H1) (W.w P G1 H1) → Q o H1) : t σ H Q := by
  rw [pw_bind] at hw
  exact c P G σ H s Q R (pw_mono hw (fun o s1 h G1 H1 x R1 => k o s1 G1 H1 x R1 (pw_ext hm x h)) fun _ q => q)
theorem so_none : SdO X W none pNone := ⟨_, po_none, fun P G σ H s Q R hw => hw G H .refl R⟩
theorem so_some {e : Expr} {m : M Opd} (h : Sd X W e m) : SdO X W (some e) (pSome m) := by
  obtain ⟨te, pe, ce⟩ := h.ex
  refine ⟨_, po_some pe, ?_⟩
  intro P G σ H s Q R hw
  unfold pSome at hw
  refine ce.bind (Qp := fun G H (a : Option Int) s' => ∀ G' H', Ext P G H G' H' → Rel P G' σ H' s' → Q a H') (fun _ _ _ _ _ _ x q G' H' y => q G' H' (x.trans y)) R hw fun o1 s1 G1 v1 H1 x1 R1 r1 hw1 => ?_
  obtain ⟨d, c1, hw2⟩ := peek_ok R1 r1 (W.stuck _ _ _) hw1
  cases d with
  | int i => exact ⟨i, c1.int_, hw2 G1 H1 .refl R1⟩
  | none => exact absurd hw2 (W.stuck _ _ _)
  | bool b => exact absurd hw2 (W.stuck _ _ _)
  | str b => exact absurd hw2 (W.stuck _ _ _)
  | list b => exact absurd hw2 (W.stuck _ _ _)
  | tuple b => exact absurd hw2 (W.stuck _ _ _)
  | dict b => exact absurd hw2 (W.stuck _ _ _)
theorem cut_fz {F : Addr → Prop} {vs : List V} {ds : List PyData} (r : FzA F H vs ds) (lo hi : Option Int) : FzA F H (cutV vs lo hi) (cutD ds lo hi) := by
  unfold cutV cutD
  rw [r.length]
  exact (r.drop _).take _
theorem cutD_all {ds : List PyData} {lo hi : Option Int} (h : HT.sIx ds.length 0 lo = 0 ∧ HT.sIx ds.length ds.length hi = ds.length) : cutD ds lo hi = ds := by
  unfold cutD
  rw [h.1, h.2, List.drop_zero, Nat.sub_zero, List.take_length]
theorem sd_slc {e : Expr} {lo hi : Option Expr} {p2 pos : Pos} {m : M Opd} {ml mh : M (Option Int)} (h : Sd X W e m) (hl : SdO X W lo ml) (hh : SdO X W hi mh) : Sd X W (.Subscript e (.Slice lo hi none p2) pos) (eSlc m ml mh) := by
  obtain ⟨te, pe, ce⟩ := h.ex
  obtain ⟨tl, pl, cl⟩ := hl.ex
  obtain ⟨th, ph, ch⟩ := hh.ex
  refine ⟨_, pe_slice (sl_list.or sl_tupA) pe pl ph, ?_⟩
  intro P G σ H s Q R hw
  unfold eSlc at hw
  refine ce.bind PostV.mono R hw fun o1 s1 G1 v1 H1 x1 R1 r1 hw1 => ?_
  refine cl.bind PostV.mono R1 hw1 fun l s2 G2 H2 x2 R2 hw2 => ?_
  refine ch.bind PostV.mono R2 hw2 fun u s3 G3 H3 x3 R3 hw3 => ?_
  obtain ⟨d, c1, hw4⟩ := peek_ok R3 (OR.ext (x2.trans x3) r1) (W.stuck _ _ _) hw3
  rw [pw_bind, pw_optM (W.stuck _ _ _)] at hw4
  obtain ⟨z, ez, hw5⟩ := hw4
  cases d <;> simp only [slD, reduceCtorEq] at ez <;> cases ez
  · obtain ⟨a, xs, e1, h1, r⟩ := c1
    refine .inl ⟨a, xs, e1, SqL.of h1, fun p hp => ?_⟩
    obtain ⟨x, R', r'⟩ := R3.newLst hp (cut_fz r l u)
    exact hw5 _ _ _ x R' r'
  · obtain ⟨a, xs, e1, f1, h1, r⟩ := c1.tup
    refine .inr ⟨a, xs, e1, SqT.of h1, fun q => ?_, fun _ p hp => ?_⟩
    · rw [r.length] at q
      rw [cutD_all q] at hw5
      exact hw5 _ _ _ .refl R3 (.tup f1 h1 r)
    · obtain ⟨x, R', r'⟩ := R3.newTup hp (cut_fz r l u)
      exact hw5 _ _ _ x R' r'
theorem atI_fz {F : Addr → Prop} {vs : List V} {ds : List PyData} {i : Int} {d : PyData} (r : FzA F H vs ds) (h : atI ds i = some d) : ∃ v, atI vs i = some v ∧ Fz F H v d := by
  unfold atI at h ⊢
  rw [r.length]
  cases e : ixN ds.length i with
  | none => rw [e] at h; cases h
  | some j =>
    rw [e] at h
    exact r.get h
def ixD' : PyData → PyData → Option PyData
  | .list ds, .int i => atI ds i
  | .tuple ds, .int i => atI ds i
  | .str x, .int i => if x.length ≤ lim then (atI x.cps.toList i).map fun c => .str ⟨#[c]⟩ else none
  | _, _ => none
def eIx (a b : M Opd) : M Opd := eOp ixD' a b
theorem sd_ix {a b : Expr} {pos : Pos} {ma mb : M Opd} (ha : Sd X W a ma) (hb : Sd X W b mb) (hs : PlainIx b) : Sd X W (.Subscript a b pos) (eIx ma mb) := by
  obtain ⟨ta, pa, ca⟩ := ha.ex
  obtain ⟨tb, pb, cb⟩ := hb.ex
  refine ⟨_, pe_ix ix_seq pa pb hs, cl_op ?_ ca cb⟩
  intro P G σ H s x y d e z Q R cx cy ez h
  cases d <;> cases e <;> simp only [ixD', reduceCtorEq] at ez
  · split at ez
    · rename_i hl
      cases q : atI (Array.toList (Str.cps _)) _ with
      | none => rw [q] at ez; cases ez
      | some c =>
        rw [q] at ez
        cases ez
        exact .inr (.inr ⟨_, _, c, cx.str_, cy.int_, lim_line hl, q, h G _ H .refl R (.str _)⟩)
    · cases ez
  · obtain ⟨a, xs, e1, h1, r⟩ := cx
    obtain ⟨v, h2, h3⟩ := atI_fz r ez
    exact .inl ⟨a, xs, _, v, e1, cy.int_, SqL.of h1, h2, h G _ H .refl R h3⟩
  · obtain ⟨a, xs, e1, f1, h1, r⟩ := cx.tup
    obtain ⟨v, h2, h3⟩ := atI_fz r ez
    exact .inr (.inl ⟨a, xs, _, v, e1, cy.int_, SqT.of h1, h2, h G _ H .refl R h3⟩)
theorem sd_mul {a b : Expr} {pos : Pos} {ma mb : M Opd} (ha : Sd X W a ma) (hb : Sd X W b mb) : Sd X W (.BinOp a .Mult b pos) (eBin .mul ma mb) := by
  refine sd_bin (op_mul.or (op_rep.or op_repT)) ?_ ha hb
  intro P G σ H s x y d e z Q R cx cy ez h
  cases d <;> cases e <;> simp only [binD, reduceCtorEq] at ez
  · split at ez <;> cases ez
    rename_i hc
    refine .inl ⟨_, _, cx.int_, cy.int_, ?_, h G _ H .refl R (.int _)⟩
    unfold CMul
    simpa [small] using hc
  · split at ez <;> cases ez
    rename_i hc
    obtain ⟨a1, xs, e1, h1, r1⟩ := cx
    refine .inr (.inl ⟨a1, _, xs, e1, cy.int_, h1, by omega, by omega, ?_, fun p hp => ?_⟩)
    · rw [r1.length, sizeLine_eq]
      exact Nat.le_trans (Nat.mul_le_mul hc.2.2 (show _ ≤ 1000 by omega)) (by decide)
    · obtain ⟨x, R', r⟩ := R.newLst hp (r1.rep _)
      exact h _ _ _ x R' r
  · split at ez <;> cases ez
    rename_i hc
    obtain ⟨a1, xs, e1, f1, h1, r1⟩ := cx.tup
    refine .inr (.inr ⟨a1, _, xs, e1, cy.int_, SqT.of h1, ?_, hc.1, by omega, by rw [r1.length]; exact hc.2.2.1, fun p hp => ?_⟩)
    · intro q
      subst q
      cases r1
      exact hc.2.2.2 rfl
    · obtain ⟨x, R', r⟩ := R.newTup hp (r1.rep _)
      exact h _ _ _ x R' r
end
end TW
set_option linter.all false
set_option Elab.async false
namespace TW
open PySem L2
structure Sok (X : Cx) : Prop where
  gd : X.A.guards = some []
  sm : SmP X.base
  cm : X.calm = true
section
variable {X : Cx} {pins : List (Addr × Obj)} {σ : L2.St} {H : Hp} {s : Shared} {F : Addr → Prop}
theorem no_sm (S : Sok X) (I : L2.Inv X pins σ H s) {a : Addr} (h : H a ≠ none) : a ≠ sysModules := fun e => by
  obtain ⟨⟨o, ho⟩, _⟩ := S.sm
  exact h (e ▸ (I.bs _ o ho).2)
theorem keyD_reads {h : Heap} {k : Key} {u : Value} (r : keyIs k u = true) : Reads h u (keyD k) [] := by
  rcases keyIs_shape r with ⟨i, t, rfl, rfl⟩ | ⟨x, t, rfl, rfl⟩
  · exact .int i t
  · exact .str x t
theorem pairs_keys {P : Program} {w : World} {h : Heap} : ∀ {ks : List (Key × V)} {us : List (Key × Value)} {es : List DictEntry} {ds : List (PyData × PyData)}, KV ks us → Pairs (mixKind P w) es us → FzK F H ks ds →
    ReadsAll h (es.map (·.key)) (ds.map (·.1)) []
  | _, _, _, _, .nil, .nil, .nil => .nil
  | _, _, _, _, .cons e r, .cons hk _ p, .cons _ f => by
    rw [List.map_cons, List.map_cons]
    have e1 := e.1
    dsimp only at e1
    subst e1
    exact ReadsAll.cons (as := []) (bs := []) (keyD_reads hk) (pairs_keys r p f)
theorem keys_reads {h : Heap} : ∀ {k : List Key} {us : List Value}, Vals (k.map kV) us → ReadsAll h us (k.map keyD) []
  | [], _, r => by cases r; exact .nil
  | .inl i :: k, _, r => by
    rw [List.map_cons] at r
    cases r with
    | cons a b =>
      obtain ⟨t, rfl⟩ := a
      exact ReadsAll.cons (as := []) (bs := []) (.int i t) (keys_reads b)
  | .inr x :: k, _, r => by
    rw [List.map_cons] at r
    cases r with
    | cons a b =>
      obtain ⟨t, rfl⟩ := a
      exact ReadsAll.cons (as := []) (bs := []) (.str x t) (keys_reads b)
mutual
theorem Fz.reads (S : Sok X) (I : L2.Inv X pins σ H s) : ∀ (d : PyData) (v : V) (u : Value), Fz F H v d → RelV v u → ∃ as, Reads s.heap u d as ∧ sysModules ∉ as
  | .none, _, _, h, r => by
    cases h
    cases r
    exact ⟨_, Reads.none, by simp⟩
  | .bool b, _, _, h, r => by
    cases h
    cases r
    exact ⟨_, Reads.bool b, by simp⟩
  | .int i, _, _, h, r => by
    cases h
    obtain ⟨t, rfl⟩ := r
    exact ⟨_, Reads.int i t, by simp⟩
  | .str x, _, _, h, r => by
    cases h
    obtain ⟨t, rfl⟩ := r
    exact ⟨_, Reads.str x t, by simp⟩
  | .list ds, _, _, h, r => by
    cases h with
    | lst hf hs ha =>
      cases r
      obtain ⟨its, rv, ⟨o, n, ho, hc, _, hd⟩, _⟩ := I.list (SqL.of hs)
      obtain ⟨as, hr, hn⟩ := FzA.reads S I ds _ its ha rv
      exact ⟨_, Reads.list ho hc hd hr, by
        rw [List.mem_cons, not_or]
        exact ⟨fun e => no_sm S I (by rw [hs]; simp) e.symm, hn⟩⟩
  | .tuple ds, _, _, h, r => by
    cases h with
    | tup hf hs ha =>
      cases r
      obtain ⟨its, rv, ⟨o, ho, hc, n, hd⟩, _⟩ := I.tuple (SqT.of hs)
      obtain ⟨as, hr, hn⟩ := FzA.reads S I ds _ its ha rv
      exact ⟨_, Reads.tuple ho hc hd hr, hn⟩
  | .dict ds, _, _, h, r => by
    cases h with
    | dic hf hs ha =>
      cases r
      obtain ⟨_, hsm, us, rk, o, es, ep, ho, hx, hd, _, hp, _⟩ := (show ObjOk X.prog X.w H s.heap _ (.dK _) from hs.ok I.hok)
      obtain ⟨bs, hr, hn⟩ := FzK.reads S I ds _ us es.toList ha rk hp
      refine ⟨_, Reads.dict ho hx.1 hd (pairs_keys rk hp ha) hr, ?_⟩
      rw [List.cons_append, List.nil_append, List.mem_cons, not_or]
      exact ⟨fun e => no_sm S I (by rcases hs with e | ⟨_, e⟩ <;> rw [e] <;> simp) e.symm, hn⟩
    | dit hf hs ha =>
      cases r
      obtain ⟨_, hsm, us, rk, o, es, ep, ho, hx, hd, he, _⟩ := (show ObjOk X.prog X.w H s.heap _ (.dT _) from hs.ok I.hok)
      obtain ⟨bs, hq, hr, hn⟩ := FzT.reads S I ds _ us ha rk
      refine ⟨_, Reads.dict ho hx.1 hd (as := []) (bs := bs) ?_ ?_, ?_⟩
      · rw [he]; exact hq
      · rw [he]; exact hr
      · rw [List.cons_append, List.nil_append, List.mem_cons, not_or]
        exact ⟨fun e => no_sm S I (by rcases hs with e | ⟨_, e⟩ <;> rw [e] <;> simp) e.symm, hn⟩
theorem FzA.reads (S : Sok X) (I : L2.Inv X pins σ H s) : ∀ (ds : List PyData) (vs : List V) (us : List Value), FzA F H vs ds → Vals vs us → ∃ as, ReadsAll s.heap us ds as ∧ sysModules ∉ as
  | [], _, _, h, r => by
    cases h
    cases r
    exact ⟨_, ReadsAll.nil, by simp⟩
  | d :: ds, _, _, h, r => by
    cases h with
    | cons h1 h2 =>
      cases r with
      | cons r1 r2 =>
        obtain ⟨as, q1, n1⟩ := Fz.reads S I d _ _ h1 r1
        obtain ⟨bs, q2, n2⟩ := FzA.reads S I ds _ _ h2 r2
        exact ⟨_, ReadsAll.cons q1 q2, by rw [List.mem_append, not_or]; exact ⟨n1, n2⟩⟩
theorem FzK.reads (S : Sok X) (I : L2.Inv X pins σ H s) : ∀ (ds : List (PyData × PyData)) (ks : List (Key × V)) (us : List (Key × Value)) (es : List DictEntry), FzK F H ks ds → KV ks us → Pairs (mixKind X.prog X.w) es us →
    ∃ as, ReadsAll s.heap (es.map (·.val)) (ds.map (·.2)) as ∧ sysModules ∉ as
  | [], _, _, _, h, r, p => by
    cases h
    cases r
    cases p
    exact ⟨_, ReadsAll.nil, by simp⟩
  | (_, _) :: ds, _, _, _, h, r, p => by
    cases h with
    | cons h1 h2 =>
      cases r with
      | cons r1 r2 =>
        cases p with
        | cons pk pv pp =>
          obtain ⟨as, q1, n1⟩ := Fz.reads S I _ _ _ h1 r1.2
          obtain ⟨bs, q2, n2⟩ := FzK.reads S I ds _ _ _ h2 r2 pp
          refine ⟨_, ReadsAll.cons (as := as) (bs := bs) ?_ q2, by rw [List.mem_append, not_or]; exact ⟨n1, n2⟩⟩
          show Reads s.heap (DictEntry.val _) _ _
          rw [pv]
          exact q1
theorem FzT.reads (S : Sok X) (I : L2.Inv X pins σ H s) : ∀ (ds : List (PyData × PyData)) (ks : List (List Key × V)) (us : List (List Key × Addr × Value)), FzT F H ks ds →
    Paired (fun (p : List Key × V) (q : List Key × Addr × Value) => p.1 = q.1 ∧ H q.2.1 = some (.tup (p.1.map kV)) ∧ RelV p.2 q.2.2) ks us →
    ∃ as, ReadsAll s.heap ((us.map (entryOfKey (tupleKind (mixKind X.prog X.w)))).map (·.key)) (ds.map (·.1)) [] ∧ ReadsAll s.heap ((us.map (entryOfKey (tupleKind (mixKind X.prog X.w)))).map (·.val)) (ds.map (·.2)) as ∧ sysModules ∉ as
  | [], _, _, h, r => by
    cases h
    cases r
    exact ⟨_, ReadsAll.nil, ReadsAll.nil, by simp⟩
  | (_, _) :: ds, _, _, h, r => by
    cases h with
    | cons h1 h2 =>
      cases r with
      | cons r1 r2 =>
        obtain ⟨as, q1, n1⟩ := Fz.reads S I _ _ _ h1 r1.2.2
        obtain ⟨bs, q2, q3, n2⟩ := FzT.reads S I ds _ _ h2 r2
        refine ⟨as ++ bs, ReadsAll.cons (as := []) (bs := []) ?_ q2, ReadsAll.cons q1 q3, by rw [List.mem_append, not_or]; exact ⟨n1, n2⟩⟩
        obtain ⟨its, rv, ⟨o, ho, hc, n, hd⟩, _⟩ := I.tuple (SqT.of r1.2.1)
        exact Reads.tuple ho hc hd (keys_reads rv)
end
end
section
variable {X : Cx}
@[irreducible] def digB : Nat := 10 ^ 4300
theorem digB_eq : digB = 10 ^ 4300 := by unfold digB; rfl
def PyData.showT : PyData → Bool
  | .int i => decide (i.natAbs < digB)
  | d => d.showable
theorem showT_of {d : PyData} (h : d.showable = true) : PyData.showT d = true := by
  cases d <;> try exact h
  rename_i i
  have h : decide (i.natAbs.log2 < 1920) = true := h
  refine decide_eq_true ?_
  rw [digB_eq]
  exact Nat.lt_of_lt_of_le (PyProof.Rows.lt_of_log2 (Nat.lt_trans (of_decide_eq_true h) (by decide : 1920 < 12900))) PyProof.Rows.pow_lo
theorem repr_of_int_any {prog : Program} {w : World} {A : Around} {E : Value → Shared → Prop} {s : Shared} {a : Int} {t : Tok} {Q : Value → Shared → Prop} (hh : A.handled = none) (hn : s.heap.NoDigits) (ha : a.natAbs < 10 ^ 4300) (h : Q (.str (toString a) s.toks) { s with toks := s.toks + 1 }) : wpAny (model prog w) A (call (.builtin "repr") [.int a t]) Q E s := by
  refine Calls.call_function_entry F.kind_repr F.plain_repr F.entry_repr (F.args_repr1 _) ?_
  unfold Builtin.«repr»
  refine wpAny_bind (m := oneArg "repr" _) (wpAny_pure ?_)
  have hv : [Value.int a t].any Value.onHeap = false := rfl
  simp only [cRoomFor, hv, Bool.false_eq_true, if_false, pure_bind]
  refine wpAny_bind (wpAny_specialOf (name := Str.ofString "__repr__") (typeIs_int s a t) F.slot_int_repr.lookup ?_)
  refine wpAny_bind (m := callSpecialIfBound? (.int a t) (Str.ofString "__repr__")) (wpAny_callSpecialIfBound?_slot (name := Str.ofString "__repr__") (typeIs_int s a t) F.slot_int_repr
    (PyProof.Rows.call_int_repr_or hh hn (fun _ => ?_) (fun h2 => absurd h2 (Nat.not_le_of_lt ha))))
  refine wpAny_bind (wpAny_isInstance (T := "str") (b := true) rfl isSubtype_str_str ?_)
  exact wpAny_pure ⟨_, rfl, h⟩
theorem Inv.noDigits {X : Cx} {pins : List (Addr × Obj)} {σ : L2.St} {H : Hp} {s : Shared} (S : Sok X) (I : L2.Inv X pins σ H s) : s.heap.NoDigits := S.sm.2.keeps fun b o e => (I.bs b o e).1
def rRepr : List V → Hp → VK → Prop := fun xs H Q => ∃ x d, xs = [x] ∧ Pk H x d ∧ PyData.showT d = true ∧ d.depth ≤ 64 ∧ d.shown.length ≤ sizeLine ∧ Q (.str d.shown) H
theorem call_repr (S : Sok X) (hu : X.A.units + 66 < cLine) : CallR X (.builtin "repr") rRepr := by
  intro pins s σ H vs us Q I r h
  obtain ⟨x, d, rfl, hp, h1, h2, h3, q⟩ := h
  cases r with
  | cons r1 r2 =>
    cases r2
    cases d with
    | none =>
      cases hp
      cases r1
      exact PySem.P.repr_of_none ⟨.str _, H, I.tok _, ⟨_, rfl⟩, q⟩
    | bool b =>
      cases hp
      cases r1
      exact PySem.P.repr_of_bool ⟨.str _, H, I.tok _, ⟨_, rfl⟩, q⟩
    | int i =>
      cases hp
      obtain ⟨t, rfl⟩ := r1
      exact repr_of_int_any (I.ok.hd S.cm) (Inv.noDigits S I) (by rw [← digB_eq]; exact of_decide_eq_true h1) ⟨.str _, H, I.tok _, ⟨_, rfl⟩, q⟩
    | str x =>
      cases hp
      obtain ⟨t, rfl⟩ := r1
      exact PySem.P.repr_of_str ⟨.str _, H, I.tok _, ⟨_, rfl⟩, q⟩ h3
    | list ds =>
      obtain ⟨as, hr, hn⟩ := Fz.reads S I _ _ _ hp r1
      cases hp
      cases r1
      exact repr_of_reads' hr h1 (fun _ => hn) S.gd (by omega) (fun _ _ e => e) (fun h' u tk hk => ⟨.str _, H, I.kept (t' := tk) hk, ⟨_, rfl⟩, q⟩) h3
    | tuple ds =>
      obtain ⟨as, hr, hn⟩ := Fz.reads S I _ _ _ hp r1
      cases hp
      cases r1
      exact repr_of_reads' hr h1 (fun _ => hn) S.gd (by omega) (fun _ _ e => e) (fun h' u tk hk => ⟨.str _, H, I.kept (t' := tk) hk, ⟨_, rfl⟩, q⟩) h3
    | dict ds =>
      obtain ⟨as, hr, hn⟩ := Fz.reads S I _ _ _ hp r1
      cases hp <;> cases r1 <;>
      exact repr_of_reads' hr h1 (fun _ => hn) S.gd (by omega) (fun _ _ e => e) (fun h' u tk hk => ⟨.str _, H, I.kept (t' := tk) hk, ⟨_, rfl⟩, q⟩) h3
end
end TW
set_option linter.all false
set_option Elab.async false
namespace TW
open PySem L2
def lenD : List PyData → Option PyData
  | [.list ds] => some (.int ds.length)
  | [.tuple ds] => some (.int ds.length)
  | [.dict ds] => some (.int ds.length)
  | [.str x] => if x.length ≤ lim then some (.int x.length) else none
  | _ => none
def absD : List PyData → Option PyData
  | [.int i] => some (.int (if i < 0 then -i else i))
  | _ => none
def max2D : List PyData → Option PyData
  | [.int i, .int j] => some (.int (if j > i then j else i))
  | _ => none
def min2D : List PyData → Option PyData
  | [.int i, .int j] => some (.int (if j < i then j else i))
  | _ => none
def intD : List PyData → Option PyData
  | [.int i] => some (.int i)
  | [.bool b] => some (.int (if b = true then 1 else 0))
  | _ => none
def boolF : List PyData → Option PyData
  | [.int i] => some (.bool (i != 0))
  | [.bool b] => some (.bool b)
  | _ => none
def tupleD : List PyData → Option PyData
  | [.list ds] => some (.tuple ds)
  | [.tuple ds] => some (.tuple ds)
  | _ => none
def listD : List PyData → Option PyData
  | [.list ds] => some (.list ds)
  | [.tuple ds] => some (.list ds)
  | _ => none
def intsOf : List PyData → Option (List Int)
  | [] => some []
  | .int i :: r => (intsOf r).map (i :: ·)
  | _ :: _ => none
def boolsOf : List PyData → Option (List Bool)
  | [] => some []
  | .bool i :: r => (boolsOf r).map (i :: ·)
  | _ :: _ => none
def allD : List PyData → Option PyData
  | [.list ds] => (boolsOf ds).map fun ns => .bool (ns.all id)
  | _ => none
def anyD : List PyData → Option PyData
  | [.list ds] => (boolsOf ds).map fun ns => .bool (ns.any id)
  | _ => none
def reprD : List PyData → Option PyData
  | [d] => if PyData.showT d && decide (d.depth ≤ 64) && decide (d.shown.length ≤ sizeLine) then some (.str d.shown) else none
  | _ => none
inductive Ty where
  | int | bool | tuple | list | str | dict
def Ty.name : Ty → String
  | .int => "int"
  | .bool => "bool"
  | .tuple => "tuple"
  | .list => "list"
  | .str => "str"
  | .dict => "dict"
def isD : Ty → PyData → Bool
  | .int, .int _ => true
  | .int, .bool _ => true
  | .bool, .bool _ => true
  | .tuple, .tuple _ => true
  | .list, .list _ => true
  | .str, .str _ => true
  | .dict, .dict _ => true
  | _, _ => false
def eIs (t : Ty) (a : M Opd) : M Opd := do let o ← a; let x ← peek o; pure (.val (.bool (isD t x)))
theorem intsOf_eq : ∀ {ds : List PyData} {ns : List Int}, intsOf ds = some ns → ds = ns.map PyData.int
  | [], ns, h => by cases h; rfl
  | d :: ds, ns, h => by
    cases d <;> simp only [intsOf, reduceCtorEq] at h
    cases e : intsOf ds with
    | none => rw [e] at h; cases h
    | some m =>
      rw [e] at h
      cases h
      rw [List.map_cons, intsOf_eq e]
theorem boolsOf_eq : ∀ {ds : List PyData} {ns : List Bool}, boolsOf ds = some ns → ds = ns.map PyData.bool
  | [], ns, h => by cases h; rfl
  | d :: ds, ns, h => by
    cases d <;> simp only [boolsOf, reduceCtorEq] at h
    cases e : boolsOf ds with
    | none => rw [e] at h; cases h
    | some m =>
      rw [e] at h
      cases h
      rw [List.map_cons, boolsOf_eq e]
theorem intsOf_map (ns : List Int) : intsOf (ns.map PyData.int) = some ns := by
  induction ns with
  | nil => rfl
  | cons n ns ih => rw [List.map_cons]; simp only [intsOf]; rw [ih]; rfl
theorem boolsOf_map (ns : List Bool) : boolsOf (ns.map PyData.bool) = some ns := by
  induction ns with
  | nil => rfl
  | cons n ns ih => rw [List.map_cons]; simp only [boolsOf]; rw [ih]; rfl
section
variable {P : Addr → Prop} {G G' : Gh} {σ : L2.St} {H H' : Hp} {s s' : Sx} {v : V} {o : Opd} {W : Wish} {X : Cx} {k : Nat}
theorem Cok.sok (C : Cok X k) : Sok X := ⟨C.gd, C.sm, C.calm⟩
def CallOk (r : List V → Hp → VK → Prop) (f : List PyData → Option PyData) : Prop := ∀ P G σ H s vs ds z (Q : VK), Rel P G σ H s → CtA G H vs ds → f ds = some z →
  (∀ G' v H', Ext P G H G' H' → Rel P G' σ H' s → Fz G'.F H' v z → Q v H') → r vs H Q
theorem cl_fn {r : List V → Hp → VK → Prop} {f : List PyData → Option PyData} {ta : TA} {ma : M (List Opd)} (ok : CallOk r f) (ha : ClA W ta ma) : ClE W (tCB r ta) (eFn f ma) := by
  intro P G σ H s Q R hw
  unfold eFn at hw
  refine ha.bind PostV.mono R hw fun os s1 G1 vs H1 x1 R1 r1 hw1 => ?_
  obtain ⟨ds, c1, hw2⟩ := peeks_ok R1 r1 (W.stuck _ _ _) hw1
  rw [pw_bind, pw_optM (W.stuck _ _ _)] at hw2
  obtain ⟨z, ez, hw3⟩ := hw2
  exact ok P G1 σ H1 s1 vs ds z Q R1 c1 ez fun G' v H' x R' r => hw3 G' v H' x R' r
section
variable {x : Str} {p pos : Pos} {e : Expr} {es : List Expr} {id T : String} {r : List V → Hp → VK → Prop} {f : List PyData → Option PyData} {ma : M (List Opd)}
theorem sd_callB (hc : CallR X (.builtin id) r) (ok : CallOk r f) (hg : Gl X x) (hm : X.mg x = none) (hv : bootBuiltins x = some (.builtin id)) (ha : SdA X W (e :: es) ma) (hn : x ≠ "__name__" := by decide) (hdb : (x == ("__debug__" : Str)) = false := by decide)
    (he : starEach (e :: es) X.env = (false, eval e X.env) :: starEach es X.env := by rfl) (hpl : (backTo pos (starEach es X.env)).any (·.1) = false := by rfl) : Sd X W (.Call (.Name x p) (e :: es) [] pos) (eFn f ma) := by
  obtain ⟨ta, pa, ca⟩ := ha.ex
  exact ⟨_, pe_callB hc hg hm hv pa hn hdb he hpl, cl_fn ok ca⟩
theorem sd_callT (hc : CallR X (.type T) r) (ok : CallOk r f) (hg : Gl X x) (hm : X.mg x = none) (hv : bootBuiltins x = some (.type T)) (ha : SdA X W (e :: es) ma) (hn : x ≠ "__name__" := by decide) (hdb : (x == ("__debug__" : Str)) = false := by decide)
    (he : starEach (e :: es) X.env = (false, eval e X.env) :: starEach es X.env := by rfl) (hpl : (backTo pos (starEach es X.env)).any (·.1) = false := by rfl) : Sd X W (.Call (.Name x p) (e :: es) [] pos) (eFn f ma) := by
  obtain ⟨ta, pa, ca⟩ := ha.ex
  exact ⟨_, pe_callTy hc hg hm hv pa hn hdb he hpl, cl_fn ok ca⟩
end
theorem one_of {vs : List V} {d : PyData} (c : CtA G H vs [d]) : ∃ v, vs = [v] ∧ Ct G H v d := by
  cases c with
  | cons a b => cases b; exact ⟨_, rfl, a⟩
theorem two_of {vs : List V} {d e : PyData} (c : CtA G H vs [d, e]) : ∃ v w, vs = [v, w] ∧ Ct G H v d ∧ Ct G H w e := by
  cases c with
  | cons a b =>
    cases b with
    | cons b c => cases c; exact ⟨_, _, rfl, a, b⟩
theorem FzK.length {F : Addr → Prop} : ∀ {ks : List (Key × V)} {ds : List (PyData × PyData)}, FzK F H ks ds → ks.length = ds.length
  | _, _, .nil => rfl
  | _, _, .cons _ b => congrArg (· + 1) b.length
theorem FzT.length {F : Addr → Prop} : ∀ {ks : List (List Key × V)} {ds : List (PyData × PyData)}, FzT F H ks ds → ks.length = ds.length
  | _, _, .nil => rfl
  | _, _, .cons _ b => congrArg (· + 1) b.length
theorem call_lenD2 : CallR X (.builtin "len") (fun xs H Q => ∃ a kvs, xs = [V.ref a] ∧ Rd H a (.dK kvs) ∧ Q (.int kvs.length) H) := by
  intro pins s σ H xs us Q I r h
  obtain ⟨a, kvs, rfl, ha, q⟩ := h
  obtain ⟨u, rfl, ru⟩ := vals1 r
  cases ru
  exact d_len I ha fun t s' I' => ⟨.int kvs.length, H, I', ⟨t, rfl⟩, q⟩
def rLenT2 : List V → Hp → VK → Prop := fun xs H Q => ∃ (p : Addr) (kvs : List (List Key × V)), xs = [.ref p] ∧ Rd H p (.dT kvs) ∧ Q (.int ((kvs.length : Nat) : Int)) H
theorem call_len_dT2 {X : Cx} : CallR X (.builtin "len") rLenT2 := by
  intro pins s σ H xs us Q I r h
  obtain ⟨p, kvs, rfl, hp, q⟩ := h
  obtain ⟨u, rfl, rx⟩ := vals1 r
  obtain rfl : u = .ref p := rx
  obtain ⟨z, hd, ys, rel, dd⟩ := dt_rd I.hok hp
  have hl : kvs.length = ys.length := Paired.length rel
  refine call_len_dictH hd dd (by rw [← hl]; rw [sizeLine_eq] at z; omega) ?_
  rw [← hl]
  exact ⟨.int ((kvs.length : Nat) : Int), H, I.tok _, ⟨_, rfl⟩, q⟩
abbrev rLenA (K : PySem.W.Frag) : List V → Hp → VK → Prop := fun xs H Q =>
  (∃ p ys, xs = [.ref p] ∧ (SqL K H p ys ∨ SqT K H p ys) ∧ Q (.int ys.length) H) ∨ (∃ z : Str, xs = [.str z] ∧ z.length ≤ sizeLine ∧ Q (.int z.length) H) ∨
    (∃ a kvs, xs = [.ref a] ∧ Rd H a (.dK kvs) ∧ Q (.int kvs.length) H) ∨ rLenT2 xs H Q
theorem call_lenA : CallR X (.builtin "len") (rLenA X.K) := call_len_seq.or (call_len_str.or (call_lenD2.or call_len_dT2))
theorem ok_len : CallOk (rLenA X.K) lenD := by
  intro P G σ H s vs ds z Q R cc ez h
  unfold lenD at ez
  split at ez
  · cases ez
    obtain ⟨v, rfl, a, xs, rfl, e, r⟩ := one_of cc
    refine .inl ⟨a, xs, rfl, .inl (SqL.of e), ?_⟩
    rw [r.length]
    exact h G _ H .refl R (.int _)
  · cases ez
    obtain ⟨v, rfl, c⟩ := one_of cc
    obtain ⟨a, xs, rfl, f, e, r⟩ := c.tup
    refine .inl ⟨a, xs, rfl, .inr (SqT.of e), ?_⟩
    rw [r.length]
    exact h G _ H .refl R (.int _)
  · cases ez
    obtain ⟨v, rfl, a, rfl, ⟨ks, e, r⟩ | ⟨ks, e, r⟩⟩ := one_of cc
    · refine .inr (.inr (.inl ⟨a, ks, rfl, e, ?_⟩))
      rw [r.length]
      exact h G _ H .refl R (.int _)
    · refine .inr (.inr (.inr ⟨a, ks, rfl, e, ?_⟩))
      rw [r.length]
      exact h G _ H .refl R (.int _)
  · split at ez <;> cases ez
    rename_i hl
    obtain ⟨v, rfl, c⟩ := one_of cc
    exact .inr (.inl ⟨_, by rw [c.str_], lim_line hl, h G _ H .refl R (.int _)⟩)
  · cases ez
theorem ok_abs : CallOk (fun xs H Q => ∃ i, xs = [V.int i] ∧ Q (V.int (if i < 0 then -i else i)) H) absD := by
  intro P G σ H s vs ds z Q R cc ez h
  unfold absD at ez
  split at ez <;> cases ez
  obtain ⟨v, rfl, c⟩ := one_of cc
  exact ⟨_, by rw [c.int_], h G _ H .refl R (.int _)⟩
theorem ok_max2 : CallOk (fun xs H Q => ∃ i j, xs = [V.int i, V.int j] ∧ Q (V.int (if j > i then j else i)) H) max2D := by
  intro P G σ H s vs ds z Q R cc ez h
  unfold max2D at ez
  split at ez <;> cases ez
  obtain ⟨v, w, rfl, c, c'⟩ := two_of cc
  exact ⟨_, _, by rw [c.int_, c'.int_], h G _ H .refl R (.int _)⟩
theorem ok_int : CallOk (fun xs H Q => (∃ i, xs = [V.int i] ∧ Q (V.int i) H) ∨ ∃ k, xs = [V.bl k] ∧ Q (V.int (if k = true then 1 else 0)) H) intD := by
  intro P G σ H s vs ds z Q R cc ez h
  unfold intD at ez
  split at ez <;> cases ez
  · obtain ⟨v, rfl, c⟩ := one_of cc
    exact .inl ⟨_, by rw [c.int_], h G _ H .refl R (.int _)⟩
  · obtain ⟨v, rfl, c⟩ := one_of cc
    exact .inr ⟨_, by rw [c.bool_], h G _ H .refl R (.int _)⟩
theorem ok_bool : CallOk (fun xs H Q => (∃ i : Int, xs = [V.int i] ∧ Q (V.bl (i != 0)) H) ∨ ∃ k, xs = [V.bl k] ∧ Q (V.bl k) H) boolF := by
  intro P G σ H s vs ds z Q R cc ez h
  unfold boolF at ez
  split at ez <;> cases ez
  · obtain ⟨v, rfl, c⟩ := one_of cc
    exact .inl ⟨_, by rw [c.int_], h G _ H .refl R (.bl _)⟩
  · obtain ⟨v, rfl, c⟩ := one_of cc
    exact .inr ⟨_, by rw [c.bool_], h G _ H .refl R (.bl _)⟩
theorem ok_tuple : CallOk (fun xs H Q => ∃ p ys, xs = [V.ref p] ∧ ((SqL X.K H p ys ∧ ∀ l, H l = none → Q (V.ref l) (upd H l (.tup ys))) ∨ (SqT X.K H p ys ∧ Q (V.ref p) H))) tupleD := by
  intro P G σ H s vs ds z Q R cc ez h
  unfold tupleD at ez
  split at ez <;> cases ez
  · obtain ⟨v, rfl, a, xs, rfl, e, r⟩ := one_of cc
    refine ⟨a, xs, rfl, .inl ⟨SqL.of e, fun p hp => ?_⟩⟩
    obtain ⟨x, R', r'⟩ := R.newTup hp r
    exact h _ _ _ x R' r'
  · obtain ⟨v, rfl, c⟩ := one_of cc
    obtain ⟨a, xs, rfl, f, e, r⟩ := c.tup
    exact ⟨a, xs, rfl, .inr ⟨SqT.of e, h G _ H .refl R (.tup f e r)⟩⟩
theorem ok_list : CallOk (fun xs H Q => ∃ p ys, xs = [V.ref p] ∧ (SqL X.K H p ys ∨ SqT X.K H p ys) ∧ ∀ l, H l = none → Q (V.ref l) (upd H l (.lst ys))) listD := by
  intro P G σ H s vs ds z Q R cc ez h
  unfold listD at ez
  split at ez <;> cases ez
  · obtain ⟨v, rfl, a, xs, rfl, e, r⟩ := one_of cc
    refine ⟨a, xs, rfl, .inl (SqL.of e), fun p hp => ?_⟩
    obtain ⟨x, R', r'⟩ := R.newLst hp r
    exact h _ _ _ x R' r'
  · obtain ⟨v, rfl, c⟩ := one_of cc
    obtain ⟨a, xs, rfl, f, e, r⟩ := c.tup
    refine ⟨a, xs, rfl, .inr (SqT.of e), fun p hp => ?_⟩
    obtain ⟨x, R', r'⟩ := R.newLst hp r
    exact h _ _ _ x R' r'
theorem ok_all : CallOk (rAll X.K) allD := by
  intro P G σ H s vs ds z Q R cc ez h
  unfold allD at ez
  split at ez
  · rename_i ds
    cases q : boolsOf ds with
    | none => rw [q] at ez; cases ez
    | some ns =>
      rw [q] at ez
      cases ez
      obtain ⟨v, rfl, a, xs, rfl, e, r⟩ := one_of cc
      rw [boolsOf_eq q] at r
      exact ⟨a, ns, rfl, SqL.of (by rw [e, r.bools]), h G _ H .refl R (.bl _)⟩
  · cases ez
theorem sorted_one : ∀ {a b : List Int}, a.Perm b → List.Pairwise (fun x y : Int => x ≤ y) a → List.Pairwise (fun x y : Int => x ≤ y) b → a = b := fun {a b} p ha hb =>
  p.eq_of_pairwise (fun _ _ _ _ h1 h2 => Int.le_antisymm h1 h2) ha hb
theorem ok_repr : CallOk rRepr reprD := by
  intro P G σ H s vs ds z Q R cc ez h
  unfold reprD at ez
  split at ez
  · split at ez <;> cases ez
    rename_i hc
    rw [Bool.and_eq_true, Bool.and_eq_true, decide_eq_true_eq, decide_eq_true_eq] at hc
    obtain ⟨v, rfl, c⟩ := one_of cc
    exact ⟨v, _, rfl, c.pk, hc.1.1, hc.1.2, hc.2, h G _ H .refl R (.str _)⟩
  · cases ez
def tyName : PyData → String
  | .none => "NoneType"
  | .bool _ => "bool"
  | .int _ => "int"
  | .str _ => "str"
  | .list _ => "list"
  | .tuple _ => "tuple"
  | .dict _ => "dict"
def TyY (K : PySem.W.Frag) (H : Hp) (x : V) (t : Value) : Prop := TyX K H x t ∨ ∃ (a : Addr) (o : Obj) (kvs : List (List Key × V)), x = .ref a ∧ H a = some (.frz o (.dT kvs)) ∧ t = .type "dict"
def rIsiY (K : PySem.W.Frag) : List V → Hp → VK → Prop := fun xs H Q => ∃ (x c : V) (t u : Value) (b : Bool), xs = [x, c] ∧ ClsV c u ∧ TyY K H x t ∧ PySem.W.kitOne K t u = some b ∧ Q (.bl b) H
theorem call_isiY {X : Cx} : CallR X (.builtin "isinstance") (rIsiY X.K) := by
  intro pins s σ H xs us Q I r h
  obtain ⟨x, c, t, u, b, rfl, k, ty, e, q⟩ := h
  rcases ty with ty | ⟨a, o, kvs, rfl, ea, rfl⟩
  · exact call_isi pins s σ H _ us Q I r ⟨x, c, t, u, b, rfl, k, ty, e, q⟩
  · obtain ⟨u1, u2, rfl, r1, r2⟩ := vals2 r
    have e2 := k.eq r2
    subst e2
    cases (show u1 = Value.ref a from r1)
    obtain ⟨_, hgd, hx, _⟩ := I.frzT ea
    exact PySem.W.kia_one PySem.W.kitx_dict I.kIn (show ∃ o, s.heap.get? a = some o ∧ _ from ⟨o, hgd, hx.1⟩) e (fun z => nomatch z) fun tk => ⟨.bl b, H, I.tok tk, rfl, q⟩
theorem ty_of {K : PySem.W.Frag} {d : PyData} (c : Ct G H v d) : ∃ t : String, TyY K H v (.type t) ∧ t = tyName d := by
  cases d with
  | none => exact ⟨_, .inl (by rw [c.none_]; exact .base .non), rfl⟩
  | bool b => exact ⟨_, .inl (by rw [c.bool_]; exact .base (.bl _)), rfl⟩
  | int b => exact ⟨_, .inl (by rw [c.int_]; exact .base (.int _)), rfl⟩
  | str b => exact ⟨_, .inl (by rw [c.str_]; exact .base (.str _)), rfl⟩
  | list b => obtain ⟨a, xs, rfl, e, _⟩ := c; exact ⟨_, .inl (.base (.lst e)), rfl⟩
  | tuple b => obtain ⟨a, xs, rfl, _, e, _⟩ := c.tup; exact ⟨_, .inl (.base (.tup e)), rfl⟩
  | dict b =>
    obtain ⟨a, rfl, ⟨ks, e, _⟩ | ⟨ks, e, _⟩⟩ := c
    · rcases e with e | ⟨o, e⟩
      · exact ⟨_, .inl (.base (.dK e)), rfl⟩
      · exact ⟨_, .inl (.fDict e), rfl⟩
    · rcases e with e | ⟨o, e⟩
      · exact ⟨_, .inl (.base (.dT e)), rfl⟩
      · exact ⟨_, .inr ⟨a, o, ks, rfl, e, rfl⟩, rfl⟩
theorem sd_is (t : Ty) {a : Expr} {x : Str} {p p2 pos : Pos} {ma : M Opd} (ha : Sd X W a ma) (hg : Gl X "isinstance") (hm : X.mg "isinstance" = none) (hv : bootBuiltins "isinstance" = some (.builtin "isinstance"))
    (gt : Gl X x) (mt : X.mg x = none) (vt : bootBuiltins x = some (.type t.name)) (hn : x ≠ "__name__" := by decide) (hdb : (x == ("__debug__" : Str)) = false := by decide)
    (he : starEach [a, .Name x p2] X.env = (false, eval a X.env) :: starEach [.Name x p2] X.env := by rfl) (he2 : starEach [.Name x p2] X.env = [(false, eval (.Name x p2) X.env)] := by rfl) (hpl : (backTo pos (starEach [.Name x p2] X.env)).any (·.1) = false := by rfl) :
    Sd X W (.Call (.Name "isinstance" p) [a, .Name x p2] [] pos) (eIs t ma) := by
  obtain ⟨ta, pa, ca⟩ := ha.ex
  refine ⟨_, pe_callB call_isiY hg hm hv (pa_cons pa (pa_cons (pe_bltn (v := .ty t.name) gt mt vt rfl hn hdb) pa_nil he2) he) (by decide) (by decide) he hpl, ?_⟩
  intro P G σ H s Q R hw
  unfold eIs at hw
  refine ca.bind PostV.mono R hw fun o1 s1 G1 v1 H1 x1 R1 r1 hw1 => ?_
  obtain ⟨d, c1, hw2⟩ := peek_ok R1 r1 (W.stuck _ _ _) hw1
  obtain ⟨tn, hty, et⟩ := ty_of (K := X.K) c1
  refine ⟨v1, _, _, _, isD t d, rfl, .ty _, hty, ?_, hw2 G1 _ H1 .refl R1 (.bl _)⟩
  subst et
  cases t <;> cases d <;> rfl
end
end TW
set_option linter.all false
set_option Elab.async false
namespace TW
open PySem L2
inductive Fl where
  | nx
  | rt (d : PyData)
  | bk
  | ct
def sSkip : M Fl := pure .nx
def sSeq (a b : M Fl) : M Fl := do match ← a with
  | .nx => b
  | f => pure f
def sAsg (i : Nat) (e : M Opd) : M Fl := do let o ← e; let d ← take o; setS i (.dat d); pure .nx
def sAsgN (i : Nat) (n : M PyData) : M Fl := do let d ← n; setS i (.own d); pure .nx
def sRet (e : M Opd) : M Fl := do let o ← e; let d ← take o; pure (.rt d)
def sRetN : M Fl := pure (.rt .none)
def sIf (c : M Bool) (a b : M Fl) : M Fl := do let x ← c; if x = true then a else b
def tgName (i : Nat) (d : PyData) : M Unit := setS i (.dat d)
def tgAll : List (PyData → M Unit) → List PyData → M Unit
  | [], [] => pure ()
  | t :: ts, d :: ds => do t d; tgAll ts ds
  | _, _ => stuck
def tgTup (ts : List (PyData → M Unit)) (d : PyData) : M Unit := match d with
  | .tuple ds => if ds.length = ts.length then tgAll ts ds else stuck
  | _ => stuck
def sTg (t : PyData → M Unit) (e : M Opd) : M Fl := do let o ← e; let d ← take o; t d; pure .nx
def sPar (ts : List (PyData → M Unit)) (es : M (List Opd)) : M Fl := do let os ← es; let ds ← takes os; tgAll ts ds; pure .nx
def forL (t : PyData → M Unit) (b : M Fl) : List PyData → M Fl
  | [] => pure .nx
  | d :: ds => do t d; match ← b with
    | .bk => pure .nx
    | .rt v => pure (.rt v)
    | _ => forL t b ds
def sFor (m : M (List PyData)) (t : PyData → M Unit) (b : M Fl) : M Fl := do let ds ← m; forL t b ds
def whileL (c : M Bool) (b : M Fl) : Nat → M Fl
  | 0 => stuck
  | n + 1 => do
    let x ← c
    if x = true then (do match ← b with
      | .bk => pure .nx
      | .rt v => pure (.rt v)
      | _ => whileL c b n) else pure .nx
def PostS (P : Addr → Prop) (D : Ends) (G : Gh) (H : Hp) (f : Fl) (s' : Sx) : Prop := match f with
  | .nx => ∀ G' σ' H', Ext P G H G' H' → Rel P G' σ' H' s' → D.nx σ' H'
  | .rt d => ∀ G' σ' v H', Ext P G H G' H' → Rel P G' σ' H' s' → Fz G'.F H' v d → D.rt v H'
  | .bk => ∀ G' σ' H', Ext P G H G' H' → Rel P G' σ' H' s' → D.bk σ' H'
  | .ct => ∀ G' σ' H', Ext P G H G' H' → Rel P G' σ' H' s' → D.ct σ' H'
theorem PostS.mono {P : Addr → Prop} {D : Ends} : Mono P (PostS P D) := fun G H G1 H1 f s x h => by
  cases f with
  | nx => exact fun G' σ' H' y => h G' σ' H' (x.trans y)
  | rt d => exact fun G' σ' v H' y => h G' σ' v H' (x.trans y)
  | bk => exact fun G' σ' H' y => h G' σ' H' (x.trans y)
  | ct => exact fun G' σ' H' y => h G' σ' H' (x.trans y)
def ClS (W : Wish) (ts : TS) (m : M Fl) : Prop := ∀ P G σ H s (D : Ends), Rel P G σ H s → pw m s (PostS P D G H) (W.w P G H) → ts D σ H
structure SdS (X : Cx) (W : Wish) (st : Stmt) (m : M Fl) : Prop where
  ex : ∃ ts, PS X st ts ∧ ClS W ts m
structure SdB (X : Cx) (W : Wish) (st : List Stmt) (m : M Fl) : Prop where
  ex : ∃ ts, PSs X st ts ∧ ClS W ts m
structure Free (P : Addr → Prop) (G : Gh) (σ : L2.St) (s : Sx) (a : Addr) : Prop where
  f : ¬ G.F a
  p : ¬ P a
  b : a ∉ G.bs
  o : ∀ (i : Nat) d, s.r[i]? = some (SV.own d) → σ[i]? ≠ some (some (V.ref a))
abbrev PostN (P : Addr → Prop) (σ : L2.St) (Q : VK) (G : Gh) (H : Hp) (d : PyData) (s' : Sx) : Prop := ∀ G' a H', Ext P G H G' H' → Rel P G' σ H' s' → Ow G'.F H' a d → Free P G' σ s' a → Q (.ref a) H'
def ClN (W : Wish) (te : TE) (m : M PyData) : Prop := ∀ P G σ H s (Q : VK), Rel P G σ H s → pw m s (PostN P σ Q G H) (W.w P G H) → te σ H Q
structure SdN (X : Cx) (W : Wish) (e : Expr) (m : M PyData) : Prop where
  ex : ∃ te, PE X e te ∧ ClN W te m
abbrev PostG (P : Addr → Prop) (Q : L2.St → Hp → Prop) (G : Gh) (H : Hp) (_ : Unit) (s' : Sx) : Prop := ∀ G' σ' H', Ext P G H G' H' → Rel P G' σ' H' s' → Q σ' H'
def ClG (W : Wish) (g : TG) (t : PyData → M Unit) : Prop := ∀ P G σ H s v d (Q : L2.St → Hp → Prop), Rel P G σ H s → Fz G.F H v d → pw (t d) s (PostG P Q G H) (W.w P G H) → g v σ H Q
structure SdG (X : Cx) (W : Wish) (e : Expr) (t : PyData → M Unit) : Prop where
  ex : ∃ g, PG X e g ∧ ClG W g t
section
variable {P : Addr → Prop} {G G' : Gh} {σ : L2.St} {H H' : Hp} {s s' : Sx} {v : V} {o : Opd} {W : Wish} {X : Cx} {k : Nat}
theorem PostN.mono {Q : VK} : Mono P (PostN P σ Q) := fun _ _ _ _ _ _ x q G' v H' y => q G' v H' (x.trans y)
theorem PostG.mono {Q : L2.St → Hp → Prop} : Mono P (PostG P Q) := fun _ _ _ _ _ _ x q G' v H' y => q G' v H' (x.trans y)
theorem set_get {l : List SV} {i j : Nat} {x y : SV} (h : (l.set i x)[j]? = some y) : (j = i ∧ y = x ∧ i < l.length) ∨ (j ≠ i ∧ l[j]? = some y) := by
  by_cases hj : j = i
  · subst hj
    by_cases hi : j < l.length
    · rw [List.getElem?_set_self hi] at h
      cases h
      exact .inl ⟨rfl, rfl, hi⟩
    · rw [List.getElem?_eq_none (by rw [List.length_set]; omega)] at h
      cases h
  · rw [List.getElem?_set_ne (Ne.symm hj)] at h
    exact .inr ⟨hj, h⟩
theorem Rel.setDat {d : PyData} (R : Rel P G σ H s) (i : Nat) (h : Fz G.F H v d) : Rel P G (σ.set i (some v)) H { s with r := s.r.set i (.dat d) } := by
  refine ⟨by rw [List.length_set, List.length_set]; exact R.len, fun j x e => ?_, fun j x e => ?_, fun j l x y hjl e e' => ?_, fun j e => ?_, R.bx, R.nb, R.fr, R.pr, R.bF, R.tb⟩
  · rcases set_get e with ⟨rfl, q, hi⟩ | ⟨hj, q⟩
    · cases q
      exact ⟨v, List.getElem?_set_self (by rw [R.len]; exact hi), h⟩
    · rw [List.getElem?_set_ne (Ne.symm hj)]
      exact R.dat j x q
  · rcases set_get e with ⟨rfl, q, hi⟩ | ⟨hj, q⟩
    · cases q
    · rw [List.getElem?_set_ne (Ne.symm hj)]
      exact R.own j x q
  · rcases set_get e with ⟨rfl, q, hi⟩ | ⟨hj, q⟩
    · cases q
    · rcases set_get e' with ⟨rfl, q', hi'⟩ | ⟨hj', q'⟩
      · cases q'
      · rw [List.getElem?_set_ne (Ne.symm hj), List.getElem?_set_ne (Ne.symm hj')]
        exact R.sep j l x y hjl q q'
  · rcases set_get e with ⟨rfl, q, hi⟩ | ⟨hj, q⟩
    · cases q
    · rw [List.getElem?_set_ne (Ne.symm hj)]
      exact R.box j q
theorem Rel.setOwn {a : Addr} {d : PyData} (R : Rel P G σ H s) (i : Nat) (h : Ow G.F H a d) (f : Free P G σ s a) : Rel P G (σ.set i (some (.ref a))) H { s with r := s.r.set i (.own d) } := by
  refine ⟨by rw [List.length_set, List.length_set]; exact R.len, fun j x e => ?_, fun j x e => ?_, fun j l x y hjl e e' => ?_, fun j e => ?_, R.bx, R.nb, R.fr, R.pr, R.bF, R.tb⟩
  · rcases set_get e with ⟨rfl, q, hi⟩ | ⟨hj, q⟩
    · cases q
    · rw [List.getElem?_set_ne (Ne.symm hj)]
      exact R.dat j x q
  · rcases set_get e with ⟨rfl, q, hi⟩ | ⟨hj, q⟩
    · cases q
      exact ⟨a, List.getElem?_set_self (by rw [R.len]; exact hi), h, f.f, f.p, f.b⟩
    · rw [List.getElem?_set_ne (Ne.symm hj)]
      exact R.own j x q
  · rcases set_get e with ⟨rfl, q, hi⟩ | ⟨hj, q⟩
    · rcases set_get e' with ⟨rfl, q', hi'⟩ | ⟨hj', q'⟩
      · exact absurd rfl hjl
      · rw [List.getElem?_set_self (by rw [R.len]; exact hi), List.getElem?_set_ne (Ne.symm hj')]
        exact fun z => f.o l y q' z.symm
    · rcases set_get e' with ⟨rfl, q', hi'⟩ | ⟨hj', q'⟩
      · rw [List.getElem?_set_self (by rw [R.len]; exact hi'), List.getElem?_set_ne (Ne.symm hj)]
        exact fun z => f.o j x q z
      · rw [List.getElem?_set_ne (Ne.symm hj), List.getElem?_set_ne (Ne.symm hj')]
        exact R.sep j l x y hjl q q'
  · rcases set_get e with ⟨rfl, q, hi⟩ | ⟨hj, q⟩
    · cases q
    · rw [List.getElem?_set_ne (Ne.symm hj)]
      exact R.box j q
theorem cl_nw {te : TE} {m : M PyData} (c : ClN W te m) : ClE W te (eNw m) := by
  intro P G σ H s Q R hw
  unfold eNw at hw
  rw [pw_bind] at hw
  refine c P G σ H s Q R (pw_mono hw (fun d s1 h G1 a H1 x1 R1 ow f => ?_) fun _ h => h)
  have h := pw_ext (m := (pure (.val d) : M Opd)) PostV.mono x1 h
  obtain ⟨x2, R2⟩ := R1.fix (a := a) ow.tracked f.p f.b f.o (R1.tb.not ow.calm)
  refine h _ _ H1 x2 R2 ?_
  cases d with
  | list ds => obtain ⟨xs, e, r⟩ := ow; exact .lst (.inr rfl) e (r.ext x2)
  | dict ds =>
    rcases ow with ⟨ks, e, r⟩ | ⟨ks, e, r⟩
    · exact .dic (.inr rfl) (.inl e) (r.sim x2.F x2.kF)
    · exact .dit (.inr rfl) (.inl e) (r.sim x2.F x2.kF)
  | none => exact ow.elim
  | bool _ => exact ow.elim
  | int _ => exact ow.elim
  | str _ => exact ow.elim
  | tuple _ => exact ow.elim
theorem sd_nw {e : Expr} {m : M PyData} (h : SdN X W e m) : Sd X W e (eNw m) := let ⟨t, p, c⟩ := h.ex; ⟨t, p, cl_nw c⟩
theorem Rel.layOwn {a : Addr} {xs : List V} {ds : List PyData} (R : Rel P G σ H s) (hn : H a = none) (r : FzA G.F H xs ds) :
    Ext P G H G (upd H a (.lst xs)) ∧ Rel P G σ (upd H a (.lst xs)) s ∧ Ow G.F (upd H a (.lst xs)) a (.list ds) ∧ Free P G σ s a := by
  obtain ⟨x, R1, h1, h2, h3, h4⟩ := R.lay (u := .lst xs) hn
  exact ⟨x, R1, ⟨xs, upd_same, r.ext x⟩, ⟨h1, h2, h3, h4⟩⟩
theorem sn_lst {es : List Expr} {pos : Pos} {m : M (List Opd)} (h : SdA X W es m) : SdN X W (.List es pos) (nLst m) := by
  obtain ⟨ta, pa, ca⟩ := h.ex
  refine ⟨_, pe_lst pa, ?_⟩
  intro P G σ H s Q R hw
  unfold nLst at hw
  refine ca.bind PostN.mono R hw fun os s1 G1 vs H1 x1 R1 r1 hw1 => ?_
  obtain ⟨G2, s2, ds, x2, R2, z, hw2⟩ := takes_ok PostN.mono R1 r1 hw1
  split at hw2
  · rename_i hl
    refine ⟨by rw [z.length]; exact lim_line hl, fun p hp => ?_⟩
    obtain ⟨x3, R3, ow, f⟩ := R2.layOwn hp z
    exact hw2 _ _ _ x3 R3 ow f
  · exact absurd hw2 (W.stuck _ _ _)
theorem sg_name {i : Nat} {x : Str} {pos : Pos} (C : Cok X k) (hi : X.N[i]? = some x) (hx : Loc X.env.scope x) (hf : X.fn x = true ∨ X.env.scope.names.lookup x = some .local := by first | exact .inl rfl | exact .inr rfl | assumption) : SdG X W (.Name x pos) (tgName i) := by
  refine ⟨_, pg_name C.nd hi hx hf, ?_⟩
  intro P G σ H s v d Q R r hw
  exact hw G _ H .refl (R.setDat i r)
structure SdGs (X : Cx) (W : Wish) (es : List Expr) (ts : List (PyData → M Unit)) : Prop where
  ex : ∃ g, PGs X es g ∧ ∀ P G σ H s vs ds (Q : L2.St → Hp → Prop), Rel P G σ H s → FzA G.F H vs ds → pw (tgAll ts ds) s (PostG P Q G H) (W.w P G H) → g vs σ H Q
theorem sgs_nil : SdGs X W [] [] := by
  refine ⟨_, pgs_nil, ?_⟩
  intro P G σ H s vs ds Q R r hw
  cases r with
  | nil => exact ⟨rfl, hw G σ H .refl R⟩
  | cons a b => exact absurd hw (W.stuck _ _ _)
theorem sgs_cons {e : Expr} {es : List Expr} {t : PyData → M Unit} {ts : List (PyData → M Unit)} (h : SdG X W e t) (hs : SdGs X W es ts) (ha : (assignEach (e :: es) X.env).map (·.2) = assign e X.env :: (assignEach es X.env).map (·.2) := by rfl) : SdGs X W (e :: es) (t :: ts) := by
  obtain ⟨g, pg, cg⟩ := h.ex
  obtain ⟨g', pg', cg'⟩ := hs.ex
  refine ⟨_, pgs_cons pg pg' ha, ?_⟩
  intro P G σ H s vs ds Q R r hw
  cases r with
  | nil => exact absurd hw (W.stuck _ _ _)
  | @cons v vs d ds a b =>
    have hw : pw (t d >>= fun _ => tgAll ts ds) s (PostG P Q G H) (W.w P G H) := hw
    rw [pw_bind] at hw
    refine ⟨v, vs, rfl, cg P G σ H s v d _ R a (pw_mono hw (fun _ s1 h G1 σ1 H1 x1 R1 => ?_) fun _ h => h)⟩
    exact cg' P G1 σ1 H1 s1 vs ds Q R1 (b.ext x1) (pw_ext PostG.mono x1 h)
theorem sg_tup {es : List Expr} {kk : Nat} {pos : Pos} {ts : List (PyData → M Unit)} (C : Cok X k) (h : SdGs X W es ts) (hn : (assignEach es X.env).length = ts.length := by rfl) (hst : (assignEach es X.env).findIdx? (·.1) = none := by rfl) : SdG X W (.Tuple es kk pos) (tgTup ts) := by
  obtain ⟨g, pg, cg⟩ := h.ex
  refine ⟨_, pg_tup C.calm pg hn hst, ?_⟩
  intro P G σ H s v d Q R r hw
  cases d with
  | tuple ds =>
    obtain ⟨a, xs, rfl, f, e, rr⟩ := r.tup_inv
    have hw : pw (if ds.length = ts.length then tgAll ts ds else stuck) s (PostG P Q G H) (W.w P G H) := hw
    split at hw
    · rename_i hl
      exact ⟨a, xs, rfl, SqT.of e, by rw [rr.length, hl], cg P G σ H s xs ds Q R rr hw⟩
    · exact absurd hw (W.stuck _ _ _)
  | none => exact absurd hw (W.stuck _ _ _)
  | bool _ => exact absurd hw (W.stuck _ _ _)
  | int _ => exact absurd hw (W.stuck _ _ _)
  | str _ => exact absurd hw (W.stuck _ _ _)
  | list _ => exact absurd hw (W.stuck _ _ _)
  | dict _ => exact absurd hw (W.stuck _ _ _)
theorem ss_asg {i : Nat} {x : Str} {pos' pos : Pos} {e : Expr} {m : M Opd} (C : Cok X k) (h : Sd X W e m) (hi : X.N[i]? = some x) (hx : Loc X.env.scope x) (hs : swapsWith e (some (.Name x pos')) pos.line X.env = pure false := by rfl) (hf : X.fn x = true ∨ X.env.scope.names.lookup x = some .local := by first | exact .inl rfl | exact .inr rfl | assumption) :
    SdS X W (.Assign [.Name x pos'] e pos) (sAsg i m) := by
  obtain ⟨te, pe, ce⟩ := h.ex
  refine ⟨_, ps_set C.nd hi hx pe hs hf, ?_⟩
  intro P G σ H s D R hw
  unfold sAsg at hw
  refine ce.bind PostS.mono R hw fun o1 s1 G1 v1 H1 x1 R1 r1 hw1 => ?_
  obtain ⟨G2, s2, d, x2, R2, z, hw2⟩ := take_ok PostS.mono R1 r1 hw1
  exact hw2 _ _ _ .refl (R2.setDat i z)
theorem ss_asgN {i : Nat} {x : Str} {pos' pos : Pos} {e : Expr} {m : M PyData} (C : Cok X k) (h : SdN X W e m) (hi : X.N[i]? = some x) (hx : Loc X.env.scope x) (hs : swapsWith e (some (.Name x pos')) pos.line X.env = pure false := by rfl) (hf : X.fn x = true ∨ X.env.scope.names.lookup x = some .local := by first | exact .inl rfl | exact .inr rfl | assumption) :
    SdS X W (.Assign [.Name x pos'] e pos) (sAsgN i m) := by
  obtain ⟨te, pe, ce⟩ := h.ex
  refine ⟨_, ps_set C.nd hi hx pe hs hf, ?_⟩
  intro P G σ H s D R hw
  unfold sAsgN at hw
  rw [pw_bind] at hw
  refine ce P G σ H s _ R (pw_mono hw (fun d s1 h G1 a H1 x1 R1 ow f => ?_) fun _ h => h)
  have h := pw_ext (m := (do setS i (.own d); pure .nx : M Fl)) PostS.mono x1 h
  exact h _ _ _ .refl (R1.setOwn i ow f)
theorem ss_tg {tg e : Expr} {pos : Pos} {m : M Opd} {t : PyData → M Unit} (h : Sd X W e m) (hg : SdG X W tg t) (hs : swapsWithSole [tg] e pos.line X.env = pure false := by rfl) (hw : swappedStores [tg] e X.env = pure none := by rfl) (h1 : (assignEach [tg] X.env).map (·.2) = [assign tg X.env] := by rfl) : SdS X W (.Assign [tg] e pos) (sTg t m) := by
  obtain ⟨te, pe, ce⟩ := h.ex
  obtain ⟨g, pg, cg⟩ := hg.ex
  refine ⟨_, ps_asg pe pg hs hw h1, ?_⟩
  intro P G σ H s D R hw
  unfold sTg at hw
  refine ce.bind PostS.mono R hw fun o1 s1 G1 v1 H1 x1 R1 r1 hw1 => ?_
  obtain ⟨G2, s2, d, x2, R2, z, hw2⟩ := take_ok PostS.mono R1 r1 hw1
  rw [pw_bind] at hw2
  exact cg P G2 σ H1 s2 v1 d _ R2 z (pw_mono hw2 (fun _ s3 h => h) fun _ h => h)
theorem sb_nil : SdB X W [] sSkip := ⟨_, pss_nil, fun P G σ H s D R hw => hw G σ H .refl R⟩
theorem sb_one {st : Stmt} {m : M Fl} (h : SdS X W st m) : SdB X W [st] m := let ⟨t, p, c⟩ := h.ex; ⟨t, pss_one p, c⟩
theorem sb_cons {st : Stmt} {rest : List Stmt} {m r : M Fl} (h : SdS X W st m) (hr : SdB X W rest r) : SdB X W (st :: rest) (sSeq m r) := by
  obtain ⟨t, p, c⟩ := h.ex
  obtain ⟨t', p', c'⟩ := hr.ex
  refine ⟨_, pss_cons p p', ?_⟩
  intro P G σ H s D R hw
  unfold sSeq at hw
  rw [pw_bind] at hw
  refine c P G σ H s _ R (pw_mono hw (fun f s1 h => ?_) fun _ h => h)
  cases f with
  | nx => exact fun G1 σ1 H1 x1 R1 => c' P G1 σ1 H1 s1 D R1 (pw_ext PostS.mono x1 h)
  | rt d => exact h
  | bk => exact h
  | ct => exact h
theorem ss_ret {e : Expr} {pos : Pos} {m : M Opd} (h : Sd X W e m) : SdS X W (.Return (some e) pos) (sRet m) := by
  obtain ⟨te, pe, ce⟩ := h.ex
  refine ⟨_, ps_ret pe, ?_⟩
  intro P G σ H s D R hw
  unfold sRet at hw
  refine ce.bind PostS.mono R hw fun o1 s1 G1 v1 H1 x1 R1 r1 hw1 => ?_
  obtain ⟨G2, s2, d, x2, R2, z, hw2⟩ := take_ok PostS.mono R1 r1 hw1
  exact hw2 _ _ _ _ .refl R2 z
theorem ss_if {c : Expr} {a b : List Stmt} {pos : Pos} {mc : M Bool} {ma mb : M Fl} (hc : SdT X W c mc) (ha : SdB X W a ma) (hb : SdB X W b mb) : SdS X W (.If c a b pos) (sIf mc ma mb) := by
  obtain ⟨tc, pc, cc⟩ := hc.ex
  obtain ⟨ta, pa, ca⟩ := ha.ex
  obtain ⟨tb, pb, cb⟩ := hb.ex
  refine ⟨_, ps_if pc pa pb, ?_⟩
  intro P G σ H s D R hw
  unfold sIf at hw
  refine cc.bind PostS.mono R hw fun c s1 G1 H1 x1 R1 hw1 => ?_
  cases c with
  | true => exact ca P G1 σ H1 s1 D R1 hw1
  | false => exact cb P G1 σ H1 s1 D R1 hw1
end
end TW
set_option linter.all false
set_option Elab.async false
namespace TW
open PySem L2
end TW
set_option linter.all false
set_option Elab.async false
namespace TW
open PySem L2
def ItOk (P : Addr → Prop) (J : It) (G0 : Gh) (H0 : Hp) (ds : List PyData) : Prop := ∀ P' G σ H s, Ext P G0 H0 G H → Rel P' G σ H s →
  (∀ i d, ds[i]? = some d → J.go i H ∧ ∀ x H', J.yld i H x H' → ∃ G', Ext P' G H G' H' ∧ Rel P' G' σ H' s ∧ Fz G'.F H' x d) ∧ J.stop ds.length H
abbrev PostI (P : Addr → Prop) (σ : L2.St) (R : It → Hp → Prop) (G : Gh) (H : Hp) (ds : List PyData) (s' : Sx) : Prop := ∀ G' H' J, Ext P G H G' H' → Rel P G' σ H' s' → ItOk P J G' H' ds → R J H'
def ClI (W : Wish) (wi : TI) (m : M (List PyData)) : Prop := ∀ P G σ H s (R : It → Hp → Prop), Rel P G σ H s → pw m s (PostI P σ R G H) (W.w P G H) → wi σ H R
structure SdI (X : Cx) (W : Wish) (tg e : Expr) (m : M (List PyData)) : Prop where
  ex : ∃ wi, PI X tg e wi ∧ ClI W wi m
def iSeqM (m : M Opd) : M (List PyData) := do let o ← m; match ← take o with
  | .list ds => pure ds
  | .tuple ds => pure ds
  | _ => stuck
def rgD (a b : Int) : List PyData := (List.range (b - a).toNat).map fun i => .int (a + (i : Nat))
@[irreducible] def big62 (i : Int) : Bool := decide (-(2 ^ 62) ≤ i) && decide (i < 2 ^ 62)
def iRg1 (m : M Opd) : M (List PyData) := do let o ← m; match ← peek o with
  | .int j => if big62 j then pure (rgD 0 j) else stuck
  | _ => stuck
def iRg2 (a b : M Opd) : M (List PyData) := do let o ← a; let p ← b; let x ← peek o; let y ← peek p; match x, y with
  | .int i, .int j => if big62 i && big62 j then pure (rgD i j) else stuck
  | _, _ => stuck
def pairsD : Nat → List PyData → List PyData
  | _, [] => []
  | i, d :: ds => .tuple [.int (i : Nat), d] :: pairsD (i + 1) ds
def iEnM (m : M Opd) : M (List PyData) := do let o ← m; match ← take o with
  | .tuple ds => pure (pairsD 0 ds)
  | .list ds => pure (pairsD 0 ds)
  | _ => stuck
def zipD : List PyData → List PyData → List PyData
  | a :: as, b :: bs => .tuple [a, b] :: zipD as bs
  | _, _ => []
def iZpM (a b : M Opd) : M (List PyData) := do let o ← a; let p ← b; let x ← take o; let y ← take p; match x, y with
  | .tuple xs, .tuple ys => pure (zipD xs ys)
  | .list xs, .list ys => pure (zipD xs ys)
  | _, _ => stuck
section
variable {P : Addr → Prop} {G G' : Gh} {σ : L2.St} {H H' : Hp} {s s' : Sx} {v : V} {o : Opd} {W : Wish} {X : Cx} {k : Nat} {tg : Expr}
theorem PostI.mono {R : It → Hp → Prop} : Mono P (PostI P σ R) := fun _ _ _ _ _ _ x q G' v H' y => q G' v H' (x.trans y)
theorem PI.or {e : Expr} {w1 w2 : TI} (h1 : PI X tg e w1) (h2 : PI X tg e w2) : PI X tg e (fun σ H R => w1 σ H R ∨ w2 σ H R) :=
  ⟨fun pins s σ H R I h => h.elim (h1.run pins s σ H R I) (h2.run pins s σ H R I)⟩
theorem SqT.inj {K : PySem.W.Frag} {a : Addr} {xs ys : List V} {H : Hp} (h : H a = some (.tup xs)) : SqT K H a xs := SqT.of h
theorem it_tup {K : PySem.W.Frag} {a : Addr} {xs : List V} {ds : List PyData} (f : G.F a) (e : H a = some (.tup xs)) (r : FzA G.F H xs ds) : ItOk P (Itt K a) G H ds := by
  intro P' G1 σ1 H1 s1 x R
  have e1 : H1 a = some (.tup xs) := (x.kF a f).tup e
  refine ⟨fun i d hd => ?_, ⟨xs, SqT.of e1, by rw [r.length]; exact Nat.le_refl _⟩⟩
  obtain ⟨v, hv, fv⟩ := r.get hd
  exact ⟨⟨xs, v, SqT.of e1, hv⟩, fun y H' ⟨h1, h2⟩ => by
    subst h1
    rw [h2 xs (SqT.of e1)] at hv
    cases hv
    exact ⟨G1, .refl, R, fv.ext x⟩⟩
theorem it_lst {K : PySem.W.Frag} {a : Addr} {xs : List V} {ds : List PyData} (f : G.F a) (e : H a = some (.lst xs)) (r : FzA G.F H xs ds) : ItOk P (Itl K a) G H ds := by
  intro P' G1 σ1 H1 s1 x R
  have e1 : H1 a = some (.lst xs) := (x.kF a f).lst e
  refine ⟨fun i d hd => ?_, ⟨xs, SqL.of e1, by rw [r.length]; exact Nat.le_refl _⟩⟩
  obtain ⟨v, hv, fv⟩ := r.get hd
  exact ⟨⟨xs, v, SqL.of e1, hv⟩, fun y H' ⟨h1, h2⟩ => by
    subst h1
    rw [h2 xs (SqL.of e1)] at hv
    cases hv
    exact ⟨G1, .refl, R, fv.ext x⟩⟩
theorem it_rg (lo : Int) (n : Nat) : ItOk P (Itr lo n) G H ((List.range n).map fun i => .int (lo + (i : Nat))) := by
  intro P' G1 σ1 H1 s1 x R
  refine ⟨fun i d hd => ?_, by show n ≤ _; simp⟩
  rw [List.getElem?_map] at hd
  cases q : (List.range n)[i]? with
  | none => rw [q] at hd; cases hd
  | some j =>
    rw [q] at hd
    cases hd
    have hi := (List.getElem?_eq_some_iff.mp q).1
    rw [List.length_range] at hi
    rw [List.getElem?_range hi] at q
    cases q
    exact ⟨hi, fun y H' ⟨h1, h2⟩ => by subst h1 h2; exact ⟨G1, .refl, R, .int _⟩⟩
def iSq (K : PySem.W.Frag) (tl : TE) : TI := fun σ H R => tl σ H fun x H1 => ∃ a, x = .ref a ∧ ((∃ xs, SqL K H1 a xs ∧ R (Itl K a) H1) ∨ (∃ xs, SqT K H1 a xs ∧ R (Itt K a) H1))
theorem pi_sq {l : Expr} {tl : TE} (hl : PE X l tl) : PI X tg l (iSq X.K tl) := by
  refine ⟨fun pins s σ H R I h => thn (hl.run pins s σ H _ I h) fun v s1 ⟨x, H1, I1, r1, a, ea, q1⟩ => ?_⟩
  subst ea
  cases r1
  have one : ∀ b ∈ [s1.heap.objs.size], FpOk X pins H1 b := fun b hb => by
    rw [List.mem_singleton.mp hb]
    exact I1.fpOk (Nat.le_refl _) (I1.hok.fresh (Nat.le_refl _))
  rcases q1 with ⟨xs, hq, q⟩ | ⟨xs, hq, q⟩
  · obtain ⟨its, rv, p, hz⟩ := I1.list hq
    exact wpAny_pyIter_list p.isList ⟨s1.heap.objs.size, [s1.heap.objs.size], _, _, H1, rfl, I1.kept (t' := s1.toks) (fun b o e => Heap.get?_push_of_some _ e), turn_list a _, ⟨_, Heap.get?_push_size _ rfl, rfl, rfl⟩, one, q⟩
  · obtain ⟨its, rv, p, hz⟩ := I1.tuple hq
    exact wpAny_pyIter_tuple (show s1.heap.IsTuple a its.toArray from p) ⟨s1.heap.objs.size, [s1.heap.objs.size], _, _, H1, rfl, I1.kept (t' := s1.toks) (fun b o e => Heap.get?_push_of_some _ e), turn_tuple a _, ⟨_, Heap.get?_push_size _ rfl, rfl, rfl⟩, one, q⟩
theorem si_seq {e : Expr} {m : M Opd} (h : Sd X W e m) : SdI X W tg e (iSeqM m) := by
  obtain ⟨te, pe, ce⟩ := h.ex
  refine ⟨_, pi_sq pe, ?_⟩
  intro P G σ H s R Re hw
  unfold iSeqM at hw
  refine ce.bind PostI.mono Re hw fun o1 s1 G1 v1 H1 x1 R1 r1 hw1 => ?_
  obtain ⟨G2, s2, d, x2, R2, z, hw2⟩ := take_ok PostI.mono R1 r1 hw1
  cases d with
  | list ds =>
    obtain ⟨a, xs, rfl, f, e, r⟩ := z.list_inv
    exact ⟨a, rfl, .inl ⟨xs, SqL.of e, hw2 G2 H1 _ .refl R2 (it_lst f e r)⟩⟩
  | tuple ds =>
    obtain ⟨a, xs, rfl, f, e, r⟩ := z.tup_inv
    exact ⟨a, rfl, .inr ⟨xs, SqT.of e, hw2 G2 H1 _ .refl R2 (it_tup f e r)⟩⟩
  | none => exact absurd hw2 (W.stuck _ _ _)
  | bool _ => exact absurd hw2 (W.stuck _ _ _)
  | int _ => exact absurd hw2 (W.stuck _ _ _)
  | str _ => exact absurd hw2 (W.stuck _ _ _)
  | dict _ => exact absurd hw2 (W.stuck _ _ _)
theorem rgD_zero {j : Int} : (List.range j.toNat).map (fun i => PyData.int (0 + (i : Nat))) = rgD 0 j := by
  unfold rgD
  rw [Int.sub_zero]
theorem si_rg1 {a : Expr} {p pos : Pos} {m : M Opd} (hg : Gl X "range") (hm : X.mg "range" = none) (h : Sd X W a m) (hs : starEach [a] X.env = [(false, eval a X.env)] := by rfl) : SdI X W tg (.Call (.Name "range" p) [a] [] pos) (iRg1 m) := by
  obtain ⟨te, pe, ce⟩ := h.ex
  refine ⟨_, pi_range1 hg hm (pa_cons pe pa_nil hs) hs, ?_⟩
  intro P G σ H s R Re hw
  unfold iRg1 at hw
  refine ce.bind PostI.mono Re hw fun o1 s1 G1 v1 H1 x1 R1 r1 hw1 => ?_
  obtain ⟨d, c1, hw2⟩ := peek_ok R1 r1 (W.stuck _ _ _) hw1
  cases d with
  | int j =>
    have hw2 : pw (if big62 j then pure (rgD 0 j) else stuck) s1 (PostI P σ R G1 H1) (W.w P G1 H1) := hw2
    split at hw2
    · rename_i hb
      unfold big62 at hb
      rw [Bool.and_eq_true, decide_eq_true_eq, decide_eq_true_eq] at hb
      refine ⟨j, by rw [c1.int_], hb.1, hb.2, hw2 G1 H1 _ .refl R1 ?_⟩
      rw [← rgD_zero]
      exact it_rg 0 j.toNat
    · exact absurd hw2 (W.stuck _ _ _)
  | none => exact absurd hw2 (W.stuck _ _ _)
  | bool _ => exact absurd hw2 (W.stuck _ _ _)
  | list _ => exact absurd hw2 (W.stuck _ _ _)
  | tuple _ => exact absurd hw2 (W.stuck _ _ _)
  | str _ => exact absurd hw2 (W.stuck _ _ _)
  | dict _ => exact absurd hw2 (W.stuck _ _ _)
theorem ss_for {iter : Expr} {body : List Stmt} {pos : Pos} {mi : M (List PyData)} {t : PyData → M Unit} {mb : M Fl} (C : Cok X k) (hp : PassesOwn (model X.prog X.w) X.A X.env X.xe) (hi : SdI X W tg iter mi) (hg : SdG X W tg t) (hb : SdB X W body mb) (hs : ∀ x, foldedSetIterable iter X.env x = pure x := by intro _; rfl) : SdS X W (.For tg iter body [] pos) (sFor mi t mb) := by
  obtain ⟨wi, pi, ci⟩ := hi.ex
  obtain ⟨g, pg, cg⟩ := hg.ex
  obtain ⟨tb, pb, cb⟩ := hb.ex
  refine ⟨_, ps_for hp C.calm pi pg pb (hs := hs), ?_⟩
  intro P G σ H s D R hw
  unfold sFor at hw
  rw [pw_bind] at hw
  refine ci P G σ H s _ R (pw_mono hw (fun ds s1 h G1 H1 J x1 R1 ok => ?_) fun _ h => h)
  have h1 := pw_ext (m := forL t mb ds) PostS.mono x1 h
  refine ⟨fun i m σ' H' => ∃ G' s', Ext P G1 H1 G' H' ∧ Rel P G' σ' H' s' ∧ i + m = ds.length ∧ pw (forL t mb (ds.drop i)) s' (PostS P D G' H') (W.w P G' H'), ⟨ds.length, G1, s1, .refl, R1, Nat.zero_add _, h1⟩, ?_⟩
  rintro i m σ2 H2 ⟨G2, s2, x2, R2, em, hw2⟩
  obtain ⟨go, stop⟩ := ok P G2 σ2 H2 s2 x2 R2
  by_cases hi : i < ds.length
  · obtain ⟨g1, yl⟩ := go i ds[i] (List.getElem?_eq_getElem hi)
    refine .inr ⟨g1, fun σ' H' => ∃ G' s', Ext P G1 H1 G' H' ∧ Rel P G' σ' H' s' ∧ pw (forL t mb (ds.drop (i + 1))) s' (PostS P D G' H') (W.w P G' H'), fun σ' H' ⟨G', s', x', R', h'⟩ => ⟨m - 1, by omega, G', s', x', R', by omega, h'⟩, fun y H3 hy => ?_⟩
    obtain ⟨G3, x3, R3, f3⟩ := yl y H3 hy
    rw [List.drop_eq_getElem_cons hi] at hw2
    have hw3 := pw_ext (m := forL t mb (ds[i] :: ds.drop (i + 1))) PostS.mono x3 hw2
    have hw3 : pw (t ds[i] >>= fun _ => mb >>= fun f => match f with | .bk => pure .nx | .rt v => pure (.rt v) | _ => forL t mb (ds.drop (i + 1))) s2 (PostS P D G3 H3) (W.w P G3 H3) := hw3
    rw [pw_bind] at hw3
    refine cg P G3 σ2 H3 s2 y _ _ R3 f3 (pw_mono hw3 (fun _ s4 h4 G4 σ4 H4 x4 R4 => ?_) fun _ h => h)
    have h5 := pw_ext (m := mb >>= fun f => match f with | .bk => pure .nx | .rt v => pure (.rt v) | _ => forL t mb (ds.drop (i + 1))) PostS.mono x4 h4
    rw [pw_bind] at h5
    have xx := (x2.trans x3).trans x4
    refine cb P G4 σ4 H4 s4 _ R4 (pw_mono h5 (fun f s5 h6 => ?_) fun _ h => h)
    cases f with
    | nx => exact fun G5 σ5 H5 x5 R5 => ⟨G5, s5, xx.trans x5, R5, pw_ext PostS.mono x5 h6⟩
    | ct => exact fun G5 σ5 H5 x5 R5 => ⟨G5, s5, xx.trans x5, R5, pw_ext PostS.mono x5 h6⟩
    | bk => exact h6
    | rt d => exact h6
  · have e : i = ds.length := by omega
    subst e
    rw [List.drop_length] at hw2
    exact .inl ⟨stop, hw2 G2 σ2 H2 .refl R2⟩
end
end TW
set_option linter.all false
set_option Elab.async false
namespace TW
open PySem L2
def rdE (W : Wish) (m : M Opd) : TE := fun σ H Q => ∃ P G s, Rel P G σ H s ∧ pw m s (PostV P σ Q G H) (W.w P G H)
def rdT (W : Wish) (m : M Bool) : TT := fun σ H Q => ∃ P G s, Rel P G σ H s ∧ pw m s (PostB P σ Q G H) (W.w P G H)
def rdG (W : Wish) (t : PyData → M Unit) (vs : List Nat) : TG := fun v σ H Q => ∃ P G s d, Rel P G σ H s ∧ Fz G.F H v d ∧ pw (t d) s (PostG P (fun σ' H' => wipe σ' vs = wipe σ vs → Q σ' H') G H) (W.w P G H)
theorem PE.weak {X : Cx} {e : Expr} {t t' : TE} (h : PE X e t) (w : ∀ σ H Q, t' σ H Q → t σ H Q) : PE X e t' := ⟨fun pins s σ H Q I q => h.run pins s σ H Q I (w σ H Q q)⟩
theorem Sd.pe {X : Cx} {W : Wish} {e : Expr} {m : M Opd} (h : Sd X W e m) : PE X e (rdE W m) := by
  obtain ⟨te, p, c⟩ := h.ex
  exact PE.weak p fun σ H Q ⟨P, G, s, R, hw⟩ => c P G σ H s Q R hw
theorem SdT.pts {X : Cx} {W : Wish} {e : Expr} {m : M Bool} (h : SdT X W e m) : PTs X [e] (rdT W m) := by
  obtain ⟨te, p, c⟩ := h.ex
  exact pts_one ⟨fun pins s σ H Q I ⟨P, G, s', R, hw⟩ => p.run pins s σ H Q I (c P G σ H s' Q R hw)⟩
theorem pts_yes {X : Cx} {W : Wish} : PTs X [] (rdT W (pure true)) := ⟨fun pins s σ H Q I ⟨P, G, s', R, hw⟩ => pts_nil.run pins s σ H Q I (hw G H .refl R)⟩
structure SdTs (X : Cx) (W : Wish) (es : List Expr) (m : M Bool) : Prop where
  pts : PTs X es (rdT W m)
theorem sts_nil {X : Cx} {W : Wish} : SdTs X W [] (pure true) := ⟨pts_yes⟩
theorem sts_one {X : Cx} {W : Wish} {e : Expr} {m : M Bool} (h : SdT X W e m) : SdTs X W [e] m := ⟨h.pts⟩
structure SdGw (X : Cx) (W : Wish) (vs : List Nat) (e : Expr) (t : PyData → M Unit) : Prop where
  ex : ∃ g, PG X e g ∧ ∀ P G σ H s v d (Q : L2.St → Hp → Prop), Rel P G σ H s → Fz G.F H v d → pw (t d) s (PostG P (fun σ' H' => wipe σ' vs = wipe σ vs → Q σ' H') G H) (W.w P G H) → g v σ H Q
theorem SdGw.pg {X : Cx} {W : Wish} {vs : List Nat} {e : Expr} {t : PyData → M Unit} (h : SdGw X W vs e t) : PG X e (rdG W t vs) := by
  obtain ⟨g, p, c⟩ := h.ex
  exact ⟨fun pins s σ H v u Q I r ⟨P, G, s', d, R, f, hw⟩ => p.run pins s σ H v u Q I r (c P G σ H s' v d Q R f hw)⟩
theorem wipe_get : ∀ {vs : List Nat} {σ : L2.St} {j : Nat}, (wipe σ vs)[j]? = if j ∈ vs then (σ[j]?).map fun _ => none else σ[j]?
  | [], σ, j => by simp [wipe]
  | v :: vs, σ, j => by
    unfold wipe
    rw [List.getElem?_set]
    by_cases hj : v = j
    · subst hj
      simp only [List.mem_cons, true_or, if_true]
      rw [wipe_length]
      by_cases hv : v < σ.length
      · rw [if_pos hv, List.getElem?_eq_getElem hv]; rfl
      · rw [if_neg hv, List.getElem?_eq_none (by omega)]; rfl
    · rw [if_neg hj, wipe_get]
      have : (j ∈ v :: vs) ↔ j ∈ vs := by simp [Ne.symm hj]
      simp only [this]
theorem wipe_set {vs : List Nat} {σ : L2.St} {i : Nat} {x : Option V} (h : i ∈ vs) : wipe (σ.set i x) vs = wipe σ vs := by
  apply List.ext_getElem?
  intro j
  rw [wipe_get, wipe_get]
  by_cases hj : j ∈ vs
  · rw [if_pos hj, if_pos hj, List.getElem?_set]
    by_cases e : i = j
    · subst e
      rw [if_pos rfl]
      by_cases hl : i < σ.length
      · rw [if_pos hl, List.getElem?_eq_getElem hl]; rfl
      · rw [if_neg hl, List.getElem?_eq_none (by omega)]
    · rw [if_neg e]
  · rw [if_neg hj, if_neg hj, List.getElem?_set_ne (fun (e : i = j) => hj (by rw [← e]; exact h))]
theorem wipe_wipe {vs : List Nat} {σ : L2.St} : wipe (wipe σ vs) vs = wipe σ vs := by
  apply List.ext_getElem?
  intro j
  rw [wipe_get, wipe_get]
  by_cases hj : j ∈ vs
  · rw [if_pos hj]
    cases σ[j]? <;> simp [hj]
  · rw [if_neg hj]
def wipeR (r : List SV) : List Nat → List SV
  | [] => r
  | v :: vs => (wipeR r vs).set v .no
def wipeS (vs : List Nat) : M Unit := fun s => .ok ((), { s with r := wipeR s.r vs })
def keepD : SV → SV
  | .dat d => .dat d
  | _ => .no
def backR (old r : List SV) : List Nat → List SV
  | [] => r
  | v :: vs => (backR old r vs).set v (keepD (old.getD v .no))
def noX {α : Type} (m : M α) : M α := fun s => match m s with
  | .ok p => .ok p
  | .error _ => .error .stuck
def slots : M (List SV) := fun s => .ok (s.r, s)
def backS (old : List SV) (vs : List Nat) : M Unit := fun s => .ok ((), { s with r := backR old s.r vs })
def cmpL (vs : List Nat) (t : PyData → M Unit) (c : M Bool) (e : M Opd) : List PyData → List PyData → M (List PyData)
  | acc, [] => pure acc
  | acc, d :: ds => do
    wipeS vs
    t d
    let b ← c
    if b = true then (do
      let o ← e
      let x ← take o
      if acc.length < lim then cmpL vs t c e (acc ++ [x]) ds else stuck)
    else cmpL vs t c e acc ds
def nCmp (vs : List Nat) (mi : M (List PyData)) (t : PyData → M Unit) (c : M Bool) (e : M Opd) : M PyData := do
  let ds ← mi
  let old ← slots
  let xs ← noX (cmpL vs t c e [] ds)
  backS old vs
  pure (.list xs)
theorem pw_noX {α : Type} {m : M α} {s : Sx} {Q : α → Sx → Prop} {E : Er → Prop} (hE : ¬ E .stuck) (h : pw (noX m) s Q E) : pw m s Q (fun _ => False) := by
  unfold pw noX at h
  unfold pw
  cases q : m s with
  | ok p => rw [q] at h; exact h
  | error e => rw [q] at h; exact hE h
theorem wipeR_length {r : List SV} : ∀ {vs : List Nat}, (wipeR r vs).length = r.length
  | [] => rfl
  | v :: vs => by unfold wipeR; rw [List.length_set, wipeR_length]
theorem wipeR_get {r : List SV} : ∀ {vs : List Nat} {j : Nat}, (wipeR r vs)[j]? = if j ∈ vs then (r[j]?).map fun _ => SV.no else r[j]?
  | [], j => by simp [wipeR]
  | v :: vs, j => by
    unfold wipeR
    rw [List.getElem?_set]
    by_cases hj : v = j
    · subst hj
      simp only [List.mem_cons, true_or, if_true]
      rw [wipeR_length]
      by_cases hv : v < r.length
      · rw [if_pos hv, List.getElem?_eq_getElem hv]; rfl
      · rw [if_neg hv, List.getElem?_eq_none (by omega)]; rfl
    · rw [if_neg hj, wipeR_get]
      have : (j ∈ v :: vs) ↔ j ∈ vs := by simp [Ne.symm hj]
      simp only [this]
theorem backR_length {old r : List SV} : ∀ {vs : List Nat}, (backR old r vs).length = r.length
  | [] => rfl
  | v :: vs => by unfold backR; rw [List.length_set, backR_length]
theorem backR_get {old r : List SV} : ∀ {vs : List Nat} {j : Nat}, (backR old r vs)[j]? = if j ∈ vs then (r[j]?).map fun _ => keepD (old.getD j .no) else r[j]?
  | [], j => by simp [backR]
  | v :: vs, j => by
    unfold backR
    rw [List.getElem?_set]
    by_cases hj : v = j
    · subst hj
      simp only [List.mem_cons, true_or, if_true]
      rw [backR_length]
      by_cases hv : v < r.length
      · rw [if_pos hv, List.getElem?_eq_getElem hv]; rfl
      · rw [if_neg hv, List.getElem?_eq_none (by omega)]; rfl
    · rw [if_neg hj, backR_get]
      have : (j ∈ v :: vs) ↔ j ∈ vs := by simp [Ne.symm hj]
      simp only [this]
section
variable {P : Addr → Prop} {G G' : Gh} {σ : L2.St} {H H' : Hp} {s s' : Sx} {v : V} {o : Opd} {W : Wish} {X : Cx} {k : Nat} {tg : Expr} {vs : List Nat}
theorem wipeR_some {r : List SV} {j : Nat} {x : SV} (h : (wipeR r vs)[j]? = some x) (hx : x ≠ .no) : r[j]? = some x ∧ j ∉ vs := by
  rw [wipeR_get] at h
  by_cases hj : j ∈ vs
  · rw [if_pos hj] at h
    cases q : r[j]? with
    | none => rw [q] at h; cases h
    | some y => rw [q] at h; cases h; exact absurd rfl hx
  · rw [if_neg hj] at h
    exact ⟨h, hj⟩
theorem Rel.wipe (R : Rel P G σ H s) : Rel P G (L2.wipe σ vs) H { s with r := wipeR s.r vs } := by
  have keep : ∀ {j : Nat}, j ∉ vs → (L2.wipe σ vs)[j]? = σ[j]? := fun {j} h => by rw [wipe_get, if_neg h]
  refine ⟨by rw [wipe_length, R.len]; exact wipeR_length.symm, fun j d h => ?_, fun j d h => ?_, fun j l d e hjl h h' => ?_, fun j h => ?_, R.bx, R.nb, R.fr, R.pr, R.bF, R.tb⟩
  · obtain ⟨h1, h2⟩ := wipeR_some h (by simp)
    rw [keep h2]
    exact R.dat j d h1
  · obtain ⟨h1, h2⟩ := wipeR_some h (by simp)
    rw [keep h2]
    exact R.own j d h1
  · obtain ⟨h1, h2⟩ := wipeR_some h (by simp)
    obtain ⟨h3, h4⟩ := wipeR_some h' (by simp)
    rw [keep h2, keep h4]
    exact R.sep j l d e hjl h1 h3
  · obtain ⟨h1, h2⟩ := wipeR_some h (by simp)
    rw [keep h2]
    exact R.box j h1
theorem Rel.back {G0 : Gh} {H0 : Hp} {s0 : Sx} (R0 : Rel P G0 σ H0 s0) (x : Ext P G0 H0 G H) (R : Rel P G (L2.wipe σ vs) H { s with r := wipeR s.r vs }) : Rel P G σ H { s with r := backR s0.r s.r vs } := by
  have up : ∀ {j : Nat} {y : SV}, (backR s0.r s.r vs)[j]? = some y → y ≠ .no → (j ∈ vs ∧ (∃ d, y = .dat d ∧ s0.r[j]? = some (.dat d))) ∨ (j ∉ vs ∧ (wipeR s.r vs)[j]? = some y) := fun {j y} h hy => by
    rw [backR_get] at h
    by_cases hj : j ∈ vs
    · rw [if_pos hj] at h
      cases q : s.r[j]? with
      | none => rw [q] at h; cases h
      | some z =>
        rw [q] at h
        cases h
        cases q2 : s0.r.getD j .no with
        | dat d => exact .inl ⟨hj, d, rfl, getD_of q2 (by simp)⟩
        | no => rw [q2] at hy; exact absurd rfl hy
        | own d => rw [q2] at hy; exact absurd rfl hy
        | box => rw [q2] at hy; exact absurd rfl hy
    · rw [if_neg hj] at h
      exact .inr ⟨hj, by rw [wipeR_get, if_neg hj]; exact h⟩
  have keep : ∀ {j : Nat}, j ∉ vs → (L2.wipe σ vs)[j]? = σ[j]? := fun {j} h => by rw [wipe_get, if_neg h]
  refine ⟨?_, fun j d h => ?_, fun j d h => ?_, fun j l d e hjl h h' => ?_, fun j h => ?_, R.bx, R.nb, R.fr, R.pr, R.bF, R.tb⟩
  · have := R.len
    rw [wipe_length] at this
    show σ.length = (backR s0.r s.r vs).length
    rw [backR_length, this]
    exact wipeR_length
  · rcases up h (by simp) with ⟨_, d', e, q⟩ | ⟨hj, q⟩
    · cases e
      obtain ⟨v, h1, h2⟩ := R0.dat j d q
      exact ⟨v, h1, h2.ext x⟩
    · rw [← keep hj]
      exact R.dat j d q
  · rcases up h (by simp) with ⟨_, d', e, q⟩ | ⟨hj, q⟩
    · cases e
    · rw [← keep hj]
      exact R.own j d q
  · rcases up h (by simp) with ⟨_, d', e, q⟩ | ⟨hj, q⟩
    · cases e
    · rcases up h' (by simp) with ⟨_, d', e, q'⟩ | ⟨hj', q'⟩
      · cases e
      · rw [← keep hj, ← keep hj']
        exact R.sep j l d e hjl q q'
  · rcases up h (by simp) with ⟨_, d', e, q⟩ | ⟨hj, q⟩
    · cases e
    · rw [← keep hj]
      exact R.box j q
theorem sgw_name {i : Nat} {x : Str} {pos : Pos} (hv : i ∈ vs) (C : Cok X k) (hi : X.N[i]? = some x) (hx : Loc X.env.scope x) (hf : X.fn x = true ∨ X.env.scope.names.lookup x = some .local := by first | exact .inl rfl | exact .inr rfl | assumption) : SdGw X W vs (.Name x pos) (tgName i) := by
  refine ⟨_, pg_name C.nd hi hx hf, ?_⟩
  intro P G σ H s v d Q R r hw
  exact hw G _ H .refl (R.setDat i r) (wipe_set hv)
end
end TW
set_option linter.all false
set_option Elab.async false
namespace TW
open PySem L2
section
variable {P : Addr → Prop} {G G' : Gh} {σ : L2.St} {H H' : Hp} {s s' : Sx} {v : V} {o : Opd} {W : Wish} {X : Cx} {k : Nat} {tg : Expr} {vs : List Nat}
theorem Rel.write {D : Addr} {u : HO} (R : Rel P G σ H s) (hD : H D ≠ none) (hF : ¬ G.F D) (hb : D ∉ G.bs) (ho : ∀ (i : Nat) d, s.r[i]? = some (SV.own d) → σ[i]? ≠ some (some (V.ref D))) (hc : Calm (H D) := by first | (rw [upd_same]; exact calm_lst) | (rw [upd_same]; exact calm_dK) | (rw [upd_same]; exact calm_dT)) : Rel P G σ (upd H D u) s := by
  have kF : ∀ b, G.F b → upd H D u b = H b := fun b h => upd_ne fun z => hF (by rw [← z]; exact h)
  have up : ∀ b, H b ≠ none → upd H D u b ≠ none := fun b h => by
    by_cases e : b = D
    · rw [e, upd_same]; simp
    · rw [upd_ne e]; exact h
  refine ⟨R.len, fun i d e => ?_, fun i d e => ?_, R.sep, R.box, fun b e => ?_, R.nb, fun b h => up b (R.fr b h), fun b h => up b (R.pr b h), fun b h => ⟨(R.bF b h).1, (R.bF b h).2.1, up b (R.bF b h).2.2⟩, R.tb.upd hc⟩
  · obtain ⟨v, h1, h2⟩ := R.dat i d e
    exact ⟨v, h1, h2.mono (fun _ h => h) kF⟩
  · obtain ⟨b, h1, h2, h3⟩ := R.own i d e
    have nb : b ≠ D := fun z => ho i d e (by rw [h1, z])
    exact ⟨b, h1, h2.mono (fun _ h => h) kF (upd_ne nb), h3⟩
  · refine (R.bx b e).stay ?_
    have q : ∀ c u', c ∈ G.bs → H c = some u' → upd H D u c = some u' := fun c u' hc h => by
      rw [upd_ne (fun z => hb (by rw [← z]; exact hc))]; exact h
    exact q
theorem Ext.write {D : Addr} {u : HO} (hF : ¬ G.F D) (hP : ¬ P D) : Ext P G H G (upd H D u) :=
  ⟨fun _ h => h, fun b h => .inl (upd_ne fun z => hF (by rw [← z]; exact h)), fun b h _ => upd_ne fun z => hP (by rw [← z]; exact h), fun _ h => .inl h, fun _ => rfl, fun _ h => .inl h⟩
def also (P : Addr → Prop) (D : Addr) : Addr → Prop := fun a => P a ∨ a = D
theorem Rel.also {D : Addr} (R : Rel P G σ H s) (hD : H D ≠ none) (f : Free P G σ s D) (hc : Calm (H D) := by first | (rw [upd_same]; exact calm_lst) | (rw [upd_same]; exact calm_dK) | (rw [upd_same]; exact calm_dT)) : Rel (TW.also P D) G σ H s := by
  refine ⟨R.len, R.dat, fun i d e => ?_, R.sep, R.box, R.bx, R.nb, R.fr, fun b h => h.elim (R.pr b) fun z => by rw [z]; exact hD, fun b h => ⟨(R.bF b h).1, fun z => z.elim (R.bF b h).2.1 fun z => f.b (by rw [← z]; exact h), (R.bF b h).2.2⟩, R.tb.addP (R.tb.not hc)⟩
  obtain ⟨a, h1, h2, h3, h4, h5⟩ := R.own i d e
  exact ⟨a, h1, h2, h3, fun z => z.elim h4 fun z => f.o i d e (by rw [h1, z]), h5⟩
theorem Ext.less {D : Addr} (x : Ext (TW.also P D) G H G' H') : Ext P G H G' H' := ⟨x.F, x.kF, fun a h => x.kP a (.inl h), fun a h => (x.new a h).elim .inl fun z => .inr (z.imp (fun z q => z (.inl q)) id), x.bs, fun a h => (x.bn a h).elim .inl fun z => .inr fun q => z (.inl q)⟩
theorem Rel.less {D : Addr} (R : Rel (TW.also P D) G σ H s) : Rel P G σ H s :=
  ⟨R.len, R.dat, fun i d e => let ⟨a, h1, h2, h3, h4, h5⟩ := R.own i d e; ⟨a, h1, h2, h3, fun z => h4 (.inl z), h5⟩, R.sep, R.box, R.bx, R.nb, R.fr, fun a h => R.pr a (.inl h), fun b h => ⟨(R.bF b h).1, fun z => (R.bF b h).2.1 (.inl z), (R.bF b h).2.2⟩, R.tb.lessP fun _ h => .inl h⟩
theorem cl_cmp {wi : TI} {mi : M (List PyData)} {t : PyData → M Unit} {c : M Bool} {e : M Opd} (ci : ClI W wi mi) : ClN W (tLc wi (rdG Wish.no t vs) (rdT Wish.no c) (rdE Wish.no e) vs) (nCmp vs mi t c e) := by
  intro P G σ H s Q R hw
  unfold nCmp at hw
  rw [pw_bind] at hw
  refine ci P G σ H s _ R (pw_mono hw (fun ds s1 h G1 H1 J x1 R1 ok => ?_) fun _ h => h)
  have h1 : pw (noX (cmpL vs t c e [] ds) >>= fun xs => (do backS s1.r vs; pure (.list xs) : M PyData)) s1 (PostN P σ Q G H) (W.w P G H) := h
  rw [pw_bind] at h1
  have h2 := pw_noX (W.stuck P G H) h1
  intro D hD
  obtain ⟨xD, RD, owD, fD⟩ := R1.layOwn (xs := []) (ds := []) hD .nil
  have hD1 : upd H1 D (.lst []) D ≠ none := by rw [upd_same]; simp
  have RP := RD.also hD1 fD
  refine ⟨fun i m H' => ∃ G' s' acc accV, Ext P G1 H1 G' H' ∧ Rel (also P D) G' (L2.wipe σ vs) H' { s' with r := wipeR s'.r vs } ∧ ¬ G'.F D ∧ H' D = some (.lst accV) ∧ FzA G'.F H' accV acc ∧ i + m = ds.length ∧
      pw (cmpL vs t c e acc (ds.drop i)) s' (fun xs s2 => pw (do backS s1.r vs; pure (.list xs) : M PyData) s2 (PostN P σ Q G H) (W.w P G H)) (fun _ => False),
    ⟨ds.length, G1, s1, [], [], xD, RP.wipe, fD.f, upd_same, .nil, Nat.zero_add _, h2⟩, ?_⟩
  rintro i m H2 ⟨G2, s2, acc, accV, x2, R2, nF2, eD2, r2, em, hw2⟩
  have nb : ∀ {G' : Gh} {σ' : L2.St} {H' : Hp} {s' : Sx}, Rel (also P D) G' σ' H' s' → D ∉ G'.bs := fun R' z => (R'.bF D z).2.1 (.inr rfl)
  have no : ∀ {G' : Gh} {σ' : L2.St} {H' : Hp} {s' : Sx}, Rel (also P D) G' σ' H' s' → ∀ (i : Nat) d, s'.r[i]? = some (SV.own d) → σ'[i]? ≠ some (some (V.ref D)) := fun R' j d e z => by
    obtain ⟨a, h1, _, _, h4, _⟩ := R'.own j d e
    rw [z] at h1
    cases h1
    exact h4 (.inr rfl)
  obtain ⟨go, stop⟩ := ok (also P D) G2 (L2.wipe σ vs) H2 _ x2 R2
  by_cases hi : i < ds.length
  · obtain ⟨g1, yl⟩ := go i ds[i] (List.getElem?_eq_getElem hi)
    refine .inr ⟨g1, fun H' => ∃ G' s' acc accV, Ext P G1 H1 G' H' ∧ Rel (also P D) G' (L2.wipe σ vs) H' { s' with r := wipeR s'.r vs } ∧ ¬ G'.F D ∧ H' D = some (.lst accV) ∧ FzA G'.F H' accV acc ∧
      pw (cmpL vs t c e acc (ds.drop (i + 1))) s' (fun xs s2 => pw (do backS s1.r vs; pure (.list xs) : M PyData) s2 (PostN P σ Q G H) (W.w P G H)) (fun _ => False),
      fun H' ⟨G', s', acc', accV', y1, y2, y3, y4, y5, y6⟩ => ⟨m - 1, by omega, G', s', acc', accV', y1, y2, y3, y4, y5, by omega, y6⟩, fun y H3 hy => ?_⟩
    obtain ⟨G3, x3, R3, f3⟩ := yl y H3 hy
    rw [List.drop_eq_getElem_cons hi] at hw2
    have nF : ∀ {G' : Gh} {H' : Hp}, Ext (also P D) G2 H2 G' H' → ¬ G'.F D := fun x z => x.nF z nF2 (.inr rfl) eD2 fun _ h => nomatch h
    have eD : ∀ {G' : Gh} {H' : Hp}, Ext (also P D) G2 H2 G' H' → H' D = some (.lst accV) := fun x => (x.kP D (.inr rfl) nF2).trans eD2
    have hw3 : pw (t ds[i] >>= fun _ => (do
        let b ← c
        if b = true then (do
          let o ← e
          let x ← take o
          if acc.length < lim then cmpL vs t c e (acc ++ [x]) (ds.drop (i + 1)) else stuck)
        else cmpL vs t c e acc (ds.drop (i + 1)) : M (List PyData))) { s2 with r := wipeR s2.r vs } (fun xs s2 => pw (do backS s1.r vs; pure (.list xs) : M PyData) s2 (PostN P σ Q G H) (W.w P G H)) (fun _ => False) := hw2
    rw [pw_bind] at hw3
    refine ⟨also P D, G3, _, ds[i], R3, f3, pw_mono hw3 (fun _ s4 h4 G4 σ4 H4 x4 R4 ew => ?_) fun _ h => h⟩
    rw [wipe_wipe] at ew
    refine ⟨ew, also P D, G4, s4, R4, ?_⟩
    rw [pw_bind] at h4
    refine pw_mono h4 (fun b s5 h5 G5 H5 x5 R5 => ?_) fun _ h => h
    have x25 := (x3.trans x4).trans x5
    have fin : ∀ {G' : Gh} {H' : Hp} {s' : Sx}, Ext (also P D) G5 H5 G' H' → Rel (also P D) G' σ4 H' s' → Rel (also P D) G' (L2.wipe σ vs) H' { s' with r := wipeR s'.r vs } := fun _ R' => by
      rw [← ew]
      exact R'.wipe
    cases b with
    | false =>
      have h5 : pw (cmpL vs t c e acc (ds.drop (i + 1))) s5 _ _ := h5
      exact ⟨G5, s5, acc, accV, x2.trans x25.less, fin .refl R5, nF x25, eD x25, r2.ext x25, h5⟩
    | true =>
      have h5 : pw (e >>= fun o => (do
          let x ← take o
          if acc.length < lim then cmpL vs t c e (acc ++ [x]) (ds.drop (i + 1)) else stuck : M (List PyData))) s5 (fun xs s2 => pw (do backS s1.r vs; pure (.list xs) : M PyData) s2 (PostN P σ Q G H) (W.w P G H)) (fun _ => False) := h5
      rw [pw_bind] at h5
      refine ⟨also P D, G5, s5, R5, pw_mono h5 (fun o s6 h6 G6 w6 H6 x6 R6 r6 => ?_) fun _ h => h⟩
      obtain ⟨G7, s7, d7, x7, R7, f7, h7⟩ := take_ok (W := Wish.no) (P := also P D) (Qp := fun _ _ xs s2 => pw (do backS s1.r vs; pure (.list xs) : M PyData) s2 (PostN P σ Q G H) (W.w P G H)) (fun _ _ _ _ _ _ _ h => h) R6 r6 h6
      have x27 := (x25.trans x6).trans x7
      split at h7
      · rename_i hl
        have eD7 := eD x27
        refine ⟨accV, eD7, by rw [r2.length]; exact Nat.lt_of_lt_of_le hl (lim_line (Nat.le_refl _)), G7, s7, acc ++ [d7], accV ++ [w6], ?_, ?_, nF x27, upd_same, ?_, h7⟩
        · exact (x2.trans x27.less).trans (Ext.write (nF x27) fun z => fD.p z)
        · have R8 := fin (x6.trans x7) R7
          exact R8.write (by rw [eD7]; simp) (nF x27) (nb R7) (no R8) (by rw [eD7]; exact calm_lst)
        · have kF : ∀ b, G7.F b → upd H6 D (.lst (accV ++ [w6])) b = H6 b := fun b h => upd_ne fun z => nF x27 (by rw [← z]; exact h)
          exact ((r2.ext x27).append (.cons f7 .nil)).mono (fun _ h => h) kF
      · exact h7.elim
  · have e : i = ds.length := by omega
    subst e
    rw [List.drop_length] at hw2
    refine .inl ⟨stop, ?_⟩
    have hw3 : PostN P σ Q G H (.list acc) { s2 with r := backR s1.r s2.r vs } := hw2
    have R3 := Rel.back R1 x2 R2.less
    refine hw3 G2 D H2 (x1.trans x2) R3 ⟨accV, eD2, r2⟩ ⟨nF2, fD.p, nb R2, fun j d ej z => ?_⟩
    -- D is no slot's own
    have ej' : (backR s1.r s2.r vs)[j]? = some (SV.own d) := ej
    rw [backR_get] at ej'
    by_cases hj : j ∈ vs
    · rw [if_pos hj] at ej'
      cases q : s2.r[j]? with
      | none => rw [q] at ej'; cases ej'
      | some z' =>
        rw [q] at ej'
        have : keepD (s1.r.getD j .no) = SV.own d := Option.some.inj ej'
        cases q2 : s1.r.getD j .no <;> rw [q2] at this <;> cases this
    · rw [if_neg hj] at ej'
      exact no R2 j d (by show (wipeR s2.r vs)[j]? = _; rw [wipeR_get, if_neg hj]; exact ej') (by rw [wipe_get, if_neg hj]; exact z)
end
end TW
set_option linter.all false
set_option Elab.async false
namespace TW
open PySem L2
section
variable {P : Addr → Prop} {G G' : Gh} {σ : L2.St} {H H' : Hp} {s s' : Sx} {v : V} {o : Opd} {W : Wish} {X : Cx} {k : Nat} {tg : Expr} {vs : List Nat}
theorem Cok.blk (C : Cok X k) (s : Shared) (H : Hp) (scope : Scope) (ce : Env) (fp : List Addr) : Cok (X.blk s H scope ce fp) k := ⟨C.calm, C.nd, C.room, C.gd, C.sm⟩
section
variable {elt iter : Expr} {ifs : List Expr} {scope : Scope} {own : List (Str × Nat)} {pos : Pos} {mi : M (List PyData)} {t : PyData → M Unit} {c : M Bool} {e : M Opd}
theorem sn_cmp (own : List (Str × Nat)) (C : Cok X k) (hi : SdI X W tg iter mi) (ok : BlkOk X.N X.env.scope scope own)
    (hg : ∀ (s : Shared) (H : Hp) (D : Addr) (cl : List (Str × Addr)) (fp : List Addr), SdGw (X.blk s H scope (compEnvC scope cl D X.env) fp) Wish.no (own.map (·.2)) tg t)
    (ht : ∀ (s : Shared) (H : Hp) (D : Addr) (cl : List (Str × Addr)) (fp : List Addr), SdTs (X.blk s H scope (compEnvC scope cl D X.env) fp) Wish.no ifs c)
    (he : ∀ (s : Shared) (H : Hp) (D : Addr) (cl : List (Str × Addr)) (fp : List Addr), Sd (X.blk s H scope (compEnvC scope cl D X.env) fp) Wish.no elt e)
    (hs : ∀ x, foldedSetIterable iter X.env x = pure x := by intro _; rfl) : SdN X W (.ListComp elt [⟨tg, iter, ifs, 0⟩] scope pos) (nCmp (own.map (·.2)) mi t c e) := by
  obtain ⟨wi, pi, ci⟩ := hi.ex
  exact ⟨_, pe_lc C.calm C.nd pi ok (fun s H D cl fp => (hg s H D cl fp).pg) (fun s H D cl fp => (ht s H D cl fp).pts) (fun s H D cl fp => (he s H D cl fp).pe) hs, cl_cmp ci⟩
theorem ss_cmp {i : Nat} {y : Str} {py spos : Pos} (own : List (Str × Nat)) (C : Cok X k) (hy : X.N[i]? = some y) (hyl : X.env.scope.names.lookup y = some .local)
    (hsw : swapsWith (.ListComp elt [⟨tg, iter, ifs, 0⟩] scope pos) (some (.Name y py)) spos.line X.env = pure true) (hi : SdI X W tg iter mi) (ok : BlkOk X.N X.env.scope scope own)
    (hg : ∀ (s : Shared) (H : Hp) (D : Addr) (cl : List (Str × Addr)) (fp : List Addr), SdGw (X.blk s H scope (compEnvC scope cl D X.env) fp) Wish.no (own.map (·.2)) tg t)
    (ht : ∀ (s : Shared) (H : Hp) (D : Addr) (cl : List (Str × Addr)) (fp : List Addr), SdTs (X.blk s H scope (compEnvC scope cl D X.env) fp) Wish.no ifs c)
    (he : ∀ (s : Shared) (H : Hp) (D : Addr) (cl : List (Str × Addr)) (fp : List Addr), Sd (X.blk s H scope (compEnvC scope cl D X.env) fp) Wish.no elt e)
    (hs : ∀ x, foldedSetIterable iter X.env x = pure x := by intro _; rfl) : SdS X W (.Assign [.Name y py] (.ListComp elt [⟨tg, iter, ifs, 0⟩] scope pos) spos) (sAsgN i (nCmp (own.map (·.2)) mi t c e)) := by
  obtain ⟨wi, pi, ci⟩ := hi.ex
  refine ⟨_, ps_setLc C.calm C.nd hy hyl hsw pi ok (fun s H D cl fp => (hg s H D cl fp).pg) (fun s H D cl fp => (ht s H D cl fp).pts) (fun s H D cl fp => (he s H D cl fp).pe) hs, ?_⟩
  intro P G σ H s D R hw
  unfold sAsgN at hw
  rw [pw_bind] at hw
  refine cl_cmp ci P G σ H s _ R (pw_mono hw (fun d s1 h G1 a H1 x1 R1 ow f => ?_) fun _ h => h)
  have h := pw_ext (m := (do setS i (.own d); pure .nx : M Fl)) PostS.mono x1 h
  exact h _ _ _ .refl (R1.setOwn i ow f)
end
theorem Rel.change {i : Nat} {a : Addr} {d d' : PyData} {u : HO} (R : Rel P G σ H s) (e : s.r[i]? = some (SV.own d)) (ha : σ[i]? = some (some (V.ref a))) (n : Ow G.F (upd H a u) a d') :
    Ext P G H G (upd H a u) ∧ Rel P G σ (upd H a u) { s with r := s.r.set i (.own d') } := by
  obtain ⟨b, h1, h2, h3, h4, h5⟩ := R.own i d e
  rw [ha] at h1
  cases h1
  have kF : ∀ b, G.F b → upd H a u b = H b := fun b h => upd_ne fun z => h3 (by rw [← z]; exact h)
  have up : ∀ b, H b ≠ none → upd H a u b ≠ none := fun b h => by
    by_cases e : b = a
    · rw [e, upd_same]; simp
    · rw [upd_ne e]; exact h
  refine ⟨Ext.write h3 h4, by rw [R.len]; simp, fun j x h => ?_, fun j x h => ?_, fun j l x y hjl h h' => ?_, fun j h => ?_, fun b e => ?_, R.nb, fun b h => up b (R.fr b h), fun b h => up b (R.pr b h), fun b h => ⟨(R.bF b h).1, (R.bF b h).2.1, up b (R.bF b h).2.2⟩, R.tb.upd h2.calm⟩
  · rcases set_get h with ⟨_, q, _⟩ | ⟨_, q⟩
    · cases q
    · obtain ⟨v, k1, k2⟩ := R.dat j x q
      exact ⟨v, k1, k2.mono (fun _ h => h) kF⟩
  · rcases set_get h with ⟨rfl, q, _⟩ | ⟨hj, q⟩
    · cases q
      exact ⟨a, ha, n, h3, h4, h5⟩
    · obtain ⟨b, k1, k2, k3⟩ := R.own j x q
      have nb : b ≠ a := fun z => R.sep j i x d hj q e (by rw [k1, ha, z])
      exact ⟨b, k1, k2.mono (fun _ h => h) kF (upd_ne nb), k3⟩
  · rcases set_get h with ⟨rfl, q, _⟩ | ⟨hj, q⟩
    · rcases set_get h' with ⟨rfl, q', _⟩ | ⟨hj', q'⟩
      · exact absurd rfl hjl
      · exact R.sep j l d y hjl e q'
    · rcases set_get h' with ⟨rfl, q', _⟩ | ⟨hj', q'⟩
      · exact R.sep j l x d hjl q e
      · exact R.sep j l x y hjl q q'
  · rcases set_get h with ⟨_, q, _⟩ | ⟨_, q⟩
    · cases q
    · exact R.box j q
  · exact (R.bx b e).stay fun c u' hc h => by
      rw [upd_ne (fun z => h5 (by rw [← z]; exact hc))]; exact h
def ownL (i : Nat) : M (List PyData) := do match ← getS i with
  | .own (.list ds) => pure ds
  | _ => stuck
theorem ownL_ok {α : Type} {i : Nat} {f : List PyData → M α} {Q : α → Sx → Prop} {E : Er → Prop} (R : Rel P G σ H s) (hE : ¬ E .stuck) (hw : pw (ownL i >>= f) s Q E) :
    ∃ ds a xs, s.r[i]? = some (SV.own (.list ds)) ∧ σ[i]? = some (some (V.ref a)) ∧ H a = some (.lst xs) ∧ FzA G.F H xs ds ∧ ¬ G.F a ∧ pw (f ds) s Q E := by
  unfold ownL at hw
  rw [pw_bind, pw_bind, pw_getS] at hw
  cases e : s.r.getD i .no with
  | no => rw [e] at hw; exact absurd hw hE
  | box => rw [e] at hw; exact absurd hw hE
  | dat d => rw [e] at hw; exact absurd hw hE
  | own d =>
    rw [e] at hw
    have e' := getD_of e (by simp)
    obtain ⟨a, h1, h2, h3, _⟩ := R.own i d e'
    cases d with
    | list ds =>
      obtain ⟨xs, h4, h5⟩ := h2
      exact ⟨ds, a, xs, e', h1, h4, h5, h3, hw⟩
    | none => exact h2.elim
    | bool _ => exact h2.elim
    | int _ => exact h2.elim
    | str _ => exact h2.elim
    | tuple _ => exact h2.elim
    | dict _ => exact absurd hw hE
def sApp (i : Nat) (e : M Opd) : M Fl := do let _ ← ownL i; let o ← e; let d ← take o; let ds ← ownL i; if ds.length < lim then (do setS i (.own (.list (ds ++ [d]))); pure .nx) else stuck
theorem ss_app {i : Nat} {x : Str} {p apos cpos pos : Pos} {e : Expr} {m : M Opd} (h : Sd X W e m) (hi : X.N[i]? = some x) (hv : Vis X.env.scope x)
    (hb : attributeBase (.Name x p) "append" X.env (eval (.Name x p) X.env) = eval (.Name x p) X.env := by rfl)
    (h1 : (((((backTo cpos (starEach (e :: []) X.env)).all fun x => !x.fst) && (backToKw cpos (keywordEach [] X.env)).all fun x => x.fst.isSome) && decide (((e :: []).length + ([] : List Keyword).length + if ([] : List Keyword).isEmpty = true then 0 else 1) < 30)) = true) := by rfl)
    (h2 : (apos.endLine == cpos.line) = true := by rfl) (h3 : starEach (e :: []) X.env = (false, eval e X.env) :: starEach [] X.env := by rfl) (h4 : ((backTo cpos (starEach [] X.env)).any fun x => x.fst) = false := by rfl)
    (hd : (x == ("__debug__" : Str)) = false := by decide) (hcd : (x == ("__classdict__" : Str)) = false := by decide) (hs : swapsWith (.Call (.Attribute (.Name x p) "append" apos) [e] [] cpos) none pos.line X.env = pure false := by rfl) :
    SdS X W (.Expr (.Call (.Attribute (.Name x p) "append" apos) [e] [] cpos) pos) (sApp i m) := by
  obtain ⟨te, pe, ce⟩ := h.ex
  refine ⟨_, ps_expr (pe_bm PySem.F.plainAttrs_list PySem.F.slot_list_append PySem.F.type_list_append mt_append (pe_var hi hv hd hcd) (pa_cons pe pa_nil h3) hb h1 h2 h3 h4) hs, ?_⟩
  intro P G σ H s D R hw
  unfold sApp at hw
  obtain ⟨ds, a, xs, e1, e2, e3, r, nF, hw1⟩ := ownL_ok R (W.stuck _ _ _) hw
  refine ⟨.ref a, e2, .inl ⟨rfl, xs, SqL.of e3⟩, ?_⟩
  refine ce.bind PostS.mono R hw1 fun o1 s1 G1 v1 H1 x1 R1 r1 hw2 => ?_
  obtain ⟨G2, s2, d, x2, R2, z, hw3⟩ := take_ok PostS.mono R1 r1 hw2
  obtain ⟨ds', a', xs', e1', e2', e3', r', nF', hw4⟩ := ownL_ok R2 (W.stuck _ _ _) hw3
  rw [e2] at e2'
  cases e2'
  split at hw4
  · rename_i hl
    refine ⟨a, xs', v1, rfl, rfl, e3', by rw [r'.length]; exact Nat.lt_of_lt_of_le hl (lim_line (Nat.le_refl _)), ?_⟩
    have kF : ∀ b, G2.F b → upd H1 a (.lst (xs' ++ [v1])) b = H1 b := fun b h => upd_ne fun w => nF' (by rw [← w]; exact h)
    obtain ⟨x3, R3⟩ := R2.change (u := .lst (xs' ++ [v1])) (d' := .list (ds' ++ [d])) e1' e2 ⟨_, upd_same, (r'.append (.cons z .nil)).mono (fun _ h => h) kF⟩
    exact hw4 _ _ _ x3 R3
  · exact absurd hw4 (W.stuck _ _ _)
def tgSet (i : Nat) (e : M Opd) (d : PyData) : M Unit := do let _ ← ownL i; let o ← e; let y ← peek o; let ds ← ownL i; match y with
  | .int j => (match ixN ds.length j with
    | some n => setS i (.own (.list (ds.set n d)))
    | none => stuck)
  | _ => stuck
def ePop (i : Nat) : M Opd := do let ds ← ownL i; match ds[ds.length - 1]? with
  | some d => (do setS i (.own (.list ds.dropLast)); pure (.val d))
  | none => stuck
@[irreducible] def i63 (j : Int) : Bool := decide (-(2 ^ 63) ≤ j) && decide (j < 2 ^ 63)
def ePopA (i : Nat) (e : M Opd) : M Opd := do let _ ← ownL i; let o ← e; let y ← peek o; let ds ← ownL i; match y with
  | .int j => if i63 j = true then (match seqIndex? j ds.length with
    | some n => (match ds[n]? with
      | some d => (do setS i (.own (.list (ds.eraseIdx n))); pure (.val d))
      | none => stuck)
    | none => stuck) else stuck
  | _ => stuck
theorem FzA.dropLast {F : Addr → Prop} {xs : List V} {ds : List PyData} (r : FzA F H xs ds) : FzA F H xs.dropLast ds.dropLast := by
  rw [List.dropLast_eq_take, List.dropLast_eq_take, r.length]
  exact r.take _
theorem FzA.eraseIdx {F : Addr → Prop} : ∀ {xs : List V} {ds : List PyData} (n : Nat), FzA F H xs ds → FzA F H (xs.eraseIdx n) (ds.eraseIdx n)
  | _, _, _, .nil => .nil
  | _, _, 0, .cons _ b => b
  | _, _, n + 1, .cons a b => .cons a (b.eraseIdx n)
theorem sd_popA {i : Nat} {x : Str} {p apos cpos : Pos} {e : Expr} {m : M Opd} (h : Sd X W e m) (hi : X.N[i]? = some x) (hv : Vis X.env.scope x)
    (hb : attributeBase (.Name x p) "pop" X.env (eval (.Name x p) X.env) = eval (.Name x p) X.env := by rfl)
    (h1 : (((((backTo cpos (starEach (e :: []) X.env)).all fun x => !x.fst) && (backToKw cpos (keywordEach [] X.env)).all fun x => x.fst.isSome) && decide (((e :: []).length + ([] : List Keyword).length + if ([] : List Keyword).isEmpty = true then 0 else 1) < 30)) = true) := by rfl)
    (h2 : (apos.endLine == cpos.line) = true := by rfl) (h3 : starEach (e :: []) X.env = (false, eval e X.env) :: starEach [] X.env := by rfl) (h4 : ((backTo cpos (starEach [] X.env)).any fun x => x.fst) = false := by rfl)
    (hd : (x == ("__debug__" : Str)) = false := by decide) (hcd : (x == ("__classdict__" : Str)) = false := by decide) : Sd X W (.Call (.Attribute (.Name x p) "pop" apos) [e] [] cpos) (ePopA i m) := by
  obtain ⟨te, pe, ce⟩ := h.ex
  refine ⟨_, pe_bm PySem.F.plainAttrs_list PySem.F.slot_list_pop PySem.F.type_list_pop mt_popAt (pe_var hi hv hd hcd) (pa_cons pe pa_nil h3) hb h1 h2 h3 h4, ?_⟩
  intro P G σ H s Q R hw
  unfold ePopA at hw
  obtain ⟨ds, a, xs, e1, e2, e3, r, nF, hw1⟩ := ownL_ok R (W.stuck _ _ _) hw
  refine ⟨.ref a, e2, .inl ⟨rfl, xs, SqL.of e3⟩, ?_⟩
  refine ce.bind PostV.mono R hw1 fun o1 s1 G1 v1 H1 x1 R1 r1 hw2 => ?_
  obtain ⟨y, c1, hw3⟩ := peek_ok R1 r1 (W.stuck _ _ _) hw2
  obtain ⟨ds', a', xs', e1', e2', e3', r', nF', hw4⟩ := ownL_ok R1 (W.stuck _ _ _) hw3
  rw [e2] at e2'
  cases e2'
  cases y with
  | int j =>
    have hw4 : pw (if i63 j = true then (match seqIndex? j ds'.length with | some n => (match ds'[n]? with | some d => (do setS i (.own (.list (ds'.eraseIdx n))); pure (.val d)) | none => stuck) | none => stuck) else stuck) s1 (PostV P σ Q G1 H1) (W.w P G1 H1) := hw4
    split at hw4
    · rename_i hsm
      unfold i63 at hsm
      rw [Bool.and_eq_true, decide_eq_true_eq, decide_eq_true_eq] at hsm
      cases q : seqIndex? j ds'.length with
      | none => rw [q] at hw4; exact absurd hw4 (W.stuck _ _ _)
      | some n =>
        rw [q] at hw4
        cases q2 : ds'[n]? with
        | none => simp only [q2] at hw4; exact absurd hw4 (W.stuck _ _ _)
        | some d =>
          simp only [q2] at hw4
          obtain ⟨v, k1, k3⟩ := r'.get q2
          refine ⟨a, xs', j, n, v, rfl, by rw [c1.int_], e3', hsm.1, hsm.2, by rw [r'.length]; exact q, k1, ?_⟩
          have kF : ∀ b, G1.F b → upd H1 a (.lst (xs'.eraseIdx n)) b = H1 b := fun b h => upd_ne fun w => nF' (by rw [← w]; exact h)
          obtain ⟨x3, R3⟩ := R1.change (u := .lst (xs'.eraseIdx n)) (d' := .list (ds'.eraseIdx n)) e1' e2 ⟨_, upd_same, (r'.eraseIdx n).mono (fun _ h => h) kF⟩
          exact hw4 _ _ _ x3 R3 (k3.mono (fun _ h => h) kF)
    · exact absurd hw4 (W.stuck _ _ _)
  | none => exact absurd hw4 (W.stuck _ _ _)
  | bool _ => exact absurd hw4 (W.stuck _ _ _)
  | str _ => exact absurd hw4 (W.stuck _ _ _)
  | list _ => exact absurd hw4 (W.stuck _ _ _)
  | tuple _ => exact absurd hw4 (W.stuck _ _ _)
  | dict _ => exact absurd hw4 (W.stuck _ _ _)
end
end TW
set_option linter.all false
set_option Elab.async false
namespace TW
open PySem PySem.Spec PyProof.Rows L2
structure Fn (P : Program) (w : World) (K : PySem.W.Frag) (mg : Str → Option Value) (base : Heap) (k : Nat) (f : Addr) (fd : FuncData) (ps : List Str) (sp : Sp) : Prop where
  len : ∀ vs H Q E, sp vs H Q E → vs.length = ps.length
  run : ∀ (A : Around) (outer : List Env) (s : Shared) (H : Hp) (args : Args) (us : List Value) (vs : List V) (Q : VK) (E : XK), Room k A → A.guards = some [] → Env0 P w K mg base A outer s H → BindsTo s fd args (ps.zip us) → Vals vs us → sp vs H Q E →
    codeAny (model P w) A (.call (.ref f) args) (CR CX0 outer P w H s Q E) s
section
variable {P : Program} {w : World} {K : PySem.W.Frag} {mg : Str → Option Value} {base : Heap}
theorem Fn.mono {j k : Nat} {f : Addr} {fd : FuncData} {ps : List Str} {sp : Sp} (F : Fn P w K mg base j f fd ps sp) (h : j ≤ k) : Fn P w K mg base k f fd ps sp :=
  ⟨F.len, fun A outer s H args us vs Q E hr => F.run A outer s H args us vs Q E (hr.mono h)⟩
abbrev cxN (P : Program) (w : World) (K : PySem.W.Frag) (mg : Str → Option Value) (base : Heap) (N : List Str) (qual : Str) (scope : Scope) (f : Addr) (cd : Value) (A : Around) (outer : List Env) (s : Shared) (H : Hp) (E : XK) : Cx :=
  (cxOf CX0 P w K mg base N qual scope f cd A outer s H E).nox
theorem fn_mkC {k : Nat} {f : Addr} {fd : FuncData} {x qual : Str} {params : Arguments} {body : List Stmt} {scope : Scope} {dvs : List V} {kws : List (Str × V)} {N ps : List Str} {sp : Sp} (F : FunD K x qual params body scope dvs kws f fd) (S : FnScope N ps scope)
    (len : ∀ vs H Q E, sp vs H Q E → vs.length = ps.length)
    (hbody : ∀ (cdv : Value), fd.code = cdv → ∀ (A : Around) (outer : List Env) (s : Shared) (H : Hp) (vs : List V) (Q : VK) (E : XK), Room k (A.deeper (envOfC qual scope s.heap.objs.size f cdv)) → A.guards = some [] → sp vs H Q E →
      ∃ t, PSs (cxN P w K mg base N qual scope f cdv A outer s H E) body t ∧ t { nx := fun _ H' => Q .non H', rt := Q } (start N vs) H) : Fn P w K mg base (k + 1) f fd ps sp := by
  obtain ⟨oc, od, dV, kV, doc, pm, an, cdv, ct, osl, rfl, lk, hcd, _, _⟩ := F.ex
  refine ⟨len, fun A outer s H args us vs Q E hr hgd e0 hb r hsp => ?_⟩
  have keeps : ∀ b o, base.get? b = some o → s.heap.get? b = some o := fun b o e => (e0.bs b o e).1
  have KX : K.In s.heap := e0.mod.kin.keeps keeps
  have par : ∀ y ∈ ps.zip us, scope.names.lookup y.1 = some .local ∨ (scope.names.lookup y.1 = some .cell ∧ ((cellsFrom (s.heap.objs.size + 1) scope.names []).lookup y.1).isSome = true) := fun y hy => by
    rcases S.par y.1 (List.of_mem_zip (a := y.1) (b := y.2) hy).1 with q | q
    · exact .inl q
    · exact .inr ⟨q, PySem.W.cellsFrom_some _ _ _ (.inl q)⟩
  refine codeAny_call_function hr.depth (KX _ _ lk) rfl S.co S.gen rfl (PySem.W.codeRec_of KX hcd) (hb _ _ _ _ (wpAny_newFunctionEnv_cells S.kind par fun env he s1 x => ?_))
  subst he
  refine ⟨(e0.mod.nolimit.keeps keeps).keeps x.toInCall.keep, codeAny_func ?_⟩
  obtain ⟨t, ht, hq⟩ := hbody cdv rfl A outer s H vs Q E (hr.deeper _) hgd hsp
  have I : L2.Inv (cxOf CX0 P w K mg base N qual scope f cdv A outer s H E) [] (start N vs) H s1 := inv_start S hr.hd e0 (len _ _ _ _ hsp) r x
  refine wpAny_mono (ht.nox.run [] s1 (start N vs) H _ I hq) (fun fl s' hs => ?_) fun e s' hs => hs
  have close : ∀ {σ' : L2.St} {H' : Hp} {v : V} {u : Value}, L2.Inv (cxOf CX0 P w K mg base N qual scope f cdv A outer s H E) [] σ' H' s' → RelV v u → Q v H' → CE outer P w H s Q u s' :=
    fun J rv q => ⟨_, _, J.os, J.bare, J.base, J.hok, rv, q⟩
  cases fl with
  | ret u =>
    obtain ⟨v, σ', H', J, rv, q⟩ := hs
    exact close J rv q
  | next =>
    obtain ⟨σ', H', J, q⟩ := hs
    exact close (v := V.non) (u := Value.none) J rfl q
  | brk => exact (let ⟨_, _, _, q⟩ := hs; False.elim q)
  | cont => exact (let ⟨_, _, _, q⟩ := hs; False.elim q)
theorem fn_mk {k : Nat} {f : Addr} {fd : FuncData} {x qual : Str} {params : Arguments} {body : List Stmt} {scope : Scope} {dvs : List V} {kws : List (Str × V)} {N ps : List Str} {sp : Sp} (F : FunD K x qual params body scope dvs kws f fd) (S : FnScope N ps scope)
    (len : ∀ vs H Q E, sp vs H Q E → vs.length = ps.length)
    (hbody : ∀ (cdv : Value) (A : Around) (outer : List Env) (s : Shared) (H : Hp) (vs : List V) (Q : VK) (E : XK), Room k (A.deeper (envOfC qual scope s.heap.objs.size f cdv)) → A.guards = some [] → sp vs H Q E →
      ∃ t, PSs (cxN P w K mg base N qual scope f cdv A outer s H E) body t ∧ t { nx := fun _ H' => Q .non H', rt := Q } (start N vs) H) : Fn P w K mg base (k + 1) f fd ps sp :=
  fn_mkC F S len fun cdv _ => hbody cdv
end
abbrev Sem := List Arg → Option Bx → Except Er (PyData × Option Bx)
def argSV : Arg → SV
  | .dat d => .dat d
  | .box => .box
def runF (n : Nat) (body : M Fl) : Sem := fun as b => match body ⟨as.map argSV ++ List.replicate (n - as.length) .no, b⟩ with
  | .ok (.rt d, s') => .ok (d, s'.b)
  | .ok (.nx, s') => .ok (.none, s'.b)
  | .ok _ => .error .stuck
  | .error e => .error e
def AR1 (G : Gh) (H : Hp) (v : V) : Arg → Prop
  | .dat d => Fz G.F H v d
  | .box => ∃ x, G.bs.head? = some x ∧ v = .ref x
def AR (G : Gh) (H : Hp) : List V → List Arg → Prop := Paired (AR1 G H)
structure GB (G : Gh) (H : Hp) (b : Option Bx) : Prop where
  bx : ∀ b', b = some b' → BoxOk H G.bs b'
  nb : b = none → G.bs = []
  fr : ∀ a, G.F a → H a ≠ none
  bF : ∀ a ∈ G.bs, ¬ G.F a ∧ H a ≠ none
  tb : Tb (fun _ => False) G.F H
def prot (G : Gh) (H : Hp) : Addr → Prop := fun a => H a ≠ none ∧ a ∉ G.bs ∧ ¬ isTab a
def PostF (G : Gh) (H : Hp) (Q : VK) (r : Except Er (PyData × Option Bx)) : Prop := match r with
  | .ok (d, b') => ∀ G' v H', Ext (prot G H) G H G' H' → GB G' H' b' → Fz G'.F H' v d → Q v H'
  | .error _ => False
def spF (n : Nat) (F : Sem) : Sp := fun vs H Q _ => ∃ G as b, as.length = n ∧ AR G H vs as ∧ GB G H b ∧ PostF G H Q (F as b)
theorem AR.length {G : Gh} {H : Hp} {vs : List V} {as : List Arg} (h : AR G H vs as) : vs.length = as.length := Paired.length h
section
variable {P : Addr → Prop} {G G' : Gh} {σ : L2.St} {H H' : Hp} {s s' : Sx} {v : V} {o : Opd} {W : Wish} {X : Cx} {k : Nat}
theorem Rel.gb (R : Rel P G σ H s) : GB G H s.b := ⟨R.bx, R.nb, R.fr, fun a h => ⟨(R.bF a h).1, (R.bF a h).2.2⟩, R.tb.lessP fun _ z => z.elim⟩
theorem AR.get {vs : List V} {as : List Arg} (h : AR G H vs as) {i : Nat} {a : Arg} (e : as[i]? = some a) : ∃ v, vs[i]? = some v ∧ AR1 G H v a := by
  induction h generalizing i with
  | nil => simp at e
  | cons r rs ih =>
    cases i with
    | zero => simp at e; subst e; exact ⟨_, rfl, r⟩
    | succ i =>
      obtain ⟨v, h1, h2⟩ := ih (i := i) (by simpa using e)
      exact ⟨v, by simpa using h1, h2⟩
theorem Rel.start {n : Nat} {N : List Str} {vs : List V} {as : List Arg} {b : Option Bx} (hN : N.length = n) (hl : as.length ≤ n) (ha : AR G H vs as) (g : GB G H b) : Rel (prot G H) G (start N vs) H ⟨as.map argSV ++ List.replicate (n - as.length) .no, b⟩ := by
  have get : ∀ {i : Nat} {x : SV}, (as.map argSV ++ List.replicate (n - as.length) SV.no)[i]? = some x → x ≠ .no → ∃ a, as[i]? = some a ∧ x = argSV a := fun {i x} h hx => by
    by_cases hi : i < as.length
    · rw [List.getElem?_append_left (by simpa using hi), List.getElem?_map, List.getElem?_eq_getElem hi] at h
      exact ⟨as[i], List.getElem?_eq_getElem hi, (Option.some.inj h).symm⟩
    · rw [List.getElem?_append_right (by simpa using hi), List.getElem?_replicate] at h
      split at h <;> cases h
      exact absurd rfl hx
  have put : ∀ {i : Nat} {v : V}, vs[i]? = some v → (L2.start N vs)[i]? = some (some v) := fun {i v} h => by
    unfold L2.start
    have hi := (List.getElem?_eq_some_iff.mp h).1
    rw [List.getElem?_append_left (by simpa using hi), List.getElem?_map, h]
    rfl
  refine ⟨?_, fun i d e => ?_, fun i d e => ?_, fun i j d e hij h h' => ?_, fun i e => ?_, g.bx, g.nb, g.fr, fun a h => h.1, fun a h => ⟨(g.bF a h).1, fun z => z.2.1 h, (g.bF a h).2⟩, ⟨g.tb.t, fun a h => ⟨(g.tb.n a h).1, fun z => z.2.2 h⟩⟩⟩
  · unfold L2.start
    simp only [List.length_append, List.length_map, List.length_replicate]
    rw [ha.length, hN]
  · obtain ⟨a, h1, h2⟩ := get e (by simp)
    cases a with
    | box => cases h2
    | dat d' =>
      cases h2
      obtain ⟨v, h3, h4⟩ := ha.get h1
      exact ⟨v, put h3, h4⟩
  · obtain ⟨a, h1, h2⟩ := get e (by simp)
    cases a <;> cases h2
  · obtain ⟨a, h1, h2⟩ := get h (by simp)
    cases a <;> cases h2
  · obtain ⟨a, h1, h2⟩ := get e (by simp)
    cases a with
    | dat d' => cases h2
    | box =>
      obtain ⟨v, h3, x, h4, h5⟩ := ha.get h1
      exact ⟨x, h4, by rw [put h3, h5]⟩
theorem fn_of_bodyC {P : Program} {w : World} {K : PySem.W.Frag} {mg : Str → Option Value} {base : Heap} {f : Addr} {fd : FuncData} {x qual : Str} {params : Arguments} {body : List Stmt} {scope : Scope} {dvs : List V} {kws : List (Str × V)} {N ps : List Str} {m : M Fl} (n : Nat)
    (F : FunD K x qual params body scope dvs kws f fd) (S : FnScope N ps scope) (hsm : SmP base) (hn : N.length = n)
    (hb : ∀ (cdv : Value), fd.code = cdv → ∀ (A : Around) (outer : List Env) (s : Shared) (H : Hp) (E : XK), Cok (cxN P w K mg base N qual scope f cdv A outer s H E) k → SdB (cxN P w K mg base N qual scope f cdv A outer s H E) Wish.no body m) :
    Fn P w K mg base (k + 1) f fd ps (spF ps.length (runF n m)) := by
  refine fn_mkC F S (fun vs H Q E h => ?_) fun cdv hcd A outer s H vs Q E hr hgd h => ?_
  · obtain ⟨G, as, b, h1, h2, _⟩ := h
    rw [h2.length, h1]
  · obtain ⟨G, as, b, h1, h2, h3, h4⟩ := h
    obtain ⟨t, pt, ct⟩ := (hb cdv hcd A outer s H E ⟨rfl, S.nd, hr, hgd, hsm⟩).ex
    have hpl : ps.length ≤ n := by
      have := congrArg List.length S.pre
      rw [List.length_take] at this
      omega
    refine ⟨t, pt, ct (prot G H) G (L2.start N vs) H _ _ (Rel.start hn (by rw [h1]; exact hpl) h2 h3) ?_⟩
    unfold PostF runF at h4
    unfold pw
    cases q : m ⟨as.map argSV ++ List.replicate (n - as.length) .no, b⟩ with
    | error e => rw [q] at h4; exact h4
    | ok p =>
      obtain ⟨fl, s'⟩ := p
      rw [q] at h4
      cases fl with
      | nx => exact fun G' σ' H' x' R' => h4 G' .non H' x' R'.gb .non
      | rt d => exact fun G' σ' v H' x' R' z => h4 G' v H' x' R'.gb z
      | bk => exact h4.elim
      | ct => exact h4.elim
theorem fn_of_body {P : Program} {w : World} {K : PySem.W.Frag} {mg : Str → Option Value} {base : Heap} {f : Addr} {fd : FuncData} {x qual : Str} {params : Arguments} {body : List Stmt} {scope : Scope} {dvs : List V} {kws : List (Str × V)} {N ps : List Str} {m : M Fl} (n : Nat)
    (F : FunD K x qual params body scope dvs kws f fd) (S : FnScope N ps scope) (hsm : SmP base) (hn : N.length = n)
    (hb : ∀ (cdv : Value) (A : Around) (outer : List Env) (s : Shared) (H : Hp) (E : XK), Cok (cxN P w K mg base N qual scope f cdv A outer s H E) k → SdB (cxN P w K mg base N qual scope f cdv A outer s H E) Wish.no body m) :
    Fn P w K mg base (k + 1) f fd ps (spF ps.length (runF n m)) :=
  fn_of_bodyC n F S hsm hn fun cdv _ => hb cdv
theorem hand_ok {α : Type} {f : Arg → M α} {Qp : Gh → Hp → α → Sx → Prop} (hm : Mono P Qp) (R : Rel P G σ H s) (r : OR G σ H v o) (hw : pw (handO o >>= f) s (Qp G H) (W.w P G H)) :
    ∃ G' s' a, Ext P G H G' H ∧ Rel P G' σ H s' ∧ AR1 G' H v a ∧ pw (f a) s' (Qp G' H) (W.w P G' H) := by
  cases o with
  | val d => exact ⟨G, s, .dat d, .refl, R, r, hw⟩
  | slot i =>
    unfold handO at hw
    rw [pw_bind, pw_bind, pw_getS] at hw
    have r : σ[i]? = some (some v) := r
    cases e : s.r.getD i .no with
    | no => rw [e] at hw; exact absurd hw (W.stuck _ _ _)
    | box =>
      rw [e] at hw
      obtain ⟨x, h1, h2⟩ := R.box i (getD_of e (by simp))
      rw [r] at h2; cases h2
      exact ⟨G, s, .box, .refl, R, ⟨x, h1, rfl⟩, hw⟩
    | dat d =>
      rw [e] at hw
      obtain ⟨w, h1, h2⟩ := R.dat i d (getD_of e (by simp))
      rw [r] at h1; cases h1
      exact ⟨G, s, .dat d, .refl, R, h2, hw⟩
    | own d =>
      rw [e] at hw
      have e' := getD_of e (by simp)
      obtain ⟨a, h1, _⟩ := R.own i d e'
      rw [r] at h1; cases h1
      obtain ⟨x, R', z⟩ := R.own_to_dat e' r
      exact ⟨_, _, .dat d, x, R', z, pw_ext (s := { s with r := s.r.set i (.dat d) }) hm x hw⟩
theorem Ext.head {x : Addr} (y : Ext P G H G' H') (h : G.bs.head? = some x) : G'.bs.head? = some x := by
  rw [y.bs (fun e => by rw [e] at h; cases h)]
  exact h
theorem hands_ok {α : Type} {Qp : Gh → Hp → α → Sx → Prop} (hm : Mono P Qp) : ∀ {os : List Opd} {vs : List V} {f : List Arg → M α} {G : Gh} {s : Sx}, Rel P G σ H s → ORs G σ H vs os → pw (hands os >>= f) s (Qp G H) (W.w P G H) →
    ∃ G' s' as, Ext P G H G' H ∧ Rel P G' σ H s' ∧ AR G' H vs as ∧ pw (f as) s' (Qp G' H) (W.w P G' H)
  | [], _, f, _, _, R, r, hw => by
    cases r
    exact ⟨_, _, [], .refl, R, .nil, hw⟩
  | o :: os, _, f, _, _, R, r, hw => by
    cases r with
    | cons r1 r2 =>
      unfold hands at hw
      rw [pw_bind, pw_bind] at hw
      obtain ⟨G1, s1, d, x1, R1, z1, h1⟩ := hand_ok (f := fun d => do let ds ← hands os; f (d :: ds)) hm R r1 (by
        rw [pw_bind]
        refine pw_mono hw (fun d s1 h => ?_) fun _ h => h
        rw [pw_bind] at h ⊢
        exact pw_mono h (fun ds s2 h => h) fun _ h => h)
      obtain ⟨G2, s2, ds, x2, R2, z2, h2⟩ := hands_ok hm (f := fun ds => f (d :: ds)) R1 (ORs.ext x1 r2) h1
      refine ⟨G2, s2, d :: ds, x1.trans x2, R2, .cons ?_ z2, h2⟩
      cases d with
      | dat d => exact Fz.ext z1 x2
      | box => exact let ⟨y, h3, h4⟩ := z1; ⟨y, x2.head h3, h4⟩
def callF (n : Nat) (F : Sem) (as : List Arg) : M PyData := fun s => if as.length ≠ n then .error .stuck else match F as s.b with
  | .ok (d, b') => .ok (d, { s with b := b' })
  | .error _ => .error .stuck
def eCall (n : Nat) (F : Sem) (a : M (List Opd)) : M Opd := do let os ← a; let as ← hands os; let d ← callF n F as; pure (.val d)
theorem Rel.after {b' : Option Bx} (R : Rel P G σ H s) (x : Ext (prot G H) G H G' H') (g : GB G' H' b') : Ext P G H G' H' ∧ Rel P G' σ H' { s with b := b' } := by
  have up : ∀ a, P a → prot G H a := fun a h => ⟨R.pr a h, fun z => (R.bF a z).2.1 h, fun z => (R.tb.n a z).2 h⟩
  refine ⟨⟨x.F, x.kF, fun a h n => x.kP a (up a h) n, fun a h => (x.new a h).elim .inl fun z => .inr (z.imp (fun z q => z (up a q)) id), x.bs, fun a h => (x.bn a h).elim .inl fun z => .inr fun q => z (up a q)⟩, R.len, fun i d e => ?_, fun i d e => ?_, R.sep, fun i e => ?_, g.bx, g.nb, g.fr, fun a h => ?_, fun a h => ⟨(g.bF a h).1, ?_, (g.bF a h).2⟩, ⟨g.tb.t, fun a h => ⟨(g.tb.n a h).1, (R.tb.n a h).2⟩⟩⟩
  · obtain ⟨v, h1, h2⟩ := R.dat i d e
    exact ⟨v, h1, h2.sim x.F x.kF⟩
  · obtain ⟨a, h1, h2, h3, h4, h5⟩ := R.own i d e
    have pa : prot G H a := ⟨h2.tracked, h5, R.tb.not h2.calm⟩
    exact ⟨a, h1, h2.sim x.F x.kF (x.kP a pa h3), fun z => Ow.nF x z h3 pa h2, h4, fun z => (x.bn a z).elim h5 fun w => w pa⟩
  · obtain ⟨y, h1, h2⟩ := R.box i e
    exact ⟨y, x.head h1, h2⟩
  · by_cases z : G.F a
    · exact (x.kF a z).some (R.pr a h)
    · rw [x.kP a (up a h) z]
      exact R.pr a h
  · exact (x.bn a h).elim (fun z => (R.bF a z).2.1) fun z q => z (up a q)
theorem run_fn' {j : Nat} {f : Addr} {fd : FuncData} {ps : List Str} {sp : Sp} {pins : List (Addr × Obj)} {σ : L2.St} {H : Hp} {s : Shared} {Q : VK} {us : List Value} {vs : List V} (F : Fn X.prog X.w X.K X.mg X.base j f fd ps sp) (C : Cok X k) (hj : j ≤ k) (hb : Binds X.K fd ps [])
    (I : L2.Inv X pins σ H s) (r : Vals vs us) (h : sp vs H Q E0) : wpAny (model X.prog X.w) X.A (call (.ref f) us) (EP X pins σ Q) X.xe s := by
  have hl : us.length = ps.length := by rw [← r.length]; exact F.len _ _ _ _ h
  have bd : BindsTo s fd ⟨us, []⟩ (ps.zip us) := by
    have := hb s us I.kIn (by rw [List.append_nil]; exact hl)
    rwa [List.append_nil] at this
  refine wpAny_call (codeAny_mono (F.run X.A X.stack s H ⟨us, []⟩ us vs Q E0 (C.room.mono hj) C.gd I.env0 bd r h) fun res s' hq => ?_)
  cases res with
  | error e => exact False.elim hq
  | ok fl =>
    cases fl with
    | ret u => exact I.after hq
    | next => exact False.elim hq
    | brk => exact False.elim hq
    | cont => exact False.elim hq
theorem sd_call {F : Sem} {j : Nat} {f : Addr} {fd : FuncData} {ps : List Str} {x : Str} {p pos : Pos} {e : Expr} {es : List Expr} {ma : M (List Opd)} (C : Cok X k) (Fo : Fn X.prog X.w X.K X.mg X.base j f fd ps (spF ps.length F)) (hj : j ≤ k) (hg : Gl X x) (hm : X.mg x = some (.ref f))
    (hk : PySem.W.keepIn X.K (.ref f) = true) (hb : Binds X.K fd ps []) (ha : SdA X W (e :: es) ma) (hn : (e :: es).length = ps.length := by rfl) (hdb : (x == ("__debug__" : Str)) = false := by decide)
    (he : starEach (e :: es) X.env = (false, eval e X.env) :: starEach es X.env := by rfl) (hpl : (backTo pos (starEach es X.env)).any (·.1) = false := by rfl) : Sd X W (.Call (.Name x p) (e :: es) [] pos) (eCall ps.length F ma) := by
  obtain ⟨ta, pa, ca⟩ := ha.ex
  refine ⟨fun σ H Q => ta σ H fun vs H1 => spF ps.length F vs H1 Q E0, ⟨fun pins s σ H Q I h => wpAny_Call_Name_kw (ld_glob I hg hm ?_ hdb)⟩, ?_⟩
  · exact PySem.W.callWith_K (h₀ := X.base) I.ok.mod.kin hk (thn (pa.run pos pins s σ H _ I h) fun us s1 ⟨vs, H1, I1, r, q⟩ => ⟨I1.kIn, run_fn' (k := k) Fo C hj hb I1 r q⟩) he hpl
  · intro P G σ H s Q R hw
    unfold eCall at hw
    refine ca.bind PostV.mono R hw fun os s1 G1 vs H1 x1 R1 r1 hw1 => ?_
    obtain ⟨G2, s2, as, x2, R2, z, hw2⟩ := hands_ok PostV.mono R1 r1 hw1
    rw [pw_bind] at hw2
    unfold callF at hw2
    unfold pw at hw2
    by_cases hn2 : as.length = ps.length
    · cases q : F as s2.b with
      | error e => simp only [hn2, ne_eq, not_true_eq_false, if_false, q] at hw2; exact absurd hw2 (W.stuck _ _ _)
      | ok pr =>
        obtain ⟨d, b'⟩ := pr
        simp only [hn2, ne_eq, not_true_eq_false, if_false, q] at hw2
        refine ⟨G2, as, s2.b, hn2, z, R2.gb, ?_⟩
        rw [q]
        intro G' v H' x' g' fz
        obtain ⟨x3, R3⟩ := R2.after x' g'
        exact hw2 G' v H' x3 R3 fz
    · simp only [ne_eq, hn2, not_false_eq_true, if_true] at hw2
      exact absurd hw2 (W.stuck _ _ _)
end
end TW
set_option linter.all false
set_option Elab.async false
namespace TW
open PySem PySem.Spec PyProof.Rows L2
def drawL : List Int → Int → Option (Int × List Int)
  | [], _ => none
  | c :: r, n => if 0 < c then some (c.fmod n, c.fdiv n :: r) else drawL r n
def mixD (c t : Int) : Int :=
  let a := (c * 6364136223846793005 + t * 1442695040888963407).fmod 18446744073709551557
  ((a * (a / 4294967296 + 17)).fmod 18446744073709551557).fdiv 65536
def drawS (b : Bx) (n : Int) : Int := (mixD (b.small.getD ((b.turn + 1).fmod (b.small.length : Int)).toNat 0) (b.turn + 1)).fmod n
def drawV (b : Bx) (n : Int) : Int := match drawL b.great.reverse n with
  | some (d, _) => d
  | none => drawS b n
def drawB (b : Bx) (n : Int) : Bx := match drawL b.great.reverse n with
  | some (_, l) => { b with great := l.reverse }
  | none => { b with great := [], turn := b.turn + 1 }
def boxG (b : Bx) : Prop := b.small ≠ []
def drawF : Sem := fun as b => match as, b with
  | [.box, .dat (.int n)], some b => if 1 ≤ n ∧ n < 1073741824 ∧ b.small ≠ [] then .ok (.int (drawV b n), some (drawB b n)) else .error .stuck
  | _, _ => .error .stuck
theorem fmod_range {i n : Int} (h : 1 ≤ n) : 0 ≤ i.fmod n ∧ i.fmod n < n := ⟨Int.fmod_nonneg_of_pos i (by omega), Int.fmod_lt_of_pos i (by omega)⟩
theorem drawL_range {n : Int} (h : 1 ≤ n) : ∀ {l : List Int} {d : Int} {r : List Int}, drawL l n = some (d, r) → 0 ≤ d ∧ d < n
  | [], _, _, e => by cases e
  | c :: l, d, r, e => by
    unfold drawL at e
    split at e
    · cases e; exact fmod_range h
    · exact drawL_range h e
theorem drawV_range {b : Bx} {n : Int} (h : 1 ≤ n) : 0 ≤ drawV b n ∧ drawV b n < n := by
  unfold drawV
  split
  · rename_i d l e; exact drawL_range h e
  · exact fmod_range h
abbrev rIntC : List V → Hp → VK → Prop := fun xs H Q => (∃ i, xs = [V.int i] ∧ Q (V.int i) H) ∨ ∃ k, xs = [V.bl k] ∧ Q (V.int (if k then 1 else 0)) H
abbrev tI (t : TE) : TE := tCB rIntC (tCons t tNil)
abbrev tNg1 : TE := tUn (rU fun i => .int (-i)) (tC (.int 1))
abbrev tLast (K : PySem.W.Frag) : TE := tOp (rIx K) (tVar 2) tNg1
abbrev rMdN : R2 := rI (fun _ j => j ≠ 0) fun i j => .int (i.fmod j)
abbrev rFdN : R2 := rI CDivN fun i j => .int (i.fdiv j)
abbrev rMu : R2 := rI CMul fun i j => .int (i * j)
abbrev rAd : R2 := rI0 fun i j => .int (i + j)
abbrev tBx (x : Str) : TE := tDGet (tVar 0) (tC (.str x))
abbrev rLenQ (K : PySem.W.Frag) : List V → Hp → VK → Prop := fun xs H Q => ∃ p ys, xs = [.ref p] ∧ (SqL K H p ys ∨ SqT K H p ys) ∧ Q (.int ys.length) H
def tDrawW (K : PySem.W.Frag) : TS := tWhile (tB (tOp (rNeD K) (tVar 2) (tLst tNil)))
  (tSeq (tIfS (tB (tOp (rI0 fun i j => .bl (decide (j < i))) (tLast K) (tC (.int 0))))
      (tSeq (tAsg (tOp rMdN (tI (tLast K)) (tVar 1)) (gName 3))
        (tSeq (tAsg (tOp rFdN (tI (tLast K)) (tVar 1)) (gSub (tVar 2) tNg1 rSetL)) (tRet (tVar 3)))) tNext)
    (tDrop (tBM0 K "list" rPop (tVar 2))))
def tDrawE (K : PySem.W.Frag) : TS :=
  tSeq (sDPut (tVar 0) (tC (.str "turn")) (tOp rAd (tBx "turn") (tC (.int 1))))
    (tSeq (tAsg (tOp (rIx K) (tBx "small") (tOp rMdN (tI (tBx "turn")) (tCB (rLenQ K) (tCons (tBx "small") tNil)))) (gName 4))
      (tSeq (tAsg (tOp rAd (tOp rMu (tVar 4) (tC (.int 6364136223846793005))) (tOp rMu (tBx "turn") (tC (.int 1442695040888963407)))) (gName 5))
        (tSeq (tAsg (tOp rMdN (tI (tVar 5)) (tC (.int 18446744073709551557))) (gName 5))
          (tSeq (tAsg (tOp rMdN (tI (tOp rMu (tVar 5) (tOp rAd (tOp (rI CDivW fun i j => .int (i / j)) (tVar 5) (tC (.int 4294967296))) (tC (.int 17))))) (tC (.int 18446744073709551557))) (gName 5))
            (tRet (tOp rMdN (tI (tOp rFdN (tVar 5) (tC (.int 65536)))) (tVar 1)))))))
def tDraw (K : PySem.W.Frag) : TS := tSeq (tAsg (tBx "great") (gName 2)) (tSeq (tDrawW K) (tDrawE K))
structure Dr (G : Gh) (H0 : Hp) (x g m : Addr) (b : Bx) (gr : List Int) (t : Int) (H : Hp) : Prop where
  ext : Ext (prot G H0) G H0 G H
  hx : H x = some (.dK [(.inr "great", .ref g), (.inr "small", .ref m), (.inr "turn", .int t)])
  hg : H g = some (.lst (gr.map V.int))
  hm : H m = some (.lst (b.small.map V.int))
  tb : Tb (fun _ => False) G.F H
section
variable {G : Gh} {H0 H : Hp} {x g m : Addr} {b : Bx} {gr : List Int} {t : Int}
structure DrC (G : Gh) (H0 : Hp) (x g m : Addr) : Prop where
  gb : ∀ a, G.F a → H0 a ≠ none
  bF : ∀ a ∈ G.bs, ¬ G.F a
  bs : G.bs = [x, g, m]
  xg : x ≠ g
  xm : x ≠ m
  gm : g ≠ m
theorem Dr.fresh (C : DrC G H0 x g m) (d : Dr G H0 x g m b gr t H) {p : Addr} {u : HO} (hp : H p = none) : Dr G H0 x g m b gr t (upd H p u) := by
  have nx : p ≠ x := fun e => by rw [e, d.hx] at hp; cases hp
  have ng : p ≠ g := fun e => by rw [e, d.hg] at hp; cases hp
  have nm : p ≠ m := fun e => by rw [e, d.hm] at hp; cases hp
  have e := d.ext
  refine ⟨⟨fun _ h => h, fun a h => ?_, fun a h n => ?_, fun _ h => .inl h, fun _ => rfl, fun _ h => .inl h⟩, by rw [upd_ne nx.symm]; exact d.hx, by rw [upd_ne ng.symm]; exact d.hg, by rw [upd_ne nm.symm]; exact d.hm, d.tb.new hp⟩
  · have : a ≠ p := fun z => (e.kF a h).some (C.gb a h) (by rw [z]; exact hp)
    rw [upd_ne this]; exact e.kF a h
  · have : a ≠ p := fun z => by
      have := e.kP a h n
      rw [z, hp] at this
      exact h.1 (by rw [z]; exact this.symm)
    rw [upd_ne this]; exact e.kP a h n
theorem Dr.at_ (C : DrC G H0 x g m) (d : Dr G H0 x g m b gr t H) {p : Addr} {u : HO} (hp : p ∈ G.bs) : Ext (prot G H0) G H0 G (upd H p u) := by
  have e := d.ext
  refine ⟨fun _ h => h, fun a h => ?_, fun a h n => ?_, fun _ h => .inl h, fun _ => rfl, fun _ h => .inl h⟩
  · rw [upd_ne fun z => C.bF p hp (by rw [← z]; exact h)]; exact e.kF a h
  · rw [upd_ne fun z => h.2.1 (by rw [z]; exact hp)]; exact e.kP a h n
theorem Dr.setG (C : DrC G H0 x g m) (d : Dr G H0 x g m b gr t H) {gr' : List Int} : Dr G H0 x g m b gr' t (upd H g (.lst (gr'.map V.int))) :=
  ⟨d.at_ C (by rw [C.bs]; simp), by rw [upd_ne C.xg]; exact d.hx, upd_same, by rw [upd_ne C.gm.symm]; exact d.hm, d.tb.upd (by rw [d.hg]; exact calm_lst)⟩
theorem Dr.setT (C : DrC G H0 x g m) (d : Dr G H0 x g m b gr t H) {t' : Int} : Dr G H0 x g m b gr t' (upd H x (.dK [(.inr "great", .ref g), (.inr "small", .ref m), (.inr "turn", .int t')])) :=
  ⟨d.at_ C (by rw [C.bs]; simp), upd_same, by rw [upd_ne C.xg.symm]; exact d.hg, by rw [upd_ne C.xm.symm]; exact d.hm, d.tb.upd (by rw [d.hx]; exact calm_dK)⟩
theorem Dr.box (C : DrC G H0 x g m) (hb : b.small ≠ []) (d : Dr G H0 x g m b gr t H) : GB G H (some ⟨gr, b.small, t⟩) where
  bx := fun b' e => by
    cases e
    exact ⟨.inl ⟨hb, x, g, m, C.bs, C.xg, C.xm, C.gm, d.hx, d.hg, d.hm⟩⟩
  nb := fun e => by cases e
  fr := fun a h => (d.ext.kF a h).some (C.gb a h)
  bF := fun a h => ⟨C.bF a h, by
    rw [C.bs] at h
    simp at h
    rcases h with rfl | rfl | rfl
    · rw [d.hx]; simp
    · rw [d.hg]; simp
    · rw [d.hm]; simp⟩
  tb := d.tb
def bxK (g m : Addr) (t : Int) : List (Key × V) := [(.inr "great", .ref g), (.inr "small", .ref m), (.inr "turn", .int t)]
theorem Dr.get (d : Dr G H0 x g m b gr t H) {σ : L2.St} {y : Str} {v : V} {Q : VK} (h0 : σ[0]? = some (some (.ref x))) (hv : valV (bxK g m t) (.inr y) = some v) (q : Q v H) : tBx y σ H Q :=
  ⟨_, h0, x, v, rfl, by rw [← hv]; exact DGet.k (k := .inr y) (kvs := bxK g m t) d.hx, q⟩
theorem last_ok {K : PySem.W.Frag} {gr : List Int} {c : Int} {σ : L2.St} {Q : VK} (hg : H g = some (.lst ((gr ++ [c]).map V.int))) (h2 : σ[2]? = some (some (.ref g))) (q : Q (.int c) H) : tLast K σ H Q := by
  refine ⟨_, h2, 1, rfl, .inl ⟨g, _, -1, .int c, rfl, rfl, SqL.of hg, ?_, q⟩⟩
  rw [List.map_append]
  exact atI_last _ _
theorem canAll {f : PyData → Bool} (hf : ∀ d, f d = true → d.canLay0 = true ∧ d.depth = 0) : ∀ {l : List PyData}, l.all f = true → PyData.canLayAll0 l = true ∧ PyData.depthAll l = 0
  | [], _ => by simp [PyData.canLayAll0, PyData.depthAll]
  | d :: l, h => by
    rw [List.all_cons, Bool.and_eq_true] at h
    obtain ⟨a, b⟩ := hf d h.1
    obtain ⟨c, e⟩ := canAll hf h.2
    simp [PyData.canLayAll0, PyData.depthAll, a, b, c, e]
theorem shp_list {f : PyData → Bool} (hf : ∀ d, f d = true → d.canLay0 = true ∧ d.depth = 0) {l : List PyData} (h : l.all f = true) : shp (.list l) = true := by
  obtain ⟨a, b⟩ := canAll hf h
  unfold shp SeqAt.shaped
  simp [PyData.canLay0, PyData.depth, a, b]
def isI : PyData → Bool
  | .int _ => true
  | _ => false
theorem isI_ok (d : PyData) (h : isI d = true) : d.canLay0 = true ∧ d.depth = 0 := by
  cases d <;> first | (simp [PyData.canLay0, PyData.depth]; done) | (cases h; done)
theorem shp_ints (l : List Int) : SeqAt.shaped (.list (l.map PyData.int)) = true := shp_list isI_ok (by simp [isI])
theorem dp_ints {K : PySem.W.Frag} {l : List Int} (hg : H g = some (.lst (l.map V.int))) : Dp K H (.ref g) (.list (l.map PyData.int)) :=
  Ct.dp (G := ⟨fun _ => False, []⟩) (show Ct _ H (.ref g) (.list (l.map PyData.int)) from ⟨g, _, rfl, hg, FzA.of_ints⟩) (shp_ints l)
theorem eqv_nil (l : List PyData) : PyData.eqv (.list l) (.list []) = l.isEmpty := by
  cases l <;> simp [PyData.eqv, PyData.eqvAll]
theorem dp_nil {K : PySem.W.Frag} {p : Addr} : Dp K (upd H p (.lst [])) (.ref p) (.list []) :=
  dp_ints (l := []) (by rw [List.map_nil]; exact upd_same)
theorem drawE_ok {K : PySem.W.Frag} (C : DrC G H0 x g m) {n : Int} (hn : 1 ≤ n) (d : Dr G H0 x g m b gr t H) (hb : b.small ≠ []) {σ : L2.St} {D : Ends} {i4 i5 : Option V} (hσ : σ = [some (.ref x), some (.int n), some (.ref g), none, i4, i5])
    (q : ∀ H', Dr G H0 x g m b gr (t + 1) H' → D.rt (.int ((mixD (b.small.getD ((t + 1).fmod (b.small.length : Int)).toNat 0) (t + 1)).fmod n)) H') : tDrawE K D σ H := by
  subst hσ
  have e2 : valV (bxK g m t) (.inr "turn") = some (.int t) := rfl
  refine d.get rfl e2 ⟨t, 1, rfl, rfl, ?_⟩
  refine ⟨.ref x, rfl, x, upd H x (.dK (bxK g m (t + 1))), rfl, DPut.k (kvs := bxK g m t) (k := .inr "turn") d.hx (show 3 < sizeLine by rw [sizeLine_eq]; decide), ?_⟩
  have d1 : Dr G H0 x g m b gr (t + 1) (upd H x (.dK (bxK g m (t + 1)))) := d.setT C
  -- the cell
  have e3 : valV (bxK g m (t + 1)) (.inr "turn") = some (.int (t + 1)) := rfl
  have e4 : valV (bxK g m (t + 1)) (.inr "small") = some (.ref m) := rfl
  refine d1.get rfl e4 (d1.get rfl e3 (.inl ⟨_, rfl, ?_⟩))
  have hl : (b.small.length : Int) ≠ 0 := by
    have := List.length_pos_iff.mpr hb
    omega
  refine d1.get rfl e4 ⟨m, _, rfl, .inl (SqL.of d1.hm), ?_⟩
  refine ⟨_, _, rfl, rfl, by rw [List.length_map]; exact hl, ?_⟩
  have hr := fmod_range (i := t + 1) (n := (b.small.length : Int)) (by have := List.length_pos_iff.mpr hb; omega)
  have hj : ((t + 1).fmod (b.small.length : Int)).toNat < b.small.length := by omega
  refine .inl ⟨m, _, _, .int (b.small.getD ((t + 1).fmod (b.small.length : Int)).toNat 0), rfl, rfl, SqL.of d1.hm, ?_, ?_⟩
  · rw [List.length_map]
    have : (t + 1).fmod (b.small.length : Int) = (((t + 1).fmod (b.small.length : Int)).toNat : Nat) := by omega
    rw [this]
    refine atI_nat ?_
    rw [List.getElem?_map, List.getD_eq_getElem?_getD, Int.toNat_natCast, List.getElem?_eq_getElem hj]
    rfl
  generalize b.small.getD ((t + 1).fmod (b.small.length : Int)).toNat 0 = c at q ⊢
  -- the mixes
  refine ⟨_, rfl, c, 6364136223846793005, rfl, rfl, .inr (by decide), d1.get rfl e3 ⟨_, _, rfl, rfl, .inr (by decide), _, _, rfl, rfl, ?_⟩⟩
  refine ⟨_, rfl, .inl ⟨_, rfl, _, _, rfl, rfl, (by decide : (18446744073709551557 : Int) ≠ 0), ?_⟩⟩
  have h1 := fmod_range (i := c * 6364136223846793005 + (t + 1) * 1442695040888963407) (n := 18446744073709551557) (by decide)
  unfold mixD at q
  generalize ha : (c * 6364136223846793005 + (t + 1) * 1442695040888963407).fmod 18446744073709551557 = a at h1 q
  refine ⟨V.int a, congrArg (fun z => some (some (V.int z))) ha, V.int a, congrArg (fun z => some (some (V.int z))) ha, a, 4294967296, rfl, rfl, ⟨by decide, by decide +kernel⟩, _, _, rfl, rfl, a, _, rfl, rfl, .inl ⟨by omega, by omega⟩, .inl ⟨_, rfl, _, _, rfl, rfl, (by decide : (18446744073709551557 : Int) ≠ 0), ?_⟩⟩
  refine ⟨_, rfl, _, _, rfl, rfl, ⟨by decide, by decide⟩, .inl ⟨_, rfl, _, rfl, _, _, rfl, rfl, by omega, q _ d1⟩⟩
theorem rev_snoc {l : List Int} {c : Int} {r : List Int} (h : l.reverse = c :: r) : l = r.reverse ++ [c] := by
  have := congrArg List.reverse h
  rwa [List.reverse_reverse, List.reverse_cons] at this
theorem draw_ok {K : PySem.W.Frag} {vs : List V} {H : Hp} {Q : VK} {E : XK} (h : spF 2 drawF vs H Q E) : tDraw K { nx := fun _ H' => Q .non H', rt := Q } (start ["_law_box", "_law_many", "_law_great", "_law_digit", "_law_cell", "_law_mixed"] vs) H := by
  obtain ⟨G, as, b, hl, ha, gb, post⟩ := h
  have hd : ∃ n bx, as = [.box, .dat (.int n)] ∧ b = some bx ∧ (1 ≤ n ∧ n < 1073741824 ∧ bx.small ≠ []) := by
    unfold PostF drawF at post
    split at post
    · rename_i q
      split at q
      · rename_i n bx
        split at q
        · rename_i hc
          exact ⟨n, bx, rfl, rfl, hc⟩
        · cases q
      · cases q
    · exact post.elim
  obtain ⟨n, bx, rfl, rfl, hn, hn2, hs⟩ := hd
  have post : ∀ G' v H', Ext (prot G H) G H G' H' → GB G' H' (some (drawB bx n)) → Fz G'.F H' v (.int (drawV bx n)) → Q v H' := by
    have e : drawF [.box, .dat (.int n)] (some bx) = .ok (.int (drawV bx n), some (drawB bx n)) := by
      unfold drawF
      exact if_pos ⟨hn, hn2, hs⟩
    rw [e] at post
    exact post
  obtain ⟨_, x, g, m, hbs, xg, xm, gm, kx, kg, km⟩ := (gb.bx bx rfl).at_.resolve_right fun z => hs z.1
  have hvs : vs = [.ref x, .int n] := by
    cases ha with
    | cons a1 a2 =>
      cases a2 with
      | cons b1 b2 =>
        cases b2
        obtain ⟨y, hy, rfl⟩ := a1
        rw [hbs] at hy
        cases hy
        rw [Fz.int_inv b1]
  subst hvs
  have C : DrC G H x g m := ⟨gb.fr, fun a h => (gb.bF a h).1, hbs, xg, xm, gm⟩
  have d0 : Dr G H x g m bx bx.great bx.turn H := ⟨.refl, kx, kg, km, gb.tb⟩
  have e1 : valV (bxK g m bx.turn) (.inr "great") = some (.ref g) := rfl
  refine d0.get rfl e1 ?_
  refine ⟨fun k σ H' => ∃ gr, k = gr.length ∧ σ = [some (.ref x), some (.int n), some (.ref g), none, none, none] ∧ Dr G H x g m bx gr bx.turn H' ∧ drawL bx.great.reverse n = drawL gr.reverse n, ⟨_, bx.great, rfl, rfl, d0, rfl⟩, ?_⟩
  rintro k σ H1 ⟨gr, rfl, rfl, d1, hw⟩
  refine ⟨_, rfl, ⟨Nat.zero_le _, fun p hp => ?_⟩⟩
  have d2 := d1.fresh C hp (u := .lst [])
  refine ⟨_, _, dp_ints d2.hg, dp_nil, shp_ints _, shp_ints [], ?_⟩
  refine ⟨_, rfl, ?_⟩
  rw [eqv_nil]
  cases hgr : gr.reverse with
  | nil =>
    have : gr = [] := by simpa using hgr
    subst this
    refine drawE_ok (b := bx) C hn d2 hs rfl fun H' d3 => ?_
    have hx : drawL bx.great.reverse n = none := by rw [hw]; rfl
    refine post G _ H' d3.ext ?_ ?_
    · have : drawB bx n = ⟨[], bx.small, bx.turn + 1⟩ := by
        unfold drawB
        rw [hx]
      rw [this]
      exact d3.box C hs
    · have : drawV bx n = drawS bx n := by
        unfold drawV
        rw [hx]
      rw [this]
      exact .int _
  | cons c r =>
    have e := rev_snoc hgr
    subst e
    rw [hgr] at hw
    rw [if_pos (by simp)]
    refine ⟨fun σ' H' => ∃ gr', gr'.length < (r.reverse ++ [c]).length ∧ σ' = [some (.ref x), some (.int n), some (.ref g), none, none, none] ∧ Dr G H x g m bx gr' bx.turn H' ∧ drawL bx.great.reverse n = drawL gr'.reverse n, fun σ' H' ⟨gr', h1, h2, h3, h4⟩ => ⟨_, h1, gr', rfl, h2, h3, h4⟩, ?_⟩
    refine last_ok d2.hg rfl ⟨_, _, rfl, rfl, _, rfl, ?_⟩
    by_cases hc : 0 < c
    · dsimp only
      rw [if_pos (decide_eq_true hc)]
      have hx : drawL bx.great.reverse n = some (c.fmod n, c.fdiv n :: r) := by
        rw [hw]
        unfold drawL
        exact if_pos hc
      refine last_ok d2.hg rfl (.inl ⟨_, rfl, ?_⟩)
      refine ⟨_, rfl, _, _, rfl, rfl, by omega, ?_⟩
      refine last_ok (c := c) (gr := r.reverse) d2.hg rfl (.inl ⟨_, rfl, ?_⟩)
      refine ⟨_, rfl, _, _, rfl, rfl, ⟨by omega, by omega⟩, ?_⟩
      refine ⟨_, rfl, 1, rfl, g, _, -1, r.length, rfl, rfl, d2.hg, ?_, ?_⟩
      · unfold ixN
        rw [if_neg (by decide), if_pos (by simp; omega)]
        simp
        omega
      have d3 := d2.setG C (gr' := r.reverse ++ [c.fdiv n])
      refine ⟨_, rfl, ?_⟩
      have hset : ((r.reverse ++ [c]).map V.int).set r.length (V.int (c.fdiv n)) = (r.reverse ++ [c.fdiv n]).map V.int := by
        rw [List.map_append, List.map_append, List.set_append_right _ _ (by simp)]
        simp
      rw [hset]
      refine post G _ _ d3.ext ?_ ?_
      · have : drawB bx n = ⟨r.reverse ++ [c.fdiv n], bx.small, bx.turn⟩ := by
          unfold drawB
          rw [hx]
          simp
        rw [this]
        exact d3.box C hs
      · have : drawV bx n = c.fmod n := by
          unfold drawV
          rw [hx]
        rw [this]
        exact .int _
    · dsimp only
      rw [if_neg (by rw [decide_eq_false hc]; decide)]
      have hgl := d2.hg
      refine ⟨_, rfl, .inl ⟨rfl, _, SqL.of hgl⟩, g, _, .int c, rfl, rfl, hgl, ?_, ?_⟩
      · rw [List.map_append]
        simp
      have hdl : ((r.reverse ++ [c]).map V.int).dropLast = r.reverse.map V.int := by
        rw [List.map_append]
        simp
      rw [hdl]
      refine ⟨r.reverse, by simp, rfl, d2.setG C, ?_⟩
      rw [hw, List.reverse_reverse]
      conv => lhs; unfold drawL
      rw [if_neg hc]
end
end TW
set_option linter.all false
set_option Elab.async false
namespace TW
open PySem PySem.Spec PyProof.Rows L2
section
variable {α β : Type} {s : Sx} {E : Er → Prop}
theorem q_pure {a : α} {Q : α → Sx → Prop} : pw (Pure.pure a : M α) s Q E ↔ Q a s := Iff.rfl
theorem q_stuck {Q : α → Sx → Prop} : pw (stuck : M α) s Q E ↔ E .stuck := Iff.rfl
theorem q_optM {o : Option α} {Q : α → Sx → Prop} : pw (optM o) s Q E ↔ match o with
    | some a => Q a s
    | none => E .stuck := by
  cases o <;> exact Iff.rfl
theorem q_ite {c : Prop} [Decidable c] {a b : M α} {Q : α → Sx → Prop} : pw (if c then a else b) s Q E ↔ if c then pw a s Q E else pw b s Q E := by
  split <;> exact Iff.rfl
theorem q_getS {i : Nat} {Q : SV → Sx → Prop} : pw (getS i) s Q E ↔ Q (s.r.getD i .no) s := Iff.rfl
theorem q_setS {i : Nat} {v : SV} {Q : Unit → Sx → Prop} : pw (setS i v) s Q E ↔ Q () ⟨s.r.set i v, s.b⟩ := Iff.rfl
theorem q_slots {Q : List SV → Sx → Prop} : pw slots s Q E ↔ Q s.r s := Iff.rfl
theorem q_wipe {vs : List Nat} {Q : Unit → Sx → Prop} : pw (wipeS vs) s Q E ↔ Q () ⟨wipeR s.r vs, s.b⟩ := Iff.rfl
theorem q_back {old : List SV} {vs : List Nat} {Q : Unit → Sx → Prop} : pw (backS old vs) s Q E ↔ Q () ⟨backR old s.r vs, s.b⟩ := Iff.rfl
theorem q_eVar {i : Nat} {Q : Opd → Sx → Prop} : pw (eVar i) s Q E ↔ match s.r.getD i .no with
    | .no => E .stuck
    | _ => Q (.slot i) s := by
  unfold eVar
  rw [pw_bind, q_getS]
  cases s.r.getD i .no <;> exact Iff.rfl
theorem q_eC {d : PyData} {Q : Opd → Sx → Prop} : pw (eC d) s Q E ↔ Q (.val d) s := Iff.rfl
theorem q_peekV {d : PyData} {Q : PyData → Sx → Prop} : pw (peek (.val d)) s Q E ↔ Q d s := Iff.rfl
theorem q_peekS {i : Nat} {Q : PyData → Sx → Prop} : pw (peek (.slot i)) s Q E ↔ match s.r.getD i .no with
    | .dat d => Q d s
    | .own d => Q d s
    | _ => E .stuck := by
  unfold peek
  rw [pw_bind, q_getS]
  cases s.r.getD i .no <;> exact Iff.rfl
theorem q_takeV {d : PyData} {Q : PyData → Sx → Prop} : pw (take (.val d)) s Q E ↔ Q d s := Iff.rfl
theorem q_takeS {i : Nat} {Q : PyData → Sx → Prop} : pw (take (.slot i)) s Q E ↔ match s.r.getD i .no with
    | .dat d => Q d s
    | .own d => Q d ⟨s.r.set i (.dat d), s.b⟩
    | _ => E .stuck := by
  unfold take
  rw [pw_bind, q_getS]
  cases s.r.getD i .no <;> exact Iff.rfl
theorem q_handV {d : PyData} {Q : Arg → Sx → Prop} : pw (handO (.val d)) s Q E ↔ Q (.dat d) s := Iff.rfl
theorem q_handS {i : Nat} {Q : Arg → Sx → Prop} : pw (handO (.slot i)) s Q E ↔ match s.r.getD i .no with
    | .dat d => Q (.dat d) s
    | .own d => Q (.dat d) ⟨s.r.set i (.dat d), s.b⟩
    | .box => Q .box s
    | .no => E .stuck := by
  unfold handO
  rw [pw_bind, q_getS]
  cases s.r.getD i .no <;> exact Iff.rfl
theorem q_callF {n : Nat} {F : Sem} {as : List Arg} {Q : PyData → Sx → Prop} : pw (callF n F as) s Q E ↔ if as.length = n then (match F as s.b with
    | .ok (d, b) => Q d ⟨s.r, b⟩
    | .error _ => E .stuck) else E .stuck := by
  unfold pw callF
  by_cases h : as.length = n
  · rw [if_pos h, if_neg (by simp [h])]
    cases F as s.b with
    | ok p => exact Iff.rfl
    | error e => exact Iff.rfl
  · rw [if_neg h, if_pos h]
end
def Runs (F : Sem) (as : List Arg) (b : Option Bx) (Q : PyData → Option Bx → Prop) : Prop := ∃ d b', F as b = .ok (d, b') ∧ Q d b'
theorem runs_of {n : Nat} {body : M Fl} {as : List Arg} {b : Option Bx} {Q : PyData → Option Bx → Prop}
    (h : pw body ⟨as.map argSV ++ List.replicate (n - as.length) .no, b⟩ (fun f s => match f with
      | .rt d => Q d s.b
      | .nx => Q .none s.b
      | _ => False) fun _ => False) : Runs (runF n body) as b Q := by
  unfold pw at h
  unfold Runs runF
  cases q : body ⟨as.map argSV ++ List.replicate (n - as.length) .no, b⟩ with
  | error e => rw [q] at h; exact h.elim
  | ok p =>
    obtain ⟨f, s⟩ := p
    rw [q] at h
    cases f with
    | nx => exact ⟨_, _, rfl, h⟩
    | rt d => exact ⟨_, _, rfl, h⟩
    | bk => exact h.elim
    | ct => exact h.elim
theorem Runs.mono {F : Sem} {as : List Arg} {b : Option Bx} {Q Q' : PyData → Option Bx → Prop} (h : Runs F as b Q) (m : ∀ d b', Q d b' → Q' d b') : Runs F as b Q' :=
  let ⟨d, b', e, q⟩ := h; ⟨d, b', e, m d b' q⟩
section
variable {α β : Type} {s : Sx} {E : Er → Prop}
theorem q_callR {n : Nat} {F : Sem} {as : List Arg} {R : PyData → Option Bx → Prop} {Q : PyData → Sx → Prop} (h : Runs F as s.b R) (hl : as.length = n) (hq : ∀ d b, R d b → Q d ⟨s.r, b⟩) : pw (callF n F as) s Q E := by
  obtain ⟨d, b, e, r⟩ := h
  rw [q_callF, if_pos hl, e]
  exact hq d b r
theorem q_cmpL {vs : List Nat} {t : PyData → M Unit} {c : M Bool} {e : M Opd} {Q : List PyData → Sx → Prop} (I : List PyData → List PyData → Sx → Prop) : ∀ {ds acc : List PyData} {s : Sx}, I acc ds s →
    (∀ acc d r s, I acc (d :: r) s → pw (t d) ⟨wipeR s.r vs, s.b⟩ (fun _ s1 => pw c s1 (fun b s2 => if b = true then pw (e >>= take) s2 (fun x s3 => acc.length < lim ∧ I (acc ++ [x]) r s3) E else I acc r s2) E) E) →
    (∀ acc s, I acc [] s → Q acc s) → pw (cmpL vs t c e acc ds) s Q E
  | [], acc, s, h, _, he => he acc s h
  | d :: ds, acc, s, h, hs, he => by
    unfold cmpL
    rw [pw_bind, q_wipe, pw_bind]
    refine pw_mono (hs acc d ds s h) (fun _ s1 h1 => ?_) fun _ h => h
    rw [pw_bind]
    refine pw_mono h1 (fun b s2 h2 => ?_) fun _ h => h
    cases b with
    | false => exact q_cmpL I h2 hs he
    | true =>
      rw [if_pos rfl] at h2 ⊢
      rw [pw_bind] at h2 ⊢
      refine pw_mono h2 (fun o s3 h3 => ?_) fun _ h => h
      rw [pw_bind]
      refine pw_mono h3 (fun x s4 h4 => ?_) fun _ h => h
      rw [if_pos h4.1]
      exact q_cmpL I h4.2 hs he
theorem q_noX {m : M α} {Q : α → Sx → Prop} (h : pw m s Q fun _ => False) : pw (noX m) s Q E := by
  unfold pw at h
  unfold pw noX
  cases q : m s with
  | ok p => rw [q] at h; exact h
  | error e => rw [q] at h; exact h.elim
theorem q_cmp {vs : List Nat} {mi : M (List PyData)} {t : PyData → M Unit} {c : M Bool} {e : M Opd} {Q : PyData → Sx → Prop}
    (h : pw mi s (fun ds s1 => ∃ I : List PyData → List PyData → Sx → Prop, I [] ds s1 ∧
      (∀ acc d r s, I acc (d :: r) s → pw (t d) ⟨wipeR s.r vs, s.b⟩ (fun _ s1 => pw c s1 (fun b s2 => if b = true then pw (e >>= take) s2 (fun x s3 => acc.length < lim ∧ I (acc ++ [x]) r s3) (fun _ => False) else I acc r s2) fun _ => False) fun _ => False) ∧
      (∀ acc s, I acc [] s → Q (.list acc) ⟨backR s1.r s.r vs, s.b⟩)) E) : pw (nCmp vs mi t c e) s Q E := by
  unfold nCmp
  rw [pw_bind]
  refine pw_mono h (fun ds s1 ⟨I, h0, hs, he⟩ => ?_) fun _ h => h
  rw [pw_bind, q_slots, pw_bind]
  refine q_noX (q_cmpL I h0 hs fun acc s2 h2 => ?_)
  rw [pw_bind, q_back]
  exact he acc s2 h2
theorem q_cmp_map {vs : List Nat} {mi : M (List PyData)} {t : PyData → M Unit} {c : M Bool} {e : M Opd} {Q : PyData → Sx → Prop} (r0 : List SV) (b0 : Option Bx) (f : PyData → Option PyData)
    (h : pw mi s (fun ds s1 => s1 = ⟨r0, b0⟩ ∧ ds.length ≤ lim ∧ (∀ d ∈ ds, pw (t d) ⟨wipeR r0 vs, b0⟩ (fun _ s1 => pw c s1 (fun b s2 => if b = true then pw (e >>= take) s2 (fun x s3 => f d = some x ∧ wipeR s3.r vs = wipeR r0 vs ∧ s3.b = b0) (fun _ => False) else f d = none ∧ wipeR s2.r vs = wipeR r0 vs ∧ s2.b = b0) fun _ => False) fun _ => False) ∧
      (∀ r1, (r1 = r0 ∨ wipeR r1 vs = wipeR r0 vs) → Q (.list (ds.filterMap f)) ⟨backR r0 r1 vs, b0⟩)) E) : pw (nCmp vs mi t c e) s Q E := by
  refine q_cmp (pw_mono h (fun ds s1 ⟨e1, hl, hs, he⟩ => ?_) fun _ h => h)
  subst e1
  refine ⟨fun acc r s => (∃ p, ds = p ++ r ∧ acc = p.filterMap f) ∧ (s.r = r0 ∨ wipeR s.r vs = wipeR r0 vs) ∧ s.b = b0, ⟨⟨[], rfl, rfl⟩, .inl rfl, rfl⟩, ?_, ?_⟩
  · rintro acc d r s2 ⟨⟨p, hp, rfl⟩, hw, hb⟩
    have hw : wipeR s2.r vs = wipeR r0 vs := hw.elim (fun e => by rw [e]) id
    rw [hw, hb]
    refine pw_mono (hs d (by rw [hp]; simp)) (fun _ s3 h3 => ?_) fun _ h => h
    refine pw_mono h3 (fun x s4 h4 => ?_) fun _ h => h
    cases x with
    | false =>
      obtain ⟨h5, h6, h7⟩ := h4
      exact ⟨⟨p ++ [d], by rw [hp]; simp, by simp [List.filterMap_append, h5]⟩, .inr h6, h7⟩
    | true =>
      rw [if_pos rfl] at h4 ⊢
      refine pw_mono h4 (fun y s5 ⟨h5, h6, h7⟩ => ⟨?_, ⟨p ++ [d], by rw [hp]; simp, by simp [List.filterMap_append, h5]⟩, .inr h6, h7⟩) fun _ h => h
      have h1 := List.length_filterMap_le f p
      have h2 : p.length < ds.length := by rw [hp]; simp
      omega
  · rintro acc s2 ⟨⟨p, hp, rfl⟩, hw, hb⟩
    rw [List.append_nil] at hp
    subst hp
    rw [hb]
    exact he s2.r hw
end
theorem qQ : type_of% (And.intro @q_pure (And.intro @q_stuck (And.intro @q_optM (And.intro @q_ite (And.intro @q_getS (And.intro @q_setS (And.intro @q_slots (And.intro @q_wipe (And.intro @q_back (And.intro @q_eVar (And.intro @q_eC (And.intro @q_peekV (And.intro @q_peekS (And.intro @q_takeV (And.intro @q_takeS (And.intro @q_handV (And.intro @q_handS (And.intro @List.getD_cons_succ.{0} (And.intro @List.getD_cons_zero.{0} (And.intro @List.getD_nil.{0} (And.intro @List.set_cons_succ.{0} (And.intro @List.set_cons_zero.{0} (And.intro @List.length_cons.{0} (And.intro @List.length_nil.{0} (And.intro @if_true.{0} (And.intro @if_true.{1} (And.intro @if_false.{0} (And.intro @if_false.{1} (@Bool.false_eq_true))))))))))))))))))))))))))))) := And.intro @q_pure (And.intro @q_stuck (And.intro @q_optM (And.intro @q_ite (And.intro @q_getS (And.intro @q_setS (And.intro @q_slots (And.intro @q_wipe (And.intro @q_back (And.intro @q_eVar (And.intro @q_eC (And.intro @q_peekV (And.intro @q_peekS (And.intro @q_takeV (And.intro @q_takeS (And.intro @q_handV (And.intro @q_handS (And.intro @List.getD_cons_succ.{0} (And.intro @List.getD_cons_zero.{0} (And.intro @List.getD_nil.{0} (And.intro @List.set_cons_succ.{0} (And.intro @List.set_cons_zero.{0} (And.intro @List.length_cons.{0} (And.intro @List.length_nil.{0} (And.intro @if_true.{0} (And.intro @if_true.{1} (And.intro @if_false.{0} (And.intro @if_false.{1} (@Bool.false_eq_true))))))))))))))))))))))))))))
end TW
set_option linter.all false
set_option Elab.async false
namespace TW
open PySem PySem.Spec PyProof.Rows L2
def absI (i : Int) : Int := if i < 0 then -i else i
def boxOf (ns : List Int) : Bx :=
  let cs := ((ns.drop (HT.sIx ns.length 0 none)).take (HT.sIx ns.length ns.length (some 61) - HT.sIx ns.length 0 none)).map absI
  let sm := cs.filter fun c => decide (c < 10 ^ 18)
  ⟨cs.filter fun c => decide (10 ^ 18 ≤ c), sm ++ (if sm.isEmpty then [boxC] else []), 0⟩
theorem boxOf_good (ns : List Int) : boxG (boxOf ns) := by
  unfold boxG
  unfold boxOf
  dsimp only
  split
  · simp
  · rename_i h
    intro z
    rw [List.append_nil] at z
    rw [z] at h
    simp at h
def spBx (K : PySem.W.Frag) (ok : List Int → Bx → Prop) : Sp := fun vs H Q _ => ∃ a ns, vs = [.ref a] ∧ SqL K H a (ns.map V.int) ∧ ns.length ≤ 63 ∧ LamX.Tabs tabs0 H ∧ ∀ x r b H', ok ns b → BoxOk H' (x :: r) b → LamX.Tabs tabs0 H' → Q (.ref x) H'
abbrev spOpen (K : PySem.W.Frag) : Sp := spBx K fun ns b => b = boxOf ns
def mOpen1 (ds : List PyData) : M PyData := nCmp [4] (pure ds) (tgName 4) (pure true) (eFn absD (aCons (eVar 4) aNil))
def wOpen1 (K : PySem.W.Frag) : TI := iSq K (tSl (rSlL K) (tVar 0) tNoPart (tPart (tC (.int 61))))
def tOpen1 (K : PySem.W.Frag) : TS := tAsg (tLc (wOpen1 K) (rdG Wish.no (tgName 4) [4]) (rdT Wish.no (pure true)) (rdE Wish.no (eFn absD (aCons (eVar 4) aNil))) [4]) (gName 1)
abbrev e18 : M Opd := eBin .pow (eC (.int 10)) (eC (.int 18))
def mOpen2 : M Fl := sAsgN 2 (nCmp [4] (iSeqM (eVar 1)) (tgName 4) (tVal (eCmp .lt (eVar 4) e18)) (eVar 4))
def mOpen3 : M Fl := sAsgN 3 (nCmp [4] (iSeqM (eVar 1)) (tgName 4) (tVal (eCmp .ge (eVar 4) e18)) (eVar 4))
def mOpen4 : M Opd := eBin .add (eVar 2) (eBin .mul (eNw (nLst (aCons (eC (.int boxC)) aNil))) (eFn intD (aCons (eCmp .eq (eVar 2) (eNw (nLst aNil))) aNil)))
abbrev iD (ns : List Int) : PyData := .list (ns.map PyData.int)
theorem run1 {ns : List Int} {b : Option Bx} {Q : PyData → Sx → Prop} {E : Er → Prop} (hl : ns.length ≤ 100) (q : Q (iD (ns.map absI)) ⟨[.no, .no, .no, .no, .no], b⟩) : pw (mOpen1 (ns.map PyData.int)) ⟨[.no, .no, .no, .no, .no], b⟩ Q E := by
  refine q_cmp_map [.no, .no, .no, .no, .no] b (fun d => match d with
    | .int i => some (.int (absI i))
    | _ => none) ⟨rfl, by rw [List.length_map]; exact Nat.le_trans hl (by decide), fun d hd => ?_, fun r1 hr => ?_⟩
  · obtain ⟨i, _, rfl⟩ := List.mem_map.mp hd
    exact ⟨rfl, rfl, rfl⟩
  · have e : (ns.map PyData.int).filterMap (fun d => match d with
      | .int i => some (PyData.int (absI i))
      | _ => none) = (ns.map absI).map PyData.int := by
      rw [List.filterMap_map, List.map_map]
      exact congrFun (List.filterMap_eq_map) ns
    rw [e]
    have e2 : backR [SV.no, .no, .no, .no, .no] r1 [4] = [.no, .no, .no, .no, .no] := by
      rcases hr with rfl | hr
      · rfl
      · exact hr
    rw [e2]
    exact q
theorem filt_ints (f : Int → Bool) (ns : List Int) : (ns.map PyData.int).filterMap (fun d => match d with
      | .int i => if f i = true then some (PyData.int i) else none
      | _ => none) = (ns.filter f).map PyData.int := by
  rw [List.filterMap_map]
  induction ns with
  | nil => rfl
  | cons n ns ih =>
    simp only [List.filterMap_cons, Function.comp]
    cases q : f n <;> simp [List.filter_cons, q] <;> simpa using ih
theorem pow18 : binD .pow (.int 10) (.int 18) = some (.int (10 ^ 18)) := by
  simp only [binD]
  exact if_pos ⟨by decide, by decide, by decide⟩
theorem run23 {i : Nat} {o : Cop} {f : Int → Bool} {ns : List Int} {r : List SV} {b : Option Bx} {Q : Fl → Sx → Prop} {E : Er → Prop} (hl : ns.length ≤ 100) (hr : ∃ x2 x3 x1, r = [.no, x1, x2, x3, .no] ∧ (x1 = .own (iD ns) ∨ x1 = .dat (iD ns)))
    (hf : ∀ n : Int, cmpD o (.int n) (.int (10 ^ 18)) = some (.bool (f n)))
    (q : Q .nx ⟨(r.set 1 (.dat (iD ns))).set i (.own (iD (ns.filter f))), b⟩) :
    pw (sAsgN i (nCmp [4] (iSeqM (eVar 1)) (tgName 4) (tVal (eCmp o (eVar 4) e18)) (eVar 4))) ⟨r, b⟩ Q E := by
  obtain ⟨x2, x3, x1, rfl, hx⟩ := hr
  unfold sAsgN
  rw [pw_bind]
  refine q_cmp_map [.no, .dat (iD ns), x2, x3, .no] b (fun d => match d with
    | .int i => if f i = true then some (.int i) else none
    | _ => none) ?_
  have key : ∀ d ∈ ns.map PyData.int, ∀ s : Sx, s = ⟨[.no, .dat (iD ns), x2, x3, .no], b⟩ → pw (tgName 4 d) ⟨wipeR s.r [4], b⟩ (fun _ s1 => pw (tVal (eCmp o (eVar 4) e18)) s1 (fun b_1 s2 => if b_1 = true then pw (eVar 4 >>= take) s2 (fun x s3 => (match d with
    | .int i => if f i = true then some (.int i) else none
    | _ => none) = some x ∧ wipeR s3.r [4] = wipeR s.r [4] ∧ s3.b = b) (fun _ => False) else (match d with
    | .int i => if f i = true then some (PyData.int i) else none
    | _ => none) = none ∧ wipeR s2.r [4] = wipeR s.r [4] ∧ s2.b = b) fun _ => False) fun _ => False := by
    rintro d hd s rfl
    obtain ⟨n, _, rfl⟩ := List.mem_map.mp hd
    have h := hf n
    have hp : binD .pow (.int 10) (.int 18) = some (.int (10 ^ 18)) := pow18
    simp only [eCmp, eBin, eOp, eUn, eFn, eIx, eSlc, eChn, TW.tVal, TW.tNot, TW.tAnd, TW.tOr, TW.eIf, TW.eAnd, TW.eOr, TW.eNot, eIs, aNil, aCons, aStar, itemsO, eTup, nLst, eNw, pNone, pSome, TW.sSkip, TW.sSeq, TW.sAsg, TW.sAsgN, TW.sRet, TW.sRetN, TW.sIf, tgName, tgAll, tgTup, TW.sTg, TW.sPar, TW.sFor, iSeqM, iRg1, iRg2, iEnM, ownL, sApp, tgSet, ePop, ePopA, eCall, peeks, takes, hands, boolD, pw_bind, qQ, wipeR, reduceIte, hp, h]
    cases e : f n with
    | false => simp
    | true => simp
  have fin : ∀ r1, (r1 = [SV.no, .dat (iD ns), x2, x3, .no] ∨ wipeR r1 [4] = wipeR [SV.no, .dat (iD ns), x2, x3, .no] [4]) → backR [SV.no, .dat (iD ns), x2, x3, .no] r1 [4] = [.no, .dat (iD ns), x2, x3, .no] := by
    intro r1 hr
    rcases hr with rfl | hr
    · rfl
    · exact hr
  have e := filt_ints f ns
  unfold iSeqM
  have hlen : (ns.map PyData.int).length ≤ lim := by rw [List.length_map]; exact Nat.le_trans hl (by decide)
  rcases hx with rfl | rfl
  · refine ⟨rfl, hlen, fun d hd => key d hd _ rfl, fun r1 h1 => ?_⟩
    rw [fin r1 h1, e]
    exact q
  · refine ⟨rfl, hlen, fun d hd => key d hd _ rfl, fun r1 h1 => ?_⟩
    rw [fin r1 h1, e]
    exact q
theorem run4 {ns : List Int} {r : List SV} {b : Option Bx} {Q : Opd → Sx → Prop} {E : Er → Prop} (hl : ns.length ≤ 100) (h2 : r.getD 2 .no = .own (iD ns))
    (q : Q (.val (iD (ns ++ (if ns.isEmpty then [boxC] else [])))) ⟨r, b⟩) : pw mOpen4 ⟨r, b⟩ Q E := by
  unfold mOpen4
  have c1 : cmpD .eq (iD ns) (.list []) = some (.bool ns.isEmpty) := by
    rw [cmpD_eq, eqv_nil, List.isEmpty_map]
    exact if_pos (by rw [Bool.and_eq_true]; exact ⟨shp_ints ns, shp_ints []⟩)
  have l1 : ([] : List PyData).length ≤ lim := Nat.zero_le _
  have l2 : ([PyData.int boxC] : List PyData).length ≤ lim := by decide
  simp only [eCmp, eBin, eOp, eUn, eFn, eIx, eSlc, eChn, TW.tVal, TW.tNot, TW.tAnd, TW.tOr, TW.eIf, TW.eAnd, TW.eOr, TW.eNot, eIs, aNil, aCons, aStar, itemsO, eTup, nLst, eNw, pNone, pSome, TW.sSkip, TW.sSeq, TW.sAsg, TW.sAsgN, TW.sRet, TW.sRetN, TW.sIf, tgName, tgAll, tgTup, TW.sTg, TW.sPar, TW.sFor, iSeqM, iRg1, iRg2, iEnM, ownL, sApp, tgSet, ePop, ePopA, eCall, peeks, takes, hands, boolD, pw_bind, qQ, wipeR, reduceIte, h2, if_pos l1, c1]
  have hlim : 0 ≤ lim ∧ 0 + 1 ≤ lim := by decide
  cases ns with
  | nil =>
    have m1 : binD .mul (.list [.int boxC]) (.int 1) = some (.list [.int boxC]) := rfl
    have a1 : binD .add (iD []) (.list [.int boxC]) = some (iD [boxC]) := rfl
    simp only [eCmp, eBin, eOp, eUn, eFn, eIx, eSlc, eChn, TW.tVal, TW.tNot, TW.tAnd, TW.tOr, TW.eIf, TW.eAnd, TW.eOr, TW.eNot, eIs, aNil, aCons, aStar, itemsO, eTup, nLst, eNw, pNone, pSome, TW.sSkip, TW.sSeq, TW.sAsg, TW.sAsgN, TW.sRet, TW.sRetN, TW.sIf, tgName, tgAll, tgTup, TW.sTg, TW.sPar, TW.sFor, iSeqM, iRg1, iRg2, iEnM, ownL, sApp, tgSet, ePop, ePopA, eCall, peeks, takes, hands, boolD, pw_bind, qQ, wipeR, reduceIte, if_pos hlim.1, if_pos hlim.2, List.isEmpty_nil, intD, m1, a1]
    exact q
  | cons n ns =>
    have m1 : binD .mul (.list [.int boxC]) (.int 0) = some (.list []) := rfl
    have a1 : binD .add (iD (n :: ns)) (.list []) = some (iD (n :: ns)) := by
      simp only [binD, List.append_nil]
      exact if_pos (by rw [List.length_map, List.length_nil]; exact Nat.le_trans hl (by decide))
    simp only [eCmp, eBin, eOp, eUn, eFn, eIx, eSlc, eChn, TW.tVal, TW.tNot, TW.tAnd, TW.tOr, TW.eIf, TW.eAnd, TW.eOr, TW.eNot, eIs, aNil, aCons, aStar, itemsO, eTup, nLst, eNw, pNone, pSome, TW.sSkip, TW.sSeq, TW.sAsg, TW.sAsgN, TW.sRet, TW.sRetN, TW.sIf, tgName, tgAll, tgTup, TW.sTg, TW.sPar, TW.sFor, iSeqM, iRg1, iRg2, iEnM, ownL, sApp, tgSet, ePop, ePopA, eCall, peeks, takes, hands, boolD, pw_bind, qQ, wipeR, reduceIte, if_pos hlim.1, if_pos hlim.2, List.isEmpty_cons, intD, m1, a1]
    simpa using q
def cutN (ns : List Int) : List Int := (ns.drop (HT.sIx ns.length 0 none)).take (HT.sIx ns.length ns.length (some 61) - HT.sIx ns.length 0 none)
theorem cutN_len (ns : List Int) : (cutN ns).length ≤ ns.length := by
  unfold cutN
  rw [List.length_take, List.length_drop]
  omega
theorem cutD_ints (ns : List Int) : cutD (ns.map PyData.int) none (some 61) = (cutN ns).map PyData.int := by
  unfold cutD cutN
  rw [List.length_map, List.map_take, List.map_drop]
section
variable {X : Cx}
theorem cli_open {P : Addr → Prop} {G : Gh} {σ : L2.St} {H : Hp} {s : Sx} {K : PySem.W.Frag} {a : Addr} {ns : List Int} {R : It → Hp → Prop} (Re : Rel P G σ H s) (h0 : σ[0]? = some (some (.ref a))) (hs : SqL K H a (ns.map V.int))
    (h : ∀ G' H' J, Ext P G H G' H' → Rel P G' σ H' s → ItOk P J G' H' ((cutN ns).map PyData.int) → R J H') : wOpen1 K σ H R := by
  refine ⟨_, h0, 61, rfl, a, _, rfl, hs, fun p hp => ?_⟩
  have r : FzA G.F H (cutV (ns.map V.int) none (some 61)) ((cutN ns).map PyData.int) := by
    rw [← cutD_ints]
    exact cut_fz FzA.of_ints none (some 61)
  obtain ⟨x, R', r'⟩ := Re.newLst hp r
  obtain ⟨b, xs, e, f, hb, rr⟩ := r'.list_inv
  cases e
  refine ⟨p, rfl, .inl ⟨xs, SqL.of hb, h _ _ _ x R' (it_lst f hb rr)⟩⟩
theorem cl_open1 {K : PySem.W.Frag} {a : Addr} {ns : List Int} {P : Addr → Prop} {G : Gh} {σ : L2.St} {H : Hp} {s : Sx} {Q : VK} (h0 : σ[0]? = some (some (.ref a))) (hs : SqL K H a (ns.map V.int)) (R : Rel P G σ H s)
    (hw : pw (mOpen1 ((cutN ns).map PyData.int)) s (PostN P σ Q G H) fun _ => False) : tLc (wOpen1 K) (rdG Wish.no (tgName 4) [4]) (rdT Wish.no (pure true)) (rdE Wish.no (eFn absD (aCons (eVar 4) aNil))) [4] σ H Q := by
  have c : ClI Wish.no (fun σ H R => (σ[0]? = some (some (.ref a)) ∧ SqL K H a (ns.map V.int)) → wOpen1 K σ H R) (pure ((cutN ns).map PyData.int)) := by
    intro P G σ H s R Re hw c
    exact cli_open Re c.1 c.2 hw
  exact cl_cmp c P G σ H s Q R hw ⟨h0, hs⟩
theorem open_ok {st1 st2 st3 st4 : Stmt} {eSm : Expr} (p1 : PS X st1 (tOpen1 X.K)) (p2 : SdS X Wish.no st2 mOpen2) (p3 : SdS X Wish.no st3 mOpen3) (psm : Sd X Wish.no eSm mOpen4)
    (p4 : ∀ te, PE X eSm te → PS X st4 (tRet (tDisp [(tC (.str "great"), tVar 3), (tC (.str "small"), te), (tC (.str "turn"), tC (.int 0))]))) :
    ∃ t, PSs X [st1, st2, st3, st4] t ∧ ∀ vs H Q E, spOpen X.K vs H Q E → t { nx := fun _ H' => Q .non H', rt := Q } (start ["_law_script", "_law_cells", "_law_small", "_law_great", "_law_cell"] vs) H := by
  obtain ⟨t2, q2, c2⟩ := p2.ex
  obtain ⟨t3, q3, c3⟩ := p3.ex
  obtain ⟨te, pe, ce⟩ := psm.ex
  refine ⟨_, pss_cons p1 (pss_cons q2 (pss_cons q3 (pss_one (p4 te pe)))), ?_⟩
  rintro vs H Q E ⟨a, ns, rfl, hs, hl, htb, q⟩
  have hl2 : ((cutN ns).map absI).length ≤ 100 := by rw [List.length_map]; exact Nat.le_trans (cutN_len ns) (by omega)
  have hl3 : ∀ f : Int → Bool, (((cutN ns).map absI).filter f).length ≤ 100 := fun f => Nat.le_trans (List.length_filter_le _ _) hl2
  have R0 : Rel (fun b => H b ≠ none ∧ ¬ isTab b) ⟨fun _ => False, []⟩ (start ["_law_script", "_law_cells", "_law_small", "_law_great", "_law_cell"] [V.ref a]) H ⟨[.no, .no, .no, .no, .no], none⟩ := by
    have no : ∀ (i : Nat) (x : SV), ([SV.no, .no, .no, .no, .no])[i]? = some x → x = .no := fun i x h => by
      have := List.mem_of_getElem? h
      simpa using this
    exact { len := rfl, dat := fun i d e => (by have := no i _ e; cases this), own := fun i d e => (by have := no i _ e; cases this), sep := fun i j d e _ h _ => (by have := no i _ h; cases this), box := fun i e => (by have := no i _ e; cases this), bx := fun b e => (by cases e), nb := fun _ => rfl, fr := fun _ h => False.elim h, pr := fun _ h => h.1, bF := fun _ h => (by cases h), tb := ⟨htb, fun a h => ⟨id, fun z => z.2 h⟩⟩ }
  have z : ∀ {wi g tt te vs D σ H u}, tLc wi g tt te vs σ H (fun x H1 => gName 1 x σ H1 (u D)) → tSeq (tAsg (tLc wi g tt te vs) (gName 1)) u D σ H := fun h => h
  refine z ?_
  refine cl_open1 (P := fun b => H b ≠ none ∧ ¬ isTab b) rfl hs R0 (run1 (Nat.le_trans (cutN_len ns) (by omega)) fun G1 g1 H1 x1 R1 ow1 f1 => ?_)
  have R2 := R1.setOwn 1 ow1 f1
  refine c2 _ _ _ _ _ _ R2 (run23 (f := fun c => decide (c < 10 ^ 18)) hl2 ⟨_, _, _, rfl, .inl rfl⟩ (fun n => rfl) fun G3 σ3 H3 x3 R3 => ?_)
  refine c3 _ _ _ _ _ _ R3 (run23 (f := fun c => decide (10 ^ 18 ≤ c)) hl2 ⟨_, _, _, rfl, .inr rfl⟩ (fun n => rfl) fun G4 σ4 H4 x4 R4 p hp => ?_)
  obtain ⟨x5, R5, hF, hP, hb, ho⟩ := R4.lay (u := .dK []) hp
  have R6 := R5.also (D := p) (by rw [upd_same]; simp) ⟨hF, hP, hb, ho⟩
  obtain ⟨g, hg, og, gF, gP, gb⟩ := R6.own 3 (iD (((cutN ns).map absI).filter fun c => decide (10 ^ 18 ≤ c))) rfl
  refine ⟨.ref g, hg, ?_⟩
  refine ce _ _ _ _ _ _ R6 (run4 (hl3 _) rfl fun G7 v H7 x7 R7 r7 => ?_)
  obtain ⟨m, ms, rfl, fm, hm, rm⟩ := Fz.list_inv r7
  rw [rm.ints] at hm
  obtain ⟨g2, hg2, ⟨gs, hgs, rgs⟩, gF2, gP2, gb2⟩ := R7.own 3 (iD (((cutN ns).map absI).filter fun c => decide (10 ^ 18 ≤ c))) rfl
  rw [hg] at hg2
  cases hg2
  rw [rgs.ints] at hgs
  have hp7 : H7 p = some (.dK []) := (x7.kP p (.inr rfl) hF).trans upd_same
  have pg : p ≠ g := fun e => gP (.inr e.symm)
  have pm : p ≠ m := fun e => by
    exact x7.nF (a := p) (by rw [e]; exact fm) hF (.inr rfl) upd_same fun _ h => nomatch h
  have gm : g ≠ m := fun e => gF2 (by rw [e]; exact fm)
  refine ⟨hp7, [(.inr "great", .ref g), (.inr "small", .ref m), (.inr "turn", .int 0)], rfl, (by decide : 3 ≤ 15), ?_⟩
  refine q p [g, m] _ _ rfl ⟨.inl ⟨boxOf_good ns, p, g, m, rfl, pg, pm, gm, upd_same, ?_, ?_⟩⟩ ?_
  · rw [upd_ne pg.symm]; exact hgs
  · rw [upd_ne pm.symm]; exact hm
  · exact (R7.tb.upd (by rw [hp7]; exact calm_dK)).t
end
end TW
set_option linter.all false
set_option Elab.async false
namespace TW
open PySem PySem.Spec PyProof.Rows L2
section
variable {X : Cx} {k : Nat}
def tCallN (sp : Sp) (ta : TA) : TE := fun σ H Q => ta σ H fun vs H1 => sp vs H1 Q E0
theorem pe_callN {sp : Sp} {j : Nat} {f : Addr} {fd : FuncData} {ps : List Str} {x : Str} {p pos : Pos} {e : Expr} {es : List Expr} {ta : TA} (C : Cok X k) (Fo : Fn X.prog X.w X.K X.mg X.base j f fd ps sp) (hj : j ≤ k) (hg : Gl X x) (hm : X.mg x = some (.ref f))
    (hk : PySem.W.keepIn X.K (.ref f) = true) (hb : Binds X.K fd ps []) (ha : PA X (e :: es) ta) (hdb : (x == ("__debug__" : Str)) = false := by decide)
    (he : starEach (e :: es) X.env = (false, eval e X.env) :: starEach es X.env := by rfl) (hpl : (backTo pos (starEach es X.env)).any (·.1) = false := by rfl) : PE X (.Call (.Name x p) (e :: es) [] pos) (tCallN sp ta) := by
  refine ⟨fun pins s σ H Q I h => wpAny_Call_Name_kw (ld_glob I hg hm ?_ hdb)⟩
  exact PySem.W.callWith_K (h₀ := X.base) I.ok.mod.kin hk (thn (ha.run pos pins s σ H _ I h) fun us s1 ⟨vs, H1, I1, r, q⟩ => ⟨I1.kIn, run_fn' (k := k) Fo C hj hb I1 r q⟩) he hpl
def spLaw (K : PySem.W.Frag) : Sp := fun vs H Q _ => ∃ (a : Addr) (ns : List Int), vs = [.ref a] ∧ SqL K H a (ns.map V.int) ∧ ns.length ≤ 63 ∧ LamX.Tabs tabs0 H ∧ ∀ H', Q (.bl true) H'
abbrev lawS (n : Nat) (ns : List Int) : Sx := ⟨.no :: .box :: List.replicate (n - 2) .no, some (boxOf ns)⟩
theorem fn_lawC {ok : List Int → Bx → Prop} {P : Program} {w : World} {K : PySem.W.Frag} {mg : Str → Option Value} {base : Heap} {f : Addr} {fd : FuncData} {x qual : Str} {params : Arguments} {st0 : Stmt} {rest : List Stmt} {scope : Scope} {dvs : List V} {kws : List (Str × V)} {N : List Str} {m : M Fl} (n : Nat)
    (F : FunD K x qual params (st0 :: rest) scope dvs kws f fd) (S : FnScope N ["_law_script"] scope) (hsm : SmP base) (hn : N.length = n) (h2 : 2 ≤ n)
    (h0 : ∀ (cdv : Value), fd.code = cdv → ∀ (A : Around) (outer : List Env) (s : Shared) (H : Hp) (E : XK), Cok (cxN P w K mg base N qual scope f cdv A outer s H E) k → PS (cxN P w K mg base N qual scope f cdv A outer s H E) st0 (tAsg (tCallN (spBx K ok) (tCons (tVar 0) tNil)) (gName 1)))
    (hb : ∀ (cdv : Value), fd.code = cdv → ∀ (A : Around) (outer : List Env) (s : Shared) (H : Hp) (E : XK), Cok (cxN P w K mg base N qual scope f cdv A outer s H E) k → SdB (cxN P w K mg base N qual scope f cdv A outer s H E) Wish.no rest m)
    (hp : ∀ (ns : List Int) (bx : Bx), ns.length ≤ 63 → ok ns bx → pw m ⟨.no :: .box :: List.replicate (n - 2) .no, some bx⟩ (fun f _ => f = .rt (.bool true)) fun _ => False) : Fn P w K mg base (k + 1) f fd ["_law_script"] (spLaw K) := by
  refine fn_mkC F S (fun vs H Q E h => ?_) fun cdv hcd A outer s H vs Q E hr hgd h => ?_
  · obtain ⟨a, ns, rfl, _⟩ := h
    rfl
  · obtain ⟨a, ns, rfl, hs, hl, htb, hq⟩ := h
    have C : Cok (cxN P w K mg base N qual scope f cdv A outer s H E) k := ⟨rfl, S.nd, hr, hgd, hsm⟩
    obtain ⟨t, pt, ct⟩ := (hb cdv hcd A outer s H E C).ex
    refine ⟨_, pss_cons (h0 cdv hcd A outer s H E C) pt, ?_⟩
    have z : ∀ {te D σ H u}, te σ H (fun x H1 => gName 1 x σ H1 (u D)) → tSeq (tAsg te (gName 1)) u D σ H := fun h => h
    refine z ?_
    have hst : start N [V.ref a] = some (V.ref a) :: List.replicate (n - 1) none := by
      unfold L2.start
      rw [← hn]
      simp
    refine ⟨V.ref a, by rw [hst]; rfl, a, ns, rfl, hs, hl, htb, fun x g bx H' ho bk ht' => ?_⟩
    have hσ : (start N [V.ref a]).set 1 (some (V.ref x)) = some (V.ref a) :: some (V.ref x) :: List.replicate (n - 2) none := by
      rw [hst]
      obtain ⟨j, rfl⟩ : ∃ j, n = j + 2 := ⟨n - 2, by omega⟩
      simp [List.replicate_succ]
    show t _ ((start N [V.ref a]).set 1 (some (V.ref x))) H'
    rw [hσ]
    have hlast : ∀ (i : Nat) (y : SV), (SV.no :: SV.box :: List.replicate (n - 2) SV.no)[i]? = some y → y = .no ∨ (y = .box ∧ i = 1) := fun i y h => by
      match i, h with
      | 0, h => simp at h; exact .inl h.symm
      | 1, h => simp at h; exact .inr ⟨h.symm, rfl⟩
      | i + 2, h =>
        simp [List.getElem?_replicate] at h
        exact .inl h.2.symm
    have R : Rel (fun _ => False) ⟨fun _ => False, x :: g⟩ (some (V.ref a) :: some (V.ref x) :: List.replicate (n - 2) none) H' ⟨.no :: .box :: List.replicate (n - 2) .no, some bx⟩ :=
      { len := by simp
        dat := fun i d e => by rcases hlast i _ e with h | ⟨h, _⟩ <;> cases h
        own := fun i d e => by rcases hlast i _ e with h | ⟨h, _⟩ <;> cases h
        sep := fun i j d e _ h _ => by rcases hlast i _ h with h | ⟨h, _⟩ <;> cases h
        box := fun i e => by
          rcases hlast i _ e with h | ⟨_, rfl⟩
          · cases h
          · exact ⟨x, rfl, rfl⟩
        bx := fun b e => by
          cases e
          exact bk
        nb := fun e => by cases e
        fr := fun _ h => h.elim
        pr := fun _ h => h.elim
        bF := fun b h => ⟨id, id, bk.ne b h⟩
        tb := ⟨ht', fun _ _ => ⟨id, id⟩⟩ }
    refine ct _ _ _ _ _ _ R (pw_mono (hp ns bx hl ho) (fun fl s' e => ?_) fun _ h => h)
    subst e
    intro G' σ' v H2 x' R' fz
    rw [fz.bool_inv]
    exact hq H2
end
theorem law_run {P : Program} {w : World} {K : PySem.W.Frag} {mg mb : Str → Option Value} {k : Nat} {fa a : Addr} {cs : List (Addr × Addr)} {fd : FuncData} {s₁ : Shared} {vs : List Value} {ns : List Int} {osm : Obj} {es : Array DictEntry} {ep : Nat}
    (KX : K.In s₁.heap) (hns : s₁.heap.Ns mainGlobals mg) (hb : s₁.heap.Ns builtinsNs mb) (hbb : ∀ x : Str, x ≠ "__name__" → mb x = bootBuiltins x) (hlim : s₁.heap.NoLimit) (hdig : s₁.heap.NoDigits) (hg : s₁.gens = #[])
    (hsm : s₁.heap.get? sysModules = some osm) (hsd : osm.data = .dict es ep)
    (tE : ∀ p ∈ cs, s₁.heap.get? p.2 = some { cls := .none, data := .fields #[] }) (tN : ∀ p ∈ cs, K.lookup p.2 = none) (tC : ∀ p ∈ cs, PySem.W.CodeHd s₁.heap p.1 p.2)
    (hbm : ∃ (bm : Addr) (ob : Obj), mg "__builtins__" = some (.ref bm) ∧ bm ≠ builtinsNs ∧ s₁.heap.get? bm = some ob ∧ ob.cls = .type "module" ∧ ob.dict = some builtinsNs ∧ ob.data = .plain)
    (t0 : ∀ p ∈ tabs0, p.1 ∈ cs.map (·.2))
    (ha : s₁.heap.get? a = some { cls := .type "list", data := .seq vs.toArray }) (hi : IntsAre vs ns) (hl : ns.length ≤ 63) (hr : Room k callerA)
    (F : ∀ base : Heap, K.In base → base.Ns mainGlobals mg → (SmP base) → (∀ p ∈ cs, LamX.TabB base mg p.1 p.2) → Fn P w K mg base k fa fd ["_law_script"] (spLaw K)) (hbind : ∀ (s : Shared) (u : Value), BindsTo s fd ⟨[u], []⟩ [(("_law_script" : Str), u)]) :
    codeAny (model P w) callerA (.call (.ref fa) ⟨[.ref a], []⟩) (fun r s' => r = .ok (.ret (.bool true)) ∧ OldK s₁.heap s'.heap ∧ s'.os = s₁.os ∧ AllBare s'.gens) s₁ := by
  have rv := vals_ints hi
  have lv := hi.length
  have hsz : ns.length ≤ sizeLine := Nat.le_trans hl (by rw [sizeLine_eq]; decide)
  have tE2 : ∀ b, b ∈ cs.map (·.2) → s₁.heap.get? b = some { cls := .none, data := .fields #[] } := fun b q => by
    obtain ⟨p, q1, q2⟩ := List.mem_map.mp q
    exact q2 ▸ tE p q1
  have tN2 : ∀ b, b ∈ cs.map (·.2) → K.lookup b = none := fun b q => by
    obtain ⟨p, q1, q2⟩ := List.mem_map.mp q
    exact q2 ▸ tN p q1
  have an : a ∉ cs.map (·.2) := fun q => by
    have e := (tE2 a q).symm.trans ha
    have e := congrArg Obj.data (Option.some.inj e)
    cases e
  -- what is tracked: the tables; the script, if it is not the module's own
  obtain ⟨H, hA, hT, hK, hok, hS, hFz⟩ : ∃ H : Hp, (∀ b, b ≠ a → b ∉ cs.map (·.2) → H b = none) ∧ (∀ b, b ∈ cs.map (·.2) → H b = some (.tbl #[])) ∧ (H a ≠ none → K.lookup a = none) ∧ L2.HOk P w H s₁.heap ∧ SqL K H a (ns.map V.int) ∧ (∀ u, H a = some u → ∃ o xs, u = .frz o (.lst xs)) := by
    have okT : ∀ b, b ∈ cs.map (·.2) → ∀ H : Hp, ObjOk P w H s₁.heap b (.tbl #[]) := fun b q H => tE2 b q
    by_cases q : K.lookup a = none
    · refine ⟨fun b => if b = a then some (.frz { cls := .type "list", data := .seq vs.toArray } (.lst (ns.map V.int))) else if b ∈ cs.map (·.2) then some (.tbl #[]) else none, fun b h1 h2 => (if_neg h1).trans (if_neg h2), fun b h => (if_neg (show ¬ b = a from fun z => an (z ▸ h))).trans (if_pos h), fun _ => q, fun b v h => ?_, .inl (.inr ⟨_, if_pos rfl⟩), fun u h => ?_⟩
      · by_cases hb : b = a
        · have h := (if_pos hb).symm.trans h
          cases h
          subst hb
          exact ⟨ha, by rw [List.length_map]; exact hsz, vs, _, rv, ha⟩
        · have h := (if_neg hb).symm.trans h
          by_cases h2 : b ∈ cs.map (·.2)
          · have h := (if_pos h2).symm.trans h
            cases h
            exact okT b h2 _
          · have h := (if_neg h2).symm.trans h
            cases h
      · have h := (if_pos rfl).symm.trans h
        cases h
        exact ⟨_, _, rfl⟩
    · obtain ⟨o, q⟩ := Option.ne_none_iff_exists'.mp q
      have e := KX a o q
      rw [ha] at e
      cases e
      have e0 : (if a ∈ cs.map (·.2) then some (HO.tbl #[]) else none) = none := if_neg an
      refine ⟨fun b => if b ∈ cs.map (·.2) then some (.tbl #[]) else none, fun b _ h2 => if_neg h2, fun b h => if_pos h, fun h => absurd e0 h, fun b v h => ?_, .inr ⟨_, vs.toArray, _, q, rfl, rfl, rfl, by rw [List.size_toArray, lv]; exact hsz, by simpa using rv⟩, fun u h => ?_⟩
      · by_cases h2 : b ∈ cs.map (·.2)
        · have h := (if_pos h2).symm.trans h
          cases h
          exact okT b h2 _
        · have h := (if_neg h2).symm.trans h
          cases h
      · have h := e0.symm.trans h
        cases h
  have up : ∀ {b : Addr} {o : Obj}, s₁.heap.get? b = some o → b ≠ a → b ∉ cs.map (·.2) → (L2.hidT s₁.heap H).get? b = some o := fun e n n2 => L2.hidT_get e (hA _ n n2)
  -- what is neither a list nor bare fields is as it was
  have nm : ∀ {b : Addr} {o : Obj}, s₁.heap.get? b = some o → (∀ vs n, o.data ≠ .seq vs n) → o.data ≠ .fields #[] → b ≠ a ∧ b ∉ cs.map (·.2) := fun {b o} e d1 d2 => ⟨fun z => by
    rw [z, ha] at e
    cases e
    exact d1 _ _ rfl, fun z => by
    rw [tE2 b z] at e
    cases e
    exact d2 rfl⟩
  have ns_up : ∀ {b : Addr} {m : Str → Option Value}, s₁.heap.Ns b m → (L2.hidT s₁.heap H).Ns b m := fun ⟨o, es, ep, e, d, r⟩ => by
    obtain ⟨n1, n2⟩ := nm e (fun vs n z => by rw [d] at z; cases z) fun z => by rw [d] at z; cases z
    exact ⟨o, es, ep, up e n1 n2, d, r⟩
  have kin : K.In (L2.hidT s₁.heap H) := fun b o e => by
    refine L2.hidT_get (KX b o e) ?_
    by_cases hb : b = a
    · subst hb
      cases q : H b with
      | none => rfl
      | some u => rw [hK (by rw [q]; simp)] at e; cases e
    · exact hA b hb fun z => by rw [tN2 b z] at e; cases e
  have e0 : Env0 P w K mg (L2.hidT s₁.heap H) callerA [] s₁ H :=
    ⟨rfl, ⟨kin, ns_up hns, ⟨mb, ns_up hb, hbb⟩, let ⟨mc, h1, h2⟩ := hlim; ⟨mc, ns_up h1, h2⟩⟩, fun _ _ e => L2.of_hidT e, Nat.le_of_eq (L2.hidT_size _ _), trivial, fun b hb => (by cases hb), hok, .of_eq hg⟩
  have smp : SmP (L2.hidT s₁.heap H) := by
    obtain ⟨n1, n2⟩ := nm hsm (fun vs n z => by rw [hsd] at z; cases z) fun z => by rw [hsd] at z; cases z
    exact ⟨⟨osm, up hsm n1 n2⟩, let ⟨mc, h1, h2⟩ := hdig; ⟨mc, ns_up h1, h2⟩⟩
  have tabs : LamX.Tabs tabs0 H := fun p hp => .nil (hT p.1 (t0 p hp))
  have tB : ∀ p ∈ cs, LamX.TabB (L2.hidT s₁.heap H) mg p.1 p.2 := fun p hp => by
    refine ⟨?_, ?_, fun z => ?_⟩
    · obtain ⟨o, us, file, tf, flags, tg, inF, text, tt, q1, q2, q3, q4⟩ := tC p hp
      obtain ⟨n1, n2⟩ := nm q1 (fun vs n z => by rw [q3] at z; cases z) fun z => by
        rw [q3] at z
        cases z
        simp at q4
      exact ⟨o, us, file, tf, flags, tg, inF, text, tt, up q1 n1 n2, q2, q3, q4⟩
    · obtain ⟨bm, ob, b1, b2, b3, b4, b5, b6⟩ := hbm
      obtain ⟨n1, n2⟩ := nm b3 (fun vs n z => by rw [b6] at z; cases z) fun z => by rw [b6] at z; cases z
      refine ⟨bm, ob, b1, b2, fun q => ?_, fun q => n2 (q ▸ List.mem_map.mpr ⟨p, hp, rfl⟩), up b3 n1 n2, b4, b5, b6⟩
      obtain ⟨o, es, ep, e, hd, _⟩ := hns
      rw [q, e] at b3
      cases b3
      rw [hd] at b6
      cases b6
    · obtain ⟨o, es, ep, e, hd, _⟩ := hns
      rw [z, tE p hp] at e
      cases e
      cases hd
  refine codeAny_mono ((F _ kin (ns_up hns) smp tB).run callerA [] s₁ H ⟨[.ref a], []⟩ [.ref a] [.ref a] (fun v _ => v = .bl true) (fun _ _ _ => False) hr rfl e0 (hbind s₁ (.ref a)) (.cons rfl .nil) ⟨a, ns, rfl, hS, hl, tabs, fun _ => rfl⟩) fun r s' h => ?_
  cases r with
  | error e => exact h.elim
  | ok fl =>
    cases fl with
    | next => exact False.elim h
    | brk => exact False.elim h
    | cont => exact False.elim h
    | ret u =>
      obtain ⟨v, H', os, bare, un, hok', r', q⟩ := h
      have q : v = .bl true := q
      subst q
      obtain rfl : u = Value.bool true := r'
      have old : ∀ b o, b ∉ cs.map (·.2) → s₁.heap.get? b = some o → s'.heap.get? b = some o := fun b o nb e => by
        cases q : H b with
        | none => exact un.keep b o e q (fun z => by cases z) (by simp)
        | some u =>
          have hba : b = a := Classical.byContradiction fun z => by rw [hA b z nb] at q; cases q
          obtain ⟨ob, xs, rfl⟩ := hFz u (hba ▸ q)
          have z2 := un.frzs b ob _ q
          obtain ⟨e1, _⟩ := hok b _ q
          obtain ⟨e2, _⟩ := hok' b _ z2
          rw [e] at e1
          cases e1
          exact e2
      refine ⟨rfl, ⟨fun b o e => ?_, fun b o e => ?_⟩, os, bare⟩
      · by_cases hb : b ∈ cs.map (·.2)
        · obtain ⟨p, hp, rfl⟩ := List.mem_map.mp hb
          obtain ⟨more, z⟩ := un.tbls p.2 #[] (hT _ hb)
          rw [tE p hp] at e
          cases e
          exact .inr (.inl ⟨((tC p hp).tab (tE p hp)).isCodeTable, rfl, #[], more, rfl, by rw [Array.empty_append]; exact (show s'.heap.get? p.2 = some { cls := .none, data := .fields (#[] ++ more) } from hok' p.2 _ z).trans (by rw [Array.empty_append])⟩)
        · exact .inl (old b o hb e)
      · by_cases hb : b ∈ cs.map (·.2)
        · obtain ⟨p, hp, rfl⟩ := List.mem_map.mp hb
          obtain ⟨more, z⟩ := un.tbls p.2 #[] (hT _ hb)
          exact ⟨_, hok' p.2 _ z⟩
        · exact ⟨o, old b o hb e⟩
def smB : Option Obj → Bool
  | some ⟨_, _, .dict _ _, _⟩ => true
  | _ => false
end TW
set_option linter.all false
set_option Elab.async false
namespace TW
open PySem PySem.Spec PyProof.Rows L2
section
variable {prog : Program} {w : World} {A : Around} {E : Value → Shared → Prop} {s : Shared}
theorem places_back (n : Nat) : Builtin.Slice.slicePlaces ((n : Int) - 1) (-1) (-1) = n := by
  unfold Builtin.Slice.slicePlaces
  have h1 : ¬ ((-1 : Int) > 0) := by omega
  simp only [h1, if_false]
  by_cases h : ((n : Int) - 1) > -1
  · rw [if_pos h]
    have : ((n : Int) - 1 - -1 - 1) / (- -1) + 1 = n := by
      have e : (- -1 : Int) = 1 := by decide
      rw [e, Int.ediv_one]
      omega
    rw [this]
    exact Int.toNat_natCast n
  · rw [if_neg h]
    have : n = 0 := by omega
    subst this
    rfl
theorem applied_back {sl : Addr} {t : Tok} {n : Nat} {Q : Int × Int × Nat → Shared → Prop} (hs : s.heap.IsSliceOf sl .none .none (.int (-1) t)) (h : Q ((n : Int) - 1, -1, n) s) : wpAny (model prog w) A (Builtin.Slice.sliceApplied (.ref sl) (pure (n : Int))) Q E s := by
  obtain ⟨os, hos, hcs, hds⟩ := id hs
  unfold Builtin.Slice.sliceApplied Builtin.Slice.sliceFields
  refine wpAny_bind (wpAny_bind (wpAny_field hos hds (x := .none) rfl (wpAny_bind (wpAny_field hos hds (x := .none) rfl (wpAny_bind (wpAny_field hos hds (x := .int (-1) t) rfl (wpAny_pure ?_)))))))
  refine wpAny_bind (slicePart_int ?_)
  show wpAny _ _ (if ((-1 : Int) == 0) = true then _ else _) _ _ s
  rw [if_neg (by decide)]
  refine wpAny_bind (slicePart_none (wpAny_bind (slicePart_none (wpAny_bind (wpAny_pure ?_)))))
  show wpAny _ _ (pure ((n : Int) - 1, (-1 : Int), Builtin.Slice.slicePlaces ((n : Int) - 1) (-1) (-1))) _ _ s
  rw [places_back]
  exact wpAny_pure h
theorem pick_back (xs : Array Value) : ((List.range xs.size).filterMap fun (k : Nat) => xs[(((xs.size : Nat) : Int) - 1 + (k : Int) * -1).toNat]?).toArray = xs.toList.reverse.toArray := by
  congr 1
  apply List.ext_getElem?
  intro i
  have key : ∀ n ≤ xs.size, (List.range n).filterMap (fun (k : Nat) => xs[(((xs.size : Nat) : Int) - 1 + (k : Int) * -1).toNat]?) = xs.toList.reverse.take n := by
    intro n hn
    induction n with
    | zero => simp
    | succ n ih =>
      rw [List.range_succ, List.filterMap_append, ih (by omega)]
      have e : (((xs.size : Nat) : Int) - 1 + (n : Int) * -1).toNat = xs.size - 1 - n := by omega
      have hlt : xs.size - 1 - n < xs.size := by omega
      have h1 : xs.toList.reverse[n]? = some xs[xs.size - 1 - n] := by
        rw [List.getElem?_reverse (by simpa using (by omega : n < xs.size))]
        simp only [Array.length_toList]
        rw [Array.getElem?_toList, Array.getElem?_eq_getElem hlt]
      rw [List.take_add_one, h1]
      simp only [List.filterMap_cons, List.filterMap_nil, e, Array.getElem?_eq_getElem hlt, Option.toList_some]
  rw [key _ (Nat.le_refl _), List.take_of_length_le (by simp)]
theorem tuple_back {t sl : Addr} {items : Array Value} {u : Tok} {Q : Value → Shared → Prop} (ht : IsTup s.heap t items) (hs : s.heap.IsSliceOf sl .none .none (.int (-1) u))
    (h : Q (.ref s.heap.objs.size) { s with heap := s.heap.push { cls := .type "tuple", data := .seq items.toList.reverse.toArray } }) (hsz : items.size ≤ sizeLine) : wpAny (model prog w) A (getItem (.ref t) (.ref sl)) Q E s := by
  have htake : sizeOk (.seq items.toList.reverse.toArray) := by
    show items.toList.reverse.toArray.size ≤ sizeLine
    simpa using hsz
  obtain ⟨os, hos, hcs, hds⟩ := id hs
  have hTs : s.TypeIs (.ref sl) "slice" := ⟨os, hos, hcs⟩
  unfold getItem
  try with_reducible refine wpAny_holding ?_
  first | refine wpAny_bind (wpAny_pure ?_) | skip
  refine wpAny_bind (wpAny_sequenceKey ht.typeIs (by decide) ?_)
  refine wpAny_bind (wpAny_callSpecial?_slot (name := Str.ofString "__getitem__") ht.typeIs PyProof.Rows.slot_tuple_getitem
    (wpAny_call_entry PyProof.Rows.slot_tuple_getitem ht.typeIs entry_tuple_getitem ?_ (args_tuple_getitem _ _)))
  show wpAny _ _ (Builtin.Tuple.tupleItemsOf (.ref t) >>= _) _ _ s
  refine wpAny_bind (tupleItemsOf_ ht ?_)
  refine wpAny_bind (wpAny_typeOf hTs ?_)
  rw [if_pos (by decide)]
  refine wpAny_bind (applied_back hs ?_)
  show wpAny _ _ (if ((((items.size : Nat) : Int) - 1 == 0 && (-1 : Int) == 1 && items.size == items.size)) = true then _ else _) _ _ s
  rw [if_neg (by simp), pick_back]
  first
    | exact wpAny_bind (m := Builtin.Tuple.tupleExact _) (wpAny_newObj_type (wpAny_pure ⟨_, rfl, wpAny_pure h⟩) htake)
    | exact wpAny_bind (m := Builtin.Tuple.tupleExact _) (wpAny_newObj_type (wpAny_bind (wpAny_pure (wpAny_pure ⟨_, rfl, wpAny_pure h⟩))) htake)
    | exact wpAny_bind (wpAny_bind (m := Builtin.Tuple.tupleExact _) (wpAny_newObj_type (wpAny_pure (wpAny_pure ⟨_, rfl, wpAny_pure h⟩)) htake))
    | exact wpAny_bind (wpAny_bind (m := Builtin.Tuple.tupleExact _) (wpAny_newObj_type (wpAny_pure ⟨_, rfl, wpAny_pure h⟩) htake))
end
section
variable {P : Addr → Prop} {G G' : Gh} {σ : L2.St} {H H' : Hp} {s s' : Sx} {v : V} {o : Opd} {W : Wish} {X : Cx} {k : Nat}
def tBack (K : PySem.W.Frag) (te : TE) : TE := fun σ H Q => te σ H fun x H1 => ∃ a xs, x = .ref a ∧ SqT K H1 a xs ∧ ∀ p, H1 p = none → Q (.ref p) (upd H1 p (.tup xs.reverse))
theorem pe_back {e : Expr} {te : TE} {j : Nat} {p1 p2 p3 pos : Pos} (he : PE X e te) : PE X (.Subscript e (.Slice none none (some (.UnaryOp .USub (.Constant (.int 1) j p1) p3)) p2) pos) (tBack X.K te) := by
  refine ⟨fun pins s σ H Q I h => ?_⟩
  refine Subscript_ (thn (he.run pins s σ H _ I h) fun v s1 ⟨x, H1, I1, r1, a, xs, ex, hx, q⟩ => ?_)
  subst ex
  cases r1
  refine wpAny_Slice ?_
  rw [evalPart_none, evalPart_some]
  refine wpAny_pure (wpAny_pure ?_)
  have pn : PE X (.UnaryOp .USub (.Constant (.int 1) j p1) p3) (tUn (rU fun i => .int (-i)) (tC (.int 1))) := pe_un un_neg pe_int
  refine thn (pn.run pins s1 σ H1 (fun y H2 => y = .int (-1) ∧ H2 = H1) I1 ⟨1, rfl, rfl, rfl⟩) fun st s3 ⟨y, H2, I3, ry, e1, e2⟩ => ?_
  subst e1 e2
  obtain ⟨tk, rfl⟩ := ry
  have I4 : L2.Inv X pins σ H2 { s3 with heap := s3.heap.push { cls := .type "slice", data := .fields #[.none, .none, .int (-1) tk] } } := I3.kept (t' := s3.toks) fun b ob q => Heap.get?_push_of_some _ q
  obtain ⟨its, r, ht, hz⟩ := I4.tuple hx
  show wpAny (model X.prog X.w) X.A (subscriptTail e (.Slice none none (some (.UnaryOp .USub (.Constant (.int 1) j p1) p3)) p2) (.ref a) (.ref s3.heap.objs.size)) (EP X pins σ Q) X.xe { s3 with heap := s3.heap.push { cls := .type "slice", data := .fields #[.none, .none, .int (-1) tk] } }
  refine tail_any (ops := [.ref a, .ref s3.heap.objs.size]) ht.typeIs PyProof.Rows.slot_tuple_getitem.lookup (tuple_back ht (Heap.IsSliceOf.new ..) ?_ (by rw [List.size_toArray, ← r.length]; exact hz)) (by with_unfolding_all rfl)
  have hf : H2 (s3.heap.push { cls := .type "slice", data := .fields #[.none, .none, .int (-1) tk] }).objs.size = none := I4.hok.fresh (Nat.le_refl _)
  refine ⟨.ref (s3.heap.push { cls := .type "slice", data := .fields #[.none, .none, .int (-1) tk] }).objs.size, _, I4.laid (t' := s3.toks) (o := .tup xs.reverse) (fun b u e => Heap.get?_push_of_some _ e) (Nat.le_refl _) ?_, rfl, q _ hf⟩
  have hzr : xs.reverse.length ≤ sizeLine := by rw [List.length_reverse]; exact hz
  exact ⟨hzr, _, r.reverse, ⟨_, Heap.get?_push_size _ rfl, rfl, _, rfl⟩⟩
def backD : PyData → Option PyData
  | .tuple ds => some (.tuple ds.reverse)
  | _ => none
theorem sd_back {e : Expr} {j : Nat} {p1 p2 p3 pos : Pos} {m : M Opd} (h : Sd X W e m) : Sd X W (.Subscript e (.Slice none none (some (.UnaryOp .USub (.Constant (.int 1) j p1) p3)) p2) pos) (eUn backD m) := by
  obtain ⟨te, pe, ce⟩ := h.ex
  refine ⟨_, pe_back pe, ?_⟩
  intro P G σ H s Q R hw
  unfold eUn at hw
  refine ce.bind PostV.mono R hw fun o1 s1 G1 v1 H1 x1 R1 r1 hw1 => ?_
  obtain ⟨d, c1, hw3⟩ := peek_ok R1 r1 (W.stuck _ _ _) hw1
  rw [pw_bind, pw_optM (W.stuck _ _ _)] at hw3
  obtain ⟨z, ez, hw5⟩ := hw3
  cases d <;> simp only [backD, reduceCtorEq] at ez
  cases ez
  obtain ⟨a, xs, e1, f1, h1, r⟩ := c1.tup
  refine ⟨a, xs, e1, SqT.of h1, fun p hp => ?_⟩
  obtain ⟨x, R', r'⟩ := R1.newTup hp r.reverse
  exact hw5 _ _ _ x R' r'
def eq0D : PyData → PyData → Option PyData
  | .list xs, .list [] => some (.bool xs.isEmpty)
  | .tuple xs, .tuple [] => some (.bool xs.isEmpty)
  | _, _ => none
def ne0D : PyData → PyData → Option PyData
  | .list xs, .list [] => some (.bool (!xs.isEmpty))
  | .tuple xs, .tuple [] => some (.bool (!xs.isEmpty))
  | _, _ => none
def rEq0 (K : PySem.W.Frag) (f : Bool → Bool) : R2 := fun x y H Q => ∃ a b xs, x = .ref a ∧ y = .ref b ∧ ((SqL K H a xs ∧ SqL K H b []) ∨ (SqT K H a xs ∧ SqT K H b [])) ∧ Q (.bl (f xs.isEmpty)) H
theorem list0 {its : List Value} {xs : List V} (r : Vals xs its) : its.isEmpty = xs.isEmpty := by
  cases r <;> rfl
theorem op_ne0 (hu : X.A.units + 64 < cLine) : OpR X (compareOp .NotEq) (rEq0 X.K not) := by
  intro pins s σ H x y v u Q I rx ry h
  obtain ⟨a, b, xs, rfl, rfl, hh, q⟩ := h
  cases rx
  cases ry
  rcases hh with ⟨ha, hb⟩ | ⟨ha, hb⟩
  · obtain ⟨its, r, p, _⟩ := I.list ha
    obtain ⟨its2, r2, p2, _⟩ := I.list hb
    cases r2
    cases its with
    | nil =>
      cases r
      refine SeqAt.RcNeAt.lists (e := fun _ => true) p.isList p2.isList rfl (by omega) (fun j j1 _ => absurd j1 (Nat.not_lt_zero _)) X.prog X.w _ _ ⟨.bl false, H, I, rfl, q⟩
    | cons i is =>
      cases r
      exact SeqAt.RcNeAt.lists_lengths p.isList p2.isList (by simp) (by omega) X.prog X.w _ _ ⟨.bl true, H, I, rfl, q⟩
  · obtain ⟨its, r, p, _⟩ := I.tuple ha
    obtain ⟨its2, r2, p2, _⟩ := I.tuple hb
    cases r2
    have := SeqAt.RcNeAt.tuples (A := X.A) (s := s) (e := fun _ => true) p p2 (by omega) (fun j _ j2 => absurd j2 (Nat.not_lt_zero _)) X.prog X.w X.xe (EP X pins σ Q)
    refine this ⟨.bl (!xs.isEmpty), H, I, ?_, q⟩
    rw [← list0 r]
    cases its <;> rfl
theorem ok_eq0 {f : Bool → Bool} {g : PyData → PyData → Option PyData} (h1 : ∀ xs, g (.list xs) (.list []) = some (.bool (f xs.isEmpty))) (h2 : ∀ xs, g (.tuple xs) (.tuple []) = some (.bool (f xs.isEmpty))) (h3 : ∀ d e z, g d e = some z → (∃ xs, d = .list xs ∧ e = .list []) ∨ ∃ xs, d = .tuple xs ∧ e = .tuple []) : OpOk (rEq0 X.K f) g := by
  intro P G σ H s x y d e z Q R cx cy ez h
  rcases h3 d e z ez with ⟨xs, rfl, rfl⟩ | ⟨xs, rfl, rfl⟩
  · rw [h1] at ez
    cases ez
    obtain ⟨a, vs, rfl, e1, r1⟩ := cx
    obtain ⟨b, ws, rfl, e2, r2⟩ := cy
    cases r2
    refine ⟨a, b, vs, rfl, rfl, .inl ⟨SqL.of e1, SqL.of e2⟩, ?_⟩
    rw [show vs.isEmpty = xs.isEmpty by cases r1 <;> rfl]
    exact h G _ H .refl R (.bl _)
  · rw [h2] at ez
    cases ez
    obtain ⟨a, vs, rfl, f1, e1, r1⟩ := cx.tup
    obtain ⟨b, ws, rfl, f2, e2, r2⟩ := cy.tup
    cases r2
    refine ⟨a, b, vs, rfl, rfl, .inr ⟨SqT.of e1, SqT.of e2⟩, ?_⟩
    rw [show vs.isEmpty = xs.isEmpty by cases r1 <;> rfl]
    exact h G _ H .refl R (.bl _)
theorem ne0_inv {d e z : PyData} (h : ne0D d e = some z) : (∃ xs, d = .list xs ∧ e = .list []) ∨ ∃ xs, d = .tuple xs ∧ e = .tuple [] := by
  unfold ne0D at h
  split at h
  · exact .inl ⟨_, rfl, rfl⟩
  · exact .inr ⟨_, rfl, rfl⟩
  · cases h
end
end TW
set_option linter.all false
set_option Elab.async false
namespace TW
open PySem PySem.Spec PyProof.Rows L2 HT
theorem tuple_mulS (l : Addr) (items : Array Value) (n : Nat) (sl : Array (Option Value)) (dd : Option Addr) (x : Int) (u : Tok) (c0 : (decide (x < -(2 ^ 63)) || decide (x ≥ 2 ^ 63)) = false) (c1 : (items.isEmpty || x == 1) = true) :
    Meets (Builtin.«tuple.__mul__» ⟨[.ref l, .int x u], []⟩) (fun _ R s => s.heap.get? l = some { cls := .type "tuple", dict := dd, data := .seq items n, slots := sl } ∧ R (.ok (.ret (Value.ref l))) s) :=
  .of_wp fun prog w A R s h => by
    obtain ⟨hp, g, d, tk, os⟩ := s
    obtain ⟨hl, h⟩ := h
    have f1 := AutoSeq1.idx_int
    wp_walk using wpAny_loadPart' hl
    repeat (first
      | (refine wpAny_ite_false (decide_eq_false (by rw [c0]; exact Bool.false_ne_true)) ?_; wp_walk using wpAny_loadPart' hl)
      | (refine wpAny_ite_true (decide_eq_true (by rw [c1])) ?_; wp_walk using wpAny_loadPart' hl))
    exact ⟨_, rfl, h⟩
def rRepS (K : PySem.W.Frag) : R2 := fun x y H Q => ∃ l k xs, x = .ref l ∧ y = .int k ∧ SqT K H l xs ∧ (xs = [] ∨ k = 1) ∧ (-(2 ^ 63) ≤ k ∧ k < 2 ^ 63) ∧ Q (.ref l) H
section
variable {P : Addr → Prop} {G G' : Gh} {σ : L2.St} {H H' : Hp} {s s' : Sx} {v : V} {o : Opd} {W : Wish} {X : Cx} {k : Nat}
theorem op_repS : OpR X (binaryOp .Mult) (rRepS X.K) := by
  intro pins s σ H x y v u Q I rx ry h
  obtain ⟨l, k, xs, rfl, rfl, hT, hc1, hb, q⟩ := h
  cases rx
  obtain ⟨t, rfl⟩ := ry
  obtain ⟨its, r, ⟨⟨cls, dd, data, sl⟩, ho, hc, n, hd⟩, hs⟩ := I.tuple hT
  simp only at hc hd
  subst hc hd
  have c0 : (decide (k < -(2 ^ 63)) || decide (k ≥ 2 ^ 63)) = false := by
    rw [decide_eq_false (by omega), decide_eq_false (by omega)] <;> rfl
  have c1 : (its.toArray.isEmpty || k == 1) = true := by
    rcases hc1 with rfl | rfl
    · cases r; rfl
    · simp
  exact wpAny_binaryOp_repeat_ref (T := "tuple") (U := "int") (by decide) ⟨_, ho, rfl⟩ (fun s' => typeIs_int s' k t) noFill_tuple_mul F.fills_int_mul F.slot_int_rmul repeat_tuple F.slot_int_index.lookup
    (call_meets F.slot_int_rmul (typeIs_int s k t) F.entry_int_rmul (F.args_int_rmul_2 _ _) (int_rmul_tuple k t l its.toArray n dd sl)
      ⟨ho, rfl, ⟨_, ho, rfl⟩, call_meets F.slot_tuple_mul ⟨_, ho, rfl⟩ F.entry_tuple_mul (F.args_tuple_mul_2 _ _) (tuple_mulS l its.toArray n sl dd k t c0 c1) ⟨ho, ⟨.ref l, H, I, rfl, q⟩⟩⟩)
def repD : PyData → PyData → Option PyData
  | .tuple xs, .int k => if xs = [] ∨ k = 1 then (if -(2 ^ 63) ≤ k ∧ k < 2 ^ 63 then some (.tuple xs) else none) else if 2 ≤ k ∧ k ≤ 1000 ∧ xs.length ≤ 1000 then some (.tuple (List.replicate k.toNat xs).flatten) else none
  | _, _ => none
theorem sd_opB {op : Operator} {f : PyData → PyData → Option PyData} {r : R2} {a b : Expr} {pos : Pos} {ma mb : M Opd} (hr : OpR X (binaryOp op) r) (ok : OpOk r f) (ha : Sd X W a ma) (hb : Sd X W b mb) : Sd X W (.BinOp a op b pos) (eOp f ma mb) := by
  obtain ⟨ta, pa, ca⟩ := ha.ex
  obtain ⟨tb, pb, cb⟩ := hb.ex
  exact ⟨_, pe_op hr pa pb, cl_op ok ca cb⟩
theorem sd_rep {a b : Expr} {pos : Pos} {ma mb : M Opd} (ha : Sd X W a ma) (hb : Sd X W b mb) : Sd X W (.BinOp a .Mult b pos) (eOp repD ma mb) := by
  refine sd_opB (op_repS.or op_repT) ?_ ha hb
  intro P G σ H s x y d e z Q R cx cy ez h
  unfold repD at ez
  split at ez
  · rename_i xs k
    obtain ⟨a1, vs, e1, f1, h1, r1⟩ := cx.tup
    split at ez
    · rename_i hc
      split at ez
      · rename_i hb
        cases ez
        refine .inl ⟨a1, k, vs, e1, cy.int_, SqT.of h1, ?_, hb, h G _ H .refl R ((by exact .tup f1 h1 r1))⟩
        rcases hc with rfl | rfl
        · cases r1; exact .inl rfl
        · exact .inr rfl
      · cases ez
    · rename_i hc
      split at ez
      · rename_i hb
        cases ez
        refine .inr ⟨a1, _, vs, e1, cy.int_, SqT.of h1, fun q => hc (.inl ?_), hb.1, hb.2.1, by rw [r1.length]; exact hb.2.2, fun p hp => ?_⟩
        · subst q
          cases r1
          rfl
        · obtain ⟨x, R', r⟩ := R.newTup hp (r1.rep _)
          exact h _ _ _ x R' r
      · cases ez
  · cases ez
def memD (neg : Bool) : PyData → PyData → Option PyData
  | x, .list xs => if flatD x && xs.all flatD then some (.bool (member x xs != neg)) else none
  | x, .tuple xs => if flatD x && xs.all flatD then some (.bool (member x xs != neg)) else none
  | _, _ => none
def nDict0 : M PyData := pure (.dict [])
theorem sn_dict0 {pos : Pos} : SdN X W (.Dict [] [] pos) nDict0 := by
  refine ⟨_, pe_dnewK, ?_⟩
  intro P G σ H s Q R hw p hp
  obtain ⟨x, R1, h1, h2, h3, h4⟩ := R.lay (u := .dK []) hp
  exact hw G p _ x R1 (.inl ⟨[], upd_same, .nil⟩) ⟨h1, h2, h3, h4⟩
def nDict1 (k : Str) (m : M Opd) : M PyData := noX (do let o ← m; let d ← take o; pure (.dict [(.str k, d)]))
end
end TW
set_option linter.all false
set_option Elab.async false
namespace TW
open PySem PySem.Spec PyProof.Rows L2
theorem tb_len : bootBuiltins "len" = some (.builtin "len") := by decide +kernel
theorem tb_abs : bootBuiltins "abs" = some (.builtin "abs") := by decide +kernel
theorem tb_max : bootBuiltins "max" = some (.builtin "max") := by decide +kernel
theorem tb_all : bootBuiltins "all" = some (.builtin "all") := by decide +kernel
theorem tb_sorted : bootBuiltins "sorted" = some (.builtin "sorted") := by decide +kernel
theorem tb_repr : bootBuiltins "repr" = some (.builtin "repr") := by decide +kernel
theorem tb_isinstance : bootBuiltins "isinstance" = some (.builtin "isinstance") := by decide +kernel
theorem tb_int : bootBuiltins "int" = some (.type "int") := by decide +kernel
theorem tb_bool : bootBuiltins "bool" = some (.type "bool") := by decide +kernel
theorem tb_tuple : bootBuiltins "tuple" = some (.type "tuple") := by decide +kernel
theorem tb_list : bootBuiltins "list" = some (.type "list") := by decide +kernel
section
variable {P : Addr → Prop} {G G' : Gh} {σ : L2.St} {H H' : Hp} {s s' : Sx} {v : V} {o : Opd} {W : Wish} {X : Cx} {k : Nat} {tg : Expr}
section
variable {elt iter : Expr} {ifs : List Expr} {scope : Scope} {own : List (Str × Nat)} {pos : Pos} {mi : M (List PyData)} {t : PyData → M Unit} {c : M Bool} {e : M Opd}
theorem ss_cmpD {i : Nat} {y : Str} {py spos : Pos} (own : List (Str × Nat)) (C : Cok X k) (hy : X.N[i]? = some y) (hyl : X.env.scope.names.lookup y = some .local)
    (hsw : swapsWith (.ListComp elt [⟨tg, iter, ifs, 0⟩] scope pos) (some (.Name y py)) spos.line X.env = pure true) (hi : SdI X W tg iter mi) (ok : BlkOk X.N X.env.scope scope own)
    (hg : ∀ (s : Shared) (H : Hp) (D : Addr) (cl : List (Str × Addr)) (fp : List Addr), SdGw (X.blk s H scope (compEnvC scope cl D X.env) fp) Wish.no (own.map (·.2)) tg t)
    (ht : ∀ (s : Shared) (H : Hp) (D : Addr) (cl : List (Str × Addr)) (fp : List Addr), SdTs (X.blk s H scope (compEnvC scope cl D X.env) fp) Wish.no ifs c)
    (he : ∀ (s : Shared) (H : Hp) (D : Addr) (cl : List (Str × Addr)) (fp : List Addr), Sd (X.blk s H scope (compEnvC scope cl D X.env) fp) Wish.no elt e)
    (hs : ∀ x, foldedSetIterable iter X.env x = pure x := by intro _; rfl) : SdS X W (.Assign [.Name y py] (.ListComp elt [⟨tg, iter, ifs, 0⟩] scope pos) spos) (TW.sAsg i (eNw (nCmp (own.map (·.2)) mi t c e))) := by
  obtain ⟨wi, pi, ci⟩ := hi.ex
  refine ⟨_, ps_setLc C.calm C.nd hy hyl hsw pi ok (fun s H D cl fp => (hg s H D cl fp).pg) (fun s H D cl fp => (ht s H D cl fp).pts) (fun s H D cl fp => (he s H D cl fp).pe) hs, ?_⟩
  intro P G σ H s D R hw
  unfold TW.sAsg at hw
  refine (cl_nw (cl_cmp ci)).bind PostS.mono R hw fun o1 s1 G1 v1 H1 x1 R1 r1 hw1 => ?_
  obtain ⟨G2, s2, d, x2, R2, z, hw2⟩ := take_ok PostS.mono R1 r1 hw1
  exact hw2 _ _ _ .refl (R2.setDat i z)
end
theorem sw_cmp {elt : Expr} {gs : List Comprehension} {scope : Scope} {pos py : Pos} {y : Str} {l : Nat} {env : Env} (hk : env.scope.kind = .function) (hy : env.scope.names.lookup y = some .local) (hl : (py.line == pos.line) = true)
    (ha : (scope.names.any fun (n, k) => n == y && (k == .local || k == .cell)) = false) : swapsWith (.ListComp elt gs scope pos) (some (.Name y py)) l env = pure true := sw_true hk hy hl ha
end
structure FnX (P : Program) (w : World) (K : PySem.W.Frag) (mg : Str → Option Value) (base : Heap) (k : Nat) (x : Str) (ps : List Str) (F : Sem) : Prop where
  ex : ∃ fd, Fn P w K mg base k (He.fAd K (x, none)) fd ps (spF ps.length F) ∧ Binds K fd ps []
def wFuel : Nat := 1000000
section
variable {P : Program} {w : World} {K : PySem.W.Frag} {mg : Str → Option Value} {base : Heap} {X : Cx} {k : Nat} {W : Wish}
theorem FnX.mono {j k : Nat} {x : Str} {ps : List Str} {F : Sem} (f : FnX P w K mg base j x ps F) (h : j ≤ k) : FnX P w K mg base k x ps F := let ⟨fd, a, b⟩ := f.ex; ⟨fd, a.mono h, b⟩
theorem sd_callX {F : Sem} {j : Nat} {ps : List Str} {x : Str} {p pos : Pos} {e : Expr} {es : List Expr} {ma : M (List Opd)} (C : Cok X k) (Fo : FnX X.prog X.w X.K X.mg X.base j x ps F) (hj : j ≤ k) (hg : Gl X x) (hm : X.mg x = some (.ref (He.fAd X.K (x, none))))
    (hk : PySem.W.keepIn X.K (.ref (He.fAd X.K (x, none))) = true) (ha : SdA X W (e :: es) ma) (hn : (e :: es).length = ps.length := by rfl) (hdb : (x == ("__debug__" : Str)) = false := by decide)
    (he : starEach (e :: es) X.env = (false, eval e X.env) :: starEach es X.env := by rfl) (hpl : (backTo pos (starEach es X.env)).any (·.1) = false := by rfl) : Sd X W (.Call (.Name x p) (e :: es) [] pos) (eCall ps.length F ma) :=
  let ⟨_, a, b⟩ := Fo.ex
  sd_call C a hj hg hm hk b ha hn hdb he hpl
theorem fn_stuck {k : Nat} {f : Addr} {fd : FuncData} {ps : List Str} : Fn P w K mg base k f fd ps (spF ps.length fun _ _ => .error .stuck) :=
  ⟨fun vs H Q E h => let ⟨_, _, _, _, _, _, h4⟩ := h; h4.elim, fun A outer s H args us vs Q E _ _ _ _ _ h => let ⟨_, _, _, _, _, _, h4⟩ := h; False.elim h4⟩
end
theorem room66 {k : Nat} {A : Around} (r : Room k A) : A.units + 66 < cLine := by have := r.un; omega
theorem room1 {k : Nat} {A : Around} (r : Room k A) : A.units + 1 < cLine := by have := r.un; omega
end TW
set_option linter.all false
set_option Elab.async false
namespace TW
open PySem PySem.Spec PyProof.Rows L2
section
variable {W : Wish} {X : Cx} {k : Nat} {a b c : Expr} {pos : Pos} {ma mb mc : M Opd}
theorem st_opR {op : CmpOp} {f : PyData → PyData → Option PyData} {r : R2} (hr : OpR X (compareOp op) r) (ok : OpOk r f) (ha : Sd X W a ma) (hb : Sd X W b mb) (hm : behindInMarks op b = false) : SdT X W (.Compare a [op] [b] pos) (TW.tVal (eOp f ma mb)) := by
  obtain ⟨ta, pa, ca⟩ := ha.ex
  obtain ⟨tb, pb, cb⟩ := hb.ex
  exact ⟨_, pt_cmpR hr pa pb hm, cl_val (cl_op ok ca cb)⟩
theorem ok_neD : OpOk (rNeD X.K) (cmpD .ne) := by
  intro P G σ H s x y d e z Q R cx cy ez h
  rw [cmpD_ne] at ez
  split at ez <;> cases ez
  rename_i hc
  rw [Bool.and_eq_true] at hc
  exact ⟨d, e, cx.dp hc.1, cy.dp hc.2, hc.1, hc.2, h G _ H .refl R (.bl _)⟩
theorem st_ne (C : Cok X k) (ha : Sd X W a ma) (hb : Sd X W b mb) : SdT X W (.Compare a [.NotEq] [b] pos) (TW.tVal (eCmp .ne ma mb)) := st_opR (op_neD C.room.units) ok_neD ha hb (nomark _)
theorem st_lt (ha : Sd X W a ma) (hb : Sd X W b mb) : SdT X W (.Compare a [.Lt] [b] pos) (TW.tVal (eCmp .lt ma mb)) := st_opR op_lt ok_lt ha hb (nomark _)
theorem st_gt (ha : Sd X W a ma) (hb : Sd X W b mb) : SdT X W (.Compare a [.Gt] [b] pos) (TW.tVal (eCmp .gt ma mb)) := st_opR op_gt ok_gt ha hb (nomark _)
theorem st_ge (ha : Sd X W a ma) (hb : Sd X W b mb) : SdT X W (.Compare a [.GtE] [b] pos) (TW.tVal (eCmp .ge ma mb)) := st_opR op_ge ok_ge ha hb (nomark _)
theorem st_ne0 (C : Cok X k) (ha : Sd X W a ma) (hb : Sd X W b mb) : SdT X W (.Compare a [.NotEq] [b] pos) (TW.tVal (eOp ne0D ma mb)) := st_opR (op_ne0 C.room.units) (ok_eq0 (fun _ => rfl) (fun _ => rfl) fun _ _ _ => ne0_inv) ha hb (nomark _)
end
end TW
set_option linter.all false
set_option Elab.async false
namespace TW
open PySem PySem.Spec PyProof.Rows L2
section
variable {P : Addr → Prop} {G G' : Gh} {σ : L2.St} {H H' : Hp} {s s' : Sx} {v : V} {o : Opd} {W : Wish} {X : Cx} {k : Nat}
def nOp (f : PyData → PyData → Option (List PyData)) (a b : M Opd) : M PyData := do let o ← a; let p ← b; let x ← peek o; let y ← peek p; let z ← optM (f x y); pure (.list z)
def catD : PyData → PyData → Option (List PyData)
  | .list xs, .list ys => if xs.length + ys.length ≤ lim then some (xs ++ ys) else none
  | _, _ => none
def repL : PyData → PyData → Option (List PyData)
  | .list xs, .int k => if -1000 ≤ k ∧ k ≤ 1000 ∧ xs.length ≤ 1000 then some (List.replicate k.toNat xs).flatten else none
  | _, _ => none
def nList (a : M (List Opd)) : M PyData := do let os ← a; let xs ← peeks os; match xs with
  | [.list ds] => pure (.list ds)
  | [.tuple ds] => pure (.list ds)
  | _ => stuck
theorem sn_list {x : Str} {p pos : Pos} {e : Expr} {es : List Expr} {ma : M (List Opd)} (hg : Gl X x) (hm : X.mg x = none) (hv : bootBuiltins x = some (.type "list")) (ha : SdA X W (e :: es) ma) (hn : x ≠ "__name__" := by decide) (hdb : (x == ("__debug__" : Str)) = false := by decide)
    (he : starEach (e :: es) X.env = (false, eval e X.env) :: starEach es X.env := by rfl) (hpl : (backTo pos (starEach es X.env)).any (·.1) = false := by rfl) : SdN X W (.Call (.Name x p) (e :: es) [] pos) (nList ma) := by
  obtain ⟨ta, pa, ca⟩ := ha.ex
  refine ⟨_, pe_callTy call_list_of hg hm hv pa hn hdb he hpl, ?_⟩
  intro P G σ H s Q R hw
  unfold nList at hw
  refine ca.bind PostN.mono R hw fun os s1 G1 vs H1 x1 R1 r1 hw1 => ?_
  obtain ⟨ds, c1, hw2⟩ := peeks_ok R1 r1 (W.stuck _ _ _) hw1
  have fin : ∀ {ys : List V} {zs : List PyData}, FzA G1.F H1 ys zs → pw (pure (.list zs) : M PyData) s1 (PostN P σ Q G1 H1) (W.w P G1 H1) → ∀ l, H1 l = none → Q (.ref l) (upd H1 l (.lst ys)) := fun rr hw l hl => by
    obtain ⟨x3, R3, ow, f⟩ := R1.layOwn hl rr
    exact hw _ _ _ x3 R3 ow f
  split at hw2
  · obtain ⟨v, rfl, a, xs, rfl, e, r⟩ := one_of c1
    exact ⟨a, xs, rfl, .inl (SqL.of e), fin r hw2⟩
  · obtain ⟨v, rfl, c⟩ := one_of c1
    obtain ⟨a, xs, rfl, f, e, r⟩ := c.tup
    exact ⟨a, xs, rfl, .inr (SqT.of e), fin r hw2⟩
  · exact absurd hw2 (W.stuck _ _ _)
end
end TW
set_option linter.all false
set_option Elab.async false
namespace TW
open PySem PySem.Spec PyProof.Rows L2
section
variable {X : Cx} {pins : List (Addr × Obj)} {σ : L2.St} {H H' : Hp} {s : Shared} {a : Addr}
end
def kK : PyData → Option Key
  | .int i => some (.inl i)
  | .str x => some (.inr x)
  | _ => none
def kKs : List PyData → Option (List Key)
  | [] => some []
  | d :: r => match kK d, kKs r with
    | some k, some ks => some (k :: ks)
    | _, _ => none
def kT : PyData → Option (List Key)
  | .tuple ds => kKs ds
  | _ => none
def storeD (k v : PyData) (ds : List (PyData × PyData)) : List (PyData × PyData) :=
  if (ds.any fun p => PyData.eqv p.1 k) = true then ds.map (fun p => if PyData.eqv p.1 k = true then (p.1, v) else p) else ds ++ [(k, v)]
section
variable {F : Addr → Prop} {H : Hp}
theorem FzK.app : ∀ {ks js : List (Key × V)} {ds es : List (PyData × PyData)}, FzK F H ks ds → FzK F H js es → FzK F H (ks ++ js) (ds ++ es)
  | _, _, _, _, .nil, h => h
  | _, _, _, _, .cons a b, h => .cons a (FzK.app b h)
theorem FzT.app : ∀ {ks js : List (List Key × V)} {ds es : List (PyData × PyData)}, FzT F H ks ds → FzT F H js es → FzT F H (ks ++ js) (ds ++ es)
  | _, _, _, _, .nil, h => h
  | _, _, _, _, .cons a b, h => .cons a (FzT.app b h)
end
end TW
set_option linter.all false
set_option Elab.async false
namespace TW
open PySem PySem.Spec PyProof.Rows L2
def isTupD : PyData → Bool
  | .tuple _ => true
  | _ => false
def fits (k : PyData) (ds : List (PyData × PyData)) : Bool :=
  if isTupD k = true then (kT k).isSome && ds.all (fun p => isTupD p.1) else (kK k).isSome && ds.all (fun p => !isTupD p.1)
section
variable {P : Addr → Prop} {G : Gh} {σ : L2.St} {H : Hp} {s : Sx} {v : V} {a : Addr}
end
def ownD (i : Nat) : M (List (PyData × PyData)) := do match ← getS i with
  | .own (.dict ds) => pure ds
  | _ => stuck
def eInO (i : Nat) (neg : Bool) (e : M Opd) : M Opd := do let o ← e; let y ← peek o; let ds ← ownD i; if fits y ds = true then pure (.val (.bool ((look y ds).isSome != neg))) else stuck
def optV : Option PyData → M Opd
  | some d => pure (.val d)
  | none => stuck
def eGetO (i : Nat) (e : M Opd) : M Opd := do let _ ← ownD i; let o ← e; let y ← peek o; let ds ← ownD i; if fits y ds = true then optV (look y ds) else stuck
section
variable {P : Addr → Prop} {G : Gh} {σ : L2.St} {H H' : Hp} {s : Sx} {v : V} {a : Addr} {W : Wish} {X : Cx} {k : Nat}
end
end TW
set_option linter.all false
set_option Elab.async false
namespace TW
open PySem PySem.Spec PyProof.Rows L2
section
variable {P : Addr → Prop} {G : Gh} {σ : L2.St} {H H' : Hp} {s : Sx} {v : V} {a : Addr} {W : Wish} {X : Cx} {k : Nat}
def sPutO (i : Nat) (e ev : M Opd) : M Fl := do let o ← ev; let d ← take o; let _ ← ownD i; let ok ← e; let y ← peek ok; let ds ← ownD i; if fits y ds = true ∧ ds.length < lim then (do setS i (.own (.dict (storeD y d ds))); pure .nx) else stuck
end
end TW
set_option Elab.async false
set_option linter.all false
set_option maxRecDepth 100000
set_option maxHeartbeats 4000000
namespace TW
open PySem PySem.Spec PyProof.Rows L2
section
variable {P : Program} {w : World} {A : Around} {E : Value → Shared → Prop} {s : Shared}
set_option maxRecDepth 100000 in
set_option maxHeartbeats 3200000 in
theorem call_set_lstI {l : Addr} {items : Array Value} (ns : List Int) {Q : Value → Shared → Prop} (hh : A.handled = none) (hl : s.heap.IsList l items) (hit : IntsAre items.toList ns) (hb : ns.length + 1 < scanBound)
    (h : ∀ (h' : Heap) (tk c : Nat), SetR w h' s.heap.objs.size (fun j => decide (j ∈ ns)) c → c ≤ ns.length → (∀ b o, s.heap.get? b = some o → h'.get? b = some o) → Q (.ref s.heap.objs.size) { s with heap := h', toks := tk }) :
    wpAny (model P w) A (call (.type "set") [.ref l]) Q E s := by
  have hisz : items.size = ns.length := by
    have q := IntsAre.length hit
    rw [Array.length_toList] at q
    exact q
  obtain ⟨c, tl, hmro⟩ := F.called_set.mro
  have hmade := F.called_set.made
  have hsub := F.called_set.sub
  refine wpAny_call (codeAny_of_tree ?_)
  show wpAny _ _ (callAny (.type "set") _) _ _ _
  refine wpAny_pure ⟨Code.quiet_builtin _ (by decide +kernel), codeAny_builtin F.entry_type_call ?_⟩
  rw [Around.under_plain (weight_type_call_type "set" [.ref l] []) rfl]
  have h1 := F.called_set.notType
  have h2 := F.called_set.canCreate
  have hct := F.typeCall_set_1 (.ref l)
  repeat (any_goals (first | assumption | wp_step))
  refine codeAny_mono (code_set_led1 (.ref l) (E := E) (Q₁ := fun obj s₁ => obj = .ref s.heap.objs.size ∧ s₁ = { s with heap := s.heap.push { cls := .type "set", dict := none, data := .set #[] 0 (.fresh 0 0 (!w.params.followText "set-order")) } }) ⟨rfl, rfl⟩) fun r s₁ hr => ?_
  cases r with
  | error e => exact hr
  | ok fl =>
    cases fl with
    | ret obj =>
      obtain ⟨rfl, rfl⟩ := hr
      have hS : (s.heap.push { cls := .type "set", dict := none, data := .set #[] 0 (.fresh 0 0 (!w.params.followText "set-order")) }).get? s.heap.objs.size = some { cls := .type "set", dict := none, data := .set #[] 0 (.fresh 0 0 (!w.params.followText "set-order")) } := Heap.get?_push_size _ rfl
      have hT : Shared.TypeIs { s with heap := s.heap.push { cls := .type "set", dict := none, data := .set #[] 0 (.fresh 0 0 (!w.params.followText "set-order")) } } (.ref s.heap.objs.size) "set" := ⟨_, hS, rfl⟩
      have hli := F.called_set.init.lookup
      have hbi := F.called_set.init.bind (.ref s.heap.objs.size)
      repeat (any_goals (first | assumption | wp_step))
      refine codeAny_mono (codeAny_call_builtin (R := wants (fun r s₂ => r = .none ∧ ∃ h' tk c, s₂ = { s with heap := h', toks := tk } ∧ SetR w h' s.heap.objs.size (fun j => decide (j ∈ ns)) c ∧ c ≤ ns.length ∧
          (∀ b o, s.heap.get? b = some o → h'.get? b = some o)) E) F.called_set.init.plain F.entry_set_init (check_set_init_1 hT ?_)) fun r₂ s₂ hr₂ => ?_
      · obtain ⟨ol, hol, hcl, nl, hdl⟩ := hl
        obtain ⟨ocls, odict, odata, oslots⟩ := ol
        simp only at hcl hdl
        subst hcl; subst hdl
        have hol' : (s.heap.push { cls := .type "set", dict := none, data := .set #[] 0 (.fresh 0 0 (!w.params.followText "set-order")) }).get? l = some { cls := .type "list", dict := odict, data := .seq items nl, slots := oslots } := Heap.get?_push_of_some _ hol
        have hsls := F.sub_list_set
        have hslf := F.sub_list_frozenset
        have hne : (Value.type "list" == Value.type "dict") = false := by decide
        have hl1 : (s.heap.push { cls := .type "set", dict := none, data := .set #[] 0 (.fresh 0 0 (!w.params.followText "set-order")) }).IsList l items := ⟨_, hol', rfl, nl, rfl⟩
        unfold Builtin.«set.__init__» noKeywords Builtin.Frozenset.updateFrom
        generalize hPI : pyIter = PI
        wp_walk
        subst hPI
        refine wpAny_pyIter_list hl1 ?_
        refine wpAny_bind (wpAny_runValue ?_)
        have hlS : l < s.heap.objs.size := Heap.lt_size hol
        have hh3 : A.in1.in1.in1.handled = none := by simp [hh]
        have hz1 : (s.heap.push { cls := .type "set", dict := none, data := .set #[] 0 (.fresh 0 0 (!w.params.followText "set-order")) }).objs.size = s.heap.objs.size + 1 := Heap.size_push ..
        have hneI : l ≠ (s.heap.push { cls := .type "set", dict := none, data := .set #[] 0 (.fresh 0 0 (!w.params.followText "set-order")) }).objs.size := by
          rw [Heap.size_push]; exact Nat.ne_of_lt (Nat.lt_succ_of_lt hlS)
        have hSf : s.heap.objs.size ∉ [(s.heap.push { cls := .type "set", dict := none, data := .set #[] 0 (.fresh 0 0 (!w.params.followText "set-order")) }).objs.size, l] := by
          rw [Heap.size_push]; simp only [List.mem_cons, List.mem_singleton, List.not_mem_nil, or_false, not_or]
          exact ⟨Nat.ne_of_lt (Nat.lt_succ_self _), Nat.ne_of_gt hlS⟩
        have hval : ∀ (i : Nat) (v : Value), items[i]? = some v → ∃ k t, ns[i]? = some k ∧ v = .int k t := fun i v hv => by
          have hi : i < ns.length := by rw [← hisz]; exact (Array.getElem?_eq_some_iff.mp hv).1
          obtain ⟨t, e⟩ := PyProof.Rows.IntsAre.int_at hit i v (by rw [Array.getElem?_toList]; exact hv)
          refine ⟨ns[i], t, List.getElem?_eq_getElem hi, ?_⟩
          rw [e, List.getD_eq_getElem?_getD, List.getElem?_eq_getElem hi] <;> rfl
        refine set_update_ints ((Walks.list hh3 _ l hneI items).toS) s.heap.objs.size
          hSf ns hisz hb hval (items.size - 0) 0 _ (by omega) (Nat.zero_le _)
          ⟨⟨_, Heap.get?_push_size _ rfl, rfl, rfl⟩, (hl1.push _)⟩ ?hS0 ?hR
        case hS0 =>
          have hget : ((s.heap.push { cls := .type "set", dict := none, data := .set #[] 0 (.fresh 0 0 (!w.params.followText "set-order")) }).push { cls := .type "list_iterator", data := .fields #[.ref l, .int 0 0] }).get? s.heap.objs.size
              = some { cls := .type "set", dict := none, data := .set #[] 0 (.fresh 0 0 (!w.params.followText "set-order")) } := Heap.get?_push_of_some _ hS
          exact ⟨0, Nat.le_refl 0, setR_new_at hget⟩
        case hR =>
          intro s' c' hm hc' hS'
          obtain ⟨h', g2, d', tk', os'⟩ := s'
          have eg : g2 = s.gens := hm.gens
          have ed : d' = s.drawn := hm.drawn
          have eo : os' = s.os := hm.os
          subst eg; subst ed; subst eo
          show wpAny _ _ _ _ _ _
          refine wpAny_pure ?_
          show wpAny _ _ (ret Value.none) _ _ _
          rw [hisz] at hc'
          refine wpAny_pure ⟨rfl, h', tk', c', rfl, hS', hc', fun b o e => ?_⟩
          have hb0 : b < s.heap.objs.size := Heap.lt_size e
          have hb1 : b ≠ s.heap.objs.size := Nat.ne_of_lt hb0
          have hb2 : b ≠ (s.heap.push { cls := .type "set", dict := none, data := .set #[] 0 (.fresh 0 0 (!w.params.followText "set-order")) }).objs.size := by
            rw [Heap.size_push]; exact Nat.ne_of_lt (Nat.lt_succ_of_lt hb0)
          exact hm.heap b o (by simp only [List.mem_cons, List.mem_singleton, List.not_mem_nil, or_false, not_or]; exact ⟨hb1, hb2⟩) (Heap.get?_push_of_some _ (Heap.get?_push_of_some _ e))
      · cases r₂ with
        | error e => exact hr₂
        | ok fl₂ =>
          cases fl₂ with
          | ret r =>
            obtain ⟨rfl, h', tk, c', rfl, hS', hc', hk'⟩ := hr₂
            repeat (any_goals (first | assumption | wp_step))
            exact h _ _ _ hS' hc' hk'
          | _ => exact hr₂.elim
    | _ => exact hr.elim
end
end TW
set_option Elab.async false
set_option linter.all false
namespace TW
open PySem PySem.Spec PyProof.Rows L2
def insI (k : Int) : List Int → List Int
  | [] => [k]
  | a :: r => if k < a then k :: a :: r else if k = a then a :: r else a :: insI k r
def sortS : List Int → List Int
  | [] => []
  | a :: r => insI a (sortS r)
theorem mem_insI {k j : Int} : ∀ {l : List Int}, j ∈ insI k l ↔ j = k ∨ j ∈ l
  | [] => by simp [insI]
  | a :: r => by
    unfold insI
    split
    · simp
    · split
      · rename_i h; subst h; simp
      · rw [List.mem_cons, mem_insI (l := r), List.mem_cons]
        constructor
        · rintro (h | h | h)
          · exact .inr (.inl h)
          · exact .inl h
          · exact .inr (.inr h)
        · rintro (h | h | h)
          · exact .inr (.inl h)
          · exact .inl h
          · exact .inr (.inr h)
theorem mem_sortS {j : Int} : ∀ {l : List Int}, j ∈ sortS l ↔ j ∈ l
  | [] => by simp [sortS]
  | a :: r => by rw [sortS, mem_insI, mem_sortS, List.mem_cons]
theorem insI_lt {k : Int} : ∀ {l : List Int}, l.Pairwise (· < ·) → (insI k l).Pairwise (· < ·)
  | [], _ => by simp [insI]
  | a :: r, h => by
    obtain ⟨h1, h2⟩ := List.pairwise_cons.mp h
    unfold insI
    split
    · rename_i hk
      refine List.pairwise_cons.mpr ⟨fun j hj => ?_, h⟩
      rcases List.mem_cons.mp hj with e | e
      · rw [e]; exact hk
      · have := h1 j e; omega
    · split
      · exact h
      · refine List.pairwise_cons.mpr ⟨fun j hj => ?_, insI_lt h2⟩
        rcases mem_insI.mp hj with e | e
        · rw [e]; omega
        · exact h1 j e
theorem sortS_lt : ∀ {l : List Int}, (sortS l).Pairwise (· < ·)
  | [] => List.Pairwise.nil
  | a :: r => insI_lt sortS_lt
theorem nodup_lt {l : List Int} (h : l.Pairwise (· < ·)) : l.Nodup := h.imp fun h => by omega
theorem length_sortS {a l : List Int} (h : a.Nodup) (hm : ∀ k, k ∈ a ↔ k ∈ l) : a.length = (sortS l).length :=
  ((List.perm_ext_iff_of_nodup h (nodup_lt sortS_lt)).mpr fun k => by rw [hm, mem_sortS]).length_eq
def sortedSetD : List PyData → Option PyData
  | [.list ds] => (intsOf ds).bind fun ns => if ns.length ≤ 4000 ∧ (sortS ns).length < 64 then some (.list ((sortS ns).map PyData.int)) else none
  | [.tuple ds] => (intsOf ds).bind fun ns => if ns.length ≤ 4000 ∧ (sortS ns).length < 64 then some (.list ((sortS ns).map PyData.int)) else none
  | _ => none
section
variable {X : Cx} {e : Expr} {ta : TA} {p p2 pos pos2 : Pos}
end
section
variable {G : Gh} {W : Wish} {X : Cx} {k : Nat}
variable {e : Expr} {p p2 pos pos2 : Pos} {ma : M (List Opd)}
end
end TW
set_option Elab.async false
set_option linter.all false
namespace TW
open PySem PySem.Spec PyProof.Rows L2
section
variable {P : Addr → Prop} {G G' : Gh} {σ : L2.St} {H H' : Hp} {s s' : Sx} {v : V} {o : Opd} {W : Wish} {X : Cx} {k : Nat} {tg : Expr}
end
end TW
set_option linter.all false
set_option Elab.async false
namespace TW
open PySem PySem.Spec PyProof.Rows L2
structure XAt (mg : Str → Option Value) (P : Addr → Prop) (G : Gh) (H : Hp) (c : Str) (fs : List (Str × PyData)) (cls : Value) (d : Option Addr) : Prop where
  c : mg c = some cls
  d : (fs = [] ∧ d = none) ∨ ∃ (dd : Addr) (vs : List (Str × V)), d = some dd ∧ H dd = some (.xd vs) ∧ (¬ G.F dd ∧ ¬ P dd ∧ dd ∉ G.bs) ∧ ∀ f y, fs.lookup f = some y → ∃ v, vs.lookup f = some v ∧ Fz G.F H v y
def wishX (mg : Str → Option Value) (W : WX) : Wish where
  w := fun P G H e => match e with
    | .stuck => False
    | .exc c fs r b => ∀ G' σ' H' cls d, Ext P G H G' H' → Rel P G' σ' H' ⟨r, b⟩ → XAt mg P G' H' c fs cls d → W cls d σ' H'
  stuck := fun _ _ _ h => h
  mono := fun {P G H G' H' e} h x => by
    cases e with
    | stuck => exact h
    | exc c fs r b => exact fun G'' σ' H'' cls d y R z => h G'' σ' H'' cls d (x.trans y) R z
structure FnE (P : Program) (w : World) (K : PySem.W.Frag) (mg : Str → Option Value) (base : Heap) (k : Nat) (f : Addr) (fd : FuncData) (ps : List Str) (sp : Sp) : Prop where
  len : ∀ vs H Q E, sp vs H Q E → vs.length = ps.length
  run : ∀ (A : Around) (outer : List Env) (s : Shared) (H : Hp) (args : Args) (us : List Value) (vs : List V) (Q : VK) (E : XK), Room k A → A.guards = some [] → Env0 P w K mg base A outer s H → BindsTo s fd args (ps.zip us) → Vals vs us → sp vs H Q E →
    codeAny (model P w) A (.call (.ref f) args) (CR (L2.CX P w) outer P w H s Q E) s
section
variable {P : Program} {w : World} {K : PySem.W.Frag} {mg : Str → Option Value} {base : Heap}
theorem FnE.mono {j k : Nat} {f : Addr} {fd : FuncData} {ps : List Str} {sp : Sp} (F : FnE P w K mg base j f fd ps sp) (h : j ≤ k) : FnE P w K mg base k f fd ps sp :=
  ⟨F.len, fun A outer s H args us vs Q E hr => F.run A outer s H args us vs Q E (hr.mono h)⟩
abbrev cxE (P : Program) (w : World) (K : PySem.W.Frag) (mg : Str → Option Value) (base : Heap) (N : List Str) (qual : Str) (scope : Scope) (f : Addr) (cd : Value) (A : Around) (outer : List Env) (s : Shared) (H : Hp) (E : XK) : Cx :=
  cxOf (L2.CX P w) P w K mg base N qual scope f cd A outer s H E
abbrev wE (E : XK) : WX := fun cls d _ H => E cls d H
theorem cxE_takes {N : List Str} {qual : Str} {scope : Scope} {f : Addr} {cd : Value} {A : Around} {outer : List Env} {s : Shared} {H : Hp} {E : XK} : Takes (cxE P w K mg base N qual scope f cd A outer s H E) (wE E) :=
  takes_of (X := cxE P w K mg base N qual scope f cd A outer s H E) (E := E) rfl rfl rfl rfl
theorem fnE_mk {k : Nat} {f : Addr} {fd : FuncData} {x qual : Str} {params : Arguments} {body : List Stmt} {scope : Scope} {dvs : List V} {kws : List (Str × V)} {N ps : List Str} {sp : Sp} (F : FunD K x qual params body scope dvs kws f fd) (S : FnScope N ps scope)
    (len : ∀ vs H Q E, sp vs H Q E → vs.length = ps.length)
    (hbody : ∀ (cdv : Value) (A : Around) (outer : List Env) (s : Shared) (H : Hp) (vs : List V) (Q : VK) (E : XK), Room k (A.deeper (envOfC qual scope s.heap.objs.size f cdv)) → A.guards = some [] → sp vs H Q E →
      ∃ t, PSs (cxE P w K mg base N qual scope f cdv A outer s H E) body t ∧ t { nx := fun _ H' => Q .non H', rt := Q } (start N vs) H) : FnE P w K mg base (k + 1) f fd ps sp := by
  obtain ⟨oc, od, dV, kV, doc, pm, an, cdv, ct, osl, rfl, lk, hcd, _, _⟩ := F.ex
  refine ⟨len, fun A outer s H args us vs Q E hr hgd e0 hb r hsp => ?_⟩
  have keeps : ∀ b o, base.get? b = some o → s.heap.get? b = some o := fun b o e => (e0.bs b o e).1
  have KX : K.In s.heap := e0.mod.kin.keeps keeps
  have par : ∀ y ∈ ps.zip us, scope.names.lookup y.1 = some .local ∨ (scope.names.lookup y.1 = some .cell ∧ ((cellsFrom (s.heap.objs.size + 1) scope.names []).lookup y.1).isSome = true) := fun y hy => by
    rcases S.par y.1 (List.of_mem_zip (a := y.1) (b := y.2) hy).1 with q | q
    · exact .inl q
    · exact .inr ⟨q, PySem.W.cellsFrom_some _ _ _ (.inl q)⟩
  refine codeAny_call_function hr.depth (KX _ _ lk) rfl S.co S.gen rfl (PySem.W.codeRec_of KX hcd) (hb _ _ _ _ (wpAny_newFunctionEnv_cells S.kind par fun env he s1 x => ?_))
  subst he
  refine ⟨(e0.mod.nolimit.keeps keeps).keeps x.toInCall.keep, codeAny_func ?_⟩
  obtain ⟨t, ht, hq⟩ := hbody cdv A outer s H vs Q E (hr.deeper _) hgd hsp
  have I : L2.Inv (cxE P w K mg base N qual scope f cdv A outer s H E) [] (start N vs) H s1 := inv_start S hr.hd e0 (len _ _ _ _ hsp) r x
  refine wpAny_mono (ht.run [] s1 (start N vs) H _ I hq) (fun fl s' hs => ?_) fun e s' hs => hs
  have close : ∀ {σ' : L2.St} {H' : Hp} {v : V} {u : Value}, L2.Inv (cxE P w K mg base N qual scope f cdv A outer s H E) [] σ' H' s' → RelV v u → Q v H' → CE outer P w H s Q u s' :=
    fun J rv q => ⟨_, _, J.os, J.bare, J.base, J.hok, rv, q⟩
  cases fl with
  | ret u =>
    obtain ⟨v, σ', H', J, rv, q⟩ := hs
    exact close J rv q
  | next =>
    obtain ⟨σ', H', J, q⟩ := hs
    exact close (v := V.non) (u := Value.none) J rfl q
  | brk => exact (let ⟨_, _, _, q⟩ := hs; False.elim q)
  | cont => exact (let ⟨_, _, _, q⟩ := hs; False.elim q)
end
def PostFE (mg : Str → Option Value) (G : Gh) (H : Hp) (Q : VK) (E : XK) (r : Except Er (PyData × Option Bx)) : Prop := match r with
  | .ok (d, b') => ∀ G' v H', Ext (prot G H) G H G' H' → GB G' H' b' → Fz G'.F H' v d → Q v H'
  | .error .stuck => False
  | .error (.exc c fs _ b') => ∀ G' H' cls d, Ext (prot G H) G H G' H' → GB G' H' b' → XAt mg (prot G H) G' H' c fs cls d → E cls d H'
def spE (mg : Str → Option Value) (n : Nat) (F : Sem) : Sp := fun vs H Q E => ∃ G as b, as.length = n ∧ AR G H vs as ∧ GB G H b ∧ PostFE mg G H Q E (F as b)
section
variable {P : Addr → Prop} {G G' : Gh} {σ : L2.St} {H H' : Hp} {s s' : Sx} {v : V} {o : Opd} {W : Wish} {X : Cx} {k : Nat}
theorem fnE_of_body {P : Program} {w : World} {K : PySem.W.Frag} {mg : Str → Option Value} {base : Heap} {f : Addr} {fd : FuncData} {x qual : Str} {params : Arguments} {body : List Stmt} {scope : Scope} {dvs : List V} {kws : List (Str × V)} {N ps : List Str} {m : M Fl} (n : Nat)
    (F : FunD K x qual params body scope dvs kws f fd) (S : FnScope N ps scope) (hsm : SmP base) (hn : N.length = n)
    (hb : ∀ (cdv : Value) (A : Around) (outer : List Env) (s : Shared) (H : Hp) (E : XK), Cok (cxE P w K mg base N qual scope f cdv A outer s H E) k → SdB (cxE P w K mg base N qual scope f cdv A outer s H E) (wishX mg (wE E)) body m) :
    FnE P w K mg base (k + 1) f fd ps (spE mg ps.length (runF n m)) := by
  refine fnE_mk F S (fun vs H Q E h => ?_) fun cdv A outer s H vs Q E hr hgd h => ?_
  · obtain ⟨G, as, b, h1, h2, _⟩ := h
    rw [h2.length, h1]
  · obtain ⟨G, as, b, h1, h2, h3, h4⟩ := h
    obtain ⟨t, pt, ct⟩ := (hb cdv A outer s H E ⟨rfl, S.nd, hr, hgd, hsm⟩).ex
    have hpl : ps.length ≤ n := by
      have := congrArg List.length S.pre
      rw [List.length_take] at this
      omega
    refine ⟨t, pt, ct (prot G H) G (L2.start N vs) H _ _ (Rel.start hn (by rw [h1]; exact hpl) h2 h3) ?_⟩
    unfold PostFE runF at h4
    unfold pw
    cases q : m ⟨as.map argSV ++ List.replicate (n - as.length) .no, b⟩ with
    | error e =>
      rw [q] at h4
      cases e with
      | stuck => exact h4.elim
      | exc c fs r b' => exact fun G' σ' H' cls d x R z => h4 G' H' cls d x R.gb z
    | ok p =>
      obtain ⟨fl, s'⟩ := p
      rw [q] at h4
      cases fl with
      | nx => exact fun G' σ' H' x' R' => h4 G' .non H' x' R'.gb .non
      | rt d => exact fun G' σ' v H' x' R' z => h4 G' v H' x' R'.gb z
      | bk => exact h4.elim
      | ct => exact h4.elim
def callX (n : Nat) (F : Sem) (as : List Arg) : M PyData := fun s => if as.length ≠ n then .error .stuck else match F as s.b with
  | .ok (d, b') => .ok (d, { s with b := b' })
  | .error .stuck => .error .stuck
  | .error (.exc c fs _ b') => .error (.exc c fs s.r b')
def eCallX (n : Nat) (F : Sem) (a : M (List Opd)) : M Opd := do let os ← a; let as ← hands os; let d ← callX n F as; pure (.val d)
theorem run_fnE {j : Nat} {f : Addr} {fd : FuncData} {ps : List Str} {sp : Sp} {WW : WX} {pins : List (Addr × Obj)} {σ : L2.St} {H : Hp} {s : Shared} {Q : VK} {us : List Value} {vs : List V} (F : FnE X.prog X.w X.K X.mg X.base j f fd ps sp) (C : Cok X k) (tk : Takes X WW) (hj : j ≤ k) (hb : Binds X.K fd ps [])
    (I : L2.Inv X pins σ H s) (r : Vals vs us) (h : sp vs H Q (WE WW σ)) : wpAny (model X.prog X.w) X.A (call (.ref f) us) (EP X pins σ Q) X.xe s := by
  have hl : us.length = ps.length := by rw [← r.length]; exact F.len _ _ _ _ h
  have bd : BindsTo s fd ⟨us, []⟩ (ps.zip us) := by
    have := hb s us I.kIn (by rw [List.append_nil]; exact hl)
    rwa [List.append_nil] at this
  refine wpAny_call (codeAny_mono (F.run X.A X.stack s H ⟨us, []⟩ us vs Q (WE WW σ) (C.room.mono hj) C.gd I.env0 bd r h) fun res s' hq => ?_)
  cases res with
  | error e => exact passAt tk σ pins H s e s' I hq
  | ok fl =>
    cases fl with
    | ret u => exact I.after hq
    | next => exact False.elim hq
    | brk => exact False.elim hq
    | cont => exact False.elim hq
theorem sd_callE {F : Sem} {j : Nat} {f : Addr} {fd : FuncData} {ps : List Str} {x : Str} {p pos : Pos} {e : Expr} {es : List Expr} {ma : M (List Opd)} {WW : WX} (C : Cok X k) (tk : Takes X WW) (Fo : FnE X.prog X.w X.K X.mg X.base j f fd ps (spE X.mg ps.length F)) (hj : j ≤ k) (hg : Gl X x) (hm : X.mg x = some (.ref f))
    (hk : PySem.W.keepIn X.K (.ref f) = true) (hb : Binds X.K fd ps []) (ha : SdA X (wishX X.mg WW) (e :: es) ma) (hdb : (x == ("__debug__" : Str)) = false := by decide)
    (he : starEach (e :: es) X.env = (false, eval e X.env) :: starEach es X.env := by rfl) (hpl : (backTo pos (starEach es X.env)).any (·.1) = false := by rfl) : Sd X (wishX X.mg WW) (.Call (.Name x p) (e :: es) [] pos) (eCallX ps.length F ma) := by
  obtain ⟨ta, pa, ca⟩ := ha.ex
  refine ⟨fun σ H Q => ta σ H fun vs H1 => spE X.mg ps.length F vs H1 Q (WE WW σ), ⟨fun pins s σ H Q I h => wpAny_Call_Name_kw (ld_glob I hg hm ?_ hdb)⟩, ?_⟩
  · exact PySem.W.callWith_K (h₀ := X.base) I.ok.mod.kin hk (thn (pa.run pos pins s σ H _ I h) fun us s1 ⟨vs, H1, I1, r, q⟩ => ⟨I1.kIn, run_fnE (k := k) Fo C tk hj hb I1 r q⟩) he hpl
  · intro P G σ H s Q R hw
    unfold eCallX at hw
    refine ca.bind PostV.mono R hw fun os s1 G1 vs H1 x1 R1 r1 hw1 => ?_
    obtain ⟨G2, s2, as, x2, R2, z, hw2⟩ := hands_ok PostV.mono R1 r1 hw1
    rw [pw_bind] at hw2
    unfold callX at hw2
    unfold pw at hw2
    by_cases hn2 : as.length = ps.length
    · refine ⟨G2, as, s2.b, hn2, z, R2.gb, ?_⟩
      cases q : F as s2.b with
      | error e =>
        simp only [hn2, ne_eq, not_true_eq_false, if_false, q] at hw2
        cases e with
        | stuck => exact hw2.elim
        | exc c fs r b' =>
          intro G' H' cls d x' g' z'
          obtain ⟨x3, R3⟩ := R2.after x' g'
          refine hw2 G' σ H' cls d x3 R3 ⟨z'.c, z'.d.elim .inl fun ⟨dd, ws, h1, h2, ⟨h3, h4, h5⟩, h6⟩ => .inr ⟨dd, ws, h1, h2, ⟨h3, fun q => h4 ⟨R2.pr dd q, fun w => (R2.bF dd w).2.1 q, fun w => (R2.tb.n dd w).2 q⟩, h5⟩, h6⟩⟩
      | ok pr =>
        obtain ⟨d, b'⟩ := pr
        simp only [hn2, ne_eq, not_true_eq_false, if_false, q] at hw2
        intro G' v H' x' g' fz
        obtain ⟨x3, R3⟩ := R2.after x' g'
        exact hw2 G' v H' x3 R3 fz
    · simp only [ne_eq, hn2, not_false_eq_true, if_true] at hw2
      exact hw2.elim
end
end TW
set_option linter.all false
set_option Elab.async false
set_option maxRecDepth 100000
namespace TW
open PySem PySem.Spec PyProof.Rows L2
def oexB (K : PySem.W.Frag) (C : Addr) : Bool := match K.lookup C with
  | some ⟨.type "type", _, .cls cd, sl⟩ => (match cd.mro, sl.toList with
    | .ref C' :: bm, [_, _, _, _, some (.builtin n), _] => C' == C && n == "ValueError.__new__" && !cd.hasDel && cd.hasDict && HandSPX.refsVE bm
    | _, _ => false)
  | _ => false
theorem oexB_ok {K : PySem.W.Frag} {C : Addr} (q : oexB K C = true) : ∃ nm qn N bs bm sn sub ab col dd k0 k1 k2 k3 k5, K.lookup C = some (excClassObj nm qn C N bs bm true sn sub ab col dd k0 k1 k2 k3 k5 "ValueError.__new__") ∧ HandSPX.refsVE bm = true := by
  unfold oexB at q
  split at q
  · rename_i dd cd sl ho
    split at q
    · rename_i C' bm k0 k1 k2 k3 n k5 hm hs
      simp only [Bool.and_eq_true, beq_iff_eq, Bool.not_eq_true'] at q
      obtain ⟨⟨⟨⟨rfl, rfl⟩, hdel⟩, hdc⟩, ht⟩ := q
      obtain ⟨nm, bs, mro, ns, qn, hd, sn, sub, ab, col, del⟩ := cd
      dsimp only at hm hdel hdc
      subst hm hdel hdc
      have hsl : sl = #[k0, k1, k2, k3, some (.builtin "ValueError.__new__"), k5] := by
        obtain ⟨l⟩ := sl
        simp only at hs
        rw [hs]
      subst hsl
      exact ⟨nm, qn, ns, bs, bm, sn, sub, ab, col, dd, k0, k1, k2, k3, k5, ho, ht⟩
    · cases q
  · cases q
def exB (K : PySem.W.Frag) (x : Str) (fl : List Str) : Bool :=
  oexB K (He.ga K x) && (He.eqO (PySem.W.findIn K (.ref (He.ga K x)) "__setattr__") (some (some (.builtin "object.__setattr__"))) && (xfB K (He.ga K x) && (decide (PySem.W.typeIn K (.ref (He.ga K x)) = some (.type "type")) && (PySem.W.keepIn K (.ref (He.ga K x)) &&
    (He.eqO (PySem.W.findIn K (.ref (He.ga K x)) "__class__") (some (some (.builtin "object.__class__"))) && (decide (PySem.W.specialIn K (.builtin "object.__class__") "__get__" = some (some (.builtin "getset_descriptor.__get__"))) &&
    (decide (PySem.W.takesIn K (.builtin "object.__class__") = some true) && (decide (PySem.W.mroIn K (He.ga K x) (.type "object") = some true) && (He.eqO (PySem.W.findIn K (.ref (He.ga K x)) "__init__") (some (some (.ref (He.ma K (He.ga K x) "__init__")))) &&
    (decide (PySem.W.typeIn K (.ref (He.ma K (He.ga K x) "__init__")) = some (.type "function")) && fl.all fun f => He.eqO (PySem.W.findIn K (.ref (He.ga K x)) f) (some none)))))))))))
structure ExK (K : PySem.W.Frag) (C fI : Addr) (fl : List Str) : Prop where
  o : OexC K C
  x : XfC K C
  e : ExcC K C
  i : PySem.W.findIn K (.ref C) "__init__" = some (some (.ref fI))
  t : PySem.W.typeIn K (.ref fI) = some (.type "function")
  n : ∀ f ∈ fl, PySem.W.findIn K (.ref C) f = some none
theorem exB_ok {K : PySem.W.Frag} {x : Str} {fl : List Str} (h : exB K x fl = true) : ExK K (He.ga K x) (He.ma K (He.ga K x) "__init__") fl := by
  unfold exB at h
  obtain ⟨h1, h⟩ := He.ba h
  obtain ⟨h2, h⟩ := He.ba h
  obtain ⟨h3, h⟩ := He.ba h
  obtain ⟨h4, h⟩ := He.ba h
  obtain ⟨h5, h⟩ := He.ba h
  obtain ⟨h6, h⟩ := He.ba h
  obtain ⟨h7, h⟩ := He.ba h
  obtain ⟨h8, h⟩ := He.ba h
  obtain ⟨h9, h⟩ := He.ba h
  obtain ⟨h10, h⟩ := He.ba h
  obtain ⟨h11, h12⟩ := He.ba h
  have X := xfB_ok h3
  exact ⟨⟨oexB_ok h1, He.eqO_ok h2, X.exC, of_decide_eq_true h4, h5⟩, X, ⟨X.ga, X.gg, X.exC, X.hdC, He.eqO_ok h6, of_decide_eq_true h7, of_decide_eq_true h8, of_decide_eq_true h9⟩,
    He.eqO_ok h10, of_decide_eq_true h11, fun f hf => He.eqO_ok (List.all_eq_true.mp h12 f hf)⟩
def spInit (fl : List Str) (C : Addr) : Sp := fun vs H Q _ => ∃ (a : Addr) (ys : List V), vs = .ref a :: ys ∧ ys.length = fl.length ∧ H a = some (exo a C none) ∧
  ∀ (H' : Hp) (dx : Addr) (fs : List (Str × V)), H dx = none → dx ≠ a → (∀ b, b ≠ a → b ≠ dx → H' b = H b) → H' a = some (exo a C (some dx)) → H' dx = some (exd dx fs) → (∀ f y, (fl.zip ys).lookup f = some y → fs.lookup f = some y) → Q .non H'
section
variable {P : Program} {w : World} {K : PySem.W.Frag} {mg : Str → Option Value} {base : Heap}
theorem init1 {k : Nat} {fI C : Addr} {fd : FuncData} {qual f p : Str} {params : Arguments} {scope : Scope} {q1 q2 q3 q4 : Pos} (F : FunD K "__init__" qual params [.Assign [.Attribute (.Name "self" q1) f q2] (.Name p q3) q4] scope [] [] fI fd) (S : FnScope ["self", p] ["self", p] scope) (T : ExK K C fI [f])
    (hl : scope.names.lookup ("self" : Str) = some NameKind.local) (hl2 : scope.names.lookup p = some NameKind.local) (hd : (p == ("__debug__" : Str)) = false) (hcd : (p == ("__classdict__" : Str)) = false)
    (hs : ∀ env, swapsWith (.Name p q3) (some (.Attribute (.Name "self" q1) f q2)) q4.line env = pure false) : FnOk P w K mg base CX0 (k + 1) fI fd ["self", p] (spInit [f] C) := by
  refine F.ok S (fun vs H Q E h => ?_) fun cdv A outer s H vs Q E hr h => ?_
  · obtain ⟨a, ys, rfl, hy, _⟩ := h
    simp [hy]
  · obtain ⟨a, ys, rfl, hy, ha, h⟩ := h
    match ys, hy with
    | [y], _ =>
      refine ⟨_, pss_one (ps_ost (pe_var (i := 0) rfl (.inl hl)) (pe_var (i := 1) rfl (.inl hl2) hd hcd) (hs _)), ?_⟩
      refine ⟨y, rfl, .ref a, rfl, a, C, rfl, T.o, T.n f (by simp), .inl ⟨ha, fun dx hn ne => ?_⟩⟩
      refine h _ dx [(f, y)] hn ne (fun b h1 h2 => ?_) upd_same ?_ fun g z e => e
      · rw [upd_ne h1, upd_ne h2]
      · rw [upd_ne ne, upd_same]
end
def throwM {α : Type} (c : Str) (fl : List Str) (ds : List PyData) : M α := fun s => if ds.length = fl.length ∧ ds.length ≤ 1000 then .error (.exc c (fl.zip ds) s.r s.b) else .error .stuck
def sRaise (c : Str) (fl : List Str) (a : M (List Opd)) : M Fl := do let os ← a; let ds ← takes os; throwM c fl ds
theorem pw_throwM {α : Type} {c : Str} {fl : List Str} {ds : List PyData} {s : Sx} {Q : α → Sx → Prop} {E : Er → Prop} (hE : ¬ E .stuck) : pw (throwM c fl ds) s Q E ↔ (ds.length = fl.length ∧ ds.length ≤ 1000) ∧ E (.exc c (fl.zip ds) s.r s.b) := by
  unfold pw throwM
  by_cases h : ds.length = fl.length ∧ ds.length ≤ 1000
  · rw [if_pos h]
    exact ⟨fun q => ⟨h, q⟩, fun q => q.2⟩
  · rw [if_neg h]
    exact ⟨fun q => absurd q hE, fun q => absurd q.1 h⟩
section
variable {P : Addr → Prop} {G G' : Gh} {σ : L2.St} {H H' : Hp} {s s' : Sx} {v : V} {o : Opd} {W : Wish} {X : Cx} {k : Nat}
theorem zip_fz : ∀ {fl : List Str} {vs : List V} {ds : List PyData} {f : Str} {y : PyData}, FzA G.F H vs ds → ds.length = fl.length → (fl.zip ds).lookup f = some y → ∃ v, (fl.zip vs).lookup f = some v ∧ Fz G.F H v y
  | [], _, _, _, _, _, _, h => by simp at h
  | g :: fl, _, [], _, _, _, hl, _ => by simp at hl
  | g :: fl, v :: vs, d :: ds, f, y, r, hl, h => by
    cases r with
    | cons a b =>
      simp only [List.zip_cons_cons, List.lookup] at h ⊢
      cases e : f == g with
      | true =>
        rw [e] at h
        exact ⟨v, rfl, by cases h; exact a⟩
      | false =>
        rw [e] at h
        exact zip_fz b (by simpa using hl) h
theorem ss_raise {WW : WX} {c : Str} {fl ps : List Str} {C fI : Addr} {fd : FuncData} {p pos pos2 : Pos} {e : Expr} {es : List Expr} {ma : M (List Opd)} (Ck : Cok X (k + 1)) (tk : Takes X WW) (T : ExK X.K C fI fl)
    (F1 : FnOk X.prog X.w X.K X.mg X.base CX0 k fI fd ps (spInit fl C)) (hb : Binds X.K fd ps []) (hg : Gl X c) (hm : X.mg c = some (.ref C)) (ha : SdA X (wishX X.mg WW) (e :: es) ma) (hfl : fl ≠ [])
    (hdb : (c == ("__debug__" : Str)) = false := by decide) (he : starEach (e :: es) X.env = (false, eval e X.env) :: starEach es X.env := by rfl) (hpl : (backTo pos (starEach es X.env)).any (·.1) = false := by rfl) :
    SdS X (wishX X.mg WW) (.Raise (some (.Call (.Name c p) (e :: es) [] pos)) none pos2) (sRaise c fl ma) := by
  obtain ⟨ta, pa, ca⟩ := ha.ex
  refine ⟨_, ps_raise Ck.calm tk (pmk_oex (dvs := []) T.o T.i T.t F1 Ck.room hb .nil pass0 hg hm pa hdb he hpl), ?_⟩
  intro P G σ H s D R hw
  unfold sRaise at hw
  refine ca.bind PostS.mono R hw fun os s1 G1 vs H1 x1 R1 r1 hw1 => ?_
  obtain ⟨G2, s2, ds, x2, R2, z, hw2⟩ := takes_ok PostS.mono R1 r1 hw1
  obtain ⟨hl, hw2⟩ := (pw_throwM ((wishX X.mg WW).stuck _ _ _)).mp hw2
  · skip
    have hw2 : ∀ G' σ' H' cls d, Ext P G2 H1 G' H' → Rel P G' σ' H' ⟨s2.r, s2.b⟩ → XAt X.mg P G' H' c (fl.zip ds) cls d → WW cls d σ' H' := hw2
    refine ⟨by rw [z.length]; exact hl.2, fun a hn => ⟨a, vs, by rw [List.append_nil], by rw [z.length]; exact hl.1, upd_same, fun H2 dx fs n1 ne keep h1 h2 hfs => ?_⟩⟩
    have n1' : H1 dx = none := by rw [upd_ne ne] at n1; exact n1
    refine ⟨rfl, dx, fs, h1, h2, n1', ?_⟩
    -- the heap behind it: H1, and the dict
    have hk : ∀ b, b ≠ dx → upd (del H2 a) dx (.xd fs) b = H1 b := fun b hb => by
      rw [upd_ne hb]
      by_cases hba : b = a
      · rw [hba, del_same, hn]
      · rw [del_ne hba, keep b hba hb, upd_ne hba]
    have eH : upd (del H2 a) dx (.xd fs) = upd H1 dx (.xd fs) := by
      funext b
      by_cases hb : b = dx
      · rw [hb, upd_same, upd_same]
      · rw [hk b hb, upd_ne hb]
    rw [eH]
    obtain ⟨x3, R3, k1, k2, k3, _⟩ := R2.lay (u := .xd fs) n1'
    refine hw2 G2 σ _ _ _ x3 R3 ⟨hm, .inr ⟨dx, fs, rfl, upd_same, ⟨k1, k2, k3⟩, fun f y hy => ?_⟩⟩
    obtain ⟨v, h3, h4⟩ := zip_fz (z.ext x3) hl.1 hy
    exact ⟨v, hfs f v h3, h4⟩
def sExp (m : M Opd) : M Fl := do let _ ← m; pure .nx
end
end TW
set_option linter.all false
set_option Elab.async false
set_option maxRecDepth 100000
namespace PySem.W
open PySem PySem.Spec PySem.Calls PyProof.Rows
section
variable {prog : Program} {w : World} {A : Around} {E : Value → Shared → Prop} {s : Shared} {K : Frag} {x D : Addr} {ox : Obj} {od : Option Obj}
theorem findObj_dataO {C : Addr} {name : Str} {a g : Value} (hc : (clsIn K C).isSome = true) (ha : findIn K (.ref C) name = some (some a)) (hg : specialIn K a "__get__" = some (some g)) (ht : takesIn K a = some true) : findObj K C od name = some (.bind g a) := by
  obtain ⟨cd, hc⟩ := Option.isSome_iff_exists.mp hc
  unfold findObj
  rw [hc, Option.bind_some, ha, Option.bind_some]
  simp [hg, ht]
theorem kin_classO {Q : Option Value → Shared → Prop} (T : L2.ExcC K D) (X : K.In s.heap) (I : InstAt s.heap x ox D od) (h : Q (some (.ref D)) { s with toks := s.toks + 1 }) : wpAny (model prog w) A (getAttr? (.ref x) "__class__") Q E s := by
  have hf : findObj K D od "__class__" = some (.bind (.builtin "getset_descriptor.__get__") (.builtin "object.__class__")) := findObj_dataO (by obtain ⟨cd, hc, _⟩ := any_some T.hd; rw [hc]; rfl) T.ha T.hn T.ht
  obtain ⟨hp, g, d, t, os⟩ := s
  have L0 := I.type (M := model prog w)
  have L1 := looks_findIn (M := model prog w) X T.hg
  have L2 := looks_findIn (M := model prog w) X T.hk
  have L3 := looks_find (M := model prog w) X I hf
  have sub : Looks (model prog w) hp (isInstance (.ref x) (.type "BaseException")) true := L0.andThen (looks_subIn X T.hs)
  have hx0 : (false && onTheHeap (Value.builtin "BaseException.__getattribute__")) = false := rfl
  have hx2 : (Value.builtin "BaseException.__getattribute__" == Value.builtin "object.__getattribute__") = false := by decide +kernel
  have hx1 : (onTheHeap (Value.ref D) && Value.builtin "BaseException.__getattribute__" == Value.builtin "object.__getattribute__") = false := by rw [hx2]; rfl
  unfold getAttr? getAttrBy? getAttrBy
  refine wpAny_bind (wpAny_mkText (wpAny_bind (wpAny_attempt (wpAny_holding (wpAny_bind (L0.at (wpAny_bind (L1.at ?_))))))))
  show wpAny _ _ (if (onTheHeap (Value.ref D) && Value.builtin "BaseException.__getattribute__" == Value.builtin "object.__getattribute__") = true then _ else _) _ _ _
  rw [hx1, if_neg Bool.false_ne_true]
  unfold getAttrByItsOwn hookBefore
  refine wpAny_bind ?_
  rw [if_pos (show onTheHeap (Value.ref D) = true from rfl)]
  refine L2.at ?_
  refine wpAny_bind (wpAny_attempt (wpAny_holding ?_))
  unfold callGetattribute
  rw [hx0, if_neg Bool.false_ne_true]
  unfold boundAndCalled
  rw [PySem.F.excAttr_ValueError.ga.bind (.ref x)]
  refine wpAny_bind (wpAny_pure ?_)
  show wpAny _ _ (call (.builtin "BaseException.__getattribute__") [.ref x, .str "__class__" t]) _ _ _
  refine wpAny_call (codeAny_call_builtin PySem.F.excAttr_ValueError.ga.plain PySem.F.entry_bexc_ga ?_)
  refine @check_slot (model prog w) _ _ ⟨hp, g, d, t + 1, os⟩ "BaseException.__getattribute__" "BaseException" "__getattribute__" (.ref x) [.str "__class__" t] [] _ (by decide +kernel) (by decide +kernel) sub (PySem.F.args_bexc_ga (.ref x) (.str "__class__" t)) ?_
  unfold Builtin.«object.__getattribute__»
  refine wpAny_bind (wpAny_of_eq (a := ((Value.ref x : Value), [Value.str "__class__" t])) (by first | rfl | (simp only [slotArgs]; rfl)) ?_)
  refine wpAny_bind (wpAny_pure (wpAny_bind (L0.at (wpAny_bind (L3.at ?_)))))
  show wpAny _ _ (holding [Value.builtin "object.__class__"] (call (.builtin "getset_descriptor.__get__") [.builtin "object.__class__", .ref x, .ref D]) >>= ret) _ _ _
  refine wpAny_bind (wpAny_holding (wpAny_call (class_get (s := ⟨hp, g, d, t + 1, os⟩) (ox := ox) (od := od) X I T.hm ?_)))
  refine wpAny_pure ?_
  show wpAny _ _ (handedOut (.ref D)) _ _ _
  rw [handedOut_of (v := .ref D) rfl]
  first
    | exact wpAny_pure (wpAny_pure h)
    | exact wpAny_pure h
    | exact wpAny_pure (wpAny_bind (wpAny_pure (wpAny_pure h)))
theorem kitx_excO (T : L2.ExcC K D) : KitX K (.ref x) (.ref D) (fun h => InstAt h x ox D od) where
  ty := fun _ _ _ I => I.type
  it := fun _ _ X _ => by
    obtain ⟨cdD, hcD, _⟩ := any_some T.hd
    unfold clsIn at hcD
    split at hcD
    · rename_i c' d' cd' sl' ho
      intro A' Q' E' s' k q
      unfold isType loadHead
      exact wpAny_bind (wpAny_loadPart (k _ _ (X _ _ ho)) (wpAny_pure q))
    · cases hcD
  ne := fun h tp dd its n sl X htp => by
    obtain ⟨cdD, hcD, _⟩ := any_some T.hd
    refine Bool.eq_false_iff.mpr fun q => ?_
    have e : D = tp := Value.ref.inj (beq_iff_eq.mp q)
    subst e
    unfold clsIn at hcD
    split at hcD
    · rename_i c' d' cd' sl' ho
      have z := (X _ _ ho).symm.trans htp
      cases z
    · cases hcD
  ca := fun X I k => kin_classO T X I k
end
end PySem.W
namespace TW
open PySem PySem.Spec PyProof.Rows L2
def XdAt (H : Hp) (d : Option Addr) : Prop := d = none ∨ ∃ (dd : Addr) (vs : List (Str × V)), d = some dd ∧ H dd = some (.xd vs)
def rIsO (K : PySem.W.Frag) (a : Addr) (cls : Value) (d : Option Addr) : List V → Hp → VK → Prop := fun xs H Q => ∃ (D : Addr) (c : V) (cv : Value) (b : Bool), cls = .ref D ∧ ExcC K D ∧ XdAt H d ∧ xs = [.ref a, c] ∧ ClsV c cv ∧ PySem.W.kitOne K (.ref D) cv = some b ∧ Q (.bl b) H
section
variable {X : Cx} {a : Addr} {oe : Obj} {cls : Value} {d : Option Addr} {pn : List (Addr × Obj)}
theorem inst_of {D : Addr} {pins : List (Addr × Obj)} {σ : L2.St} {H : Hp} {s : Shared} (hz : Zc (.ref D) d oe) (hf : ∃ vs, oe.data = .fields vs) (I : L2.Inv (X.suite a ((a, oe) :: pn)) pins σ H s) (ea : XdAt H d) : ∃ od, PySem.W.InstAt s.heap a oe D od := by
  obtain ⟨hget, _⟩ := I.pin (a, oe) (List.mem_append.mpr (.inl List.mem_cons_self))
  obtain ⟨fs, hv⟩ := hf
  rcases ea with rfl | ⟨dd, vs, rfl, ea⟩
  · exact ⟨none, ⟨hget, hz.1, by unfold PySem.W.notCls; rw [hv] <;> rfl, by rw [hz.2]; trivial⟩⟩
  have hx : ObjOk X.prog X.w H s.heap dd (.xd vs) := I.hok dd _ ea
  obtain ⟨mA, hns, hr⟩ := hx
  obtain ⟨od, ho, hl⟩ := lookIn_ns hns
  exact ⟨some od, ⟨hget, hz.1, by unfold PySem.W.notCls; rw [hv] <;> rfl, by rw [hz.2]; exact ho⟩⟩
theorem call_isO (hz : Zc cls d oe) (hf : ∃ vs, oe.data = .fields vs) : CallR (X.suite a ((a, oe) :: pn)) (.builtin "isinstance") (rIsO X.K a cls d) := by
  intro pins s σ H xs us Q I r h
  obtain ⟨D, c, cv, b, rfl, T, ea, rfl, k, e, q⟩ := h
  obtain ⟨u1, u2, rfl, r1, r2⟩ := vals2 r
  cases (show u1 = Value.ref a from r1)
  have e2 := k.eq r2
  subst e2
  obtain ⟨od, J⟩ := inst_of hz hf I ea
  exact PySem.W.kia_one (PySem.W.kitx_excO T) I.kIn J e (fun z => nomatch z) fun tk => ⟨.bl b, H, I.tok tk, rfl, q⟩
def tXfO (K : PySem.W.Frag) (a : Addr) (cls : Value) (d : Option Addr) (f : Str) (te : TE) : TE := fun σ H Q => te σ H fun x H1 => x = .ref a ∧ ∃ (D dd : Addr) (fs : List (Str × V)) (v : V), cls = .ref D ∧ XfC K D ∧ PySem.W.findIn K (.ref D) f = some none ∧ d = some dd ∧ H1 dd = some (.xd fs) ∧ fs.lookup f = some v ∧ Q v H1
theorem pe_xfO {e : Expr} {te : TE} {pos : Pos} {n : Str} (hz : Zc cls d oe) (hf : ∃ vs, oe.data = .fields vs) (he : PE (X.suite a ((a, oe) :: pn)) e te) (hb : attributeBase e n X.env (eval e X.env) = eval e X.env := by rfl) :
    PE (X.suite a ((a, oe) :: pn)) (.Attribute e n pos) (tXfO X.K a cls d n te) := by
  refine ⟨fun pins s σ H Q I h => ?_⟩
  refine attr_of hb (thn (he.run pins s σ H _ I h) fun u s1 hh => ?_)
  obtain ⟨x, H1, I1, rx, ex, D, dd, fs, v, rfl, T, hno, rfl, ea, l, q⟩ := hh
  subst ex
  obtain rfl : u = Value.ref a := rx
  obtain ⟨ha, _⟩ := I1.pin (a, oe) (List.mem_append_left _ List.mem_cons_self)
  obtain ⟨vs, hd⟩ := hf
  have hx : ObjOk X.prog X.w H1 s1.heap dd (.xd fs) := I1.hok dd _ ea
  obtain ⟨mA, hns, hr⟩ := hx
  obtain ⟨od, ho, hl⟩ := lookIn_ns hns
  obtain ⟨u, hu, ru⟩ := RelO.some_of (v := v) (o := mA n) (by rw [← l]; exact hr n)
  have J : PySem.W.InstAt s1.heap a oe D (some od) := ⟨ha, hz.1, by unfold PySem.W.notCls; rw [hd] <;> rfl, by rw [hz.2]; exact ho⟩
  exact HandSPX.exc_get I1.kIn J T.ga T.gg T.exC (PySem.W.findObj_own T.hdC hno rfl (by rw [hl, hu])) (handed_of ru) ⟨v, H1, I1.tok _, ru, q⟩
end
end TW
set_option linter.all false
set_option Elab.async false
set_option maxRecDepth 100000
namespace TW
open PySem PySem.Spec PyProof.Rows L2
abbrev Fs := List (Str × PyData)
structure SuK (i : Nat) (mg : Str → Option Value) (a : Addr) (cls : Value) (d : Option Addr) (c : Str) (fs : Fs) (P : Addr → Prop) (G : Gh) (σ : L2.St) (H : Hp) : Prop where
  s : σ[i]? = some (some (V.ref a))
  c : mg c = some cls
  d : (fs = [] ∧ d = none) ∨ ∃ (dd : Addr) (vs : List (Str × V)), d = some dd ∧ P dd ∧ H dd = some (.xd vs) ∧ ∀ f y, fs.lookup f = some y → ∃ v, vs.lookup f = some v ∧ Fz G.F H v y
section
variable {P : Addr → Prop} {G G' : Gh} {σ σ' : L2.St} {H H' : Hp} {s s' : Sx} {v : V} {o : Opd} {X : Cx} {k i : Nat} {mg : Str → Option Value} {a : Addr} {cls : Value} {d : Option Addr} {c : Str} {fs : Fs}
theorem SuK.ext (K : SuK i mg a cls d c fs P G σ H) (x : Ext P G H G' H') (h : σ'[i]? = some (some (V.ref a))) : SuK i mg a cls d c fs P G' σ' H' :=
  ⟨h, K.c, K.d.elim .inl fun ⟨dd, vs, h1, h2, h3, h4⟩ => .inr ⟨dd, vs, h1, h2, (x.kX h2 h3 (fun _ z => nomatch z) fun _ z => nomatch z).trans h3, fun f y e => let ⟨v, e1, e2⟩ := h4 f y e; ⟨v, e1, e2.ext x⟩⟩⟩
theorem SuK.xd (K : SuK i mg a cls d c fs P G σ H) : XdAt H d := K.d.elim (fun q => .inl q.2) fun ⟨dd, vs, h1, _, h3, _⟩ => .inr ⟨dd, vs, h1, h3⟩
def ClXE (i : Nat) (mg : Str → Option Value) (te : Addr → Value → Option Addr → TE) (m : Str → Fs → M Opd) : Prop := ∀ a cls d c fs P G σ H s (Q : VK), SuK i mg a cls d c fs P G σ H → Rel P G σ H s → pw (m c fs) s (PostV P σ Q G H) (Wish.no.w P G H) → te a cls d σ H Q
def ClXT (i : Nat) (mg : Str → Option Value) (te : Addr → Value → Option Addr → TT) (m : Str → Fs → M Bool) : Prop := ∀ a cls d c fs P G σ H s (Q : Bool → Hp → Prop), SuK i mg a cls d c fs P G σ H → Rel P G σ H s → pw (m c fs) s (PostB P σ Q G H) (Wish.no.w P G H) → te a cls d σ H Q
def ClXA (i : Nat) (mg : Str → Option Value) (te : Addr → Value → Option Addr → TA) (m : Str → Fs → M (List Opd)) : Prop := ∀ a cls d c fs P G σ H s (Q : List V → Hp → Prop), SuK i mg a cls d c fs P G σ H → Rel P G σ H s → pw (m c fs) s (PostA P σ Q G H) (Wish.no.w P G H) → te a cls d σ H Q
structure SX (X : Cx) (i : Nat) (e : Expr) (m : Str → Fs → M Opd) : Prop where
  ex : ∃ te, (∀ a oe cls d pn, Zc cls d oe → (∃ vs, oe.data = .fields vs) → PE (X.suite a ((a, oe) :: pn)) e (te a cls d)) ∧ ClXE i X.mg te m
structure SXT (X : Cx) (i : Nat) (e : Expr) (m : Str → Fs → M Bool) : Prop where
  ex : ∃ te, (∀ a oe cls d pn, Zc cls d oe → (∃ vs, oe.data = .fields vs) → PT (X.suite a ((a, oe) :: pn)) e (te a cls d)) ∧ ClXT i X.mg te m
structure SXW (X : Cx) (i : Nat) (e : Expr) (m : Str → Fs → M Bool) : Prop where
  ex : ∃ te, (∀ a oe cls d pn, Zc cls d oe → (∃ vs, oe.data = .fields vs) → PW (X.suite a ((a, oe) :: pn)) e (te a cls d)) ∧ ClXT i X.mg te m
structure SXA (X : Cx) (i : Nat) (e : List Expr) (m : Str → Fs → M (List Opd)) : Prop where
  ex : ∃ te, (∀ a oe cls d pn, Zc cls d oe → (∃ vs, oe.data = .fields vs) → PA (X.suite a ((a, oe) :: pn)) e (te a cls d)) ∧ ClXA i X.mg te m
theorem ClXE.bind {α : Type} {te : Addr → Value → Option Addr → TE} {m : Str → Fs → M Opd} {f : Opd → M α} {Q : VK} {Qp : Gh → Hp → α → Sx → Prop} (z : ClXE i mg te m) (hm : Mono P Qp) (K : SuK i mg a cls d c fs P G σ H) (R : Rel P G σ H s) (hw : pw (m c fs >>= f) s (Qp G H) (Wish.no.w P G H))
    (k : ∀ o s1 G1 v H1, Ext P G H G1 H1 → SuK i mg a cls d c fs P G1 σ H1 → Rel P G1 σ H1 s1 → OR G1 σ H1 v o → pw (f o) s1 (Qp G1 H1) (Wish.no.w P G1 H1) → Q v H1) : te a cls d σ H Q := by
  rw [pw_bind] at hw
  exact z a cls d c fs P G σ H s Q K R (pw_mono hw (fun o s1 h G1 v H1 x R1 r => k o s1 G1 v H1 x (K.ext x K.s) R1 r (pw_ext hm x h)) fun _ q => q)
theorem ClXT.bind {α : Type} {te : Addr → Value → Option Addr → TT} {m : Str → Fs → M Bool} {f : Bool → M α} {Q : Bool → Hp → Prop} {Qp : Gh → Hp → α → Sx → Prop} (z : ClXT i mg te m) (hm : Mono P Qp) (K : SuK i mg a cls d c fs P G σ H) (R : Rel P G σ H s) (hw : pw (m c fs >>= f) s (Qp G H) (Wish.no.w P G H))
    (k : ∀ o s1 G1 H1, Ext P G H G1 H1 → SuK i mg a cls d c fs P G1 σ H1 → Rel P G1 σ H1 s1 → pw (f o) s1 (Qp G1 H1) (Wish.no.w P G1 H1) → Q o H1) : te a cls d σ H Q := by
  rw [pw_bind] at hw
  exact z a cls d c fs P G σ H s Q K R (pw_mono hw (fun o s1 h G1 H1 x R1 => k o s1 G1 H1 x (K.ext x K.s) R1 (pw_ext hm x h)) fun _ q => q)
theorem ClXA.bind {α : Type} {te : Addr → Value → Option Addr → TA} {m : Str → Fs → M (List Opd)} {f : List Opd → M α} {Q : List V → Hp → Prop} {Qp : Gh → Hp → α → Sx → Prop} (z : ClXA i mg te m) (hm : Mono P Qp) (K : SuK i mg a cls d c fs P G σ H) (R : Rel P G σ H s) (hw : pw (m c fs >>= f) s (Qp G H) (Wish.no.w P G H))
    (k : ∀ o s1 G1 v H1, Ext P G H G1 H1 → SuK i mg a cls d c fs P G1 σ H1 → Rel P G1 σ H1 s1 → ORs G1 σ H1 v o → pw (f o) s1 (Qp G1 H1) (Wish.no.w P G1 H1) → Q v H1) : te a cls d σ H Q := by
  rw [pw_bind] at hw
  exact z a cls d c fs P G σ H s Q K R (pw_mono hw (fun o s1 h G1 v H1 x R1 r => k o s1 G1 v H1 x (K.ext x K.s) R1 r (pw_ext hm x h)) fun _ q => q)
theorem sx_of {e : Expr} {m : M Opd} (h : ∀ a oe pn, Sd (X.suite a ((a, oe) :: pn)) Wish.no e m) : SX X i e (fun _ _ => m) :=
  ⟨fun _ _ _ => rdE Wish.no m, fun a oe cls d pn _ _ => (h a oe pn).pe, fun a cls d c fs P G σ H s Q K R hw => ⟨P, G, s, R, hw⟩⟩
def isM (tab : Str → Option Bool) (c : Str) : M Opd := match tab c with
  | some b => pure (.val (.bool b))
  | none => stuck
theorem sx_is (tab : Str → Option Bool) {x : Str} {cv : V} {cw : Value} {e2 : Expr} {p p1 pos : Pos} (hi : X.N[i]? = some x) (hv : Vis X.env.scope x) (hg : Gl X "isinstance") (hm : X.mg "isinstance" = none) (hB : bootBuiltins "isinstance" = some (.builtin "isinstance"))
    (pt : ∀ a oe pn, PE (X.suite a ((a, oe) :: pn)) e2 (tC cv)) (cvok : ClsV cv cw) (hk : ∀ c b, tab c = some b → ∃ D, X.mg c = some (.ref D) ∧ ExcC X.K D ∧ PySem.W.kitOne X.K (.ref D) cw = some b)
    (hd : (x == ("__debug__" : Str)) = false := by decide) (hcd : (x == ("__classdict__" : Str)) = false := by decide)
    (he : ∀ a oe pn, starEach [.Name x p1, e2] (X.suite a ((a, oe) :: pn)).env = (false, eval (.Name x p1) X.env) :: starEach [e2] X.env := by intros; rfl) (he2 : ∀ a oe pn, starEach [e2] (X.suite a ((a, oe) :: pn)).env = [(false, eval e2 X.env)] := by intros; rfl) (hpl : (backTo pos (starEach [e2] X.env)).any (·.1) = false := by rfl) :
    SX X i (.Call (.Name "isinstance" p) [.Name x p1, e2] [] pos) (fun c _ => isM tab c) := by
  refine ⟨fun a cls d => tCB (rIsO X.K a cls d) (tCons (tVar i) (tCons (tC cv) tNil)), fun a oe cls d pn hz hf => ?_, ?_⟩
  · exact pe_callB (X := X.suite a ((a, oe) :: pn)) (call_isO hz hf) hg hm hB (pa_cons (pe_var hi hv hd hcd) (pa_cons (pt a oe pn) pa_nil (he2 a oe pn)) (he a oe pn)) (by decide) (by decide) (he a oe pn) hpl
  · intro a cls d c fs P G σ H s Q K R hw
    have hw : pw (isM tab c) s (PostV P σ Q G H) (Wish.no.w P G H) := hw
    unfold isM at hw
    cases q : tab c with
    | none => rw [q] at hw; exact hw.elim
    | some b =>
      rw [q] at hw
      obtain ⟨D, h1, h2, h3⟩ := hk c b q
      have ec := K.c
      rw [h1] at ec
      cases ec
      exact ⟨_, K.s, D, cv, cw, b, rfl, h2, K.xd, rfl, cvok, h3, hw G _ H .refl R (.bl b)⟩
def fldM (ok : Str → Bool) (f : Str) (c : Str) (fs : Fs) : M Opd := if ok c = true then (match fs.lookup f with
  | some y => pure (.val y)
  | none => stuck) else stuck
theorem sx_fld (ok : Str → Bool) {x f : Str} {p1 pos : Pos} (hi : X.N[i]? = some x) (hv : Vis X.env.scope x) (hk : ∀ c, ok c = true → ∃ D, X.mg c = some (.ref D) ∧ XfC X.K D ∧ PySem.W.findIn X.K (.ref D) f = some none)
    (hd : (x == ("__debug__" : Str)) = false := by decide) (hcd : (x == ("__classdict__" : Str)) = false := by decide) (hb : attributeBase (.Name x p1) f X.env (eval (.Name x p1) X.env) = eval (.Name x p1) X.env := by rfl) :
    SX X i (.Attribute (.Name x p1) f pos) (fun c fs => fldM ok f c fs) := by
  refine ⟨fun a cls d => tXfO X.K a cls d f (tVar i), fun a oe cls d pn hz hf => pe_xfO hz hf (pe_var hi hv hd hcd) hb, ?_⟩
  intro a cls d c fs P G σ H s Q K R hw
  have hw : pw (fldM ok f c fs) s (PostV P σ Q G H) (Wish.no.w P G H) := hw
  unfold fldM at hw
  split at hw
  · rename_i hok
    cases q : fs.lookup f with
    | none => rw [q] at hw; exact hw.elim
    | some y =>
      rw [q] at hw
      obtain ⟨D, h1, h2, h3⟩ := hk c hok
      rcases K.d with ⟨e0, _⟩ | ⟨dd, vs, e1, e2, e3, e4⟩
      · rw [e0] at q; cases q
      obtain ⟨v, l, z⟩ := e4 f y q
      have ec := K.c
      rw [h1] at ec
      cases ec
      exact ⟨_, K.s, rfl, D, dd, vs, v, rfl, h2, h3, e1, e3, l, hw G v H .refl R z⟩
  · exact hw.elim
theorem clx_val {te : Addr → Value → Option Addr → TE} {m : Str → Fs → M Opd} (z : ClXE i mg te m) : ClXT i mg (fun a cls d σ H Q => te a cls d σ H fun x H1 => ∃ c, x = .bl c ∧ Q c H1) (fun c fs => tVal (m c fs)) := by
  intro a cls d c fs P G σ H s Q K R hw
  unfold tVal at hw
  refine z.bind PostB.mono K R hw fun o1 s1 G1 v1 H1 x1 K1 R1 r1 hw1 => ?_
  obtain ⟨d, c1, hw2⟩ := peek_ok R1 r1 (Wish.no.stuck _ _ _) hw1
  rw [pw_optM (Wish.no.stuck _ _ _)] at hw2
  obtain ⟨b, eb, hw3⟩ := hw2
  cases d <;> simp only [boolD, reduceCtorEq] at eb
  cases eb
  exact ⟨b, c1.bool_, hw3 G1 H1 .refl R1⟩
theorem sxt_val {e : Expr} {m : Str → Fs → M Opd} (h : SX X i e m) (he : ∀ whole, isTrue e X.env whole = (do let v ← whole; standAt e.pos; holding [v] (truthy v)) := by intro _; rfl) : SXT X i e (fun c fs => tVal (m c fs)) := by
  obtain ⟨te, pe, ce⟩ := h.ex
  exact ⟨_, fun a oe cls d pn hz hf => pt_val (X := X.suite a ((a, oe) :: pn)) (pe a oe cls d pn hz hf) he, clx_val ce⟩
theorem sxt_not {e : Expr} {pos : Pos} {m : Str → Fs → M Bool} (h : SXT X i e m) : SXT X i (.UnaryOp .Not e pos) (fun c fs => TW.tNot (m c fs)) := by
  obtain ⟨te, pe, ce⟩ := h.ex
  refine ⟨_, fun a oe cls d pn hz hf => pt_not (pe a oe cls d pn hz hf), ?_⟩
  intro a cls d c fs P G σ H s Q K R hw
  unfold TW.tNot at hw
  exact ce.bind PostB.mono K R hw fun b s1 G1 H1 x1 K1 R1 hw1 => hw1 G1 H1 .refl R1
theorem SXW.st {e : Expr} {m : Str → Fs → M Bool} (h : SXW X i e m) : SXT X i e m := let ⟨t, p, c⟩ := h.ex; ⟨t, fun a oe cls d pn hz hf => (p a oe cls d pn hz hf).pt, c⟩
theorem sxw_or1 {e : Expr} {pos : Pos} {m : Str → Fs → M Bool} (h : SXT X i e m) : SXW X i (.BoolOp .Or [e] pos) m := let ⟨t, p, c⟩ := h.ex; ⟨t, fun a oe cls d pn hz hf => pw_or1 (p a oe cls d pn hz hf), c⟩
theorem sxw_or {e b : Expr} {pos : Pos} {rest : List Expr} {ma mb : Str → Fs → M Bool} (ha : SXT X i e ma) (hb : SXW X i (.BoolOp .Or (b :: rest) pos) mb) : SXW X i (.BoolOp .Or (e :: b :: rest) pos) (fun c fs => TW.tOr (ma c fs) (mb c fs)) := by
  obtain ⟨ta, pa, ca⟩ := ha.ex
  obtain ⟨tb, pb, cb⟩ := hb.ex
  refine ⟨_, fun a oe cls d pn hz hf => pw_or (pa a oe cls d pn hz hf) (pb a oe cls d pn hz hf), ?_⟩
  intro a cls d c fs P G σ H s Q K R hw
  unfold TW.tOr at hw
  refine ca.bind PostB.mono K R hw fun b s1 G1 H1 x1 K1 R1 hw1 => ?_
  cases b with
  | false => exact cb a cls d c fs P G1 σ H1 s1 Q K1 R1 hw1
  | true => exact hw1 G1 H1 .refl R1
theorem sx_if {e1 e2 e3 : Expr} {pos : Pos} {mc : Str → Fs → M Bool} {ma mb : Str → Fs → M Opd} (hc : SXT X i e1 mc) (ha : SX X i e2 ma) (hb : SX X i e3 mb) : SX X i (.IfExp e1 e2 e3 pos) (fun c fs => eIf (mc c fs) (ma c fs) (mb c fs)) := by
  obtain ⟨tc, pc, cc⟩ := hc.ex
  obtain ⟨ta, pa, ca⟩ := ha.ex
  obtain ⟨tb, pb, cb⟩ := hb.ex
  refine ⟨_, fun a oe cls d pn hz hf => pe_ifExp (pc a oe cls d pn hz hf) (pa a oe cls d pn hz hf) (pb a oe cls d pn hz hf), ?_⟩
  intro a cls d c fs P G σ H s Q K R hw
  unfold eIf at hw
  refine cc.bind PostV.mono K R hw fun x s1 G1 H1 x1 K1 R1 hw1 => ?_
  cases x with
  | true => exact ca a cls d c fs P G1 σ H1 s1 Q K1 R1 hw1
  | false => exact cb a cls d c fs P G1 σ H1 s1 Q K1 R1 hw1
theorem sxa_nil : SXA X i [] (fun _ _ => aNil) := ⟨fun _ _ _ => tNil, fun a oe cls d pn _ _ => pa_nil, fun a cls d c fs P G σ H s Q K R hw => hw G [] H .refl R .nil⟩
theorem sxa_cons {e : Expr} {es : List Expr} {m : Str → Fs → M Opd} {r : Str → Fs → M (List Opd)} (h : SX X i e m) (hr : SXA X i es r) (hs : starEach (e :: es) X.env = (false, eval e X.env) :: starEach es X.env := by rfl) : SXA X i (e :: es) (fun c fs => aCons (m c fs) (r c fs)) := by
  obtain ⟨ta, pa, ca⟩ := h.ex
  obtain ⟨tb, pb, cb⟩ := hr.ex
  refine ⟨fun a cls d => tCons (ta a cls d) (tb a cls d), fun a oe cls d pn hz hf => pa_cons (X := X.suite a ((a, oe) :: pn)) (pa a oe cls d pn hz hf) (pb a oe cls d pn hz hf) hs, ?_⟩
  intro a cls d c fs P G σ H s Q K R hw
  unfold aCons at hw
  refine ca.bind PostA.mono K R hw fun o1 s1 G1 v1 H1 x1 K1 R1 r1 hw1 => ?_
  exact cb.bind (Q := fun vs H2 => Q (v1 :: vs) H2) PostA.mono K1 R1 hw1 fun os s2 G2 vs H2 x2 K2 R2 r2 hw2 => hw2 G2 _ H2 .refl R2 (.cons (r1.ext x2) r2)
theorem sx_lst {es : List Expr} {pos : Pos} {m : Str → Fs → M (List Opd)} (h : SXA X i es m) : SX X i (.List es pos) (fun c fs => eNw (nLst (m c fs))) := by
  obtain ⟨ta, pa, ca⟩ := h.ex
  refine ⟨_, fun a oe cls d pn hz hf => pe_lst (pa a oe cls d pn hz hf), ?_⟩
  intro a cls d c fs P G σ H s Q K R hw
  unfold eNw nLst at hw
  rw [pw_bind, pw_bind] at hw
  refine ca a cls d c fs P G σ H s _ K R (pw_mono hw (fun os s1 h1 G1 vs H1 x1 R1 r1 => ?_) fun _ h => h)
  rw [pw_bind] at h1
  have h2 : pw (takes os >>= fun ds => (if ds.length ≤ lim then pure (.list ds) else stuck : M PyData) >>= fun d => pure (.val d)) s1 (PostV P σ Q G1 H1) (Wish.no.w P G1 H1) := by
    rw [pw_bind]
    refine pw_ext (W := Wish.no) (Qp := fun G H ds s' => pw ((if ds.length ≤ lim then pure (.list ds) else stuck : M PyData) >>= fun d => pure (.val d)) s' (PostV P σ Q G H) (Wish.no.w P G H)) (fun G0 H0 G2 H2 ds s2 x q => pw_ext PostV.mono x q) x1 (pw_mono h1 (fun ds s2 q => ?_) fun _ h => h)
    rw [pw_bind]
    exact q
  obtain ⟨G2, s2, ds, x2, R2, z, hw2⟩ := takes_ok PostV.mono R1 r1 h2
  rw [pw_bind] at hw2
  split at hw2
  · rename_i hl
    refine ⟨by rw [z.length]; exact lim_line hl, fun p hp => ?_⟩
    obtain ⟨x3, R3⟩ := R2.new (a := p) (u := .lst vs) hp
    exact hw2 _ _ _ x3 R3 (.lst (.inr rfl) upd_same (z.ext x3))
  · exact hw2.elim
end
end TW
set_option linter.all false
set_option Elab.async false
set_option maxRecDepth 100000
namespace TW
open PySem PySem.Spec PyProof.Rows L2
def PostX (i : Nat) (a : Addr) (P : Addr → Prop) (D : Ends) (G : Gh) (H : Hp) (f : Fl) (s' : Sx) : Prop := match f with
  | .nx => ∀ G' σ' H', Ext P G H G' H' → Rel P G' σ' H' s' → σ'[i]? = some (some (V.ref a)) → D.nx σ' H'
  | .rt d => ∀ G' σ' v H', Ext P G H G' H' → Rel P G' σ' H' s' → Fz G'.F H' v d → D.rt v H'
  | .bk => ∀ G' σ' H', Ext P G H G' H' → Rel P G' σ' H' s' → D.bk σ' H'
  | .ct => ∀ G' σ' H', Ext P G H G' H' → Rel P G' σ' H' s' → D.ct σ' H'
section
variable {P : Addr → Prop} {G G' : Gh} {σ σ' : L2.St} {H H' : Hp} {s s' : Sx} {v : V} {o : Opd} {X : Cx} {k i : Nat} {mg : Str → Option Value} {a : Addr} {cls : Value} {d : Option Addr} {c : Str} {fs : Fs} {W : Wish}
theorem PostX.mono {D : Ends} : Mono P (PostX i a P D) := fun G H G1 H1 f s x h => by
  cases f with
  | nx => exact fun G' σ' H' y => h G' σ' H' (x.trans y)
  | rt d => exact fun G' σ' v H' y => h G' σ' v H' (x.trans y)
  | bk => exact fun G' σ' H' y => h G' σ' H' (x.trans y)
  | ct => exact fun G' σ' H' y => h G' σ' H' (x.trans y)
def ClXS (i : Nat) (mg : Str → Option Value) (ts : Addr → Value → Option Addr → TS) (m : Str → Fs → M Fl) : Prop := ∀ a cls d c fs P G σ H s (D : Ends), SuK i mg a cls d c fs P G σ H → Rel P G σ H s → pw (m c fs) s (PostX i a P D G H) (Wish.no.w P G H) → ts a cls d D σ H
structure SXS (X : Cx) (i : Nat) (e : Stmt) (m : Str → Fs → M Fl) : Prop where
  ex : ∃ ts, (∀ a oe cls d pn, Zc cls d oe → (∃ vs, oe.data = .fields vs) → PS (X.suite a ((a, oe) :: pn)) e (ts a cls d)) ∧ ClXS i X.mg ts m
structure SXB (X : Cx) (i : Nat) (e : List Stmt) (m : Str → Fs → M Fl) : Prop where
  ex : ∃ ts, (∀ a oe cls d pn, Zc cls d oe → (∃ vs, oe.data = .fields vs) → PSs (X.suite a ((a, oe) :: pn)) e (ts a cls d)) ∧ ClXS i X.mg ts m
theorem sxb_nil : SXB X i [] (fun _ _ => TW.sSkip) := ⟨fun _ _ _ => tNext, fun a oe cls d pn _ _ => pss_nil, fun a cls d c fs P G σ H s D K R hw => hw G σ H .refl R K.s⟩
theorem sxb_one {e : Stmt} {m : Str → Fs → M Fl} (h : SXS X i e m) : SXB X i [e] m := let ⟨t, p, c⟩ := h.ex; ⟨fun a cls d => tSeq (t a cls d) tNext, fun a oe cls d pn hz hf => pss_cons (p a oe cls d pn hz hf) pss_nil, c⟩
theorem sxb_cons {e : Stmt} {r : List Stmt} {m mq : Str → Fs → M Fl} (h : SXS X i e m) (hr : SXB X i r mq) : SXB X i (e :: r) (fun c fs => TW.sSeq (m c fs) (mq c fs)) := by
  obtain ⟨t, p, z⟩ := h.ex
  obtain ⟨t', p', z'⟩ := hr.ex
  refine ⟨fun a cls d => tSeq (t a cls d) (t' a cls d), fun a oe cls d pn hz hf => pss_cons (p a oe cls d pn hz hf) (p' a oe cls d pn hz hf), ?_⟩
  intro a cls d c fs P G σ H s D K R hw
  unfold TW.sSeq at hw
  rw [pw_bind] at hw
  refine z a cls d c fs P G σ H s _ K R (pw_mono hw (fun f s1 h => ?_) fun _ h => h)
  cases f with
  | nx => exact fun G1 σ1 H1 x1 R1 e1 => z' a cls d c fs P G1 σ1 H1 s1 D (K.ext x1 e1) R1 (pw_ext PostX.mono x1 h)
  | rt d => exact h
  | bk => exact h
  | ct => exact h
theorem sxs_ret {e : Expr} {pos : Pos} {m : Str → Fs → M Opd} (h : SX X i e m) : SXS X i (.Return (some e) pos) (fun c fs => TW.sRet (m c fs)) := by
  obtain ⟨te, pe, ce⟩ := h.ex
  refine ⟨fun a cls d => tRet (te a cls d), fun a oe cls d pn hz hf => ps_ret (pe a oe cls d pn hz hf), ?_⟩
  intro a cls d c fs P G σ H s D K R hw
  unfold TW.sRet at hw
  refine ce.bind PostX.mono K R hw fun o1 s1 G1 v1 H1 x1 K1 R1 r1 hw1 => ?_
  obtain ⟨G2, s2, d, x2, R2, z, hw2⟩ := take_ok PostX.mono R1 r1 hw1
  exact hw2 _ _ _ _ .refl R2 z
theorem sxs_if {e : Expr} {b1 b2 : List Stmt} {pos : Pos} {mc : Str → Fs → M Bool} {ma mb : Str → Fs → M Fl} (hc : SXT X i e mc) (ha : SXB X i b1 ma) (hb : SXB X i b2 mb) : SXS X i (.If e b1 b2 pos) (fun c fs => TW.sIf (mc c fs) (ma c fs) (mb c fs)) := by
  obtain ⟨tc, pc, cc⟩ := hc.ex
  obtain ⟨ta, pa, ca⟩ := ha.ex
  obtain ⟨tb, pb, cb⟩ := hb.ex
  refine ⟨fun a cls d => tIfS (tc a cls d) (ta a cls d) (tb a cls d), fun a oe cls d pn hz hf => ps_if (pc a oe cls d pn hz hf) (pa a oe cls d pn hz hf) (pb a oe cls d pn hz hf), ?_⟩
  intro a cls d c fs P G σ H s D K R hw
  unfold TW.sIf at hw
  refine cc.bind PostX.mono K R hw fun x s1 G1 H1 x1 K1 R1 hw1 => ?_
  cases x with
  | true => exact ca a cls d c fs P G1 σ H1 s1 D K1 R1 hw1
  | false => exact cb a cls d c fs P G1 σ H1 s1 D K1 R1 hw1
theorem sxs_asg {j : Nat} {x : Str} {pos' pos : Pos} {e : Expr} {m : Str → Fs → M Opd} (hij : j ≠ i) (nd : X.N.Nodup) (h : SX X i e m) (hi : X.N[j]? = some x) (hx : Loc X.env.scope x) (hs : swapsWith e (some (.Name x pos')) pos.line X.env = pure false := by rfl) (hf : X.fn x = true ∨ X.env.scope.names.lookup x = some .local := by first | exact .inl rfl | exact .inr rfl | assumption) :
    SXS X i (.Assign [.Name x pos'] e pos) (fun c fs => TW.sAsg j (m c fs)) := by
  obtain ⟨te, pe, ce⟩ := h.ex
  refine ⟨_, fun a oe cls d pn hz hf2 => ps_set (X := X.suite a ((a, oe) :: pn)) nd hi hx (pe a oe cls d pn hz hf2) hs hf, ?_⟩
  intro a cls d c fs P G σ H s D K R hw
  unfold TW.sAsg at hw
  refine ce.bind PostX.mono K R hw fun o1 s1 G1 v1 H1 x1 K1 R1 r1 hw1 => ?_
  obtain ⟨G2, s2, d, x2, R2, z, hw2⟩ := take_ok PostX.mono R1 r1 hw1
  exact hw2 _ _ _ .refl (R2.setDat j z) (by rw [List.getElem?_set_ne hij]; exact K1.s)
def sTry (i : Nat) (hn : Str → Bool) (mb : M Fl) (hd : Str → Fs → M Fl) : M Fl := fun s => match mb s with
  | .ok p => .ok p
  | .error .stuck => .error .stuck
  | .error (.exc c fs r b) => if hn c = true ∧ fs.length ≤ 1000 ∧ i < r.length then (match hd c fs ⟨r.set i .no, b⟩ with
    | .ok (f, s') => .ok (f, ⟨s'.r.set i .no, s'.b⟩)
    | .error _ => .error .stuck) else .error .stuck
theorem takes_no : Takes X (fun _ _ _ _ => False) := fun u s' ⟨_, _, _, _, _, _, _, _, _, _, _, _, _, _, _, _, w⟩ => w.elim
theorem Cok.tr (C : Cok X k) (pn : List (Addr × Obj)) (xe : Value → Shared → Prop) : Cok (X.tr pn xe) k := ⟨C.calm, C.nd, C.room, C.gd, C.sm⟩
end
end TW
set_option linter.all false
set_option Elab.async false
set_option maxRecDepth 100000
namespace TW
open PySem PySem.Spec PyProof.Rows L2
structure FnXE (P : Program) (w : World) (K : PySem.W.Frag) (mg : Str → Option Value) (base : Heap) (k : Nat) (x : Str) (ps : List Str) (F : Sem) : Prop where
  ex : ∃ fd, FnE P w K mg base k (He.fAd K (x, none)) fd ps (spE mg ps.length F) ∧ Binds K fd ps []
section
variable {P : Program} {w : World} {K : PySem.W.Frag} {mg : Str → Option Value} {base : Heap} {X : Cx} {k : Nat} {W : Wish} {WW : WX}
theorem sd_callXE {F : Sem} {j : Nat} {ps : List Str} {x : Str} {p pos : Pos} {e : Expr} {es : List Expr} {ma : M (List Opd)} (C : Cok X k) (tk : Takes X WW) (Fo : FnXE X.prog X.w X.K X.mg X.base j x ps F) (hj : j ≤ k) (hg : Gl X x) (hm : X.mg x = some (.ref (He.fAd X.K (x, none))))
    (hk : PySem.W.keepIn X.K (.ref (He.fAd X.K (x, none))) = true) (ha : SdA X (wishX X.mg WW) (e :: es) ma) (hn : (e :: es).length = ps.length := by rfl) (hdb : (x == ("__debug__" : Str)) = false := by decide)
    (he : starEach (e :: es) X.env = (false, eval e X.env) :: starEach es X.env := by rfl) (hpl : (backTo pos (starEach es X.env)).any (·.1) = false := by rfl) : Sd X (wishX X.mg WW) (.Call (.Name x p) (e :: es) [] pos) (eCallX ps.length F ma) :=
  let ⟨_, a, b⟩ := Fo.ex
  sd_callE C tk a hj hg hm hk b ha hdb he hpl
theorem Sd.no {mg' : Str → Option Value} {e : Expr} {m : M Opd} (h : Sd X (wishX mg' WW) e m) : Sd X Wish.no e m :=
  let ⟨t, p, c⟩ := h.ex; ⟨t, p, fun P G σ H s Q R hw => c P G σ H s Q R (pw_mono hw (fun _ _ h => h) fun _ h => h.elim)⟩
theorem sd_callN {F : Sem} {j : Nat} {ps : List Str} {x : Str} {p pos : Pos} {e : Expr} {es : List Expr} {ma : M (List Opd)} (C : Cok X k) (Fo : FnXE X.prog X.w X.K X.mg X.base j x ps F) (hj : j ≤ k) (hg : Gl X x) (hm : X.mg x = some (.ref (He.fAd X.K (x, none))))
    (hk : PySem.W.keepIn X.K (.ref (He.fAd X.K (x, none))) = true) (ha : SdA X (wishX X.mg fun _ _ _ _ => False) (e :: es) ma) (hn : (e :: es).length = ps.length := by rfl) (hdb : (x == ("__debug__" : Str)) = false := by decide)
    (he : starEach (e :: es) X.env = (false, eval e X.env) :: starEach es X.env := by rfl) (hpl : (backTo pos (starEach es X.env)).any (·.1) = false := by rfl) : Sd X Wish.no (.Call (.Name x p) (e :: es) [] pos) (eCallX ps.length F ma) :=
  (sd_callXE C takes_no Fo hj hg hm hk ha hn hdb he hpl).no
end
section
variable {P : Addr → Prop} {G G' : Gh} {σ : L2.St} {H H' : Hp} {s s' : Sx} {v : V} {o : Opd} {W : Wish} {X : Cx} {k : Nat}
end
def RunsX (F : Sem) (as : List Arg) (b : Option Bx) (Q : PyData → Option Bx → Prop) (Ex : Str → Fs → Option Bx → Prop) : Prop := match F as b with
  | .ok (d, b') => Q d b'
  | .error .stuck => False
  | .error (.exc c fs _ b') => Ex c fs b'
theorem runsX_of {n : Nat} {body : M Fl} {as : List Arg} {b : Option Bx} {Q : PyData → Option Bx → Prop} {Ex : Str → Fs → Option Bx → Prop}
    (h : pw body ⟨as.map argSV ++ List.replicate (n - as.length) .no, b⟩ (fun f s => match f with
      | .rt d => Q d s.b
      | .nx => Q .none s.b
      | _ => False) (fun e => match e with
      | .stuck => False
      | .exc c fs _ b' => Ex c fs b')) : RunsX (runF n body) as b Q Ex := by
  unfold pw at h
  unfold RunsX runF
  cases q : body ⟨as.map argSV ++ List.replicate (n - as.length) .no, b⟩ with
  | error e => rw [q] at h; cases e with
    | stuck => exact h.elim
    | exc c fs r b' => exact h
  | ok p =>
    obtain ⟨f, s⟩ := p
    rw [q] at h
    cases f with
    | nx => exact h
    | rt d => exact h
    | bk => exact h.elim
    | ct => exact h.elim
theorem q_callXR {n : Nat} {F : Sem} {as : List Arg} {s : Sx} {R : PyData → Option Bx → Prop} {Ex : Str → Fs → Option Bx → Prop} {Q : PyData → Sx → Prop} {E : Er → Prop} (h : RunsX F as s.b R Ex) (hl : as.length = n) (hq : ∀ d b, R d b → Q d ⟨s.r, b⟩) (he : ∀ c fs b, Ex c fs b → E (.exc c fs s.r b)) : pw (callX n F as) s Q E := by
  unfold RunsX at h
  unfold pw callX
  rw [if_neg (by simp [hl])]
  cases q : F as s.b with
  | ok p => rw [q] at h; exact hq _ _ h
  | error e =>
    rw [q] at h
    cases e with
    | stuck => exact h.elim
    | exc c fs r b => exact he _ _ _ h
end TW
set_option linter.all false
set_option Elab.async false
set_option maxRecDepth 100000
namespace TW
open PySem PySem.Spec PyProof.Rows L2
theorem tb_ValueError : bootBuiltins "ValueError" = some (.type "ValueError") := by decide +kernel
def tabL (l : List (Str × Bool)) (c : Str) : Option Bool := l.lookup c
theorem tab_nil {Pd : Str → Bool → Prop} : ∀ c b, tabL [] c = some b → Pd c b := fun c b h => by cases h
theorem tab_cons {Pd : Str → Bool → Prop} {x : Str} {b : Bool} {l : List (Str × Bool)} (h : Pd x b) (hr : ∀ c b, tabL l c = some b → Pd c b) : ∀ c b', tabL ((x, b) :: l) c = some b' → Pd c b' := fun c b' e => by
  unfold tabL List.lookup at e
  by_cases hx : c = x
  · subst hx
    simp at e
    rw [← e]
    exact h
  · have : (c == x) = false := by simpa using hx
    rw [this] at e
    exact hr c b' e
def inL (l : List Str) (c : Str) : Bool := l.contains c
theorem in_nil {Pd : Str → Prop} : ∀ c, inL [] c = true → Pd c := fun c h => by cases h
theorem in_cons {Pd : Str → Prop} {x : Str} {l : List Str} (h : Pd x) (hr : ∀ c, inL l c = true → Pd c) : ∀ c, inL (x :: l) c = true → Pd c := fun c e => by
  unfold inL at e
  rw [List.contains_cons, Bool.or_eq_true] at e
  rcases e with e | e
  · rw [beq_iff_eq.mp e]; exact h
  · exact hr c e
structure IniX (P : Program) (w : World) (K : PySem.W.Frag) (mg : Str → Option Value) (base : Heap) (x : Str) (fl ps : List Str) : Prop where
  ex : ∃ fd, FnOk P w K mg base CX0 1 (He.ma K (He.ga K x) "__init__") fd ps (spInit fl (He.ga K x)) ∧ Binds K fd ps []
def methAt (s : Stmt) (j : Nat) : Stmt := match s with
  | .ClassDef _ _ _ body _ _ _ _ _ _ _ => body.getD j (.Pass ⟨0, 0, 0, 0⟩)
  | _ => .Pass ⟨0, 0, 0, 0⟩
section
variable {P : Program} {w : World} {K : PySem.W.Frag} {mg : Str → Option Value} {base : Heap} {X : Cx} {k : Nat} {W : Wish} {WW : WX}
theorem ss_raiseX {x : Str} {fl ps : List Str} {p pos pos2 : Pos} {e : Expr} {es : List Expr} {ma : M (List Opd)} (Ck : Cok X k) (tk : Takes X WW) (hk : 2 ≤ k) (T : ExK X.K (He.ga X.K x) (He.ma X.K (He.ga X.K x) "__init__") fl) (I : IniX X.prog X.w X.K X.mg X.base x fl ps)
    (hg : Gl X x) (hm : X.mg x = some (.ref (He.ga X.K x))) (ha : SdA X (wishX X.mg WW) (e :: es) ma) (hfl : fl ≠ [])
    (hdb : (x == ("__debug__" : Str)) = false := by decide) (he : starEach (e :: es) X.env = (false, eval e X.env) :: starEach es X.env := by rfl) (hpl : (backTo pos (starEach es X.env)).any (·.1) = false := by rfl) :
    SdS X (wishX X.mg WW) (.Raise (some (.Call (.Name x p) (e :: es) [] pos)) none pos2) (sRaise x fl ma) := by
  obtain ⟨fd, F, b⟩ := I.ex
  obtain ⟨j, rfl⟩ : ∃ j, k = j + 1 := ⟨k - 1, by omega⟩
  exact ss_raise Ck tk T (F.mono (by omega)) b hg hm ha hfl hdb he hpl
theorem FnXE.of_body {f : Str} {qual : Str} {params : Arguments} {body : List Stmt} {scope : Scope} {dvs : List V} {kws : List (Str × V)} {N ps : List Str} {m : M Fl} {fd : FuncData} (n : Nat) (hb : Binds K fd ps [])
    (F : FunD K f qual params body scope dvs kws (He.fAd K (f, none)) fd) (S : FnScope N ps scope) (hsm : SmP base) (hn : N.length = n)
    (h : ∀ (cdv : Value) (A : Around) (outer : List Env) (s : Shared) (H : Hp) (E : XK), Cok (cxE P w K mg base N qual scope (He.fAd K (f, none)) cdv A outer s H E) k → SdB (cxE P w K mg base N qual scope (He.fAd K (f, none)) cdv A outer s H E) (wishX mg (wE E)) body m) :
    FnXE P w K mg base (k + 1) f ps (runF n m) := ⟨fd, fnE_of_body n F S hsm hn h, hb⟩
end
theorem q_throw {α : Type} {c : Str} {fl : List Str} {ds : List PyData} {s : Sx} {Q : α → Sx → Prop} {E : Er → Prop} (h1 : ds.length = fl.length) (h2 : ds.length ≤ 1000) : pw (throwM c fl ds : M α) s Q E ↔ E (.exc c (fl.zip ds) s.r s.b) := by
  unfold pw throwM
  rw [if_pos ⟨h1, h2⟩]
end TW
set_option linter.all false
set_option Elab.async false
set_option maxRecDepth 100000
namespace TW
open PySem PySem.Spec PyProof.Rows L2
section
variable {P : Addr → Prop} {G G' : Gh} {σ : L2.St} {H H' : Hp} {s s' : Sx} {v : V} {o : Opd} {W : Wish} {X : Cx} {k : Nat}
def nDictK (mk mv : M Opd) : M PyData := noX (do let q ← mk; let y ← peek q; if (kK y).isSome = true then (do let o ← mv; let d ← take o; pure (.dict [(y, d)])) else stuck)
inductive Pn where
  | dat (d : PyData)
  | own (d : PyData)
inductive Pend (G : Gh) (σ : L2.St) (H : Hp) (s : Sx) : (Addr → Prop) → List V → List Pn → Prop
  | nil {P : Addr → Prop} : Pend G σ H s P [] []
  | dat {P : Addr → Prop} {v : V} {d : PyData} {vs : List V} {ps : List Pn} : Fz G.F H v d → Pend G σ H s P vs ps → Pend G σ H s P (v :: vs) (.dat d :: ps)
  | own {P : Addr → Prop} {a : Addr} {d : PyData} {vs : List V} {ps : List Pn} : Ow G.F H a d → Free P G σ s a → Pend G σ H s (also P a) vs ps → Pend G σ H s P (.ref a :: vs) (.own d :: ps)
abbrev PostP (P : Addr → Prop) (σ : L2.St) (Q : List V → Hp → Prop) (G : Gh) (H : Hp) (ps : List Pn) (s' : Sx) : Prop := ∀ G' vs H', Ext P G H G' H' → Rel P G' σ H' s' → Pend G' σ H' s' P vs ps → Q vs H'
theorem PostP.mono {Q : List V → Hp → Prop} : Mono P (PostP P σ Q) := fun _ _ _ _ _ _ x q G' v H' y => q G' v H' (x.trans y)
structure SdP (X : Cx) (W : Wish) (es : List Expr) (m : M (List Pn)) : Prop where
  ex : ∃ ta, PA X es ta ∧ ∀ P G σ H s (Q : List V → Hp → Prop), Rel P G σ H s → pw m s (PostP P σ Q G H) (W.w P G H) → ta σ H Q
def pNil : M (List Pn) := pure []
def pDat (m : M Opd) (r : M (List Pn)) : M (List Pn) := do let o ← m; let d ← take o; let ps ← r; pure (.dat d :: ps)
def pOwn (m : M PyData) (r : M (List Pn)) : M (List Pn) := do let d ← m; let ps ← noX r; pure (.own d :: ps)
theorem sp_nil : SdP X W [] pNil := ⟨_, pa_nil, fun P G σ H s Q R hw => hw G [] H .refl R .nil⟩
theorem Free.keep {a : Addr} {d : PyData} (o : Ow G.F H a d) (f : Free P G σ s a) (x : Ext (also P a) G H G' H') (R : Rel (also P a) G' σ H' s') : Free P G' σ s' a :=
  ⟨fun q => Ow.nF x q f.f (.inr rfl) o, f.p, fun q => (R.bF a q).2.1 (.inr rfl), fun i d e q => by
    obtain ⟨b, k1, _, _, k2, _⟩ := R.own i d e
    rw [q] at k1
    cases k1
    exact k2 (.inr rfl)⟩
theorem sp_own {e : Expr} {es : List Expr} {m : M PyData} {r : M (List Pn)} (h : SdN X W e m) (hr : SdP X Wish.no es r) (hs : starEach (e :: es) X.env = (false, eval e X.env) :: starEach es X.env := by rfl) : SdP X W (e :: es) (pOwn m r) := by
  obtain ⟨te, pe, ce⟩ := h.ex
  obtain ⟨ta, pa, ca⟩ := hr.ex
  refine ⟨_, pa_cons pe pa hs, ?_⟩
  intro P G σ H s Q R hw
  unfold pOwn at hw
  rw [pw_bind] at hw
  refine ce P G σ H s _ R (pw_mono hw (fun d s1 h1 G1 a H1 x1 R1 ow f => ?_) fun _ h => h)
  have h1 := pw_ext (m := (noX r >>= fun ps => (pure (.own d :: ps) : M (List Pn)))) (W := W) PostP.mono x1 h1
  rw [pw_bind] at h1
  have h2 := pw_noX (W.stuck P G1 H1) h1
  have R2 := R1.also ow.tracked f ow.calm
  refine ca (also P a) G1 σ H1 s1 _ R2 (pw_mono h2 (fun ps s3 h3 G3 vs H3 x3 R3 pd => ?_) fun _ h => h.elim)
  have h3 : PostP P σ Q G1 H1 (.own d :: ps) s3 := h3
  exact h3 G3 (.ref a :: vs) H3 x3.less R3.less (.own (ow.sim x3.F x3.kF (x3.kP a (.inr rfl) f.f)) (f.keep ow x3 R3) pd)
def setP : List Nat → List Pn → M Unit
  | [], [] => pure ()
  | i :: is, .dat d :: ps => do setS i (.dat d); setP is ps
  | i :: is, .own d :: ps => do setS i (.own d); setP is ps
  | _, _ => stuck
def sParP (is : List Nat) (m : M (List Pn)) : M Fl := do let ps ← m; setP is ps; pure .nx
def setV : List Nat → List V → L2.St → L2.St
  | i :: is, v :: vs, σ => setV is vs (σ.set i (some v))
  | _, _, σ => σ
theorem Pend.setDat {vs : List V} {ps : List Pn} (h : Pend G σ H s P vs ps) {i : Nat} {x : PyData} {y : Option V} : Pend G (σ.set i y) H { s with r := s.r.set i (.dat x) } P vs ps := by
  induction h with
  | nil => exact .nil
  | dat r _ ih => exact .dat r ih
  | own ow f _ ih =>
    refine .own ow ⟨f.f, f.p, f.b, fun j e ej q => ?_⟩ ih
    rcases set_get ej with ⟨_, e1, _⟩ | ⟨hj, e1⟩
    · cases e1
    · rw [List.getElem?_set_ne (Ne.symm hj)] at q
      exact f.o j e e1 q
theorem Pend.setOwn {vs : List V} {ps : List Pn} (h : Pend G σ H s P vs ps) {i : Nat} {x : PyData} {a : Addr} (ha : P a) : Pend G (σ.set i (some (.ref a))) H { s with r := s.r.set i (.own x) } P vs ps := by
  induction h with
  | nil => exact .nil
  | dat r _ ih => exact .dat r (ih ha)
  | @own P b d vs ps ow f _ ih =>
    refine .own ow ⟨f.f, f.p, f.b, fun j e ej q => ?_⟩ (ih (.inl ha))
    rcases set_get ej with ⟨rfl, e1, hi⟩ | ⟨hj, e1⟩
    · rw [List.getElem?_set] at q
      rw [if_pos rfl] at q
      split at q
      · cases q
        exact f.p ha
      · cases q
    · rw [List.getElem?_set_ne (Ne.symm hj)] at q
      exact f.o j e e1 q
theorem setP_ok {D : Ends} : ∀ {is : List Nat} {ps : List Pn} {vs : List V} {P' : Addr → Prop} {σ : L2.St} {s : Sx}, (∀ a, P a → P' a) → Rel P G σ H s → Pend G σ H s P' vs ps → pw (setP is ps) s (fun _ s' => PostS P D G H .nx s') (W.w P G H) → is.length = vs.length ∧ D.nx (setV is vs σ) H
  | [], _, _, _, _, _, _, R, .nil, hw => ⟨rfl, hw G _ H .refl R⟩
  | [], _, _, _, _, _, _, _, .dat _ _, hw => absurd hw (W.stuck _ _ _)
  | [], _, _, _, _, _, _, _, .own _ _ _, hw => absurd hw (W.stuck _ _ _)
  | _ :: _, _, _, _, _, _, _, _, .nil, hw => absurd hw (W.stuck _ _ _)
  | i :: is, _, _, _, _, _, hP, R, .dat r pd, hw => by
    obtain ⟨h1, h2⟩ := setP_ok (is := is) hP (R.setDat i r) (pd.setDat (i := i)) hw
    exact ⟨by simp [h1], h2⟩
  | i :: is, _, _, _, _, _, hP, R, .own ow f pd, hw => by
    obtain ⟨h1, h2⟩ := setP_ok (is := is) (fun a h => .inl (hP a h)) (R.setOwn i ow ⟨f.f, fun q => f.p (hP _ q), f.b, f.o⟩) (pd.setOwn (i := i) (.inr rfl)) hw
    exact ⟨by simp [h1], h2⟩
theorem ss_parP {i j : Nat} {x y : Str} {a b : Expr} {px py pt pos : Pos} {kt k2 : Nat} {pt2 : Pos} {m : M (List Pn)} (h : SdP X W [a, b] m)
    (hp : ∀ ta, PA X [a, b] ta → PS X (.Assign [.Tuple [.Name x px, .Name y py] kt pt] (.Tuple [a, b] k2 pt2) pos) (tPar i j ta)) : SdS X W (.Assign [.Tuple [.Name x px, .Name y py] kt pt] (.Tuple [a, b] k2 pt2) pos) (sParP [i, j] m) := by
  obtain ⟨ta, pa, ca⟩ := h.ex
  refine ⟨_, hp ta pa, ?_⟩
  intro P G σ H s D R hw
  unfold sParP at hw
  rw [pw_bind] at hw
  refine ca P G σ H s _ R (pw_mono hw (fun ps s1 h1 G1 vs H1 x1 R1 pd => ?_) fun _ h => h)
  have h1 := pw_ext (m := (setP [i, j] ps >>= fun _ => (pure .nx : M Fl))) (W := W) PostS.mono x1 h1
  rw [pw_bind] at h1
  obtain ⟨h2, h3⟩ := setP_ok (P' := P) (fun _ h => h) R1 pd h1
  match vs, h2 with
  | [u, v], _ => exact ⟨u, v, rfl, h3⟩
end
end TW
set_option linter.all false
set_option Elab.async false
set_option maxRecDepth 100000
namespace TW
open PySem PySem.Spec PyProof.Rows L2
section
variable {P : Addr → Prop} {G G' : Gh} {σ : L2.St} {H H' : Hp} {s s' : Sx} {v : V} {o : Opd} {W : Wish} {X : Cx} {k : Nat}
def isDic : PyData → Bool
  | .dict ds => !ds.isEmpty
  | _ => false
def getDD : PyData → PyData → Option PyData
  | .dict ds, y => if fits y ds = true ∧ ds ≠ [] then some ((look y ds).getD .none) else none
  | _, _ => none
def eGet1 (a b : M Opd) : M Opd := do let o ← a; let x0 ← peek o; if isDic x0 = true then (do let p ← b; let x ← peek o; let y ← peek p; let z ← optM (getDD x y); pure (.val z)) else stuck
def keysI : List (PyData × PyData) → Option (List Int)
  | [] => some []
  | (.int i, _) :: r => (keysI r).map (i :: ·)
  | _ => none
def sortI (ns : List Int) : List Int := ns.mergeSort fun a b => decide (a ≤ b)
def sortedA : List PyData → Option PyData
  | [.list ds] => (intsOf ds).map fun ns => .list ((sortI ns).map PyData.int)
  | [.dict ds] => (keysI ds).bind fun ns => if ns.length < 64 ∧ ds ≠ [] then some (.list ((sortI ns).map PyData.int)) else none
  | _ => none
theorem sortI_one {ns ns' : List Int} (hp : ns'.Perm ns) (hs : ns'.Pairwise (· ≤ ·)) : ns' = sortI ns := by
  refine sorted_one (hp.trans (List.mergeSort_perm ns _).symm) hs ?_
  refine (List.pairwise_mergeSort (le := fun a b => decide (a ≤ b)) (fun a b c h1 h2 => ?_) (fun a b => ?_) ns).imp fun h => of_decide_eq_true h
  · exact decide_eq_true (Int.le_trans (of_decide_eq_true h1) (of_decide_eq_true h2))
  · simp only [Bool.or_eq_true, decide_eq_true_eq]
    omega
theorem rgV_D {F : Addr → Prop} {a b : Int} : FzA F H (rgV a b) (rgD a b) := by
  unfold rgV rgD
  induction (List.range (b - a).toNat) with
  | nil => exact .nil
  | cons x r ih => exact .cons (.int _) ih
def rgOk (a b : Int) : Bool := decide (-1000000 ≤ a) && decide (a ≤ 1000000) && decide (-1000000 ≤ b) && decide (b ≤ 1000000)
theorem rgOk_ok {a b : Int} (h : rgOk a b = true) : RgOk a b := by
  unfold rgOk at h
  simp only [Bool.and_eq_true, decide_eq_true_eq] at h
  obtain ⟨⟨⟨h1, h2⟩, h3⟩, h4⟩ := h
  exact ⟨by omega, by omega, by omega, by omega, by omega⟩
def mRg1 (m : M Opd) : M (List PyData) := do let o ← m; let x ← peek o; match x with
  | .int j => if rgOk 0 j = true then pure (rgD 0 j) else stuck
  | _ => stuck
def mRg2 (m m2 : M Opd) : M (List PyData) := do let o ← m; let p ← m2; let x ← peek o; let y ← peek p; match x, y with
  | .int i, .int j => if rgOk i j = true then pure (rgD i j) else stuck
  | _, _ => stuck
def nLstRg (m : M (List PyData)) : M PyData := do let ds ← m; pure (.list ds)
def eTupRg (m : M (List PyData)) : M Opd := do let ds ← m; pure (.val (.tuple ds))
structure SdR (X : Cx) (W : Wish) (e : Expr) (m : M (List PyData)) : Prop where
  ex : ∃ te, PRg X e te ∧ ∀ P G σ H s (Q : Int → Int → Hp → Prop), Rel P G σ H s → pw m s (fun ds s' => ∀ G' H' a b, Ext P G H G' H' → Rel P G' σ H' s' → ds = rgD a b → RgOk a b → Q a b H') (W.w P G H) → te σ H Q
theorem sr_1 {e : Expr} {p pos : Pos} {m : M Opd} (hg : Gl X "range") (hm : X.mg "range" = none) (h : Sd X W e m) (hs : starEach [e] X.env = (false, eval e X.env) :: starEach [] X.env := by rfl) : SdR X W (.Call (.Name "range" p) [e] [] pos) (mRg1 m) := by
  obtain ⟨te, pe, ce⟩ := h.ex
  refine ⟨_, prg_1 hg hm pe hs, ?_⟩
  intro P G σ H s Q R hw
  unfold mRg1 at hw
  refine ce.bind (Qp := fun G H ds s' => ∀ G' H' a b, Ext P G H G' H' → Rel P G' σ H' s' → ds = rgD a b → RgOk a b → Q a b H') (fun G H G1 H1 ds s x q G' H' a b y => q G' H' a b (x.trans y)) R hw fun o1 s1 G1 v1 H1 x1 R1 r1 hw1 => ?_
  obtain ⟨d, c1, hw2⟩ := peek_ok R1 r1 (W.stuck _ _ _) hw1
  cases d with
  | int j =>
    have hw2 : pw (if rgOk 0 j = true then pure (rgD 0 j) else stuck) s1 (fun ds s' => ∀ G' H' a b, Ext P G1 H1 G' H' → Rel P G' σ H' s' → ds = rgD a b → RgOk a b → Q a b H') (W.w P G1 H1) := hw2
    split at hw2
    · rename_i hj
      exact ⟨j, c1.int_, hw2 G1 H1 0 j .refl R1 rfl (rgOk_ok hj)⟩
    · exact absurd hw2 (W.stuck _ _ _)
  | none => exact absurd hw2 (W.stuck _ _ _)
  | bool _ => exact absurd hw2 (W.stuck _ _ _)
  | str _ => exact absurd hw2 (W.stuck _ _ _)
  | list _ => exact absurd hw2 (W.stuck _ _ _)
  | tuple _ => exact absurd hw2 (W.stuck _ _ _)
  | dict _ => exact absurd hw2 (W.stuck _ _ _)
theorem sn_lstRg {e : Expr} {p pos : Pos} {m : M (List PyData)} (C : Cok X k) (hg : Gl X "list") (hm : X.mg "list" = none) (h : SdR X W e m) (hs : starEach [e] X.env = (false, eval e X.env) :: starEach [] X.env := by rfl) : SdN X W (.Call (.Name "list" p) [e] [] pos) (nLstRg m) := by
  obtain ⟨te, pe, ce⟩ := h.ex
  refine ⟨_, pe_listRg C.calm hg hm pe hs, ?_⟩
  intro P G σ H s Q R hw
  unfold nLstRg at hw
  rw [pw_bind] at hw
  refine ce P G σ H s _ R (pw_mono hw (fun ds s1 h1 G1 H1 a b x1 R1 e1 hab => ⟨hab, fun q hq => ?_⟩) fun _ h => h)
  obtain ⟨x3, R3, ow, f⟩ := R1.layOwn hq (rgV_D (a := a) (b := b))
  have h1 : PostN P σ Q G H (.list ds) s1 := h1
  rw [e1] at h1
  exact h1 _ _ _ (x1.trans x3) R3 ow f
theorem sd_tupRg {e : Expr} {p pos : Pos} {m : M (List PyData)} (C : Cok X k) (hg : Gl X "tuple") (hm : X.mg "tuple" = none) (h : SdR X W e m) (hs : starEach [e] X.env = (false, eval e X.env) :: starEach [] X.env := by rfl) : Sd X W (.Call (.Name "tuple" p) [e] [] pos) (eTupRg m) := by
  obtain ⟨te, pe, ce⟩ := h.ex
  refine ⟨_, pe_tupRg C.calm hg hm pe hs, ?_⟩
  intro P G σ H s Q R hw
  unfold eTupRg at hw
  rw [pw_bind] at hw
  refine ce P G σ H s _ R (pw_mono hw (fun ds s1 h1 G1 H1 a b x1 R1 e1 hab => ⟨hab, fun q hq => ?_⟩) fun _ h => h)
  obtain ⟨x3, R3, r3⟩ := R1.newTup hq (rgV_D (a := a) (b := b))
  have h1 : PostV P σ Q G H (.val (.tuple ds)) s1 := h1
  rw [e1] at h1
  exact h1 _ _ _ (x1.trans x3) R3 r3
end
end TW
set_option linter.all false
set_option Elab.async false
set_option maxRecDepth 100000
namespace TW
open PySem PySem.Spec PyProof.Rows L2
section
variable {P : Addr → Prop} {G G' : Gh} {σ : L2.St} {H H' : Hp} {s s' : Sx} {v : V} {o : Opd} {W : Wish} {X : Cx} {k : Nat}
end
end TW
set_option linter.all false
set_option Elab.async false
set_option maxRecDepth 100000
namespace TW
open PySem PySem.Spec PyProof.Rows L2
section
variable {P : Addr → Prop} {G G' : Gh} {σ : L2.St} {H H' : Hp} {s s' : Sx} {v : V} {o : Opd} {W : Wish} {X : Cx} {k : Nat}
end
end TW
set_option linter.all false
set_option Elab.async false
set_option maxRecDepth 100000
namespace TW
open PySem PySem.Spec PyProof.Rows L2
section
variable {P : Addr → Prop} {G G' : Gh} {σ : L2.St} {H H' : Hp} {s s' : Sx} {v : V} {o : Opd} {W : Wish} {X : Cx} {k : Nat}
end
end TW
set_option linter.all false
set_option Elab.async false
set_option maxRecDepth 100000
namespace TW
open PySem PySem.Spec PyProof.Rows L2
section
variable {P : Addr → Prop} {G G' : Gh} {σ : L2.St} {H H' : Hp} {s s' : Sx} {v : V} {o : Opd} {W : Wish} {X : Cx} {k : Nat}
def isLst : PyData → Bool
  | .list _ => true
  | _ => false
end
end TW
set_option linter.all false
set_option Elab.async false
set_option maxRecDepth 100000
namespace TW
open PySem PySem.Spec PyProof.Rows L2
section
variable {P : Addr → Prop} {G G' : Gh} {σ : L2.St} {H H' : Hp} {s s' : Sx} {v : V} {o : Opd} {W : Wish} {X : Cx} {k : Nat}
end
end TW
set_option linter.all false
set_option Elab.async false
set_option maxRecDepth 100000
namespace TW
open PySem PySem.Spec PyProof.Rows L2
section
variable {P : Addr → Prop} {G G' : Gh} {σ : L2.St} {H H' : Hp} {s s' : Sx} {v : V} {o : Opd} {W : Wish} {X : Cx} {k : Nat}
def topI : List Int → Option Int
  | [] => none
  | a :: r => match topI r with
    | some b => some (if a < b then b else a)
    | none => some a
theorem topI_ok : ∀ {ns : List Int} {m : Int}, topI ns = some m → m ∈ ns ∧ ∀ y ∈ ns, y ≤ m
  | [], m, h => by cases h
  | a :: r, m, h => by
    unfold topI at h
    cases e : topI r with
    | none =>
      rw [e] at h
      cases h
      have hr : r = [] := by
        cases r with
        | nil => rfl
        | cons b r => unfold topI at e; split at e <;> cases e
      subst hr
      exact ⟨by simp, fun y hy => by simp at hy; omega⟩
    | some b =>
      rw [e] at h
      obtain ⟨h1, h2⟩ := topI_ok e
      cases h
      by_cases hc : a < b
      · rw [if_pos hc]
        refine ⟨List.mem_cons_of_mem _ h1, fun y hy => ?_⟩
        rcases List.mem_cons.mp hy with q | q
        · omega
        · exact h2 y q
      · rw [if_neg hc]
        refine ⟨by simp, fun y hy => ?_⟩
        rcases List.mem_cons.mp hy with q | q
        · omega
        · have := h2 y q; omega
end
end TW
set_option linter.all false
set_option Elab.async false
namespace TW
open PySem PySem.Spec PyProof.Rows L2
def Bg (b : Option Bx) : Prop := ∃ x, b = some x ∧ x.small ≠ []
theorem bg_of (ns : List Int) : Bg (some (boxOf ns)) := ⟨_, rfl, boxOf_good ns⟩
theorem drawB_good {b : Bx} {n : Int} (h : b.small ≠ []) : (drawB b n).small ≠ [] := by
  unfold drawB
  split <;> exact h
theorem runs_draw {n : Int} {b : Option Bx} (h1 : 1 ≤ n) (h2 : n < 1073741824) (hb : Bg b) : Runs drawF [.box, .dat (.int n)] b fun d b' => ∃ i, d = .int i ∧ 0 ≤ i ∧ i < n ∧ Bg b' := by
  obtain ⟨x, rfl, hx⟩ := hb
  refine ⟨.int (drawV x n), some (drawB x n), ?_, _, rfl, (drawV_range h1).1, (drawV_range h1).2, _, rfl, drawB_good hx⟩
  unfold drawF
  exact if_pos ⟨h1, h2, hx⟩
def isIn (lo hi : Int) : PyData → Bool
  | .int i => decide (lo ≤ i) && decide (i ≤ hi)
  | _ => false
theorem c_eq {i j : Int} : cmpD .eq (.int i) (.int j) = some (.bool (decide (i = j))) := by
  rw [cmpD_eq]
  simp [shp, SeqAt.shaped, PyData.canLay0, PyData.depth, PyData.eqv]
  by_cases h : i = j <;> simp [h]
theorem c_ne {i j : Int} : cmpD .ne (.int i) (.int j) = some (.bool (!decide (i = j))) := by
  rw [cmpD_ne]
  simp [shp, SeqAt.shaped, PyData.canLay0, PyData.depth, PyData.eqv]
  by_cases h : i = j <;> simp [h]
theorem c_lt {i j : Int} : cmpD .lt (.int i) (.int j) = some (.bool (decide (i < j))) := rfl
theorem c_le {i j : Int} : cmpD .le (.int i) (.int j) = some (.bool (decide (i ≤ j))) := rfl
theorem c_gt {i j : Int} : cmpD .gt (.int i) (.int j) = some (.bool (decide (j < i))) := rfl
theorem c_ge {i j : Int} : cmpD .ge (.int i) (.int j) = some (.bool (decide (j ≤ i))) := rfl
theorem c_isN {d : PyData} : cmpD .isN d .none = some (.bool (isNoneD d)) := by cases d <;> rfl
theorem c_notN {d : PyData} : cmpD .notN d .none = some (.bool (!isNoneD d)) := by cases d <;> rfl
theorem b_add {i j : Int} : binD .add (.int i) (.int j) = some (.int (i + j)) := rfl
theorem b_sub {i j : Int} : binD .sub (.int i) (.int j) = some (.int (i - j)) := rfl
theorem ix0 {d : PyData} {ds : List PyData} : ixD' (.tuple (d :: ds)) (.int 0) = some d := by
  show L2.atI (d :: ds) 0 = some d
  exact atI_nat (j := 0) rfl
theorem ix1 {d e : PyData} {ds : List PyData} : ixD' (.tuple (d :: e :: ds)) (.int 1) = some e := by
  show L2.atI (d :: e :: ds) 1 = some e
  exact atI_nat (j := 1) rfl
theorem ixN {ds : List PyData} {j : Nat} {d : PyData} (h : ds[j]? = some d) : ixD' (.tuple ds) (.int (j : Nat)) = some d := atI_nat h
theorem ixLN {ds : List PyData} {j : Nat} {d : PyData} (h : ds[j]? = some d) : ixD' (.list ds) (.int (j : Nat)) = some d := atI_nat h
theorem big62_of {j : Int} (h0 : -1000000 ≤ j) (h1 : j ≤ 1000000) : big62 j = true := by
  unfold big62
  rw [Bool.and_eq_true]
  exact ⟨decide_eq_true (by omega), decide_eq_true (by omega)⟩
theorem allD_bools {bs : List Bool} : allD [.list (bs.map PyData.bool)] = some (.bool (bs.all id)) := by
  simp only [allD, boolsOf_map]
  rfl
theorem q_map {vs : List Nat} {mi : M (List PyData)} {t : PyData → M Unit} {e : M Opd} {s : Sx} {Q : PyData → Sx → Prop} {E : Er → Prop} (r0 : List SV) (b0 : Option Bx) (f : PyData → PyData)
    (h : pw mi s (fun ds s1 => s1 = ⟨r0, b0⟩ ∧ ds.length ≤ lim ∧ (∀ d ∈ ds, pw (t d) ⟨wipeR r0 vs, b0⟩ (fun _ s1 => pw (e >>= take) s1 (fun x s3 => f d = x ∧ wipeR s3.r vs = wipeR r0 vs ∧ s3.b = b0) fun _ => False) fun _ => False) ∧
      (∀ r1, (r1 = r0 ∨ wipeR r1 vs = wipeR r0 vs) → Q (.list (ds.map f)) ⟨backR r0 r1 vs, b0⟩)) E) : pw (nCmp vs mi t (pure true) e) s Q E := by
  refine q_cmp_map r0 b0 (fun d => some (f d)) (pw_mono h (fun ds s1 ⟨e1, hl, h1, h2⟩ => ⟨e1, hl, fun d hd => ?_, fun r1 hr => ?_⟩) fun _ h => h)
  · refine pw_mono (h1 d hd) (fun _ s2 h3 => ?_) fun _ h => h
    rw [pw_pure, if_pos rfl]
    exact pw_mono h3 (fun x s3 ⟨a, b⟩ => ⟨by rw [a], b⟩) fun _ h => h
  · rw [show ds.filterMap (fun d => some (f d)) = ds.map f from congrFun List.filterMap_eq_map ds]
    exact h2 r1 hr
theorem wW : type_of% (And.intro @b_add (And.intro @b_sub (And.intro @ix0 (And.intro @ix1 (And.intro @c_eq (And.intro @c_ne (And.intro @c_lt (And.intro @c_le (And.intro @c_gt (And.intro @c_ge (And.intro @c_isN (And.intro @c_notN (And.intro @Bool.not_true (And.intro @Bool.not_false (And.intro @Bool.true_and (And.intro @Bool.false_and (And.intro @Bool.and_false (And.intro @and_self (And.intro @and_true (And.intro @true_and (And.intro @and_false (And.intro @false_and (And.intro @decide_true (And.intro @decide_false (@List.append_nil.{0}))))))))))))))))))))))))) := And.intro @b_add (And.intro @b_sub (And.intro @ix0 (And.intro @ix1 (And.intro @c_eq (And.intro @c_ne (And.intro @c_lt (And.intro @c_le (And.intro @c_gt (And.intro @c_ge (And.intro @c_isN (And.intro @c_notN (And.intro @Bool.not_true (And.intro @Bool.not_false (And.intro @Bool.true_and (And.intro @Bool.false_and (And.intro @Bool.and_false (And.intro @and_self (And.intro @and_true (And.intro @true_and (And.intro @and_false (And.intro @false_and (And.intro @decide_true (And.intro @decide_false (@List.append_nil.{0}))))))))))))))))))))))))
end TW
set_option linter.all false
set_option Elab.async false
namespace TW
open PySem PySem.Spec PyProof.Rows L2
theorem okS_app {x y : Str} (hx : PyData.strOk x = true) (hy : PyData.strOk y = true) : PyData.strOk (x ++ y) = true := by
  show (x.cps ++ y.cps).all _ = true
  rw [Array.all_append, Bool.and_eq_true]
  exact ⟨hx, hy⟩
theorem char_ok (c : Char) : c.toNat < 0x110000 := by
  have h := c.valid
  have e : c.toNat = c.val.toNat := rfl
  rw [e]
  rcases h with h | h
  · exact Nat.lt_trans h (by decide)
  · exact h.2
theorem okS_of (s : String) : PyData.strOk (Str.ofString s) = true := by
  rw [Str.ofString_eq_toList]
  unfold PyData.strOk
  rw [List.all_toArray, List.all_map, List.all_eq_true]
  intro c _
  exact decide_eq_true (char_ok c)
theorem okS_from : ∀ {ts : List Str} {k : Nat} {acc : Str}, (∀ t ∈ ts, PyData.strOk t = true) → PyData.strOk acc = true → PyData.strOk (textFrom k acc ts) = true
  | [], _, _, _, h => h
  | t :: ts, k, acc, ht, h => by
    unfold textFrom
    refine okS_from (fun u hu => ht u (List.mem_cons_of_mem _ hu)) (okS_app (okS_app h ?_) (ht t List.mem_cons_self))
    split <;> exact okS_of _
theorem okS_join {sep : Str} (hs : PyData.strOk sep = true) : ∀ {ts : List Str}, (∀ t ∈ ts, PyData.strOk t = true) → PyData.strOk (Str.join sep ts) = true
  | [], _ => by show PyData.strOk Str.empty = true; decide +kernel
  | [t], h => h t (by simp)
  | t :: u :: r, h => by
    show PyData.strOk (t ++ sep ++ Str.join sep (u :: r)) = true
    exact okS_app (okS_app (h t (by simp)) hs) (okS_join hs fun v hv => h v (List.mem_cons_of_mem _ hv))
theorem from_len : ∀ {ts : List Str} {k : Nat} {acc : Str}, (textFrom k acc ts).length ≤ acc.length + piled ts
  | [], k, acc => by show acc.length ≤ _; omega
  | t :: r, k, acc => by
    unfold textFrom
    have h := from_len (ts := r) (k := k + 1) (acc := acc ++ (if k > 0 then ", " else "" : String) ++ t)
    have e : (acc ++ (if k > 0 then ", " else "" : String) ++ t : Str).length ≤ acc.length + 2 + t.length := by
      rw [strLen_append, strLen_append]
      have : ((if k > 0 then ", " else "" : String) : Str).length ≤ 2 := by split <;> decide
      omega
    rw [piled_cons]
    omega
theorem join_len : ∀ {ts : List Str}, (Str.join ", " ts).length ≤ piled ts
  | [] => Nat.zero_le _
  | t :: r => by
    have := join_length_add (t :: r) (by simp)
    omega
mutual
def tame : PyData → Bool
  | .none => true
  | .bool _ => true
  | .int i => decide (i.natAbs < 10 ^ 40)
  | .str x => decide ((reprText x).length ≤ 12) && PyData.strOk (reprText x) && PyData.strOk x
  | .list xs => tameAll xs
  | .tuple xs => tameAll xs
  | .dict kvs => tameKv kvs
def tameAll : List PyData → Bool
  | [] => true
  | x :: xs => tame x && tameAll xs
def tameKv : List (PyData × PyData) → Bool
  | [] => true
  | (k, v) :: r => (tame k && tame v) && tameKv r
end
mutual
def sz : PyData → Nat
  | .none => 4
  | .bool _ => 5
  | .int i => if i.natAbs < 1000 then 4 else 42
  | .str _ => 12
  | .list xs => 4 + szAll xs
  | .tuple xs => 4 + szAll xs
  | .dict kvs => 4 + szKv kvs
def szAll : List PyData → Nat
  | [] => 0
  | x :: xs => sz x + 2 + szAll xs
def szKv : List (PyData × PyData) → Nat
  | [] => 0
  | (k, v) :: r => sz k + 2 + sz v + 2 + szKv r
end
structure Shw (d : PyData) : Prop where
  s : d.showable = true
  l : d.shown.length ≤ sz d
  k : PyData.strOk d.shown = true
mutual
theorem tame_shw : ∀ {d : PyData}, tame d = true → Shw d
  | .none, _ => ⟨rfl, (by decide), okS_of _⟩
  | .bool b, _ => ⟨rfl, (by cases b <;> decide), (by cases b <;> exact okS_of _)⟩
  | .int i, h => by
    have h1 : i.natAbs < 10 ^ 40 := of_decide_eq_true (by simpa [tame] using h)
    refine ⟨?_, ?_, okS_of _⟩
    · show decide (i.natAbs.log2 < 1920) = true
      refine decide_eq_true ?_
      by_cases h0 : i.natAbs = 0
      · rw [h0]; decide
      · exact (Nat.log2_lt h0).mpr (Nat.lt_trans h1 (by decide +kernel))
    · show (Str.ofString (toString i)).length ≤ (if i.natAbs < 1000 then 4 else 42)
      rw [PySem.ofString_length]
      split
      · rename_i h2
        exact int_text_length_le10 (k := 3) (by decide) h2
      · exact Nat.le_trans (int_text_length_le10 (k := 40) (by decide) h1) (by decide)
  | .str x, h => by
    have h1 : ((reprText x).length ≤ 12 ∧ PyData.strOk (reprText x) = true) ∧ PyData.strOk x = true := by simpa [tame] using h
    have h1 := h1.1
    exact ⟨rfl, h1.1, h1.2⟩
  | .list xs, h => by
    obtain ⟨h1, h2, h3⟩ := tame_all (by simpa [tame] using h)
    refine ⟨h1, ?_, ?_⟩
    · show (textFrom 0 "[" (PyData.shownAll xs) ++ ("]" : Str)).length ≤ 4 + szAll xs
      rw [strLen_append]
      have h4 := from_len (ts := PyData.shownAll xs) (k := 0) (acc := "[")
      have e1 : (("[" : String) : Str).length = 1 := by decide
      have e2 : (("]" : String) : Str).length = 1 := by decide
      rw [e1] at h4
      rw [e2]
      omega
    · exact okS_app (okS_from h3 (okS_of _)) (okS_of _)
  | .tuple xs, h => by
    obtain ⟨h1, h2, h3⟩ := tame_all (by simpa [tame] using h)
    refine ⟨h1, ?_, ?_⟩
    · show (tupleText (PyData.shownAll xs)).length ≤ 4 + szAll xs
      unfold tupleText
      rw [strLen_append, strLen_append]
      have h4 := join_len (ts := PyData.shownAll xs)
      have e1 : (("(" : String) : Str).length = 1 := by decide
      have e2 : ((if (PyData.shownAll xs).length == 1 then ",)" else ")" : String) : Str).length ≤ 2 := by split <;> decide
      rw [e1]
      omega
    · unfold PyData.shown tupleText
      refine okS_app (okS_app (okS_of _) (okS_join (okS_of _) h3)) ?_
      split <;> exact okS_of _
  | .dict kvs, h => by
    obtain ⟨h1, h2, h3⟩ := tame_kv (by simpa [tame] using h)
    refine ⟨h1, ?_, ?_⟩
    · show (dictText (PyData.shownKv kvs)).length ≤ 4 + szKv kvs
      unfold dictText
      rw [strLen_append, strLen_append]
      have h4 := join_len (ts := PyData.shownKv kvs)
      have e1 : (("{" : String) : Str).length = 1 := by decide
      have e2 : (("}" : String) : Str).length = 1 := by decide
      rw [e1, e2]
      omega
    · exact okS_app (okS_app (okS_of _) (okS_join (okS_of _) h3)) (okS_of _)
theorem tame_all : ∀ {xs : List PyData}, tameAll xs = true → PyData.showableAll xs = true ∧ piled (PyData.shownAll xs) ≤ szAll xs ∧ ∀ t ∈ PyData.shownAll xs, PyData.strOk t = true
  | [], _ => ⟨rfl, Nat.le_refl _, fun _ h => by cases h⟩
  | x :: xs, h => by
    have h : tame x = true ∧ tameAll xs = true := by simpa [tameAll] using h
    obtain ⟨a1, a2, a3⟩ := tame_shw h.1
    obtain ⟨b1, b2, b3⟩ := tame_all h.2
    refine ⟨?_, ?_, ?_⟩
    · simp [PyData.showableAll, a1, b1]
    · show piled (x.shown :: PyData.shownAll xs) ≤ sz x + 2 + szAll xs
      rw [piled_cons]
      omega
    · intro t ht
      have ht : t ∈ x.shown :: PyData.shownAll xs := ht
      rcases List.mem_cons.mp ht with e | e
      · rw [e]; exact a3
      · exact b3 t e
theorem tame_kv : ∀ {xs : List (PyData × PyData)}, tameKv xs = true → PyData.showableKv xs = true ∧ piled (PyData.shownKv xs) ≤ szKv xs ∧ ∀ t ∈ PyData.shownKv xs, PyData.strOk t = true
  | [], _ => ⟨rfl, Nat.le_refl _, fun _ h => by cases h⟩
  | (k, v) :: xs, h => by
    have h : (tame k = true ∧ tame v = true) ∧ tameKv xs = true := by simpa [tameKv] using h
    obtain ⟨a1, a2, a3⟩ := tame_shw h.1.1
    obtain ⟨c1, c2, c3⟩ := tame_shw h.1.2
    obtain ⟨b1, b2, b3⟩ := tame_kv h.2
    refine ⟨?_, ?_, ?_⟩
    · simp [PyData.showableKv, a1, b1, c1]
    · show piled ((k.shown ++ ": " ++ v.shown) :: PyData.shownKv xs) ≤ sz k + 2 + sz v + 2 + szKv xs
      rw [piled_cons, strLen_append, strLen_append]
      have e1 : ((": " : String) : Str).length = 2 := by decide
      rw [e1]
      omega
    · intro t ht
      have ht : t ∈ (k.shown ++ ": " ++ v.shown) :: PyData.shownKv xs := ht
      rcases List.mem_cons.mp ht with e | e
      · rw [e]; exact okS_app (okS_app a3 (okS_of _)) c3
      · exact b3 t e
end
structure Tm (n m : Nat) (d : PyData) : Prop where
  t : tame d = true
  n : sz d ≤ n
  m : d.depth ≤ m
theorem Tm.mono {n m n' m' : Nat} {d : PyData} (h : Tm n m d) (hn : n ≤ n') (hm : m ≤ m') : Tm n' m' d := ⟨h.t, Nat.le_trans h.n hn, Nat.le_trans h.m hm⟩
theorem repr_tm {n m : Nat} {d : PyData} (h : Tm n m d) (hn : n ≤ 16000000) (hm : m ≤ 64) : reprD [d] = some (.str d.shown) := by
  have s := tame_shw h.t
  unfold reprD
  refine if_pos ?_
  rw [Bool.and_eq_true, Bool.and_eq_true]
  refine ⟨⟨showT_of s.s, decide_eq_true (Nat.le_trans h.m hm)⟩, decide_eq_true ?_⟩
  rw [sizeLine_eq]
  exact Nat.le_trans s.l (Nat.le_trans h.n (Nat.le_trans hn (by decide)))
structure TmA (n m : Nat) (ds : List PyData) : Prop where
  t : tameAll ds = true
  n : szAll ds ≤ n
  m : PyData.depthAll ds ≤ m
theorem Tm.tup {n m : Nat} {ds : List PyData} (h : TmA n m ds) : Tm (4 + n) (m + 1) (.tuple ds) := ⟨by simpa [tame] using h.t, by have := h.n; simp only [sz]; omega, by have := h.m; simp only [PyData.depth]; omega⟩
theorem Tm.lst {n m : Nat} {ds : List PyData} (h : TmA n m ds) : Tm (4 + n) (m + 1) (.list ds) := ⟨by simpa [tame] using h.t, by have := h.n; simp only [sz]; omega, by have := h.m; simp only [PyData.depth]; omega⟩
theorem TmA.nil : TmA 0 0 [] := ⟨rfl, Nat.le_refl _, Nat.le_refl _⟩
theorem TmA.cons {n m n' m' : Nat} {d : PyData} {ds : List PyData} (h : Tm n m d) (h' : TmA n' m' ds) : TmA (n + 2 + n') (max m m') (d :: ds) :=
  ⟨by simp only [tameAll, h.t, h'.t, Bool.and_self], by have := h.n; have := h'.n; simp only [szAll]; omega, by have := h.m; have := h'.m; simp only [PyData.depthAll]; omega⟩
theorem TmA.mono {n m n' m' : Nat} {d : List PyData} (h : TmA n m d) (hn : n ≤ n') (hm : m ≤ m') : TmA n' m' d := ⟨h.t, Nat.le_trans h.n hn, Nat.le_trans h.m hm⟩
theorem tm_tup {n m : Nat} {ds : List PyData} (h : Tm n m (.tuple ds)) : TmA (n - 4) (m - 1) ds ∧ 4 ≤ n ∧ 1 ≤ m := by
  have h1 := h.n
  have h2 := h.m
  simp only [sz] at h1
  simp only [PyData.depth] at h2
  exact ⟨⟨by simpa [tame] using h.t, by omega, by omega⟩, by omega, by omega⟩
theorem tma_append {xs ys : List PyData} : (tameAll (xs ++ ys) = (tameAll xs && tameAll ys)) ∧ szAll (xs ++ ys) = szAll xs + szAll ys ∧ PyData.depthAll (xs ++ ys) = max (PyData.depthAll xs) (PyData.depthAll ys) := by
  induction xs with
  | nil => simp [tameAll, szAll, PyData.depthAll]
  | cons x xs ih =>
    obtain ⟨a, b, c⟩ := ih
    simp only [List.cons_append, tameAll, szAll, PyData.depthAll, a, b, c, Bool.and_assoc, true_and]
    omega
theorem TmA.app {n m n' m' : Nat} {xs ys : List PyData} (h : TmA n m xs) (h' : TmA n' m' ys) : TmA (n + n') (max m m') (xs ++ ys) := by
  obtain ⟨a, b, c⟩ := tma_append (xs := xs) (ys := ys)
  exact ⟨by rw [a, h.t, h'.t]; rfl, by have := h.n; have := h'.n; omega, by have := h.m; have := h'.m; omega⟩
theorem TmA.of_app {n m : Nat} {xs ys : List PyData} (h : TmA n m (xs ++ ys)) : TmA n m xs ∧ TmA n m ys ∧ szAll xs + szAll ys ≤ n := by
  obtain ⟨a, b, c⟩ := tma_append (xs := xs) (ys := ys)
  obtain ⟨h1, h2, h3⟩ := h
  rw [a, Bool.and_eq_true] at h1
  exact ⟨⟨h1.1, by omega, by omega⟩, ⟨h1.2, by omega, by omega⟩, by omega⟩
theorem TmA.take {n m : Nat} {xs : List PyData} (h : TmA n m xs) (k : Nat) : TmA n m (xs.take k) := (TmA.of_app (ys := xs.drop k) (by rwa [List.take_append_drop])).1
theorem TmA.drop {n m : Nat} {xs : List PyData} (h : TmA n m xs) (k : Nat) : TmA n m (xs.drop k) := (TmA.of_app (xs := xs.take k) (by rwa [List.take_append_drop])).2.1
theorem TmA.mem {n m : Nat} {xs : List PyData} (h : TmA n m xs) {d : PyData} (hd : d ∈ xs) : Tm n m d := by
  obtain ⟨a, b, rfl⟩ := List.append_of_mem hd
  obtain ⟨_, h2, _⟩ := h.of_app
  obtain ⟨h3, h4, h5⟩ := h2
  simp only [tameAll, szAll, PyData.depthAll, Bool.and_eq_true] at h3 h4 h5
  exact ⟨h3.1, by omega, by omega⟩
theorem tma_len {xs : List PyData} : 2 * xs.length ≤ szAll xs := by
  induction xs with
  | nil => exact Nat.le_refl _
  | cons x xs ih => simp only [szAll, List.length_cons]; omega
theorem tma_rep {n m : Nat} {xs : List PyData} (h : TmA n m xs) : ∀ k : Nat, TmA (k * n) m (List.replicate k xs).flatten
  | 0 => ⟨rfl, Nat.zero_le _, Nat.zero_le _⟩
  | k + 1 => by
    rw [List.replicate_succ, List.flatten_cons]
    have := h.app (tma_rep h k)
    exact this.mono (by rw [Nat.succ_mul]; omega) (by omega)
theorem tma_rev {n m : Nat} : ∀ {xs : List PyData}, TmA n m xs → TmA n m xs.reverse := by
  intro xs h
  have key : ∀ xs : List PyData, tameAll xs.reverse = tameAll xs ∧ szAll xs.reverse = szAll xs ∧ PyData.depthAll xs.reverse = PyData.depthAll xs := by
    intro xs
    induction xs with
    | nil => exact ⟨rfl, rfl, rfl⟩
    | cons x xs ih =>
      obtain ⟨a, b, c⟩ := tma_append (xs := xs.reverse) (ys := [x])
      rw [List.reverse_cons, a, b, c, ih.1, ih.2.1, ih.2.2]
      refine ⟨?_, ?_, ?_⟩
      · simp only [tameAll, Bool.and_true]; rw [Bool.and_comm]
      · simp only [szAll]; omega
      · simp only [PyData.depthAll]; omega
  obtain ⟨a, b, c⟩ := key xs
  exact ⟨by rw [a]; exact h.t, by rw [b]; exact h.n, by rw [c]; exact h.m⟩
theorem tm_small {i : Int} (h : i.natAbs < 1000) : Tm 4 0 (.int i) := ⟨by simp only [tame]; exact decide_eq_true (Nat.lt_trans h (by decide +kernel)), by simp only [sz]; rw [if_pos h]; exact Nat.le_refl _, Nat.le_refl _⟩
theorem tm_none : Tm 4 0 .none := ⟨rfl, Nat.le_refl _, Nat.le_refl _⟩
end TW
set_option linter.all false
set_option Elab.async false
namespace TW
open PySem PySem.Spec PyProof.Rows L2
def inR (n : Int) (d : PyData) : Prop := ∃ i, d = .int i ∧ 0 ≤ i ∧ i < n
theorem ints_of {n : Int} : ∀ {xs : List PyData}, (∀ x ∈ xs, inR n x) → ∃ ts : List Int, xs = ts.map PyData.int ∧ ∀ t ∈ ts, 0 ≤ t ∧ t < n
  | [], _ => ⟨[], rfl, fun _ h => by cases h⟩
  | x :: xs, h => by
    obtain ⟨i, rfl, h1⟩ := h x (by simp)
    obtain ⟨ts, rfl, h2⟩ := ints_of fun y hy => h y (List.mem_cons_of_mem _ hy)
    exact ⟨i :: ts, rfl, fun t ht => by
      rcases List.mem_cons.mp ht with e | e
      · rw [e]; exact h1
      · exact h2 t e⟩
def rgN (m : Nat) : List PyData := (List.range m).map fun i => .int (i : Nat)
theorem rgD_nat {m : Nat} : rgD 0 (m : Int) = rgN m := by
  unfold rgD rgN
  rw [show ((m : Int) - 0).toNat = m by omega]
  apply List.map_congr_left
  intro i _
  rw [Int.zero_add]
theorem rgN_len {m : Nat} : (rgN m).length = m := by simp [rgN]
theorem rgN_mem {m : Nat} {d : PyData} (h : d ∈ rgN m) : ∃ j : Nat, d = .int (j : Int) ∧ j < m := by
  obtain ⟨j, hj, rfl⟩ := List.mem_map.mp h
  exact ⟨j, rfl, List.mem_range.mp hj⟩
theorem set_no {r0 : List SV} {i : Nat} (hno : r0.getD i .no = .no) : r0.set i .no = r0 := by
  apply List.ext_getElem?
  intro j
  rw [List.getElem?_set]
  by_cases e : i = j
  · subst e
    rw [if_pos rfl]
    by_cases hi : i < r0.length
    · rw [if_pos hi]
      rw [List.getD_eq_getElem?_getD, List.getElem?_eq_getElem hi] at hno
      rw [List.getElem?_eq_getElem hi]
      exact congrArg some hno.symm
    · rw [if_neg hi, List.getElem?_eq_none (by omega)]
  · rw [if_neg e]
theorem back_no {r0 r1 : List SV} {i : Nat} (hno : r0.getD i .no = .no) (hr : r1 = r0 ∨ wipeR r1 [i] = wipeR r0 [i]) : backR r0 r1 [i] = r0 := by
  have e : r1.set i .no = r0.set i .no := hr.elim (fun e => by rw [e]) id
  have : backR r0 r1 [i] = r1.set i .no := by
    unfold backR backR
    rw [hno]
    rfl
  rw [this, e, set_no hno]
theorem n0_list {xs : List PyData} : ne0D (.list xs) (.list []) = some (.bool (!xs.isEmpty)) := rfl
theorem le0 : 0 ≤ lim := by decide
end TW
set_option linter.all false
set_option Elab.async false
namespace TW
open PySem PySem.Spec PyProof.Rows L2
theorem back_any {r0 r1 : List SV} {i : Nat} (hr : r1 = r0 ∨ wipeR r1 [i] = wipeR r0 [i]) : backR r0 r1 [i] = r0.set i (keepD (r0.getD i .no)) := by
  have e : r1.set i .no = r0.set i .no := hr.elim (fun e => by rw [e]) id
  have h : ∀ z, r1.set i z = r0.set i z := fun z => by
    have := congrArg (fun r => r.set i z) e
    simpa [List.set_set] using this
  show r1.set i _ = _
  rw [h]
theorem q_map1 {i : Nat} {mi : M (List PyData)} {t : PyData → M Unit} {e : M Opd} {s : Sx} {Q : PyData → Sx → Prop} {E : Er → Prop} (f : PyData → PyData)
    (h : pw mi s (fun ds s1 => s1 = s ∧ ds.length ≤ lim ∧ (∀ d ∈ ds, pw (t d) ⟨s.r.set i .no, s.b⟩ (fun _ s1 => pw (e >>= take) s1 (fun x s3 => f d = x ∧ s3.r.set i .no = s.r.set i .no ∧ s3.b = s.b) fun _ => False) fun _ => False) ∧
      Q (.list (ds.map f)) ⟨s.r.set i (keepD (s.r.getD i .no)), s.b⟩) E) : pw (nCmp [i] mi t (pure true) e) s Q E := by
  refine q_map s.r s.b f (pw_mono h (fun ds s1 ⟨h1, h2, h3, h4⟩ => ⟨by rw [h1], h2, h3, fun r1 hr => ?_⟩) fun _ h => h)
  rw [back_any hr]
  exact h4
theorem q_filt1 {i : Nat} {mi : M (List PyData)} {t : PyData → M Unit} {c : M Bool} {e : M Opd} {s : Sx} {Q : PyData → Sx → Prop} {E : Er → Prop} (f : PyData → Option PyData)
    (h : pw mi s (fun ds s1 => s1 = s ∧ ds.length ≤ lim ∧ (∀ d ∈ ds, pw (t d) ⟨s.r.set i .no, s.b⟩ (fun _ s1 => pw c s1 (fun b s2 => if b = true then pw (e >>= take) s2 (fun x s3 => f d = some x ∧ s3.r.set i .no = s.r.set i .no ∧ s3.b = s.b) (fun _ => False) else f d = none ∧ s2.r.set i .no = s.r.set i .no ∧ s2.b = s.b) fun _ => False) fun _ => False) ∧
      Q (.list (ds.filterMap f)) ⟨s.r.set i (keepD (s.r.getD i .no)), s.b⟩) E) : pw (nCmp [i] mi t c e) s Q E := by
  refine q_cmp_map s.r s.b f (pw_mono h (fun ds s1 ⟨h1, h2, h3, h4⟩ => ⟨by rw [h1], h2, h3, fun r1 hr => ?_⟩) fun _ h => h)
  rw [back_any hr]
  exact h4
end TW
set_option linter.all false
set_option Elab.async false
set_option maxRecDepth 100000
namespace TW
open PySem PySem.Spec PyProof.Rows L2
section
variable {P : Addr → Prop} {G G' : Gh} {σ : L2.St} {H H' : Hp} {s s' : Sx} {v : V} {o : Opd} {W : Wish} {X : Cx} {k : Nat} {tg : Expr}
theorem FzK.get {F : Addr → Prop} : ∀ {ks : List (Key × V)} {ds : List (PyData × PyData)} {i : Nat} {p : PyData × PyData}, FzK F H ks ds → ds[i]? = some p → ∃ k v, ks[i]? = some (k, v) ∧ p.1 = keyD k ∧ Fz F H v p.2
  | _, _, _, _, .nil, e => by simp at e
  | _, _, 0, _, .cons a b, e => by
    simp at e
    subst e
    exact ⟨_, _, rfl, rfl, a⟩
  | _, _, i + 1, _, .cons a b, e => by
    obtain ⟨k, v, h1, h2⟩ := FzK.get (i := i) b (by simpa using e)
    exact ⟨k, v, by simpa using h1, h2⟩
end
end TW
set_option linter.all false
set_option Elab.async false
set_option maxRecDepth 100000
namespace TW
open PySem PySem.Spec PyProof.Rows L2
def pipS (b : Bx) : Int := (b.turn * 6364136223846793005 + 1442695040888963407).fmod 18446744073709551616
def pipV (b : Bx) (n : Int) : Int := match drawL b.great n with
  | some (d, _) => d
  | none => (pipS b / 4294967296).fmod n
def pipB (b : Bx) (n : Int) : Bx := match drawL b.great n with
  | some (_, l) => { b with great := l }
  | none => { b with great := [], turn := pipS b }
def pipF : Sem := fun as b => match as, b with
  | [.box, .dat (.int n)], some b => if 1 ≤ n ∧ n < 1073741824 ∧ b.small = [] ∧ b.great.length ≤ 100 then .ok (.int (pipV b n), some (pipB b n)) else .error .stuck
  | _, _ => .error .stuck
structure Jr (G : Gh) (H0 : Hp) (x g : Addr) (gr : List Int) (t : Int) (H : Hp) : Prop where
  ext : Ext (prot G H0) G H0 G H
  hx : H x = some (.lst [.ref g, .int t])
  hg : H g = some (.lst (gr.map V.int))
  tb : Tb (fun _ => False) G.F H
section
variable {G : Gh} {H0 H : Hp} {x g : Addr} {gr : List Int} {t : Int}
structure JrC (G : Gh) (H0 : Hp) (x g : Addr) : Prop where
  gb : ∀ a, G.F a → H0 a ≠ none
  bF : ∀ a ∈ G.bs, ¬ G.F a
  bs : G.bs = [x, g]
  xg : x ≠ g
theorem Jr.fresh (C : JrC G H0 x g) (d : Jr G H0 x g gr t H) {p : Addr} {u : HO} (hp : H p = none) : Jr G H0 x g gr t (upd H p u) := by
  have nx : p ≠ x := fun e => by rw [e, d.hx] at hp; cases hp
  have ng : p ≠ g := fun e => by rw [e, d.hg] at hp; cases hp
  have e := d.ext
  refine ⟨⟨fun _ h => h, fun a h => ?_, fun a h n => ?_, fun _ h => .inl h, fun _ => rfl, fun _ h => .inl h⟩, by rw [upd_ne nx.symm]; exact d.hx, by rw [upd_ne ng.symm]; exact d.hg, d.tb.new hp⟩
  · have : a ≠ p := fun z => (e.kF a h).some (C.gb a h) (by rw [z]; exact hp)
    rw [upd_ne this]; exact e.kF a h
  · have : a ≠ p := fun z => by
      have := e.kP a h n
      rw [z, hp] at this
      exact h.1 (by rw [z]; exact this.symm)
    rw [upd_ne this]; exact e.kP a h n
theorem Jr.at_ (C : JrC G H0 x g) (d : Jr G H0 x g gr t H) {p : Addr} {u : HO} (hp : p ∈ G.bs) : Ext (prot G H0) G H0 G (upd H p u) := by
  have e := d.ext
  refine ⟨fun _ h => h, fun a h => ?_, fun a h n => ?_, fun _ h => .inl h, fun _ => rfl, fun _ h => .inl h⟩
  · rw [upd_ne fun z => C.bF p hp (by rw [← z]; exact h)]; exact e.kF a h
  · rw [upd_ne fun z => h.2.1 (by rw [z]; exact hp)]; exact e.kP a h n
theorem Jr.setG (C : JrC G H0 x g) (d : Jr G H0 x g gr t H) {gr' : List Int} : Jr G H0 x g gr' t (upd H g (.lst (gr'.map V.int))) :=
  ⟨d.at_ C (by rw [C.bs]; simp), by rw [upd_ne C.xg]; exact d.hx, upd_same, d.tb.upd (by rw [d.hg]; exact calm_lst)⟩
theorem Jr.setT (C : JrC G H0 x g) (d : Jr G H0 x g gr t H) {t' : Int} : Jr G H0 x g gr t' (upd H x (.lst [.ref g, .int t'])) :=
  ⟨d.at_ C (by rw [C.bs]; simp), upd_same, by rw [upd_ne C.xg.symm]; exact d.hg, d.tb.upd (by rw [d.hx]; exact calm_lst)⟩
theorem Jr.box (C : JrC G H0 x g) (d : Jr G H0 x g gr t H) : GB G H (some ⟨gr, [], t⟩) where
  bx := fun b' e => by
    cases e
    exact ⟨.inr ⟨rfl, x, g, C.bs, C.xg, d.hx, d.hg⟩⟩
  nb := fun e => by cases e
  fr := fun a h => (d.ext.kF a h).some (C.gb a h)
  bF := fun a h => ⟨C.bF a h, by
    rw [C.bs] at h
    simp at h
    rcases h with rfl | rfl
    · rw [d.hx]; simp
    · rw [d.hg]; simp⟩
  tb := d.tb
end
end TW
set_option linter.all false
set_option Elab.async false
set_option maxRecDepth 100000
namespace TW
open PySem PySem.Spec PyProof.Rows L2
section
variable {X : Cx}
theorem SqL.fresh {K : PySem.W.Frag} {H : Hp} {a p : Addr} {u : HO} {xs : List V} (h : SqL K H a xs) (hp : H p = none) : SqL K (upd H p u) a xs := by
  rcases h with (h | ⟨o, h⟩) | h
  · exact .inl (.inl (by rw [upd_ne fun z => by rw [z, hp] at h; cases h]; exact h))
  · exact .inl (.inr ⟨o, by rw [upd_ne fun z => by rw [z, hp] at h; cases h]; exact h⟩)
  · exact .inr h
end
end TW
set_option linter.all false
set_option Elab.async false
namespace TW
open PySem PySem.Spec PyProof.Rows L2
end TW
set_option linter.all false
set_option Elab.async false
set_option maxRecDepth 100000
namespace TW
open PySem PySem.Spec PyProof.Rows L2
section
variable {P : Program} {w : World} {X : Cx} {k : Nat} {W : Wish}
end
end TW
set_option linter.all false
set_option Elab.async false
set_option maxRecDepth 100000
namespace TW
open PySem PySem.Spec PyProof.Rows L2
section
variable {prog : Program} {w : World} {A : Around} {E : Value → Shared → Prop} {s : Shared} {d : Addr} {es : Array DictEntry} {ep : Nat}
end
def pk (p : Int × Int) : List Key := [.inl p.1, .inl p.2]
def ordP : List (Int × Int) → Bool
  | [] => true
  | p :: r => r.all (SrtO.lexB p) && ordP r
section
variable {X : Cx} {pins : List (Addr × Obj)} {σ : L2.St} {H : Hp} {s : Shared}
end
section
variable {P S : Addr → Prop} {G G' : Gh} {σ : L2.St} {H H' : Hp} {s s' : Sx} {v : V} {o : Opd} {W : Wish} {X : Cx} {k : Nat} {tg : Expr}
def prOf : PyData → Option (Int × Int)
  | .tuple [.int a, .int b] => some (a, b)
  | _ => none
def prsOf : List (PyData × PyData) → Option (List (Int × Int))
  | [] => some []
  | (k, _) :: r => match prOf k, prsOf r with
    | some p, some ps => some (p :: ps)
    | _, _ => none
def prI (p : Int × Int) : PyData := .tuple [.int p.1, .int p.2]
def sForST (i : Nat) (t : PyData → M Unit) (b : M Fl) : M Fl := do
  let ds ← ownD i
  match prsOf ds with
  | some ks => if ordP ks = true ∧ ds ≠ [] then forL t b (ks.map prI) else stuck
  | none => stuck
end
end TW
set_option linter.all false
set_option Elab.async false
set_option maxRecDepth 100000
namespace TW
open PySem PySem.Spec PyProof.Rows L2
section
variable {P : Addr → Prop} {G G' : Gh} {σ : L2.St} {H H' : Hp} {s s' : Sx} {v : V} {o : Opd} {W : Wish} {X : Cx} {k : Nat}
theorem Pend.lay {vs : List V} {ps : List Pn} {p : Addr} {u : HO} (h : Pend G σ H s P vs ps) (kF : ∀ a, G.F a → Same (H a) (upd H p u a)) (hp : H p = none) : Pend G σ (upd H p u) s P vs ps := by
  induction h with
  | nil => exact .nil
  | dat r _ ih => exact .dat (r.sim (fun _ h => h) kF) ih
  | own ow f t ih => exact .own (ow.sim (fun _ h => h) kF (upd_ne fun z => ow.tracked (by rw [z]; exact hp))) f ih
end
end TW
set_option linter.all false
set_option Elab.async false
set_option maxRecDepth 100000
namespace TW
open PySem PySem.Spec PyProof.Rows L2
section
variable {P : Addr → Prop} {G G' : Gh} {σ : L2.St} {H H' : Hp} {s s' : Sx} {v : V} {o : Opd} {W : Wish} {X : Cx} {k : Nat}
def ixDd : PyData → PyData → Option PyData
  | .dict ds, y => if fits y ds = true ∧ ds ≠ [] then look y ds else none
  | _, _ => none
def eIxD (a b : M Opd) : M Opd := do let o ← a; let p ← b; let x ← peek o; let y ← peek p; let z ← optM (ixDd x y); pure (.val z)
end
end TW
set_option linter.all false
set_option Elab.async false
set_option maxRecDepth 100000
namespace TW
open PySem PySem.Spec PyProof.Rows L2
section
variable {P : Addr → Prop} {G G' : Gh} {σ : L2.St} {H H' : Hp} {s s' : Sx} {v : V} {o : Opd} {W : Wish} {X : Cx} {k : Nat}
end
end TW
set_option linter.all false
set_option Elab.async false
set_option maxRecDepth 100000
namespace TW
open PySem PySem.Spec PyProof.Rows L2
section
variable {P : Addr → Prop} {G G' : Gh} {σ : L2.St} {H H' : Hp} {s s' : Sx} {v : V} {o : Opd} {W : Wish} {X : Cx} {k : Nat} {a : Addr}
end
end TW
set_option linter.all false
set_option Elab.async false
set_option maxRecDepth 100000
namespace TW
open PySem PySem.Spec PyProof.Rows L2
section
variable {P : Addr → Prop} {G G' : Gh} {σ : L2.St} {H H' : Hp} {s s' : Sx} {v : V} {o : Opd} {W : Wish} {X : Cx} {k : Nat}
end
end TW
set_option linter.all false
set_option Elab.async false
set_option maxRecDepth 100000
namespace TW
open PySem PySem.Spec PyProof.Rows L2
section
variable {P : Addr → Prop} {G G' : Gh} {σ : L2.St} {H H' : Hp} {s s' : Sx} {v : V} {o : Opd} {W : Wish} {X : Cx} {k : Nat} {tg : Expr} {vs : List Nat}
end
end TW
set_option linter.all false
set_option Elab.async false
set_option maxRecDepth 100000
namespace TW
open PySem PySem.Spec PyProof.Rows L2
section
variable {X : Cx} {k : Nat} {C : Addr} {bmB : List Value} {B newId initId : String}
end
end TW
set_option linter.all false
set_option Elab.async false
set_option maxRecDepth 100000
set_option maxHeartbeats 0
namespace K02
open PySem PySem.Spec PyProof.Rows L2 TW
def m_is_integer : M Fl :=
(TW.sRet (TW.eAnd (eIs .int (eVar 0)) (TW.eAnd (TW.eNot (eIs .bool (eVar 0))) (eChn (cmpD .le) (cmpD .le) (eVar 1) (eVar 0) (eVar 2)))))
def f_is_integer : Sem := runF 3 m_is_integer
def m_are_integers : M Fl :=
(TW.sSeq (TW.sIf (TW.tOr (TW.tNot (TW.tVal (eIs .tuple (eVar 0)))) (TW.tVal (eCmp .ne (eFn lenD (aCons (eVar 0) aNil)) (eVar 1))))
(TW.sRet (eC (.bool false)))
TW.sSkip)
(TW.sRet (eFn allD (aCons (eNw (nCmp [4] (iSeqM (eVar 0)) (tgName 4) (pure true) (eCall 3 f_is_integer (aCons (eVar 4) (aCons (eVar 2) (aCons (eVar 3) aNil)))))) aNil))))
def f_are_integers : Sem := runF 5 m_are_integers
def m_kind_word : M Fl :=
(TW.sSeq (TW.sIf (TW.tOr (TW.tNot (TW.tVal (eIs .tuple (eVar 1)))) (TW.tVal (eCmp .ne (eFn lenD (aCons (eVar 1) aNil)) (eC (.int 2)))))
(TW.sRet (eC (.str "kind")))
TW.sSkip)
(TW.sSeq (TW.sIf (TW.tNot (TW.tVal (eCall 3 f_is_integer (aCons (eIx (eVar 1) (eC (.int 0))) (aCons (eC (.int 0)) (aCons (eC (.int 3)) aNil))))))
(TW.sRet (eC (.str "sender")))
TW.sSkip)
(TW.sRet (TW.eIf (TW.tVal (eCall 4 f_are_integers (aCons (eIx (eVar 1) (eC (.int 1))) (aCons (eVar 0) (aCons (eC (.int 0)) (aCons (eBin .sub (eVar 0) (eC (.int 1))) aNil)))))) (eC .none) (eC (.str "targets"))))))
def f_kind_word : Sem := runF 2 m_kind_word
def m_are_labels : M Fl :=
(TW.sSeq (TW.sIf (TW.tOr (TW.tNot (TW.tVal (eIs .tuple (eVar 0)))) (TW.tNot (TW.tVal (eChn (cmpD .le) (cmpD .le) (eC (.int 2)) (eFn lenD (aCons (eVar 0) aNil)) (eC (.int 8))))))
(TW.sRet (eC (.bool false)))
TW.sSkip)
(TW.sRet (eCall 4 f_are_integers (aCons (eVar 0) (aCons (eFn lenD (aCons (eVar 0) aNil)) (aCons (eC (.int 0)) (aCons (eBin .sub (eFn lenD (aCons (eVar 0) aNil)) (eC (.int 1))) aNil)))))))
def f_are_labels : Sem := runF 1 m_are_labels
def m_handler_error : M Fl :=
(TW.sSeq (TW.sIf (TW.tOr (TW.tNot (TW.tVal (eIs .tuple (eVar 0)))) (TW.tVal (eCmp .ne (eFn lenD (aCons (eVar 0) aNil)) (eC (.int 2)))))
(TW.sRet (eTup (aCons (eC .none) (aCons (eC (.str "handler")) aNil))))
TW.sSkip)
(TW.sSeq (TW.sTg (tgTup [(tgName 1), (tgName 2)]) (eVar 0))
(TW.sSeq (TW.sIf (TW.tNot (TW.tVal (eCall 1 f_are_labels (aCons (eVar 1) aNil))))
(TW.sRet (eTup (aCons (eC .none) (aCons (eC (.str "labels")) aNil))))
TW.sSkip)
(TW.sSeq (TW.sIf (TW.tOr (TW.tNot (TW.tVal (eIs .tuple (eVar 2)))) (TW.tNot (TW.tVal (eChn (cmpD .le) (cmpD .le) (eC (.int 1)) (eFn lenD (aCons (eVar 2) aNil)) (eC (.int 6))))))
(TW.sRet (eTup (aCons (eC .none) (aCons (eC (.str "kinds")) aNil))))
TW.sSkip)
(TW.sSeq (TW.sFor (iEnM (eVar 2)) (tgTup [(tgName 3), (tgName 4)])
(TW.sSeq (TW.sAsg 5 (eCall 2 f_kind_word (aCons (eFn lenD (aCons (eVar 1) aNil)) (aCons (eVar 4) aNil))))
(TW.sIf (TW.tVal (eCmp .notN (eVar 5) (eC .none)))
(TW.sRet (eTup (aCons (eVar 3) (aCons (eVar 5) aNil))))
TW.sSkip)))
(TW.sRet (eC .none)))))))
def f_handler_error : Sem := runF 6 m_handler_error
def m_is_handler : M Fl :=
(TW.sRet (eCmp .isN (eCall 1 f_handler_error (aCons (eVar 0) aNil)) (eC .none)))
def f_is_handler : Sem := runF 1 m_is_handler
def m_law_one : M Fl :=
(TW.sRet (eIx (eVar 1) (eCall 2 drawF (aCons (eVar 0) (aCons (eFn lenD (aCons (eVar 1) aNil)) aNil)))))
def f_law_one : Sem := runF 2 m_law_one
def m_law_odd : M Fl :=
(TW.sSeq (TW.sAsg 1 (eNw (nLst (aCons (eC .none) (aCons (eC (.bool true)) (aCons (eC (.bool false)) (aCons (eUn neD (eC (.int 1))) (aCons (eC (.int 0)) (aCons (eC (.int 1)) (aCons (eC (.int 2)) (aCons (eC (.int 3)) (aCons (eC (.int 6)) (aCons (eC (.int 8)) (aCons (eC (.int 9)) (aCons (eC (.int 200)) (aCons (eBin .pow (eC (.int 10)) (eC (.int 18))) (aCons (eBin .pow (eC (.int 10)) (eC (.int 39))) (aCons (eC (.str "")) (aCons (eC (.str "-")) (aCons (eC (.str "0")) (aCons (eTup aNil) (aCons (eTup (aCons (eC (.int 0)) aNil)) (aCons (eTup (aCons (eC (.int 0)) (aCons (eC (.int 1)) aNil))) aNil)))))))))))))))))))))))
(TW.sSeq (TW.sAsg 1 (eBin .add (eVar 1) (eNw (nLst (aCons (eTup (aCons (eC (.int 1)) (aCons (eC (.int 0)) (aCons (eC (.int 0)) aNil)))) (aCons (eTup (aCons (eC (.int 0)) (aCons (eTup (aCons (eC (.int 0)) (aCons (eC (.int 1)) aNil))) aNil))) (aCons (eNw (nLst aNil)) (aCons (eNw (nLst (aCons (eC (.int 0)) aNil))) (aCons (eNw nDict0) (aCons (eNw (nDict1 "log" (eC (.int 0)))) (aCons (eTup (aCons (eTup aNil) aNil)) (aCons (eC (.str "0:0,1")) (aCons (eTup (aCons (eC (.int 0)) (aCons (eC (.int 0)) aNil))) (aCons (eTup (aCons (eC .none) (aCons (eC (.int 0)) aNil))) aNil))))))))))))))
(TW.sRet (eCall 2 f_law_one (aCons (eVar 0) (aCons (eVar 1) aNil))))))
def f_law_odd : Sem := runF 2 m_law_odd
def m_law_bent_1 (F : Sem) : M Fl :=
(TW.sRet (eCall 2 f_law_one (aCons (eVar 0) (aCons (eBin .add (eVar 4) (eNw (nLst (aCons (eBin .add (eBin .add (eSlc (eVar 1) pNone (pSome (eVar 3))) (eTup (aCons (eCall 1 f_law_odd (aCons (eVar 0) aNil)) aNil))) (eSlc (eVar 1) (pSome (eVar 3)) pNone)) (aCons (eBin .add (eVar 1) (eSlc (eVar 1) (pSome (eUn neD (eC (.int 1)))) pNone)) (aCons (eOp repD (eVar 1) (eC (.int 3))) aNil)))))) aNil))))
def m_law_bent_2 (F : Sem) : M Fl :=
(TW.sAsg 4 (eNw (nLst (aCons (eBin .add (eBin .add (eSlc (eVar 1) pNone (pSome (eVar 3))) (eTup (aCons (eCall 1 f_law_odd (aCons (eVar 0) aNil)) aNil))) (eSlc (eVar 1) (pSome (eBin .add (eVar 3) (eC (.int 1)))) pNone)) (aCons (eBin .add (eSlc (eVar 1) pNone (pSome (eVar 3))) (eSlc (eVar 1) (pSome (eBin .add (eVar 3) (eC (.int 1)))) pNone)) (aCons (eUn backD (eVar 1)) (aCons (eFn listD (aCons (eVar 1) aNil)) aNil)))))))
def m_law_bent_3 (F : Sem) : M Fl :=
(TW.sSeq (m_law_bent_2 F) (m_law_bent_1 F))
def m_law_bent_4 (F : Sem) : M Fl :=
(TW.sAsg 3 (eCall 2 drawF (aCons (eVar 0) (aCons (eBin .add (eFn lenD (aCons (eVar 1) aNil)) (eC (.int 1))) aNil))))
def m_law_bent_5 (F : Sem) : M Fl :=
(TW.sSeq (m_law_bent_4 F) (m_law_bent_3 F))
def m_law_bent_6 (F : Sem) : M Fl :=
(TW.sRet (eBin .add (eBin .add (eSlc (eVar 1) pNone (pSome (eVar 3))) (eTup (aCons (eCall 2 F (aCons (eVar 0) (aCons (eIx (eVar 1) (eVar 3)) aNil))) aNil))) (eSlc (eVar 1) (pSome (eBin .add (eVar 3) (eC (.int 1)))) pNone)))
def m_law_bent_7 (F : Sem) : M Fl :=
(TW.sAsg 3 (eIx (eVar 2) (eCall 2 drawF (aCons (eVar 0) (aCons (eFn lenD (aCons (eVar 2) aNil)) aNil)))))
def m_law_bent_8 (F : Sem) : M Fl :=
(TW.sIf (TW.tAnd (TW.tVal (eOp ne0D (eVar 2) (eNw (nLst aNil)))) (TW.tVal (eCmp .gt (eCall 2 drawF (aCons (eVar 0) (aCons (eC (.int 4)) aNil))) (eC (.int 0)))))
(TW.sSeq (m_law_bent_7 F) (m_law_bent_6 F))
TW.sSkip)
def m_law_bent_9 (F : Sem) : M Fl :=
(TW.sSeq (m_law_bent_8 F) (m_law_bent_5 F))
def m_law_bent_10 (F : Sem) : M Fl :=
(TW.sAsg 2 (eNw (nCmp [5] (iRg1 (eFn lenD (aCons (eVar 1) aNil))) (tgName 5) (TW.tVal (eIs .tuple (eIx (eVar 1) (eVar 5)))) (eVar 5))))
def m_law_bent (F : Sem) : M Fl :=
(TW.sSeq (m_law_bent_10 F) (m_law_bent_9 F))
def fr_law_bent : Nat → Sem
  | 0 => fun _ _ => .error .stuck
  | n + 1 => runF 6 (m_law_bent (fr_law_bent n))
def f_law_bent : Sem := fr_law_bent 12
def m_law_kind : M Fl :=
(TW.sSeq (TW.sTg (tgTup [(tgName 3), (tgName 4), (tgName 5)]) (eTup (aCons (eCall 2 drawF (aCons (eVar 0) (aCons (eVar 1) aNil))) (aCons (eCall 2 drawF (aCons (eVar 0) (aCons (eVar 1) aNil))) (aCons (eCall 2 drawF (aCons (eVar 0) (aCons (eC (.int 5)) aNil))) aNil)))))
(TW.sSeq (TW.sAsg 2 (eNw (nCmp [6] (iRg1 (eVar 1)) (tgName 6) (pure true) (eCall 2 drawF (aCons (eVar 0) (aCons (eVar 1) aNil))))))
(TW.sSeq (TW.sIf (TW.tVal (eCmp .eq (eVar 5) (eC (.int 0))))
(TW.sAsg 2 (eBin .mul (eNw (nLst (aCons (eVar 3) aNil))) (eVar 1)))
(TW.sIf (TW.tVal (eCmp .eq (eVar 5) (eC (.int 1))))
(TW.sAsg 2 (eNw (nCmp [6] (iRg1 (eVar 1)) (tgName 6) (pure true) (TW.eIf (TW.tVal (eCmp .eq (eVar 6) (eVar 3))) (eVar 4) (eVar 6)))))
(TW.sIf (TW.tVal (eCmp .eq (eVar 5) (eC (.int 2))))
(TW.sAsg 2 (eNw (nCmp [6] (iRg1 (eVar 1)) (tgName 6) (pure true) (eBin .mod (eFn intD (aCons (eBin .add (eVar 6) (eVar 3)) aNil)) (eVar 1)))))
(TW.sIf (TW.tVal (eCmp .eq (eVar 5) (eC (.int 3))))
(TW.sAsg 2 (eNw (nCmp [6] (iRg1 (eVar 1)) (tgName 6) (pure true) (TW.eIf (TW.tVal (eOp (memD true) (eVar 6) (eTup (aCons (eVar 3) (aCons (eVar 4) aNil))))) (eVar 6) (eBin .sub (eBin .add (eVar 3) (eVar 4)) (eVar 6))))))
TW.sSkip))))
(TW.sRet (eTup (aCons (eCall 2 drawF (aCons (eVar 0) (aCons (eC (.int 4)) aNil))) (aCons (eFn tupleD (aCons (eVar 2) aNil)) aNil)))))))
def f_law_kind : Sem := runF 7 m_law_kind
def m_law_handler : M Fl :=
(TW.sSeq (TW.sAsg 3 (eBin .add (eC (.int 2)) (eCall 2 drawF (aCons (eVar 0) (aCons (eBin .sub (eVar 1) (eC (.int 1))) aNil)))))
(TW.sSeq (TW.sAsg 4 (eNw (nCmp [5] (iRg1 (eVar 3)) (tgName 5) (pure true) (eCall 2 f_law_one (aCons (eVar 0) (aCons (eNw (nLst (aCons (eC (.int 0)) (aCons (eC (.int 0)) (aCons (eVar 5) (aCons (eCall 2 drawF (aCons (eVar 0) (aCons (eVar 3) aNil))) aNil)))))) aNil))))))
(TW.sRet (eTup (aCons (eFn tupleD (aCons (eVar 4) aNil)) (aCons (eFn tupleD (aCons (eNw (nCmp [5] (iRg1 (eBin .add (eC (.int 1)) (eCall 2 drawF (aCons (eVar 0) (aCons (eVar 2) aNil))))) (tgName 5) (pure true) (eCall 2 f_law_kind (aCons (eVar 0) (aCons (eVar 3) aNil))))) aNil)) aNil))))))
def f_law_handler : Sem := runF 6 m_law_handler
def m_law_whole : M Fl :=
(TW.sRet (TW.eAnd (eIs .int (eVar 0)) (TW.eAnd (TW.eNot (eIs .bool (eVar 0))) (eChn (cmpD .le) (cmpD .le) (eVar 1) (eVar 0) (eVar 2)))))
def f_law_whole : Sem := runF 3 m_law_whole
def m_law_kind_word : M Fl :=
(TW.sSeq (TW.sIf (TW.tOr (TW.tNot (TW.tVal (eIs .tuple (eVar 1)))) (TW.tVal (eCmp .ne (eFn lenD (aCons (eVar 1) aNil)) (eC (.int 2)))))
(TW.sRet (eC (.str "kind")))
TW.sSkip)
(TW.sSeq (TW.sIf (TW.tNot (TW.tVal (eCall 3 f_law_whole (aCons (eIx (eVar 1) (eC (.int 0))) (aCons (eC (.int 0)) (aCons (eC (.int 3)) aNil))))))
(TW.sRet (eC (.str "sender")))
TW.sSkip)
(TW.sSeq (TW.sIf (TW.tOr (TW.tNot (TW.tVal (eIs .tuple (eIx (eVar 1) (eC (.int 1)))))) (TW.tVal (eCmp .ne (eFn lenD (aCons (eIx (eVar 1) (eC (.int 1))) aNil)) (eVar 0))))
(TW.sRet (eC (.str "targets")))
TW.sSkip)
(TW.sSeq (TW.sAsg 2 (eNw (nCmp [3] (iSeqM (eIx (eVar 1) (eC (.int 1)))) (tgName 3) (TW.tNot (TW.tVal (eCall 3 f_law_whole (aCons (eVar 3) (aCons (eC (.int 0)) (aCons (eBin .sub (eVar 0) (eC (.int 1))) aNil)))))) (eVar 3))))
(TW.sRet (TW.eIf (TW.tVal (eOp eq0D (eVar 2) (eNw (nLst aNil)))) (eC .none) (eC (.str "targets"))))))))
def f_law_kind_word : Sem := runF 4 m_law_kind_word
def m_law_handler_error : M Fl :=
(TW.sSeq (TW.sIf (TW.tOr (TW.tNot (TW.tVal (eIs .tuple (eVar 0)))) (TW.tVal (eCmp .ne (eFn lenD (aCons (eVar 0) aNil)) (eC (.int 2)))))
(TW.sRet (eTup (aCons (eC .none) (aCons (eC (.str "handler")) aNil))))
TW.sSkip)
(TW.sSeq (TW.sTg (tgTup [(tgName 2), (tgName 3)]) (eVar 0))
(TW.sSeq (TW.sIf (TW.tOr (TW.tNot (TW.tVal (eIs .tuple (eVar 2)))) (TW.tNot (TW.tVal (eChn (cmpD .le) (cmpD .le) (eC (.int 2)) (eFn lenD (aCons (eVar 2) aNil)) (eC (.int 8))))))
(TW.sRet (eTup (aCons (eC .none) (aCons (eC (.str "labels")) aNil))))
TW.sSkip)
(TW.sSeq (TW.sIf (TW.tVal (eOp ne0D (eNw (nCmp [5] (iSeqM (eVar 2)) (tgName 5) (TW.tNot (TW.tVal (eCall 3 f_law_whole (aCons (eVar 5) (aCons (eC (.int 0)) (aCons (eBin .sub (eFn lenD (aCons (eVar 2) aNil)) (eC (.int 1))) aNil)))))) (eVar 5))) (eNw (nLst aNil))))
(TW.sRet (eTup (aCons (eC .none) (aCons (eC (.str "labels")) aNil))))
TW.sSkip)
(TW.sSeq (TW.sIf (TW.tOr (TW.tNot (TW.tVal (eIs .tuple (eVar 3)))) (TW.tNot (TW.tVal (eChn (cmpD .le) (cmpD .le) (eC (.int 1)) (eFn lenD (aCons (eVar 3) aNil)) (eC (.int 6))))))
(TW.sRet (eTup (aCons (eC .none) (aCons (eC (.str "kinds")) aNil))))
TW.sSkip)
(TW.sSeq (TW.sAsg 1 (eNw (nCmp [4] (iRg1 (eFn lenD (aCons (eVar 3) aNil))) (tgName 4) (pure true) (eTup (aCons (eVar 4) (aCons (eCall 2 f_law_kind_word (aCons (eFn lenD (aCons (eVar 2) aNil)) (aCons (eIx (eVar 3) (eVar 4)) aNil))) aNil))))))
(TW.sRet (eIx (eBin .add (eNw (nCmp [6] (iSeqM (eVar 1)) (tgName 6) (TW.tVal (eCmp .notN (eIx (eVar 6) (eC (.int 1))) (eC .none))) (eVar 6))) (eNw (nLst (aCons (eC .none) aNil)))) (eC (.int 0))))))))))
def f_law_handler_error : Sem := runF 7 m_law_handler_error
def m_law_1 : M Fl :=
(TW.sRet (eC (.bool true)))
def m_law_2 : M Fl :=
(TW.sIf (TW.tOr (TW.tVal (eCmp .ne (eFn reprD (aCons (eCall 1 f_is_handler (aCons (eVar 8) aNil)) aNil)) (eFn reprD (aCons (eCmp .eq (eVar 16) (eC (.str "None"))) aNil)))) (TW.tVal (eCmp .ne (eFn reprD (aCons (eVar 8) aNil)) (eVar 15))))
(TW.sRet (eC (.bool false)))
TW.sSkip)
def m_law_3 : M Fl :=
(TW.sIf (TW.tVal (eCmp .ne (eNw (nCmp [18] (iRg1 (eC (.int 2))) (tgName 18) (pure true) (eFn reprD (aCons (eCall 1 f_handler_error (aCons (eVar 8) aNil)) aNil)))) (eNw (nLst (aCons (eVar 16) (aCons (eVar 16) aNil))))))
(TW.sRet (eC (.bool false)))
TW.sSkip)
def m_law_4 : M Fl :=
(TW.sSeq m_law_3 m_law_2)
def m_law_5 : M Fl :=
(TW.sPar [tgName 15, tgName 16] (aCons (eFn reprD (aCons (eVar 8) aNil)) (aCons (eFn reprD (aCons (eCall 1 f_law_handler_error (aCons (eVar 8) aNil)) aNil)) aNil)))
def m_law_6 : M Fl :=
(TW.sSeq m_law_5 m_law_4)
def m_law_7 : M Fl :=
(TW.sFor (iSeqM (eBin .add (eVar 4) (eNw (nLst (aCons (eTup (aCons (eVar 9) (aCons (eOp repD (eTup (aCons (eTup (aCons (eC (.int 0)) (aCons (eOp repD (eTup (aCons (eC (.int 0)) aNil)) (eVar 12)) aNil))) aNil)) (eC (.int 6))) aNil))) (aCons (eTup (aCons (eVar 9) (aCons (eTup (aCons (eTup (aCons (eC (.int 3)) (aCons (eOp repD (eTup (aCons (eBin .sub (eVar 12) (eC (.int 1))) aNil)) (eVar 12)) aNil))) aNil)) aNil))) aNil)))))) (tgName 8)
m_law_6)
def m_law_8 : M Fl :=
(TW.sAsgN 4 (nOp catD (eVar 4) (eNw (nCmp [17] (iSeqM (eVar 7)) (tgName 17) (pure true) (eTup (aCons (eVar 9) (aCons (eBin .add (eBin .add (eSlc (eVar 10) pNone (pSome (eVar 5))) (eTup (aCons (eVar 17) aNil))) (eSlc (eVar 10) (pSome (eBin .add (eVar 5) (eC (.int 1)))) pNone)) aNil)))))))
def m_law_9 : M Fl :=
(TW.sSeq m_law_8 m_law_7)
def m_law_10 : M Fl :=
(TW.sAsg 7 (eBin .add (eVar 7) (eNw (nLst (aCons (eTup (aCons (eVar 13) aNil)) (aCons (eTup (aCons (eVar 13) (aCons (eVar 14) (aCons (eVar 14) aNil)))) aNil))))))
def m_law_11 : M Fl :=
(TW.sSeq m_law_10 m_law_9)
def m_law_12 : M Fl :=
(TW.sAsg 7 (eBin .add (eVar 7) (eNw (nLst (aCons (eTup (aCons (eVar 13) (aCons (eFn listD (aCons (eVar 14) aNil)) aNil))) (aCons (eTup (aCons (eVar 13) (aCons (eBin .add (eVar 14) (eTup (aCons (eC (.int 0)) aNil))) aNil))) (aCons (eTup (aCons (eVar 13) (aCons (eSlc (eVar 14) (pSome (eC (.int 1))) pNone) aNil))) (aCons (eTup (aCons (eVar 6) (aCons (eVar 6) aNil))) aNil))))))))
def m_law_13 : M Fl :=
(TW.sSeq m_law_12 m_law_11)
def m_law_14 : M Fl :=
(TW.sAsg 7 (eNw (nLst (aCons (eTup (aCons (eVar 6) (aCons (eVar 14) aNil))) (aCons (eTup (aCons (eC (.int 4)) (aCons (eVar 14) aNil))) (aCons (eTup (aCons (eUn neD (eC (.int 1))) (aCons (eVar 14) aNil))) (aCons (eTup (aCons (eVar 13) (aCons (eBin .add (eSlc (eVar 14) pNone (pSome (eUn neD (eC (.int 1))))) (eTup (aCons (eVar 6) aNil))) aNil))) aNil)))))))
def m_law_15 : M Fl :=
(TW.sSeq m_law_14 m_law_13)
def m_law_16 : M Fl :=
(TW.sAsg 6 (eCall 2 f_law_one (aCons (eVar 1) (aCons (eNw (nLst (aCons (eUn neD (eC (.int 1))) (aCons (eVar 12) (aCons (eC (.bool true)) (aCons (eC .none) (aCons (eC (.str "0")) (aCons (eBin .pow (eC (.int 10)) (eC (.int 39))) aNil)))))))) aNil))))
def m_law_17 : M Fl :=
(TW.sSeq m_law_16 m_law_15)
def m_law_18 : M Fl :=
(TW.sTg (tgTup [(tgName 13), (tgName 14)]) (eIx (eVar 10) (eVar 5)))
def m_law_19 : M Fl :=
(TW.sSeq m_law_18 m_law_17)
def m_law_20 : M Fl :=
(TW.sAsg 5 (eCall 2 drawF (aCons (eVar 1) (aCons (eFn lenD (aCons (eVar 10) aNil)) aNil))))
def m_law_21 : M Fl :=
(TW.sSeq m_law_20 m_law_19)
def m_law_22 : M Fl :=
(TW.sIf (TW.tAnd (TW.tVal (eIs .tuple (eVar 11))) (TW.tVal (eCmp .gt (eFn lenD (aCons (eVar 11) aNil)) (eC (.int 0)))))
(sApp 4 (eCall 2 f_law_bent (aCons (eVar 1) (aCons (eVar 11) aNil))))
TW.sSkip)
def m_law_23 : M Fl :=
(TW.sSeq m_law_22 m_law_21)
def m_law_24 : M Fl :=
(TW.sAsgN 4 (nOp catD (eVar 4) (eNw (nLst (aCons (eTup (aCons (eBin .add (eTup (aCons (eC (.bool true)) aNil)) (eSlc (eVar 9) (pSome (eC (.int 1))) pNone)) (aCons (eVar 10) aNil))) (aCons (eTup (aCons (eSlc (eVar 9) pNone (pSome (eC (.int 1)))) (aCons (eVar 10) aNil))) (aCons (eTup (aCons (eOp repD (eVar 9) (eC (.int 9))) (aCons (eVar 10) aNil))) (aCons (eTup (aCons (eVar 9) (aCons (eVar 10) (aCons (eVar 10) aNil)))) aNil))))))))
def m_law_25 : M Fl :=
(TW.sSeq m_law_24 m_law_23)
def m_law_26 : M Fl :=
(TW.sAsgN 4 (nOp catD (eVar 4) (eNw (nLst (aCons (eTup (aCons (eBin .add (eSlc (eVar 9) pNone (pSome (eUn neD (eC (.int 1))))) (eTup (aCons (eVar 12) aNil))) (aCons (eVar 10) aNil))) (aCons (eTup (aCons (eBin .add (eSlc (eVar 9) pNone (pSome (eUn neD (eC (.int 1))))) (eTup (aCons (eUn neD (eC (.int 1))) aNil))) (aCons (eVar 10) aNil))) (aCons (eTup (aCons (eFn listD (aCons (eVar 9) aNil)) (aCons (eVar 10) aNil))) aNil)))))))
def m_law_27 : M Fl :=
(TW.sSeq m_law_26 m_law_25)
def m_law_28 : M Fl :=
(sApp 4 (eTup (aCons (eVar 9) (aCons (eFn listD (aCons (eVar 10) aNil)) aNil))))
def m_law_29 : M Fl :=
(TW.sSeq m_law_28 m_law_27)
def m_law_30 : M Fl :=
(TW.sAsgN 4 (nLst (aCons (eVar 3) (aCons (eVar 11) (aCons (eCall 2 f_law_bent (aCons (eVar 1) (aCons (eVar 3) aNil))) (aCons (eCall 1 f_law_odd (aCons (eVar 1) aNil)) (aCons (eTup (aCons (eVar 9) (aCons (eOp repD (eVar 10) (eC (.int 7))) aNil))) (aCons (eTup (aCons (eVar 9) (aCons (eTup aNil) aNil))) aNil))))))))
def m_law_31 : M Fl :=
(TW.sSeq m_law_30 m_law_29)
def m_law_32 : M Fl :=
(TW.sPar [tgName 11, tgName 12] (aCons (eCall 2 f_law_bent (aCons (eVar 1) (aCons (eVar 3) aNil))) (aCons (eFn lenD (aCons (eVar 9) aNil)) aNil)))
def m_law_33 : M Fl :=
(TW.sSeq m_law_32 m_law_31)
def m_law_34 : M Fl :=
(TW.sTg (tgTup [(tgName 9), (tgName 10)]) (eVar 3))
def m_law_35 : M Fl :=
(TW.sSeq m_law_34 m_law_33)
def m_law_36 : M Fl :=
(TW.sAsg 3 (eCall 3 f_law_handler (aCons (eVar 1) (aCons (eC (.int 8)) (aCons (eC (.int 6)) aNil)))))
def m_law_37 : M Fl :=
(TW.sSeq m_law_36 m_law_35)
def m_law_38 : M Fl :=
(TW.sFor (iRg1 (eC (.int 12))) (tgName 2)
m_law_37)
def m_law : M Fl :=
(TW.sSeq m_law_38 m_law_1)
end K02
set_option linter.all false
set_option Elab.async false
set_option maxRecDepth 100000
set_option maxHeartbeats 0
namespace K08
open PySem PySem.Spec PyProof.Rows L2 TW
def m_is_row : M Fl :=
(TW.sSeq (TW.sIf (TW.tOr (TW.tNot (TW.tVal (eIs .tuple (eVar 2)))) (TW.tVal (eCmp .ne (eFn lenD (aCons (eVar 2) aNil)) (eFn lenD (aCons (eIx (eVar 0) (eC (.int 1))) aNil)))))
(TW.sRet (eC (.bool false)))
TW.sSkip)
(TW.sRet (eFn allD (aCons (eNw (nCmp [3] (iSeqM (eVar 2)) (tgName 3) (pure true) (TW.eOr (eCmp .isN (eVar 3) (eC .none)) (eCall 3 K02.f_is_integer (aCons (eVar 3) (aCons (eC (.int 0)) (aCons (eBin .sub (eVar 1) (eC (.int 1))) aNil))))))) aNil))))
def f_is_row : Sem := runF 4 m_is_row
def m_are_ends : M Fl :=
(TW.sSeq (TW.sIf (TW.tOr (TW.tNot (TW.tVal (eIs .tuple (eVar 1)))) (TW.tOr (TW.tVal (eOp eq0D (eVar 1) (eTup aNil))) (TW.tNot (TW.tVal (eFn allD (aCons (eNw (nCmp [4] (iSeqM (eVar 1)) (tgName 4) (pure true) (eCall 3 K02.f_is_integer (aCons (eVar 4) (aCons (eC (.int 0)) (aCons (eBin .sub (eVar 0) (eC (.int 1))) aNil)))))) aNil))))))
(TW.sRet (eC (.bool false)))
TW.sSkip)
(TW.sRet (eFn allD (aCons (eNw (nCmp [2, 3] (iZpM (eVar 1) (eSlc (eVar 1) (pSome (eC (.int 1))) pNone)) (tgTup [(tgName 2), (tgName 3)]) (pure true) (eCmp .lt (eVar 2) (eVar 3)))) aNil))))
def f_are_ends : Sem := runF 5 m_are_ends
def m_plan_error : M Fl :=
(TW.sSeq (TW.sIf (TW.tOr (TW.tNot (TW.tVal (eIs .tuple (eVar 1)))) (TW.tVal (eCmp .ne (eFn lenD (aCons (eVar 1) aNil)) (eC (.int 2)))))
(TW.sRet (eTup (aCons (eC .none) (aCons (eC (.str "plan")) aNil))))
TW.sSkip)
(TW.sSeq (TW.sTg (tgTup [(tgName 2), (tgName 3)]) (eVar 1))
(TW.sSeq (TW.sIf (TW.tOr (TW.tNot (TW.tVal (eIs .tuple (eVar 3)))) (TW.tNot (TW.tVal (eChn (cmpD .le) (cmpD .le) (eC (.int 1)) (eFn lenD (aCons (eVar 3) aNil)) (eC (.int 6))))))
(TW.sRet (eTup (aCons (eC .none) (aCons (eC (.str "rows")) aNil))))
TW.sSkip)
(TW.sSeq (TW.sFor (iEnM (eVar 3)) (tgTup [(tgName 4), (tgName 5)])
(TW.sIf (TW.tNot (TW.tVal (eCall 3 f_is_row (aCons (eVar 0) (aCons (eFn lenD (aCons (eVar 3) aNil)) (aCons (eVar 5) aNil))))))
(TW.sRet (eTup (aCons (eVar 4) (aCons (eC (.str "row")) aNil))))
TW.sSkip))
(TW.sRet (TW.eIf (TW.tVal (eCall 2 f_are_ends (aCons (eFn lenD (aCons (eVar 3) aNil)) (aCons (eVar 2) aNil)))) (eC .none) (eTup (aCons (eC .none) (aCons (eC (.str "ends")) aNil)))))))))
def f_plan_error : Sem := runF 6 m_plan_error
def m_is_plan : M Fl :=
(TW.sRet (eCmp .isN (eCall 2 f_plan_error (aCons (eVar 0) (aCons (eVar 1) aNil))) (eC .none)))
def f_is_plan : Sem := runF 2 m_is_plan
def m_free_plan : M Fl :=
(TW.sRet (eTup (aCons (eTup (aCons (eC (.int 0)) aNil)) (aCons (eTup (aCons (eOp repD (eTup (aCons (eC (.int 0)) aNil)) (eFn lenD (aCons (eIx (eVar 0) (eC (.int 1))) aNil))) aNil)) aNil))))
def f_free_plan : Sem := runF 1 m_free_plan
def m_law_plan : M Fl :=
(TW.sSeq (TW.sTg (tgTup [(tgName 6), (tgName 7)]) (eTup (aCons (eFn lenD (aCons (eIx (eVar 1) (eC (.int 1))) aNil)) (aCons (eBin .add (eC (.int 1)) (eCall 2 drawF (aCons (eVar 0) (aCons (eVar 2) aNil)))) aNil))))
(TW.sSeq (TW.sIf (TW.tVal (eCmp .eq (eCall 2 drawF (aCons (eVar 0) (aCons (eC (.int 5)) aNil))) (eC (.int 0))))
(TW.sRet (eTup (aCons (eTup (aCons (eC (.int 0)) aNil)) (aCons (eTup (aCons (eOp repD (eTup (aCons (eC (.int 0)) aNil)) (eVar 6)) aNil)) aNil))))
TW.sSkip)
(TW.sSeq (TW.sAsg 3 (eNw (nLst (aCons (eC .none) (aCons (eCall 2 drawF (aCons (eVar 0) (aCons (eVar 7) aNil))) (aCons (eCall 2 drawF (aCons (eVar 0) (aCons (eVar 7) aNil))) aNil))))))
(TW.sSeq (TW.sAsg 4 (eNw (nCmp [8] (iRg1 (eVar 7)) (tgName 8) (pure true) (eFn tupleD (aCons (eNw (nCmp [9] (iRg1 (eVar 6)) (tgName 9) (pure true) (eCall 2 K02.f_law_one (aCons (eVar 0) (aCons (eBin .add (eVar 3) (eNw (nLst (aCons (eCall 2 drawF (aCons (eVar 0) (aCons (eVar 7) aNil))) aNil)))) aNil))))) aNil)))))
(TW.sSeq (TW.sAsg 5 (eFn sortedSetD (aCons (eNw (nCmp [9] (iRg1 (eBin .add (eC (.int 1)) (eCall 2 drawF (aCons (eVar 0) (aCons (eVar 7) aNil))))) (tgName 9) (pure true) (eCall 2 drawF (aCons (eVar 0) (aCons (eVar 7) aNil))))) aNil)))
(TW.sRet (eTup (aCons (eFn tupleD (aCons (eVar 5) aNil)) (aCons (eFn tupleD (aCons (eVar 4) aNil)) aNil)))))))))
def f_law_plan : Sem := runF 10 m_law_plan
def m_law_plan_error : M Fl :=
(TW.sSeq (TW.sIf (TW.tOr (TW.tNot (TW.tVal (eIs .tuple (eVar 1)))) (TW.tVal (eCmp .ne (eFn lenD (aCons (eVar 1) aNil)) (eC (.int 2)))))
(TW.sRet (eTup (aCons (eC .none) (aCons (eC (.str "plan")) aNil))))
TW.sSkip)
(TW.sSeq (TW.sTg (tgTup [(tgName 4), (tgName 5)]) (eVar 1))
(TW.sSeq (TW.sIf (TW.tOr (TW.tNot (TW.tVal (eIs .tuple (eVar 5)))) (TW.tNot (TW.tVal (eChn (cmpD .le) (cmpD .le) (eC (.int 1)) (eFn lenD (aCons (eVar 5) aNil)) (eC (.int 6))))))
(TW.sRet (eTup (aCons (eC .none) (aCons (eC (.str "rows")) aNil))))
TW.sSkip)
(TW.sSeq (TW.sFor (iRg1 (eFn lenD (aCons (eVar 5) aNil))) (tgName 2)
(TW.sSeq (TW.sAsg 6 (eIx (eVar 5) (eVar 2)))
(TW.sSeq (TW.sIf (TW.tOr (TW.tNot (TW.tVal (eIs .tuple (eVar 6)))) (TW.tVal (eCmp .ne (eFn lenD (aCons (eVar 6) aNil)) (eFn lenD (aCons (eIx (eVar 0) (eC (.int 1))) aNil)))))
(TW.sRet (eTup (aCons (eVar 2) (aCons (eC (.str "row")) aNil))))
TW.sSkip)
(TW.sIf (TW.tVal (eOp ne0D (eNw (nCmp [7] (iSeqM (eVar 6)) (tgName 7) (TW.tAnd (TW.tVal (eCmp .notN (eVar 7) (eC .none))) (TW.tNot (TW.tVal (eCall 3 K02.f_law_whole (aCons (eVar 7) (aCons (eC (.int 0)) (aCons (eBin .sub (eFn lenD (aCons (eVar 5) aNil)) (eC (.int 1))) aNil))))))) (eVar 7))) (eNw (nLst aNil))))
(TW.sRet (eTup (aCons (eVar 2) (aCons (eC (.str "row")) aNil))))
TW.sSkip))))
(TW.sSeq (TW.sIf (TW.tOr (TW.tNot (TW.tVal (eIs .tuple (eVar 4)))) (TW.tVal (eOp eq0D (eVar 4) (eTup aNil))))
(TW.sRet (eTup (aCons (eC .none) (aCons (eC (.str "ends")) aNil))))
TW.sSkip)
(TW.sSeq (TW.sAsg 3 (eNw (nCmp [7] (iSeqM (eVar 4)) (tgName 7) (TW.tNot (TW.tVal (eCall 3 K02.f_law_whole (aCons (eVar 7) (aCons (eC (.int 0)) (aCons (eBin .sub (eFn lenD (aCons (eVar 5) aNil)) (eC (.int 1))) aNil)))))) (eVar 7))))
(TW.sRet (TW.eIf (TW.tAnd (TW.tVal (eOp eq0D (eVar 3) (eNw (nLst aNil)))) (TW.tVal (eCmp .eq (eFn listD (aCons (eVar 4) aNil)) (eFn sortedSetD (aCons (eVar 4) aNil))))) (eC .none) (eTup (aCons (eC .none) (aCons (eC (.str "ends")) aNil)))))))))))
def f_law_plan_error : Sem := runF 8 m_law_plan_error
def m_law_1 : M Fl :=
(TW.sRet (eC (.bool true)))
def m_law_2 : M Fl :=
(TW.sIf (TW.tVal (eCmp .ne (eFn reprD (aCons (eCall 1 f_free_plan (aCons (eVar 3) aNil)) aNil)) (eFn reprD (aCons (eTup (aCons (eTup (aCons (eC (.int 0)) aNil)) (aCons (eTup (aCons (eOp repD (eTup (aCons (eC (.int 0)) aNil)) (eVar 10)) aNil)) aNil))) aNil))))
(TW.sRet (eC (.bool false)))
TW.sSkip)
def m_law_3 : M Fl :=
(TW.sIf (TW.tOr (TW.tVal (eCmp .ne (eFn reprD (aCons (eCall 2 f_is_plan (aCons (eVar 3) (aCons (eVar 8) aNil))) aNil)) (eFn reprD (aCons (eCmp .eq (eVar 16) (eC (.str "None"))) aNil)))) (TW.tVal (eCmp .ne (eFn reprD (aCons (eVar 8) aNil)) (eVar 15))))
(TW.sRet (eC (.bool false)))
TW.sSkip)
def m_law_4 : M Fl :=
(TW.sIf (TW.tVal (eCmp .ne (eNw (nCmp [18] (iRg1 (eC (.int 2))) (tgName 18) (pure true) (eFn reprD (aCons (eCall 2 f_plan_error (aCons (eVar 3) (aCons (eVar 8) aNil))) aNil)))) (eNw (nLst (aCons (eVar 16) (aCons (eVar 16) aNil))))))
(TW.sRet (eC (.bool false)))
TW.sSkip)
def m_law_5 : M Fl :=
(TW.sSeq m_law_4 m_law_3)
def m_law_6 : M Fl :=
(TW.sPar [tgName 15, tgName 16] (aCons (eFn reprD (aCons (eVar 8) aNil)) (aCons (eFn reprD (aCons (eCall 2 f_law_plan_error (aCons (eVar 3) (aCons (eVar 8) aNil))) aNil)) aNil)))
def m_law_7 : M Fl :=
(TW.sSeq m_law_6 m_law_5)
def m_law_8 : M Fl :=
(TW.sFor (iSeqM (eBin .add (eVar 4) (eNw (nLst (aCons (eTup (aCons (eTup (aCons (eC (.int 5)) aNil)) (aCons (eOp repD (eTup (aCons (eOp repD (eTup (aCons (eC (.int 0)) aNil)) (eVar 10)) aNil)) (eC (.int 6))) aNil))) (aCons (eTup (aCons (eTup (aCons (eC (.int 0)) (aCons (eC (.int 1)) (aCons (eC (.int 2)) (aCons (eC (.int 3)) (aCons (eC (.int 4)) (aCons (eC (.int 5)) aNil))))))) (aCons (eOp repD (eTup (aCons (eOp repD (eTup (aCons (eC .none) aNil)) (eVar 10)) aNil)) (eC (.int 6))) aNil))) aNil)))))) (tgName 8)
m_law_7)
def m_law_9 : M Fl :=
(TW.sSeq m_law_8 m_law_2)
def m_law_10 : M Fl :=
(TW.sAsgN 4 (nOp catD (eVar 4) (eNw (nCmp [17] (iSeqM (eVar 7)) (tgName 17) (pure true) (eTup (aCons (eVar 11) (aCons (eBin .add (eBin .add (eSlc (eVar 12) pNone (pSome (eVar 5))) (eTup (aCons (eVar 17) aNil))) (eSlc (eVar 12) (pSome (eBin .add (eVar 5) (eC (.int 1)))) pNone)) aNil)))))))
def m_law_11 : M Fl :=
(TW.sSeq m_law_10 m_law_9)
def m_law_12 : M Fl :=
(TW.sAsg 7 (eNw (nLst (aCons (eBin .add (eSlc (eIx (eVar 12) (eVar 5)) pNone (pSome (eUn neD (eC (.int 1))))) (eTup (aCons (eVar 6) aNil))) (aCons (eBin .add (eTup (aCons (eVar 6) aNil)) (eSlc (eIx (eVar 12) (eVar 5)) (pSome (eC (.int 1))) pNone)) (aCons (eBin .add (eIx (eVar 12) (eVar 5)) (eTup (aCons (eC (.int 0)) aNil))) (aCons (eSlc (eIx (eVar 12) (eVar 5)) (pSome (eC (.int 1))) pNone) (aCons (eFn listD (aCons (eIx (eVar 12) (eVar 5)) aNil)) (aCons (eC .none) aNil)))))))))
def m_law_13 : M Fl :=
(TW.sSeq m_law_12 m_law_11)
def m_law_14 : M Fl :=
(TW.sAsg 6 (eCall 2 K02.f_law_one (aCons (eVar 1) (aCons (eNw (nLst (aCons (eUn neD (eC (.int 1))) (aCons (eVar 14) (aCons (eC (.bool true)) (aCons (eC (.str "0")) (aCons (eBin .pow (eC (.int 10)) (eC (.int 39))) (aCons (eTup aNil) aNil)))))))) aNil))))
def m_law_15 : M Fl :=
(TW.sSeq m_law_14 m_law_13)
def m_law_16 : M Fl :=
(TW.sAsg 5 (eCall 2 drawF (aCons (eVar 1) (aCons (eVar 14) aNil))))
def m_law_17 : M Fl :=
(TW.sSeq m_law_16 m_law_15)
def m_law_18 : M Fl :=
(TW.sIf (TW.tAnd (TW.tVal (eIs .tuple (eVar 13))) (TW.tVal (eCmp .gt (eFn lenD (aCons (eVar 13) aNil)) (eC (.int 0)))))
(sApp 4 (eCall 2 K02.f_law_bent (aCons (eVar 1) (aCons (eVar 13) aNil))))
TW.sSkip)
def m_law_19 : M Fl :=
(TW.sSeq m_law_18 m_law_17)
def m_law_20 : M Fl :=
(TW.sAsgN 4 (nOp catD (eVar 4) (eNw (nLst (aCons (eTup (aCons (eTup (aCons (eC (.bool true)) aNil)) (aCons (eVar 12) aNil))) (aCons (eTup (aCons (eBin .add (eVar 11) (eSlc (eVar 11) (pSome (eUn neD (eC (.int 1)))) pNone)) (aCons (eVar 12) aNil))) (aCons (eTup (aCons (eC .none) (aCons (eVar 12) aNil))) (aCons (eTup (aCons (eVar 11) (aCons (eVar 12) (aCons (eVar 12) aNil)))) (aCons (eNw (nLst (aCons (eVar 11) (aCons (eVar 12) aNil)))) aNil)))))))))
def m_law_21 : M Fl :=
(TW.sSeq m_law_20 m_law_19)
def m_law_22 : M Fl :=
(TW.sAsgN 4 (nOp catD (eVar 4) (eNw (nLst (aCons (eTup (aCons (eBin .add (eUn backD (eVar 11)) (eTup (aCons (eC (.int 0)) aNil))) (aCons (eVar 12) aNil))) (aCons (eTup (aCons (eTup aNil) (aCons (eVar 12) aNil))) (aCons (eTup (aCons (eFn listD (aCons (eVar 11) aNil)) (aCons (eVar 12) aNil))) (aCons (eTup (aCons (eTup (aCons (eVar 14) aNil)) (aCons (eVar 12) aNil))) (aCons (eTup (aCons (eTup (aCons (eUn neD (eC (.int 1))) aNil)) (aCons (eVar 12) aNil))) aNil)))))))))
def m_law_23 : M Fl :=
(TW.sSeq m_law_22 m_law_21)
def m_law_24 : M Fl :=
(TW.sAsgN 4 (nOp catD (eVar 4) (eNw (nLst (aCons (eTup (aCons (eVar 11) (aCons (eFn listD (aCons (eVar 12) aNil)) aNil))) (aCons (eTup (aCons (eTup aNil) (aCons (eTup aNil) aNil))) (aCons (eTup (aCons (eC .none) (aCons (eBin .add (eSlc (eVar 12) pNone (pSome (eUn neD (eC (.int 1))))) (eTup (aCons (eC .none) aNil))) aNil))) aNil)))))))
def m_law_25 : M Fl :=
(TW.sSeq m_law_24 m_law_23)
def m_law_26 : M Fl :=
(TW.sAsgN 4 (nLst (aCons (eVar 9) (aCons (eVar 13) (aCons (eCall 2 K02.f_law_bent (aCons (eVar 1) (aCons (eVar 9) aNil))) (aCons (eCall 1 K02.f_law_odd (aCons (eVar 1) aNil)) (aCons (eTup (aCons (eVar 11) (aCons (eOp repD (eVar 12) (eC (.int 7))) aNil))) (aCons (eTup (aCons (eVar 11) (aCons (eTup aNil) aNil))) (aCons (eTup (aCons (eVar 11) aNil)) aNil)))))))))
def m_law_27 : M Fl :=
(TW.sSeq m_law_26 m_law_25)
def m_law_28 : M Fl :=
(TW.sPar [tgName 13, tgName 14] (aCons (eCall 2 K02.f_law_bent (aCons (eVar 1) (aCons (eVar 9) aNil))) (aCons (eFn lenD (aCons (eVar 12) aNil)) aNil)))
def m_law_29 : M Fl :=
(TW.sSeq m_law_28 m_law_27)
def m_law_30 : M Fl :=
(TW.sTg (tgTup [(tgName 11), (tgName 12)]) (eVar 9))
def m_law_31 : M Fl :=
(TW.sSeq m_law_30 m_law_29)
def m_law_32 : M Fl :=
(TW.sPar [tgName 9, tgName 10] (aCons (eCall 3 f_law_plan (aCons (eVar 1) (aCons (eVar 3) (aCons (eC (.int 6)) aNil)))) (aCons (eFn lenD (aCons (eIx (eVar 3) (eC (.int 1))) aNil)) aNil)))
def m_law_33 : M Fl :=
(TW.sSeq m_law_32 m_law_31)
def m_law_34 : M Fl :=
(TW.sAsg 3 (eCall 3 K02.f_law_handler (aCons (eVar 1) (aCons (eC (.int 5)) (aCons (eC (.int 6)) aNil)))))
def m_law_35 : M Fl :=
(TW.sSeq m_law_34 m_law_33)
def m_law_36 : M Fl :=
(TW.sFor (iRg1 (eC (.int 12))) (tgName 2)
m_law_35)
def m_law : M Fl :=
(TW.sSeq m_law_36 m_law_1)
end K08
set_option linter.all false
set_option Elab.async false
set_option maxRecDepth 100000
set_option maxHeartbeats 0
namespace K09
open PySem PySem.Spec PyProof.Rows L2 TW
def m_goal_of : M Fl :=
(TW.sRet (TW.eIf (TW.tVal (eCmp .notN (eVar 1) (eC .none))) (eIx (eIx (eIx (eVar 0) (eC (.int 1))) (eVar 1)) (eVar 2)) (eC .none)))
def f_goal_of : Sem := runF 3 m_goal_of
def m_led_to : M Fl :=
(TW.sSeq (TW.sAsg 2 (eC (.int 0)))
(TW.sSeq (TW.sFor (iSeqM (eVar 1)) (tgName 3)
(TW.sAsg 2 (eCall 3 f_goal_of (aCons (eVar 0) (aCons (eVar 2) (aCons (eVar 3) aNil))))))
(TW.sRet (eVar 2))))
def f_led_to : Sem := runF 4 m_led_to
def m_is_log : M Fl :=
(TW.sSeq (TW.sIf (TW.tOr (TW.tNot (TW.tVal (eIs .tuple (eVar 1)))) (TW.tVal (eCmp .gt (eFn lenD (aCons (eVar 1) aNil)) (eC (.int 200)))))
(TW.sRet (eC (.bool false)))
TW.sSkip)
(TW.sRet (eFn allD (aCons (eNw (nCmp [2] (iSeqM (eVar 1)) (tgName 2) (pure true) (eCall 3 K02.f_is_integer (aCons (eVar 2) (aCons (eC (.int 0)) (aCons (eBin .sub (eFn lenD (aCons (eIx (eVar 0) (eC (.int 1))) aNil)) (eC (.int 1))) aNil)))))) aNil))))
def f_is_log : Sem := runF 3 m_is_log
def m_is_sent : M Fl :=
(TW.sRet (TW.eAnd (eCall 2 f_is_log (aCons (eVar 0) (aCons (eVar 2) aNil))) (eOp (memD false) (eCall 2 f_led_to (aCons (eVar 1) (aCons (eVar 2) aNil))) (eIx (eVar 1) (eC (.int 0))))))
def f_is_sent : Sem := runF 3 m_is_sent
def m_first_sent : M Fl :=
(TW.sSeq (sParP [2, 3] (pOwn (nDictK (eC (.int 0)) (eTup aNil)) (pDat (eNw (nLst (aCons (eC (.int 0)) aNil))) pNil)))
(TW.sSeq (whileL (TW.tVal (eOp ne0D (eVar 3) (eNw (nLst aNil))))
(TW.sSeq (TW.sAsgN 4 (nLst aNil))
(TW.sSeq (TW.sFor (iSeqM (eVar 3)) (tgName 5)
(TW.sSeq (TW.sIf (TW.tVal (eOp (memD false) (eVar 5) (eIx (eVar 1) (eC (.int 0)))))
(TW.sRet (eGetO 2 (eVar 5)))
TW.sSkip)
(TW.sFor (iRg1 (eFn lenD (aCons (eIx (eVar 0) (eC (.int 1))) aNil))) (tgName 6)
(TW.sSeq (TW.sAsg 7 (eCall 3 f_goal_of (aCons (eVar 1) (aCons (eVar 5) (aCons (eVar 6) aNil)))))
(TW.sIf (TW.tAnd (TW.tVal (eCmp .notN (eVar 7) (eC .none))) (TW.tVal (eInO 2 true (eVar 7))))
(TW.sSeq (sPutO 2 (eVar 7) (eTup (aStar (eGetO 2 (eVar 5)) (aCons (eVar 6) aNil))))
(sApp 4 (eVar 7)))
TW.sSkip)))))
(TW.sAsg 3 (eVar 4)))) wFuel)
(TW.sRet (eC .none))))
def f_first_sent : Sem := runF 8 m_first_sent
def m_law_led : M Fl :=
(TW.sSeq (TW.sAsg 2 (eC (.int 0)))
(TW.sSeq (TW.sFor (iSeqM (eVar 1)) (tgName 3)
(TW.sAsg 2 (TW.eIf (TW.tVal (eCmp .notN (eVar 2) (eC .none))) (eIx (eIx (eIx (eVar 0) (eC (.int 1))) (eVar 2)) (eVar 3)) (eC .none))))
(TW.sRet (eVar 2))))
def f_law_led : Sem := runF 4 m_law_led
def m_law_log_error : M Fl :=
(TW.sSeq (TW.sIf (TW.tOr (TW.tNot (TW.tVal (eIs .tuple (eVar 1)))) (TW.tVal (eCmp .gt (eFn lenD (aCons (eVar 1) aNil)) (eC (.int 200)))))
(TW.sRet (eTup (aCons (eC .none) (aCons (eC (.str "log")) aNil))))
TW.sSkip)
(TW.sSeq (TW.sAsg 2 (eNw (nCmp [3] (iRg1 (eFn lenD (aCons (eVar 1) aNil))) (tgName 3) (TW.tNot (TW.tVal (eCall 3 K02.f_law_whole (aCons (eIx (eVar 1) (eVar 3)) (aCons (eC (.int 0)) (aCons (eBin .sub (eFn lenD (aCons (eIx (eVar 0) (eC (.int 1))) aNil)) (eC (.int 1))) aNil)))))) (eVar 3))))
(TW.sRet (TW.eIf (TW.tVal (eOp eq0D (eVar 2) (eNw (nLst aNil)))) (eC .none) (eTup (aCons (eIx (eVar 2) (eC (.int 0))) (aCons (eC (.str "kind")) aNil)))))))
def f_law_log_error : Sem := runF 4 m_law_log_error
def m_require_kind : M Fl :=
(TW.sIf (TW.tNot (TW.tVal (eCall 3 K02.f_is_integer (aCons (eVar 1) (aCons (eC (.int 0)) (aCons (eBin .sub (eFn lenD (aCons (eIx (eVar 0) (eC (.int 1))) aNil)) (eC (.int 1))) aNil))))))
(sRaise "NoKind" ["index"] (aCons (eVar 1) aNil))
TW.sSkip)
def f_require_kind : Sem := runF 2 m_require_kind
def m_require_log : M Fl :=
(TW.sFor (iSeqM (eVar 1)) (tgName 2)
(sExp (eCallX 2 f_require_kind (aCons (eVar 0) (aCons (eVar 2) aNil)))))
def f_require_log : Sem := runF 3 m_require_log
def m_place_behind : M Fl :=
(TW.sSeq (sExp (eCallX 2 f_require_log (aCons (eVar 0) (aCons (eVar 2) aNil))))
(TW.sRet (eCall 2 f_led_to (aCons (eVar 1) (aCons (eVar 2) aNil)))))
def f_place_behind : Sem := runF 3 m_place_behind
def m_law_told : M Fl :=
(TW.sSeq (TW.sAsg 3 (eC .none))
(TW.sSeq (sTry 4 (inL ["NoKind"]) (TW.sAsg 3 (eCallX 3 f_place_behind (aCons (eVar 0) (aCons (eVar 1) (aCons (eVar 2) aNil))))) (fun c fs =>
(TW.sSeq (TW.sAsg 5 (TW.eAnd (isM (tabL [("NoKind", true)]) c) (TW.eNot (isM (tabL [("NoKind", false)]) c))))
(TW.sRet (TW.eIf (TW.tAnd (TW.tVal (eVar 5)) (TW.tVal (isM (tabL [("NoKind", true)]) c))) (eNw (nLst (aCons (eC (.str "kind")) (aCons (fldM (inL ["NoKind"]) "index" c fs) aNil)))) (eNw (nLst (aCons (eC (.str "other")) aNil))))))))
(TW.sRet (eVar 3))))
def f_law_told : Sem := runF 6 m_law_told
def m_law_first : M Fl :=
(TW.sSeq (sParP [2, 3] (pOwn (nLst (aCons (eC (.int 0)) aNil)) (pDat (eNw (nLst (aCons (eTup aNil) aNil))) pNil)))
(TW.sSeq (whileL (TW.tVal (eOp ne0D (eVar 3) (eNw (nLst aNil))))
(TW.sSeq (TW.sAsgN 4 (nLst aNil))
(TW.sSeq (TW.sFor (iSeqM (eVar 3)) (tgName 5)
(TW.sSeq (TW.sIf (TW.tVal (eOp (memD false) (eCall 2 f_law_led (aCons (eVar 1) (aCons (eVar 5) aNil))) (eIx (eVar 1) (eC (.int 0)))))
(TW.sRet (eVar 5))
TW.sSkip)
(TW.sFor (iRg1 (eFn lenD (aCons (eIx (eVar 0) (eC (.int 1))) aNil))) (tgName 6)
(TW.sSeq (TW.sAsg 7 (eCall 2 f_law_led (aCons (eVar 1) (aCons (eBin .add (eVar 5) (eTup (aCons (eVar 6) aNil))) aNil))))
(TW.sIf (TW.tAnd (TW.tVal (eCmp .notN (eVar 7) (eC .none))) (TW.tVal (eOp (memD true) (eVar 7) (eVar 2))))
(TW.sSeq (sApp 2 (eVar 7))
(sApp 4 (eBin .add (eVar 5) (eTup (aCons (eVar 6) aNil)))))
TW.sSkip)))))
(TW.sAsg 3 (eVar 4)))) wFuel)
(TW.sRet (eC .none))))
def f_law_first : Sem := runF 8 m_law_first
def m_law_walked : M Fl :=
(TW.sSeq (TW.sTg (tgTup [(tgName 5), (tgName 6)]) (eTup (aCons (eTup aNil) (aCons (eC (.int 0)) aNil))))
(TW.sSeq (TW.sFor (iRg1 (eCall 2 drawF (aCons (eVar 0) (aCons (eBin .add (eVar 3) (eC (.int 1))) aNil)))) (tgName 4)
(TW.sSeq (TW.sAsg 7 (eNw (nCmp [8] (iRg1 (eFn lenD (aCons (eIx (eVar 1) (eC (.int 1))) aNil))) (tgName 8) (TW.tVal (eCmp .notN (eIx (eIx (eIx (eVar 2) (eC (.int 1))) (eVar 6)) (eVar 8)) (eC .none))) (eVar 8))))
(TW.sSeq (TW.sIf (TW.tVal (eOp eq0D (eVar 7) (eNw (nLst aNil))))
(TW.sRet (eVar 5))
TW.sSkip)
(TW.sSeq (TW.sAsg 5 (eBin .add (eVar 5) (eTup (aCons (eCall 2 K02.f_law_one (aCons (eVar 0) (aCons (eVar 7) aNil))) aNil))))
(TW.sAsg 6 (eIx (eIx (eIx (eVar 2) (eC (.int 1))) (eVar 6)) (eIx (eVar 5) (eUn neD (eC (.int 1))))))))))
(TW.sRet (eVar 5))))
def f_law_walked : Sem := runF 9 m_law_walked
def m_law_1 : M Fl :=
(TW.sRet (eCmp .isN (eCall 2 f_first_sent (aCons (eTup (aCons (eTup (aCons (eC (.int 0)) (aCons (eC (.int 0)) aNil))) (aCons (eTup (aCons (eTup (aCons (eC (.int 0)) (aCons (eTup (aCons (eC (.int 0)) (aCons (eC (.int 0)) aNil))) aNil))) aNil)) aNil))) (aCons (eTup (aCons (eTup (aCons (eC (.int 1)) aNil)) (aCons (eTup (aCons (eTup (aCons (eC (.int 0)) aNil)) (aCons (eTup (aCons (eC (.int 0)) aNil)) aNil))) aNil))) aNil))) (eC .none)))
def m_law_2 : M Fl :=
(TW.sIf (TW.tVal (eCmp .ne (eFn reprD (aCons (eNw (nLst (aCons (eVar 3) (aCons (eVar 6) aNil)))) aNil)) (eVar 4)))
(TW.sRet (eC (.bool false)))
TW.sSkip)
def m_law_3 : M Fl :=
(TW.sIf (TW.tVal (eCmp .ne (eFn reprD (aCons (eBin .mul (eNw (nLst (aCons (eCall 2 f_first_sent (aCons (eVar 3) (aCons (eVar 6) aNil))) aNil))) (eC (.int 2))) aNil)) (eFn reprD (aCons (eBin .mul (eNw (nLst (aCons (eCall 2 f_law_first (aCons (eVar 3) (aCons (eVar 6) aNil))) aNil))) (eC (.int 2))) aNil))))
(TW.sRet (eC (.bool false)))
TW.sSkip)
def m_law_4 : M Fl :=
(TW.sSeq m_law_3 m_law_2)
def m_law_5 : M Fl :=
(TW.sIf (TW.tVal (eCmp .ne (eFn reprD (aCons (eCall 3 f_is_sent (aCons (eVar 3) (aCons (eVar 6) (aCons (eVar 11) aNil)))) aNil)) (eFn reprD (aCons (eVar 13) aNil))))
(TW.sRet (eC (.bool false)))
TW.sSkip)
def m_law_6 : M Fl :=
(TW.sAsg 13 (TW.eAnd (eCmp .isN (eCall 2 f_law_log_error (aCons (eVar 3) (aCons (eVar 11) aNil))) (eC .none)) (eOp (memD false) (eCall 2 f_law_led (aCons (eVar 6) (aCons (eVar 11) aNil))) (eIx (eVar 6) (eC (.int 0))))))
def m_law_7 : M Fl :=
(TW.sSeq m_law_6 m_law_5)
def m_law_8 : M Fl :=
(TW.sFor (iSeqM (eVar 10)) (tgName 11)
m_law_7)
def m_law_9 : M Fl :=
(TW.sAsgN 10 (nOp catD (eVar 10) (eNw (nLst (aCons (eFn listD (aCons (eVar 8) aNil)) (aCons (eCall 2 K02.f_law_bent (aCons (eVar 1) (aCons (eVar 8) aNil))) (aCons (eCall 1 K02.f_law_odd (aCons (eVar 1) aNil)) (aCons (eC .none) (aCons (eTup (aCons (eVar 8) aNil)) (aCons (eOp repD (eTup (aCons (eC (.int 0)) aNil)) (eC (.int 200))) (aCons (eOp repD (eTup (aCons (eC (.int 0)) aNil)) (eC (.int 201))) aNil)))))))))))
def m_law_10 : M Fl :=
(TW.sSeq m_law_9 m_law_8)
def m_law_11 : M Fl :=
(TW.sIf (TW.tVal (eCmp .ne (eNw (nCmp [15] (iRg1 (eC (.int 2))) (tgName 15) (pure true) (eFn reprD (aCons (eCall 3 f_law_told (aCons (eVar 3) (aCons (eVar 6) (aCons (eVar 11) aNil)))) aNil)))) (eBin .mul (eNw (nLst (aCons (eFn reprD (aCons (eVar 13) aNil)) aNil))) (eC (.int 2)))))
(TW.sRet (eC (.bool false)))
TW.sSkip)
def m_law_12 : M Fl :=
(TW.sAsg 13 (TW.eIf (TW.tVal (eOp ne0D (eVar 12) (eNw (nLst aNil)))) (eNw (nLst (aCons (eC (.str "kind")) (aCons (eIx (eVar 12) (eC (.int 0))) aNil)))) (eCall 2 f_law_led (aCons (eVar 6) (aCons (eVar 11) aNil)))))
def m_law_13 : M Fl :=
(TW.sSeq m_law_12 m_law_11)
def m_law_14 : M Fl :=
(TW.sAsg 12 (eNw (nCmp [14] (iSeqM (eVar 11)) (tgName 14) (TW.tNot (TW.tVal (eCall 3 K02.f_law_whole (aCons (eVar 14) (aCons (eC (.int 0)) (aCons (eBin .sub (eVar 7) (eC (.int 1))) aNil)))))) (eVar 14))))
def m_law_15 : M Fl :=
(TW.sSeq m_law_14 m_law_13)
def m_law_16 : M Fl :=
(TW.sFor (iSeqM (eBin .add (eVar 10) (eNw (nLst (aCons (eOp repD (eTup (aCons (eCall 2 drawF (aCons (eVar 1) (aCons (eVar 7) aNil))) aNil)) (eC (.int 200))) aNil))))) (tgName 11)
m_law_15)
def m_law_17 : M Fl :=
(TW.sSeq m_law_16 m_law_10)
def m_law_18 : M Fl :=
(sApp 10 (eBin .add (eVar 8) (eTup (aCons (eUn neD (eC (.int 1))) (aCons (eC .none) aNil)))))
def m_law_19 : M Fl :=
(TW.sSeq m_law_18 m_law_17)
def m_law_20 : M Fl :=
(TW.sAsgN 10 (nLst (aCons (eVar 8) (aCons (eTup aNil) (aCons (eSlc (eVar 8) pNone (pSome (eUn neD (eC (.int 1))))) (aCons (eBin .add (eBin .add (eSlc (eVar 8) pNone (pSome (eVar 9))) (eTup (aCons (eCall 1 K02.f_law_odd (aCons (eVar 1) aNil)) aNil))) (eSlc (eVar 8) (pSome (eVar 9)) pNone)) (aCons (eBin .add (eVar 8) (eTup (aCons (eVar 7) aNil))) (aCons (eBin .add (eVar 8) (eTup (aCons (eC (.bool true)) aNil))) aNil))))))))
def m_law_21 : M Fl :=
(TW.sSeq m_law_20 m_law_19)
def m_law_22 : M Fl :=
(TW.sAsg 9 (eCall 2 drawF (aCons (eVar 1) (aCons (eBin .add (eFn lenD (aCons (eVar 8) aNil)) (eC (.int 1))) aNil))))
def m_law_23 : M Fl :=
(TW.sSeq m_law_22 m_law_21)
def m_law_24 : M Fl :=
(TW.sAsg 8 (eCall 4 f_law_walked (aCons (eVar 1) (aCons (eVar 3) (aCons (eVar 6) (aCons (eIx (eNw (nLst (aCons (eC (.int 6)) (aCons (eC (.int 20)) (aCons (eC (.int 198)) aNil))))) (eVar 5)) aNil))))))
def m_law_25 : M Fl :=
(TW.sSeq m_law_24 m_law_23)
def m_law_26 : M Fl :=
(TW.sFor (iRg1 (eC (.int 3))) (tgName 5)
m_law_25)
def m_law_27 : M Fl :=
(TW.sSeq m_law_26 m_law_4)
def m_law_28 : M Fl :=
(TW.sAsg 4 (eFn reprD (aCons (eNw (nLst (aCons (eVar 3) (aCons (eVar 6) aNil)))) aNil)))
def m_law_29 : M Fl :=
(TW.sSeq m_law_28 m_law_27)
def m_law_30 : M Fl :=
(TW.sTg (tgTup [(tgName 6), (tgName 7)]) (eTup (aCons (eCall 3 K08.f_law_plan (aCons (eVar 1) (aCons (eVar 3) (aCons (eC (.int 6)) aNil)))) (aCons (eFn lenD (aCons (eIx (eVar 3) (eC (.int 1))) aNil)) aNil))))
def m_law_31 : M Fl :=
(TW.sSeq m_law_30 m_law_29)
def m_law_32 : M Fl :=
(TW.sAsg 3 (eCall 3 K02.f_law_handler (aCons (eVar 1) (aCons (eC (.int 4)) (aCons (eC (.int 6)) aNil)))))
def m_law_33 : M Fl :=
(TW.sSeq m_law_32 m_law_31)
def m_law_34 : M Fl :=
(TW.sFor (iRg1 (eC (.int 14))) (tgName 2)
m_law_33)
def m_law : M Fl :=
(TW.sSeq m_law_34 m_law_1)
end K09
set_option linter.all false
set_option Elab.async false
set_option maxRecDepth 100000
set_option maxHeartbeats 0
namespace K17
open PySem PySem.Spec PyProof.Rows L2 TW
def m_law_pick : M Fl :=
(TW.sRet (eIx (eVar 1) (eCall 2 pipF (aCons (eVar 0) (aCons (eFn lenD (aCons (eVar 1) aNil)) aNil)))))
def f_law_pick : Sem := runF 2 m_law_pick
def m_law_targets : M Fl :=
(TW.sSeq (TW.sTg (tgTup [(tgName 2), (tgName 3), (tgName 4)]) (eTup (aCons (eCall 2 pipF (aCons (eVar 0) (aCons (eC (.int 7)) aNil))) (aCons (eBin .add (eC (.int 1)) (eCall 2 pipF (aCons (eVar 0) (aCons (eBin .sub (eVar 1) (eC (.int 1))) aNil)))) (aCons (eCall 2 pipF (aCons (eVar 0) (aCons (eVar 1) aNil))) aNil)))))
(TW.sSeq (TW.sIf (TW.tVal (eCmp .eq (eVar 2) (eC (.int 0))))
(TW.sRet (eFn tupleD (aCons (eNw (nCmp [5] (iRg1 (eVar 1)) (tgName 5) (pure true) (eFn min2D (aCons (eBin .sub (eVar 1) (eC (.int 1))) (aCons (eBin .add (eVar 5) (eVar 3)) aNil))))) aNil)))
TW.sSkip)
(TW.sSeq (TW.sIf (TW.tVal (eCmp .eq (eVar 2) (eC (.int 1))))
(TW.sRet (eOp repD (eTup (aCons (eVar 4) aNil)) (eVar 1)))
TW.sSkip)
(TW.sSeq (TW.sIf (TW.tVal (eCmp .eq (eVar 2) (eC (.int 2))))
(TW.sRet (eFn tupleD (aCons (eNw (nCmp [5] (iRg1 (eVar 1)) (tgName 5) (pure true) (eBin .mod (eFn intD (aCons (eBin .add (eVar 5) (eVar 3)) aNil)) (eVar 1)))) aNil)))
TW.sSkip)
(TW.sSeq (TW.sIf (TW.tVal (eCmp .eq (eVar 2) (eC (.int 3))))
(TW.sRet (eFn tupleD (aCons (eNw (nCmp [5] (iRg1 (eVar 1)) (tgName 5) (pure true) (TW.eIf (TW.tVal (eCmp .eq (eVar 5) (eVar 3))) (eVar 4) (eVar 5)))) aNil)))
TW.sSkip)
(TW.sSeq (TW.sIf (TW.tVal (eCmp .eq (eVar 2) (eC (.int 4))))
(TW.sRet (eFn tupleD (aCons (eNw (nCmp [5] (iRg1 (eVar 1)) (tgName 5) (pure true) (eFn max2D (aCons (eVar 5) (aCons (eVar 4) aNil))))) aNil)))
TW.sSkip)
(TW.sSeq (TW.sIf (TW.tVal (eCmp .eq (eVar 2) (eC (.int 5))))
(TW.sRet (eFn tupleD (aCons (eNw (nCmp [5] (iRg1 (eVar 1)) (tgName 5) (pure true) (TW.eIf (TW.tVal (eCmp .lt (eVar 5) (eVar 3))) (eVar 4) (eVar 5)))) aNil)))
TW.sSkip)
(TW.sRet (eFn tupleD (aCons (eNw (nCmp [5] (iRg1 (eVar 1)) (tgName 5) (pure true) (eCall 2 pipF (aCons (eVar 0) (aCons (eVar 1) aNil))))) aNil))))))))))
def f_law_targets : Sem := runF 6 m_law_targets
def m_law_handler : M Fl :=
(TW.sSeq (TW.sAsg 3 (eBin .add (eC (.int 2)) (eCall 2 pipF (aCons (eVar 0) (aCons (eBin .sub (eVar 1) (eC (.int 1))) aNil)))))
(TW.sSeq (TW.sAsg 4 (eBin .add (eC (.int 1)) (eCall 2 pipF (aCons (eVar 0) (aCons (eBin .sub (eVar 3) (eC (.int 1))) aNil)))))
(TW.sSeq (TW.sAsg 5 (eCall 2 f_law_pick (aCons (eVar 0) (aCons (eNw (nLst (aCons (eTupRg (mRg1 (eVar 3))) (aCons (eFn tupleD (aCons (eNw (nCmp [8] (iRg1 (eVar 3)) (tgName 8) (pure true) (eFn intD (aCons (eCmp .ge (eVar 8) (eVar 4)) aNil)))) aNil)) (aCons (eOp repD (eTup (aCons (eC (.int 0)) aNil)) (eVar 3)) (aCons (eFn tupleD (aCons (eNw (nCmp [8] (iRg1 (eVar 3)) (tgName 8) (pure true) (eCall 2 pipF (aCons (eVar 0) (aCons (eVar 3) aNil))))) aNil)) (aCons (eTupRg (mRg1 (eVar 3))) aNil))))))) aNil))))
(TW.sSeq (TW.sAsg 6 (eNw (nCmp [7] (iRg1 (eBin .add (eC (.int 1)) (eCall 2 pipF (aCons (eVar 0) (aCons (eVar 2) aNil))))) (tgName 7) (pure true) (eTup (aCons (eCall 2 pipF (aCons (eVar 0) (aCons (eC (.int 4)) aNil))) (aCons (eCall 2 f_law_targets (aCons (eVar 0) (aCons (eVar 3) aNil))) aNil))))))
(TW.sRet (eTup (aCons (eVar 5) (aCons (eFn tupleD (aCons (eVar 6) aNil)) aNil))))))))
def f_law_handler : Sem := runF 9 m_law_handler
def m_law_apart : M Fl :=
(TW.sSeq (TW.sTg (tgTup [(tgName 4), (tgName 5)]) (eVar 0))
(TW.sSeq (TW.sAsgN 1 nDict0)
(TW.sSeq (TW.sFor (iRg1 (eFn lenD (aCons (eVar 4) aNil))) (tgName 2)
(TW.sFor (iRg1 (eFn lenD (aCons (eVar 4) aNil))) (tgName 6)
(sPutO 1 (eTup (aCons (eVar 2) (aCons (eVar 6) aNil))) (eCmp .ne (eIx (eVar 4) (eVar 2)) (eIx (eVar 4) (eVar 6))))))
(TW.sSeq (TW.sFor (iRg1 (eFn lenD (aCons (eVar 4) aNil))) (tgName 3)
(sForST 1 (tgTup [(tgName 2), (tgName 6)])
(TW.sIf (TW.tVal (eOp ne0D (eNw (nCmp [7] (iSeqM (eVar 5)) (tgName 7) (TW.tVal (eGetO 1 (eTup (aCons (eIx (eIx (eVar 7) (eC (.int 1))) (eVar 2)) (aCons (eIx (eIx (eVar 7) (eC (.int 1))) (eVar 6)) aNil))))) (eC (.int 1)))) (eNw (nLst aNil))))
(sPutO 1 (eTup (aCons (eVar 2) (aCons (eVar 6) aNil))) (eC (.bool true)))
TW.sSkip)))
(TW.sRet (eVar 1))))))
def f_law_apart : Sem := runF 8 m_law_apart
def m_law_log : M Fl :=
(TW.sRet (eFn tupleD (aCons (eNw (nCmp [3] (iRg1 (eCall 2 pipF (aCons (eVar 0) (aCons (eBin .add (eVar 2) (eC (.int 1))) aNil)))) (tgName 3) (pure true) (eCall 2 pipF (aCons (eVar 0) (aCons (eFn lenD (aCons (eIx (eVar 1) (eC (.int 1))) aNil)) aNil))))) aNil)))
def f_law_log : Sem := runF 4 m_law_log
def m_law_anylog : M Fl :=
(TW.sRet (eCall 3 f_law_log (aCons (eVar 0) (aCons (eVar 1) (aCons (eCall 2 f_law_pick (aCons (eVar 0) (aCons (eNw (nLst (aCons (eC (.int 0)) (aCons (eC (.int 1)) (aCons (eC (.int 3)) (aCons (eC (.int 6)) (aCons (eC (.int 9)) (aCons (eC (.int 200)) aNil)))))))) aNil))) aNil)))))
def f_law_anylog : Sem := runF 2 m_law_anylog
def m_law_odd : M Fl :=
(TW.sSeq (TW.sAsg 2 (eNw (nLst (aCons (eC .none) (aCons (eC (.bool true)) (aCons (eC (.bool false)) (aCons (eUn neD (eC (.int 1))) (aCons (eBin .pow (eC (.int 10)) (eC (.int 39))) (aCons (eC (.str "")) (aCons (eC (.str "none")) (aCons (eC (.str "to")) (aCons (eNw (nLst aNil)) (aCons (eNw (nLst (aCons (eC (.int 0)) aNil))) (aCons (eNw nDict0) (aCons (eNw (nDict1 "a" (eC (.int 1)))) (aCons (eTup aNil) (aCons (eTup (aCons (eC (.int 0)) aNil)) (aCons (eTup (aCons (eTup aNil) aNil)) (aCons (eTup (aCons (eC (.str "from")) (aCons (eC (.int 0)) aNil))) aNil)))))))))))))))))))
(TW.sRet (eCall 2 f_law_pick (aCons (eVar 0) (aCons (eBin .add (eVar 2) (eVar 1)) aNil)))))
def f_law_odd : Sem := runF 3 m_law_odd
def m_end_from : M Fl :=
(TW.sSeq (TW.sAsg 3 (eVar 1))
(TW.sSeq (TW.sFor (iSeqM (eVar 2)) (tgName 4)
(TW.sAsg 3 (eIx (eIx (eIx (eIx (eVar 0) (eC (.int 1))) (eVar 4)) (eC (.int 1))) (eVar 3))))
(TW.sRet (eVar 3))))
def f_end_from : Sem := runF 5 m_end_from
def m_in_order : M Fl :=
(TW.sSeq (TW.sAsgN 1 nDict0)
(TW.sSeq (TW.sFor (iSeqM (eVar 0)) (tgName 2)
(TW.sIf (TW.tVal (eInO 1 true (eVar 2)))
(sPutO 1 (eVar 2) (eFn lenD (aCons (eVar 1) aNil)))
TW.sSkip))
(TW.sRet (eFn tupleD (aCons (eNw (nCmp [2] (iSeqM (eVar 0)) (tgName 2) (pure true) (eGetO 1 (eVar 2)))) aNil)))))
def f_in_order : Sem := runF 3 m_in_order
def m_alike_classes : M Fl :=
(TW.sSeq (TW.sTg (tgTup [(tgName 2), (tgName 3)]) (eVar 0))
(TW.sSeq (TW.sAsg 1 (eCall 1 f_in_order (aCons (eVar 2) aNil)))
(whileL (TW.tVal (eC (.bool true)))
(TW.sSeq (TW.sAsg 4 (eNw (nCmp [6] (iRg1 (eFn lenD (aCons (eVar 2) aNil))) (tgName 6) (pure true) (eTup (aCons (eIx (eVar 1) (eVar 6)) (aStar (eNw (nCmp [7] (iSeqM (eVar 3)) (tgName 7) (pure true) (eIx (eVar 1) (eIx (eIx (eVar 7) (eC (.int 1))) (eVar 6))))) aNil))))))
(TW.sSeq (TW.sAsg 5 (eCall 1 f_in_order (aCons (eVar 4) aNil)))
(TW.sSeq (TW.sIf (TW.tVal (eCmp .eq (eVar 5) (eVar 1)))
(TW.sRet (eVar 1))
TW.sSkip)
(TW.sAsg 1 (eVar 5))))) wFuel)))
def f_alike_classes : Sem := runF 8 m_alike_classes
def m_harm_table : M Fl :=
(TW.sSeq (sParP [1, 2] (pDat (eCall 1 f_alike_classes (aCons (eVar 0) aNil)) (pOwn (nLst aNil) pNil)))
(TW.sSeq (TW.sFor (iSeqM (eIx (eVar 0) (eC (.int 1)))) (tgTup [(tgName 3), (tgName 4)])
(sApp 2 (eFn tupleD (aCons (eNw (nCmp [5, 6] (iEnM (eVar 4)) (tgTup [(tgName 5), (tgName 6)]) (pure true) (eCmp .ne (eIx (eVar 1) (eVar 6)) (eIx (eVar 1) (eVar 5))))) aNil))))
(TW.sRet (eFn tupleD (aCons (eVar 2) aNil)))))
def f_harm_table : Sem := runF 7 m_harm_table
def m_is_calm : M Fl :=
(TW.sSeq (TW.sAsg 3 (eIx (eCall 1 f_harm_table (aCons (eVar 0) aNil)) (eVar 1)))
(TW.sRet (TW.eNot (eFn anyD (aCons (eNw (nCmp [4] (iSeqM (eVar 2)) (tgName 4) (pure true) (eIx (eVar 3) (eVar 4)))) aNil)))))
def f_is_calm : Sem := runF 5 m_is_calm
def m_copy_harms : M Fl :=
(TW.sSeq (sExp (eCallX 2 K09.f_require_log (aCons (eVar 0) (aCons (eVar 1) aNil))))
(TW.sSeq (TW.sIf (TW.tNot (TW.tVal (eCall 3 K02.f_is_integer (aCons (eVar 2) (aCons (eC (.int 0)) (aCons (eBin .sub (eFn lenD (aCons (eVar 1) aNil)) (eC (.int 1))) aNil))))))
(sRaise "NoEvent" ["index"] (aCons (eVar 2) aNil))
TW.sSkip)
(TW.sRet (TW.eNot (eCall 3 f_is_calm (aCons (eVar 0) (aCons (eIx (eVar 1) (eVar 2)) (aCons (eNw (nLst (aCons (eCall 3 f_end_from (aCons (eVar 0) (aCons (eC (.int 0)) (aCons (eVar 1) aNil)))) aNil))) aNil))))))))
def f_copy_harms : Sem := runF 3 m_copy_harms
def m_law_told : M Fl :=
(sTry 3 (inL ["NoEvent", "NoKind"]) (TW.sRet (eCallX 3 f_copy_harms (aCons (eVar 0) (aCons (eVar 1) (aCons (eVar 2) aNil))))) (fun c fs =>
(TW.sSeq (TW.sIf (TW.tOr (TW.tVal (isM (tabL [("NoEvent", false), ("NoKind", false)]) c)) (TW.tAnd (TW.tVal (isM (tabL [("NoEvent", true), ("NoKind", false)]) c)) (TW.tVal (isM (tabL [("NoEvent", false), ("NoKind", true)]) c))))
(TW.sRet (eNw (nLst (aCons (eC (.str "other")) aNil))))
TW.sSkip)
(TW.sSeq (TW.sIf (TW.tVal (isM (tabL [("NoEvent", false), ("NoKind", true)]) c))
(TW.sRet (eNw (nLst (aCons (eC (.str "kind")) (aCons (fldM (inL ["NoEvent", "NoKind"]) "index" c fs) aNil)))))
TW.sSkip)
(TW.sRet (TW.eIf (TW.tVal (isM (tabL [("NoEvent", true), ("NoKind", false)]) c)) (eNw (nLst (aCons (eC (.str "event")) (aCons (fldM (inL ["NoEvent", "NoKind"]) "index" c fs) aNil)))) (eNw (nLst (aCons (eC (.str "other")) aNil)))))))))
def f_law_told : Sem := runF 4 m_law_told
def m_law_behind : M Fl :=
(TW.sSeq (TW.sFor (iSeqM (eVar 2)) (tgName 3)
(TW.sAsg 1 (eIx (eIx (eIx (eIx (eVar 0) (eC (.int 1))) (eVar 3)) (eC (.int 1))) (eVar 1))))
(TW.sRet (eVar 1)))
def f_law_behind : Sem := runF 4 m_law_behind
def m_law_harms : M Fl :=
(TW.sRet (eIxD (eVar 1) (eTup (aCons (eVar 3) (aCons (eIx (eIx (eIx (eIx (eVar 0) (eC (.int 1))) (eVar 2)) (eC (.int 1))) (eVar 3)) aNil)))))
def f_law_harms : Sem := runF 4 m_law_harms
def m_law_due : M Fl :=
(TW.sSeq (TW.sAsg 4 (eNw (nCmp [5] (iSeqM (eVar 2)) (tgName 5) (TW.tNot (TW.tVal (eCall 3 K02.f_law_whole (aCons (eVar 5) (aCons (eC (.int 0)) (aCons (eBin .sub (eFn lenD (aCons (eIx (eVar 0) (eC (.int 1))) aNil)) (eC (.int 1))) aNil)))))) (eVar 5))))
(TW.sSeq (TW.sIf (TW.tVal (eOp ne0D (eVar 4) (eNw (nLst aNil))))
(TW.sRet (eNw (nLst (aCons (eC (.str "kind")) (aCons (eIx (eVar 4) (eC (.int 0))) aNil)))))
TW.sSkip)
(TW.sSeq (TW.sIf (TW.tNot (TW.tVal (eCall 3 K02.f_law_whole (aCons (eVar 3) (aCons (eC (.int 0)) (aCons (eBin .sub (eFn lenD (aCons (eVar 2) aNil)) (eC (.int 1))) aNil))))))
(TW.sRet (eNw (nLst (aCons (eC (.str "event")) (aCons (eVar 3) aNil)))))
TW.sSkip)
(TW.sRet (eCall 4 f_law_harms (aCons (eVar 0) (aCons (eVar 1) (aCons (eIx (eVar 2) (eVar 3)) (aCons (eCall 3 f_law_behind (aCons (eVar 0) (aCons (eC (.int 0)) (aCons (eVar 2) aNil)))) aNil)))))))))
def f_law_due : Sem := runF 6 m_law_due
def m_law_stair : M Fl :=
(TW.sSeq (TW.sAsg 0 (eTup (aCons (eC (.int 0)) (aCons (eTupRg (mRg1 (eC (.int 8)))) aNil))))
(TW.sRet (eTup (aCons (eTupRg (mRg1 (eC (.int 8)))) (aCons (eTup (aCons (eVar 0) (aCons (eVar 0) (aCons (eVar 0) (aCons (eVar 0) (aCons (eVar 0) (aCons (eTup (aCons (eC (.int 1)) (aCons (eTup (aCons (eC (.int 6)) (aCons (eC (.int 1)) (aCons (eC (.int 2)) (aCons (eC (.int 3)) (aCons (eC (.int 4)) (aCons (eC (.int 5)) (aCons (eC (.int 7)) (aCons (eC (.int 7)) aNil))))))))) aNil))) aNil))))))) aNil)))))
@[irreducible] def f_law_stair : Sem := runF 1 m_law_stair
def m_law_far_right : M Fl :=
(TW.sSeq (TW.sTg (tgTup [(tgName 2), (tgName 3)]) (eTup (aCons (eBin .add (eBin .add (eOp repD (eTup (aCons (eC (.int 0)) aNil)) (eC (.int 120))) (eTup (aCons (eC (.int 5)) aNil))) (eOp repD (eTup (aCons (eC (.int 4)) aNil)) (eC (.int 79)))) (aCons (eBin .add (eOp repD (eTup (aCons (eC (.int 1)) aNil)) (eC (.int 199))) (eTup (aCons (eC (.int 5)) aNil))) aNil))))
(TW.sSeq (TW.sAsg 0 (eNw (nCmp [4] (iSeqM (eTup (aCons (eC (.int 0)) (aCons (eC (.int 119)) (aCons (eC (.int 120)) (aCons (eC (.int 121)) (aCons (eC (.int 199)) aNil))))))) (tgName 4) (pure true) (eCallX 3 f_copy_harms (aCons (eCall 0 f_law_stair aNil) (aCons (eVar 2) (aCons (eVar 4) aNil)))))))
(TW.sSeq (TW.sAsg 0 (eBin .add (eVar 0) (eNw (nCmp [4] (iSeqM (eTup (aCons (eC (.int 198)) (aCons (eC (.int 199)) aNil)))) (tgName 4) (pure true) (eCallX 3 f_copy_harms (aCons (eCall 0 f_law_stair aNil) (aCons (eVar 3) (aCons (eVar 4) aNil))))))))
(TW.sSeq (TW.sAsg 1 (eNw (nLst (aCons (eCall 3 f_law_told (aCons (eCall 0 f_law_stair aNil) (aCons (eVar 2) (aCons (eC (.int 200)) aNil)))) (aCons (eCall 3 f_law_told (aCons (eCall 0 f_law_stair aNil) (aCons (eBin .add (eSlc (eVar 2) pNone (pSome (eC (.int 199)))) (eTup (aCons (eC (.int 6)) aNil))) (aCons (eC (.int 200)) aNil)))) aNil)))))
(TW.sRet (eCmp .eq (eBin .add (eVar 0) (eVar 1)) (eNw (nLst (aCons (eC (.bool false)) (aCons (eC (.bool false)) (aCons (eC (.bool true)) (aCons (eC (.bool false)) (aCons (eC (.bool false)) (aCons (eC (.bool false)) (aCons (eC (.bool true)) (aCons (eNw (nLst (aCons (eC (.str "event")) (aCons (eC (.int 200)) aNil)))) (aCons (eNw (nLst (aCons (eC (.str "kind")) (aCons (eC (.int 6)) aNil)))) aNil)))))))))))))))))
@[irreducible] def f_law_far_right : Sem := runF 5 m_law_far_right
def m_law_1 : M Fl :=
(TW.sRet (eC (.bool true)))
def m_law_2 : M Fl :=
(TW.sIf (TW.tVal (eCmp .ne (eFn reprD (aCons (eCall 3 f_law_told (aCons (eVar 3) (aCons (eVar 8) (aCons (eVar 6) aNil)))) aNil)) (eFn reprD (aCons (eCall 4 f_law_due (aCons (eVar 3) (aCons (eVar 7) (aCons (eVar 8) (aCons (eVar 6) aNil))))) aNil))))
(TW.sRet (eC (.bool false)))
TW.sSkip)
def m_law_3 : M Fl :=
(TW.sFor (iSeqM (eVar 5)) (tgName 6)
m_law_2)
def m_law_4 : M Fl :=
(TW.sAsg 5 (eBin .add (eSlc (eNw (nLstRg (mRg1 (eFn lenD (aCons (eVar 8) aNil))))) pNone (pSome (eC (.int 12)))) (eNw (nLst (aCons (eBin .sub (eFn lenD (aCons (eVar 8) aNil)) (eC (.int 1))) (aCons (eFn lenD (aCons (eVar 8) aNil)) (aCons (eCall 2 pipF (aCons (eVar 1) (aCons (eBin .add (eFn lenD (aCons (eVar 8) aNil)) (eC (.int 1))) aNil))) (aCons (eCall 2 f_law_odd (aCons (eVar 1) (aCons (eNw (nLst (aCons (eC (.str "0")) aNil))) aNil))) aNil))))))))
def m_law_5 : M Fl :=
(TW.sSeq m_law_4 m_law_3)
def m_law_6 : M Fl :=
(TW.sAsg 8 (eSlc (eBin .add (eBin .add (eSlc (eVar 8) pNone (pSome (eVar 9))) (eTup (aCons (eCall 2 f_law_odd (aCons (eVar 1) (aCons (eNw (nLst (aCons (eFn lenD (aCons (eIx (eVar 3) (eC (.int 1))) aNil)) (aCons (eBin .sub (eFn lenD (aCons (eIx (eVar 3) (eC (.int 1))) aNil)) (eC (.int 1))) (aCons (eC (.int 6)) aNil))))) aNil))) aNil))) (eSlc (eVar 8) (pSome (eVar 9)) pNone)) (pSome (eUn neD (eC (.int 200)))) pNone))
def m_law_7 : M Fl :=
(TW.sAsg 9 (eCall 2 pipF (aCons (eVar 1) (aCons (eBin .add (eFn lenD (aCons (eVar 8) aNil)) (eC (.int 1))) aNil))))
def m_law_8 : M Fl :=
(TW.sSeq m_law_7 m_law_6)
def m_law_9 : M Fl :=
(TW.sFor (iRg1 (eCall 2 f_law_pick (aCons (eVar 1) (aCons (eNw (nLst (aCons (eC (.int 0)) (aCons (eC (.int 0)) (aCons (eC (.int 0)) (aCons (eC (.int 1)) (aCons (eC (.int 2)) aNil))))))) aNil)))) (tgName 4)
m_law_8)
def m_law_10 : M Fl :=
(TW.sSeq m_law_9 m_law_5)
def m_law_11 : M Fl :=
(TW.sPar [tgName 7, tgName 8] (aCons (eCall 1 f_law_apart (aCons (eVar 3) aNil)) (aCons (eCall 2 f_law_anylog (aCons (eVar 1) (aCons (eVar 3) aNil))) aNil)))
def m_law_12 : M Fl :=
(TW.sSeq m_law_11 m_law_10)
def m_law_13 : M Fl :=
(TW.sAsg 3 (eCall 3 f_law_handler (aCons (eVar 1) (aCons (eC (.int 8)) (aCons (eC (.int 6)) aNil)))))
def m_law_14 : M Fl :=
(TW.sSeq m_law_13 m_law_12)
def m_law_15 : M Fl :=
(TW.sFor (iRg1 (eC (.int 12))) (tgName 2)
m_law_14)
def m_law_16 : M Fl :=
(TW.sSeq m_law_15 m_law_1)
def m_law_17 : M Fl :=
(TW.sIf (TW.tNot (TW.tVal (eCall 0 f_law_far_right aNil)))
(TW.sRet (eC (.bool false)))
TW.sSkip)
def m_law : M Fl :=
(TW.sSeq m_law_17 m_law_16)
end K17
set_option linter.all false
set_option Elab.async false
set_option maxRecDepth 100000
set_option maxHeartbeats 0
namespace K04
open PySem PySem.Spec PyProof.Rows L2 TW
def m_first_logs : M Fl :=
(TW.sSeq (sParP [1, 2] (pOwn (nDictK (eC (.int 0)) (eTup aNil)) (pDat (eNw (nLst (aCons (eC (.int 0)) aNil))) pNil)))
(TW.sSeq (whileL (TW.tVal (eOp ne0D (eVar 2) (eNw (nLst aNil))))
(TW.sSeq (TW.sAsgN 3 (nLst aNil))
(TW.sSeq (TW.sFor (iSeqM (eVar 2)) (tgName 4)
(TW.sFor (iEnM (eIx (eVar 0) (eC (.int 1)))) (tgTup [(tgName 5), (tgName 6)])
(TW.sIf (TW.tVal (eInO 1 true (eIx (eIx (eVar 6) (eC (.int 1))) (eVar 4))))
(TW.sSeq (sPutO 1 (eIx (eIx (eVar 6) (eC (.int 1))) (eVar 4)) (eTup (aStar (eGetO 1 (eVar 4)) (aCons (eVar 5) aNil))))
(sApp 3 (eIx (eIx (eVar 6) (eC (.int 1))) (eVar 4))))
TW.sSkip)))
(TW.sAsg 2 (eVar 3)))) wFuel)
(TW.sRet (eVar 1))))
def f_first_logs : Sem := runF 7 m_first_logs
def m_reached_states : M Fl :=
(TW.sRet (eFn tupleD (aCons (eFn sortedA (aCons (eCall 1 f_first_logs (aCons (eVar 0) aNil)) aNil)) aNil)))
def f_reached_states : Sem := runF 1 m_reached_states
def m_law_lead : M Fl :=
(TW.sSeq (TW.sFor (iSeqM (eVar 2)) (tgName 3)
(TW.sAsg 1 (eIx (eIx (eIx (eIx (eVar 0) (eC (.int 1))) (eVar 3)) (eC (.int 1))) (eVar 1))))
(TW.sRet (eVar 1)))
def f_law_lead : Sem := runF 4 m_law_lead
def m_law_first : M Fl :=
(TW.sSeq (sParP [1, 2] (pOwn (nOp repL (eNw (nLst (aCons (eC .none) aNil))) (eFn lenD (aCons (eIx (eVar 0) (eC (.int 0))) aNil))) (pDat (eNw (nLst (aCons (eTup aNil) aNil))) pNil)))
(TW.sSeq (TW.sTg (tgSet 1 (eC (.int 0))) (eTup aNil))
(TW.sSeq (whileL (TW.tVal (eOp ne0D (eVar 2) (eNw (nLst aNil))))
(TW.sSeq (TW.sAsgN 3 (nLst aNil))
(TW.sSeq (TW.sFor (iSeqM (eVar 2)) (tgName 4)
(TW.sSeq (TW.sAsg 5 (eCall 3 f_law_lead (aCons (eVar 0) (aCons (eC (.int 0)) (aCons (eVar 4) aNil)))))
(TW.sFor (iRg1 (eFn lenD (aCons (eIx (eVar 0) (eC (.int 1))) aNil))) (tgName 6)
(TW.sSeq (TW.sAsg 7 (eIx (eIx (eIx (eIx (eVar 0) (eC (.int 1))) (eVar 6)) (eC (.int 1))) (eVar 5)))
(TW.sIf (TW.tVal (eCmp .isN (eIx (eVar 1) (eVar 7)) (eC .none)))
(TW.sSeq (TW.sTg (tgSet 1 (eVar 7)) (eBin .add (eVar 4) (eTup (aCons (eVar 6) aNil))))
(sApp 3 (eBin .add (eVar 4) (eTup (aCons (eVar 6) aNil)))))
TW.sSkip)))))
(TW.sAsg 2 (eVar 3)))) wFuel)
(TW.sRet (eVar 1)))))
def f_law_first : Sem := runF 8 m_law_first
def m_require_state : M Fl :=
(TW.sIf (TW.tNot (TW.tVal (eCall 3 K02.f_is_integer (aCons (eVar 1) (aCons (eC (.int 0)) (aCons (eBin .sub (eFn lenD (aCons (eIx (eVar 0) (eC (.int 0))) aNil)) (eC (.int 1))) aNil))))))
(sRaise "NoState" ["state"] (aCons (eVar 1) aNil))
TW.sSkip)
def f_require_state : Sem := runF 2 m_require_state
def m_first_log : M Fl :=
(TW.sSeq (sExp (eCallX 2 f_require_state (aCons (eVar 0) (aCons (eVar 1) aNil))))
(TW.sRet (eGet1 (eCall 1 f_first_logs (aCons (eVar 0) aNil)) (eVar 1))))
def f_first_log : Sem := runF 2 m_first_log
def m_law_told : M Fl :=
(TW.sSeq (TW.sAsg 2 (eC .none))
(TW.sSeq (sTry 3 (inL ["NoState"]) (TW.sAsg 2 (eCallX 2 f_first_log (aCons (eVar 0) (aCons (eVar 1) aNil)))) (fun c fs =>
(TW.sSeq (TW.sAsg 4 (TW.eAnd (isM (tabL [("NoState", true)]) c) (TW.eNot (isM (tabL [("NoState", false)]) c))))
(TW.sRet (TW.eIf (TW.tAnd (TW.tVal (eVar 4)) (TW.tVal (isM (tabL [("NoState", true)]) c))) (eNw (nLst (aCons (eC (.str "state")) (aCons (fldM (inL ["NoState"]) "state" c fs) aNil)))) (eNw (nLst (aCons (eC (.str "other")) aNil))))))))
(TW.sRet (eVar 2))))
def f_law_told : Sem := runF 5 m_law_told
def m_law_chain : M Fl :=
(TW.sSeq (TW.sAsg 2 (eNw (nLst (aCons (eTup (aCons (eC (.int 0)) (aCons (eFn tupleD (aCons (eNw (nCmp [4] (iRg1 (eVar 1)) (tgName 4) (pure true) (eFn min2D (aCons (eBin .add (eVar 4) (eC (.int 1))) (aCons (eBin .sub (eVar 1) (eC (.int 1))) aNil))))) aNil)) aNil))) (aCons (eTup (aCons (eC (.int 1)) (aCons (eOp repD (eTup (aCons (eC (.int 0)) aNil)) (eVar 1)) aNil))) aNil)))))
(TW.sSeq (TW.sAsg 3 (eNw (nCmp [4] (iRg1 (eCall 2 drawF (aCons (eVar 0) (aCons (eC (.int 2)) aNil)))) (tgName 4) (pure true) (eCall 2 K02.f_law_kind (aCons (eVar 0) (aCons (eVar 1) aNil))))))
(TW.sRet (eTup (aCons (eOp repD (eTup (aCons (eC (.int 0)) aNil)) (eVar 1)) (aCons (eFn tupleD (aCons (eBin .add (eVar 2) (eVar 3)) aNil)) aNil))))))
def f_law_chain : Sem := runF 5 m_law_chain
def m_law_1 : M Fl :=
(TW.sRet (eC (.bool true)))
def m_law_2 : M Fl :=
(TW.sIf (TW.tVal (eCmp .ne (eFn reprD (aCons (eVar 3) aNil)) (eVar 6)))
(TW.sRet (eC (.bool false)))
TW.sSkip)
def m_law_3 : M Fl :=
(TW.sIf (TW.tVal (eCmp .ne (eNw (nCmp [10] (iRg1 (eC (.int 2))) (tgName 10) (pure true) (eFn reprD (aCons (eCall 2 f_law_told (aCons (eVar 3) (aCons (eVar 5) aNil))) aNil)))) (eBin .mul (eNw (nLst (aCons (eFn reprD (aCons (eVar 8) aNil)) aNil))) (eC (.int 2)))))
(TW.sRet (eC (.bool false)))
TW.sSkip)
def m_law_4 : M Fl :=
(TW.sAsg 8 (TW.eIf (TW.tVal (eCall 3 K02.f_law_whole (aCons (eVar 5) (aCons (eC (.int 0)) (aCons (eBin .sub (eFn lenD (aCons (eVar 7) aNil)) (eC (.int 1))) aNil))))) (eIx (eVar 7) (eVar 5)) (eNw (nLst (aCons (eC (.str "state")) (aCons (eVar 5) aNil))))))
def m_law_5 : M Fl :=
(TW.sSeq m_law_4 m_law_3)
def m_law_6 : M Fl :=
(TW.sFor (iSeqM (eBin .add (eNw (nLstRg (mRg1 (eFn lenD (aCons (eVar 7) aNil))))) (eNw (nLst (aCons (eFn lenD (aCons (eVar 7) aNil)) (aCons (eUn neD (eC (.int 1))) (aCons (eC (.bool true)) (aCons (eC .none) (aCons (eC (.str "0")) (aCons (eCall 1 K02.f_law_odd (aCons (eVar 1) aNil)) aNil)))))))))) (tgName 5)
m_law_5)
def m_law_7 : M Fl :=
(TW.sSeq m_law_6 m_law_2)
def m_law_8 : M Fl :=
(TW.sIf (TW.tVal (eCmp .ne (eFn reprD (aCons (eNw (nLst (aCons (eCall 1 f_reached_states (aCons (eVar 3) aNil)) (aCons (eCall 1 f_reached_states (aCons (eVar 3) aNil)) aNil)))) aNil)) (eFn reprD (aCons (eNw (nLst (aCons (eVar 4) (aCons (eVar 4) aNil)))) aNil))))
(TW.sRet (eC (.bool false)))
TW.sSkip)
def m_law_9 : M Fl :=
(TW.sSeq m_law_8 m_law_7)
def m_law_10 : M Fl :=
(TW.sAsg 4 (eFn tupleD (aCons (eNw (nCmp [9] (iRg1 (eFn lenD (aCons (eVar 7) aNil))) (tgName 9) (TW.tVal (eCmp .notN (eIx (eVar 7) (eVar 9)) (eC .none))) (eVar 9))) aNil)))
def m_law_11 : M Fl :=
(TW.sSeq m_law_10 m_law_9)
def m_law_12 : M Fl :=
(TW.sTg (tgTup [(tgName 6), (tgName 7)]) (eTup (aCons (eFn reprD (aCons (eVar 3) aNil)) (aCons (eCall 1 f_law_first (aCons (eVar 3) aNil)) aNil))))
def m_law_13 : M Fl :=
(TW.sSeq m_law_12 m_law_11)
def m_law_14 : M Fl :=
(TW.sAsg 3 (TW.eIf (TW.tVal (eCmp .lt (eBin .mod (eVar 2) (eC (.int 4))) (eC (.int 3)))) (eCall 3 K02.f_law_handler (aCons (eVar 1) (aCons (eC (.int 8)) (aCons (eC (.int 6)) aNil)))) (eCall 2 f_law_chain (aCons (eVar 1) (aCons (eBin .add (eC (.int 2)) (eCall 2 drawF (aCons (eVar 1) (aCons (eC (.int 7)) aNil)))) aNil)))))
def m_law_15 : M Fl :=
(TW.sSeq m_law_14 m_law_13)
def m_law_16 : M Fl :=
(TW.sFor (iRg1 (eC (.int 16))) (tgName 2)
m_law_15)
def m_law : M Fl :=
(TW.sSeq m_law_16 m_law_1)
end K04
set_option linter.all false
set_option Elab.async false
namespace K02
open PySem TW
theorem r_is_integer (v : PyData) (lo hi : Int) (b : Option Bx) : Runs f_is_integer [.dat v, .dat (.int lo), .dat (.int hi)] b fun d b' => d = .bool (isIn lo hi v) ∧ b' = b := by
  refine runs_of ?_
  unfold m_is_integer
  simp only [List.map_cons, List.map_nil, argSV, List.length_cons, List.length_nil, Nat.reduceAdd, Nat.reduceSub, List.replicate, List.cons_append, List.nil_append]
  cases v <;> simp only [eCmp, eBin, eOp, eUn, eFn, eIx, eSlc, eChn, tVal, tNot, tAnd, tOr, eIf, eAnd, eOr, eNot, eIs, aNil, aCons, aStar, itemsO, eTup, nLst, eNw, pNone, pSome, sSkip, sSeq, sAsg, sAsgN, sRet, sRetN, sIf, tgName, tgAll, tgTup, sTg, sPar, sFor, iSeqM, iRg1, iRg2, iEnM, ownL, sApp, tgSet, ePop, ePopA, eCall, peeks, takes, hands, boolD, pw_bind, qQ, wipeR, reduceIte, nOp, nList, isD, lenD, wW, isIn]
  rename_i i
  by_cases h : lo ≤ i
  · simp only [eCmp, eBin, eOp, eUn, eFn, eIx, eSlc, eChn, tVal, tNot, tAnd, tOr, eIf, eAnd, eOr, eNot, eIs, aNil, aCons, aStar, itemsO, eTup, nLst, eNw, pNone, pSome, sSkip, sSeq, sAsg, sAsgN, sRet, sRetN, sIf, tgName, tgAll, tgTup, sTg, sPar, sFor, iSeqM, iRg1, iRg2, iEnM, ownL, sApp, tgSet, ePop, ePopA, eCall, peeks, takes, hands, boolD, pw_bind, qQ, wipeR, reduceIte, decide_eq_true h, Bool.true_and, and_self]
  · simp only [eCmp, eBin, eOp, eUn, eFn, eIx, eSlc, eChn, tVal, tNot, tAnd, tOr, eIf, eAnd, eOr, eNot, eIs, aNil, aCons, aStar, itemsO, eTup, nLst, eNw, pNone, pSome, sSkip, sSeq, sAsg, sAsgN, sRet, sRetN, sIf, tgName, tgAll, tgTup, sTg, sPar, sFor, iSeqM, iRg1, iRg2, iEnM, ownL, sApp, tgSet, ePop, ePopA, eCall, peeks, takes, hands, boolD, pw_bind, qQ, wipeR, reduceIte, decide_eq_false h, Bool.false_and, and_self]
theorem r_law_whole (v : PyData) (lo hi : Int) (b : Option Bx) : Runs f_law_whole [.dat v, .dat (.int lo), .dat (.int hi)] b fun d b' => d = .bool (isIn lo hi v) ∧ b' = b := r_is_integer v lo hi b
def areIn (lo hi : Int) (n : Int) : PyData → Bool
  | .tuple ds => decide ((ds.length : Int) = n) && ds.all (isIn lo hi)
  | _ => false
theorem r_are_integers (v : PyData) (n lo hi : Int) (b : Option Bx) (hl : ∀ ds, v = .tuple ds → ds.length ≤ lim) : Runs f_are_integers [.dat v, .dat (.int n), .dat (.int lo), .dat (.int hi)] b fun d b' => d = .bool (areIn lo hi n v) ∧ b' = b := by
  refine runs_of ?_
  unfold m_are_integers
  simp only [List.map_cons, List.map_nil, argSV, List.length_cons, List.length_nil, Nat.reduceAdd, Nat.reduceSub, List.replicate, List.cons_append, List.nil_append]
  cases v <;> simp only [eCmp, eBin, eOp, eUn, eFn, eIx, eSlc, eChn, tVal, tNot, tAnd, tOr, eIf, eAnd, eOr, eNot, eIs, aNil, aCons, aStar, itemsO, eTup, nLst, eNw, pNone, pSome, sSkip, sSeq, sAsg, sAsgN, sRet, sRetN, sIf, tgName, tgAll, tgTup, sTg, sPar, sFor, iSeqM, iRg1, iRg2, iEnM, ownL, sApp, tgSet, ePop, ePopA, eCall, peeks, takes, hands, boolD, pw_bind, qQ, wipeR, reduceIte, nOp, nList, isD, lenD, wW, areIn]
  rename_i ds
  have hl := hl ds rfl
  by_cases h : (ds.length : Int) = n
  · simp only [eCmp, eBin, eOp, eUn, eFn, eIx, eSlc, eChn, tVal, tNot, tAnd, tOr, eIf, eAnd, eOr, eNot, eIs, aNil, aCons, aStar, itemsO, eTup, nLst, eNw, pNone, pSome, sSkip, sSeq, sAsg, sAsgN, sRet, sRetN, sIf, tgName, tgAll, tgTup, sTg, sPar, sFor, iSeqM, iRg1, iRg2, iEnM, ownL, sApp, tgSet, ePop, ePopA, eCall, peeks, takes, hands, boolD, pw_bind, qQ, wipeR, reduceIte, nOp, nList, isD, lenD, wW, decide_eq_true h]
    refine q_map [.dat (.tuple ds), .dat (.int n), .dat (.int lo), .dat (.int hi), .no] b (fun d => .bool (isIn lo hi d)) ⟨rfl, hl, fun d hd => ?_, fun r1 hr => ?_⟩
    · simp only [eCmp, eBin, eOp, eUn, eFn, eIx, eSlc, eChn, tVal, tNot, tAnd, tOr, eIf, eAnd, eOr, eNot, eIs, aNil, aCons, aStar, itemsO, eTup, nLst, eNw, pNone, pSome, sSkip, sSeq, sAsg, sAsgN, sRet, sRetN, sIf, tgName, tgAll, tgTup, sTg, sPar, sFor, iSeqM, iRg1, iRg2, iEnM, ownL, sApp, tgSet, ePop, ePopA, eCall, peeks, takes, hands, boolD, pw_bind, qQ, wipeR, reduceIte]
      refine q_callR (r_is_integer d lo hi b) rfl ?_
      rintro _ _ ⟨rfl, rfl⟩
      simp only [eCmp, eBin, eOp, eUn, eFn, eIx, eSlc, eChn, tVal, tNot, tAnd, tOr, eIf, eAnd, eOr, eNot, eIs, aNil, aCons, aStar, itemsO, eTup, nLst, eNw, pNone, pSome, sSkip, sSeq, sAsg, sAsgN, sRet, sRetN, sIf, tgName, tgAll, tgTup, sTg, sPar, sFor, iSeqM, iRg1, iRg2, iEnM, ownL, sApp, tgSet, ePop, ePopA, eCall, peeks, takes, hands, boolD, pw_bind, qQ, wipeR, reduceIte, nOp, nList, isD, lenD, wW]
    · rw [show ds.map (fun d => PyData.bool (isIn lo hi d)) = (ds.map (isIn lo hi)).map PyData.bool by rw [List.map_map]; rfl]
      simp only [eCmp, eBin, eOp, eUn, eFn, eIx, eSlc, eChn, tVal, tNot, tAnd, tOr, eIf, eAnd, eOr, eNot, eIs, aNil, aCons, aStar, itemsO, eTup, nLst, eNw, pNone, pSome, sSkip, sSeq, sAsg, sAsgN, sRet, sRetN, sIf, tgName, tgAll, tgTup, sTg, sPar, sFor, iSeqM, iRg1, iRg2, iEnM, ownL, sApp, tgSet, ePop, ePopA, eCall, peeks, takes, hands, boolD, pw_bind, qQ, wipeR, reduceIte, nOp, nList, isD, lenD, wW, allD_bools, List.all_map]
      rfl
  · simp only [eCmp, eBin, eOp, eUn, eFn, eIx, eSlc, eChn, tVal, tNot, tAnd, tOr, eIf, eAnd, eOr, eNot, eIs, aNil, aCons, aStar, itemsO, eTup, nLst, eNw, pNone, pSome, sSkip, sSeq, sAsg, sAsgN, sRet, sRetN, sIf, tgName, tgAll, tgTup, sTg, sPar, sFor, iSeqM, iRg1, iRg2, iEnM, ownL, sApp, tgSet, ePop, ePopA, eCall, peeks, takes, hands, boolD, pw_bind, qQ, wipeR, reduceIte, nOp, nList, isD, lenD, wW, decide_eq_false h]
def small2 : PyData → Prop
  | .tuple ds => ds.length ≤ lim
  | _ => True
end K02
set_option linter.all false
set_option Elab.async false
namespace K02
open PySem TW
def low (v : PyData) : Prop := ∀ l ks k s t, v = .tuple [l, .tuple ks] → k ∈ ks → k = .tuple [s, t] → small2 t
end K02
set_option linter.all false
set_option Elab.async false
namespace K02
open PySem TW
def wrong (n : Int) (d : PyData) : Option PyData := if isIn 0 (n - 1) d then none else some d
theorem wrong_nil {n : Int} {ds : List PyData} : (ds.filterMap (wrong n)).isEmpty = ds.all (isIn 0 (n - 1)) := by
  induction ds with
  | nil => rfl
  | cons d ds ih =>
    rw [List.filterMap_cons, List.all_cons]
    unfold wrong at ih ⊢
    cases isIn 0 (n - 1) d with
    | true => simpa using ih
    | false => rfl
theorem wrong_cmp {s : Sx} {Q : PyData → Sx → Prop} {E : Er → Prop} {n : Int} {i : Nat} {mi : M (List PyData)} {me : M Opd} (r0 : List SV) (b0 : Option Bx) (ds : List PyData) (hi : i < r0.length) (hno : r0.getD i .no = .no)
    (hmi : pw mi s (fun xs s1 => s1 = ⟨r0, b0⟩ ∧ xs = ds) E) (hl : ds.length ≤ lim)
    (hme : ∀ d, pw me ⟨r0.set i (.dat d), b0⟩ (fun o s' => o = .val (.int (n - 1)) ∧ s' = ⟨r0.set i (.dat d), b0⟩) fun _ => False)
    (hq : Q (.list (ds.filterMap (wrong n))) ⟨r0, b0⟩) : pw (nCmp [i] mi (tgName i) (TW.tNot (TW.tVal (eCall 3 f_law_whole (aCons (eVar i) (aCons (eC (.int 0)) (aCons me aNil)))))) (eVar i)) s Q E := by
  have hg : ∀ x : SV, (r0.set i x).getD i .no = x := fun x => by
    rw [List.getD_eq_getElem?_getD, List.getElem?_set_self hi]
    rfl
  have hself : wipeR r0 [i] = r0 := set_no hno
  refine q_cmp_map r0 b0 (wrong n) (pw_mono hmi (fun xs s1 ⟨e1, e2⟩ => ?_) fun _ h => h)
  subst e2
  refine ⟨e1, hl, fun d hd => ?_, fun r1 hr => ?_⟩
  · have hme := hme d
    rw [hself]
    simp only [eCmp, eBin, eOp, eUn, eFn, eIx, eSlc, eChn, tVal, tNot, tAnd, tOr, eIf, eAnd, eOr, eNot, eIs, aNil, aCons, aStar, itemsO, eTup, nLst, eNw, pNone, pSome, sSkip, sSeq, sAsg, sAsgN, sRet, sRetN, sIf, tgName, tgAll, tgTup, sTg, sPar, sFor, iSeqM, iRg1, iRg2, iEnM, ownL, sApp, tgSet, ePop, ePopA, eCall, peeks, takes, hands, boolD, pw_bind, qQ, wipeR, reduceIte, nOp, nList, isD, lenD, wW, hg]
    refine pw_mono hme (fun o s' ⟨e1, e2⟩ => ?_) fun _ h => h
    subst e1 e2
    simp only [eCmp, eBin, eOp, eUn, eFn, eIx, eSlc, eChn, tVal, tNot, tAnd, tOr, eIf, eAnd, eOr, eNot, eIs, aNil, aCons, aStar, itemsO, eTup, nLst, eNw, pNone, pSome, sSkip, sSeq, sAsg, sAsgN, sRet, sRetN, sIf, tgName, tgAll, tgTup, sTg, sPar, sFor, iSeqM, iRg1, iRg2, iEnM, ownL, sApp, tgSet, ePop, ePopA, eCall, peeks, takes, hands, boolD, pw_bind, qQ, wipeR, reduceIte, nOp, nList, isD, lenD, wW, hg]
    refine q_callR (r_law_whole d 0 (n - 1) _) rfl ?_
    rintro _ _ ⟨rfl, rfl⟩
    cases h : isIn 0 (n - 1) d with
    | true => simp only [eCmp, eBin, eOp, eUn, eFn, eIx, eSlc, eChn, tVal, tNot, tAnd, tOr, eIf, eAnd, eOr, eNot, eIs, aNil, aCons, aStar, itemsO, eTup, nLst, eNw, pNone, pSome, sSkip, sSeq, sAsg, sAsgN, sRet, sRetN, sIf, tgName, tgAll, tgTup, sTg, sPar, sFor, iSeqM, iRg1, iRg2, iEnM, ownL, sApp, tgSet, ePop, ePopA, eCall, peeks, takes, hands, boolD, pw_bind, qQ, wipeR, reduceIte, nOp, nList, isD, lenD, wW, wrong, h, List.set_set, set_no hno]
    | false => simp only [eCmp, eBin, eOp, eUn, eFn, eIx, eSlc, eChn, tVal, tNot, tAnd, tOr, eIf, eAnd, eOr, eNot, eIs, aNil, aCons, aStar, itemsO, eTup, nLst, eNw, pNone, pSome, sSkip, sSeq, sAsg, sAsgN, sRet, sRetN, sIf, tgName, tgAll, tgTup, sTg, sPar, sFor, iSeqM, iRg1, iRg2, iEnM, ownL, sApp, tgSet, ePop, ePopA, eCall, peeks, takes, hands, boolD, pw_bind, qQ, wipeR, reduceIte, nOp, nList, isD, lenD, wW, wrong, h, hg, List.set_set, set_no hno]
  · rw [back_no hno hr]
    exact hq
end K02
set_option linter.all false
set_option Elab.async false
set_option maxHeartbeats 0
set_option maxRecDepth 10000
namespace K02
open PySem TW
end K02
set_option linter.all false
set_option Elab.async false
set_option maxHeartbeats 0
namespace K02
open PySem TW
theorem r_law_one (ds : List PyData) (b : Option Bx) (hb : Bg b) (h1 : 1 ≤ ds.length) (h2 : ds.length < 1073741824) : Runs f_law_one [.box, .dat (.list ds)] b fun d b' => d ∈ ds ∧ Bg b' := by
  refine runs_of ?_
  unfold m_law_one
  simp only [List.map_cons, List.map_nil, argSV, List.length_cons, List.length_nil, Nat.reduceAdd, Nat.reduceSub, List.replicate, List.cons_append, List.nil_append]
  simp only [eCmp, eBin, eOp, eUn, eFn, eIx, eSlc, eChn, tVal, tNot, tAnd, tOr, eIf, eAnd, eOr, eNot, eIs, aNil, aCons, aStar, itemsO, eTup, nLst, eNw, pNone, pSome, sSkip, sSeq, sAsg, sAsgN, sRet, sRetN, sIf, tgName, tgAll, tgTup, sTg, sPar, sFor, iSeqM, iRg1, iRg2, iEnM, ownL, sApp, tgSet, ePop, ePopA, eCall, peeks, takes, hands, boolD, pw_bind, qQ, wipeR, reduceIte, nOp, nList, isD, lenD, wW]
  refine q_callR (runs_draw (by omega) (by omega) hb) rfl ?_
  rintro _ b' ⟨i, rfl, h3, h4, hb'⟩
  have hi : i.toNat < ds.length := by omega
  have e : i = ((i.toNat : Nat) : Int) := by omega
  rw [e]
  simp only [eCmp, eBin, eOp, eUn, eFn, eIx, eSlc, eChn, tVal, tNot, tAnd, tOr, eIf, eAnd, eOr, eNot, eIs, aNil, aCons, aStar, itemsO, eTup, nLst, eNw, pNone, pSome, sSkip, sSeq, sAsg, sAsgN, sRet, sRetN, sIf, tgName, tgAll, tgTup, sTg, sPar, sFor, iSeqM, iRg1, iRg2, iEnM, ownL, sApp, tgSet, ePop, ePopA, eCall, peeks, takes, hands, boolD, pw_bind, qQ, wipeR, reduceIte, nOp, nList, isD, lenD, wW, ixLN (List.getElem?_eq_getElem hi)]
  exact ⟨List.getElem_mem hi, hb'⟩
theorem l3 : 0 + 1 + 1 + 1 ≤ lim := by decide
theorem l2 : 0 + 1 + 1 ≤ lim := by decide
end K02
set_option linter.all false
set_option Elab.async false
set_option maxHeartbeats 0
namespace K02
open PySem TW
theorem l4 : 0 + 1 + 1 + 1 + 1 ≤ lim := by decide
end K02
set_option linter.all false
set_option Elab.async false
set_option maxHeartbeats 0
namespace K02
open PySem TW
def oddL : List PyData := [.none, .bool true, .bool false, .int (-1), .int 0, .int 1, .int 2, .int 3, .int 6, .int 8, .int 9, .int 200, .int (10 ^ 18), .int (10 ^ 39), .str "", .str "-", .str "0", .tuple [], .tuple [.int 0], .tuple [.int 0, .int 1],
  .tuple [.int 1, .int 0, .int 0], .tuple [.int 0, .tuple [.int 0, .int 1]], .list [], .list [.int 0], .dict [], .dict [(.str "log", .int 0)], .tuple [.tuple []], .str "0:0,1", .tuple [.int 0, .int 0], .tuple [.none, .int 0]]
def tmB (n m : Nat) (d : PyData) : Bool := tame d && decide (sz d ≤ n) && decide (d.depth ≤ m)
theorem tm_of {n m : Nat} {d : PyData} (h : tmB n m d = true) : Tm n m d := by
  unfold tmB at h
  rw [Bool.and_eq_true, Bool.and_eq_true] at h
  exact ⟨h.1.1, of_decide_eq_true h.1.2, of_decide_eq_true h.2⟩
theorem odd_ok : oddL.all (tmB 50 3) = true := by decide +kernel
theorem pow18 : binD .pow (.int 10) (.int 18) = some (.int (10 ^ 18)) := by
  simp only [binD]
  exact if_pos ⟨by decide, by decide, by decide⟩
theorem q_dict0 {s : Sx} {Q : PyData → Sx → Prop} {E : Er → Prop} : pw nDict0 s Q E ↔ Q (.dict []) s := Iff.rfl
theorem q_ev {α : Type} {m : M α} {s s' : Sx} {a : α} {Q : α → Sx → Prop} {E : Er → Prop} (h : m s = .ok (a, s')) : pw m s Q E ↔ Q a s' := by
  unfold pw
  rw [h]
theorem odd_a (b : Option Bx) : (eNw (nLst (aCons (eC .none) (aCons (eC (.bool true)) (aCons (eC (.bool false)) (aCons (eUn neD (eC (.int 1))) (aCons (eC (.int 0)) (aCons (eC (.int 1)) (aCons (eC (.int 2)) (aCons (eC (.int 3)) (aCons (eC (.int 6)) (aCons (eC (.int 8)) (aCons (eC (.int 9)) (aCons (eC (.int 200)) (aCons (eBin .pow (eC (.int 10)) (eC (.int 18))) (aCons (eBin .pow (eC (.int 10)) (eC (.int 39))) (aCons (eC (.str "")) (aCons (eC (.str "-")) (aCons (eC (.str "0")) (aCons (eTup aNil) (aCons (eTup (aCons (eC (.int 0)) aNil)) (aCons (eTup (aCons (eC (.int 0)) (aCons (eC (.int 1)) aNil))) aNil)))))))))))))))))))))) ⟨[.box, .no], b⟩ = .ok (.val (.list (oddL.take 20)), ⟨[.box, .no], b⟩) := by rfl
theorem odd_b (b : Option Bx) : (eBin .add (eVar 1) (eNw (nLst (aCons (eTup (aCons (eC (.int 1)) (aCons (eC (.int 0)) (aCons (eC (.int 0)) aNil)))) (aCons (eTup (aCons (eC (.int 0)) (aCons (eTup (aCons (eC (.int 0)) (aCons (eC (.int 1)) aNil))) aNil))) (aCons (eNw (nLst aNil)) (aCons (eNw (nLst (aCons (eC (.int 0)) aNil))) (aCons (eNw nDict0) (aCons (eNw (nDict1 "log" (eC (.int 0)))) (aCons (eTup (aCons (eTup aNil) aNil)) (aCons (eC (.str "0:0,1")) (aCons (eTup (aCons (eC (.int 0)) (aCons (eC (.int 0)) aNil))) (aCons (eTup (aCons (eC .none) (aCons (eC (.int 0)) aNil))) aNil))))))))))))) ⟨[.box, .dat (.list (oddL.take 20))], b⟩ = .ok (.val (.list oddL), ⟨[.box, .dat (.list (oddL.take 20))], b⟩) := by rfl
theorem r_law_odd (b : Option Bx) (hb : Bg b) : Runs f_law_odd [.box] b fun d b' => Tm 50 3 d ∧ Bg b' := by
  refine runs_of ?_
  unfold m_law_odd TW.sSeq TW.sAsg
  simp only [List.map_cons, List.map_nil, argSV, List.length_cons, List.length_nil, Nat.reduceAdd, Nat.reduceSub, List.replicate, List.cons_append, List.nil_append]
  simp only [pw_bind]
  rw [q_ev (odd_a b)]
  simp only [q_takeV, q_setS, q_pure, List.set_cons_succ, List.set_cons_zero]
  rw [pw_bind, pw_bind, q_ev (odd_b b)]
  simp only [eCmp, eBin, eOp, eUn, eFn, eIx, eSlc, eChn, tVal, tNot, tAnd, tOr, eIf, eAnd, eOr, eNot, eIs, aNil, aCons, aStar, itemsO, eTup, nLst, eNw, pNone, pSome, sSkip, sSeq, sAsg, sAsgN, sRet, sRetN, sIf, tgName, tgAll, tgTup, sTg, sPar, sFor, iSeqM, iRg1, iRg2, iEnM, ownL, sApp, tgSet, ePop, ePopA, eCall, peeks, takes, hands, boolD, pw_bind, qQ, wipeR, reduceIte, nOp, nList, isD, lenD, wW]
  refine q_callR (r_law_one _ _ hb (by decide) (by decide)) rfl ?_
  rintro v b4 ⟨hv, hb4⟩
  simp only [eCmp, eBin, eOp, eUn, eFn, eIx, eSlc, eChn, tVal, tNot, tAnd, tOr, eIf, eAnd, eOr, eNot, eIs, aNil, aCons, aStar, itemsO, eTup, nLst, eNw, pNone, pSome, sSkip, sSeq, sAsg, sAsgN, sRet, sRetN, sIf, tgName, tgAll, tgTup, sTg, sPar, sFor, iSeqM, iRg1, iRg2, iEnM, ownL, sApp, tgSet, ePop, ePopA, eCall, peeks, takes, hands, boolD, pw_bind, qQ, wipeR, reduceIte, nOp, nList, isD, lenD, wW]
  exact ⟨tm_of (List.all_eq_true.mp odd_ok v hv), hb4⟩
end K02
set_option linter.all false
set_option Elab.async false
set_option maxHeartbeats 0
namespace K02
open PySem TW
theorem cut_take {ds : List PyData} {k : Nat} (h : k ≤ ds.length) : cutD ds none (some (k : Int)) = ds.take k := by
  unfold cutD
  rw [HT.sIx_nat, HT.sIx_none, List.drop_zero, Nat.sub_zero, Nat.min_eq_left h]
theorem cut_drop {ds : List PyData} {k : Nat} (h : k ≤ ds.length) : cutD ds (some (k : Int)) none = ds.drop k := by
  unfold cutD
  rw [HT.sIx_nat, HT.sIx_none, Nat.min_eq_left h]
  exact List.take_of_length_le (by rw [List.length_drop]; omega)
theorem cut_drop' {ds : List PyData} {k : Nat} (h : k ≤ ds.length) : cutD ds (some ((k : Int) + 1)) none = ds.drop (k + 1) := by
  unfold cutD
  rw [show ((k : Int) + 1) = ((k + 1 : Nat) : Int) by omega, HT.sIx_nat, HT.sIx_none]
  rw [List.take_of_length_le (by rw [List.length_drop]; omega)]
  by_cases e : k + 1 ≤ ds.length
  · rw [Nat.min_eq_left e]
  · rw [Nat.min_eq_right (by omega), List.drop_of_length_le (by omega), List.drop_of_length_le (by omega)]
theorem six_neg {n d : Nat} : HT.sIx n d (some (-1)) = n - 1 := by
  show (if (-1 : Int) < 0 then ((-1 : Int) + (n : Int)).toNat else min (-1 : Int).toNat n) = n - 1
  rw [if_pos (by decide)]
  omega
theorem cut_last {ds : List PyData} : cutD ds (some (-1)) none = ds.drop (ds.length - 1) := by
  unfold cutD
  rw [six_neg, HT.sIx_none]
  exact List.take_of_length_le (by rw [List.length_drop]; omega)
theorem add_tup {xs ys : List PyData} (h : xs.length + ys.length ≤ lim) : binD .add (.tuple xs) (.tuple ys) = some (.tuple (xs ++ ys)) := by
  simp only [binD]
  exact if_pos h
theorem add_lst {xs ys : List PyData} (h : xs.length + ys.length ≤ lim) : binD .add (.list xs) (.list ys) = some (.list (xs ++ ys)) := by
  simp only [binD]
  exact if_pos h
theorem lim_le' {n : Nat} (h : n ≤ 1000000) : n ≤ lim := h
theorem tma_short {n m : Nat} {xs : List PyData} (h : TmA n m xs) : 2 * xs.length ≤ n := Nat.le_trans tma_len h.n
theorem take_len {ds : List PyData} {k : Nat} : (ds.take k).length ≤ ds.length := by rw [List.length_take]; omega
theorem drop_len {ds : List PyData} {k : Nat} : (ds.drop k).length ≤ ds.length := by rw [List.length_drop]; omega
theorem tma_one {n m : Nat} {d : PyData} (h : Tm n m d) : TmA (n + 2) m [d] := (TmA.cons h TmA.nil).mono (by omega) (by omega)
theorem bent_tail (F : Sem) (n m : Nat) (ds : List PyData) (x2 : SV) (b : Option Bx) (hb : Bg b) (hT : Tm n m (.tuple ds)) (hn : n ≤ 2000) : pw (m_law_bent_5 F) ⟨[.box, .dat (.tuple ds), x2, .no, .no, .no], b⟩ (fun f s => match f with
    | .rt d => Tm (3 * n + 100) (m + 4) d ∧ Bg s.b
    | .nx => Tm (3 * n + 100) (m + 4) .none ∧ Bg s.b
    | _ => False) fun _ => False := by
  obtain ⟨hA, h4, h1⟩ := tm_tup hT
  have hlen := tma_short hA
  unfold m_law_bent_5 m_law_bent_4
  simp only [eCmp, eBin, eOp, eUn, eFn, eIx, eSlc, eChn, tVal, tNot, tAnd, tOr, eIf, eAnd, eOr, eNot, eIs, aNil, aCons, aStar, itemsO, eTup, nLst, eNw, pNone, pSome, sSkip, sSeq, sAsg, sAsgN, sRet, sRetN, sIf, tgName, tgAll, tgTup, sTg, sPar, sFor, iSeqM, iRg1, iRg2, iEnM, ownL, sApp, tgSet, ePop, ePopA, eCall, peeks, takes, hands, boolD, pw_bind, qQ, wipeR, reduceIte, nOp, nList, isD, lenD, wW]
  refine q_callR (runs_draw (n := (ds.length : Int) + 1) (by omega) (by omega) hb) rfl ?_
  rintro _ b1 ⟨x, rfl, hx1, hx2, hb1⟩
  obtain ⟨k, rfl⟩ : ∃ k : Nat, x = (k : Int) := ⟨x.toNat, by omega⟩
  have hk : k ≤ ds.length := by omega
  have tl : (ds.take k).length ≤ ds.length := take_len
  have dl : ∀ j, (ds.drop j).length ≤ ds.length := fun j => drop_len
  unfold m_law_bent_3 m_law_bent_2
  simp only [eCmp, eBin, eOp, eUn, eFn, eIx, eSlc, eChn, tVal, tNot, tAnd, tOr, eIf, eAnd, eOr, eNot, eIs, aNil, aCons, aStar, itemsO, eTup, nLst, eNw, pNone, pSome, sSkip, sSeq, sAsg, sAsgN, sRet, sRetN, sIf, tgName, tgAll, tgTup, sTg, sPar, sFor, iSeqM, iRg1, iRg2, iEnM, ownL, sApp, tgSet, ePop, ePopA, eCall, peeks, takes, hands, boolD, pw_bind, qQ, wipeR, reduceIte, nOp, nList, isD, lenD, wW, slD, cut_take hk]
  refine q_callR (r_law_odd b1 hb1) rfl ?_
  rintro o b2 ⟨ho, hb2⟩
  have e1 : binD .add (.tuple (ds.take k)) (.tuple [o]) = some (.tuple (ds.take k ++ [o])) := add_tup (lim_le' (by simp; omega))
  have e2 : binD .add (.tuple (ds.take k ++ [o])) (.tuple (ds.drop (k + 1))) = some (.tuple (ds.take k ++ [o] ++ ds.drop (k + 1))) := add_tup (lim_le' (by have := dl (k + 1); simp; omega))
  have e3 : binD .add (.tuple (ds.take k)) (.tuple (ds.drop (k + 1))) = some (.tuple (ds.take k ++ ds.drop (k + 1))) := add_tup (lim_le' (by have := dl (k + 1); omega))
  simp only [eCmp, eBin, eOp, eUn, eFn, eIx, eSlc, eChn, tVal, tNot, tAnd, tOr, eIf, eAnd, eOr, eNot, eIs, aNil, aCons, aStar, itemsO, eTup, nLst, eNw, pNone, pSome, sSkip, sSeq, sAsg, sAsgN, sRet, sRetN, sIf, tgName, tgAll, tgTup, sTg, sPar, sFor, iSeqM, iRg1, iRg2, iEnM, ownL, sApp, tgSet, ePop, ePopA, eCall, peeks, takes, hands, boolD, pw_bind, qQ, wipeR, reduceIte, nOp, nList, isD, lenD, wW, show 0 + 1 ≤ lim from by decide, slD, cut_take hk, cut_drop' hk, e1, e2, e3, backD, listD, l4]
  unfold m_law_bent_1
  simp only [eCmp, eBin, eOp, eUn, eFn, eIx, eSlc, eChn, tVal, tNot, tAnd, tOr, eIf, eAnd, eOr, eNot, eIs, aNil, aCons, aStar, itemsO, eTup, nLst, eNw, pNone, pSome, sSkip, sSeq, sAsg, sAsgN, sRet, sRetN, sIf, tgName, tgAll, tgTup, sTg, sPar, sFor, iSeqM, iRg1, iRg2, iEnM, ownL, sApp, tgSet, ePop, ePopA, eCall, peeks, takes, hands, boolD, pw_bind, qQ, wipeR, reduceIte, nOp, nList, isD, lenD, wW, slD, cut_take hk]
  refine q_callR (r_law_odd b2 hb2) rfl ?_
  rintro o' b3 ⟨ho', hb3⟩
  have e1' : binD .add (.tuple (ds.take k)) (.tuple [o']) = some (.tuple (ds.take k ++ [o'])) := add_tup (lim_le' (by simp; omega))
  have e4 : binD .add (.tuple (ds.take k ++ [o'])) (.tuple (ds.drop k)) = some (.tuple (ds.take k ++ [o'] ++ ds.drop k)) := add_tup (lim_le' (by have := dl k; simp; omega))
  have e5 : binD .add (.tuple ds) (.tuple (ds.drop (ds.length - 1))) = some (.tuple (ds ++ ds.drop (ds.length - 1))) := add_tup (lim_le' (by have := dl (ds.length - 1); omega))
  obtain ⟨d3, r3, t3⟩ : ∃ d3, repD (.tuple ds) (.int 3) = some d3 ∧ Tm (3 * n) m d3 := by
    simp only [repD]
    by_cases h0 : ds = []
    · refine ⟨.tuple ds, by rw [if_pos (.inl h0), if_pos (by decide)], hT.mono (by omega) (Nat.le_refl _)⟩
    · refine ⟨.tuple (List.replicate 3 ds).flatten, by rw [if_neg (by simp [h0]), if_pos ⟨by decide, by decide, by omega⟩]; rfl, ?_⟩
      exact (Tm.tup (tma_rep hA 3)).mono (by omega) (by omega)
  simp only [eCmp, eBin, eOp, eUn, eFn, eIx, eSlc, eChn, tVal, tNot, tAnd, tOr, eIf, eAnd, eOr, eNot, eIs, aNil, aCons, aStar, itemsO, eTup, nLst, eNw, pNone, pSome, sSkip, sSeq, sAsg, sAsgN, sRet, sRetN, sIf, tgName, tgAll, tgTup, sTg, sPar, sFor, iSeqM, iRg1, iRg2, iEnM, ownL, sApp, tgSet, ePop, ePopA, eCall, peeks, takes, hands, boolD, pw_bind, qQ, wipeR, reduceIte, nOp, nList, isD, lenD, wW, show 0 + 1 ≤ lim from by decide, e1', slD, cut_drop hk, e4, neD, cut_last, e5, r3, l3]
  have e6 : ∀ a b c d e f g : PyData, binD .add (.list [a, b, c, d]) (.list [e, f, g]) = some (.list [a, b, c, d, e, f, g]) := fun a b c d e f g => add_lst (show 4 + 3 ≤ lim by decide)
  simp only [eCmp, eBin, eOp, eUn, eFn, eIx, eSlc, eChn, tVal, tNot, tAnd, tOr, eIf, eAnd, eOr, eNot, eIs, aNil, aCons, aStar, itemsO, eTup, nLst, eNw, pNone, pSome, sSkip, sSeq, sAsg, sAsgN, sRet, sRetN, sIf, tgName, tgAll, tgTup, sTg, sPar, sFor, iSeqM, iRg1, iRg2, iEnM, ownL, sApp, tgSet, ePop, ePopA, eCall, peeks, takes, hands, boolD, pw_bind, qQ, wipeR, reduceIte, nOp, nList, isD, lenD, wW, e6]
  refine q_callR (r_law_one _ _ hb3 (by simp) (by simp)) rfl ?_
  rintro v b4 ⟨hv, hb4⟩
  simp only [eCmp, eBin, eOp, eUn, eFn, eIx, eSlc, eChn, tVal, tNot, tAnd, tOr, eIf, eAnd, eOr, eNot, eIs, aNil, aCons, aStar, itemsO, eTup, nLst, eNw, pNone, pSome, sSkip, sSeq, sAsg, sAsgN, sRet, sRetN, sIf, tgName, tgAll, tgTup, sTg, sPar, sFor, iSeqM, iRg1, iRg2, iEnM, ownL, sApp, tgSet, ePop, ePopA, eCall, peeks, takes, hands, boolD, pw_bind, qQ, wipeR, reduceIte, nOp, nList, isD, lenD, wW]
  refine ⟨?_, hb4⟩
  have tk : ∀ {o : PyData} (_ : Tm 50 3 o) (j : Nat), Tm (3 * n + 100) (m + 4) (.tuple (ds.take k ++ [o] ++ ds.drop j)) := fun {o} ho j =>
    (Tm.tup (((hA.take k).app (tma_one ho)).app (hA.drop j))).mono (by omega) (by omega)
  simp only [List.mem_cons, List.not_mem_nil, or_false] at hv
  rcases hv with rfl | rfl | rfl | rfl | rfl | rfl | rfl
  · exact tk ho _
  · exact (Tm.tup ((hA.take k).app (hA.drop (k + 1)))).mono (by omega) (by omega)
  · exact (Tm.tup (tma_rev hA)).mono (by omega) (by omega)
  · exact (Tm.lst hA).mono (by omega) (by omega)
  · exact tk ho' _
  · exact (Tm.tup (hA.app (hA.drop _))).mono (by omega) (by omega)
  · exact t3.mono (by omega) (by omega)
def plF (ds : List PyData) : PyData → Option PyData
  | .int j => match ds[j.toNat]? with
    | some (.tuple _) => some (.int j)
    | _ => none
  | _ => none
theorem isT_eq (d : PyData) : isD .tuple d = match d with
    | .tuple _ => true
    | _ => false := by cases d <;> rfl
theorem r_law_bent : ∀ (fuel : Nat) (n m : Nat) (ds : List PyData) (b : Option Bx), Bg b → Tm n m (.tuple ds) → m ≤ fuel → n ≤ 2000 → Runs (fr_law_bent fuel) [.box, .dat (.tuple ds)] b fun d b' => Tm (3 * n + 100) (m + 4) d ∧ Bg b'
  | 0, n, m, ds, b, hb, hT, hm, hn => by
    obtain ⟨_, _, h1⟩ := tm_tup hT
    omega
  | fuel + 1, n, m, ds, b, hb, hT, hm, hn => by
    obtain ⟨hA, h4, h1⟩ := tm_tup hT
    have hlen := tma_short hA
    refine runs_of ?_
    unfold m_law_bent m_law_bent_10
    simp only [List.map_cons, List.map_nil, argSV, List.length_cons, List.length_nil, Nat.reduceAdd, Nat.reduceSub, List.replicate, List.cons_append, List.nil_append]
    simp only [eCmp, eBin, eOp, eUn, eFn, eIx, eSlc, eChn, tVal, tNot, tAnd, tOr, eIf, eAnd, eOr, eNot, eIs, aNil, aCons, aStar, itemsO, eTup, nLst, eNw, pNone, pSome, sSkip, sSeq, sAsg, sAsgN, sRet, sRetN, sIf, tgName, tgAll, tgTup, sTg, sPar, sFor, iSeqM, iRg1, iRg2, iEnM, ownL, sApp, tgSet, ePop, ePopA, eCall, peeks, takes, hands, boolD, pw_bind, qQ, wipeR, reduceIte, nOp, nList, isD, lenD, wW]
    have hbig : big62 (ds.length : Int) = true := big62_of (by omega) (by omega)
    refine q_cmp_map [.box, .dat (.tuple ds), .no, .no, .no, .no] b (plF ds) ?_
    simp only [eCmp, eBin, eOp, eUn, eFn, eIx, eSlc, eChn, tVal, tNot, tAnd, tOr, eIf, eAnd, eOr, eNot, eIs, aNil, aCons, aStar, itemsO, eTup, nLst, eNw, pNone, pSome, sSkip, sSeq, sAsg, sAsgN, sRet, sRetN, sIf, tgName, tgAll, tgTup, sTg, sPar, sFor, iSeqM, iRg1, iRg2, iEnM, ownL, sApp, tgSet, ePop, ePopA, eCall, peeks, takes, hands, boolD, pw_bind, qQ, wipeR, reduceIte, nOp, nList, isD, lenD, wW, hbig, rgD_nat, rgN_len]
    refine ⟨lim_le' (by omega), fun d hd => ?_, fun r1 hr => ?_⟩
    · obtain ⟨j, rfl, hj⟩ := rgN_mem hd
      have hg := List.getElem?_eq_getElem hj
      simp only [eCmp, eBin, eOp, eUn, eFn, eIx, eSlc, eChn, tVal, tNot, tAnd, tOr, eIf, eAnd, eOr, eNot, eIs, aNil, aCons, aStar, itemsO, eTup, nLst, eNw, pNone, pSome, sSkip, sSeq, sAsg, sAsgN, sRet, sRetN, sIf, tgName, tgAll, tgTup, sTg, sPar, sFor, iSeqM, iRg1, iRg2, iEnM, ownL, sApp, tgSet, ePop, ePopA, eCall, peeks, takes, hands, boolD, pw_bind, qQ, wipeR, reduceIte, nOp, nList, isD, lenD, wW, ixN hg, isT_eq, plF, Int.toNat_natCast, hg]
      cases ds[j] <;> simp only [eCmp, eBin, eOp, eUn, eFn, eIx, eSlc, eChn, tVal, tNot, tAnd, tOr, eIf, eAnd, eOr, eNot, eIs, aNil, aCons, aStar, itemsO, eTup, nLst, eNw, pNone, pSome, sSkip, sSeq, sAsg, sAsgN, sRet, sRetN, sIf, tgName, tgAll, tgTup, sTg, sPar, sFor, iSeqM, iRg1, iRg2, iEnM, ownL, sApp, tgSet, ePop, ePopA, eCall, peeks, takes, hands, boolD, pw_bind, qQ, wipeR, reduceIte, nOp, nList, isD, lenD, wW]
    · rw [back_no rfl hr]
      have hpl : ∀ x ∈ (rgN ds.length).filterMap (plF ds), ∃ (j : Nat) (es : List PyData), x = .int (j : Int) ∧ j < ds.length ∧ ds[j]? = some (.tuple es) := fun x hx => by
        obtain ⟨d, hd, e⟩ := List.mem_filterMap.mp hx
        obtain ⟨j, rfl, hj⟩ := rgN_mem hd
        simp only [plF, Int.toNat_natCast] at e
        split at e
        · rename_i es hes
          cases e
          exact ⟨j, es, rfl, hj, hes⟩
        · cases e
      have hpn : ((rgN ds.length).filterMap (plF ds)).length ≤ ds.length := Nat.le_trans (List.length_filterMap_le _ _) (by rw [rgN_len]; omega)
      generalize (rgN ds.length).filterMap (plF ds) = pl at hpl hpn
      unfold m_law_bent_9 m_law_bent_8
      simp only [eCmp, eBin, eOp, eUn, eFn, eIx, eSlc, eChn, tVal, tNot, tAnd, tOr, eIf, eAnd, eOr, eNot, eIs, aNil, aCons, aStar, itemsO, eTup, nLst, eNw, pNone, pSome, sSkip, sSeq, sAsg, sAsgN, sRet, sRetN, sIf, tgName, tgAll, tgTup, sTg, sPar, sFor, iSeqM, iRg1, iRg2, iEnM, ownL, sApp, tgSet, ePop, ePopA, eCall, peeks, takes, hands, boolD, pw_bind, qQ, wipeR, reduceIte, nOp, nList, isD, lenD, wW, le0, n0_list]
      have tail := fun b hb => bent_tail (fr_law_bent fuel) n m ds (.dat (.list pl)) b hb hT hn
      cases hp : pl.isEmpty with
      | true =>
        simp only [eCmp, eBin, eOp, eUn, eFn, eIx, eSlc, eChn, tVal, tNot, tAnd, tOr, eIf, eAnd, eOr, eNot, eIs, aNil, aCons, aStar, itemsO, eTup, nLst, eNw, pNone, pSome, sSkip, sSeq, sAsg, sAsgN, sRet, sRetN, sIf, tgName, tgAll, tgTup, sTg, sPar, sFor, iSeqM, iRg1, iRg2, iEnM, ownL, sApp, tgSet, ePop, ePopA, eCall, peeks, takes, hands, boolD, pw_bind, qQ, wipeR, reduceIte, nOp, nList, isD, lenD, wW]
        exact tail b hb
      | false =>
        simp only [eCmp, eBin, eOp, eUn, eFn, eIx, eSlc, eChn, tVal, tNot, tAnd, tOr, eIf, eAnd, eOr, eNot, eIs, aNil, aCons, aStar, itemsO, eTup, nLst, eNw, pNone, pSome, sSkip, sSeq, sAsg, sAsgN, sRet, sRetN, sIf, tgName, tgAll, tgTup, sTg, sPar, sFor, iSeqM, iRg1, iRg2, iEnM, ownL, sApp, tgSet, ePop, ePopA, eCall, peeks, takes, hands, boolD, pw_bind, qQ, wipeR, reduceIte, nOp, nList, isD, lenD, wW]
        refine q_callR (runs_draw (n := 4) (by omega) (by omega) hb) rfl ?_
        rintro _ b1 ⟨x, rfl, hx1, hx2, hb1⟩
        by_cases h0 : 0 < x
        · simp only [eCmp, eBin, eOp, eUn, eFn, eIx, eSlc, eChn, tVal, tNot, tAnd, tOr, eIf, eAnd, eOr, eNot, eIs, aNil, aCons, aStar, itemsO, eTup, nLst, eNw, pNone, pSome, sSkip, sSeq, sAsg, sAsgN, sRet, sRetN, sIf, tgName, tgAll, tgTup, sTg, sPar, sFor, iSeqM, iRg1, iRg2, iEnM, ownL, sApp, tgSet, ePop, ePopA, eCall, peeks, takes, hands, boolD, pw_bind, qQ, wipeR, reduceIte, nOp, nList, isD, lenD, wW, h0]
          unfold m_law_bent_7
          simp only [eCmp, eBin, eOp, eUn, eFn, eIx, eSlc, eChn, tVal, tNot, tAnd, tOr, eIf, eAnd, eOr, eNot, eIs, aNil, aCons, aStar, itemsO, eTup, nLst, eNw, pNone, pSome, sSkip, sSeq, sAsg, sAsgN, sRet, sRetN, sIf, tgName, tgAll, tgTup, sTg, sPar, sFor, iSeqM, iRg1, iRg2, iEnM, ownL, sApp, tgSet, ePop, ePopA, eCall, peeks, takes, hands, boolD, pw_bind, qQ, wipeR, reduceIte, nOp, nList, isD, lenD, wW]
          have hpl1 : 1 ≤ pl.length := by
            cases pl with
            | nil => simp at hp
            | cons a r => simp
          refine q_callR (runs_draw (n := (pl.length : Int)) (by omega) (by omega) hb1) rfl ?_
          rintro _ b2 ⟨y, rfl, hy1, hy2, hb2⟩
          obtain ⟨i, rfl⟩ : ∃ i : Nat, y = (i : Int) := ⟨y.toNat, by omega⟩
          have hi : i < pl.length := by omega
          obtain ⟨j, es, hj, hj2, hes⟩ := hpl _ (List.getElem_mem hi)
          have hji : pl[i]? = some (.int (j : Int)) := by rw [List.getElem?_eq_getElem hi, hj]
          simp only [eCmp, eBin, eOp, eUn, eFn, eIx, eSlc, eChn, tVal, tNot, tAnd, tOr, eIf, eAnd, eOr, eNot, eIs, aNil, aCons, aStar, itemsO, eTup, nLst, eNw, pNone, pSome, sSkip, sSeq, sAsg, sAsgN, sRet, sRetN, sIf, tgName, tgAll, tgTup, sTg, sPar, sFor, iSeqM, iRg1, iRg2, iEnM, ownL, sApp, tgSet, ePop, ePopA, eCall, peeks, takes, hands, boolD, pw_bind, qQ, wipeR, reduceIte, nOp, nList, isD, lenD, wW, ixLN hji]
          unfold m_law_bent_6
          have hje : j ≤ ds.length := by omega
          simp only [eCmp, eBin, eOp, eUn, eFn, eIx, eSlc, eChn, tVal, tNot, tAnd, tOr, eIf, eAnd, eOr, eNot, eIs, aNil, aCons, aStar, itemsO, eTup, nLst, eNw, pNone, pSome, sSkip, sSeq, sAsg, sAsgN, sRet, sRetN, sIf, tgName, tgAll, tgTup, sTg, sPar, sFor, iSeqM, iRg1, iRg2, iEnM, ownL, sApp, tgSet, ePop, ePopA, eCall, peeks, takes, hands, boolD, pw_bind, qQ, wipeR, reduceIte, nOp, nList, isD, lenD, wW, slD, cut_take hje, ixN hes]
          have hd : ds.drop j = .tuple es :: ds.drop (j + 1) := by
            have hj3 : ds[j] = .tuple es := by
              rw [List.getElem?_eq_getElem hj2] at hes
              exact Option.some.inj hes
            rw [List.drop_eq_getElem_cons hj2, hj3]
          have hA2 : TmA (n - 4) (m - 1) (ds.take j ++ (.tuple es :: ds.drop (j + 1))) := by
            rw [← hd, List.take_append_drop]
            exact hA
          obtain ⟨ha1, ha2, ha3⟩ := hA2.of_app
          have he : Tm (sz (.tuple es)) (m - 1) (.tuple es) := ⟨(ha2.mem (by simp)).t, Nat.le_refl _, (ha2.mem (by simp)).m⟩
          have hk1 : TmA (szAll (ds.take j)) (m - 1) (ds.take j) := ⟨ha1.t, Nat.le_refl _, ha1.m⟩
          have hk2 : TmA (szAll (ds.drop (j + 1))) (m - 1) (ds.drop (j + 1)) := ⟨(hA.drop (j + 1)).t, Nat.le_refl _, (hA.drop (j + 1)).m⟩
          simp only [szAll] at ha3
          refine q_callR (r_law_bent fuel (sz (.tuple es)) (m - 1) es b2 hb2 he (by omega) (by omega)) rfl ?_
          rintro v b3 ⟨hv, hb3⟩
          have tl : (ds.take j).length ≤ ds.length := take_len
          have dl : (ds.drop (j + 1)).length ≤ ds.length := drop_len
          have e1 : binD .add (.tuple (ds.take j)) (.tuple [v]) = some (.tuple (ds.take j ++ [v])) := add_tup (lim_le' (by simp; omega))
          have e2 : binD .add (.tuple (ds.take j ++ [v])) (.tuple (ds.drop (j + 1))) = some (.tuple (ds.take j ++ [v] ++ ds.drop (j + 1))) := add_tup (lim_le' (by simp; omega))
          simp only [eCmp, eBin, eOp, eUn, eFn, eIx, eSlc, eChn, tVal, tNot, tAnd, tOr, eIf, eAnd, eOr, eNot, eIs, aNil, aCons, aStar, itemsO, eTup, nLst, eNw, pNone, pSome, sSkip, sSeq, sAsg, sAsgN, sRet, sRetN, sIf, tgName, tgAll, tgTup, sTg, sPar, sFor, iSeqM, iRg1, iRg2, iEnM, ownL, sApp, tgSet, ePop, ePopA, eCall, peeks, takes, hands, boolD, pw_bind, qQ, wipeR, reduceIte, nOp, nList, isD, lenD, wW, show 0 + 1 ≤ lim from by decide, e1, slD, cut_drop' hje, e2]
          exact ⟨(Tm.tup ((hk1.app (tma_one hv)).app hk2)).mono (by omega) (by omega), hb3⟩
        · simp only [eCmp, eBin, eOp, eUn, eFn, eIx, eSlc, eChn, tVal, tNot, tAnd, tOr, eIf, eAnd, eOr, eNot, eIs, aNil, aCons, aStar, itemsO, eTup, nLst, eNw, pNone, pSome, sSkip, sSeq, sAsg, sAsgN, sRet, sRetN, sIf, tgName, tgAll, tgTup, sTg, sPar, sFor, iSeqM, iRg1, iRg2, iEnM, ownL, sApp, tgSet, ePop, ePopA, eCall, peeks, takes, hands, boolD, pw_bind, qQ, wipeR, reduceIte, nOp, nList, isD, lenD, wW, h0]
          exact tail b1 hb1
end K02
set_option linter.all false
set_option Elab.async false
set_option maxHeartbeats 0
namespace K02
open PySem TW
theorem tma_all {n m : Nat} : ∀ {ds : List PyData}, (∀ d ∈ ds, Tm n m d) → TmA (ds.length * (n + 2)) m ds
  | [], _ => ⟨rfl, Nat.zero_le _, Nat.zero_le _⟩
  | d :: ds, h => (TmA.cons (h d (by simp)) (tma_all fun e he => h e (List.mem_cons_of_mem _ he))).mono (by rw [List.length_cons, Nat.succ_mul]; omega) (by omega)
theorem tma_ints {n : Nat} {ls : List Int} (hn : n ≤ 900) (h : ∀ l ∈ ls, 0 ≤ l ∧ l < (n : Int)) : TmA (ls.length * 6) 0 (ls.map PyData.int) := by
  have := tma_all (n := 4) (m := 0) (ds := ls.map PyData.int) fun d hd => by
    obtain ⟨i, hi, rfl⟩ := List.mem_map.mp hd
    have := h i hi
    exact tm_small (by omega)
  rwa [List.length_map] at this
end K02
set_option linter.all false
set_option Elab.async false
set_option maxHeartbeats 0
namespace K02
open PySem TW
end K02
set_option linter.all false
set_option Elab.async false
set_option maxHeartbeats 0
namespace K08
open PySem TW K02
def ltD : PyData → PyData
  | .tuple [.int i, .int j] => .bool (decide (i < j))
  | _ => .none
end K08
set_option linter.all false
set_option Elab.async false
set_option maxHeartbeats 0
namespace K08
open PySem TW K02
end K08
set_option linter.all false
set_option Elab.async false
set_option maxHeartbeats 0
namespace K08
open PySem TW K02
end K08
set_option linter.all false
set_option Elab.async false
set_option maxHeartbeats 0
set_option maxRecDepth 10000
namespace K08
open PySem TW K02
theorem pair_short : ∀ {l : List Int} {lo hi : Int}, l.Pairwise (· < ·) → (∀ t ∈ l, lo ≤ t ∧ t < hi) → (l.length : Int) ≤ max 0 (hi - lo)
  | [], _, _, _, _ => by simp; omega
  | a :: r, lo, hi, h, hb => by
    obtain ⟨h1, h2⟩ := List.pairwise_cons.mp h
    have := pair_short (lo := a + 1) (hi := hi) h2 fun t ht => ⟨by have := h1 t ht; omega, (hb t (List.mem_cons_of_mem _ ht)).2⟩
    have := hb a (by simp)
    simp only [List.length_cons]
    omega
theorem sort_short {n : Nat} {ts : List Int} (h : ∀ t ∈ ts, 0 ≤ t ∧ t < (n : Int)) : (sortS ts).length ≤ n := by
  have := pair_short (lo := 0) (hi := n) sortS_lt fun t ht => h t (mem_sortS.mp ht)
  omega
theorem intsOf_map (ts : List Int) : intsOf (ts.map PyData.int) = some ts := by
  induction ts with
  | nil => rfl
  | cons a r ih => simp [intsOf, ih]
end K08
set_option linter.all false
set_option Elab.async false
set_option maxHeartbeats 0
namespace K08
open PySem TW K02
theorem l1 : 0 + 1 ≤ lim := by decide
end K08
set_option linter.all false
set_option Elab.async false
set_option maxHeartbeats 0
set_option maxRecDepth 10000
namespace K09
open PySem TW K02 K08
def eD (n : Nat) : PyData := .int (n : Nat)
structure PlanOk (k : Nat) (es : List Nat) (rs : List (List (Option Nat))) : Prop where
  r : ∀ r ∈ rs, r.length = k
  g : ∀ r ∈ rs, ∀ x ∈ r, ∀ j, x = some j → j < rs.length
  e : ∀ e ∈ es, e < rs.length
  p1 : 1 ≤ rs.length
  p6 : rs.length ≤ 6
  k1 : 1 ≤ k
  k6 : k ≤ 6
def goal (rs : List (List (Option Nat))) (a i : Nat) : Option Nat := (rs.getD a []).getD i none
def goalO (rs : List (List (Option Nat))) (o : Option Nat) (i : Nat) : Option Nat := match o with
  | some a => goal rs a i
  | none => none
def led (rs : List (List (Option Nat))) (log : List Nat) : Option Nat := log.foldl (goalO rs) (some 0)
def okO (rs : List (List (Option Nat))) (o : Option Nat) : Prop := ∀ j, o = some j → j < rs.length
theorem goal_get {k : Nat} {es : List Nat} {rs : List (List (Option Nat))} (P : PlanOk k es rs) {a i : Nat} (ha : a < rs.length) (hi : i < k) : ∃ r, rs[a]? = some r ∧ r[i]? = some (goal rs a i) ∧ okO rs (goal rs a i) := by
  have hr : rs[a] ∈ rs := List.getElem_mem ha
  have hl := P.r _ hr
  have hil : i < (rs[a]).length := by omega
  have e : goal rs a i = (rs[a])[i] := by
    have e1 : rs.getD a [] = rs[a] := by rw [List.getD_eq_getElem?_getD, List.getElem?_eq_getElem ha]; rfl
    unfold goal
    rw [e1, List.getD_eq_getElem?_getD, List.getElem?_eq_getElem hil]
    rfl
  refine ⟨rs[a], List.getElem?_eq_getElem ha, by rw [List.getElem?_eq_getElem hil, e], fun j hj => ?_⟩
  rw [e] at hj
  exact P.g _ hr _ (List.getElem_mem hil) j hj
end K09
set_option linter.all false
set_option Elab.async false
set_option maxHeartbeats 0
set_option maxRecDepth 10000
namespace K09
open PySem TW K02 K08
def natV : PyData → Nat
  | .int i => i.toNat
  | _ => 0
end K09
set_option linter.all false
set_option Elab.async false
set_option maxHeartbeats 0
set_option maxRecDepth 10000
namespace K09
open PySem TW K02 K08
theorem q_noX0 {α : Type} {m : M α} {s : Sx} {Q : α → Sx → Prop} : pw (noX m) s Q (fun _ => False) ↔ pw m s Q fun _ => False := by
  unfold pw noX
  cases m s with
  | ok p => exact Iff.rfl
  | error e => exact Iff.rfl
def logD (l : List Nat) : PyData := .tuple (l.map eD)
abbrev KnL := List (Nat × List Nat)
def addK (rs : List (List (Option Nat))) (p : Nat) (l : List Nat) (st : KnL × KnL) (i : Nat) : KnL × KnL := match goal rs p i with
  | none => st
  | some g => if (st.1.find? fun q => q.1 == g).isSome then st else (st.1 ++ [(g, l ++ [i])], st.2 ++ [(g, l ++ [i])])
def lay (es : List Nat) (rs : List (List (Option Nat))) (k : Nat) : KnL → KnL × KnL → List Nat ⊕ (KnL × KnL)
  | [], st => .inr st
  | (p, l) :: w, st => if es.contains p then .inl l else lay es rs k w ((List.range' 0 k).foldl (addK rs p l) st)
structure Good (rs : List (List (Option Nat))) (k : Nat) (kn : KnL) : Prop where
  nd : (kn.map (·.1)).Nodup
  r : ∀ p ∈ kn, p.1 < rs.length ∧ led rs p.2 = some p.1 ∧ (∀ i ∈ p.2, i < k) ∧ p.2.length < kn.length
theorem Good.len {rs : List (List (Option Nat))} {k : Nat} {kn : KnL} (G : Good rs k kn) : kn.length ≤ rs.length := by
  have h := G.nd
  have : ∀ {l : List Nat} {n : Nat}, l.Nodup → (∀ x ∈ l, x < n) → l.length ≤ n := by
    intro l n hn hb
    have hs : (l.map fun (x : Nat) => ((x : Nat) : Int)).Nodup := by
      rw [List.Nodup, List.pairwise_map]
      exact hn.imp fun hne => by omega
    have h1 := length_sortS hs fun k => Iff.rfl
    have h2 := sort_short (n := n) (ts := l.map fun (x : Nat) => ((x : Nat) : Int)) fun t ht => by
      obtain ⟨x, hx, rfl⟩ := List.mem_map.mp ht
      have := hb x hx
      omega
    rw [List.length_map] at h1
    omega
  have := this h (n := rs.length) fun x hx => by
    obtain ⟨p, hp, rfl⟩ := List.mem_map.mp hx
    exact (G.r p hp).1
  rwa [List.length_map] at this
theorem led_snoc {rs : List (List (Option Nat))} {l : List Nat} {i p : Nat} (h : led rs l = some p) : led rs (l ++ [i]) = goal rs p i := by
  unfold led at h ⊢
  rw [List.foldl_append, h]
  rfl
theorem addK_good {k : Nat} {es : List Nat} {rs : List (List (Option Nat))} (P : PlanOk k es rs) {p i : Nat} {l : List Nat} {kn lt : KnL} (G : Good rs k kn) (hm : (p, l) ∈ kn) (hi : i < k) (hs : ∀ q ∈ lt, q ∈ kn) (kn0 : KnL) (h0 : kn.length = kn0.length + lt.length) :
    Good rs k (addK rs p l (kn, lt) i).1 ∧ (p, l) ∈ (addK rs p l (kn, lt) i).1 ∧ (∀ q ∈ kn, q ∈ (addK rs p l (kn, lt) i).1) ∧ (∀ q ∈ (addK rs p l (kn, lt) i).2, q ∈ (addK rs p l (kn, lt) i).1) ∧ (addK rs p l (kn, lt) i).1.length = kn0.length + (addK rs p l (kn, lt) i).2.length := by
  unfold addK
  obtain ⟨hp1, hp2, hp3, hp4⟩ := G.r _ hm
  obtain ⟨r, _, _, hok⟩ := goal_get P hp1 hi
  cases hg : goal rs p i with
  | none => exact ⟨G, hm, fun q h => h, hs, h0⟩
  | some g =>
    dsimp only
    split
    · exact ⟨G, hm, fun q h => h, hs, h0⟩
    · rename_i hf
      have hf : (kn.find? fun q => q.1 == g) = none := by
        cases h : (kn.find? fun q => q.1 == g) with
        | none => rfl
        | some x => rw [h] at hf; simp at hf
      rw [List.find?_eq_none] at hf
      refine ⟨⟨?_, fun q hq => ?_⟩, List.mem_append_left _ hm, fun q h => List.mem_append_left _ h, fun q hq => ?_, by simp; omega⟩
      · rw [List.map_append, List.nodup_append]
        refine ⟨G.nd, by simp, fun a ha c hc => ?_⟩
        obtain ⟨x, hx, rfl⟩ := List.mem_map.mp ha
        simp at hc
        subst hc
        have := hf x hx
        simpa using this
      · rcases List.mem_append.mp hq with h | h
        · obtain ⟨h1, h2, h3, h4⟩ := G.r q h
          exact ⟨h1, h2, h3, by simp; omega⟩
        · rw [List.mem_singleton.mp h]
          refine ⟨hok g hg, by rw [led_snoc hp2, hg], fun j hj => ?_, by simp; omega⟩
          rcases List.mem_append.mp hj with h' | h'
          · exact hp3 j h'
          · rw [List.mem_singleton.mp h']; exact hi
      · rcases List.mem_append.mp hq with h | h
        · exact List.mem_append_left _ (hs q h)
        · exact List.mem_append_right _ h
end K09
set_option linter.all false
set_option Elab.async false
set_option maxHeartbeats 0
set_option maxRecDepth 10000
namespace K09
open PySem TW K02 K08
structure St (rs : List (List (Option Nat))) (k : Nat) (kn0 : KnL) (st : KnL × KnL) : Prop where
  g : Good rs k st.1
  s : ∀ q ∈ st.2, q ∈ st.1
  l : st.1.length = kn0.length + st.2.length
theorem St.add {k : Nat} {es : List Nat} {rs : List (List (Option Nat))} (P : PlanOk k es rs) {p i : Nat} {l : List Nat} {st : KnL × KnL} {kn0 : KnL} (S : St rs k kn0 st) (hm : (p, l) ∈ st.1) (hi : i < k) : St rs k kn0 (addK rs p l st i) ∧ (∀ q ∈ st.1, q ∈ (addK rs p l st i).1) := by
  obtain ⟨h1, h2, h3, h4, h5⟩ := addK_good P S.g hm hi S.s kn0 S.l
  exact ⟨⟨h1, h4, h5⟩, h3⟩
end K09
set_option linter.all false
set_option Elab.async false
set_option maxHeartbeats 0
set_option maxRecDepth 10000
namespace K04
open PySem TW K02 K08 K09
abbrev Kd := Int × List Nat
def kD (k : Kd) : PyData := .tuple [.int k.1, .tuple (k.2.map eD)]
def hD (L : PyData) (ks : List Kd) : PyData := .tuple [L, .tuple (ks.map kD)]
structure HOk (n : Nat) (ks : List Kd) : Prop where
  l : ∀ k ∈ ks, k.2.length = n
  t : ∀ k ∈ ks, ∀ x ∈ k.2, x < n
  n1 : 1 ≤ n
  n8 : n ≤ 8
  k1 : 0 ≤ ks.length
  k6 : ks.length ≤ 6
def stp (ks : List Kd) (a i : Nat) : Nat := ((ks.getD i (0, [])).2).getD a 0
theorem stp_get {n : Nat} {ks : List Kd} (P : HOk n ks) {a i : Nat} (ha : a < n) (hi : i < ks.length) : ∃ k, ks[i]? = some k ∧ k.2[a]? = some (stp ks a i) ∧ stp ks a i < n := by
  have hk : ks[i] ∈ ks := List.getElem_mem hi
  have hl := P.l _ hk
  have hal : a < (ks[i]).2.length := by omega
  have e1 : ks.getD i (0, []) = ks[i] := by rw [List.getD_eq_getElem?_getD, List.getElem?_eq_getElem hi]; rfl
  have e : stp ks a i = (ks[i]).2[a] := by
    unfold stp
    rw [e1, List.getD_eq_getElem?_getD, List.getElem?_eq_getElem hal]
    rfl
  exact ⟨ks[i], List.getElem?_eq_getElem hi, by rw [List.getElem?_eq_getElem hal, e], by rw [e]; exact P.t _ hk _ (List.getElem_mem hal)⟩
def ledS (ks : List Kd) (log : List Nat) : Nat := log.foldl (stp ks) 0
theorem led_snocS {ks : List Kd} {l : List Nat} {i p : Nat} (h : ledS ks l = p) : ledS ks (l ++ [i]) = stp ks p i := by
  unfold ledS at h ⊢
  rw [List.foldl_append, h]
  rfl
def addS (ks : List Kd) (p : Nat) (l : List Nat) (st : KnL × KnL) (i : Nat) : KnL × KnL :=
  if (st.1.find? fun q => q.1 == stp ks p i).isSome then st else (st.1 ++ [(stp ks p i, l ++ [i])], st.2 ++ [(stp ks p i, l ++ [i])])
def layS (ks : List Kd) : KnL → KnL × KnL → KnL × KnL
  | [], st => st
  | (p, l) :: w, st => layS ks w ((List.range' 0 ks.length).foldl (addS ks p l) st)
def bfsS (ks : List Kd) : Nat → KnL → KnL → KnL
  | 0, kn, _ => kn
  | n + 1, kn, w => if w = [] then kn else bfsS ks n (layS ks w (kn, [])).1 (layS ks w (kn, [])).2
structure GoodS (n : Nat) (ks : List Kd) (kn : KnL) : Prop where
  nd : (kn.map (·.1)).Nodup
  r : ∀ p ∈ kn, p.1 < n ∧ ledS ks p.2 = p.1 ∧ (∀ i ∈ p.2, i < ks.length) ∧ p.2.length < kn.length
theorem nodup_lt {n : Nat} {l : List Nat} (hn : l.Nodup) (hb : ∀ x ∈ l, x < n) : l.length ≤ n := by
  have hs : (l.map fun (x : Nat) => ((x : Nat) : Int)).Nodup := by
    rw [List.Nodup, List.pairwise_map]
    exact hn.imp fun hne => by omega
  have h1 := length_sortS hs fun k => Iff.rfl
  have h2 := sort_short (n := n) (ts := l.map fun (x : Nat) => ((x : Nat) : Int)) fun t ht => by
    obtain ⟨x, hx, rfl⟩ := List.mem_map.mp ht
    have := hb x hx
    omega
  rw [List.length_map] at h1
  omega
theorem GoodS.len {n : Nat} {ks : List Kd} {kn : KnL} (G : GoodS n ks kn) : kn.length ≤ n := by
  have := nodup_lt G.nd (n := n) fun x hx => by
    obtain ⟨p, hp, rfl⟩ := List.mem_map.mp hx
    exact (G.r p hp).1
  rwa [List.length_map] at this
structure StS (n : Nat) (ks : List Kd) (kn0 : KnL) (st : KnL × KnL) : Prop where
  g : GoodS n ks st.1
  s : ∀ q ∈ st.2, q ∈ st.1
  l : st.1.length = kn0.length + st.2.length
theorem StS.add {n : Nat} {ks : List Kd} (P : HOk n ks) {p i : Nat} {l : List Nat} {st : KnL × KnL} {kn0 : KnL} (S : StS n ks kn0 st) (hm : (p, l) ∈ st.1) (hi : i < ks.length) : StS n ks kn0 (addS ks p l st i) ∧ (∀ q ∈ st.1, q ∈ (addS ks p l st i).1) := by
  obtain ⟨G, hs, h0⟩ := S
  obtain ⟨kn, lt⟩ := st
  obtain ⟨hp1, hp2, hp3, hp4⟩ := G.r _ hm
  obtain ⟨r, _, _, hok⟩ := stp_get P hp1 hi
  unfold addS
  dsimp only at *
  generalize hg : stp ks p i = g at hok
  split
  · exact ⟨⟨G, hs, h0⟩, fun q h => h⟩
  · rename_i hf
    have hf : (kn.find? fun q => q.1 == g) = none := by
      cases h : (kn.find? fun q => q.1 == g) with
      | none => rfl
      | some x => rw [h] at hf; simp at hf
    rw [List.find?_eq_none] at hf
    refine ⟨⟨⟨?_, fun q hq => ?_⟩, fun q hq => ?_, by simp; omega⟩, fun q h => List.mem_append_left _ h⟩
    · rw [List.map_append, List.nodup_append]
      refine ⟨G.nd, by simp, fun a ha c hc => ?_⟩
      obtain ⟨x, hx, rfl⟩ := List.mem_map.mp ha
      simp at hc
      subst hc
      have := hf x hx
      simpa using this
    · rcases List.mem_append.mp hq with h | h
      · obtain ⟨h1, h2, h3, h4⟩ := G.r q h
        exact ⟨h1, h2, h3, by simp; omega⟩
      · rw [List.mem_singleton.mp h]
        refine ⟨hok, by rw [led_snocS hp2, hg], fun j hj => ?_, by simp; omega⟩
        rcases List.mem_append.mp hj with h' | h'
        · exact hp3 j h'
        · rw [List.mem_singleton.mp h']; exact hi
    · rcases List.mem_append.mp hq with h | h
      · exact List.mem_append_left _ (hs q h)
      · exact List.mem_append_right _ h
def found (n : Nat) (ks : List Kd) : KnL := bfsS ks (n + 1) [(0, [])] [(0, [])]
end K04
set_option linter.all false
set_option Elab.async false
set_option maxHeartbeats 0
set_option maxRecDepth 10000
namespace K04
open PySem TW K02 K08 K09
end K04
set_option linter.all false
set_option Elab.async false
set_option maxHeartbeats 0
set_option maxRecDepth 10000
namespace K04
open PySem TW K02 K08 K09
def ent (kn : KnL) (g : Nat) : PyData := match kn.find? fun q => q.1 == g with
  | some q => logD q.2
  | none => .none
end K04
set_option linter.all false
set_option Elab.async false
set_option maxHeartbeats 0
set_option maxRecDepth 10000
namespace K08
open PySem TW K02
end K08
set_option linter.all false
set_option Elab.async false
set_option maxHeartbeats 0
namespace K08
open PySem TW K02
end K08
set_option linter.all false
set_option Elab.async false
set_option maxHeartbeats 0
set_option maxRecDepth 10000
namespace K04
open PySem TW K02 K08 K09
def told (n : Nat) (kn : KnL) (x : PyData) : PyData := if isIn 0 ((n : Int) - 1) x then ent kn (natV x) else .list [.str "state", x]
end K04
set_option linter.all false
set_option Elab.async false
set_option maxHeartbeats 0
set_option maxRecDepth 10000
namespace K17
open PySem TW K02 K08 K09 K04
section
variable {α : Type} [DecidableEq α]
def uniq : List α → List α → List α
  | kn, [] => kn
  | kn, a :: r => uniq (if a ∈ kn then kn else kn ++ [a]) r
def ordr (ms : List α) : List Nat := ms.map fun m => (uniq [] ms).idxOf m
end
section
variable {α : Type} [DecidableEq α] {q : α → PyData}
end
end K17
set_option linter.all false
set_option Elab.async false
set_option maxHeartbeats 0
set_option maxRecDepth 10000
namespace K17
open PySem TW K02 K08 K09 K04
def rowsC (ks : List Kd) (n : Nat) (c : List Nat) : List (List Nat) := (List.range n).map fun s => c.getD s 0 :: ks.map fun k => c.getD (k.2.getD s 0) 0
def cl (ls : List Int) (ks : List Kd) : Nat → List Nat
  | 0 => ordr ls
  | k + 1 => ordr (rowsC ks ls.length (cl ls ks k))
abbrev Ek (ls : List Int) (ks : List Kd) (k s t : Nat) : Prop := (cl ls ks k).getD s 0 = (cl ls ks k).getD t 0
variable {ls : List Int} {ks : List Kd}
def cls (ls : List Int) (ks : List Kd) : List Nat := cl ls ks ls.length
abbrev Al (ls : List Int) (ks : List Kd) (s t : Nat) : Prop := (cls ls ks).getD s 0 = (cls ls ks).getD t 0
end K17
set_option linter.all false
set_option Elab.async false
set_option maxHeartbeats 0
set_option maxRecDepth 10000
namespace K17
open PySem TW K02 K08 K09 K04
variable {ls : List Int} {ks : List Kd}
end K17
set_option linter.all false
set_option Elab.async false
set_option maxHeartbeats 0
set_option maxRecDepth 10000
namespace K17
open PySem TW K02 K08 K09 K04
variable {ls : List Int} {ks : List Kd}
def hm (ls : List Int) (ks : List Kd) (i a : Nat) : Bool := !decide (Al ls ks (stp ks a i) a)
end K17
set_option linter.all false
set_option Elab.async false
set_option maxHeartbeats 0
set_option maxRecDepth 10000
namespace K17
open PySem TW K02 K08 K09 K04
variable {ls : List Int} {ks : List Kd}
abbrev Pr := Nat × Nat
def upd1 (T : Pr → Bool) (p : Pr) : Pr → Bool := fun q => q == p || T q
def T0 (ls : List Int) : Pr → Bool := fun p => !decide (ls.getD p.1 0 = ls.getD p.2 0)
def prs (n : Nat) : List Pr := (List.range' 0 n).flatMap fun s => (List.range' 0 n).map fun t => (s, t)
def anyT (ks : List Kd) (T : Pr → Bool) (p : Pr) : Bool := ks.any fun k => T (k.2.getD p.1 0, k.2.getD p.2 0)
def nT (ks : List Kd) (T : Pr → Bool) (p : Pr) : Pr → Bool := if anyT ks T p then upd1 T p else T
def memP (n : Nat) (p : Pr) : Prop := p.1 < n ∧ p.2 < n
end K17
set_option linter.all false
set_option Elab.async false
set_option maxHeartbeats 0
set_option maxRecDepth 10000
namespace K17
open PySem TW K02 K08 K09 K04
variable {ls : List Int} {ks : List Kd}
def Snd (ls : List Int) (ks : List Kd) (T : Pr → Bool) : Prop := ∀ p, memP ls.length p → T p = true → ¬ Al ls ks p.1 p.2
def Cmp (ls : List Int) (ks : List Kd) (k : Nat) (T : Pr → Bool) : Prop := ∀ p, memP ls.length p → ¬ Ek ls ks k p.1 p.2 → T p = true
end K17
set_option linter.all false
set_option Elab.async false
set_option maxRecDepth 100000
namespace TW
open PySem PySem.Spec PyProof.Rows L2 K02 K04 K17 K08 K09
def rowV (n : Nat) (T : Pr → Bool) (i : Nat) : List V := (List.range n).map fun j => .bl (T (i, j))
structure TbA (H0 : Hp) (D : Addr) (as : List Addr) (n : Nat) (T : Pr → Bool) (H : Hp) : Prop where
  ext : ∀ a, H0 a ≠ none → H a = H0 a
  D0 : H0 D = none
  hD : H D = some (.lst (as.map V.ref))
  row : ∀ i (h : i < as.length), H as[i] = some (.lst (rowV n T i))
  fr : ∀ a ∈ as, H0 a = none
  nd : as.Nodup
  nD : D ∉ as
section
variable {H0 H : Hp} {D : Addr} {as : List Addr} {n : Nat} {T : Pr → Bool} {K : PySem.W.Frag}
theorem TbA.fresh (t : TbA H0 D as n T H) {p : Addr} {u : HO} (hp : H p = none) : TbA H0 D as n T (upd H p u) := by
  have h1 : D ≠ p := fun e => by have := t.hD; rw [e, hp] at this; cases this
  refine ⟨fun a h => ?_, t.D0, by rw [upd_ne h1]; exact t.hD, fun i h => ?_, t.fr, t.nd, t.nD⟩
  · have : a ≠ p := fun e => by
      have h2 := t.ext a h
      rw [e, hp] at h2
      exact h (by rw [e]; exact h2.symm)
    rw [upd_ne this]
    exact t.ext a h
  · have := t.row i h
    rw [upd_ne fun e => by rw [e, hp] at this; cases this]
    exact this
theorem rowV_set {i j : Nat} : (rowV n T i).set j (.bl true) = rowV n (upd1 T (i, j)) i := by
  unfold rowV
  apply List.ext_getElem?
  intro k
  rw [List.getElem?_set]
  by_cases hk : k < n
  · rw [List.getElem?_map, List.getElem?_map, List.getElem?_range hk]
    by_cases e : j = k
    · subst e
      rw [if_pos rfl, if_pos (by simpa using hk)]
      simp [upd1]
    · rw [if_neg e]
      have : ((i, k) == (i, j)) = false := by
        rw [beq_eq_false_iff_ne]
        intro h
        cases h
        exact e rfl
      simp only [Option.map_some, upd1, this, Bool.false_or]
  · rw [List.getElem?_eq_none (by simp; omega), List.getElem?_eq_none (by simp; omega)]
    split
    · rename_i e
      rw [if_neg (by simp; omega)]
    · rfl
theorem rowV_ne {i k : Nat} {p : Pr} (h : p.1 ≠ k) : rowV n (upd1 T p) k = rowV n T k := by
  unfold rowV
  apply List.map_congr_left
  intro j _
  have : ((k, j) == p) = false := by
    rw [beq_eq_false_iff_ne]
    intro e
    subst e
    exact h rfl
  simp only [upd1, this, Bool.false_or]
theorem TbA.set (t : TbA H0 D as n T H) {i j : Nat} (hi : i < as.length) : TbA H0 D as n (upd1 T (i, j)) (upd H as[i] (.lst ((rowV n T i).set j (.bl true)))) := by
  have hm : as[i] ∈ as := List.getElem_mem hi
  have h1 : D ≠ as[i] := fun e => t.nD (by rw [e]; exact hm)
  refine ⟨fun a h => ?_, t.D0, by rw [upd_ne h1]; exact t.hD, fun k hk => ?_, t.fr, t.nd, t.nD⟩
  · rw [upd_ne fun e => h (by rw [e]; exact t.fr _ hm)]
    exact t.ext a h
  · by_cases e : k = i
    · subst e
      rw [upd_same, rowV_set]
    · have : as[k] ≠ as[i] := fun z => e ((List.getElem_inj t.nd).mp z)
      rw [upd_ne this, t.row k hk, rowV_ne (i := i) (p := (i, j)) fun z => e z.symm]
theorem TbA.ix (t : TbA H0 D as n T H) {i : Nat} (hi : i < as.length) {Q : VK} (q : Q (.ref as[i]) H) : rIx K (.ref D) (.int (i : Nat)) H Q :=
  .inl ⟨D, _, _, _, rfl, rfl, SqL.of t.hD, atI_nat (by rw [List.getElem?_map, List.getElem?_eq_getElem hi]; rfl), q⟩
end
section
variable {F : Addr → Prop} {ls : List Int} {ks : List Kd} {H0 H : Hp} {D : Addr} {as : List Addr} {n : Nat} {T : Pr → Bool} {K : PySem.W.Frag} {vh vl vk : V}
end
def cntF (n : Nat) (T : Pr → Bool) : Nat := ((prs n).filter fun p => !T p).length
def Stb (n : Nat) (ks : List Kd) (T : Pr → Bool) : Prop := ∀ p, memP n p → anyT ks T p = true → T p = true
structure Lp (ls : List Int) (ks : List Kd) (T0 : Pr → Bool) (c : Bool) (T : Pr → Bool) (i j : Nat) : Prop where
  snd : Snd ls ks T
  cmp : Cmp ls ks 0 T
  yes : c = true → cntF ls.length T < cntF ls.length T0
  no : c = false → T = T0 ∧ ∀ p, memP ls.length p → (p.1 < i ∨ (p.1 = i ∧ p.2 < j)) → anyT ks T p = true → T p = true
section
variable {ls : List Int} {ks : List Kd} {T0 T : Pr → Bool} {c : Bool} {i j : Nat}
theorem Lp.row (h : Lp ls ks T0 c T i ls.length) : Lp ls ks T0 c T (i + 1) 0 :=
  ⟨h.snd, h.cmp, h.yes, fun hc => ⟨(h.no hc).1, fun p hp hb ha => (h.no hc).2 p hp (by
    rcases hb with hb | hb
    · by_cases e : p.1 = i
      · exact .inr ⟨e, hp.2⟩
      · exact .inl (by omega)
    · exact absurd hb.2 (by omega)) ha⟩⟩
end
section
variable {F : Addr → Prop} {ls : List Int} {ks : List Kd} {H0 H : Hp} {D : Addr} {as : List Addr} {T : Pr → Bool} {K : PySem.W.Frag} {vh vl vk : V}
end
section
variable {F : Addr → Prop} {ls : List Int} {ks : List Kd} {H0 H : Hp} {K : PySem.W.Frag} {vh vl vk : V}
end
end TW
set_option linter.all false
set_option Elab.async false
set_option maxRecDepth 100000
namespace TW
open PySem PySem.Spec PyProof.Rows L2
def SameL {α β : Type} : List α → List β → Prop
  | [], [] => True
  | _ :: l, _ :: r => SameL l r
  | _, _ => False
theorem SameL.length {α β : Type} : ∀ {l : List α} {r : List β}, SameL l r → r.length = l.length
  | [], [], _ => rfl
  | _ :: l, _ :: r, h => congrArg (· + 1) (SameL.length (l := l) (r := r) h)
  | [], _ :: _, h => h.elim
  | _ :: _, [], h => h.elim
section
variable {X : Cx} {W : Wish} {k : Nat}
end
end TW
set_option linter.all false
set_option Elab.async false
namespace TW
open PySem PySem.Spec PyProof.Rows L2
def nHide (i : Nat) (f : List PyData → M PyData) : M PyData := do
  let ds ← ownL i
  setS i .no
  let x ← f ds
  setS i (.own (.list ds))
  pure x
section
variable {P : Addr → Prop} {G G' : Gh} {σ : L2.St} {H H' : Hp} {s s' : Sx} {v : V} {o : Opd} {W : Wish} {X : Cx} {k : Nat} {tg : Expr} {vs : List Nat}
theorem it_lstP {K : PySem.W.Frag} {a : Addr} {xs : List V} {ds : List PyData} (p : P a) (f : ¬ G.F a) (e : H a = some (.lst xs)) (r : FzA G.F H xs ds) : ItOk P (Itl K a) G H ds := by
  intro P' G1 σ1 H1 s1 x R
  have e1 : H1 a = some (.lst xs) := (x.kP a p f).trans e
  refine ⟨fun i d hd => ?_, ⟨xs, SqL.of e1, by rw [r.length]; exact Nat.le_refl _⟩⟩
  obtain ⟨v, hv, fv⟩ := r.get hd
  exact ⟨⟨xs, v, SqL.of e1, hv⟩, fun y H' ⟨h1, h2⟩ => by
    subst h1
    rw [h2 xs (SqL.of e1)] at hv
    cases hv
    exact ⟨G1, .refl, R, fv.ext x⟩⟩
theorem cmp_core {J : It} {G1 : Gh} {H1 : Hp} {s1 : Sx} {ds : List PyData} {t : PyData → M Unit} {c : M Bool} {e : M Opd} {Q : VK} (x1 : Ext P G H G1 H1) (R1 : Rel P G1 σ H1 s1) (ok : ItOk P J G1 H1 ds) 
    (h2 : pw (cmpL vs t c e [] ds) s1 (fun xs s2 => PostN P σ Q G H (.list xs) { s2 with r := backR s1.r s2.r vs }) (fun _ => False)) :
    ∀ D, H1 D = none → ∃ W : Nat → Nat → Hp → Prop, (∃ m, W 0 m (upd H1 D (.lst []))) ∧ ∀ i m H, W i m H →
  (J.stop i H ∧ Q (.ref D) H) ∨ (J.go i H ∧ ∃ Nx : Hp → Prop, (∀ H', Nx H' → ∃ m', m' < m ∧ W (i + 1) m' H') ∧ ∀ x H', J.yld i H x H' → rdG Wish.no t vs x (L2.wipe σ vs) H' fun σ2 H2 => L2.wipe σ2 vs = L2.wipe σ vs ∧ rdT Wish.no c σ2 H2 fun b H3 =>
    if b = true then rdE Wish.no e σ2 H3 fun y H4 => ∃ acc, H4 D = some (.lst acc) ∧ acc.length < sizeLine ∧ Nx (upd H4 D (.lst (acc ++ [y]))) else Nx H3) := by
  intro D hD
  obtain ⟨xD, RD, owD, fD⟩ := R1.layOwn (xs := []) (ds := []) hD .nil
  have hD1 : upd H1 D (.lst []) D ≠ none := by rw [upd_same]; simp
  have RP := RD.also hD1 fD
  refine ⟨fun i m H' => ∃ G' s' acc accV, Ext P G1 H1 G' H' ∧ Rel (also P D) G' (L2.wipe σ vs) H' { s' with r := wipeR s'.r vs } ∧ ¬ G'.F D ∧ H' D = some (.lst accV) ∧ FzA G'.F H' accV acc ∧ i + m = ds.length ∧
      pw (cmpL vs t c e acc (ds.drop i)) s' (fun xs s2 => PostN P σ Q G H (.list xs) { s2 with r := backR s1.r s2.r vs }) (fun _ => False),
    ⟨ds.length, G1, s1, [], [], xD, RP.wipe, fD.f, upd_same, .nil, Nat.zero_add _, h2⟩, ?_⟩
  rintro i m H2 ⟨G2, s2, acc, accV, x2, R2, nF2, eD2, r2, em, hw2⟩
  have nb : ∀ {G' : Gh} {σ' : L2.St} {H' : Hp} {s' : Sx}, Rel (also P D) G' σ' H' s' → D ∉ G'.bs := fun R' z => (R'.bF D z).2.1 (.inr rfl)
  have no : ∀ {G' : Gh} {σ' : L2.St} {H' : Hp} {s' : Sx}, Rel (also P D) G' σ' H' s' → ∀ (i : Nat) d, s'.r[i]? = some (SV.own d) → σ'[i]? ≠ some (some (V.ref D)) := fun R' j d e z => by
    obtain ⟨a, h1, _, _, h4, _⟩ := R'.own j d e
    rw [z] at h1
    cases h1
    exact h4 (.inr rfl)
  obtain ⟨go, stop⟩ := ok (also P D) G2 (L2.wipe σ vs) H2 _ x2 R2
  by_cases hi : i < ds.length
  · obtain ⟨g1, yl⟩ := go i ds[i] (List.getElem?_eq_getElem hi)
    refine .inr ⟨g1, fun H' => ∃ G' s' acc accV, Ext P G1 H1 G' H' ∧ Rel (also P D) G' (L2.wipe σ vs) H' { s' with r := wipeR s'.r vs } ∧ ¬ G'.F D ∧ H' D = some (.lst accV) ∧ FzA G'.F H' accV acc ∧
      pw (cmpL vs t c e acc (ds.drop (i + 1))) s' (fun xs s2 => PostN P σ Q G H (.list xs) { s2 with r := backR s1.r s2.r vs }) (fun _ => False),
      fun H' ⟨G', s', acc', accV', y1, y2, y3, y4, y5, y6⟩ => ⟨m - 1, by omega, G', s', acc', accV', y1, y2, y3, y4, y5, by omega, y6⟩, fun y H3 hy => ?_⟩
    obtain ⟨G3, x3, R3, f3⟩ := yl y H3 hy
    rw [List.drop_eq_getElem_cons hi] at hw2
    have nF : ∀ {G' : Gh} {H' : Hp}, Ext (also P D) G2 H2 G' H' → ¬ G'.F D := fun x z => x.nF z nF2 (.inr rfl) eD2 fun _ h => nomatch h
    have eD : ∀ {G' : Gh} {H' : Hp}, Ext (also P D) G2 H2 G' H' → H' D = some (.lst accV) := fun x => (x.kP D (.inr rfl) nF2).trans eD2
    have hw3 : pw (t ds[i] >>= fun _ => (do
        let b ← c
        if b = true then (do
          let o ← e
          let x ← take o
          if acc.length < lim then cmpL vs t c e (acc ++ [x]) (ds.drop (i + 1)) else stuck)
        else cmpL vs t c e acc (ds.drop (i + 1)) : M (List PyData))) { s2 with r := wipeR s2.r vs } (fun xs s2 => PostN P σ Q G H (.list xs) { s2 with r := backR s1.r s2.r vs }) (fun _ => False) := hw2
    rw [pw_bind] at hw3
    refine ⟨also P D, G3, _, ds[i], R3, f3, pw_mono hw3 (fun _ s4 h4 G4 σ4 H4 x4 R4 ew => ?_) fun _ h => h⟩
    rw [wipe_wipe] at ew
    refine ⟨ew, also P D, G4, s4, R4, ?_⟩
    rw [pw_bind] at h4
    refine pw_mono h4 (fun b s5 h5 G5 H5 x5 R5 => ?_) fun _ h => h
    have x25 := (x3.trans x4).trans x5
    have fin : ∀ {G' : Gh} {H' : Hp} {s' : Sx}, Ext (also P D) G5 H5 G' H' → Rel (also P D) G' σ4 H' s' → Rel (also P D) G' (L2.wipe σ vs) H' { s' with r := wipeR s'.r vs } := fun _ R' => by
      rw [← ew]
      exact R'.wipe
    cases b with
    | false =>
      have h5 : pw (cmpL vs t c e acc (ds.drop (i + 1))) s5 _ _ := h5
      exact ⟨G5, s5, acc, accV, x2.trans x25.less, fin .refl R5, nF x25, eD x25, r2.ext x25, h5⟩
    | true =>
      have h5 : pw (e >>= fun o => (do
          let x ← take o
          if acc.length < lim then cmpL vs t c e (acc ++ [x]) (ds.drop (i + 1)) else stuck : M (List PyData))) s5 (fun xs s2 => PostN P σ Q G H (.list xs) { s2 with r := backR s1.r s2.r vs }) (fun _ => False) := h5
      rw [pw_bind] at h5
      refine ⟨also P D, G5, s5, R5, pw_mono h5 (fun o s6 h6 G6 w6 H6 x6 R6 r6 => ?_) fun _ h => h⟩
      obtain ⟨G7, s7, d7, x7, R7, f7, h7⟩ := take_ok (W := Wish.no) (P := also P D) (Qp := fun _ _ xs s2 => PostN P σ Q G H (.list xs) { s2 with r := backR s1.r s2.r vs }) (fun _ _ _ _ _ _ _ h => h) R6 r6 h6
      have x27 := (x25.trans x6).trans x7
      split at h7
      · rename_i hl
        have eD7 := eD x27
        refine ⟨accV, eD7, by rw [r2.length]; exact Nat.lt_of_lt_of_le hl (lim_line (Nat.le_refl _)), G7, s7, acc ++ [d7], accV ++ [w6], ?_, ?_, nF x27, upd_same, ?_, h7⟩
        · exact (x2.trans x27.less).trans (Ext.write (nF x27) fun z => fD.p z)
        · have R8 := fin (x6.trans x7) R7
          exact R8.write (by rw [eD7]; simp) (nF x27) (nb R7) (no R8) (by rw [eD7]; exact calm_lst)
        · have kF : ∀ b, G7.F b → upd H6 D (.lst (accV ++ [w6])) b = H6 b := fun b h => upd_ne fun z => nF x27 (by rw [← z]; exact h)
          exact ((r2.ext x27).append (.cons f7 .nil)).mono (fun _ h => h) kF
      · exact h7.elim
  · have e : i = ds.length := by omega
    subst e
    rw [List.drop_length] at hw2
    refine .inl ⟨stop, ?_⟩
    have hw3 : PostN P σ Q G H (.list acc) { s2 with r := backR s1.r s2.r vs } := hw2
    have R3 := Rel.back R1 x2 R2.less
    refine hw3 G2 D H2 (x1.trans x2) R3 ⟨accV, eD2, r2⟩ ⟨nF2, fD.p, nb R2, fun j d ej z => ?_⟩
    -- D is no slot's own
    have ej' : (backR s1.r s2.r vs)[j]? = some (SV.own d) := ej
    rw [backR_get] at ej'
    by_cases hj : j ∈ vs
    · rw [if_pos hj] at ej'
      cases q : s2.r[j]? with
      | none => rw [q] at ej'; cases ej'
      | some z' =>
        rw [q] at ej'
        have : keepD (s1.r.getD j .no) = SV.own d := Option.some.inj ej'
        cases q2 : s1.r.getD j .no <;> rw [q2] at this <;> cases this
    · rw [if_neg hj] at ej'
      exact no R2 j d (by show (wipeR s2.r vs)[j]? = _; rw [wipeR_get, if_neg hj]; exact ej') (by rw [wipe_get, if_neg hj]; exact z)
theorem cl_cmpO {K : PySem.W.Frag} {i : Nat} {t : PyData → M Unit} {c : M Bool} {e : M Opd} : ClN W (tLc (iSq K (tVar i)) (rdG Wish.no t vs) (rdT Wish.no c) (rdE Wish.no e) vs) (nHide i fun ds => nCmp vs (pure ds) t c e) := by
  intro P G σ H s Q R hw
  unfold nHide at hw
  obtain ⟨ds, a, xs, e1, e2, e3, r, nF, hw1⟩ := ownL_ok R (W.stuck _ _ _) hw
  have hi : i < s.r.length := (List.getElem?_eq_some_iff.mp e1).1
  obtain ⟨b, h1, h2, h3, h4, h5⟩ := R.own i _ e1
  rw [e2] at h1; cases h1
  have hA : H a ≠ none := by rw [e3]; simp
  -- the slot is hidden
  have R0 : Rel P G σ H { s with r := s.r.set i .no } := by
    refine ⟨by rw [R.len]; simp, fun j d h => ?_, fun j d h => ?_, fun j l d y hjl h h' => ?_, fun j h => ?_, R.bx, R.nb, R.fr, R.pr, R.bF, R.tb⟩
    · rcases set_get h with ⟨_, q, _⟩ | ⟨_, q⟩
      · cases q
      · exact R.dat j d q
    · rcases set_get h with ⟨_, q, _⟩ | ⟨_, q⟩
      · cases q
      · exact R.own j d q
    · rcases set_get h with ⟨_, q, _⟩ | ⟨_, q⟩
      · cases q
      · rcases set_get h' with ⟨_, q', _⟩ | ⟨_, q'⟩
        · cases q'
        · exact R.sep j l d y hjl q q'
    · rcases set_get h with ⟨_, q, _⟩ | ⟨_, q⟩
      · cases q
      · exact R.box j q
  have RP : Rel (also P a) G σ H { s with r := s.r.set i .no } := R0.also (hc := by rw [e3]; exact calm_lst) hA ⟨nF, h4, h5, fun j d h z => by
    rcases set_get h with ⟨_, q, _⟩ | ⟨hj, q⟩
    · cases q
    · exact R.sep j i d _ hj q e1 (by rw [z, e2])⟩
  have hw2 : pw (noX (cmpL vs t c e [] ds)) { s with r := s.r.set i .no } (fun ys s2 => PostN P σ Q G H (.list ys) { s2 with r := (backR (s.r.set i .no) s2.r vs).set i (.own (.list ds)) }) (W.w P G H) := by
    have hw1 : pw ((do
      let xs ← noX (cmpL vs t c e [] ds)
      backS (s.r.set i .no) vs
      pure (.list xs) : M PyData) >>= fun x => (do setS i (.own (.list ds)); pure x : M PyData)) { s with r := s.r.set i .no } (PostN P σ Q G H) (W.w P G H) := hw1
    rw [pw_bind, pw_bind] at hw1
    exact hw1
  have hw3 := pw_noX (W.stuck P G H) hw2
  refine ⟨V.ref a, e2, a, rfl, .inl ⟨xs, SqL.of e3, ?_⟩⟩
  refine cmp_core (P := also P a) (G := G) (H := H) .refl RP (it_lstP (.inr rfl) nF e3 r) (pw_mono hw3 (fun ys s2 h => ?_) fun _ h => h)
  intro G' D H' x R' ow f
  have nF' : ¬ G'.F a := fun z => x.nF z nF (.inr rfl) e3 fun _ h => nomatch h
  have eA : H' a = some (.lst xs) := (x.kP a (.inr rfl) nF).trans e3
  have owA : Ow G'.F H' a (.list ds) := ⟨xs, eA, r.ext x.less⟩
  have fA : Free P G' σ { s2 with r := backR (s.r.set i .no) s2.r vs } a := ⟨nF', h4, fun z => (R'.bF a z).2.1 (.inr rfl), fun j d h z => by
    obtain ⟨b, k1, _, _, k4, _⟩ := R'.own j d h
    rw [z] at k1; cases k1
    exact k4 (.inr rfl)⟩
  have R3 := R'.less.setOwn i owA fA
  have es : σ.set i (some (.ref a)) = σ := by
    apply List.ext_getElem?
    intro j
    by_cases hj : i = j
    · subst hj
      rw [List.getElem?_set_self (by rw [R.len]; exact hi), e2]
    · rw [List.getElem?_set_ne hj]
  rw [es] at R3
  refine h G' D H' x.less R3 ow ⟨f.f, fun z => f.p (.inl z), f.b, fun j d h z => ?_⟩
  rcases set_get h with ⟨rfl, _, _⟩ | ⟨_, q⟩
  · rw [e2] at z
    cases z
    exact f.p (.inr rfl)
  · exact f.o j d q z
end
section
variable {X : Cx} {W : Wish} {k : Nat} {elt tg : Expr} {ifs : List Expr} {scope : Scope} {pos : Pos} {t : PyData → M Unit} {c : M Bool} {e : M Opd}
theorem sn_cmpO (own : List (Str × Nat)) {i : Nat} {x : Str} {xp : Pos} (C : Cok X k) (hN : X.N[i]? = some x) (hv : Vis X.env.scope x) (ok : BlkOk X.N X.env.scope scope own)
    (hg : ∀ (s : Shared) (H : Hp) (D : Addr) (cl : List (Str × Addr)) (fp : List Addr), SdGw (X.blk s H scope (compEnvC scope cl D X.env) fp) Wish.no (own.map (·.2)) tg t)
    (ht : ∀ (s : Shared) (H : Hp) (D : Addr) (cl : List (Str × Addr)) (fp : List Addr), SdTs (X.blk s H scope (compEnvC scope cl D X.env) fp) Wish.no ifs c)
    (he : ∀ (s : Shared) (H : Hp) (D : Addr) (cl : List (Str × Addr)) (fp : List Addr), Sd (X.blk s H scope (compEnvC scope cl D X.env) fp) Wish.no elt e)
    (hs : ∀ y, foldedSetIterable (.Name x xp) X.env y = pure y := by intro _; rfl) (hd : (x == ("__debug__" : Str)) = false := by decide) (hcd : (x == ("__classdict__" : Str)) = false := by decide) : SdN X W (.ListComp elt [⟨tg, .Name x xp, ifs, 0⟩] scope pos) (nHide i fun ds => nCmp (own.map (·.2)) (pure ds) t c e) :=
  ⟨_, pe_lc C.calm C.nd (pi_sq (pe_var hN hv hd hcd)) ok (fun s H D cl fp => (hg s H D cl fp).pg) (fun s H D cl fp => (ht s H D cl fp).pts) (fun s H D cl fp => (he s H D cl fp).pe) hs, cl_cmpO⟩
end
end TW
set_option linter.all false
set_option Elab.async false
set_option maxRecDepth 100000
namespace SrtT
open PySem PySem.W PySem.Calls PyProof.Rows Builtin SrtO
def IsTI (h : Heap) (v : Value) (ns : List Int) : Prop :=
  ∃ (a : Addr) (dd : Option Addr) (items : Array Value) (n : Nat) (sl : Array (Option Value)), v = .ref a ∧ h.get? a = some { cls := .type "tuple", dict := dd, data := .seq items n, slots := sl } ∧ IntsAre items.toList ns
theorem IsTI.keeps {h h' : Heap} {v : Value} {ns : List Int} (x : IsTI h v ns) (k : ∀ b o, v = .ref b → h.get? b = some o → h'.get? b = some o) : IsTI h' v ns := by
  obtain ⟨a, dd, items, n, sl, e, g, i⟩ := x
  exact ⟨a, dd, items, n, sl, e, k _ _ e g, i⟩
theorem IsTI.type {M : Model} {h : Heap} {v : Value} {ns : List Int} (x : IsTI h v ns) : Looks M h (typeOf v) (.type "tuple") := by
  obtain ⟨a, dd, items, n, sl, rfl, g, i⟩ := x
  exact (Looks.ld g).andThen .now
section
variable {prog : Program} {w : World} {A : Around} {E : Value → Shared → Prop} {s : Shared}
end
end SrtT
namespace L2
open PySem PySem.Spec PyProof.Rows
section
variable {X : Cx}
end
end L2
namespace TW
open PySem PySem.Spec PyProof.Rows L2
section
variable {P : Addr → Prop} {G G' : Gh} {σ : L2.St} {H H' : Hp} {s s' : Sx} {v : V} {o : Opd} {W : Wish} {X : Cx} {k : Nat}
end
end TW
set_option linter.all false
set_option Elab.async false
set_option maxRecDepth 100000
namespace TW
open PySem PySem.Spec PyProof.Rows L2
section
variable {P : Addr → Prop} {G G' : Gh} {σ : L2.St} {H H' : Hp} {s s' : Sx} {v : V} {o : Opd} {W : Wish} {X : Cx} {k : Nat} {tg : Expr}
end
end TW
set_option linter.all false
set_option Elab.async false
namespace TW
open PySem PySem.Spec PyProof.Rows L2
section
variable {P : Addr → Prop} {G G' : Gh} {σ : L2.St} {H H' : Hp} {s s' : Sx} {v : V} {o : Opd} {W : Wish} {X : Cx} {k : Nat}
end
end TW
set_option linter.all false
set_option Elab.async false
namespace TW
open PySem PySem.Spec PyProof.Rows L2
section
variable {W : Wish} {X : Cx} {a b : Expr} {pos : Pos} {ma mb : M Opd}
end
end TW
set_option linter.all false
set_option Elab.async false
set_option maxRecDepth 100000
namespace TW
open PySem PySem.Spec PyProof.Rows L2 HT
section
variable {P : Addr → Prop} {G G' : Gh} {σ : L2.St} {H H' : Hp} {s s' : Sx} {v : V} {o : Opd} {W : Wish} {X : Cx} {k : Nat}
end
end TW
set_option linter.all false
set_option Elab.async false
set_option maxRecDepth 100000
namespace TW
open PySem PySem.Spec PyProof.Rows L2
section
variable {P : Addr → Prop} {G G' : Gh} {σ : L2.St} {H H' : Hp} {s s' : Sx} {v : V} {o : Opd} {W : Wish} {X : Cx} {k : Nat} {a : Addr}
end
end TW
set_option linter.all false
set_option Elab.async false
set_option maxRecDepth 100000
namespace TW
open PySem PySem.Spec PyProof.Rows L2
section
variable {P : Addr → Prop} {G G' : Gh} {σ : L2.St} {H H' : Hp} {s s' : Sx} {v : V} {o : Opd} {W : Wish} {X : Cx} {k : Nat}
end
end TW
set_option linter.all false
set_option Elab.async false
set_option maxRecDepth 100000
namespace MinT
open PySem PySem.Spec PyProof.Rows
abbrev Kp (h h' : Heap) : Prop := ∀ b o, h.get? b = some o → h'.get? b = some o
section
variable {prog : Program} {w : World} {A : Around} {R : Result → Shared → Prop} {items : Array Value} {lt : Nat → Nat → Bool} {l I S : Addr} {h0 : Heap}
end
section
variable {prog : Program} {w : World} {A : Around} {E : Value → Shared → Prop} {s : Shared} {items : Array Value} {lt : Nat → Nat → Bool} {l : Addr}
end
end MinT
namespace TW
open PySem PySem.Spec PyProof.Rows L2
mutual
/-- d < e of ints and tuples -/
def ltD : PyData → PyData → Bool
  | .int a, .int b => decide (a < b)
  | .tuple xs, .tuple ys => ltA xs ys
  | _, _ => false
def ltA : List PyData → List PyData → Bool
  | [], [] => false
  | [], _ :: _ => true
  | _ :: _, [] => false
  | x :: xs, y :: ys => if PyData.eqv x y = true then ltA xs ys else ltD x y
end
mutual
/-- they may be compared: ints stand where ints stand -/
def okLt : PyData → PyData → Bool
  | .int _, .int _ => true
  | .tuple xs, .tuple ys => okLtA xs ys
  | _, _ => false
def okLtA : List PyData → List PyData → Bool
  | x :: xs, y :: ys => okLt x y && okLtA xs ys
  | _, _ => true
end
end TW
set_option linter.all false
set_option Elab.async false
set_option maxRecDepth 100000
namespace TW
open PySem PySem.Spec PyProof.Rows L2
mutual
theorem reads_kp {h h' : Heap} (k : MinT.Kp h h') : ∀ {u : Value} {d : PyData} {as : List Addr}, Reads h u d as → Reads h' u d as
  | _, _, _, .none => .none
  | _, _, _, .bool b => .bool b
  | _, _, _, .int i t => .int i t
  | _, _, _, .str x t => .str x t
  | _, _, _, .list g c d a => .list (k _ _ g) c d (readsA_kp k a)
  | _, _, _, .tuple g c d a => .tuple (k _ _ g) c d (readsA_kp k a)
  | _, _, _, .dict g c d a b => .dict (k _ _ g) c d (readsA_kp k a) (readsA_kp k b)
theorem readsA_kp {h h' : Heap} (k : MinT.Kp h h') : ∀ {us : List Value} {ds : List PyData} {as : List Addr}, ReadsAll h us ds as → ReadsAll h' us ds as
  | _, _, _, .nil => .nil
  | _, _, _, .cons r rs => .cons (reads_kp k r) (readsA_kp k rs)
end
section
variable {P : Addr → Prop} {G G' : Gh} {σ : L2.St} {H H' : Hp} {s s' : Sx} {v : V} {o : Opd} {W : Wish} {X : Cx} {k : Nat}
end
end TW
set_option Elab.async false
set_option linter.all false
set_option maxRecDepth 100000
namespace TW
open PySem PySem.Spec PyProof.Rows L2
section
variable {P : Program} {w : World} {K : PySem.W.Frag} {elts : List Expr} {kk : Nat} {tpos : Pos} {a b z TI TO i1 i2 : Addr}
end
section
variable {P : Addr → Prop} {G G' : Gh} {σ : L2.St} {H H' : Hp} {s s' : Sx} {v : V} {o : Opd} {W : Wish} {X : Cx} {k : Nat} {tg : Expr}
end
end TW
set_option Elab.async false
set_option linter.all false
set_option maxRecDepth 100000
namespace TW
open PySem PySem.Spec PyProof.Rows L2
section
variable {prog : Program} {w : World} {A : Around} {E : Value → Shared → Prop} {s : Shared} {l : Addr} {xs : Array (Int × Tok)}
end
section
variable {P : Addr → Prop} {G G' : Gh} {σ : L2.St} {H H' : Hp} {s s' : Sx} {v : V} {o : Opd} {W : Wish} {X : Cx} {k : Nat}
end
end TW
set_option linter.all false
set_option Elab.async false
set_option maxRecDepth 100000
namespace TW
open PySem PySem.Spec PyProof.Rows L2
section
variable {P : Addr → Prop} {G G' : Gh} {σ : L2.St} {H H' : Hp} {s s' : Sx} {v : V} {o : Opd} {W : Wish} {X : Cx} {k : Nat}
end
end TW
set_option linter.all false
set_option Elab.async false
set_option maxRecDepth 100000
namespace TW
open PySem PySem.Spec PyProof.Rows L2
section
variable {P : Addr → Prop} {G G' : Gh} {σ : L2.St} {H H' : Hp} {s s' : Sx} {v : V} {o : Opd} {W : Wish} {X : Cx} {k : Nat}
end
end TW
set_option linter.all false
set_option Elab.async false
set_option maxRecDepth 100000
namespace ZL
open PySem PySem.Spec PyProof.Rows
variable {prog : Program} {w : World} {A : Around} {E : Value → Shared → Prop} {s : Shared} {z ti to i1 i2 a1 a2 T : Addr} {xs ys : Array Value}
structure ZS (h : Heap) (z ti to i1 i2 a1 a2 T : Addr) (f : Bool) (xs ys : Array Value) (k : Nat) : Prop where
  z : IsZipHeld h z ti to T f
  t : ∃ o, h.get? T = some o
  p : IsPair h ti (.ref i1) (.ref i2)
  u1 : h.IsTupleIter i1 a1 k
  u2 : h.IsTupleIter i2 a2 k
  l1 : h.IsTuple a1 xs
  l2 : h.IsTuple a2 ys
theorem next_on {f : Bool} {k : Nat} {x y : Value} {Q : Option Value → Shared → Prop} (D : ZipApart z ti to i1 i2 a1 a2) (Z : ZS s.heap z ti to i1 i2 a1 a2 T f xs ys k) (ex : xs[k]? = some x) (ey : ys[k]? = some y)
    (q : ∀ h', IsZipHeld h' z ti to T true → h'.IsTupleIter i1 a1 (k + 1) → h'.IsTupleIter i2 a2 (k + 1) → IsPair h' s.heap.objs.size x y → h'.objs.size = s.heap.objs.size + 1 → (∀ c o, c ≠ z → c ≠ i1 → c ≠ i2 → s.heap.get? c = some o → h'.get? c = some o) → Q (some (.ref s.heap.objs.size)) { s with heap := h' }) :
    wpAny (model prog w) A (pyNext (.ref z)) Q E s := by
  obtain ⟨hz, ⟨oT, hT⟩, hp, u1, u2, l1, l2⟩ := Z
  have ty : s.TypeIs (.ref z) "zip" := ⟨_, hz, rfl⟩
  unfold pyNext
  refine wpAny_bind (wpAny_attempt (wpAny_callSpecial?_slot (name := Str.ofString "__next__") ty F.slot_zip_next (wpAny_call_entry F.slot_zip_next ty F.entry_zip_next ?_ (F.args_zip_next_1 _))))
  show wpAny _ _ (field (.ref z) 2 >>= _) _ _ s
  refine wpAny_bind (wpAny_field hz rfl (x := .bool false) rfl ?_)
  show wpAny _ _ (field (.ref z) 3 >>= _) _ _ s
  refine wpAny_bind (wpAny_field hz rfl (x := .ref ti) rfl (wpAny_bind (wpAny_seqItems hp rfl ?_)))
  show wpAny _ _ (Builtin.SmallTypes.ownedTupleIsFree (.ref z) >>= _) _ _ s
  refine wpAny_bind (wpAny_tupleHeld_zip hz hT fun g1 z1 b1 => ?_)
  simp only [Bool.false_eq_true, if_false]
  refine wpAny_bind ?_
  rw [← Array.forIn_toList]
  simp only [List.forIn_cons, List.forIn_nil]
  refine wpAny_bind (wpAny_bind (wpAny_holding ?_))
  show wpAny _ _ (Builtin.SmallTypes.nextOf (.ref i1) >>= _) _ _ { s with heap := g1 }
  refine wpAny_bind (RZ.nextOf_tuple_item (s := { s with heap := g1 }) (u1.extBut b1.extBut D.i1z) (l1.extBut b1.extBut D.l1z) ex fun g2 v1 b2 => wpAny_pure (wpAny_pure ?_))
  refine wpAny_bind (wpAny_bind (wpAny_holding ?_))
  show wpAny _ _ (Builtin.SmallTypes.nextOf (.ref i2) >>= _) _ _ { s with heap := g2 }
  refine wpAny_bind (RZ.nextOf_tuple_item (s := { s with heap := g2 }) ((u2.extBut b1.extBut D.i2z).extBut b2.extBut D.i12.symm) ((l2.extBut b1.extBut D.l2z).extBut b2.extBut D.l2i1) ey fun g3 v2 b3 => wpAny_pure (wpAny_pure (wpAny_pure ?_)))
  show wpAny _ _ (newTuple [x, y] >>= _) _ _ { s with heap := g3 }
  refine wpAny_bind (wpAny_newTuple (wpAny_pure ⟨_, rfl, wpAny_pure ?_⟩))
  have sz : g3.objs.size = s.heap.objs.size := by rw [b3.1, b2.1, b1.1]
  have pr : IsPair (g3.push { cls := .type "tuple", data := .seq #[x, y] }) g3.objs.size x y := Heap.get?_push_size _ rfl
  have sz2 : (g3.push { cls := .type "tuple", data := .seq #[x, y] }).objs.size = g3.objs.size + 1 := Heap.size_push ..
  have v3 : g3.IsTupleIter i1 a1 (k + 1) := v1.extBut b3.extBut D.i12
  show Q (some (.ref g3.objs.size)) _
  rw [sz] at pr sz2 ⊢
  exact q _ (Heap.get?_push_of_some _ (b3.extBut _ _ D.i2z.symm (b2.extBut _ _ D.i1z.symm z1))) (v3.at fun o e => Heap.get?_push_of_some _ e) (v2.at fun o e => Heap.get?_push_of_some _ e) pr sz2
    fun c o c1 c2 c3 e => Heap.get?_push_of_some _ (b3.extBut _ _ c3 (b2.extBut _ _ c2 (b1.extBut _ _ c1 e)))
theorem next_off {f : Bool} {k : Nat} {Q : Option Value → Shared → Prop} (hh : A.handled = none) (D : ZipApart z ti to i1 i2 a1 a2) (Z : ZS s.heap z ti to i1 i2 a1 a2 T f xs ys k) (ex : xs[k]? = none)
    (q : ∀ h', (∀ c o, c ≠ z → c ≠ i1 → s.heap.get? c = some o → h'.get? c = some o) → Q none { s with heap := h' }) : wpAny (model prog w) A (pyNext (.ref z)) Q E s := by
  obtain ⟨hz, ⟨oT, hT⟩, hp, u1, u2, l1, l2⟩ := Z
  have ty : s.TypeIs (.ref z) "zip" := ⟨_, hz, rfl⟩
  unfold pyNext
  refine wpAny_bind (wpAny_attempt (wpAny_callSpecial?_slot (name := Str.ofString "__next__") ty F.slot_zip_next (wpAny_call_entry F.slot_zip_next ty F.entry_zip_next ?_ (F.args_zip_next_1 _))))
  show wpAny _ _ (field (.ref z) 2 >>= _) _ _ s
  refine wpAny_bind (wpAny_field hz rfl (x := .bool false) rfl ?_)
  show wpAny _ _ (field (.ref z) 3 >>= _) _ _ s
  refine wpAny_bind (wpAny_field hz rfl (x := .ref ti) rfl (wpAny_bind (wpAny_seqItems hp rfl ?_)))
  show wpAny _ _ (Builtin.SmallTypes.ownedTupleIsFree (.ref z) >>= _) _ _ s
  refine wpAny_bind (wpAny_tupleHeld_zip hz hT fun g1 z1 b1 => ?_)
  simp only [Bool.false_eq_true, if_false]
  refine wpAny_bind ?_
  rw [← Array.forIn_toList]
  simp only [List.forIn_cons, List.forIn_nil]
  refine wpAny_bind (wpAny_bind (wpAny_holding ?_))
  show wpAny _ _ (Builtin.SmallTypes.nextOf (.ref i1) >>= _) _ _ { s with heap := g1 }
  refine wpAny_bind (RZ.nextOf_tuple_end (s := { s with heap := g1 }) hh (u1.extBut b1.extBut D.i1z) (l1.extBut b1.extBut D.l1z) ex fun g2 e b2 he => ?_)
  obtain ⟨o, ho, hc⟩ := he
  refine wpAny_bind (wpAny_isInstance (T := "StopIteration") (b := true) ⟨o, ho, hc⟩ isSubtype_stop (wpAny_pure ?_))
  exact q _ fun c o c1 c2 x => b2 _ _ c2 (b1.extBut _ _ c1 x)
structure Acc (h : Heap) (acc xs ys : Array Value) (k : Nat) (no : List Addr) (base : Nat) : Prop where
  n : acc.size = k
  at_ : ∀ j, j < k → ∃ (T : Addr) (x y : Value), acc[j]? = some (.ref T) ∧ xs[j]? = some x ∧ ys[j]? = some y ∧ IsPair h T x y ∧ T ∉ no ∧ base ≤ T
  nd : acc.toList.Nodup
theorem Acc.keep {h h' : Heap} {acc : Array Value} {k base : Nat} {no : List Addr} (c : Acc h acc xs ys k no base) (kp : ∀ b o, b ∉ no → h.get? b = some o → h'.get? b = some o) : Acc h' acc xs ys k no base :=
  ⟨c.n, fun j hj => let ⟨T, x, y, h1, h2, h3, h4, h5, h6⟩ := c.at_ j hj; ⟨T, x, y, h1, h2, h3, kp _ _ h5 h4, h5, h6⟩, c.nd⟩
theorem Acc.old {h : Heap} {acc : Array Value} {k base : Nat} {no : List Addr} (c : Acc h acc xs ys k no base) : Value.ref h.objs.size ∉ acc.toList := fun hm => by
  obtain ⟨j, hj, e⟩ := List.mem_iff_getElem.mp hm
  have hj : j < acc.size := by simpa using hj
  obtain ⟨T, x, y, h1, _, _, h4, _⟩ := c.at_ j (by rw [← c.n]; exact hj)
  rw [Array.getElem?_eq_getElem hj] at h1
  have e2 : acc[j] = Value.ref h.objs.size := by simpa using e
  rw [e2] at h1
  cases h1
  exact Nat.lt_irrefl _ (Heap.lt_size h4)
theorem Acc.push {h : Heap} {acc : Array Value} {k base : Nat} {no : List Addr} {x y : Value} (c : Acc h acc xs ys k no base) (ex : xs[k]? = some x) (ey : ys[k]? = some y) (hT : IsPair h T x y) (hn : T ∉ no) (hb : base ≤ T) (ho : Value.ref T ∉ acc.toList) : Acc h (acc.push (.ref T)) xs ys (k + 1) no base := by
  refine ⟨by rw [Array.size_push, c.n], fun j hj => ?_, ?_⟩
  · rw [Array.getElem?_push, c.n]
    by_cases e : j = k
    · subst e
      rw [if_pos rfl]
      exact ⟨T, x, y, rfl, ex, ey, hT, hn, hb⟩
    · rw [if_neg e]
      exact c.at_ j (by omega)
  · rw [Array.toList_push, List.nodup_append]
    refine ⟨c.nd, by simp, fun a ha b hb e => ho ?_⟩
    rw [← List.mem_singleton.mp hb, ← e]
    exact ha
variable {R : Result → Shared → Prop} {S : Addr} {base : Nat}
theorem fill (hh : A.in1.handled = none) (D : ZipApart z ti to i1 i2 a1 a2) (hS : S ∉ [z, ti, i1, i2, a1, a2]) (res : Value) (hn : xs.size ≤ sizeLine) (hxy : xs.size = ys.size) :
    ∀ (m k : Nat) (s : Shared) (acc : Array Value) (c : Nat) (T : Addr) (f : Bool), base ≤ s.heap.objs.size → m + k = xs.size → ZS s.heap z ti to i1 i2 a1 a2 T f xs ys k → T ∉ [S, z, i1, i2] → s.heap.get? S = some { cls := .type "list", dict := none, data := .seq acc c, slots := #[] } → Acc s.heap acc xs ys k [S, z, i1, i2] base →
    (∀ h' acc' c', (∀ b o, b ∉ [S, z, i1, i2] → s.heap.get? b = some o → h'.get? b = some o) → h'.get? S = some { cls := .type "list", dict := none, data := .seq acc' c', slots := #[] } → Acc h' acc' xs ys xs.size [S, z, i1, i2] base → R (.ok (.ret res)) { s with heap := h' }) →
    codeAny (model prog w) A (.builtin "list.extend.loop" ⟨[.ref S, .ref z, res], []⟩) R s
  | 0, k, s, acc, c, T, f, hbs, e, Z, nT, gS, hacc, hR => by
    have e : k = xs.size := by omega
    subst e
    have sz : S ≠ z ∧ S ≠ i1 := by simp at hS; exact ⟨hS.1, hS.2.2.1⟩
    refine codeAny_builtin F.entry_extend_loop ?_
    rw [Around.under_plainId F.plain_extend_loop _]
    show wpAny _ A.in1 (pyNext (.ref z) >>= _) _ _ s
    refine wpAny_bind (next_off hh D Z (Array.getElem?_eq_none (Nat.le_refl _)) fun h' kp => wpAny_pure ?_)
    refine hR h' acc c (fun b o hb q => kp b o (fun e => hb (by simp [e])) (fun e => hb (by simp [e])) q) (kp _ _ sz.1 sz.2 gS) (hacc.keep fun b o hb q => kp b o (fun e => hb (by simp [e])) (fun e => hb (by simp [e])) q)
  | m + 1, k, s, acc, c, T, f, hbs, e, Z, nT, gS, hacc, hR => by
    have hk : k < xs.size := by omega
    have sN : S ≠ z ∧ S ≠ ti ∧ S ≠ i1 ∧ S ≠ i2 ∧ S ≠ a1 ∧ S ≠ a2 := by simpa using hS
    have ex : xs[k]? = some xs[k] := Array.getElem?_eq_getElem hk
    have ey : ys[k]? = some (ys[k]'(by omega)) := Array.getElem?_eq_getElem _
    refine codeAny_builtin F.entry_extend_loop ?_
    rw [Around.under_plainId F.plain_extend_loop _]
    show wpAny _ A.in1 (pyNext (.ref z) >>= _) _ _ s
    refine wpAny_bind (next_on D Z ex ey fun h1 z1 v1 v2 pr sz kp => ?_)
    have gS1 := kp _ _ sN.1 sN.2.2.1 sN.2.2.2.1 gS
    show wpAny _ A.in1 (updateSeq S (·.push (.ref s.heap.objs.size)) >>= _) _ _ _
    refine wpAny_bind ?_
    have lt : ∀ {b : Addr} {o : Obj}, s.heap.get? b = some o → s.heap.objs.size ≠ b := fun q => Nat.ne_of_gt (Heap.lt_size q)
    have nN : s.heap.objs.size ∉ [S, z, i1, i2] := by
      obtain ⟨_, q1, _⟩ := Z.u1
      obtain ⟨_, q2, _⟩ := Z.u2
      simp only [List.mem_cons, List.not_mem_nil, or_false, not_or]
      exact ⟨lt gS, lt Z.z, lt q1, lt q2⟩
    have nTT : T ≠ S ∧ T ≠ z ∧ T ≠ i1 ∧ T ≠ i2 := by simpa using nT
    have up : ∀ b o, b ≠ S → h1.get? b = some o → (h1.update S (Obj.mapSeq (·.push (.ref s.heap.objs.size)))).get? b = some o := fun b o hb q => (Heap.get?_update_other _ _ (Ne.symm hb)).trans q
    have kpA : ∀ b o, b ∉ [S, z, i1, i2] → s.heap.get? b = some o → (h1.update S (Obj.mapSeq (·.push (.ref s.heap.objs.size)))).get? b = some o := fun b o hb q => by
      simp only [List.mem_cons, List.not_mem_nil, or_false, not_or] at hb
      exact up b o hb.1 (kp b o hb.2.1 hb.2.2.1 hb.2.2.2 q)
    refine wpAny_updateSeq gS1 rfl (wpAny_pure ⟨plainId_quiet F.plain_extend_loop _, fill hh D hS res hn hxy m (k + 1) _ (acc.push (.ref s.heap.objs.size)) _ T true (by show base ≤ (h1.update S _).objs.size; rw [Heap.size_update]; omega) (by omega) ?_ nT (Heap.get?_update_self _ gS1 rfl) (Acc.push (hacc.keep kpA) ex ey (up _ _ (lt gS) pr) nN hbs hacc.old) fun h' acc' c' kp' g' ha' => ?_⟩)
      (by rw [hacc.n]; omega) (by show (acc.push _).size ≤ sizeLine + 1; rw [Array.size_push, hacc.n]; omega)
    · refine ⟨up _ _ sN.1.symm z1, ?_, up _ _ sN.2.1.symm (kp _ _ D.TIz D.TIi1 D.TIi2 Z.p), v1.at fun o q => up _ _ sN.2.2.1.symm q, v2.at fun o q => up _ _ sN.2.2.2.1.symm q, Z.l1.at fun o q => up _ _ sN.2.2.2.2.1.symm (kp _ _ D.l1z D.l1i1 D.l1i2 q), Z.l2.at fun o q => up _ _ sN.2.2.2.2.2.symm (kp _ _ D.l2z D.l2i1 D.l2i2 q)⟩
      obtain ⟨oT, gT⟩ := Z.t
      exact ⟨oT, up _ _ nTT.1 (kp _ _ nTT.2.1 nTT.2.2.1 nTT.2.2.2 gT)⟩
    · exact hR h' acc' c' (fun b o hb q => kp' b o hb (kpA b o hb q)) g' ha'
structure Z0 (h : Heap) (z ti to i1 i2 a1 a2 : Addr) (xs ys : Array Value) : Prop where
  z : IsZip h z ti to .none
  p : IsPair h ti (.ref i1) (.ref i2)
  o : ∃ a b, IsPair h to a b
  u1 : h.IsTupleIter i1 a1 0
  u2 : h.IsTupleIter i2 a2 0
  l1 : h.IsTuple a1 xs
  l2 : h.IsTuple a2 ys
theorem Z0.keep {h h' : Heap} (Z : Z0 h z ti to i1 i2 a1 a2 xs ys) (k : ∀ b, b ∈ [z, ti, to, i1, i2, a1, a2] → ∀ o, h.get? b = some o → h'.get? b = some o) : Z0 h' z ti to i1 i2 a1 a2 xs ys := by
  obtain ⟨a, b, ho⟩ := Z.o
  exact ⟨k _ (by simp) _ Z.z, k _ (by simp) _ Z.p, ⟨a, b, k _ (by simp) _ ho⟩, Z.u1.at fun o e => k _ (by simp) o e, Z.u2.at fun o e => k _ (by simp) o e, Z.l1.at fun o e => k _ (by simp) o e, Z.l2.at fun o e => k _ (by simp) o e⟩
theorem fill0 (hh : A.in1.handled = none) (D : ZipApart z ti to i1 i2 a1 a2) (hS : S ∉ [z, ti, to, i1, i2, a1, a2]) (res : Value) (hn : xs.size ≤ sizeLine) (hxy : xs.size = ys.size) (h0 : 0 < xs.size) {c : Nat} (hbs : base ≤ s.heap.objs.size) (Z : Z0 s.heap z ti to i1 i2 a1 a2 xs ys)
    (gS : s.heap.get? S = some { cls := .type "list", dict := none, data := .seq #[] c, slots := #[] })
    (hR : ∀ h' acc' c', (∀ b o, b ∉ [S, z, to, i1, i2] → s.heap.get? b = some o → h'.get? b = some o) → h'.get? S = some { cls := .type "list", dict := none, data := .seq acc' c', slots := #[] } → Acc h' acc' xs ys xs.size [S, z, i1, i2] base → R (.ok (.ret res)) { s with heap := h' }) :
    codeAny (model prog w) A (.builtin "list.extend.loop" ⟨[.ref S, .ref z, res], []⟩) R s := by
  have sN : S ≠ z ∧ S ≠ ti ∧ S ≠ to ∧ S ≠ i1 ∧ S ≠ i2 ∧ S ≠ a1 ∧ S ≠ a2 := by simpa using hS
  have ex : xs[0]? = some xs[0] := Array.getElem?_eq_getElem h0
  have ey : ys[0]? = some (ys[0]'(by omega)) := Array.getElem?_eq_getElem _
  obtain ⟨p, q, ho⟩ := Z.o
  refine codeAny_builtin F.entry_extend_loop ?_
  rw [Around.under_plainId F.plain_extend_loop _]
  show wpAny _ A.in1 (pyNext (.ref z) >>= _) _ _ s
  refine wpAny_bind (RZ.pyNext_zipT_item D Z.z Z.p ho Z.u1 Z.u2 Z.l1 Z.l2 ex ey fun h1 z1 _ v1 v2 pr sz kp => ?_)
  have gS1 := kp _ _ sN.1 sN.2.2.1 sN.2.2.2.1 sN.2.2.2.2.1 gS
  show wpAny _ A.in1 (updateSeq S (·.push (.ref s.heap.objs.size)) >>= _) _ _ _
  refine wpAny_bind ?_
  have lt : ∀ {b : Addr} {o : Obj}, s.heap.get? b = some o → s.heap.objs.size ≠ b := fun q => Nat.ne_of_gt (Heap.lt_size q)
  have nN : s.heap.objs.size ∉ [S, z, i1, i2] := by
    obtain ⟨_, q1, _⟩ := Z.u1
    obtain ⟨_, q2, _⟩ := Z.u2
    simp only [List.mem_cons, List.not_mem_nil, or_false, not_or]
    exact ⟨lt gS, lt Z.z, lt q1, lt q2⟩
  have up : ∀ b o, b ≠ S → h1.get? b = some o → (h1.update S (Obj.mapSeq (·.push (.ref s.heap.objs.size)))).get? b = some o := fun b o hb q => (Heap.get?_update_other _ _ (Ne.symm hb)).trans q
  have ac : Acc (h1.update S (Obj.mapSeq (·.push (.ref s.heap.objs.size)))) ((#[] : Array Value).push (.ref s.heap.objs.size)) xs ys (0 + 1) [S, z, i1, i2] base :=
    Acc.push ⟨rfl, fun j hj => absurd hj (Nat.not_lt_zero j), List.nodup_nil⟩ ex ey (up _ _ (lt gS) pr) nN hbs (by simp)
  refine wpAny_updateSeq gS1 rfl (wpAny_pure ⟨plainId_quiet F.plain_extend_loop _, fill hh D (by simp only [List.mem_cons, List.not_mem_nil, or_false, not_or]; exact ⟨sN.1, sN.2.1, sN.2.2.2.1, sN.2.2.2.2.1, sN.2.2.2.2.2.1, sN.2.2.2.2.2.2⟩) res hn hxy (xs.size - 1) 1 _ _ _ s.heap.objs.size false (by show base ≤ (h1.update S _).objs.size; rw [Heap.size_update]; omega) (by omega) ?_ nN (Heap.get?_update_self _ gS1 rfl) ac fun h' acc' c' kp' g' ha' => ?_⟩)
    (by show (0 : Nat) ≤ sizeLine; omega) (by show (1 : Nat) ≤ sizeLine + 1; omega)
  · exact ⟨up _ _ sN.1.symm z1, ⟨_, up _ _ (lt gS) pr⟩, up _ _ sN.2.1.symm (kp _ _ D.TIz D.TITO D.TIi1 D.TIi2 Z.p), v1.at fun o q => up _ _ sN.2.2.2.1.symm q, v2.at fun o q => up _ _ sN.2.2.2.2.1.symm q, Z.l1.at fun o q => up _ _ sN.2.2.2.2.2.1.symm (kp _ _ D.l1z D.l1TO D.l1i1 D.l1i2 q), Z.l2.at fun o q => up _ _ sN.2.2.2.2.2.2.symm (kp _ _ D.l2z D.l2TO D.l2i1 D.l2i2 q)⟩
  · refine hR h' acc' c' (fun b o hb q => ?_) g' ha'
    simp only [List.mem_cons, List.not_mem_nil, or_false, not_or] at hb
    exact kp' b o (by simp only [List.mem_cons, List.not_mem_nil, or_false, not_or]; exact ⟨hb.1, hb.2.1, hb.2.2.2.1, hb.2.2.2.2⟩) (up b o hb.1 (kp b o hb.2.1 hb.2.2.1 hb.2.2.2.1 hb.2.2.2.2 q))
theorem zip_no_len : typeLookup (.type "zip") "__len__" = pure none := by rw [typeLookup_type, builtinLookup_eq_fast]; kernel_rfl
theorem zip_no_hint : typeLookup (.type "zip") "__length_hint__" = pure none := by rw [typeLookup_type, builtinLookup_eq_fast]; kernel_rfl
theorem grow (hh : A.handled = none) (D : ZipApart z ti to i1 i2 a1 a2) (hS : S ∉ [z, ti, to, i1, i2, a1, a2]) (res : Value) (hn : xs.size ≤ sizeLine) (hxy : xs.size = ys.size) (h0 : 0 < xs.size) {c : Nat} (hbs : base ≤ s.heap.objs.size) (Z : Z0 s.heap z ti to i1 i2 a1 a2 xs ys)
    (gS : s.heap.get? S = some { cls := .type "list", data := .seq #[] c })
    (hR : ∀ h' acc' c', (∀ b o, b ∉ [S, z, to, i1, i2] → s.heap.get? b = some o → h'.get? b = some o) → h'.get? S = some { cls := .type "list", dict := none, data := .seq acc' c', slots := #[] } → Acc h' acc' xs ys xs.size [S, z, i1, i2] base → R (.ok (.ret res)) { s with heap := h' }) :
    wpAny (model prog w) A.in1 (Builtin.List.listExtendWith (.ref S) (.ref z) res)
      (fun fin s' => match fin with | .done f => R (.ok f) s' | .again c' => c'.quiet = true ∧ codeAny (model prog w) A c' R s') (fun e s' => R (.error e) s') s := by
  have sz : S ≠ z := by simp at hS; exact hS.1
  have ty : ∀ h : Heap, IsZip h z ti to .none → ({ s with heap := h } : Shared).TypeIs (.ref z) "zip" := fun h q => ⟨_, q, rfl⟩
  have go : ∀ (h : Heap) (c : Nat), base ≤ h.objs.size → (∀ b o, b ≠ S → s.heap.get? b = some o → h.get? b = some o) → h.get? S = some { cls := .type "list", data := .seq #[] c } → codeAny (model prog w) A (.builtin "list.extend.loop" ⟨[.ref S, .ref z, res], []⟩) R { s with heap := h } := fun h c hb0 k g =>
    fill0 hh D hS res hn hxy h0 hb0 (Z.keep fun b hb o e => k b o (fun q => hS (by rw [← q]; exact hb)) e) g fun h' acc' c' kp g' ha => hR h' acc' c' (fun b o hb e => kp b o hb (k b o (fun q => hb (by rw [q]; exact List.mem_cons_self)) e)) g' ha
  unfold Builtin.List.listExtendWith
  refine wpAny_bind (wpAny_typeOf (ty _ Z.z) ?_)
  have e1 : Builtin.List.listSameRef (.ref S) (.ref z) = false := by simp [Builtin.List.listSameRef, sz]
  have e2 : (Value.type "zip" == Value.type "list") = false := by decide
  have e3 : (Value.type "zip" == Value.type "tuple") = false := by decide
  simp only [e1, e2, e3, Bool.or_false, Bool.false_eq_true, if_false]
  refine wpAny_bind (wpAny_pyIter_zip Z.z (wpAny_bind (wpAny_holding ?_)))
  unfold Builtin.List.listLengthHint
  refine wpAny_bind (wpAny_specialOf (ty _ Z.z) zip_no_len ?_)
  show wpAny _ A.in1 (specialOf (Value.ref z) (Str.ofString "__length_hint__") >>= _) _ _ s
  refine wpAny_bind (wpAny_specialOf (ty _ Z.z) zip_no_hint (wpAny_pure ?_))
  refine wpAny_ite_split (fun _ => ?_) (fun _ => wpAny_pure ⟨plainId_quiet F.plain_extend_loop _, go _ _ hbs (fun _ _ _ e => e) gS⟩)
  refine wpAny_bind (wpAny_rule (wpAny_bind ?_))
  show wpAny _ _ (updateSeq S (·.push .none) >>= fun _ => updateSeq S (·.pop)) _ _ s
  refine wpAny_bind (wpAny_updateSeq gS rfl ?_)
  have g2 := Heap.get?_update_self (Obj.mapSeq (·.push Value.none)) gS rfl
  refine wpAny_updateSeq (hz := by seq_fits) g2 rfl (wpAny_pure ⟨plainId_quiet F.plain_extend_loop _, go _ _ (by rw [Heap.size_update, Heap.size_update]; exact hbs) (fun b o hb e => ?_) (Heap.get?_update_self (Obj.mapSeq (·.pop)) g2 rfl)⟩)
  exact (Heap.get?_update_other _ _ (Ne.symm hb)).trans ((Heap.get?_update_other _ _ (Ne.symm hb)).trans e)
end ZL
set_option linter.all false
set_option Elab.async false
set_option maxRecDepth 100000
namespace TW
open PySem PySem.Spec PyProof.Rows L2
section
variable {P : Addr → Prop} {G G' : Gh} {σ : L2.St} {H H' : Hp} {s s' : Sx} {v : V} {o : Opd} {W : Wish} {X : Cx} {k : Nat}
end
end TW
set_option linter.all false
set_option Elab.async false
set_option maxRecDepth 100000
namespace TW
open PySem PySem.Spec PyProof.Rows L2
section
variable {P : Addr → Prop} {G G' : Gh} {σ : L2.St} {H H' : Hp} {s s' : Sx} {v : V} {o : Opd} {W : Wish} {X : Cx} {k : Nat} {e : Expr} {ta : TA} {p p2 pos pos2 : Pos}
end
end TW
set_option linter.all false
set_option Elab.async false
set_option maxRecDepth 100000
namespace TW
open PySem PySem.Spec PyProof.Rows L2
section
variable {X : Cx} {pins : List (Addr × Obj)} {σ : L2.St} {H : Hp} {s : Shared} {d : Addr} {o : Obj}
end
section
variable {P : Program} {w : World} {K : PySem.W.Frag} {d : Addr} {o : Obj} {es : Array DictEntry} {ep : Nat}
end
section
variable {X : Cx} {tg e : Expr} {td : TE} {apos cpos : Pos}
end
section
variable {P : Addr → Prop} {G G' : Gh} {σ : L2.St} {H H' : Hp} {s s' : Sx} {v : V} {o : Opd} {W : Wish} {X : Cx} {k : Nat} {tg : Expr}
theorem FzT.get {F : Addr → Prop} : ∀ {ks : List (List Key × V)} {ds : List (PyData × PyData)} {i : Nat} {p : PyData × PyData}, FzT F H ks ds → ds[i]? = some p → ∃ k v, ks[i]? = some (k, v) ∧ p.1 = tupD k ∧ Fz F H v p.2
  | _, _, _, _, .nil, e => by simp at e
  | _, _, 0, _, .cons a b, e => by
    simp at e
    subst e
    exact ⟨_, _, rfl, rfl, a⟩
  | _, _, i + 1, _, .cons a b, e => by
    obtain ⟨k, v, h1, h2⟩ := FzT.get (i := i) b (by simpa using e)
    exact ⟨k, v, by simpa using h1, h2⟩
end
end TW
set_option linter.all false
set_option Elab.async false
namespace TW
open PySem PySem.Spec PyProof.Rows L2
def IsO (e : M Opd) (s : Sx) (d : PyData) : Prop := ∃ o, e s = .ok (o, s) ∧ peek o s = .ok (d, s) ∧ take o s = .ok (d, s)
section
variable {s : Sx} {d x y z : PyData} {ds : List PyData} {i : Nat} {e a b : M Opd} {r : M (List Opd)}
variable {Q : Fl → Sx → Prop} {E : Er → Prop}
end
end TW
set_option linter.all false
set_option Elab.async false
set_option maxRecDepth 100000
namespace TW
open PySem PySem.Spec PyProof.Rows L2
section
variable {X : Cx} {k : Nat} {WW : WX}
end
end TW
set_option linter.all false
set_option Elab.async false
set_option maxRecDepth 100000
namespace TW
open PySem PySem.Spec PyProof.Rows L2
abbrev SuT : Type := Addr → Value → Option Addr → TS
def endsI (i : Nat) (D : Ends) : Ends := { nx := fun σ' H' => D.nx (σ'.set i none) H', rt := D.rt, bk := fun σ' H' => D.bk (σ'.set i none) H', ct := fun σ' H' => D.ct (σ'.set i none) H' }
def wCl (K : PySem.W.Frag) (i : Nat) (D : Ends) : List (Value × SuT) → WX
  | [] => fun _ _ _ _ => False
  | q :: r => fun cls d σ H => ∃ b, PySem.W.exmOne K cls q.1 = some b ∧ if b = true then ∀ a, H a = none → q.2 a cls d (endsI i D) (σ.set i (some (.ref a))) H else wCl K i D r cls d σ H
inductive ClOk (X : Cx) (n : Str) : List ExceptHandler → List (Value × SuT) → Prop
  | nil : ClOk X n [] []
  | cons {x : Str} {c : Value} {ts : SuT} {st : Stmt} {sts : List Stmt} {p1 p2 : Pos} {hds : List ExceptHandler} {l : List (Value × SuT)} : Names X x c →
      (∀ a oe cls d pn, Zc cls d oe → (∃ vs, oe.data = .fields vs) → PSs (X.suite a ((a, oe) :: pn)) (st :: sts) (ts a cls d)) → ClOk X n hds l → ClOk X n (.ExceptHandler (some (.Name x p1)) (some n) (st :: sts) p2 :: hds) ((c, ts) :: l)
section
variable {X : Cx} {n : Str} {i : Nat}
structure Held (X : Cx) (pins : List (Addr × Obj)) (σ : L2.St) (H : Hp) (a : Addr) (cls : Value) (d : Option Addr) (B : Heap) (h : Heap) (s : Shared) : Prop where
  fly : HandSPX.FlyingZ B (X.env :: X.outer) a (Zc cls d) h
  inv : ∀ h', B.StaysIn h' → h.UpToSlots h' → L2.Inv X pins σ H { s with heap := h' }
  na : H a = none
  nL : a ≠ X.env.locals
  nF : a ∉ X.fs
theorem UpTo.self (h : Heap) : h.UpToSlots h := Heap.UpToSlots.refl _
theorem look_cl {pins : List (Addr × Obj)} {a : Addr} {cls : Value} {d : Option Addr} {B : Heap} {D : Ends} (nd : X.N.Nodup) (hi : X.N[i]? = some n) (hl : X.env.kindOf n = some .local) {hds : List ExceptHandler} {l : List (Value × SuT)} (ok : ClOk X n hds l) :
    ∀ {σ : L2.St} {H : Hp} {h : Heap} {s : Shared}, X.Ok → Held X pins σ H a cls d B h s → wCl X.K i D l cls d σ H →
      wpAny (model X.prog X.w) X.A (handleBy (.ref a) X.env hds) (SP X pins D) X.xe { s with heap := h } := by
  induction ok with
  | nil => exact fun _ _ w => w.elim
  | @cons x c ts st sts p1 p2 hds l nm su _ ih =>
    intro σ H h s xok C w
    obtain ⟨b, eb, w⟩ := w
    have I := C.inv h C.fly.1 (UpTo.self h)
    obtain ⟨oe, vs, ho, hz, hf⟩ := C.fly.there
    have IS := I.suite ho hf C.na C.nL C.nF
    refine wpAny_handleBy_cons (codeAny_handlers_test ?_) (fun q => nomatch q)
    have ty : PySem.W.Looks (model X.prog X.w) h (typeOf (.ref a)) cls := fun A Q E s' k q => wpAny_typeOf_ref (k _ _ ho) (by rw [hz.1]; exact q)
    have ex := PySem.W.exm_one (M := model X.prog X.w) I.kIn ty eb
    have named : ∀ {Q E : Value → Shared → Prop}, Q c { s with heap := h } → wpAny (model X.prog X.w) (X.A.mark (some (.ref a))) (eval (.Name x p1) X.env) Q E { s with heap := h } := by
      intro Q E q
      rcases nm with ⟨g1, g2, g3 | ⟨g3, g4, g5⟩⟩
      · exact ld_glob (X := X.suite a ((a, oe) :: (X.pn ++ pins))) IS g1 g3 q g2
      · exact ld_blt (X := X.suite a ((a, oe) :: (X.pn ++ pins))) IS g1 g3 g4 q g5 g2
    refine named (ex.here ?_)
    cases b with
    | false =>
      rw [if_neg (by decide)] at w
      exact ih xok C w
    | true =>
      rw [if_pos rfl] at w
      refine codeAny_handlers_suite_as (HandSPX.lands_againZ C.fly fun h2 f2 u2 => ?_)
      have J := C.inv h2 f2.1 u2
      obtain ⟨oe2, vs2, ho2, hz2, hf2⟩ := f2.there
      have JS := J.suite ho2 hf2 C.na C.nL C.nF
      refine store_ok (X := X.suite a ((a, oe2) :: (X.pn ++ pins))) (v := .ref a) JS nd hi (.inl hl) rfl (fun s5 S5 => ?_) (.inr hl)
      refine wpAny_mono ((su a oe2 cls d (X.pn ++ pins) hz2 ⟨_, hf2⟩).run [] s5 _ H _ S5 (w a C.na)) (fun f s6 r => ?_) fun _ _ z => z.elim
      have bye : ∀ {σ6 : L2.St} {H6 : Hp} {Q : Shared → Prop}, L2.Inv (X.suite a ((a, oe2) :: (X.pn ++ pins))) [] σ6 H6 s6 → (∀ s7, L2.Inv X pins (σ6.set i none) H6 s7 → Q s7) → wpAny (model X.prog X.w) X.A (do bindName X.env n .none; unbindBehindTheSuite X.env n p2) (fun _ s7 => Q s7) X.xe s6 :=
        fun S q => gone_ok (S.unsuite xok) nd hi hl q
      cases f with
      | ret u => exact let ⟨_, _, _, S, rv, q⟩ := r; bye S fun s7 J7 => ⟨_, _, _, J7, rv, q⟩
      | next => exact let ⟨_, _, S, q⟩ := r; bye S fun s7 J7 => ⟨_, _, J7, q⟩
      | brk => exact let ⟨_, _, S, q⟩ := r; bye S fun s7 J7 => ⟨_, _, J7, q⟩
      | cont => exact let ⟨_, _, S, q⟩ := r; bye S fun s7 J7 => ⟨_, _, J7, q⟩
theorem no_frame {B h : Heap} {a : Addr} {o : Obj} {vs : Array Value} {l : List Env} (ff : h.FunFrames B l) (e : h.get? a = some o) (d : o.data = .fields vs) : a ∉ frs l := fun m => by
  obtain ⟨_, o', e', nf⟩ := ff.mem m
  cases e.symm.trans e'
  exact nf _ d
theorem ps_tryM {body : List Stmt} {h₀ : ExceptHandler} {hds : List ExceptHandler} {l : List (Value × SuT)} {pos : Pos} {tb : WX → TS} (hs : X.stack = X.env :: X.outer) (hf : X.env.frame = some X.env.locals) (nd : X.N.Nodup) (hi : X.N[i]? = some n) (hl : X.env.kindOf n = some .local)
    (hb : ∀ (W : WX) (pn : List (Addr × Obj)) (xe : Value → Shared → Prop), Takes (X.tr pn xe) W → PassesOwn (model X.prog X.w) X.A X.env xe → PSs (X.tr pn xe) body (tb W)) (ok : ClOk X n (h₀ :: hds) l) :
    PS X (.Try body (h₀ :: hds) [] [] pos) (fun D σ H => tb (wCl X.K i D l) D σ H) := by
  constructor
  intro pins s σ H D I h
  have xok := I.ok
  have fr : X.A.frames = some (X.env :: X.outer) := xok.frames.trans (by rw [hs])
  refine wpAny_Try_except (wpAny_mono ((hb (wCl X.K i D l) (X.pn ++ pins) (fun e s₁ => wpAny (model X.prog X.w) X.A (noteFrame e X.env) (fun _ s₂ => wpAny (model X.prog X.w) X.A (setFlight e none) (fun _ s₃ =>
    wpAny (model X.prog X.w) X.A (handleBy e X.env (h₀ :: hds)) (SP X pins D) X.xe s₃) X.xe s₂) X.xe s₁) ?_ PassesOwn.looking).run [] s σ H D (I.toTry _) h) ?_ fun _ _ z => z)
  · rintro u s1 ⟨a, B, sI, pins1, σ1, H1, cls, d, rfl, J1, nb, up, sky, na, os, ag, w⟩
    have J := J1.ofTry xok
    have sky1 : Sky B (X.env :: X.outer) a (Zc cls d) X.env.locals s1.heap := hs ▸ sky
    show wpAny (model X.prog X.w) X.A (noteFrame (.ref a) X.env) _ _ _
    refine Sky.land Zc.steady fr hf sky1 fun h3 fl3 up3 => ?_
    obtain ⟨oe, vs, ho, hz, hd⟩ := fl3.there
    have nfr := no_frame fl3.2.2.1 ho hd
    have inF : ∀ b ∈ X.fs, b ∈ frs (X.env :: X.outer) := fun b hm => by
      obtain ⟨e, he, q⟩ := List.mem_filterMap.mp hm
      exact List.mem_filterMap.mpr ⟨e, List.mem_cons_of_mem _ he, q⟩
    refine look_cl nd hi hl ok (s := s1) xok ⟨fl3, fun h' st u' => J.landed nb st ((up.trans up3).trans u') os ag, na, fun z => ?_, fun z => nfr (inF _ z)⟩ w
    exact nfr (List.mem_filterMap.mpr ⟨X.env, by simp, by rw [hf, z]⟩)
  · intro f s1 r
    cases f with
    | ret u => exact let ⟨_, _, _, J, rv, q⟩ := r; ⟨_, _, _, J.ofTry xok, rv, q⟩
    | next => exact let ⟨_, _, J, q⟩ := r; wpAny_execs_nil ⟨_, _, J.ofTry xok, q⟩
    | brk => exact let ⟨_, _, J, q⟩ := r; ⟨_, _, J.ofTry xok, q⟩
    | cont => exact let ⟨_, _, J, q⟩ := r; ⟨_, _, J.ofTry xok, q⟩
end
end TW
set_option linter.all false
set_option Elab.async false
set_option maxRecDepth 100000
namespace TW
open PySem PySem.Spec PyProof.Rows L2
def hideV : SV → SV
  | .own _ => .no
  | x => x
def lamM (m : M Opd) (r : List SV) (b : Option Bx) : Except Er (PyData × Option Bx) := match (do let o ← m; take o : M PyData) ⟨r.map hideV, b⟩ with
  | .ok (d, s') => .ok (d, s'.b)
  | .error e => .error e
abbrev Clz := List ((Str → Option Bool) × (Str → Fs → M Fl))
def clzF (n : Nat) : Clz → Str → Fs → Option Bx → Except Er (PyData × Option Bx)
  | [], _, _, _ => .error .stuck
  | (t, hd) :: r, c, fs, b => match t c with
    | some true => (match hd c fs ⟨List.replicate n .no, b⟩ with
      | .ok (.rt d, s') => .ok (d, s'.b)
      | _ => .error .stuck)
    | some false => clzF n r c fs b
    | none => .error .stuck
inductive Wr where
  | bare
  | told (x : Str)
def Wr.d : Wr → PyData → PyData
  | .bare, d => d
  | .told x, d => .tuple [.str x, d]
def eAsk (wr : Wr) (n : Nat) (cl : Clz) (m : M Opd) : M Opd := fun s => match lamM m s.r s.b with
  | .ok (d, b) => .ok (.val (wr.d d), ⟨s.r, b⟩)
  | .error .stuck => .error .stuck
  | .error (.exc c fs _ b) => match clzF n cl c fs b with
    | .ok (d, b') => .ok (.val d, ⟨s.r, b'⟩)
    | .error _ => .error .stuck
theorem takes_len {X : Cx} {W : WX} (t : Takes X W) : Takes X (fun cls d σ H => σ.length = X.N.length → W cls d σ H) := fun u s' ⟨a, B, sI, pins, σ, H, cls, d, e, I, nb, up, sky, na, os, ag, w⟩ =>
  t u s' ⟨a, B, sI, pins, σ, H, cls, d, e, I, nb, up, sky, na, os, ag, w I.len⟩
inductive ClzOk (X : Cx) (n : Str) (i : Nat) : List ExceptHandler → Clz → Prop
  | nil : ClzOk X n i [] []
  | cons {x : Str} {cb : Value} {t : Str → Option Bool} {hd : Str → Fs → M Fl} {st : Stmt} {sts : List Stmt} {p1 p2 : Pos} {hds : List ExceptHandler} {cl : Clz} : Names X x cb → (∀ c b, t c = some b → ∃ cls, X.mg c = some cls ∧ PySem.W.exmOne X.K cls cb = some b) →
      SXB X i (st :: sts) hd → ClzOk X n i hds cl → ClzOk X n i (.ExceptHandler (some (.Name x p1)) (some n) (st :: sts) p2 :: hds) ((t, hd) :: cl)
theorem GB.bare {G : Gh} {H : Hp} {b : Option Bx} (g : GB G H b) {n : Nat} {σ : L2.St} (h : σ.length = n) : Rel (prot G H) G σ H ⟨List.replicate n .no, b⟩ := by
  have no : ∀ {i : Nat} {x : SV}, (List.replicate n SV.no)[i]? = some x → x = .no := fun {i x} e => by
    rw [List.getElem?_replicate] at e
    split at e
    · exact (Option.some.inj e).symm
    · cases e
  exact ⟨by rw [h, List.length_replicate], fun i d e => (by cases no e), fun i d e => (by cases no e), fun i j d e _ h _ => (by cases no h), fun i e => (by cases no e), g.bx, g.nb, g.fr, fun a h => h.1, fun a h => ⟨(g.bF a h).1, fun z => z.2.1 h, (g.bF a h).2⟩, ⟨g.tb.t, fun a h => ⟨(g.tb.n a h).1, fun z => z.2.2 h⟩⟩⟩
section
variable {X : Cx} {n : Str} {i N : Nat}
theorem clz_go {hds : List ExceptHandler} {cl : Clz} (ok : ClzOk X n i hds cl) (hi : i < N) : ∃ L, ClOk X n hds L ∧ ∀ {c : Str} {fs : Fs} {b b' : Option Bx} {y : PyData} {cls : Value} {d : Option Addr} {P0 : Addr → Prop} {G : Gh} {σ : L2.St} {H : Hp} {Q : VK} {D : Ends},
    clzF N cl c fs b = .ok (y, b') → GB G H b → XAt X.mg P0 G H c fs cls d → σ.length = N → D.rt = Q → (∀ G' v H', Ext (prot G H) G H G' H' → GB G' H' b' → Fz G'.F H' v y → Q v H') → wCl X.K i D L cls d σ H := by
  induction ok with
  | nil => exact ⟨[], .nil, fun h => by cases h⟩
  | @cons x cb t hd st sts p1 p2 hds cl nm tt su _ ih =>
    obtain ⟨L, hL, go⟩ := ih
    obtain ⟨ts, ps, zs⟩ := su.ex
    refine ⟨(cb, ts) :: L, .cons nm ps hL, ?_⟩
    intro c fs b b' y cls d P0 G σ H Q D h g z hl hr q
    unfold clzF at h
    cases ht : t c with
    | none => rw [ht] at h; cases h
    | some bb =>
      obtain ⟨cls', e1, e2⟩ := tt c bb ht
      have e3 := z.c
      rw [e1] at e3
      cases e3
      rw [ht] at h
      refine ⟨bb, e2, ?_⟩
      cases bb with
      | false => exact go h g z hl hr q
      | true =>
        rw [if_pos rfl]
        intro a na
        have h : (match hd c fs ⟨List.replicate N .no, b⟩ with
          | .ok (.rt d, s') => .ok (d, s'.b)
          | _ => .error .stuck) = Except.ok (ε := Er) (y, b') := h
        have R := g.bare (n := N) (σ := σ.set i (some (V.ref a))) (by rw [List.length_set, hl])
        refine zs a cls d c fs (prot G H) G _ H _ _ ⟨by rw [List.getElem?_set_self (by omega)], z.c, z.d.imp id fun ⟨dd, vs, k1, k2, k3, k4⟩ => ⟨dd, vs, k1, ⟨by rw [k2]; simp, k3.2.2, g.tb.not (by rw [k2]; exact calm_xd)⟩, k2, k4⟩⟩ R ?_
        unfold pw
        cases hh : hd c fs ⟨List.replicate N .no, b⟩ with
        | error e => rw [hh] at h; cases h
        | ok p =>
          obtain ⟨fl, s'⟩ := p
          rw [hh] at h
          cases fl with
          | nx => cases h
          | bk => cases h
          | ct => cases h
          | rt d' =>
            cases h
            intro G' σ' v H' x' R' fz
            show D.rt v H'
            rw [hr]
            exact q G' v H' x' R'.gb fz
end
section
variable {X : Cx} {pins : List (Addr × Obj)} {σ : L2.St} {H : Hp} {s : Shared}
abbrev cxG (X : Cx) (Ng : List Str) (qg : Str) (sg : Scope) (g : Addr) (cdg : Value) (s : Shared) (H : Hp) : Cx := cxOf CX0 X.prog X.w X.K X.mg X.base Ng qg sg g cdg X.A X.stack s H E0
theorem pe_asked {Ng : List Str} {qg : Str} {sg : Scope} {g f c' : Addr} {cdg pm ctv : Value} {params : Arguments} {body : Expr} {scope : Scope} {k i : Nat} {a : Str} {pn : List (Addr × Obj)} {xe : Value → Shared → Prop} {W : WX} {E : XK} {tb : TE} {p1 p2 : Pos}
    (I : L2.Inv X pins σ H s) (L : LamX.LamS X.env.scope scope) (hf : s.heap.get? f = some (PySem.W.kla_obj "<lambda>" (X.env.qual ++ "<lambda>") params body scope (cloFrom X.env.cells scope.names []) pm c' ctv)) (hfn : H f = none) (hfr : f ∉ frs X.stack)
    (hbind : bindArgs (PySem.W.kla_fn "<lambda>" (X.env.qual ++ "<lambda>") params body scope (cloFrom X.env.cells scope.names []) pm (.ref c') ctv) ⟨[], []⟩ = pure [])
    (tk : Takes ((cxG X Ng qg sg g cdg s H).tr pn xe) W) (hW : ∀ cls d σ' H', σ'.length = Ng.length → E cls d H' → W cls d σ' H') (hr : Room (k + 1) (X.A.deeper (envOfC qg sg s.heap.objs.size g cdg))) (hgd : X.A.guards = some [])
    (hbody : ∀ (A : Around) (outer : List Env) (s : Shared) (H : Hp), A.guards = some [] → Room k (A.deeper (LamX.lamEnv X scope s.heap.objs.size f c')) → PE (LamX.lamCx X A outer s H E scope f c') body tb)
    (hN : Ng[i]? = some a) (hv : Vis sg a) (hd : (a == ("__debug__" : Str)) = false := by decide) (hcd : (a == ("__classdict__" : Str)) = false := by decide) :
    PE ((cxG X Ng qg sg g cdg s H).tr pn xe) (.Call (.Name a p1) [] [] p2)
      (fun σZ HZ Q => σZ[i]? = some (some (.ref f)) ∧ HZ c' = some (LamX.CodeO c' (X.env.qual ++ "<lambda>")) ∧ tb σ HZ Q) := by
  constructor
  intro pinsZ sZ σZ HZ Q IZ ⟨hs, hc, ht⟩
  have name := (pe_var (pos := p1) (i := i) (X := (cxG X Ng qg sg g cdg s H).tr pn xe) hN hv hd hcd).run pinsZ sZ σZ HZ (fun v H1 => v = .ref f ∧ H1 = HZ) IZ ⟨.ref f, hs, rfl, rfl⟩
  refine wpAny_Call_Name_kw (thn name fun u s1 q1 => ?_)
  obtain ⟨v, H1, J1, rv, rfl, rfl⟩ := q1
  cases (show u = Value.ref f from rv)
  have fat := J1.base.keep f _ hf hfn hfr (by exact fun z => by cases z)
  refine PySem.W.callWith_F0 ⟨_, _, _, _, fat⟩ ?_
  obtain ⟨oc, vs, t, o1, o2, o3⟩ := (J1.hok c' _ hc).1
  have run : codeAny (model X.prog X.w) (X.A.deeper (envOfC qg sg s.heap.objs.size g cdg)) (.call (.ref f) ⟨[], []⟩) (CR (L2.CX X.prog X.w) (envOfC qg sg s.heap.objs.size g cdg :: X.stack) X.prog X.w H1 s1 Q E) s1 := by
    refine PySem.W.kla_callFunE hr.depth fat rfl L.co L.gen rfl ⟨c', oc, vs, t, rfl, o1, o2, o3⟩ ?_
    rw [hbind]
    refine wpAny_pure (wpAny_newFunctionEnv (fun y hy => (L.own y hy).2) (fun y hy => absurd hy (by simp)) (fun h₁ hns hsb => ?_) L.kind)
    have kp : ∀ b o, s1.heap.get? b = some o → h₁.get? b = some o := fun b o e => hsb.extBut b o (Nat.ne_of_lt (Heap.lt_size e)) (Heap.get?_push_of_some _ e)
    refine ⟨J1.nolimit.fresh _ hsb, ?_⟩
    show codeAny _ _ (.expr body (LamX.lamEnv X scope s1.heap.objs.size f c')) _ _
    have J := LamX.lam_start2 (X := X) (A := X.A.deeper (envOfC qg sg s.heap.objs.size g cdg)) (outer := envOfC qg sg s.heap.objs.size g cdg :: X.stack) (E := E) (f := f) (c' := c') (tk := s1.toks + ([] : List (Str × Value)).length) I L J1.env0 hr.hd J1.base hns kp
    refine PySem.W.kla_codeExpr (wpAny_mono ((hbody (X.A.deeper (envOfC qg sg s.heap.objs.size g cdg)) _ s1 H1 hgd (hr.deeper _)).run [] _ _ H1 Q J ht) (fun u2 s2 h2 => ?_) fun _ _ h2 => h2)
    obtain ⟨v2, H2, J2, r2, q2⟩ := h2
    exact ⟨v2, H2, J2.os, J2.bare, J2.base, J2.hok, r2, q2⟩
  refine wpAny_call (codeAny_mono run fun res s2 h2 => ?_)
  cases res with
  | error e => exact passes_call (takes_len tk) (E := E) (fun cls d σ' H' h hl => hW cls d σ' H' (hl.trans rfl) h) pinsZ σZ H1 s1 e s2 J1 h2
  | ok fl =>
    cases fl with
    | ret u2 => exact J1.after h2
    | next => exact False.elim h2
    | brk => exact False.elim h2
    | cont => exact False.elim h2
end
end TW
set_option linter.all false
set_option Elab.async false
set_option maxRecDepth 100000
namespace TW
open PySem PySem.Spec PyProof.Rows L2
theorem lam_mk {X : Cx} {pins : List (Addr × Obj)} {σ : L2.St} {H : Hp} {s : Shared} {T : List (Addr × Str)} {co Pt : Addr} {prm : Arguments} {bd : Expr} {scp : Scope} {pos : Pos} {E Q : Value → Shared → Prop} (I : L2.Inv X pins σ H s) (B : LamX.TabB X.base X.mg co Pt) (hco : X.env.code = .ref co)
    (inT : (Pt, X.env.qual ++ "<lambda>") ∈ T) (one : ∀ p ∈ T, p.1 = Pt → p.2 = X.env.qual ++ "<lambda>") (tabs : LamX.Tabs T H) (nd : defaultsOf prm X.env = ([], [])) (fr : ∀ y ∈ scp.names, y.2 = .free → ∃ c, X.env.cells.lookup y.1 = some c)
    (go : ∀ (f c' : Addr) (pm ctv : Value) (H1 : Hp) (s' : Shared), L2.Inv X pins σ H1 s' → (∀ b, b ≠ Pt → H b ≠ none → H1 b = H b) → LamX.Tabs T H1 →
      s'.heap.get? f = some (PySem.W.kla_obj "<lambda>" (X.env.qual ++ "<lambda>") prm bd scp (cloFrom X.env.cells scp.names []) pm c' ctv) → H1 f = none → f ∉ frs X.stack → H1 c' = some (LamX.CodeO c' (X.env.qual ++ "<lambda>")) → Q (.ref f) s') :
    wpAny (model X.prog X.w) X.A (eval (.Lambda prm bd scp pos) X.env) Q E s := by
  obtain ⟨us, tP, trip, among⟩ := tabs _ inT
  refine PySem.W.kla_eval nd ?_
  have tPo : s.heap.get? Pt = some { cls := .none, data := .fields us } := I.hok Pt _ tP
  have away : ∀ f, s.heap.objs.size ≤ f → f ∉ frs X.stack := fun f hf z => (List.mem_cons.mp (I.stkSub _ z)).elim (fun e => by
    have l := I.lt
    rw [← e] at l
    exact Nat.lt_irrefl _ (Nat.lt_of_lt_of_le l hf)) (I.nofs hf)
  have bAt : s.heap.BuiltinsAt X.mg Pt := B.bm.keeps I.bk
  have cHd := B.code.keeps I.bk
  have gAt := I.mod.glob.keeps I.bk
  cases q : codeAmong pos us.toList with
  | some cv =>
    obtain ⟨c', rfl, isC⟩ := among pos cv q
    refine PySem.W.kla_makeFunctionHit (mg := X.mg) (c := co) (P := Pt) (ps := us) (closure_ok fr) I.ok.glob gAt hco cHd tPo trip q bAt fun ctv h' tk hx hsz => ?_
    exact go h'.objs.size c' _ ctv H _ (I.kept (t' := tk) fun b o e => Heap.get?_push_of_some _ (hx b o e)) (fun _ _ _ => rfl) tabs (Heap.get?_push_size _ rfl) (I.hok.fresh hsz) (away _ hsz) isC
  | none =>
    refine PySem.W.kla_makeFunction (mg := X.mg) (c := co) (P := Pt) (ps := us) (closure_ok fr) I.ok.glob gAt hco cHd tPo trip q B.gP bAt fun c' ctv h' tk hx hge hlt hrec htb => ?_
    obtain ⟨c2, oc, vs, t, e2, hoc, hd, hv⟩ := hrec
    cases e2
    have big : s.heap.objs.size ≤ h'.objs.size := Nat.le_trans hge (Nat.le_of_lt hlt)
    have newC : H c' = none := I.hok.fresh hge
    have nPc : Pt ≠ c' := fun z => by rw [z, newC] at tP; cases tP
    have J := LamX.inv_table (t' := tk) (more := #[rawInt pos.line, rawInt pos.col, .ref c']) (h' := h'.push (PySem.W.kla_obj "<lambda>" (X.env.qual ++ "<lambda>") prm bd scp (cloFrom X.env.cells scp.names []) ((X.mg "__name__").getD .none) c' ctv)) I tP
      (fun b o hb e => Heap.get?_push_of_some _ (hx b o hb e)) (Heap.get?_push_of_some _ htb) hge ⟨oc, vs, t, Heap.get?_push_of_some _ hoc, hd, hv⟩
    have keep : ∀ b, b ≠ Pt → H b ≠ none → upd (upd H Pt (.tbl (us ++ #[rawInt pos.line, rawInt pos.col, .ref c']))) c' (LamX.CodeO c' (X.env.qual ++ "<lambda>")) b = H b := fun b h1 h2 => by
      rw [upd_ne (fun z => h2 (by rw [z]; exact newC)), upd_ne h1]
    have keepC : ∀ {b : Addr} {qq : Str}, H b = some (LamX.CodeO b qq) → upd (upd H Pt (.tbl (us ++ #[rawInt pos.line, rawInt pos.col, .ref c']))) c' (LamX.CodeO c' (X.env.qual ++ "<lambda>")) b = some (LamX.CodeO b qq) := fun {b qq} e =>
      (keep b (fun z => by rw [z, tP] at e; exact LamX.codeO_ne us (Option.some.inj e).symm) (by rw [e]; simp)).trans e
    have eL : (us ++ #[rawInt pos.line, rawInt pos.col, .ref c']).toList = us.toList ++ [rawInt pos.line, rawInt pos.col, .ref c'] := by simp
    refine go h'.objs.size c' _ ctv _ _ J keep (fun p hp => ?_) (Heap.get?_push_size _ rfl) ?_ (away _ big) upd_same
    · by_cases hb : p.1 = Pt
      · rw [one p hp hb, hb]
        refine ⟨_, by rw [upd_ne nPc, upd_same], by rw [eL]; exact PySem.TriplesOk_snoc _ _ _ _ trip, fun p' cv hcv => ?_⟩
        rw [eL] at hcv
        exact (LamX.among_app _ trip hcv).elim (fun z => let ⟨c0, e1, e2⟩ := among p' cv z; ⟨c0, e1, keepC e2⟩) fun z => ⟨c', z, upd_same⟩
      · obtain ⟨us', a1, a2, a3⟩ := tabs p hp
        exact ⟨us', (keep _ hb (by rw [a1]; simp)).trans a1, a2, fun p' cv hcv => let ⟨c0, e1, e2⟩ := a3 p' cv hcv; ⟨c0, e1, keepC e2⟩⟩
    · rw [upd_ne (Nat.ne_of_gt hlt), upd_ne (Nat.ne_of_gt (Nat.lt_of_lt_of_le (Heap.lt_size tPo) big))]
      exact I.hok.fresh big
section
variable {P : Addr → Prop} {G G' : Gh} {σ : L2.St} {H H' : Hp} {s s' : Sx} {v : V} {o : Opd} {W : Wish} {X : Cx} {k : Nat}
theorem Rel.grow {Pt : Addr} (R : Rel P G σ H s) (hP : isTab Pt) (h : ∀ b, b ≠ Pt → H b ≠ none → H' b = H b) (t : LamX.Tabs tabs0 H') : Ext P G H G H' ∧ Rel P G σ H' s := by
  have kF : ∀ a, G.F a → H' a = H a := fun a f => h a (fun z => (R.tb.n a (z ▸ hP)).1 f) (R.fr a f)
  have kP : ∀ a, P a → H' a = H a := fun a f => h a (fun z => (R.tb.n a (z ▸ hP)).2 f) (R.pr a f)
  obtain ⟨ps, eP⟩ := R.tb.tbl hP
  have kC : ∀ a, H a ≠ none → Calm (H a) → H' a = H a := fun a h1 h2 => h a (fun z => h2.1 ps (z ▸ eP)) h1
  have calmB : ∀ b, s.b = some b → ∀ a ∈ G.bs, H' a = H a := fun b hb a ha => kC a (R.bF a ha).2.2 (by
    rcases (R.bx b hb).at_ with ⟨_, x, g, m, e1, _, _, _, k1, k2, k3⟩ | ⟨_, x, g, e1, _, k1, k2⟩
    · rw [e1] at ha
      simp at ha
      rcases ha with rfl | rfl | rfl
      · rw [k1]; exact calm_dK
      · rw [k2]; exact calm_lst
      · rw [k3]; exact calm_lst
    · rw [e1] at ha
      simp at ha
      rcases ha with rfl | rfl
      · rw [k1]; exact calm_lst
      · rw [k2]; exact calm_lst)
  refine ⟨⟨fun _ h => h, fun a f => .inl (kF a f), fun a f _ => kP a f, fun _ h => .inl h, fun _ => rfl, fun _ h => .inl h⟩, R.len, fun i d e => ?_, fun i d e => ?_, R.sep, R.box, fun b e => ?_, R.nb, fun a f => by rw [kF a f]; exact R.fr a f, fun a f => by rw [kP a f]; exact R.pr a f, fun a ha => ⟨(R.bF a ha).1, (R.bF a ha).2.1, ?_⟩, ⟨t, R.tb.n⟩⟩
  · obtain ⟨v, h1, h2⟩ := R.dat i d e
    exact ⟨v, h1, h2.mono (fun _ h => h) kF⟩
  · obtain ⟨a, h1, h2, h3⟩ := R.own i d e
    exact ⟨a, h1, h2.mono (fun _ h => h) kF (kC a h2.tracked h2.calm), h3⟩
  · exact (R.bx b e).stay fun c u hc hu => (calmB b e c hc).trans hu
  · cases hb : s.b with
    | none => rw [R.nb hb] at ha; cases ha
    | some b => rw [calmB b hb a ha]; exact (R.bF a ha).2.2
theorem Rel.hide (R : Rel P G σ H s) : Rel (prot G H) G σ H ⟨s.r.map hideV, s.b⟩ := by
  have get : ∀ {i : Nat} {x : SV}, (s.r.map hideV)[i]? = some x → ∃ y, s.r[i]? = some y ∧ x = hideV y := fun {i x} e => by
    rw [List.getElem?_map] at e
    cases q : s.r[i]? with
    | none => rw [q] at e; cases e
    | some y => rw [q] at e; exact ⟨y, rfl, (Option.some.inj e).symm⟩
  refine ⟨by rw [List.length_map]; exact R.len, fun i d e => ?_, fun i d e => ?_, fun i j d d' _ e => ?_, fun i e => ?_, R.bx, R.nb, R.fr, fun a h => h.1, fun a h => ⟨(R.bF a h).1, fun z => z.2.1 h, (R.bF a h).2.2⟩, ⟨R.tb.t, fun a h => ⟨(R.tb.n a h).1, fun z => z.2.2 h⟩⟩⟩
  · obtain ⟨y, h1, h2⟩ := get e
    cases y <;> cases h2
    exact R.dat i d h1
  · obtain ⟨y, h1, h2⟩ := get e
    cases y <;> cases h2
  · obtain ⟨y, h1, h2⟩ := get e
    cases y <;> cases h2
  · obtain ⟨y, h1, h2⟩ := get e
    cases y <;> cases h2
    exact R.box i h1
inductive WrOk (a : Str) : Wr → Expr → Prop
  | bare {p1 p2 : Pos} : WrOk a .bare (.Call (.Name a p1) [] [] p2)
  | told {x : Str} {j kk : Nat} {p1 p2 p3 p4 : Pos} : WrOk a (.told x) (.Tuple [.Constant (.str x) j p3, .Call (.Name a p1) [] [] p2] kk p4)
def wrQ : Wr → VK → VK
  | .bare, Q => Q
  | .told x, Q => fun v H => ([.str x, v] : List V).length ≤ sizeLine ∧ ∀ p, H p = none → Q (.ref p) (upd H p (.tup [.str x, v]))
def tAct (f c' : Addr) (q : Str) (tl : XK → Hp → VK → Prop) (E : XK) : TE := fun σZ HZ Q => σZ[0]? = some (some (.ref f)) ∧ HZ c' = some (LamX.CodeO c' q) ∧ tl E HZ Q
def tWr (wr : Wr) (t : TE) : TE := fun σ H Q => t σ H (wrQ wr Q)
theorem pe_wr {Z : Cx} {a : Str} {wr : Wr} {re : Expr} {f c' : Addr} {q : Str} {tl : XK → Hp → VK → Prop} {E : XK} (w : WrOk a wr re) (h : ∀ p1 p2, PE Z (.Call (.Name a p1) [] [] p2) (tAct f c' q tl E)) : PE Z re (tWr wr (tAct f c' q tl E)) := by
  cases w with
  | bare => exact h _ _
  | @told x j kk p1 p2 p3 p4 => exact pe_tup (pos := p4) (x1 := kk) (pa_cons (pe_str (j := j) (x := x) (pos := p3)) (pa_cons (h p1 p2) pa_nil))
theorem wr_end {wr : Wr} {d : PyData} {Q : VK} (R : Rel P G σ H s) (fz : Fz G.F H v d) (q : ∀ G' v' H', Ext P G H G' H' → Rel P G' σ H' s → Fz G'.F H' v' (wr.d d) → Q v' H') : wrQ wr Q v H := by
  cases wr with
  | bare => exact q G v H .refl R fz
  | told x =>
    refine ⟨by rw [sizeLine_eq]; simp, fun p hp => ?_⟩
    obtain ⟨x1, R1⟩ := R.new (u := .tup [.str x, v]) hp
    exact q _ _ _ x1 R1 (.tup (.inr rfl) upd_same (.cons (.str x) (.cons (fz.ext x1) .nil)))
structure AskOk (P : Program) (w : World) (K : PySem.W.Frag) (mg : Str → Option Value) (base : Heap) (k : Nat) (x : Str) (N : Nat) (wr : Wr) (cl : Clz) : Prop where
  ex : ∃ (Ng : List Str) (a : Str) (pg : Arguments) (sg : Scope) (fd : FuncData) (re : Expr) (p1 p2 : Pos) (h₀ : ExceptHandler) (hds : List ExceptHandler) (n : Str) (i : Nat),
    FunD K x x pg [.Try [.Return (some re) p1] (h₀ :: hds) [] [] p2] sg [] [] (He.fAd K (x, none)) fd ∧ L2.Binds K fd [a] [] ∧ FnScope Ng [a] sg ∧ Ng.length = N ∧ Ng[0]? = some a ∧ Vis sg a ∧ WrOk a wr re ∧ Ng[i]? = some n ∧ sg.names.lookup n = some .local ∧ ((a == ("__debug__" : Str)) = false ∧ (a == ("__classdict__" : Str)) = false) ∧
    ∀ (cdg : Value) (A : Around) (outer : List Env) (s : Shared) (H : Hp), Cok (cxN P w K mg base Ng x sg (He.fAd K (x, none)) cdg A outer s H E0) k → ClzOk (cxN P w K mg base Ng x sg (He.fAd K (x, none)) cdg A outer s H E0) n i (h₀ :: hds) cl
theorem take_err {o : Opd} {s : Sx} {e : Er} (h : take o s = .error e) : e = .stuck := by
  cases o with
  | val d => cases h
  | slot i =>
    have h : (M.bind (getS i) fun x => match x with
      | .dat d => pure d
      | .own d => do setS i (.dat d); pure d
      | _ => stuck) s = Except.error e := h
    unfold M.bind getS at h
    cases q : s.r.getD i .no with
    | no => simp only [q] at h; cases h; rfl
    | dat d => simp only [q] at h; cases h
    | own d => simp only [q] at h; cases h
    | box => simp only [q] at h; cases h; rfl
theorem lamM_ok {m : M Opd} {r : List SV} {b : Option Bx} {o : Opd} {s1 : Sx} (q : m ⟨r.map hideV, b⟩ = .ok (o, s1)) : lamM m r b = match take o s1 with
    | .ok (d, s') => .ok (d, s'.b)
    | .error e => .error e := by
  unfold lamM
  show (match M.bind m take ⟨r.map hideV, b⟩ with
    | .ok (d, s') => Except.ok (d, s'.b)
    | .error e => .error e) = _
  unfold M.bind
  rw [q]
theorem lamM_err {m : M Opd} {r : List SV} {b : Option Bx} {e : Er} (q : m ⟨r.map hideV, b⟩ = .error e) : lamM m r b = .error e := by
  unfold lamM
  show (match M.bind m take ⟨r.map hideV, b⟩ with
    | .ok (d, s') => Except.ok (d, s'.b)
    | .error e => .error e) = _
  unfold M.bind
  rw [q]
theorem sd_ask {x : Str} {co Pt : Addr} {prm : Arguments} {bd : Expr} {scp : Scope} {p lpos pos : Pos} {N : Nat} {wr : Wr} {cl : Clz} {m : M Opd} {j : Nat} (C : Cok X k) (AK : AskOk X.prog X.w X.K X.mg X.base j x N wr cl) (hj : j + 1 ≤ k) (hj2 : 2 ≤ k)
    (hg : Gl X x) (hm : X.mg x = some (.ref (He.fAd X.K (x, none)))) (hk : PySem.W.keepIn X.K (.ref (He.fAd X.K (x, none))) = true)
    (B : LamX.TabB X.base X.mg co Pt) (hco : X.env.code = .ref co) (inT : (Pt, X.env.qual ++ "<lambda>") ∈ tabs0) (one : ∀ p ∈ tabs0, p.1 = Pt → p.2 = X.env.qual ++ "<lambda>")
    (L : LamX.LamS X.env.scope scp) (nd : defaultsOf prm X.env = ([], [])) (bind : ∀ (q : Str) (cl : List (Str × Addr)) (pm cv ctv : Value), bindArgs (PySem.W.kla_fn "<lambda>" q prm bd scp cl pm cv ctv) ⟨[], []⟩ = pure [])
    (hb : ∀ (A : Around) (outer : List Env) (s : Shared) (H : Hp) (E : XK) (f c' : Addr), Cok (LamX.lamCx X A outer s H E scp f c') (k - 2) → Takes (LamX.lamCx X A outer s H E scp f c') (wE E) → Sd (LamX.lamCx X A outer s H E scp f c') (wishX X.mg (wE E)) bd m)
    (hdb : (x == ("__debug__" : Str)) = false := by decide) : Sd X W (.Call (.Name x p) [.Lambda prm bd scp lpos] [] pos) (eAsk wr N cl m) := by
  obtain ⟨Ng, a, pg, sg, fd, re, p1, p2, h₀, hds, n, i, FF, hbi, Sg, rfl, hN0, hva, hw, hi, hln, ⟨hd1, hd2⟩, clz⟩ := AK.ex
  obtain ⟨oc, od, dV, kV, doc, pm, an, cdv, ct, osl, rfl, lk, hcd, _, _⟩ := FF.ex
  obtain ⟨k, rfl⟩ : ∃ k', k = k' + 2 := ⟨k - 2, by omega⟩
  have isT : isTab Pt := ⟨_, inT, rfl⟩
  have hil : i < Ng.length := (List.getElem?_eq_some_iff.mp hi).1
  refine ⟨rdE W (eAsk wr Ng.length cl m), ⟨fun pins s σ H Q I ⟨P, G, sx, R, hwp⟩ => ?_⟩, fun P G σ H s Q R hwp => ⟨P, G, s, R, hwp⟩⟩
  refine wpAny_Call_Name_kw (ld_glob I hg hm ?_ hdb)
  refine PySem.W.callWith_K (h₀ := X.base) I.ok.mod.kin hk ?_ (by rfl) (by rfl)
  show wpAny _ _ (spliced ((false, eval (.Lambda prm bd scp lpos) X.env) :: backTo pos (starEach [] X.env))) _ _ s
  refine Calls.spliced_cons (lam_mk I B hco inT one R.tb.t nd (L.has I.ok) fun f c' pm' ctv H1 s' I1 eN T1 hf hfn hfr hcc => Calls.spliced_nil ⟨I1.kIn, ?_⟩)
  obtain ⟨x1, R1⟩ := R.grow isT eN T1
  have rc : codeAny (model X.prog X.w) X.A (.call (.ref (He.fAd X.K (x, none))) ⟨[.ref f], []⟩) (CR CX0 X.stack X.prog X.w H1 s' Q E0) s' := by
    refine LamX.run_ofS (k := k + 1) (N := Ng) (ps := [a]) (us := [.ref f]) (vs := [.ref f]) lk hcd Sg C.room I1.env0 (by
      have := hbi s' [.ref f] I1.kIn rfl
      rwa [List.append_nil] at this) (.cons rfl .nil) rfl fun hr' => ?_
    have CZ : Cok (cxG X Ng x sg (He.fAd X.K (x, none)) cdv s' H1).nox (k + 1) := ⟨rfl, Sg.nd, hr', C.gd, C.sm⟩
    have clz' := clz cdv X.A X.stack s' H1 ⟨rfl, Sg.nd, hr'.mono (by omega), C.gd, C.sm⟩
    obtain ⟨LL, hLL, go⟩ := clz_go (N := Ng.length) clz' hil
    let tl : XK → Hp → VK → Prop := fun E H' Q' => rdE (wishX X.mg (wE E)) m σ H' Q'
    have act : ∀ (W : WX) (pn : List (Addr × Obj)) (xe : Value → Shared → Prop) (E : XK) (p1 p2 : Pos), Takes ((cxG X Ng x sg (He.fAd X.K (x, none)) cdv s' H1).tr pn xe) W → (∀ cls d σ' H', σ'.length = Ng.length → E cls d H' → W cls d σ' H') →
        PE ((cxG X Ng x sg (He.fAd X.K (x, none)) cdv s' H1).tr pn xe) (.Call (.Name a p1) [] [] p2) (tAct f c' (X.env.qual ++ "<lambda>") tl E) := fun W pn xe E p1 p2 tk hW =>
      pe_asked (k := k) I1 L hf hfn hfr (bind _ _ _ _ _) tk hW hr' C.gd (fun A outer s H hgd hr2 => (hb A outer s H E f c' ⟨rfl, C.nd, hr2, hgd, C.sm⟩ (takes_of (X := LamX.lamCx X A outer s H E scp f c') (E := E) rfl rfl rfl rfl)).pe) hN0 hva hd1 hd2
    have tr := ps_tryM (X := (cxG X Ng x sg (He.fAd X.K (x, none)) cdv s' H1).nox) (pos := p2) (tb := fun W D σ' H' => ∃ Ech : XK, (∀ cls d σ' H', σ'.length = Ng.length → Ech cls d H' → W cls d σ' H') ∧ tWr wr (tAct f c' (X.env.qual ++ "<lambda>") tl Ech) σ' H' D.rt) (body := [.Return (some re) p1])
      rfl rfl Sg.nd hi hln (fun W pn xe tk _ => ⟨fun pins s σ' H' D I' ⟨Ech, h1, h2⟩ => (pss_one (ps_ret (pe_wr hw fun q1 q2 => act W pn xe Ech q1 q2 tk h1))).run pins s σ' H' D I' h2⟩) hLL
    refine ⟨_, (pss_one tr).nox, ?_⟩
    show ∃ Ech : XK, _ ∧ _
    refine ⟨fun cls d H' => ∀ σ', σ'.length = Ng.length → wCl X.K i _ LL cls d σ' H', fun cls d σ' H' hl h => h σ' hl, ?_, hcc, ?_⟩
    · unfold L2.start
      rfl
    · refine ⟨prot G H1, G, ⟨sx.r.map hideV, sx.b⟩, R1.hide, ?_⟩
      have hwp : pw (eAsk wr Ng.length cl m) sx (PostV P σ Q G H) (W.w P G H) := hwp
      unfold pw eAsk at hwp
      unfold pw
      cases q : m ⟨sx.r.map hideV, sx.b⟩ with
      | ok pr =>
        obtain ⟨o, s1⟩ := pr
        intro G1 v H2 x2 R2 r2
        cases ht : take o s1 with
        | error e =>
          have hl : lamM m sx.r sx.b = .error .stuck := by rw [lamM_ok q, ht, take_err ht]
          rw [hl] at hwp
          exact absurd hwp (W.stuck _ _ _)
        | ok p2 =>
          obtain ⟨d0, s0⟩ := p2
          have hl : lamM m sx.r sx.b = .ok (d0, s0.b) := by rw [lamM_ok q, ht]
          rw [hl] at hwp
          obtain ⟨G2, s2, d, x3, R3, fz, h4⟩ := take_ok (W := Wish.no) (f := fun d => (pure d : M PyData)) (Qp := fun _ _ d s' => d = d0 ∧ s' = s0) (fun _ _ _ _ _ _ _ h => h) R2 r2 (by
            show pw (M.bind (take o) _) s1 _ _
            unfold pw M.bind
            rw [ht]
            exact ⟨rfl, rfl⟩)
          obtain ⟨rfl, rfl⟩ := h4
          obtain ⟨xa, Ra⟩ := R1.after (x2.trans x3) R3.gb
          exact wr_end Ra fz fun G4 v' H4 x4 R4 fz4 => hwp G4 v' H4 (x1.trans (xa.trans x4)) R4 fz4
      | error e =>
        have hl : lamM m sx.r sx.b = .error e := lamM_err q
        rw [hl] at hwp
        cases e with
        | stuck => exact absurd hwp (W.stuck _ _ _)
        | exc c fs r b' =>
          intro G1 σ1 H2 cls d x2 R2 z σ2 hl2
          cases hc : clzF Ng.length cl c fs b' with
          | error e => simp only [hc] at hwp; exact absurd hwp (W.stuck _ _ _)
          | ok p2 =>
            obtain ⟨y, b2⟩ := p2
            simp only [hc] at hwp
            refine go hc R2.gb z hl2 rfl fun G3 v H3 x3 g3 fz => ?_
            obtain ⟨xa, Ra⟩ := R1.after x2 R2.gb
            obtain ⟨xb, Rb⟩ := Ra.after x3 g3
            exact hwp G3 v H3 (x1.trans (xa.trans xb)) Rb fz
  refine wpAny_call (codeAny_mono rc fun r s2 hq => ?_)
  cases r with
  | error e => exact (show False from hq).elim
  | ok fl =>
    cases fl with
    | ret u => exact I1.after hq
    | next => exact False.elim hq
    | brk => exact False.elim hq
    | cont => exact False.elim hq
end
end TW
set_option linter.all false
set_option Elab.async false
set_option maxRecDepth 100000
namespace TW
open PySem PySem.Spec PyProof.Rows L2
structure TabsAt (h : Heap) (K : PySem.W.Frag) (tf : List He.Defn) (cs : List (Addr × Addr)) : Prop where
  at_ : tf.map (He.cT K) = cs
  hd : ∀ p ∈ tf, PySem.W.codeHdIn K (He.cT K p).1 (He.cT K p).2 = true
  out : ∀ p ∈ tf, K.lookup (He.cT K p).2 = none
  empty : ∀ p ∈ tf, h.get? (He.cT K p).2 = some { cls := .none, data := .fields #[] }
section
variable {h : Heap} {K : PySem.W.Frag} {tf : List He.Defn} {cs : List (Addr × Addr)}
theorem TabsAt.one (t : TabsAt h K tf cs) (X : K.In h) : (∀ p ∈ cs, h.get? p.2 = some { cls := .none, data := .fields #[] }) ∧ (∀ p ∈ cs, K.lookup p.2 = none) ∧ ∀ p ∈ cs, PySem.W.CodeHd h p.1 p.2 := by
  refine ⟨fun p hp => ?_, fun p hp => ?_, fun p hp => ?_⟩ <;> (rw [← t.at_] at hp; obtain ⟨q, h1, rfl⟩ := List.mem_map.mp hp)
  · exact t.empty q h1
  · exact t.out q h1
  · exact PySem.W.codeHd_of_K X (t.hd q h1)
end
def obL0 (n : Nat) (fa : List He.Fa) (fn : List He.DefD) (ex : PySem.W.Frag → Bool) (tf : List He.Defn) (g : Addr → Option Obj) : (He.AlD × Bool) × ((Bool × List (Addr × Addr)) × Bool) :=
  ((He.obsD fa fn (He.frT g (He.asD g n)), ex (He.frT g (He.asD g n))), (He.tabsB g tf (He.frT g (He.asD g n)), tf.map (He.cT (He.frT g (He.asD g n)))), smB (g sysModules))
def hookL (n : Nat) (fa : List He.Fa) (fn : List He.DefD) (ex : PySem.W.Frag → Bool) (tf : List He.Defn) (cs : List (Addr × Addr)) : PySem.W.Hook where
  α := (He.AlD × Bool) × ((Bool × List (Addr × Addr)) × Bool)
  obs := fun s => obL0 n fa fn ex tf s.heap.get?
  val := fun _ => ((He.valD fn, true), (true, cs), true)
  says := fun _ h => (∃ K : PySem.W.Frag, K.In h ∧ He.SaysD fa fn K ∧ ex K = true ∧ TabsAt h K tf cs) ∧ ∃ o es ep, h.get? sysModules = some o ∧ o.data = .dict es ep
  of := fun _ s e => by
    obtain ⟨e0, e1⟩ := Prod.mk.inj e
    obtain ⟨e2, e3⟩ := Prod.mk.inj e0
    obtain ⟨e4, e5⟩ := Prod.mk.inj e1
    obtain ⟨e6, e7⟩ := Prod.mk.inj e4
    have key : ∀ p ∈ tf, PySem.W.codeHdIn _ _ _ = true ∧ ∃ o, s.heap.get? (He.cT (He.frT s.heap.get? (He.asD s.heap.get? n)) p).2 = some o ∧ He.emptyTab o = true := fun p hp => by
      obtain ⟨h3, h4⟩ := He.ba (List.all_eq_true.mp e6 p hp)
      refine ⟨h3, ?_⟩
      cases q : s.heap.get? (He.cT (He.frT s.heap.get? (He.asD s.heap.get? n)) p).2 with
      | none => rw [q] at h4; cases h4
      | some o => rw [q] at h4; exact ⟨o, rfl, h4⟩
    refine ⟨⟨_, He.frT_in, e2, e3, e7, fun p hp => (key p hp).1, fun p hp => ?_, fun p hp => ?_⟩, ?_⟩
    · obtain ⟨_, o, q, z⟩ := key p hp
      exact He.frT_none q z
    · obtain ⟨_, o, q, z⟩ := key p hp
      rw [q, He.emptyTab_eq z]
    · unfold smB at e5
      split at e5
      · rename_i q
        exact ⟨_, _, _, q, rfl⟩
      · cases e5
  keeps := fun _ _ _ ⟨⟨K, hK, c, c2, t⟩, o, es, ep, h1, h2⟩ k => ⟨⟨K, PySem.W.Frag.In.keeps hK k, c, c2, t.at_, t.hd, t.out, fun p hp => k _ _ (t.empty p hp)⟩, o, es, ep, k _ _ h1, h2⟩
def obL (n : Nat) (fa : List He.Fa) (fn : List He.DefD) (ex : PySem.W.Frag → Bool) (tf : List He.Defn) (s : PySem.W.SharedT) : (He.AlD × Bool) × ((Bool × List (Addr × Addr)) × Bool) := obL0 n fa fn ex tf (HandSHeadRun.getT s)
theorem obL_eq {n : Nat} {fa : List He.Fa} {fn : List He.DefD} {ex : PySem.W.Frag → Bool} {tf : List He.Defn} {cs : List (Addr × Addr)} (s : PySem.W.SharedT) : obL n fa fn ex tf s = (hookL n fa fn ex tf cs).obs s.abs := by
  have e : HandSHeadRun.getT s = s.abs.heap.get? := funext (HandSHeadRun.getT_eq s)
  unfold obL
  rw [e]
  rfl
theorem walk_lawL {l : PySem.W.OpenLaw} {q : Program} {loose : List Str} {XP : (Str → Option Value) → Heap → Prop} {fa : List He.Fa} {fn : List He.DefD} {ex : PySem.W.Frag → Bool} {tf : List He.Defn} {cs : List (Addr × Addr)} {j : Nat} {d : DefRec} (k : Nat)
    (hn : l.most = some 63) (hdf : d.params.defaults = []) (hr : Room k callerA) (t0 : ∀ p ∈ tabs0, p.1 ∈ cs.map (·.2))
    (F : ∀ (w : World) (mg : Str → Option Value) (f : Addr) (h : Heap) (K : PySem.W.Frag), K.In h → He.SaysD fa fn K → ex K = true → tf.map (He.cT K) = cs → h.Ns mainGlobals mg → mg d.name = some (.ref f) →
      ∃ fd : FuncData, (∀ (s : Shared) (u : Value), BindsTo s fd ⟨[u], []⟩ [(("_law_script" : Str), u)]) ∧
        ∀ base : Heap, (SmP base) → (∀ p ∈ cs, LamX.TabB base mg p.1 p.2) → Fn l.prog w K mg base k f fd ["_law_script"] (spLaw K)) :
    PySem.W.WalkO q loose XP (hookL j fa fn ex tf cs).says l.row.toRowW d [] (fun f vs => PySem.call f vs) := by
  refine Att.attach_call hn hdf fun w s₀ s₁ mg mb f o pm cd doc a vs ns G Y ho hd hcd hmg hobj hints hlen hg => ?_
  obtain ⟨⟨K, KX, c, c2, t⟩, osm, es, ep, h1, h2⟩ := Y
  obtain ⟨fd, hb, hF⟩ := F w mg f _ K KX c c2 t.at_ G.T.g hmg
  obtain ⟨a1, a2, a3⟩ := t.one KX
  exact law_run (cs := cs) KX G.T.g G.T.b G.T.builtins G.T.nolimit G.T.nodigits hg h1 h2 a1 a2 a3 G.T.bmain t0 hobj hints hlen hr (fun base _ _ hs ht => hF base hs ht) hb
theorem code_at {K : PySem.W.Frag} {x : Str} {qual : Str} {params : Arguments} {body : List Stmt} {scope : Scope} {dvs : List V} {kws : List (Str × V)} {fd : FuncData} {cdv : Value} {p : Addr × Addr} (F : FunD K x qual params body scope dvs kws (He.fAd K (x, none)) fd) (e : He.cT K (x, none) = p) (h : fd.code = cdv) : cdv = .ref p.1 := by
  obtain ⟨oc, od, dV, kV, doc, pm, an, cdv', ct, osl, rfl, lk, hcd, _, _⟩ := F.ex
  obtain ⟨c, rfl⟩ := He.codeIn_ref hcd
  have e2 := He.codeOf_eq lk (c := c) rfl
  rw [← e]
  show cdv = .ref (He.codeOf K (x, none))
  rw [e2]
  exact h.symm
end TW
set_option linter.all false
set_option Elab.async false
set_option maxRecDepth 100000
namespace TW
open PySem PySem.Spec PyProof.Rows L2
theorem mxd_args (a v : Value) : argsOk "max" ⟨[a], [(Str.ofString "default", v)]⟩ := by unfold argsOk; kernel_rfl
theorem mxd_bind {d : Value} : Builtin.Builtins.bindParams "max" ["key", "default"] 0 ⟨[], [(Str.ofString "default", d)]⟩ = pure [none, some d] := by kernel_rfl
theorem mxd_name : (toString "max" ++ toString ".loop" : String) = "max.loop" := by decide
section
variable {prog : Program} {w : World} {A : Around} {R : Result → Shared → Prop} {it S : Addr} {fp wr : List Addr} {n : Nat} {P : Nat → Value → Prop} {St : Nat → Heap → Prop} {kw : List (Str × Value)}
theorem mxd_loop (W : Walks prog w A.in1 it fp wr n P St) {bt : Nat → Nat → Bool} (cmp : CmpOf prog w A.in1 .Gt P bt) (nS : S ∉ fp) : ∀ (m i : Nat) (s : Shared) (best : Value) (c : Nat), n - (i + 1) = m → i + 1 ≤ n → St (i + 1) s.heap → P (argBest bt i) best →
    s.heap.get? S = some { cls := .type "list", dict := none, data := .seq #[best, best] c, slots := #[] } →
    (∀ v h' tk, P (argBest bt (n - 1)) v → (∀ b o, b ∉ wr → b ≠ S → s.heap.get? b = some o → h'.get? b = some o) → R (.ok (.ret v)) { s with heap := h', toks := tk }) →
    codeAny (model prog w) A (.builtin "max.loop" ⟨[.ref it, .none, .ref S], kw⟩) R s := by
  have nw : S ∉ wr := fun z => nS (W.sub _ z)
  intro m
  induction m with
  | zero =>
    intro i s best c hm hi st pb atS fin
    have end_ : i + 1 = n := by omega
    refine codeAny_builtin F.entry_max_loop ?_
    rw [Around.under_plainId F.plain_max_loop _]
    show wpAny _ A.in1 (seqItems? (.ref S) >>= _) _ _ s
    refine wpAny_bind (wpAny_seqItems atS rfl ?_)
    show wpAny _ A.in1 (tryCatch (pyNext (.ref it)) _ >>= _) _ _ s
    refine wpAny_bind (wpAny_tryCatch (W.done s _ _ (end_ ▸ st) fun h1 t1 k1 => ?_))
    show wpAny _ A.in1 (updateSeq S (fun _ => #[]) >>= _) _ _ _
    refine wpAny_bind ?_
    refine wpAny_updateSeq (k1 S _ nw atS) rfl (wpAny_bind (wpAny_letGo (wpAny_pure ?_)))
    exact fin best _ t1 (by rw [← end_]; exact pb) fun b o b1 b2 e => (Heap.get?_update_other _ _ (Ne.symm b2)).trans (k1 b o b1 e)
  | succ m ih =>
    intro i s best c hm hi st pb atS fin
    have lt : i + 1 < n := by omega
    refine codeAny_builtin F.entry_max_loop ?_
    rw [Around.under_plainId F.plain_max_loop _]
    show wpAny _ A.in1 (seqItems? (.ref S) >>= _) _ _ s
    refine wpAny_bind (wpAny_seqItems atS rfl ?_)
    show wpAny _ A.in1 (tryCatch (pyNext (.ref it)) _ >>= _) _ _ s
    refine wpAny_bind (wpAny_tryCatch (W.item (i + 1) s _ _ lt st fun v h1 t1 pv st1 k1 => ?_))
    have atS1 := k1 S _ nw atS
    show wpAny _ A.in1 (tryCatch (holding [v, v] (richCompare .Gt v best >>= _)) _ >>= _) _ _ _
    refine wpAny_bind (wpAny_tryCatch (wpAny_holding (wpAny_bind (cmp (i + 1) (argBest bt i) v best _ _ _ pv pb ?_))))
    refine wpAny_bind (wpAny_holding (wpAny_truthy_bool ?_))
    refine wpAny_bind (wpAny_letGo (wpAny_pure ?_))
    cases hb : bt (i + 1) (argBest bt i) with
    | false =>
      simp only [Bool.false_eq_true, if_false]
      refine wpAny_bind (wpAny_letGo ?_)
      rw [mxd_name]
      exact wpAny_pure ⟨plainId_quiet F.plain_max_loop _, ih (i + 1) _ best c (by omega) lt st1 (by simp only [argBest, hb, Bool.false_eq_true, if_false]; exact pb) atS1 fun v2 h2 t2 p2 k2 => fin v2 h2 t2 p2 fun b o b1 b2 e => k2 b o b1 b2 (k1 b o b1 e)⟩
    | true =>
      simp only [if_true]
      refine wpAny_bind ?_
      refine wpAny_updateSeq atS1 rfl (wpAny_bind (wpAny_letGo ?_))
      rw [mxd_name]
      exact wpAny_pure ⟨plainId_quiet F.plain_max_loop _, ih (i + 1) _ v _ (by omega) lt (W.frame _ _ _ st1 fun b hb o e => (Heap.get?_update_other _ _ (fun z : S = b => nS (z ▸ hb))).trans e) (by simp only [argBest, hb, if_true]; exact pv) (Heap.get?_update_self _ atS1 rfl)
        fun v2 h2 t2 p2 k2 => fin v2 h2 t2 p2 fun b o b1 b2 e => k2 b o b1 b2 ((Heap.get?_update_other _ _ (Ne.symm b2)).trans (k1 b o b1 e))⟩
theorem mxd_first (W : Walks prog w A.in1 it fp wr n P St) {bt : Nat → Nat → Bool} (cmp : CmpOf prog w A.in1 .Gt P bt) (nS : S ∉ fp) {s : Shared} {c : Nat} {d : Value} (st : St 0 s.heap) (atS : s.heap.get? S = some { cls := .type "list", dict := none, data := .seq #[] c, slots := #[] })
    (fin : ∀ v h' tk, ((0 < n ∧ P (argBest bt (n - 1)) v) ∨ (n = 0 ∧ v = d)) → (∀ b o, b ∉ wr → b ≠ S → s.heap.get? b = some o → h'.get? b = some o) → R (.ok (.ret v)) { s with heap := h', toks := tk }) :
    codeAny (model prog w) A (.builtin "max.loop" ⟨[.ref it, .none, .ref S], [(Str.ofString "default", d)]⟩) R s := by
  have nw : S ∉ wr := fun z => nS (W.sub _ z)
  refine codeAny_builtin F.entry_max_loop ?_
  rw [Around.under_plainId F.plain_max_loop _]
  show wpAny _ A.in1 (seqItems? (.ref S) >>= _) _ _ s
  refine wpAny_bind (wpAny_seqItems atS rfl ?_)
  show wpAny _ A.in1 (tryCatch (pyNext (.ref it)) _ >>= _) _ _ s
  by_cases hn : 0 < n
  · refine wpAny_bind (wpAny_tryCatch (W.item 0 s _ _ hn st fun v h1 t1 pv st1 k1 => ?_))
    have atS1 := k1 S _ nw atS
    show wpAny _ A.in1 (updateSeq S (fun _ => #[v, v]) >>= _) _ _ _
    refine wpAny_bind ?_
    refine wpAny_updateSeq atS1 rfl ?_
    rw [mxd_name]
    exact wpAny_pure ⟨plainId_quiet F.plain_max_loop _, mxd_loop W cmp nS _ 0 _ v _ rfl hn (W.frame _ _ _ st1 fun b hb o e => (Heap.get?_update_other _ _ (fun z : S = b => nS (z ▸ hb))).trans e) pv (Heap.get?_update_self _ atS1 rfl)
      fun v2 h2 t2 p2 k2 => fin v2 h2 t2 (.inl ⟨hn, p2⟩) fun b o b1 b2 e => k2 b o b1 b2 ((Heap.get?_update_other _ _ (Ne.symm b2)).trans (k1 b o b1 e))⟩
  · obtain rfl : n = 0 := by omega
    refine wpAny_bind (wpAny_tryCatch (W.done s _ _ st fun h1 t1 k1 => ?_))
    exact wpAny_bind (wpAny_rule (wpAny_pure (fin d _ t1 (.inr ⟨rfl, rfl⟩) fun b o b1 _ e => k1 b o b1 e)))
end
section
variable {prog : Program} {w : World} {A : Around} {E : Value → Shared → Prop} {s : Shared} {l : Addr} {xs : Array (Int × Tok)}
theorem mxd_call {d : Value} {Q : Value → Shared → Prop} (hh : A.handled = none) (hl : s.heap.IsList l (intItems xs))
    (q : ∀ v h' tk, ((0 < xs.size ∧ (intItems xs)[argBest (fun i j => decide (numAt xs i > numAt xs j)) (xs.size - 1)]? = some v) ∨ (xs.size = 0 ∧ v = d)) → (∀ b o, s.heap.get? b = some o → h'.get? b = some o) → Q v { s with heap := h', toks := tk }) :
    wpAny (model prog w) A (call (.builtin "max") [.ref l] [(Str.ofString "default", d)]) Q E s := by
  refine PyProof.Rows.kmk_tree F.kind_max F.plain_max F.entry_max (mxd_args _ _) ?_
  show wpAny _ A.in1 (Builtin.Builtins.bindParams "max" ["key", "default"] 0 ⟨[], [(Str.ofString "default", d)]⟩ >>= _) _ _ s
  refine wpAny_bind (wpAny_of_eq mxd_bind ?_)
  refine wpAny_bind (wpAny_pure ?_)
  refine wpAny_bind (iter_intList hl fun s2 e st hfp hlI => ?_)
  subst e
  refine wpAny_bind (wpAny_newObj_type ?_)
  have nS : (s.heap.push { cls := .type "list_iterator", data := .fields #[.ref l, .int 0 0] }).objs.size ∉ [s.heap.objs.size, l] := fun z => Nat.lt_irrefl _ (hfp _ z)
  have W := Walks.list (prog := prog) (w := w) (A := A.in1) hh s.heap.objs.size l hlI (intItems xs)
  rw [mxd_name]
  refine wpAny_pure ⟨plainId_quiet F.plain_max_loop _, mxd_first W (CmpOf.ints_gt (numAt xs) (fun _ _ => intItems_at)) nS (W.frame _ _ _ st fun b _ o e => Heap.get?_push_of_some _ e) (Heap.get?_push_size _ rfl) fun v h' tk p k => ?_⟩
  refine q v h' tk (p.imp (fun z => ⟨by simpa [intItems] using z.1, by simpa [intItems] using z.2⟩) fun z => ⟨by simpa [intItems] using z.1, z.2⟩) fun b o e => ?_
  have lt := Heap.lt_size e
  refine k b o (fun z => ?_) (fun z => ?_) (Heap.get?_push_of_some _ (Heap.get?_push_of_some _ e))
  · rw [List.mem_singleton.mp z] at lt
    exact Nat.lt_irrefl _ lt
  · exact Nat.ne_of_lt (Nat.lt_trans lt (by rw [Heap.size_push]; exact Nat.lt_succ_self _)) z
end
def rMaxDf (K : PySem.W.Frag) : List V → List V → Hp → VK → Prop := fun vs zs H Q => ∃ (a : Addr) (ns : List Int) (d : V), vs = [V.ref a] ∧ zs = [d] ∧ SqL K H a (ns.map V.int) ∧ (ns = [] → Q d H) ∧ ∀ m, m ∈ ns → (∀ y, y ∈ ns → y ≤ m) → Q (.int m) H
section
variable {P : Addr → Prop} {G G' : Gh} {σ : L2.St} {H H' : Hp} {s s' : Sx} {v : V} {o : Opd} {W : Wish} {X : Cx} {k : Nat}
theorem cr_maxDf (hc : X.calm = true) : CallRK X (.builtin "max") [Str.ofString "default"] (rMaxDf X.K) := by
  intro pins s σ H vs zs us ws Q I r rz h
  obtain ⟨a, ns, d, rfl, rfl, hs, q0, q⟩ := h
  obtain rfl := Vals.ref1 r
  obtain ⟨w1, rfl, e1⟩ := vals1 rz
  obtain ⟨its, rv, hl, _⟩ := I.list hs
  have hi := rv.ints
  obtain ⟨xs, e⟩ := hi.allInts.items
  have hn : numsOf (intItems xs).toList = ns := by rw [← e]; exact hi.numsOf
  rw [nums_intItems] at hn
  subst hn
  have hl : s.heap.IsList a its.toArray := hl.isList
  rw [e] at hl
  refine mxd_call (I.ok.hd hc) hl fun v h' tk hv kp => ?_
  rcases hv with ⟨hne, hv⟩ | ⟨h0, rfl⟩
  · obtain ⟨t, rfl⟩ := intItems_at hv
    obtain ⟨h1, h2⟩ := argBest_gt (numAt xs) (xs.size - 1)
    refine ⟨.int _, H, I.kept kp, ⟨t, rfl⟩, q _ ?_ fun y hy => ?_⟩
    · rw [numAt_eq]
      exact PySem.getD_mem (by rw [List.length_map, Array.length_toList]; omega)
    · obtain ⟨j, hj, rfl⟩ := mem_getD hy
      rw [List.length_map, Array.length_toList] at hj
      rw [← numAt_eq]
      exact h2 j (by omega)
  · exact ⟨d, H, I.kept kp, e1, q0 (by simpa using Array.size_eq_zero_iff.mp h0)⟩
theorem topI_none : ∀ {ns : List Int}, topI ns = none → ns = []
  | [], _ => rfl
  | n :: ns, h => by
    unfold topI at h
    cases q : topI ns with
    | none => rw [q] at h; cases h
    | some m => rw [q] at h; cases h
def maxDD : PyData → PyData → Option PyData
  | .list ds, .int d => (intsOf ds).map fun ns => .int ((topI ns).getD d)
  | _, _ => none
theorem sd_maxD {a b : Expr} {kp p pos : Pos} {ma mb : M Opd} (C : Cok X k) (hg : Gl X "max") (hm : X.mg "max" = none) (ha : Sd X W a ma) (hb : Sd X W b mb) (hs : starEach [a] X.env = (false, eval a X.env) :: starEach [] X.env := by rfl)
    (hpk : ∀ tb, PE X b tb → PK X [⟨some "default", b, kp⟩] (tCons tb tNil) := by intro tb h; exact pk_cons h pk_nil)
    (he : backTo pos (starEach [a] X.env) = (false, eval a X.env) :: backTo pos (starEach [] X.env) := by rfl) (hpl : (backTo pos (starEach [a] X.env)).any (·.1) = false := by rfl)
    (hall : (backToKw pos (keywordEach [⟨some "default", b, kp⟩] X.env)).all (·.1.isSome) = true := by rfl) (hnone : (backToKw pos (keywordEach [⟨some "default", b, kp⟩] X.env)).any (·.1.isNone) = false := by rfl) (hks : (backToKw pos (keywordEach [⟨some "default", b, kp⟩] X.env)).filterMap (·.1) = [Str.ofString "default"] := by rfl) :
    Sd X W (.Call (.Name "max" p) [a] [⟨some "default", b, kp⟩] pos) (eOp maxDD ma mb) := by
  obtain ⟨ta, pa, ca⟩ := ha.ex
  obtain ⟨tb, pb, cb⟩ := hb.ex
  refine ⟨_, pe_callBK (cr_maxDf C.calm) hg hm (by decide +kernel) (pa_cons pa pa_nil hs) (hpk tb pb) (by decide) (by decide) he hpl hall hnone hks, ?_⟩
  intro P G σ H s Q R hw
  unfold eOp at hw
  refine ca.bind PostV.mono R hw fun o1 s1 G1 v1 H1 x1 R1 r1 hw1 => ?_
  refine cb.bind PostV.mono R1 hw1 fun o2 s2 G2 v2 H2 x2 R2 r2 hw2 => ?_
  obtain ⟨d1, c1, hw3⟩ := peek_ok R2 (r1.ext x2) (W.stuck _ _ _) hw2
  obtain ⟨d2, c2, hw4⟩ := peek_ok R2 r2 (W.stuck _ _ _) hw3
  rw [pw_bind, pw_optM (W.stuck _ _ _)] at hw4
  obtain ⟨z, ez, hw5⟩ := hw4
  unfold maxDD at ez
  split at ez
  · rename_i ds d
    obtain ⟨ns, e1, e2⟩ := Option.map_eq_some_iff.mp ez
    subst e2
    obtain ⟨a, xs, rfl, ea, r⟩ := c1
    obtain rfl := intsOf_eq e1
    have hv : v2 = .int d := Fz.int_inv c2
    subst hv
    rw [r.ints] at ea
    refine ⟨a, ns, .int d, rfl, rfl, SqL.of ea, fun h0 => ?_, fun m h1 h2 => ?_⟩
    · subst h0
      exact hw5 G2 _ H2 .refl R2 (.int d)
    · have : topI ns = some m := by
        cases q : topI ns with
        | none => exact absurd (topI_none q) (List.ne_nil_of_mem h1)
        | some m2 =>
          obtain ⟨k1, k2⟩ := topI_ok q
          rw [Int.le_antisymm (h2 m2 k1) (k2 m h1)]
      rw [this] at hw5
      exact hw5 G2 _ H2 .refl R2 (.int m)
  · cases ez
end
end TW
set_option linter.all false
set_option Elab.async false
set_option maxRecDepth 100000
namespace TW
open PySem PySem.Spec PyProof.Rows L2
section
variable {P : Addr → Prop} {G G' : Gh} {σ : L2.St} {H H' : Hp} {s s' : Sx} {v : V} {o : Opd} {W : Wish} {X : Cx} {k i : Nat}
def remD : PyData → List PyData → Option (List PyData)
  | .int k, ds => (intsOf ds).bind fun ns => if k ∈ ns then some ((ns.erase k).map PyData.int) else none
  | _, _ => none
def sRem (i : Nat) (e : M Opd) : M Fl := do let _ ← ownL i; let o ← e; let d ← peek o; let ds ← ownL i; let es ← optM (remD d ds); setS i (.own (.list es)); pure .nx
theorem ss_rem {x : Str} {p apos cpos pos : Pos} {e : Expr} {m : M Opd} (C : Cok X k) (h : Sd X W e m) (hi : X.N[i]? = some x) (hv : Vis X.env.scope x)
    (hb : attributeBase (.Name x p) "remove" X.env (eval (.Name x p) X.env) = eval (.Name x p) X.env := by rfl)
    (h1 : ((backTo cpos (starEach [e] X.env)).all (fun x => !x.1) && (backToKw cpos (keywordEach [] X.env)).all (fun x => x.1.isSome)
      && decide (([e] : List Expr).length + ([] : List Keyword).length + (if ([] : List Keyword).isEmpty then 0 else 1) < 30)) = true := by rfl)
    (h2 : (apos.endLine == cpos.line) = true := by rfl) (h3 : starEach (e :: []) X.env = (false, eval e X.env) :: starEach [] X.env := by rfl) (h4 : ((backTo cpos (starEach [] X.env)).any fun x => x.fst) = false := by rfl)
    (hd : (x == ("__debug__" : Str)) = false := by decide) (hcd : (x == ("__classdict__" : Str)) = false := by decide) (hs : swapsWith (.Call (.Attribute (.Name x p) "remove" apos) [e] [] cpos) none pos.line X.env = pure false := by rfl) :
    SdS X W (.Expr (.Call (.Attribute (.Name x p) "remove" apos) [e] [] cpos) pos) (sRem i m) := by
  obtain ⟨te, pe, ce⟩ := h.ex
  refine ⟨_, ps_expr (pe_remX C.calm takes_no (pe_var hi hv hd hcd) pe hb h1 h2 h3 h4) hs, ?_⟩
  intro P G σ H s D R hw
  unfold sRem at hw
  obtain ⟨ds, a, xs, e1, e2, e3, r, nF, hw1⟩ := ownL_ok R (W.stuck _ _ _) hw
  refine ⟨.ref a, e2, .inl ⟨rfl, xs, SqL.of e3⟩, ?_⟩
  refine ce.bind PostS.mono R hw1 fun o1 s1 G1 v1 H1 x1 R1 r1 hw2 => ?_
  obtain ⟨d, c1, hw3⟩ := peek_ok R1 r1 (W.stuck _ _ _) hw2
  obtain ⟨ds', a', xs', e1', e2', e3', r', nF', hw4⟩ := ownL_ok R1 (W.stuck _ _ _) hw3
  rw [e2] at e2'
  cases e2'
  rw [pw_bind, pw_optM (W.stuck _ _ _)] at hw4
  obtain ⟨es, ez, hw5⟩ := hw4
  unfold remD at ez
  split at ez
  · rename_i k0
    obtain ⟨ns, q1, q2⟩ := Option.bind_eq_some_iff.mp ez
    obtain rfl := intsOf_eq q1
    split at q2 <;> cases q2
    rename_i hk
    have hv1 : v1 = .int k0 := Fz.int_inv c1
    subst hv1
    rw [r'.ints] at e3'
    refine ⟨a, ns, k0, rfl, rfl, e3', fun _ => ?_, fun z => absurd hk z⟩
    obtain ⟨x3, R3⟩ := R1.change (u := .lst ((ns.erase k0).map V.int)) (d' := .list ((ns.erase k0).map PyData.int)) e1' e2 ⟨_, upd_same, FzA.of_ints⟩
    exact hw5 _ _ _ x3 R3
  · cases ez
theorem SdT.ptR {e : Expr} {m : M Bool} (h : SdT X W e m) : PT X e (rdT W m) := by
  obtain ⟨te, p, c⟩ := h.ex
  exact ⟨fun pins s σ H Q I ⟨P, G, s', R, hw⟩ => p.run pins s σ H Q I (c P G σ H s' Q R hw)⟩
theorem sxt_of {e : Expr} {m : M Bool} (h : ∀ a oe pn, SdT (X.suite a ((a, oe) :: pn)) Wish.no e m) : SXT X i e (fun _ _ => m) :=
  ⟨fun _ _ _ => rdT Wish.no m, fun a oe cls d pn _ _ => (h a oe pn).ptR, fun a cls d c fs P G σ H s Q K R hw => ⟨P, G, s, R, hw⟩⟩
theorem st_neS {a b : Expr} {pos : Pos} {ma mb : M Opd} (hu : X.A.units + 64 < cLine) (ha : Sd X W a ma) (hb : Sd X W b mb) : SdT X W (.Compare a [.NotEq] [b] pos) (TW.tVal (eCmp .ne ma mb)) := st_opR (op_neD hu) ok_neD ha hb (nomark _)
def rAddK (K : PySem.W.Frag) : R2 := fun x y H Q => rI0 (fun i j => V.int (i + j)) x y H Q ∨ (∃ i j, x = V.str i ∧ y = V.str j ∧ i.length + j.length ≤ sizeLine ∧ Q (V.str (i ++ j)) H) ∨ rCatA K x y H Q ∨ rCat x y H Q
theorem op_addK : OpR X (binaryOp .Add) (rAddK X.K) := op_add.or (op_add_str.or (op_catA.or op_cat))
theorem ok_addK {K : PySem.W.Frag} : OpOk (rAddK K) (binD .add) := by
  intro P G σ H s x y d e z Q R cx cy ez h
  cases d <;> cases e <;> simp only [binD, reduceCtorEq] at ez
  · cases ez
    exact .inl ⟨_, _, cx.int_, cy.int_, h G _ H .refl R (.int _)⟩
  · split at ez <;> cases ez
    rename_i hl
    exact .inr (.inl ⟨_, _, cx.str_, cy.str_, lim_line hl, h G _ H .refl R (.str _)⟩)
  · split at ez <;> cases ez
    rename_i hl
    obtain ⟨a1, xs, e1, h1, r1⟩ := cx
    obtain ⟨a2, ys, e2, h2, r2⟩ := cy
    refine .inr (.inr (.inr ⟨a1, a2, xs, ys, e1, e2, h1, h2, by rw [r1.length, r2.length]; exact lim_line hl, fun p hp => ?_⟩))
    obtain ⟨x, R', r⟩ := R.newLst hp (r1.append r2)
    exact h _ _ _ x R' r
  · split at ez <;> cases ez
    rename_i hl
    obtain ⟨a1, xs, e1, f1, h1, r1⟩ := cx.tup
    obtain ⟨a2, ys, e2, f2, h2, r2⟩ := cy.tup
    refine .inr (.inr (.inl ⟨a1, a2, xs, ys, e1, e2, SqT.of h1, SqT.of h2, by rw [r1.length, r2.length]; exact lim_line hl, fun q => ?_, fun _ q => ?_, fun _ _ p hp => ?_⟩))
    · subst q
      cases r1
      exact h G _ H .refl R (.tup f2 h2 r2)
    · subst q
      cases r2
      rw [List.append_nil] at h
      exact h G _ H .refl R (.tup f1 h1 r1)
    · obtain ⟨x, R', r⟩ := R.newTup hp (r1.append r2)
      exact h _ _ _ x R' r
theorem sx_add {a b : Expr} {pos : Pos} {ma mb : Str → Fs → M Opd} (ha : SX X i a ma) (hb : SX X i b mb) : SX X i (.BinOp a .Add b pos) (fun c fs => eBin .add (ma c fs) (mb c fs)) := by
  obtain ⟨ta, pa, ca⟩ := ha.ex
  obtain ⟨tb, pb, cb⟩ := hb.ex
  refine ⟨fun a cls d => tOp (rAddK X.K) (ta a cls d) (tb a cls d), fun a oe cls d pn hz hf => pe_op (X := X.suite a ((a, oe) :: pn)) op_addK (pa a oe cls d pn hz hf) (pb a oe cls d pn hz hf), ?_⟩
  intro a cls d c fs P G σ H s Q K R hw
  unfold eBin eOp at hw
  refine ca.bind PostV.mono K R hw fun o1 s1 G1 v1 H1 x1 K1 R1 r1 hw1 => ?_
  refine cb.bind PostV.mono K1 R1 hw1 fun o2 s2 G2 v2 H2 x2 K2 R2 r2 hw2 => ?_
  obtain ⟨d1, c1, hw3⟩ := peek_ok R2 (r1.ext x2) (Wish.no.stuck _ _ _) hw2
  obtain ⟨d2, c2, hw4⟩ := peek_ok R2 r2 (Wish.no.stuck _ _ _) hw3
  rw [pw_bind, pw_optM (Wish.no.stuck _ _ _)] at hw4
  obtain ⟨z, ez, hw5⟩ := hw4
  exact ok_addK P G2 σ H2 s2 v1 v2 d1 d2 z Q R2 c1 c2 ez fun G' v H' x R' r => hw5 G' v H' x R' r
theorem sr_2 {e e2 : Expr} {p pos : Pos} {m m2 : M Opd} (hg : Gl X "range") (hm : X.mg "range" = none) (h : Sd X W e m) (h2 : Sd X W e2 m2) (hs : starEach [e, e2] X.env = (false, eval e X.env) :: starEach [e2] X.env := by rfl)
    (hs2 : starEach [e2] X.env = (false, eval e2 X.env) :: starEach [] X.env := by rfl) (hp : (backTo pos (starEach [e2] X.env)).any (·.1) = false := by rfl) : SdR X W (.Call (.Name "range" p) [e, e2] [] pos) (mRg2 m m2) := by
  obtain ⟨te, pe, ce⟩ := h.ex
  obtain ⟨te2, pe2, ce2⟩ := h2.ex
  refine ⟨_, prg_2 hg hm pe pe2 hs hs2 hp, ?_⟩
  intro P G σ H s Q R hw
  unfold mRg2 at hw
  have mono : Mono P (fun G H (ds : List PyData) s' => ∀ G' H' a b, Ext P G H G' H' → Rel P G' σ H' s' → ds = rgD a b → RgOk a b → Q a b H') := fun G H G1 H1 ds s x q G' H' a b y => q G' H' a b (x.trans y)
  refine ce.bind (Qp := fun G H ds s' => ∀ G' H' a b, Ext P G H G' H' → Rel P G' σ H' s' → ds = rgD a b → RgOk a b → Q a b H') mono R hw fun o1 s1 G1 v1 H1 x1 R1 r1 hw1 => ?_
  refine ce2.bind (Qp := fun G H ds s' => ∀ G' H' a b, Ext P G H G' H' → Rel P G' σ H' s' → ds = rgD a b → RgOk a b → Q a b H') mono R1 hw1 fun o2 s2 G2 v2 H2 x2 R2 r2 hw2 => ?_
  obtain ⟨d, c1, hw3⟩ := peek_ok R2 (r1.ext x2) (W.stuck _ _ _) hw2
  obtain ⟨d2, c2, hw4⟩ := peek_ok R2 r2 (W.stuck _ _ _) hw3
  cases d with
  | int i =>
    cases d2 with
    | int j =>
      have hw4 : pw (if rgOk i j = true then pure (rgD i j) else stuck) s2 (fun ds s' => ∀ G' H' a b, Ext P G2 H2 G' H' → Rel P G' σ H' s' → ds = rgD a b → RgOk a b → Q a b H') (W.w P G2 H2) := hw4
      split at hw4
      · rename_i hj
        exact ⟨i, j, c1.int_, c2.int_, hw4 G2 H2 i j .refl R2 rfl (rgOk_ok hj)⟩
      · exact absurd hw4 (W.stuck _ _ _)
    | none => exact absurd hw4 (W.stuck _ _ _)
    | bool _ => exact absurd hw4 (W.stuck _ _ _)
    | str _ => exact absurd hw4 (W.stuck _ _ _)
    | list _ => exact absurd hw4 (W.stuck _ _ _)
    | tuple _ => exact absurd hw4 (W.stuck _ _ _)
    | dict _ => exact absurd hw4 (W.stuck _ _ _)
  | none => exact absurd hw4 (W.stuck _ _ _)
  | bool _ => exact absurd hw4 (W.stuck _ _ _)
  | str _ => exact absurd hw4 (W.stuck _ _ _)
  | list _ => exact absurd hw4 (W.stuck _ _ _)
  | tuple _ => exact absurd hw4 (W.stuck _ _ _)
  | dict _ => exact absurd hw4 (W.stuck _ _ _)
end
end TW
set_option linter.all false
set_option Elab.async false
set_option maxRecDepth 100000
namespace SrtO
open PySem PyProof.Rows Srt
section
variable {prog : Program} {w : World} {A : Around} {E : Value → Shared → Prop} {s : Shared}
theorem collect_tup {l : Addr} {vs : List Value} {Q : List Value → Shared → Prop} (hl : s.heap.IsTuple l vs.toArray)
    (h : Q vs { s with heap := (s.heap.push (seqObj "list" #[] 0)).update s.heap.objs.size (Obj.mapSeq (· ++ vs.toArray)) }) (hsz : vs.length ≤ sizeLine := by size_fits) :
    wpAny (model prog w) A (collect (.ref l)) Q E s := by
  obtain ⟨o, ho, hc, n, hd⟩ := id hl
  unfold collect
  refine wpAny_bind (wpAny_runValue (codeAny_builtin entry_proto_collect' ?_))
  show wpAny _ _ (do again (.builtin "list.__iadd__" ⟨[← newList [], .ref l], []⟩)) _ _ s
  refine wpAny_bind (wpAny_newList (wpAny_pure ⟨Code.quiet_builtin _ (by decide +kernel), codeAny_builtin entry_list_iadd' ?_⟩))
  show wpAny _ _ (Builtin.List.listExtendWith (.ref s.heap.objs.size) (.ref l) (.ref s.heap.objs.size)) _ _ { s with heap := s.heap.push (seqObj "list" #[] 0) }
  unfold Builtin.List.listExtendWith
  have ho' : (s.heap.push (seqObj "list" #[] 0)).get? l = some o := Heap.get?_push_of_some _ ho
  refine wpAny_bind (wpAny_typeOf (T := "tuple") ⟨o, ho', hc⟩ ?_)
  have ht : (Value.type "tuple" == Value.type "tuple") = true := by rfl
  rw [if_pos (by rw [ht]; simp)]
  refine wpAny_bind (listItems_at ho' hd ?_)
  refine wpAny_bind (listItems_at (xs := #[]) (n := 0) (Heap.get?_push_size _ rfl) rfl ?_)
  rw [if_neg (by simp)]
  refine wpAny_bind (listUpdate_at (xs := #[]) (n := 0) (Heap.get?_push_size _ rfl) rfl ?_ (Nat.zero_le _) (by show (#[] ++ vs.toArray).size ≤ sizeLine + 1; simp only [Array.size_append, List.size_toArray, List.length_nil]; omega))
  refine wpAny_pure ?_
  show wpAny (model prog w) A (do
      let o ← load s.heap.objs.size
      match o.data with
      | .seq xs _ => pure xs.toList
      | _ => unsupported "internal:collect") Q E { s with heap := (s.heap.push (seqObj "list" #[] 0)).update s.heap.objs.size (Obj.mapSeq (· ++ vs.toArray)) }
  refine wpAny_bind (wpAny_load (get?_update_seq (Heap.get?_push_size _ rfl) _) ?_)
  show wpAny _ _ (pure ((#[] : Array Value) ++ vs.toArray).toList) Q E _
  rw [show ((#[] : Array Value) ++ vs.toArray).toList = vs by simp]
  exact wpAny_pure h
theorem sorted_tupO {l : Addr} {vs : List Value} {ltv : Value → Value → Bool} {Q : Value → Shared → Prop} (O : Swo ltv) (hl : s.heap.IsTuple l vs.toArray) (hz : vs.length ≤ sizeLine)
    (hS : 2 ≤ vs.length → ∀ (h₁ : Heap) (a : Addr), h₁.get? a = some (seqObj "list" vs.toArray 0) → (∀ b o, s.heap.get? b = some o → b ≠ a ∧ h₁.get? b = some o) → SortableO prog w A.in1.in1 { s with heap := h₁ } a vs ltv)
    (h : ∀ out : List Value, Srtd ltv out → Stb ltv out vs → Q (.ref (s.heap.objs.size + 1)) { s with heap := sortedAll s.heap vs out.toArray }) :
    wpAny (model prog w) A (call (.builtin "sorted") [.ref l]) Q E s := by
  refine Calls.call_function_entry kind_sorted plain_sorted entry_sorted (args_sorted1 _) ?_
  unfold Builtin.«sorted»
  refine wpAny_bind (m := checkCount "sorted" 1 1 _) (wpAny_pure ?_)
  refine wpAny_bind (collect_tup hl ?_ hz)
  refine wpAny_bind (wpAny_newList ?_ hz)
  have hsz : ((s.heap.push (seqObj "list" #[] 0)).update s.heap.objs.size (Obj.mapSeq (· ++ vs.toArray))).objs.size = s.heap.objs.size + 1 := by
    rw [Heap.size_update, size_push']
  have hoL : (((s.heap.push (seqObj "list" #[] 0)).update s.heap.objs.size (Obj.mapSeq (· ++ vs.toArray))).push (seqObj "list" vs.toArray 0)).get? (s.heap.objs.size + 1) = some (seqObj "list" vs.toArray 0) := by
    rw [← hsz]; exact Heap.get?_push_size _ rfl
  have keep : ∀ b o, s.heap.get? b = some o → b ≠ s.heap.objs.size + 1 ∧ (((s.heap.push (seqObj "list" #[] 0)).update s.heap.objs.size (Obj.mapSeq (· ++ vs.toArray))).push (seqObj "list" vs.toArray 0)).get? b = some o := fun b o q => by
    have hlt : b < s.heap.objs.size := Heap.lt_size q
    refine ⟨Nat.ne_of_lt (Nat.lt_succ_of_lt hlt), Heap.get?_push_of_some _ ?_⟩
    rw [Heap.get?_update_ne _ _ _ _ (Nat.ne_of_lt hlt)]
    exact Heap.get?_push_of_some _ q
  show wpAny _ _ _ _ _ { s with heap := ((s.heap.push (seqObj "list" #[] 0)).update s.heap.objs.size (Obj.mapSeq (· ++ vs.toArray))).push (seqObj "list" vs.toArray 0) }
  rw [hsz]
  refine wpAny_bind (wpAny_holding (wpAny_call_entry slot_list_sort ⟨_, hoL, rfl⟩ entry_list_sort (list_sort_ord O hoL hz (fun h2 => hS h2 _ _ hoL keep) fun out hs hb => ⟨_, rfl, ?_⟩) (args_list_sort _)))
  exact wpAny_pure ⟨_, rfl, h out hs hb⟩
end
end SrtO
namespace TW
open PySem PySem.Spec PyProof.Rows L2
def rSortedU (K : PySem.W.Frag) : List V → Hp → VK → Prop := fun vs H Q => ∃ (a : Addr) (ns : List Int), vs = [V.ref a] ∧ SqT K H a (ns.map V.int) ∧ ∀ (ns' : List Int) (p : Addr), ns'.Perm ns → ns'.Pairwise (· ≤ ·) → H p = none → Q (.ref p) (upd H p (.lst (ns'.map V.int)))
section
variable {P : Addr → Prop} {G G' : Gh} {σ : L2.St} {H H' : Hp} {s s' : Sx} {v : V} {o : Opd} {W : Wish} {X : Cx} {k i : Nat}
theorem cr_sortedU : CallR X (.builtin "sorted") (rSortedU X.K) := by
  intro pins s σ H vs us Q I r h
  obtain ⟨a, ns, rfl, hs, q⟩ := h
  obtain ⟨its, rv, hl, hz⟩ := I.tuple hs
  rw [Vals.ref1 r]
  have hi := rv.ints
  have hl : s.heap.IsTuple a its.toArray := hl
  have hz2 : its.length ≤ sizeLine := by rw [← rv.length]; exact hz
  refine SrtO.sorted_tupO SrtO.swo_int hl hz2 (fun h2 h₁ a' _ _ => SrtO.ints_sortable hi h2) fun out h1 h2 => ?_
  obtain ⟨k1, k2, k3⟩ := SrtO.ints_out hi h1 h2
  obtain ⟨ep, he'⟩ := PyProof.Rows.sortedAll_at s.heap its out.toArray
  have hlen : ((out.map SrtO.iv).map V.int).length ≤ sizeLine := by
    rw [List.length_map, k2.length_eq]
    rw [List.length_map] at hz
    exact hz
  exact ⟨.ref _, upd H (s.heap.objs.size + 1) (.lst ((out.map SrtO.iv).map V.int)), I.laid (t' := s.toks) (fun _ _ => PyProof.Rows.sortedAll_old) (Nat.le_succ _) ⟨hlen, out, ep, vals_of_ints k1, he'⟩, rfl, q _ _ k2 k3 (I.hok.fresh (Nat.le_succ _))⟩
def sortedU : List PyData → Option PyData
  | [.tuple ds] => (intsOf ds).map fun ns => .list ((sortI ns).map PyData.int)
  | _ => none
theorem ok_sortedU : CallOk (rSortedU X.K) sortedU := by
  intro P G σ H s vs ds z Q R cc ez h
  unfold sortedU at ez
  split at ez
  · rename_i ds
    cases q : intsOf ds with
    | none => rw [q] at ez; cases ez
    | some ns =>
      rw [q] at ez
      cases ez
      obtain ⟨v, rfl, c⟩ := one_of cc
      obtain ⟨a, xs, rfl, f, e, r⟩ := c.tup
      rw [intsOf_eq q] at r
      refine ⟨a, ns, rfl, SqT.of (by rw [e, r.ints]), fun ns' p hp hs hn => ?_⟩
      rw [sortI_one hp hs]
      obtain ⟨x, R', r'⟩ := R.newLst hn (FzA.of_ints (F := G.F) (ns := sortI ns))
      exact h _ _ _ x R' r'
  · cases ez
end
theorem insI_le (k : Int) : ∀ l : List Int, (insI k l).length ≤ l.length + 1
  | [] => by simp [insI]
  | a :: r => by
    have := insI_le k r
    unfold insI
    repeat' split
    all_goals (simp only [List.length_cons]; omega)
theorem sortS_le : ∀ ns : List Int, (sortS ns).length ≤ ns.length
  | [] => Nat.le_refl _
  | a :: r => by
    have h1 := insI_le a (sortS r)
    have h2 := sortS_le r
    show (insI a (sortS r)).length ≤ r.length + 1
    omega
def lenSetW : List PyData → Option PyData
  | [.list ds] => (intsOf ds).bind fun ns => if ns.length ≤ 4000 then some (.int ((sortS ns).length : Nat)) else none
  | [.tuple ds] => (intsOf ds).bind fun ns => if ns.length ≤ 4000 then some (.int ((sortS ns).length : Nat)) else none
  | _ => none
def rLSW (K : PySem.W.Frag) : List V → Hp → VK → Prop := fun vs H Q => ∃ (a : Addr) (ns : List Int), vs = [.ref a] ∧ (SqL K H a (ns.map V.int) ∨ SqT K H a (ns.map V.int)) ∧ ns.length ≤ 4000 ∧ Q (.int ((sortS ns).length : Nat)) H
theorem set_ofW {X : Cx} {pins : List (Addr × Obj)} {s : Shared} {σ : L2.St} {H : Hp} {vs : List V} {us : List Value} {a : Addr} {ns : List Int} {Q : Value → Shared → Prop} (hc : X.calm = true) (I : Inv X pins σ H s) (r : Vals vs us) (ev : vs = [.ref a])
    (hq : SqL X.K H a (ns.map V.int) ∨ SqT X.K H a (ns.map V.int)) (hl : ns.length ≤ 4000)
    (h : ∀ (h' : Heap) (tk c : Nat), SetR X.w h' s.heap.objs.size (fun j => decide (j ∈ ns)) c → c = (sortS ns).length → (∀ b o, s.heap.get? b = some o → h'.get? b = some o) → Q (.ref s.heap.objs.size) { s with heap := h', toks := tk }) :
    wpAny (model X.prog X.w) X.A (call (.type "set") us) Q X.xe s := by
  subst ev
  rw [Vals.ref1 r]
  have fin : ∀ (h' : Heap) (tk c : Nat), SetR X.w h' s.heap.objs.size (fun j => decide (j ∈ ns)) c → c ≤ ns.length → (∀ b o, s.heap.get? b = some o → h'.get? b = some o) → Q (.ref s.heap.objs.size) { s with heap := h', toks := tk } := fun h' tk c R _ k => by
    refine h h' tk c R ?_ k
    obtain ⟨o, es, ep, t, ho, hex, hdt, g, nd, hmm, hb, hf, hn, hr, hl2⟩ := R
    have z := length_sortS (l := ns) nd fun k => by rw [← hmm k, decide_eq_true_eq]
    rw [List.length_map, Array.length_toList] at z
    rw [← z, hn]
  rcases hq with hq | hq
  · obtain ⟨its, rv, pt, hz⟩ := I.list hq
    have hi : IntsAre its.toArray.toList ns := ints_of_vals rv
    exact call_set_lstI ns (I.ok.hd hc) pt.isList hi (by unfold scanBound; omega) fin
  · obtain ⟨its, rv, pt, hz⟩ := I.tuple hq
    have hi : IntsAre its.toArray.toList ns := ints_of_vals rv
    exact call_set_tupI ns (I.ok.hd hc) (show s.heap.IsTuple a its.toArray from pt) hi (by unfold scanBound; omega) fin
section
variable {X : Cx} {e : Expr} {ta : TA} {p p2 pos pos2 : Pos}
theorem pe_LSW (hc : X.calm = true) (hg : Gl X "len") (hm : X.mg "len" = none) (hg2 : Gl X "set") (hm2 : X.mg "set" = none) (ha : PA X [e] ta)
    (hs : starEach [e] X.env = [(false, eval e X.env)] := by rfl) (hs2 : starEach [.Call (.Name "set" p2) [e] [] pos2] X.env = [(false, eval (.Call (.Name "set" p2) [e] [] pos2) X.env)] := by rfl) : PE X (.Call (.Name "len" p) [.Call (.Name "set" p2) [e] [] pos2] [] pos) (tCB (rLSW X.K) ta) := by
  refine ⟨fun pins s σ H Q I h => ?_⟩
  refine Call_ (ld_blt I hg hm boot_len ?_)
  refine PyProof.Rows.callWith_builtin1 (PyProof.Rows.args_cons ?_ hs2) hs2 rfl
  refine Call_ (ld_blt I hg2 hm2 boot_set ?_)
  refine PyProof.Rows.callWith_type1 (thn (ha.run pos2 pins s σ H _ I h) fun us s1 ⟨vs, H1, I1, r1, q1⟩ => ?_) hs rfl
  obtain ⟨a, ns, ev, hq, hl, q⟩ := q1
  refine set_ofW hc I1 r1 ev hq hl fun h' tk c R hcn k => ?_
  refine PyProof.Rows.args_nil ?_
  have I2 : Inv X pins σ H1 { s1 with heap := h', toks := tk } := I1.kept fun b o e => k b o e
  obtain ⟨o, es, ep, t, ho, hex, hdt, g, nd, hmm, hb, hf, hn, hr, hl2⟩ := R
  have hlen : es.size = (sortS ns).length := hn.trans hcn
  exact call_len_set ho hex hdt hf (by rw [hlen]; have := sortS_le ns; omega) ⟨.int ((sortS ns).length : Nat), H1, I2.tok _, ⟨_, by rw [hlen]⟩, q⟩
end
section
variable {G : Gh} {W : Wish} {X : Cx} {k : Nat}
theorem ok_LSW : CallOk (rLSW X.K) lenSetW := by
  intro P G σ H s vs ds z Q R cc ez h
  unfold lenSetW at ez
  split at ez
  · rename_i ds
    cases q : intsOf ds with
    | none => rw [q] at ez; cases ez
    | some ns =>
      rw [q] at ez
      simp only [Option.bind_some] at ez
      split at ez <;> cases ez
      rename_i hl
      obtain ⟨v, rfl, a, xs, rfl, e, r⟩ := one_of cc
      rw [intsOf_eq q] at r
      exact ⟨a, ns, rfl, .inl (SqL.of (by rw [e, r.ints])), hl, h G _ H .refl R (.int _)⟩
  · rename_i ds
    cases q : intsOf ds with
    | none => rw [q] at ez; cases ez
    | some ns =>
      rw [q] at ez
      simp only [Option.bind_some] at ez
      split at ez <;> cases ez
      rename_i hl
      obtain ⟨v, rfl, c⟩ := one_of cc
      obtain ⟨a, xs, rfl, f, e, r⟩ := c.tup
      rw [intsOf_eq q] at r
      exact ⟨a, ns, rfl, .inr (SqT.of (by rw [e, r.ints])), hl, h G _ H .refl R (.int _)⟩
  · cases ez
variable {e : Expr} {p p2 pos pos2 : Pos} {ma : M (List Opd)}
theorem sd_LSW (C : Cok X k) (hg : Gl X "len") (hm : X.mg "len" = none) (hg2 : Gl X "set") (hm2 : X.mg "set" = none) (ha : SdA X W [e] ma)
    (hs : starEach [e] X.env = [(false, eval e X.env)] := by rfl) (hs2 : starEach [.Call (.Name "set" p2) [e] [] pos2] X.env = [(false, eval (.Call (.Name "set" p2) [e] [] pos2) X.env)] := by rfl) : Sd X W (.Call (.Name "len" p) [.Call (.Name "set" p2) [e] [] pos2] [] pos) (eFn lenSetW ma) := by
  obtain ⟨ta, pa, ca⟩ := ha.ex
  exact ⟨_, pe_LSW C.calm hg hm hg2 hm2 pa hs hs2, cl_fn ok_LSW ca⟩
end
end TW
set_option linter.all false
set_option Elab.async false
set_option maxRecDepth 100000
namespace L2
open PySem PySem.Spec PyProof.Rows
def eqBk (k : Bool) (v : Value) : Bool := match v with
  | .bool n => n == k
  | _ => false
theorem bools_at {k : Bool} (A : Around) (s : Shared) : ∀ {us : List Value} {ns : List Bool}, Vals (ns.map V.bl) us → ∀ y ∈ us, SeqAt.EqAt A s y (.bool k) (eqBk k y)
  | _, [], r => by
    rw [List.map_nil] at r
    cases r
    exact fun y hy => by cases hy
  | _, n :: ns, r => by
    rw [List.map_cons] at r
    cases r with
    | cons r1 r2 =>
      cases r1
      intro y hy
      rcases List.mem_cons.mp hy with e | e
      · rw [e]
        exact SeqAt.EqAt.bool_bool n k
      · exact bools_at A s r2 y e
theorem bools_count {k : Bool} : ∀ {us : List Value} {ns : List Bool}, Vals (ns.map V.bl) us → us.countP (eqBk k) = ns.count k
  | _, [], r => by
    rw [List.map_nil] at r
    cases r
    rfl
  | _, n :: ns, r => by
    rw [List.map_cons] at r
    cases r with
    | cons r1 r2 =>
      cases r1
      have ih := bools_count (k := k) r2
      rw [List.countP_cons, List.count_cons, ih] <;> rfl
section
variable {X : Cx}
def rCntB (K : PySem.W.Frag) : V → List V → Hp → VK → Prop := fun x xs H Q => ∃ (p : Addr) (ns : List Bool) (k : Bool), x = .ref p ∧ xs = [.bl k] ∧ SqL K H p (ns.map V.bl) ∧ Q (.int (ns.count k : Nat)) H
theorem mt_lcountB : MtR X "list.count" (rCntB X.K) := by
  intro pins s σ H x xs v us Q I rx rxs h
  obtain ⟨p, ns, k, rfl, rfl, hs, q⟩ := h
  cases rx
  obtain ⟨u, rfl, ru⟩ := rxs.one
  cases ru
  obtain ⟨its, rv, ⟨⟨cls, dd, data, sl⟩, n, ho, hc, hdn, hd⟩, hlen⟩ := I.list hs
  simp only at hc hd
  subst hc hd
  refine call_meets PySem.F.slot_list_count ⟨_, ho, rfl⟩ PySem.F.entry_list_count (PySem.F.args_list_count_2 _ _)
    (SeqAt.list_countAt p its.toArray n dd sl (.bool k) (eqBk k)) ⟨ho, fun y hy => bools_at _ _ rv y (by simpa using hy), ?_⟩
  have ec : its.toArray.toList.countP (eqBk k) = ns.count k := bools_count rv
  refine ⟨.int (ns.count k : Nat), H, I.tok _, ⟨s.toks, ?_⟩, q⟩
  show Value.int ((its.toArray.toList.countP (eqBk k) : Nat) : Int) s.toks = Value.int ((ns.count k : Nat) : Int) s.toks
  rw [ec]
end
end L2
namespace TW
open PySem PySem.Spec PyProof.Rows L2
variable {X : Cx} {W : Wish}
def cntB : PyData → PyData → Option PyData
  | .list ds, .bool i => (boolsOf ds).map fun ns => .int (ns.count i : Nat)
  | _, _ => none
def eCntB (a b : M Opd) : M Opd := do let o ← a; let x0 ← peek o; if isLst x0 = true then (do let p ← b; let x ← peek o; let y ← peek p; let z ← optM (cntB x y); pure (.val z)) else stuck
theorem sd_countB {a e : Expr} {apos cpos : Pos} {ma mb : M Opd} (ha : Sd X W a ma) (he : Sd X W e mb)
    (hb : attributeBase a "count" X.env (eval a X.env) = eval a X.env := by rfl)
    (h1 : (((((backTo cpos (starEach (e :: []) X.env)).all fun x => !x.fst) && (backToKw cpos (keywordEach [] X.env)).all fun x => x.fst.isSome) && decide (((e :: []).length + ([] : List Keyword).length + if ([] : List Keyword).isEmpty = true then 0 else 1) < 30)) = true) := by rfl)
    (h2 : (apos.endLine == cpos.line) = true := by rfl) (h3 : starEach (e :: []) X.env = (false, eval e X.env) :: starEach [] X.env := by rfl) (h4 : ((backTo cpos (starEach [] X.env)).any fun x => x.fst) = false := by rfl) :
    Sd X W (.Call (.Attribute a "count" apos) [e] [] cpos) (eCntB ma mb) := by
  obtain ⟨ta, pa, ca⟩ := ha.ex
  obtain ⟨te, pe, ce⟩ := he.ex
  refine ⟨_, pe_bm PySem.F.plainAttrs_list PySem.F.slot_list_count PySem.F.type_list_count mt_lcountB pa (pa_cons pe pa_nil h3) hb h1 h2 h3 h4, ?_⟩
  intro P G σ H s Q R hw
  unfold eCntB at hw
  refine ca.bind PostV.mono R hw fun o1 s1 G1 v1 H1 x1 R1 r1 hw1 => ?_
  obtain ⟨x0, c1, hw2⟩ := peek_ok R1 r1 (W.stuck _ _ _) hw1
  split at hw2
  · rename_i hd
    cases x0 <;> simp only [isLst, Bool.false_eq_true] at hd
    obtain ⟨a, xs, ev, e0, rr⟩ := c1
    subst ev
    refine ⟨.inl ⟨rfl, xs, SqL.of e0⟩, ?_⟩
    refine ce.bind PostV.mono R1 hw2 fun o2 s2 G2 v2 H2 x2 R2 r2 hw3 => ?_
    obtain ⟨x, c2, hw4⟩ := peek_ok R2 (OR.ext x2 r1) (W.stuck _ _ _) hw3
    obtain ⟨y, c3, hw5⟩ := peek_ok R2 r2 (W.stuck _ _ _) hw4
    rw [pw_bind, pw_optM (W.stuck _ _ _)] at hw5
    obtain ⟨z, ez, hw6⟩ := hw5
    cases x <;> cases y <;> simp only [cntB, reduceCtorEq] at ez
    rename_i ds i
    obtain ⟨ns, q, rfl⟩ := Option.map_eq_some_iff.mp ez
    obtain ⟨a2, xs2, ev, e2, r2'⟩ := c2
    cases ev
    rw [boolsOf_eq q] at r2'
    exact ⟨a, ns, i, rfl, by rw [c3.bool_inv], SqL.of (by rw [e2, r2'.bools]), hw6 G2 _ H2 .refl R2 (.int _)⟩
  · exact absurd hw2 (W.stuck _ _ _)
end TW
set_option linter.all false
set_option Elab.async false
set_option maxRecDepth 100000
set_option maxHeartbeats 0
namespace K51
open PySem PySem.Spec PyProof.Rows L2 TW
def m_is_order : M Fl :=
(TW.sRet (TW.eAnd (eCall 4 K02.f_are_integers (aCons (eVar 0) (aCons (eVar 1) (aCons (eC (.int 0)) (aCons (eBin .sub (eVar 1) (eC (.int 1))) aNil))))) (eCmp .eq (eFn lenSetW (aCons (eVar 0) aNil)) (eVar 1))))
def f_is_order : Sem := runF 2 m_is_order
def m_held_counts_1 : M Fl :=
(TW.sRet (eVar 3))
def m_held_counts_2 : M Fl :=
(sRem 2 (eVar 1))
def m_held_counts_3 : M Fl :=
(sApp 3 (eFn lenD (aCons (eNw (nHide 2 fun ds => (nCmp [4] (pure ds) (tgName 4) (TW.tVal (eCmp .lt (eVar 4) (eVar 1))) (eVar 4)))) aNil)))
def m_held_counts_4 : M Fl :=
(TW.sSeq m_held_counts_3 m_held_counts_2)
def m_held_counts_5 : M Fl :=
(TW.sFor (iSeqM (eVar 0)) (tgName 1)
m_held_counts_4)
def m_held_counts_6 : M Fl :=
(TW.sSeq m_held_counts_5 m_held_counts_1)
def m_held_counts_7 : M Fl :=
(sParP [2, 3] (pOwn (nLstRg (mRg1 (eFn lenD (aCons (eVar 0) aNil)))) (pOwn (nLst aNil) pNil)))
def m_held_counts : M Fl :=
(TW.sSeq m_held_counts_7 m_held_counts_6)
def f_held_counts : Sem := runF 5 m_held_counts
def m_order_hold : M Fl :=
(TW.sSeq (TW.sIf (TW.tOr (TW.tNot (TW.tVal (eIs .tuple (eVar 0)))) (TW.tOr (TW.tVal (eCmp .gt (eFn lenD (aCons (eVar 0) aNil)) (eC (.int 200)))) (TW.tNot (TW.tVal (eCall 2 f_is_order (aCons (eVar 0) (aCons (eFn lenD (aCons (eVar 0) aNil)) aNil)))))))
(sRaise "BadOrder" ["given"] (aCons (eVar 0) aNil))
TW.sSkip)
(TW.sRet (eOp maxDD (eCall 1 f_held_counts (aCons (eVar 0) aNil)) (eC (.int 0)))))
def f_order_hold : Sem := runF 1 m_order_hold
def m_come_log : M Fl :=
(TW.sSeq (TW.sIf (TW.tNot (TW.tVal (eCall 2 f_is_order (aCons (eVar 1) (aCons (eFn lenD (aCons (eVar 0) aNil)) aNil)))))
(sRaise "BadOrder" ["given"] (aCons (eVar 1) aNil))
TW.sSkip)
(TW.sRet (eFn tupleD (aCons (eNw (nCmp [2] (iSeqM (eVar 1)) (tgName 2) (pure true) (eIx (eVar 0) (eVar 2)))) aNil))))
def f_come_log : Sem := runF 3 m_come_log
def wr_law_tried : Wr := Wr.bare
def cl_law_tried : Clz := [(tabL [("BadOrder", true)], fun c fs =>
(TW.sSeq (TW.sAsg 2 (eNw (nLst (aCons (isM (tabL [("BadOrder", true)]) c) (aCons (isM (tabL [("BadOrder", false)]) c) (aCons (isM (tabL [("BadOrder", false)]) c) aNil))))))
(TW.sSeq (TW.sAsg 2 (eBin .add (eVar 2) (eNw (nLst (aCons (isM (tabL [("BadOrder", false)]) c) (aCons (isM (tabL [("BadOrder", false)]) c) aNil))))))
(TW.sSeq (TW.sIf (TW.tOr (TW.tVal (eCmp .ne (eCntB (eVar 2) (eC (.bool true))) (eC (.int 1)))) (TW.tNot (TW.tVal (isM (tabL [("BadOrder", true)]) c))))
(TW.sRet (eNw (nLst (aCons (eC (.str "other")) aNil))))
TW.sSkip)
(TW.sSeq (TW.sIf (TW.tOr (TW.tVal (eIx (eVar 2) (eC (.int 0)))) (TW.tVal (eIx (eVar 2) (eC (.int 1)))))
(TW.sRet (TW.eIf (TW.tVal (eIx (eVar 2) (eC (.int 0)))) (eNw (nLst (aCons (eC (.str "order")) (aCons (fldM (inL ["BadOrder"]) "given" c fs) aNil)))) (eNw (nLst (aCons (eC (.str "hold")) (aCons (fldM (inL []) "hold" c fs) aNil))))))
TW.sSkip)
(TW.sSeq (TW.sIf (TW.tVal (eIx (eVar 2) (eC (.int 2))))
(TW.sRet (eNw (nLst (aCons (eC (.str "index")) (aCons (fldM (inL []) "index" c fs) aNil)))))
TW.sSkip)
(TW.sRet (TW.eIf (TW.tVal (eIx (eVar 2) (eC (.int 3)))) (eNw (nLst (aCons (eC (.str "many")) (aCons (fldM (inL []) "many" c fs) aNil)))) (eNw (nLst (aCons (eC (.str "state")) (aCons (fldM (inL []) "state" c fs) aNil))))))))))))]
def m_law_is_order : M Fl :=
(TW.sSeq (TW.sIf (TW.tOr (TW.tNot (TW.tVal (eIs .tuple (eVar 0)))) (TW.tVal (eCmp .ne (eFn lenD (aCons (eVar 0) aNil)) (eVar 1))))
(TW.sRet (eC (.bool false)))
TW.sSkip)
(TW.sSeq (TW.sIf (TW.tVal (eOp ne0D (eNw (nCmp [2] (iSeqM (eVar 0)) (tgName 2) (TW.tNot (TW.tVal (eCall 3 K02.f_law_whole (aCons (eVar 2) (aCons (eC (.int 0)) (aCons (eBin .sub (eVar 1) (eC (.int 1))) aNil)))))) (eVar 2))) (eNw (nLst aNil))))
(TW.sRet (eC (.bool false)))
TW.sSkip)
(TW.sRet (eCmp .eq (eFn sortedU (aCons (eVar 0) aNil)) (eNw (nLstRg (mRg1 (eVar 1))))))))
def f_law_is_order : Sem := runF 3 m_law_is_order
def m_law_count_1 : M Fl :=
(TW.sRet (eVar 1))
def m_law_count_2 : M Fl :=
(TW.sAsg 1 (eFn max2D (aCons (eVar 1) (aCons (eFn lenD (aCons (eNw (nCmp [3] (iSeqM (eSlc (eVar 0) (pSome (eBin .add (eVar 2) (eC (.int 1)))) pNone)) (tgName 3) (TW.tVal (eCmp .lt (eVar 3) (eIx (eVar 0) (eVar 2)))) (eC (.int 1)))) aNil)) aNil))))
def m_law_count_3 : M Fl :=
(TW.sFor (iRg1 (eFn lenD (aCons (eVar 0) aNil))) (tgName 2)
m_law_count_2)
def m_law_count_4 : M Fl :=
(TW.sSeq m_law_count_3 m_law_count_1)
def m_law_count_5 : M Fl :=
(TW.sAsg 1 (eC (.int 0)))
def m_law_count : M Fl :=
(TW.sSeq m_law_count_5 m_law_count_4)
def f_law_count : Sem := runF 4 m_law_count
def m_law_odd_1 : M Fl :=
(TW.sRet (eCall 2 K02.f_law_one (aCons (eVar 0) (aCons (eBin .add (eVar 1) (eNw (nLst (aCons (eNw nDict0) (aCons (eTup (aCons (eC (.str "log")) aNil)) (aCons (eTup (aCons (eC (.str "safe")) (aCons (eTup aNil) aNil))) (aCons (eTup (aCons (eTup (aCons (eC (.int 0)) (aCons (eC (.int 1)) aNil))) (aCons (eTup (aCons (eC (.int 1)) (aCons (eC (.int 0)) aNil))) aNil))) (aCons (eTup (aCons (eC (.int 0)) (aCons (eC (.int 0)) (aCons (eC (.int 0)) (aCons (eTup aNil) aNil))))) (aCons (eTup (aCons (eC (.int 0)) (aCons (eC (.int 0)) (aCons (eC (.int 1)) aNil)))) aNil))))))))) aNil))))
def m_law_odd_2 : M Fl :=
(TW.sAsg 1 (eNw (nLst (aCons (eC .none) (aCons (eC (.bool true)) (aCons (eC (.bool false)) (aCons (eUn neD (eC (.int 1))) (aCons (eC (.int 0)) (aCons (eC (.int 1)) (aCons (eC (.int 2)) (aCons (eC (.int 3)) (aCons (eC (.int 4)) (aCons (eBin .pow (eC (.int 10)) (eC (.int 39))) (aCons (eC (.str "")) (aCons (eC (.str "0")) (aCons (eC (.str "safe")) (aCons (eTup aNil) (aCons (eTup (aCons (eC (.int 0)) aNil)) (aCons (eTup (aCons (eC (.int 0)) (aCons (eC (.int 1)) aNil))) (aCons (eTup (aCons (eC (.int 1)) (aCons (eC (.int 0)) aNil))) (aCons (eTup (aCons (eTup aNil) aNil)) (aCons (eNw (nLst aNil)) (aCons (eNw (nLst (aCons (eC (.int 0)) aNil))) aNil)))))))))))))))))))))))
def m_law_odd : M Fl :=
(TW.sSeq m_law_odd_2 m_law_odd_1)
def f_law_odd : Sem := runF 2 m_law_odd
def m_law_bent_1 (F : Sem) : M Fl :=
(TW.sRet (eCall 2 K02.f_law_one (aCons (eVar 0) (aCons (eBin .add (eVar 4) (eNw (nLst (aCons (eBin .add (eBin .add (eSlc (eVar 1) pNone (pSome (eVar 3))) (eTup (aCons (eCall 1 f_law_odd (aCons (eVar 0) aNil)) aNil))) (eSlc (eVar 1) (pSome (eVar 3)) pNone)) (aCons (eBin .add (eVar 1) (eSlc (eVar 1) (pSome (eUn neD (eC (.int 1)))) pNone)) aNil))))) aNil))))
def m_law_bent_2 (F : Sem) : M Fl :=
(TW.sAsg 4 (eNw (nLst (aCons (eBin .add (eBin .add (eSlc (eVar 1) pNone (pSome (eVar 3))) (eTup (aCons (eCall 1 f_law_odd (aCons (eVar 0) aNil)) aNil))) (eSlc (eVar 1) (pSome (eBin .add (eVar 3) (eC (.int 1)))) pNone)) (aCons (eBin .add (eSlc (eVar 1) pNone (pSome (eVar 3))) (eSlc (eVar 1) (pSome (eBin .add (eVar 3) (eC (.int 1)))) pNone)) (aCons (eUn backD (eVar 1)) (aCons (eFn listD (aCons (eVar 1) aNil)) aNil)))))))
def m_law_bent_3 (F : Sem) : M Fl :=
(TW.sSeq (m_law_bent_2 F) (m_law_bent_1 F))
def m_law_bent_4 (F : Sem) : M Fl :=
(TW.sAsg 3 (eCall 2 drawF (aCons (eVar 0) (aCons (eBin .add (eFn lenD (aCons (eVar 1) aNil)) (eC (.int 1))) aNil))))
def m_law_bent_5 (F : Sem) : M Fl :=
(TW.sSeq (m_law_bent_4 F) (m_law_bent_3 F))
def m_law_bent_6 (F : Sem) : M Fl :=
(TW.sRet (eBin .add (eBin .add (eSlc (eVar 1) pNone (pSome (eVar 3))) (eTup (aCons (eCall 2 F (aCons (eVar 0) (aCons (eIx (eVar 1) (eVar 3)) aNil))) aNil))) (eSlc (eVar 1) (pSome (eBin .add (eVar 3) (eC (.int 1)))) pNone)))
def m_law_bent_7 (F : Sem) : M Fl :=
(TW.sAsg 3 (eIx (eVar 2) (eCall 2 drawF (aCons (eVar 0) (aCons (eFn lenD (aCons (eVar 2) aNil)) aNil)))))
def m_law_bent_8 (F : Sem) : M Fl :=
(TW.sIf (TW.tAnd (TW.tVal (eOp ne0D (eVar 2) (eNw (nLst aNil)))) (TW.tVal (eCmp .gt (eCall 2 drawF (aCons (eVar 0) (aCons (eC (.int 4)) aNil))) (eC (.int 0)))))
(TW.sSeq (m_law_bent_7 F) (m_law_bent_6 F))
TW.sSkip)
def m_law_bent_9 (F : Sem) : M Fl :=
(TW.sSeq (m_law_bent_8 F) (m_law_bent_5 F))
def m_law_bent_10 (F : Sem) : M Fl :=
(TW.sAsg 2 (eNw (nCmp [5] (iRg1 (eFn lenD (aCons (eVar 1) aNil))) (tgName 5) (TW.tVal (eIs .tuple (eIx (eVar 1) (eVar 5)))) (eVar 5))))
def m_law_bent (F : Sem) : M Fl :=
(TW.sSeq (m_law_bent_10 F) (m_law_bent_9 F))
def fr_law_bent : Nat → Sem
  | 0 => fun _ _ => .error .stuck
  | n + 1 => runF 6 (m_law_bent (fr_law_bent n))
def f_law_bent : Sem := fr_law_bent 12
def m_law_mixed : M Fl :=
(TW.sSeq (TW.sAsgN 2 (nList (aCons (eVar 1) aNil)))
(TW.sRet (eNw (nCmp [3] (iSeqM (eVar 1)) (tgName 3) (pure true) (ePopA 2 (eCall 2 drawF (aCons (eVar 0) (aCons (eFn lenD (aCons (eVar 2) aNil)) aNil))))))))
def f_law_mixed : Sem := runF 4 m_law_mixed
def m_law_values_1 : M Fl :=
(TW.sRet (eBin .add (eVar 4) (eNw (nLst (aCons (eFn tupleD (aCons (eNw (nCmp [5] (iSeqM (eVar 2)) (tgName 5) (pure true) (TW.eIf (TW.tVal (eCmp .lt (eVar 5) (eC (.int 2)))) (eFn boolF (aCons (eVar 5) aNil)) (eVar 5)))) aNil)) (aCons (eCall 1 f_law_odd (aCons (eVar 0) aNil)) aNil))))))
def m_law_values_2 : M Fl :=
(TW.sAsg 4 (eBin .add (eVar 4) (eNw (nLst (aCons (eBin .add (eBin .add (eSlc (eVar 2) pNone (pSome (eVar 3))) (eSlc (eVar 2) pNone (pSome (eC (.int 1))))) (eSlc (eVar 2) (pSome (eBin .add (eVar 3) (eC (.int 1)))) pNone)) (aCons (eBin .add (eBin .add (eSlc (eVar 2) pNone (pSome (eVar 3))) (eTup (aCons (eC .none) aNil))) (eSlc (eVar 2) (pSome (eVar 3)) pNone)) (aCons (eCall 2 f_law_bent (aCons (eVar 0) (aCons (eVar 2) aNil))) aNil)))))))
def m_law_values_3 : M Fl :=
(TW.sSeq m_law_values_2 m_law_values_1)
def m_law_values_4 : M Fl :=
(TW.sAsg 4 (eBin .add (eVar 4) (eNw (nLst (aCons (eBin .add (eBin .add (eSlc (eVar 2) pNone (pSome (eVar 3))) (eTup (aCons (eVar 1) aNil))) (eSlc (eVar 2) (pSome (eBin .add (eVar 3) (eC (.int 1)))) pNone)) (aCons (eBin .add (eBin .add (eSlc (eVar 2) pNone (pSome (eVar 3))) (eTup (aCons (eUn neD (eC (.int 1))) aNil))) (eSlc (eVar 2) (pSome (eBin .add (eVar 3) (eC (.int 1)))) pNone)) (aCons (eCall 1 f_law_odd (aCons (eVar 0) aNil)) aNil)))))))
def m_law_values_5 : M Fl :=
(TW.sSeq m_law_values_4 m_law_values_3)
def m_law_values_6 : M Fl :=
(TW.sAsg 4 (eNw (nLst (aCons (eVar 2) (aCons (eTupRg (mRg1 (eVar 1))) (aCons (eUn backD (eVar 2)) (aCons (eSlc (eVar 2) (pSome (eC (.int 1))) pNone) (aCons (eBin .add (eVar 2) (eTup (aCons (eVar 1) aNil))) (aCons (eFn listD (aCons (eVar 2) aNil)) (aCons (eBin .add (eVar 2) (eSlc (eVar 2) pNone (pSome (eC (.int 1))))) aNil))))))))))
def m_law_values_7 : M Fl :=
(TW.sSeq m_law_values_6 m_law_values_5)
def m_law_values_8 : M Fl :=
(TW.sAsg 3 (eCall 2 drawF (aCons (eVar 0) (aCons (eBin .add (eVar 1) (eC (.int 1))) aNil))))
def m_law_values_9 : M Fl :=
(TW.sSeq m_law_values_8 m_law_values_7)
def m_law_values_10 : M Fl :=
(TW.sAsg 2 (eFn tupleD (aCons (eCall 2 f_law_mixed (aCons (eVar 0) (aCons (eNw (nLstRg (mRg1 (eVar 1)))) aNil))) aNil)))
def m_law_values : M Fl :=
(TW.sSeq m_law_values_10 m_law_values_9)
def f_law_values : Sem := runF 6 m_law_values
def m_law_right_1 : M Fl :=
(TW.sRet (eC (.bool true)))
def m_law_right_2 : M Fl :=
(TW.sIf (TW.tOr (TW.tVal (eCmp .ne (eFn reprD (aCons (eAsk wr_law_tried 3 cl_law_tried (eCallX 2 f_come_log (aCons (eVar 3) (aCons (eVar 2) aNil)))) aNil)) (eFn reprD (aCons (eVar 6) aNil)))) (TW.tVal (eCmp .ne (eFn reprD (aCons (eNw (nLst (aCons (eVar 2) (aCons (eVar 3) aNil)))) aNil)) (eVar 4))))
(TW.sRet (eC (.bool false)))
TW.sSkip)
def m_law_right_3 : M Fl :=
(TW.sIf (TW.tVal (eCall 2 f_law_is_order (aCons (eVar 2) (aCons (eVar 1) aNil))))
(TW.sAsg 6 (eFn tupleD (aCons (eNw (nCmp [9] (iSeqM (eVar 2)) (tgName 9) (pure true) (eIx (eVar 3) (eVar 9)))) aNil)))
TW.sSkip)
def m_law_right_4 : M Fl :=
(TW.sSeq m_law_right_3 m_law_right_2)
def m_law_right_5 : M Fl :=
(TW.sAsg 6 (eNw (nLst (aCons (eC (.str "order")) (aCons (eVar 2) aNil)))))
def m_law_right_6 : M Fl :=
(TW.sSeq m_law_right_5 m_law_right_4)
def m_law_right_7 : M Fl :=
(TW.sIf (TW.tVal (eCmp .ne (eFn reprD (aCons (eNw (nCmp [8] (iRg1 (eC (.int 2))) (tgName 8) (pure true) (eAsk wr_law_tried 3 cl_law_tried (eCallX 1 f_order_hold (aCons (eVar 2) aNil))))) aNil)) (eFn reprD (aCons (eNw (nLst (aCons (eVar 6) (aCons (eVar 6) aNil)))) aNil))))
(TW.sRet (eC (.bool false)))
TW.sSkip)
def m_law_right_8 : M Fl :=
(TW.sSeq m_law_right_7 m_law_right_6)
def m_law_right_9 : M Fl :=
(TW.sAsg 6 (TW.eIf (TW.tVal (eCall 2 f_law_is_order (aCons (eVar 2) (aCons (eVar 5) aNil)))) (eCall 1 f_law_count (aCons (eVar 2) aNil)) (eNw (nLst (aCons (eC (.str "order")) (aCons (eVar 2) aNil))))))
def m_law_right_10 : M Fl :=
(TW.sSeq m_law_right_9 m_law_right_8)
def m_law_right_11 : M Fl :=
(TW.sAsg 5 (TW.eIf (TW.tVal (eIs .tuple (eVar 2))) (eFn lenD (aCons (eVar 2) aNil)) (eC (.int 0))))
def m_law_right_12 : M Fl :=
(TW.sSeq m_law_right_11 m_law_right_10)
def m_law_right_13 : M Fl :=
(TW.sAsg 4 (eFn reprD (aCons (eNw (nLst (aCons (eVar 2) (aCons (eVar 3) aNil)))) aNil)))
def m_law_right_14 : M Fl :=
(TW.sSeq m_law_right_13 m_law_right_12)
def m_law_right_15 : M Fl :=
(TW.sFor (iSeqM (eCall 2 f_law_values (aCons (eVar 0) (aCons (eVar 1) aNil)))) (tgName 2)
m_law_right_14)
def m_law_right_16 : M Fl :=
(TW.sSeq m_law_right_15 m_law_right_1)
def m_law_right_17 : M Fl :=
(TW.sTg (tgTup [(tgName 3), (tgName 4)]) (eTup (aCons (eFn tupleD (aCons (eNw (nCmp [7] (iRg1 (eVar 1)) (tgName 7) (pure true) (eCall 2 drawF (aCons (eVar 0) (aCons (eC (.int 4)) aNil))))) aNil)) (aCons (eC .none) aNil))))
def m_law_right : M Fl :=
(TW.sSeq m_law_right_17 m_law_right_16)
def f_law_right : Sem := runF 10 m_law_right
def m_law_1 : M Fl :=
(TW.sRet (eCmp .eq (eCallX 2 f_come_log (aCons (eBin .add (eOp repD (eTup (aCons (eC (.int 3)) aNil)) (eC (.int 199))) (eTup (aCons (eC (.int 5)) aNil))) (aCons (eBin .add (eTup (aCons (eC (.int 199)) aNil)) (eTupRg (mRg1 (eC (.int 199))))) aNil))) (eBin .add (eTup (aCons (eC (.int 5)) aNil)) (eOp repD (eTup (aCons (eC (.int 3)) aNil)) (eC (.int 199))))))
def m_law_2 : M Fl :=
(TW.sIf (TW.tVal (eCmp .ne (eFn reprD (aCons (eAsk wr_law_tried 3 cl_law_tried (eCallX 1 f_order_hold (aCons (eVar 4) aNil))) aNil)) (eFn reprD (aCons (eNw (nLst (aCons (eC (.str "order")) (aCons (eVar 4) aNil)))) aNil))))
(TW.sRet (eC (.bool false)))
TW.sSkip)
def m_law_3 : M Fl :=
(TW.sFor (iSeqM (eNw (nLst (aCons (eTupRg (mRg1 (eC (.int 201)))) (aCons (eBin .add (eTupRg (mRg1 (eC (.int 199)))) (eTup (aCons (eC (.int 198)) aNil))) (aCons (eBin .add (eTupRg (mRg1 (eC (.int 199)))) (eTup (aCons (eC (.int 200)) aNil))) (aCons (eBin .add (eTupRg (mRg1 (eC (.int 199)))) (eTup (aCons (eC (.bool true)) aNil))) aNil))))))) (tgName 4)
m_law_2)
def m_law_4 : M Fl :=
(TW.sSeq m_law_3 m_law_1)
def m_law_5 : M Fl :=
(TW.sIf (TW.tVal (eCmp .ne (eCallX 1 f_order_hold (aCons (eBin .add (eTupRg (mRg1 (eC (.int 198)))) (eTup (aCons (eC (.int 199)) (aCons (eC (.int 198)) aNil)))) aNil)) (eC (.int 1))))
(TW.sRet (eC (.bool false)))
TW.sSkip)
def m_law_6 : M Fl :=
(TW.sSeq m_law_5 m_law_4)
def m_law_7 : M Fl :=
(TW.sIf (TW.tVal (eCmp .ne (eNw (nLst (aCons (eCallX 1 f_order_hold (aCons (eVar 3) aNil)) (aCons (eCallX 1 f_order_hold (aCons (eUn backD (eVar 3)) aNil)) (aCons (eCallX 1 f_order_hold (aCons (eTup aNil) aNil)) aNil))))) (eNw (nLst (aCons (eC (.int 1)) (aCons (eC (.int 198)) (aCons (eC (.int 0)) aNil)))))))
(TW.sRet (eC (.bool false)))
TW.sSkip)
def m_law_8 : M Fl :=
(TW.sSeq m_law_7 m_law_6)
def m_law_9 : M Fl :=
(TW.sAsg 3 (eBin .add (eTupRg (mRg2 (eC (.int 1)) (eC (.int 200)))) (eTup (aCons (eC (.int 0)) aNil))))
def m_law_10 : M Fl :=
(TW.sSeq m_law_9 m_law_8)
def m_law_11 : M Fl :=
(TW.sIf (TW.tNot (TW.tVal (eCall 2 f_law_right (aCons (eVar 1) (aCons (eIx (eNw (nLst (aCons (eC (.int 0)) (aCons (eC (.int 1)) (aCons (eC (.int 2)) (aCons (eC (.int 3)) (aCons (eC (.int 4)) (aCons (eC (.int 5)) (aCons (eC (.int 6)) (aCons (eC (.int 8)) (aCons (eC (.int 11)) (aCons (eC (.int 15)) (aCons (eC (.int 24)) (aCons (eC (.int 40)) aNil)))))))))))))) (eVar 2)) aNil)))))
(TW.sRet (eC (.bool false)))
TW.sSkip)
def m_law_12 : M Fl :=
(TW.sFor (iRg1 (eC (.int 12))) (tgName 2)
m_law_11)
def m_law : M Fl :=
(TW.sSeq m_law_12 m_law_10)
end K51
set_option linter.all false
set_option Elab.async false
namespace K51
open PySem TW
theorem insI_len (k : Int) : ∀ l : List Int, l.Pairwise (· < ·) → (insI k l).length = if k ∈ l then l.length else l.length + 1
  | [], _ => by simp [insI]
  | a :: r, h => by
    have hr := (List.pairwise_cons.mp h).2
    have ha := (List.pairwise_cons.mp h).1
    have ih := insI_len k r hr
    unfold insI
    split
    · rename_i h1
      have n1 : k ∉ a :: r := fun z => by
        rcases List.mem_cons.mp z with e | e
        · omega
        · have := ha k e; omega
      rw [if_neg n1]
      rfl
    · split
      · rename_i h1 h2
        subst h2
        rw [if_pos List.mem_cons_self]
      · rename_i h1 h2
        rw [List.length_cons, ih]
        by_cases hk : k ∈ r
        · rw [if_pos hk, if_pos (List.mem_cons_of_mem _ hk)]
          rfl
        · rw [if_neg hk, if_neg (fun z => (List.mem_cons.mp z).elim h2 hk)]
          rfl
theorem sortS_nodup : ∀ {ns : List Int}, (sortS ns).length = ns.length ↔ ns.Nodup
  | [] => by simp [sortS]
  | a :: r => by
    have h1 := insI_len a (sortS r) sortS_lt
    have h2 := sortS_le r
    have ih := sortS_nodup (ns := r)
    show (insI a (sortS r)).length = r.length + 1 ↔ _
    rw [h1, List.nodup_cons]
    by_cases hm : a ∈ r
    · rw [if_pos (mem_sortS.mpr hm)]
      exact ⟨fun z => by omega, fun z => absurd hm z.1⟩
    · rw [if_neg fun z => hm (mem_sortS.mp z)]
      exact ⟨fun z => ⟨hm, ih.mp (by omega)⟩, fun z => by rw [ih.mpr z.2]⟩
def rgI (n : Nat) : List Int := (List.range n).map fun (i : Nat) => (i : Int)
def Ord (ns : List Int) : Prop := (∀ i ∈ ns, 0 ≤ i ∧ i < ns.length) ∧ ns.Nodup
theorem few_lt : ∀ {l : List Int} {lo hi : Int}, l.Pairwise (· < ·) → (∀ i ∈ l, lo ≤ i ∧ i < hi) → (l.length : Int) ≤ hi - lo ∨ l = []
  | [], _, _, _, _ => .inr rfl
  | a :: r, lo, hi, h, hb => by
    have hr := (List.pairwise_cons.mp h).2
    have ha := (List.pairwise_cons.mp h).1
    have h0 := hb a List.mem_cons_self
    rcases few_lt (lo := a + 1) (hi := hi) hr (fun i hi => ⟨by have := ha i hi; omega, (hb i (List.mem_cons_of_mem _ hi)).2⟩) with z | z
    · exact .inl (by rw [List.length_cons]; omega)
    · subst z
      exact .inl (by simp; omega)
theorem run_up : ∀ {l : List Int} {k : Int}, l.Pairwise (· < ·) → (∀ i ∈ l, k ≤ i ∧ i < k + l.length) → l = (List.range l.length).map fun (i : Nat) => k + i
  | [], _, _, _ => rfl
  | a :: r, k, h, hb => by
    have hr := (List.pairwise_cons.mp h).2
    have ha := (List.pairwise_cons.mp h).1
    have h0 := hb a List.mem_cons_self
    have e : a = k := by
      rcases few_lt (lo := a + 1) (hi := k + ((a :: r).length : Nat)) hr (fun i hi => ⟨by have := ha i hi; omega, (hb i (List.mem_cons_of_mem _ hi)).2⟩) with z | z
      · rw [List.length_cons] at z; omega
      · subst z; simp at h0; omega
    subst e
    have ih := run_up (k := a + 1) hr fun i hi => ⟨by have := ha i hi; omega, by have := (hb i (List.mem_cons_of_mem _ hi)).2; rw [List.length_cons] at this; omega⟩
    rw [List.length_cons, List.range_succ_eq_map, List.map_cons, List.map_map]
    congr 1
    · simp
    · conv => lhs; rw [ih]
      refine List.map_congr_left fun i _ => ?_
      show a + 1 + (i : Int) = a + ((i + 1 : Nat) : Int)
      omega
theorem sortI_perm (ns : List Int) : (sortI ns).Perm ns := List.mergeSort_perm ns _
theorem rgI_nodup (n : Nat) : (rgI n).Nodup := List.Pairwise.map _ (fun a b (h : a ≠ b) => by simp only [ne_eq]; omega) List.nodup_range
theorem sortI_le (ns : List Int) : (sortI ns).Pairwise (· ≤ ·) := by
  refine (List.pairwise_mergeSort (le := fun a b => decide (a ≤ b)) (fun a b c h1 h2 => ?_) (fun a b => ?_) ns).imp fun h => of_decide_eq_true h
  · exact decide_eq_true (Int.le_trans (of_decide_eq_true h1) (of_decide_eq_true h2))
  · simp only [Bool.or_eq_true, decide_eq_true_eq]
    omega
theorem ord_sort {ns : List Int} : Ord ns ↔ (∀ i ∈ ns, 0 ≤ i ∧ i < ns.length) ∧ sortI ns = rgI ns.length := by
  have p := sortI_perm ns
  have hl := p.length_eq
  refine ⟨fun h => ⟨h.1, ?_⟩, fun h => ⟨h.1, ?_⟩⟩
  · have nd : (sortI ns).Nodup := p.nodup_iff.mpr h.2
    have lt : (sortI ns).Pairwise (· < ·) := ((sortI_le ns).and nd).imp fun ⟨a, b⟩ => by omega
    have := run_up (k := 0) lt fun i hi => by
      have := h.1 i (p.mem_iff.mp hi)
      rw [hl]
      omega
    rw [this, hl]
    unfold rgI
    exact List.map_congr_left fun i _ => by omega
  · have nd : (sortI ns).Nodup := by rw [h.2]; exact rgI_nodup _
    exact p.nodup_iff.mp nd
theorem ord_perm {ns : List Int} (h : Ord ns) : (rgI ns.length).Perm ns := by
  rw [← (ord_sort.mp h).2]
  exact sortI_perm ns
def hc : List Int → List Int
  | [] => []
  | p :: r => ((r.filter fun o => decide (o < p)).length : Nat) :: hc r
def hold (ns : List Int) : Int := (topI (hc ns)).getD 0
def fc (m : Int) : List Int → Int
  | [] => m
  | p :: r => fc (if ((r.filter fun o => decide (o < p)).length : Nat) > m then ((r.filter fun o => decide (o < p)).length : Nat) else m) r
theorem hc_nn : ∀ {ns : List Int}, ∀ x ∈ hc ns, 0 ≤ x
  | _ :: r, x, h => by
    rcases List.mem_cons.mp h with e | e
    · rw [e]; exact Int.natCast_nonneg _
    · exact hc_nn (ns := r) x e
theorem fc_top : ∀ {ns : List Int} {m : Int}, fc m ns = match topI (hc ns) with
    | some t => if t > m then t else m
    | none => m
  | [], m => rfl
  | p :: r, m => by
    show fc _ r = match (match topI (hc r) with
      | some b => some (if ((r.filter fun o => decide (o < p)).length : Int) < b then b else ((r.filter fun o => decide (o < p)).length : Int))
      | none => some ((r.filter fun o => decide (o < p)).length : Int)) with
      | some t => if t > m then t else m
      | none => m
    rw [fc_top (ns := r)]
    cases topI (hc r) with
    | none => rfl
    | some b =>
      show (if b > _ then b else _) = if _ > m then _ else m
      repeat' split
      all_goals omega
theorem fc_hold (ns : List Int) : fc 0 ns = hold ns := by
  rw [fc_top]
  unfold hold
  cases q : topI (hc ns) with
  | none => rfl
  | some t =>
    have := hc_nn t (topI_ok q).1
    show (if t > 0 then t else 0) = t
    split <;> omega
theorem hc_lt : ∀ {ns : List Int}, ∀ x ∈ hc ns, x < ns.length
  | p :: r, x, h => by
    rw [List.length_cons]
    rcases List.mem_cons.mp h with e | e
    · have := List.length_filter_le (fun o => decide (o < p)) r
      rw [e]; omega
    · have := hc_lt (ns := r) x e
      omega
theorem hold_bd (ns : List Int) : 0 ≤ hold ns ∧ hold ns ≤ ns.length := by
  unfold hold
  cases q : topI (hc ns) with
  | none => exact ⟨Int.le_refl 0, Int.natCast_nonneg _⟩
  | some t => exact ⟨hc_nn t (topI_ok q).1, Int.le_of_lt (hc_lt t (topI_ok q).1)⟩
end K51
set_option linter.all false
set_option Elab.async false
set_option maxHeartbeats 0
set_option maxRecDepth 10000
namespace K51
open PySem TW
def IsO (n : Nat) (v : PyData) : Prop := ∃ ns : List Int, v = .tuple (ns.map PyData.int) ∧ ns.length = n ∧ Ord ns
theorem isIn_int {lo hi : Int} {d : PyData} (h : isIn lo hi d = true) : ∃ i, d = .int i ∧ lo ≤ i ∧ i ≤ hi := by
  cases d <;> simp [isIn] at h
  exact ⟨_, rfl, h.1, h.2⟩
theorem areIn_ints {n : Nat} {v : PyData} : K02.areIn 0 ((n : Int) - 1) n v = true ↔ ∃ ns : List Int, v = .tuple (ns.map PyData.int) ∧ ns.length = n ∧ ∀ i ∈ ns, 0 ≤ i ∧ i < n := by
  constructor
  · intro h
    cases v <;> simp only [K02.areIn, Bool.false_eq_true, Bool.and_eq_true, decide_eq_true_eq, List.all_eq_true] at h
    rename_i ds
    obtain ⟨ns, rfl, h2⟩ := ints_of (n := n) (xs := ds) fun x hx => by
      obtain ⟨i, rfl, h1, h2⟩ := isIn_int (h.2 x hx)
      exact ⟨i, rfl, h1, by omega⟩
    refine ⟨ns, rfl, ?_, h2⟩
    have := h.1
    rw [List.length_map] at this
    omega
  · rintro ⟨ns, rfl, h1, h2⟩
    simp only [K02.areIn, Bool.and_eq_true, decide_eq_true_eq, List.all_eq_true, List.length_map]
    refine ⟨by omega, fun d hd => ?_⟩
    obtain ⟨i, hi, rfl⟩ := List.mem_map.mp hd
    have := h2 i hi
    simp only [isIn, Bool.and_eq_true, decide_eq_true_eq]
    omega
theorem r_is_order (v : PyData) (n : Nat) (b : Option Bx) (hl : ∀ ds, v = .tuple ds → ds.length ≤ 4000) : Runs f_is_order [.dat v, .dat (.int n)] b fun d b' => (∃ c : Bool, d = .bool c ∧ (c = true ↔ IsO n v)) ∧ b' = b := by
  refine runs_of ?_
  unfold m_is_order
  simp only [List.map_cons, List.map_nil, argSV, List.length_cons, List.length_nil, Nat.reduceAdd, Nat.reduceSub, List.replicate, List.cons_append, List.nil_append]
  simp only [eCmp, eBin, eOp, eUn, eFn, eIx, eSlc, eChn, tVal, tNot, tAnd, tOr, eIf, eAnd, eOr, eNot, eIs, aNil, aCons, aStar, itemsO, eTup, nLst, eNw, pNone, pSome, sSkip, sSeq, sAsg, sAsgN, sRet, sRetN, sIf, tgName, tgAll, tgTup, sTg, sPar, sFor, iSeqM, iRg1, iRg2, iEnM, ownL, sApp, tgSet, ePop, ePopA, eCall, peeks, takes, hands, boolD, pw_bind, qQ, wipeR, reduceIte, nOp, nList, isD, lenD, wW]
  refine q_callR (K02.r_are_integers v n 0 ((n : Int) - 1) b fun ds e => Nat.le_trans (hl ds e) (by decide)) rfl ?_
  rintro _ _ ⟨rfl, rfl⟩
  by_cases h : K02.areIn 0 ((n : Int) - 1) n v = true
  · obtain ⟨ns, rfl, h1, h2⟩ := areIn_ints.mp h
    have h4 : ns.length ≤ 4000 := by simpa using hl _ rfl
    simp only [eCmp, eBin, eOp, eUn, eFn, eIx, eSlc, eChn, tVal, tNot, tAnd, tOr, eIf, eAnd, eOr, eNot, eIs, aNil, aCons, aStar, itemsO, eTup, nLst, eNw, pNone, pSome, sSkip, sSeq, sAsg, sAsgN, sRet, sRetN, sIf, tgName, tgAll, tgTup, sTg, sPar, sFor, iSeqM, iRg1, iRg2, iEnM, ownL, sApp, tgSet, ePop, ePopA, eCall, peeks, takes, hands, boolD, pw_bind, qQ, wipeR, reduceIte, nOp, nList, isD, lenD, wW, h, lenSetW, intsOf_map, Option.bind_some, if_pos h4]
    refine ⟨_, rfl, ?_⟩
    rw [decide_eq_true_eq]
    constructor
    · intro e
      exact ⟨ns, rfl, h1, by rw [h1]; exact h2, sortS_nodup.mp (by omega)⟩
    · rintro ⟨ms, e, e1, e2⟩
      have em : ns = ms := by
        have := PyData.tuple.inj e
        have := congrArg intsOf this
        rw [intsOf_map, intsOf_map] at this
        exact Option.some.inj this
      subst em
      have := sortS_nodup.mpr e2.2
      omega
  · have hf : K02.areIn 0 ((n : Int) - 1) n v = false := by simpa using h
    simp only [eCmp, eBin, eOp, eUn, eFn, eIx, eSlc, eChn, tVal, tNot, tAnd, tOr, eIf, eAnd, eOr, eNot, eIs, aNil, aCons, aStar, itemsO, eTup, nLst, eNw, pNone, pSome, sSkip, sSeq, sAsg, sAsgN, sRet, sRetN, sIf, tgName, tgAll, tgTup, sTg, sPar, sFor, iSeqM, iRg1, iRg2, iEnM, ownL, sApp, tgSet, ePop, ePopA, eCall, peeks, takes, hands, boolD, pw_bind, qQ, wipeR, reduceIte, nOp, nList, isD, lenD, wW, hf]
    refine ⟨false, rfl, ⟨fun z => (by cases z), ?_⟩⟩
    rintro ⟨ns, e, h1, h2⟩
    exact absurd (areIn_ints.mpr ⟨ns, e, h1, by rw [← h1]; exact h2.1⟩) h
theorem q_noX0 {α : Type} {m : M α} {s : Sx} {Q : α → Sx → Prop} : pw (noX m) s Q (fun _ => False) ↔ pw m s Q fun _ => False := by
  unfold pw noX
  cases m s with
  | ok p => exact Iff.rfl
  | error e => exact Iff.rfl
theorem eqv_intsA : ∀ {xs ys : List Int}, PyData.eqvAll (xs.map PyData.int) (ys.map PyData.int) = decide (xs = ys)
  | [], [] => rfl
  | [], _ :: _ => by simp [PyData.eqvAll]
  | _ :: _, [] => by simp [PyData.eqvAll]
  | x :: xs, y :: ys => by
    simp only [List.map_cons, PyData.eqvAll, PyData.eqv, eqv_intsA (xs := xs) (ys := ys), List.cons.injEq, Bool.decide_and]
    by_cases h : x = y <;> simp [h]
theorem eq_lists {xs ys : List Int} : cmpD .eq (.list (xs.map PyData.int)) (.list (ys.map PyData.int)) = some (.bool (decide (xs = ys))) := by
  rw [cmpD_eq, if_pos (by unfold shp; rw [shp_ints, shp_ints]; rfl)]
  simp only [PyData.eqv, eqv_intsA]
theorem rg_ok {n : Nat} (h : n ≤ 4000) : rgOk 0 (n : Int) = true := by
  unfold rgOk
  simp only [Bool.and_eq_true, decide_eq_true_eq]
  omega
theorem rg_map {n : Nat} : rgD 0 (n : Int) = (rgI n).map PyData.int := by
  rw [rgD_nat]
  unfold rgN rgI
  rw [List.map_map]
  rfl
theorem isO_map {n : Nat} {ns : List Int} : IsO n (.tuple (ns.map PyData.int)) ↔ ns.length = n ∧ Ord ns := by
  constructor
  · rintro ⟨ms, e, h⟩
    have := congrArg intsOf (PyData.tuple.inj e)
    rw [intsOf_map, intsOf_map] at this
    cases Option.some.inj this
    exact h
  · exact fun h => ⟨ns, rfl, h⟩
def ltF (p : Int) : PyData → Option PyData
  | .int o => if o < p then some (.int o) else none
  | _ => none
theorem ltF_map (p : Int) : ∀ ls : List Int, (ls.map PyData.int).filterMap (ltF p) = (ls.filter fun o => decide (o < p)).map PyData.int
  | [] => rfl
  | a :: r => by
    rw [List.map_cons, List.filterMap_cons, List.filter_cons]
    have e : ltF p (.int a) = if a < p then some (.int a) else none := rfl
    rw [e]
    by_cases h : a < p
    · rw [if_pos h, if_pos (decide_eq_true h), List.map_cons, ← ltF_map p r]
    · rw [if_neg h, if_neg (by simpa using h), ← ltF_map p r]
abbrev hcB : M Fl := m_held_counts_4
theorem held_turn {v x4 : SV} {b : Option Bx} {Q : Fl → Sx → Prop} {ls acc : List Int} {p : Int} (hlim : (acc.map PyData.int).length < lim) (hlm : (ls.map PyData.int).length ≤ lim) (hm : p ∈ ls)
    (h : ∀ y4, Q .nx ⟨[v, .dat (.int p), .own (.list ((ls.erase p).map PyData.int)), .own (.list ((acc ++ [((ls.filter fun o => decide (o < p)).length : Int)]).map PyData.int)), y4], b⟩) :
    pw hcB ⟨[v, .dat (.int p), .own (.list (ls.map PyData.int)), .own (.list (acc.map PyData.int)), x4], b⟩ Q fun _ => False := by
  unfold hcB m_held_counts_4 m_held_counts_3 m_held_counts_2
  simp only [eCmp, eBin, eOp, eUn, eFn, eIx, eSlc, eChn, tVal, tNot, tAnd, tOr, eIf, eAnd, eOr, eNot, eIs, aNil, aCons, aStar, itemsO, eTup, nLst, eNw, pNone, pSome, sSkip, sSeq, sAsg, sAsgN, sRet, sRetN, sIf, tgName, tgAll, tgTup, sTg, sPar, sFor, iSeqM, iRg1, iRg2, iEnM, ownL, sApp, tgSet, ePop, ePopA, eCall, peeks, takes, hands, boolD, pw_bind, qQ, wipeR, reduceIte, nOp, nList, isD, lenD, wW, nHide]
  refine q_filt1 (ltF p) ?_
  simp only [eCmp, eBin, eOp, eUn, eFn, eIx, eSlc, eChn, tVal, tNot, tAnd, tOr, eIf, eAnd, eOr, eNot, eIs, aNil, aCons, aStar, itemsO, eTup, nLst, eNw, pNone, pSome, sSkip, sSeq, sAsg, sAsgN, sRet, sRetN, sIf, tgName, tgAll, tgTup, sTg, sPar, sFor, iSeqM, iRg1, iRg2, iEnM, ownL, sApp, tgSet, ePop, ePopA, eCall, peeks, takes, hands, boolD, pw_bind, qQ, wipeR, reduceIte, nOp, nList, isD, lenD, wW]
  refine ⟨hlm, fun d hd => ?_, ?_⟩
  · obtain ⟨o, ho, rfl⟩ := List.mem_map.mp hd
    simp only [eCmp, eBin, eOp, eUn, eFn, eIx, eSlc, eChn, tVal, tNot, tAnd, tOr, eIf, eAnd, eOr, eNot, eIs, aNil, aCons, aStar, itemsO, eTup, nLst, eNw, pNone, pSome, sSkip, sSeq, sAsg, sAsgN, sRet, sRetN, sIf, tgName, tgAll, tgTup, sTg, sPar, sFor, iSeqM, iRg1, iRg2, iEnM, ownL, sApp, tgSet, ePop, ePopA, eCall, peeks, takes, hands, boolD, pw_bind, qQ, wipeR, reduceIte, nOp, nList, isD, lenD, wW]
    by_cases h0 : o < p
    · simp only [eCmp, eBin, eOp, eUn, eFn, eIx, eSlc, eChn, tVal, tNot, tAnd, tOr, eIf, eAnd, eOr, eNot, eIs, aNil, aCons, aStar, itemsO, eTup, nLst, eNw, pNone, pSome, sSkip, sSeq, sAsg, sAsgN, sRet, sRetN, sIf, tgName, tgAll, tgTup, sTg, sPar, sFor, iSeqM, iRg1, iRg2, iEnM, ownL, sApp, tgSet, ePop, ePopA, eCall, peeks, takes, hands, boolD, pw_bind, qQ, wipeR, reduceIte, nOp, nList, isD, lenD, wW, ltF, decide_eq_true h0, if_pos h0]
    · simp only [eCmp, eBin, eOp, eUn, eFn, eIx, eSlc, eChn, tVal, tNot, tAnd, tOr, eIf, eAnd, eOr, eNot, eIs, aNil, aCons, aStar, itemsO, eTup, nLst, eNw, pNone, pSome, sSkip, sSeq, sAsg, sAsgN, sRet, sRetN, sIf, tgName, tgAll, tgTup, sTg, sPar, sFor, iSeqM, iRg1, iRg2, iEnM, ownL, sApp, tgSet, ePop, ePopA, eCall, peeks, takes, hands, boolD, pw_bind, qQ, wipeR, reduceIte, nOp, nList, isD, lenD, wW, ltF, decide_eq_false h0, if_neg h0]
  · rw [ltF_map]
    simp only [eCmp, eBin, eOp, eUn, eFn, eIx, eSlc, eChn, tVal, tNot, tAnd, tOr, eIf, eAnd, eOr, eNot, eIs, aNil, aCons, aStar, itemsO, eTup, nLst, eNw, pNone, pSome, sSkip, sSeq, sAsg, sAsgN, sRet, sRetN, sIf, tgName, tgAll, tgTup, sTg, sPar, sFor, iSeqM, iRg1, iRg2, iEnM, ownL, sApp, tgSet, ePop, ePopA, eCall, peeks, takes, hands, boolD, pw_bind, qQ, wipeR, reduceIte, nOp, nList, isD, lenD, wW, lenD, hlim, sRem, remD, intsOf_map, Option.bind_some, if_pos hm]
    have h := h (keepD x4)
    rw [List.map_append] at h
    simpa using h
theorem held_loop (v : SV) (b : Option Bx) (Q : Fl → Sx → Prop) : ∀ (r ls acc : List Int) (x1 x4 : SV), ls.Perm r → r.length + acc.length ≤ 4000 →
    (∀ y1 y2 y4, Q .nx ⟨[v, y1, y2, .own (.list ((acc ++ hc r).map PyData.int)), y4], b⟩) →
    pw (forL (tgName 1) hcB (r.map PyData.int)) ⟨[v, x1, .own (.list (ls.map PyData.int)), .own (.list (acc.map PyData.int)), x4], b⟩ Q fun _ => False
  | [], ls, acc, x1, x4, _, _, h => by
    have := h x1 (.own (.list (ls.map PyData.int))) x4
    rw [show hc [] = [] from rfl, List.append_nil] at this
    exact this
  | p :: r, ls, acc, x1, x4, hp, hl, h => by
    rw [List.length_cons] at hl
    have hll := hp.length_eq
    rw [List.length_cons] at hll
    have hlim : (acc.map PyData.int).length < lim := Nat.lt_of_le_of_lt (m := 4000) (by rw [List.length_map]; omega) (by decide)
    have hlm : (ls.map PyData.int).length ≤ lim := Nat.le_trans (m := 4000) (by rw [List.length_map]; omega) (by decide)
    have hm : p ∈ ls := hp.mem_iff.mpr List.mem_cons_self
    rw [List.map_cons]
    unfold forL
    simp only [eCmp, eBin, eOp, eUn, eFn, eIx, eSlc, eChn, tVal, tNot, tAnd, tOr, eIf, eAnd, eOr, eNot, eIs, aNil, aCons, aStar, itemsO, eTup, nLst, eNw, pNone, pSome, sSkip, sSeq, sAsg, sAsgN, sRet, sRetN, sIf, tgName, tgAll, tgTup, sTg, sPar, sFor, iSeqM, iRg1, iRg2, iEnM, ownL, sApp, tgSet, ePop, ePopA, eCall, peeks, takes, hands, boolD, pw_bind, qQ, wipeR, reduceIte, nOp, nList, isD, lenD, wW]
    refine held_turn hlim hlm hm fun y4 => ?_
    simp only [eCmp, eBin, eOp, eUn, eFn, eIx, eSlc, eChn, tVal, tNot, tAnd, tOr, eIf, eAnd, eOr, eNot, eIs, aNil, aCons, aStar, itemsO, eTup, nLst, eNw, pNone, pSome, sSkip, sSeq, sAsg, sAsgN, sRet, sRetN, sIf, tgName, tgAll, tgTup, sTg, sPar, sFor, iSeqM, iRg1, iRg2, iEnM, ownL, sApp, tgSet, ePop, ePopA, eCall, peeks, takes, hands, boolD, pw_bind, qQ, wipeR, reduceIte, nOp, nList, isD, lenD, wW]
    have hp2 : (ls.erase p).Perm r := by
      have := hp.erase p
      rwa [List.erase_cons_head] at this
    refine held_loop v b Q r (ls.erase p) _ _ _ hp2 (by rw [List.length_append, List.length_singleton]; omega) fun y1 y2 y4 => ?_
    have e : (ls.filter fun o => decide (o < p)).length = (r.filter fun o => decide (o < p)).length := by
      rw [(hp.filter _).length_eq, List.filter_cons_of_neg (by simp)]
    have h := h y1 y2 y4
    rw [e, List.append_assoc]
    exact h
theorem r_held_counts (ns : List Int) (b : Option Bx) (ho : Ord ns) (hl : ns.length ≤ 2000) : Runs f_held_counts [.dat (.tuple (ns.map PyData.int))] b fun d b' => d = .list ((hc ns).map PyData.int) ∧ b' = b := by
  refine runs_of ?_
  unfold m_held_counts m_held_counts_7 m_held_counts_6 m_held_counts_5 m_held_counts_1
  simp only [List.map_cons, List.map_nil, argSV, List.length_cons, List.length_nil, Nat.reduceAdd, Nat.reduceSub, List.replicate, List.cons_append, List.nil_append]
  have e1 : rgOk 0 ((ns.length : Nat) : Int) = true := by
    unfold rgOk
    simp only [Bool.and_eq_true, decide_eq_true_eq]
    omega
  have e2 : rgD 0 ((ns.length : Nat) : Int) = (rgI ns.length).map PyData.int := by
    rw [rgD_nat]
    unfold rgN rgI
    rw [List.map_map]
    rfl
  simp only [eCmp, eBin, eOp, eUn, eFn, eIx, eSlc, eChn, tVal, tNot, tAnd, tOr, eIf, eAnd, eOr, eNot, eIs, aNil, aCons, aStar, itemsO, eTup, nLst, eNw, pNone, pSome, sSkip, sSeq, sAsg, sAsgN, sRet, sRetN, sIf, tgName, tgAll, tgTup, sTg, sPar, sFor, iSeqM, iRg1, iRg2, iEnM, ownL, sApp, tgSet, ePop, ePopA, eCall, peeks, takes, hands, boolD, pw_bind, qQ, wipeR, reduceIte, nOp, nList, isD, lenD, wW, le0, sParP, pOwn, pDat, pNil, setP, q_noX0, nLstRg, mRg1, lenD, List.length_map, e1, e2]
  refine held_loop _ b _ ns (rgI ns.length) [] _ _ (ord_perm ho) (by simp; omega) fun y1 y2 y4 => ?_
  simp only [eCmp, eBin, eOp, eUn, eFn, eIx, eSlc, eChn, tVal, tNot, tAnd, tOr, eIf, eAnd, eOr, eNot, eIs, aNil, aCons, aStar, itemsO, eTup, nLst, eNw, pNone, pSome, sSkip, sSeq, sAsg, sAsgN, sRet, sRetN, sIf, tgName, tgAll, tgTup, sTg, sPar, sFor, iSeqM, iRg1, iRg2, iEnM, ownL, sApp, tgSet, ePop, ePopA, eCall, peeks, takes, hands, boolD, pw_bind, qQ, wipeR, reduceIte, nOp, nList, isD, lenD, wW, List.nil_append]
theorem r_law_is_order (v : PyData) (n : Nat) (b : Option Bx) (hl : ∀ ds, v = .tuple ds → ds.length ≤ 4000) (hn : n ≤ 4000) : Runs f_law_is_order [.dat v, .dat (.int n)] b fun d b' => (∃ c : Bool, d = .bool c ∧ (c = true ↔ IsO n v)) ∧ b' = b := by
  refine runs_of ?_
  unfold m_law_is_order
  simp only [List.map_cons, List.map_nil, argSV, List.length_cons, List.length_nil, Nat.reduceAdd, Nat.reduceSub, List.replicate, List.cons_append, List.nil_append]
  by_cases hv : ∃ ds, v = .tuple ds
  · obtain ⟨ds, rfl⟩ := hv
    have h4 := hl ds rfl
    simp only [eCmp, eBin, eOp, eUn, eFn, eIx, eSlc, eChn, tVal, tNot, tAnd, tOr, eIf, eAnd, eOr, eNot, eIs, aNil, aCons, aStar, itemsO, eTup, nLst, eNw, pNone, pSome, sSkip, sSeq, sAsg, sAsgN, sRet, sRetN, sIf, tgName, tgAll, tgTup, sTg, sPar, sFor, iSeqM, iRg1, iRg2, iEnM, ownL, sApp, tgSet, ePop, ePopA, eCall, peeks, takes, hands, boolD, pw_bind, qQ, wipeR, reduceIte, nOp, nList, isD, lenD, wW, lenD, c_ne]
    by_cases h : (ds.length : Int) = n
    · simp only [eCmp, eBin, eOp, eUn, eFn, eIx, eSlc, eChn, tVal, tNot, tAnd, tOr, eIf, eAnd, eOr, eNot, eIs, aNil, aCons, aStar, itemsO, eTup, nLst, eNw, pNone, pSome, sSkip, sSeq, sAsg, sAsgN, sRet, sRetN, sIf, tgName, tgAll, tgTup, sTg, sPar, sFor, iSeqM, iRg1, iRg2, iEnM, ownL, sApp, tgSet, ePop, ePopA, eCall, peeks, takes, hands, boolD, pw_bind, qQ, wipeR, reduceIte, nOp, nList, isD, lenD, wW, decide_eq_true h]
      refine K02.wrong_cmp (n := (n : Int)) [.dat (.tuple ds), .dat (.int n), .no] b ds (by simp) rfl (by simp only [eCmp, eBin, eOp, eUn, eFn, eIx, eSlc, eChn, tVal, tNot, tAnd, tOr, eIf, eAnd, eOr, eNot, eIs, aNil, aCons, aStar, itemsO, eTup, nLst, eNw, pNone, pSome, sSkip, sSeq, sAsg, sAsgN, sRet, sRetN, sIf, tgName, tgAll, tgTup, sTg, sPar, sFor, iSeqM, iRg1, iRg2, iEnM, ownL, sApp, tgSet, ePop, ePopA, eCall, peeks, takes, hands, boolD, pw_bind, qQ, wipeR, reduceIte, nOp, nList, isD, lenD, wW]) (Nat.le_trans h4 (by decide)) (fun d => by simp only [eCmp, eBin, eOp, eUn, eFn, eIx, eSlc, eChn, tVal, tNot, tAnd, tOr, eIf, eAnd, eOr, eNot, eIs, aNil, aCons, aStar, itemsO, eTup, nLst, eNw, pNone, pSome, sSkip, sSeq, sAsg, sAsgN, sRet, sRetN, sIf, tgName, tgAll, tgTup, sTg, sPar, sFor, iSeqM, iRg1, iRg2, iEnM, ownL, sApp, tgSet, ePop, ePopA, eCall, peeks, takes, hands, boolD, pw_bind, qQ, wipeR, reduceIte, nOp, nList, isD, lenD, wW, b_sub]) ?_
      simp only [eCmp, eBin, eOp, eUn, eFn, eIx, eSlc, eChn, tVal, tNot, tAnd, tOr, eIf, eAnd, eOr, eNot, eIs, aNil, aCons, aStar, itemsO, eTup, nLst, eNw, pNone, pSome, sSkip, sSeq, sAsg, sAsgN, sRet, sRetN, sIf, tgName, tgAll, tgTup, sTg, sPar, sFor, iSeqM, iRg1, iRg2, iEnM, ownL, sApp, tgSet, ePop, ePopA, eCall, peeks, takes, hands, boolD, pw_bind, qQ, wipeR, reduceIte, nOp, nList, isD, lenD, wW, n0_list, K02.wrong_nil]
      rw [if_pos le0]
      by_cases ha : ds.all (isIn 0 ((n : Int) - 1)) = true
      · obtain ⟨ns, e, h1, h2⟩ := areIn_ints.mp (show K02.areIn 0 ((n : Int) - 1) n (.tuple ds) = true by simp only [K02.areIn, Bool.and_eq_true, decide_eq_true_eq]; exact ⟨h, ha⟩)
        cases e
        have es : sortedU [.tuple (ns.map PyData.int)] = some (.list ((sortI ns).map PyData.int)) := by
          show (intsOf (ns.map PyData.int)).map _ = _
          rw [intsOf_map]
          rfl
        rw [ha, if_neg (by decide), es]
        simp only [eCmp, eBin, eOp, eUn, eFn, eIx, eSlc, eChn, tVal, tNot, tAnd, tOr, eIf, eAnd, eOr, eNot, eIs, aNil, aCons, aStar, itemsO, eTup, nLst, eNw, pNone, pSome, sSkip, sSeq, sAsg, sAsgN, sRet, sRetN, sIf, tgName, tgAll, tgTup, sTg, sPar, sFor, iSeqM, iRg1, iRg2, iEnM, ownL, sApp, tgSet, ePop, ePopA, eCall, peeks, takes, hands, boolD, pw_bind, qQ, wipeR, reduceIte, nOp, nList, isD, lenD, wW, nLstRg, mRg1, rg_ok hn, rg_map, eq_lists]
        refine ⟨_, rfl, ?_⟩
        rw [decide_eq_true_eq, isO_map]
        subst h1
        exact ⟨fun q => ⟨rfl, ord_sort.mpr ⟨h2, q⟩⟩, fun q => (ord_sort.mp q.2).2⟩
      · rw [if_pos (by simpa using ha)]
        refine ⟨false, rfl, ⟨fun z => (by cases z), ?_⟩⟩
        rintro ⟨ns, e, h1, h2⟩
        cases e
        have := areIn_ints.mpr ⟨ns, rfl, h1, by rw [← h1]; exact h2.1⟩
        simp only [K02.areIn, Bool.and_eq_true, decide_eq_true_eq] at this
        exact absurd this.2 ha
    · simp only [eCmp, eBin, eOp, eUn, eFn, eIx, eSlc, eChn, tVal, tNot, tAnd, tOr, eIf, eAnd, eOr, eNot, eIs, aNil, aCons, aStar, itemsO, eTup, nLst, eNw, pNone, pSome, sSkip, sSeq, sAsg, sAsgN, sRet, sRetN, sIf, tgName, tgAll, tgTup, sTg, sPar, sFor, iSeqM, iRg1, iRg2, iEnM, ownL, sApp, tgSet, ePop, ePopA, eCall, peeks, takes, hands, boolD, pw_bind, qQ, wipeR, reduceIte, nOp, nList, isD, lenD, wW, decide_eq_false h]
      refine ⟨false, rfl, ⟨fun z => (by cases z), ?_⟩⟩
      rintro ⟨ns, e, h1, h2⟩
      cases e
      exact absurd (by rw [List.length_map]; omega) h
  · cases v with
    | tuple ds => exact absurd ⟨ds, rfl⟩ hv
    | _ =>
      simp only [eCmp, eBin, eOp, eUn, eFn, eIx, eSlc, eChn, tVal, tNot, tAnd, tOr, eIf, eAnd, eOr, eNot, eIs, aNil, aCons, aStar, itemsO, eTup, nLst, eNw, pNone, pSome, sSkip, sSeq, sAsg, sAsgN, sRet, sRetN, sIf, tgName, tgAll, tgTup, sTg, sPar, sFor, iSeqM, iRg1, iRg2, iEnM, ownL, sApp, tgSet, ePop, ePopA, eCall, peeks, takes, hands, boolD, pw_bind, qQ, wipeR, reduceIte, nOp, nList, isD, lenD, wW]
      exact ⟨false, rfl, ⟨fun z => (by cases z), fun ⟨ns, e, _⟩ => by cases e⟩⟩
def cF (p : Int) : PyData → Option PyData
  | .int o => if o < p then some (.int 1) else none
  | _ => none
theorem cnt_len (p : Int) : ∀ r : List Int, ((r.map PyData.int).filterMap (cF p)).length = (r.filter fun o => decide (o < p)).length
  | [] => rfl
  | a :: r => by
    rw [List.map_cons, List.filterMap_cons, List.filter_cons]
    have e : cF p (.int a) = if a < p then some (.int 1) else none := rfl
    rw [e]
    by_cases h : a < p
    · simp only [if_pos h, decide_eq_true h, if_true, List.length_cons, cnt_len p r]
    · simp only [if_neg h, decide_eq_false h, Bool.false_eq_true, if_false, cnt_len p r]
theorem drop_cons {ns : List Int} {i : Nat} {p : Int} {r : List Int} (h : ns.drop i = p :: r) : ns[i]? = some p ∧ ns.drop (i + 1) = r := by
  constructor
  · rw [← List.head?_drop, h]; rfl
  · rw [← List.tail_drop, h]; rfl
theorem count_loop (ns : List Int) (b : Option Bx) (hl : ns.length ≤ 4000) (Q : Fl → Sx → Prop) : ∀ (r : List Int) (i : Nat) (m : Int) (x2 x3 : SV), ns.drop i = r →
    (∀ y2 y3, Q .nx ⟨[.dat (.tuple (ns.map PyData.int)), .dat (.int (fc m r)), y2, y3], b⟩) →
    pw (forL (tgName 2) m_law_count_2 ((List.range' i r.length).map fun j => PyData.int (j : Nat))) ⟨[.dat (.tuple (ns.map PyData.int)), .dat (.int m), x2, x3], b⟩ Q fun _ => False
  | [], i, m, x2, x3, _, h => h x2 x3
  | p :: r, i, m, x2, x3, hd, h => by
    obtain ⟨hp, hd2⟩ := drop_cons hd
    have hi : i < ns.length := (List.getElem?_eq_some_iff.mp hp).1
    rw [List.length_cons, List.range'_succ, List.map_cons]
    unfold forL
    simp only [eCmp, eBin, eOp, eUn, eFn, eIx, eSlc, eChn, tVal, tNot, tAnd, tOr, eIf, eAnd, eOr, eNot, eIs, aNil, aCons, aStar, itemsO, eTup, nLst, eNw, pNone, pSome, sSkip, sSeq, sAsg, sAsgN, sRet, sRetN, sIf, tgName, tgAll, tgTup, sTg, sPar, sFor, iSeqM, iRg1, iRg2, iEnM, ownL, sApp, tgSet, ePop, ePopA, eCall, peeks, takes, hands, boolD, pw_bind, qQ, wipeR, reduceIte, nOp, nList, isD, lenD, wW]
    unfold m_law_count_2
    have ix : ixD' (.tuple (ns.map PyData.int)) (.int (i : Nat)) = some (.int p) := ixN (by rw [List.getElem?_map, hp]; rfl)
    simp only [eCmp, eBin, eOp, eUn, eFn, eIx, eSlc, eChn, tVal, tNot, tAnd, tOr, eIf, eAnd, eOr, eNot, eIs, aNil, aCons, aStar, itemsO, eTup, nLst, eNw, pNone, pSome, sSkip, sSeq, sAsg, sAsgN, sRet, sRetN, sIf, tgName, tgAll, tgTup, sTg, sPar, sFor, iSeqM, iRg1, iRg2, iEnM, ownL, sApp, tgSet, ePop, ePopA, eCall, peeks, takes, hands, boolD, pw_bind, qQ, wipeR, reduceIte, nOp, nList, isD, lenD, wW]
    refine q_filt1 (cF p) ?_
    have hc : cutD (ns.map PyData.int) (some ((i : Int) + 1)) none = (ns.drop (i + 1)).map PyData.int := by
      rw [K02.cut_drop' (by rw [List.length_map]; omega), List.map_drop]
    simp only [eCmp, eBin, eOp, eUn, eFn, eIx, eSlc, eChn, tVal, tNot, tAnd, tOr, eIf, eAnd, eOr, eNot, eIs, aNil, aCons, aStar, itemsO, eTup, nLst, eNw, pNone, pSome, sSkip, sSeq, sAsg, sAsgN, sRet, sRetN, sIf, tgName, tgAll, tgTup, sTg, sPar, sFor, iSeqM, iRg1, iRg2, iEnM, ownL, sApp, tgSet, ePop, ePopA, eCall, peeks, takes, hands, boolD, pw_bind, qQ, wipeR, reduceIte, nOp, nList, isD, lenD, wW, b_add, slD, hc, hd2]
    refine ⟨Nat.le_trans (m := 4000) (by rw [List.length_map, ← hd2, List.length_drop]; omega) (by decide), fun d hd => ?_, ?_⟩
    · obtain ⟨o, ho, rfl⟩ := List.mem_map.mp hd
      simp only [eCmp, eBin, eOp, eUn, eFn, eIx, eSlc, eChn, tVal, tNot, tAnd, tOr, eIf, eAnd, eOr, eNot, eIs, aNil, aCons, aStar, itemsO, eTup, nLst, eNw, pNone, pSome, sSkip, sSeq, sAsg, sAsgN, sRet, sRetN, sIf, tgName, tgAll, tgTup, sTg, sPar, sFor, iSeqM, iRg1, iRg2, iEnM, ownL, sApp, tgSet, ePop, ePopA, eCall, peeks, takes, hands, boolD, pw_bind, qQ, wipeR, reduceIte, nOp, nList, isD, lenD, wW, ix]
      by_cases h0 : o < p
      · simp only [eCmp, eBin, eOp, eUn, eFn, eIx, eSlc, eChn, tVal, tNot, tAnd, tOr, eIf, eAnd, eOr, eNot, eIs, aNil, aCons, aStar, itemsO, eTup, nLst, eNw, pNone, pSome, sSkip, sSeq, sAsg, sAsgN, sRet, sRetN, sIf, tgName, tgAll, tgTup, sTg, sPar, sFor, iSeqM, iRg1, iRg2, iEnM, ownL, sApp, tgSet, ePop, ePopA, eCall, peeks, takes, hands, boolD, pw_bind, qQ, wipeR, reduceIte, nOp, nList, isD, lenD, wW, cF, decide_eq_true h0, if_pos h0]
      · simp only [eCmp, eBin, eOp, eUn, eFn, eIx, eSlc, eChn, tVal, tNot, tAnd, tOr, eIf, eAnd, eOr, eNot, eIs, aNil, aCons, aStar, itemsO, eTup, nLst, eNw, pNone, pSome, sSkip, sSeq, sAsg, sAsgN, sRet, sRetN, sIf, tgName, tgAll, tgTup, sTg, sPar, sFor, iSeqM, iRg1, iRg2, iEnM, ownL, sApp, tgSet, ePop, ePopA, eCall, peeks, takes, hands, boolD, pw_bind, qQ, wipeR, reduceIte, nOp, nList, isD, lenD, wW, cF, decide_eq_false h0, if_neg h0]
    · simp only [eCmp, eBin, eOp, eUn, eFn, eIx, eSlc, eChn, tVal, tNot, tAnd, tOr, eIf, eAnd, eOr, eNot, eIs, aNil, aCons, aStar, itemsO, eTup, nLst, eNw, pNone, pSome, sSkip, sSeq, sAsg, sAsgN, sRet, sRetN, sIf, tgName, tgAll, tgTup, sTg, sPar, sFor, iSeqM, iRg1, iRg2, iEnM, ownL, sApp, tgSet, ePop, ePopA, eCall, peeks, takes, hands, boolD, pw_bind, qQ, wipeR, reduceIte, nOp, nList, isD, lenD, wW, lenD, cnt_len, max2D]
      have rest := fun y3 => count_loop ns b hl Q r (i + 1) (if ((r.filter fun o => decide (o < p)).length : Int) > m then ((r.filter fun o => decide (o < p)).length : Int) else m) (.dat (.int (i : Nat))) y3 hd2 h
      exact rest _
theorem r_law_count (ns : List Int) (b : Option Bx) (hl : ns.length ≤ 4000) : Runs f_law_count [.dat (.tuple (ns.map PyData.int))] b fun d b' => d = .int (hold ns) ∧ b' = b := by
  refine runs_of ?_
  unfold m_law_count m_law_count_5 m_law_count_4 m_law_count_3 m_law_count_1
  simp only [List.map_cons, List.map_nil, argSV, List.length_cons, List.length_nil, Nat.reduceAdd, Nat.reduceSub, List.replicate, List.cons_append, List.nil_append]
  simp only [eCmp, eBin, eOp, eUn, eFn, eIx, eSlc, eChn, tVal, tNot, tAnd, tOr, eIf, eAnd, eOr, eNot, eIs, aNil, aCons, aStar, itemsO, eTup, nLst, eNw, pNone, pSome, sSkip, sSeq, sAsg, sAsgN, sRet, sRetN, sIf, tgName, tgAll, tgTup, sTg, sPar, sFor, iSeqM, iRg1, iRg2, iEnM, ownL, sApp, tgSet, ePop, ePopA, eCall, peeks, takes, hands, boolD, pw_bind, qQ, wipeR, reduceIte, nOp, nList, isD, lenD, wW, lenD, List.length_map, iRg1]
  rw [if_pos (big62_of (by omega) (by omega)), rgD_nat, show rgN ns.length = (List.range' 0 ns.length).map fun j => PyData.int (j : Nat) by unfold rgN; rw [List.range_eq_range']]
  refine count_loop ns b hl _ ns 0 0 _ _ rfl fun y2 y3 => ?_
  simp only [eCmp, eBin, eOp, eUn, eFn, eIx, eSlc, eChn, tVal, tNot, tAnd, tOr, eIf, eAnd, eOr, eNot, eIs, aNil, aCons, aStar, itemsO, eTup, nLst, eNw, pNone, pSome, sSkip, sSeq, sAsg, sAsgN, sRet, sRetN, sIf, tgName, tgAll, tgTup, sTg, sPar, sFor, iSeqM, iRg1, iRg2, iEnM, ownL, sApp, tgSet, ePop, ePopA, eCall, peeks, takes, hands, boolD, pw_bind, qQ, wipeR, reduceIte, nOp, nList, isD, lenD, wW, fc_hold]
def Oks (v : PyData) : Prop := ∃ ns : List Int, v = .tuple (ns.map PyData.int) ∧ ns.length ≤ 200 ∧ Ord ns
theorem maxDD_hc (ns : List Int) : maxDD (.list ((hc ns).map PyData.int)) (.int 0) = some (.int (hold ns)) := by
  show (intsOf ((hc ns).map PyData.int)).map _ = _
  rw [intsOf_map]
  rfl
theorem r_order_hold (v : PyData) (b : Option Bx) (hl : ∀ ds, v = .tuple ds → ds.length ≤ 4000) : RunsX f_order_hold [.dat v] b (fun d b' => (∃ ns : List Int, v = .tuple (ns.map PyData.int) ∧ ns.length ≤ 200 ∧ Ord ns ∧ d = .int (hold ns)) ∧ b' = b)
    fun c fs b' => ¬ Oks v ∧ c = "BadOrder" ∧ fs = [(("given" : Str), v)] ∧ b' = b := by
  refine runsX_of ?_
  unfold m_order_hold
  simp only [List.map_cons, List.map_nil, argSV, List.length_cons, List.length_nil, Nat.reduceAdd, Nat.reduceSub, List.replicate, List.cons_append, List.nil_append]
  by_cases hv : ∃ ds, v = .tuple ds
  · obtain ⟨ds, rfl⟩ := hv
    have h4 := hl ds rfl
    by_cases h2 : (ds.length : Int) > 200
    · have nO : ¬ Oks (.tuple ds) := fun ⟨ns, e, h, _⟩ => by cases e; rw [List.length_map] at h2; omega
      simp only [eCmp, eBin, eOp, eUn, eFn, eIx, eSlc, eChn, tVal, tNot, tAnd, tOr, eIf, eAnd, eOr, eNot, eIs, aNil, aCons, aStar, itemsO, eTup, nLst, eNw, pNone, pSome, sSkip, sSeq, sAsg, sAsgN, sRet, sRetN, sIf, tgName, tgAll, tgTup, sTg, sPar, sFor, iSeqM, iRg1, iRg2, iEnM, ownL, sApp, tgSet, ePop, ePopA, eCall, peeks, takes, hands, boolD, pw_bind, qQ, wipeR, reduceIte, nOp, nList, isD, lenD, wW, lenD, c_gt, decide_eq_true h2, sRaise]
      rw [q_throw rfl (by simp)]
      exact ⟨nO, rfl, rfl, rfl⟩
    · simp only [eCmp, eBin, eOp, eUn, eFn, eIx, eSlc, eChn, tVal, tNot, tAnd, tOr, eIf, eAnd, eOr, eNot, eIs, aNil, aCons, aStar, itemsO, eTup, nLst, eNw, pNone, pSome, sSkip, sSeq, sAsg, sAsgN, sRet, sRetN, sIf, tgName, tgAll, tgTup, sTg, sPar, sFor, iSeqM, iRg1, iRg2, iEnM, ownL, sApp, tgSet, ePop, ePopA, eCall, peeks, takes, hands, boolD, pw_bind, qQ, wipeR, reduceIte, nOp, nList, isD, lenD, wW, lenD, c_gt, decide_eq_false h2]
      refine q_callR (r_is_order (.tuple ds) ds.length b hl) rfl ?_
      rintro _ _ ⟨⟨c, rfl, hc⟩, rfl⟩
      cases c with
      | false =>
        have nO : ¬ Oks (.tuple ds) := fun ⟨ns, e, h, ho⟩ => by
          have := hc.mpr ⟨ns, e, by cases e; rw [List.length_map], ho⟩
          cases this
        simp only [eCmp, eBin, eOp, eUn, eFn, eIx, eSlc, eChn, tVal, tNot, tAnd, tOr, eIf, eAnd, eOr, eNot, eIs, aNil, aCons, aStar, itemsO, eTup, nLst, eNw, pNone, pSome, sSkip, sSeq, sAsg, sAsgN, sRet, sRetN, sIf, tgName, tgAll, tgTup, sTg, sPar, sFor, iSeqM, iRg1, iRg2, iEnM, ownL, sApp, tgSet, ePop, ePopA, eCall, peeks, takes, hands, boolD, pw_bind, qQ, wipeR, reduceIte, nOp, nList, isD, lenD, wW, sRaise]
        rw [q_throw rfl (by simp)]
        exact ⟨nO, rfl, rfl, rfl⟩
      | true =>
        obtain ⟨ns, e, h1, ho⟩ := hc.mp rfl
        cases e
        rw [List.length_map] at h2
        simp only [eCmp, eBin, eOp, eUn, eFn, eIx, eSlc, eChn, tVal, tNot, tAnd, tOr, eIf, eAnd, eOr, eNot, eIs, aNil, aCons, aStar, itemsO, eTup, nLst, eNw, pNone, pSome, sSkip, sSeq, sAsg, sAsgN, sRet, sRetN, sIf, tgName, tgAll, tgTup, sTg, sPar, sFor, iSeqM, iRg1, iRg2, iEnM, ownL, sApp, tgSet, ePop, ePopA, eCall, peeks, takes, hands, boolD, pw_bind, qQ, wipeR, reduceIte, nOp, nList, isD, lenD, wW]
        refine q_callR (r_held_counts ns _ ho (by omega)) rfl ?_
        rintro _ _ ⟨rfl, rfl⟩
        simp only [eCmp, eBin, eOp, eUn, eFn, eIx, eSlc, eChn, tVal, tNot, tAnd, tOr, eIf, eAnd, eOr, eNot, eIs, aNil, aCons, aStar, itemsO, eTup, nLst, eNw, pNone, pSome, sSkip, sSeq, sAsg, sAsgN, sRet, sRetN, sIf, tgName, tgAll, tgTup, sTg, sPar, sFor, iSeqM, iRg1, iRg2, iEnM, ownL, sApp, tgSet, ePop, ePopA, eCall, peeks, takes, hands, boolD, pw_bind, qQ, wipeR, reduceIte, nOp, nList, isD, lenD, wW, maxDD_hc]
        exact ⟨ns, rfl, by omega, ho, rfl⟩
  · have nO : ¬ Oks v := fun ⟨ns, e, _⟩ => hv ⟨_, e⟩
    cases v with
    | tuple ds => exact absurd ⟨ds, rfl⟩ hv
    | _ =>
      simp only [eCmp, eBin, eOp, eUn, eFn, eIx, eSlc, eChn, tVal, tNot, tAnd, tOr, eIf, eAnd, eOr, eNot, eIs, aNil, aCons, aStar, itemsO, eTup, nLst, eNw, pNone, pSome, sSkip, sSeq, sAsg, sAsgN, sRet, sRetN, sIf, tgName, tgAll, tgTup, sTg, sPar, sFor, iSeqM, iRg1, iRg2, iEnM, ownL, sApp, tgSet, ePop, ePopA, eCall, peeks, takes, hands, boolD, pw_bind, qQ, wipeR, reduceIte, nOp, nList, isD, lenD, wW, sRaise]
      rw [q_throw rfl (by simp)]
      exact ⟨nO, rfl, rfl, rfl⟩
def came (lg : List PyData) (ns : List Int) : List PyData := ns.map fun i => lg.getD i.toNat .none
theorem ix_log {lg : List PyData} {i : Int} (h : 0 ≤ i ∧ i < lg.length) : ixD' (.tuple lg) (.int i) = some (lg.getD i.toNat .none) := by
  obtain ⟨k, rfl⟩ : ∃ k : Nat, i = (k : Int) := ⟨i.toNat, by omega⟩
  have hk : k < lg.length := by omega
  rw [Int.toNat_natCast]
  refine ixN ?_
  rw [List.getD_eq_getElem?_getD, List.getElem?_eq_getElem hk]
  rfl
theorem r_come_log (lg : List PyData) (v : PyData) (b : Option Bx) (hlg : lg.length ≤ 2000) (hl : ∀ ds, v = .tuple ds → ds.length ≤ 4000) : RunsX f_come_log [.dat (.tuple lg), .dat v] b (fun d b' => (∃ ns : List Int, v = .tuple (ns.map PyData.int) ∧ ns.length = lg.length ∧ Ord ns ∧ d = .tuple (came lg ns)) ∧ b' = b)
    fun c fs b' => ¬ IsO lg.length v ∧ c = "BadOrder" ∧ fs = [(("given" : Str), v)] ∧ b' = b := by
  refine runsX_of ?_
  unfold m_come_log
  simp only [List.map_cons, List.map_nil, argSV, List.length_cons, List.length_nil, Nat.reduceAdd, Nat.reduceSub, List.replicate, List.cons_append, List.nil_append]
  simp only [eCmp, eBin, eOp, eUn, eFn, eIx, eSlc, eChn, tVal, tNot, tAnd, tOr, eIf, eAnd, eOr, eNot, eIs, aNil, aCons, aStar, itemsO, eTup, nLst, eNw, pNone, pSome, sSkip, sSeq, sAsg, sAsgN, sRet, sRetN, sIf, tgName, tgAll, tgTup, sTg, sPar, sFor, iSeqM, iRg1, iRg2, iEnM, ownL, sApp, tgSet, ePop, ePopA, eCall, peeks, takes, hands, boolD, pw_bind, qQ, wipeR, reduceIte, nOp, nList, isD, lenD, wW, lenD]
  refine q_callR (r_is_order v lg.length b hl) rfl ?_
  rintro _ _ ⟨⟨c, rfl, hc⟩, rfl⟩
  cases c with
  | false =>
    simp only [eCmp, eBin, eOp, eUn, eFn, eIx, eSlc, eChn, tVal, tNot, tAnd, tOr, eIf, eAnd, eOr, eNot, eIs, aNil, aCons, aStar, itemsO, eTup, nLst, eNw, pNone, pSome, sSkip, sSeq, sAsg, sAsgN, sRet, sRetN, sIf, tgName, tgAll, tgTup, sTg, sPar, sFor, iSeqM, iRg1, iRg2, iEnM, ownL, sApp, tgSet, ePop, ePopA, eCall, peeks, takes, hands, boolD, pw_bind, qQ, wipeR, reduceIte, nOp, nList, isD, lenD, wW, sRaise]
    rw [q_throw rfl (by simp)]
    exact ⟨fun z => (by have := hc.mpr z; cases this), rfl, rfl, rfl⟩
  | true =>
    obtain ⟨ns, rfl, h1, ho⟩ := hc.mp rfl
    simp only [eCmp, eBin, eOp, eUn, eFn, eIx, eSlc, eChn, tVal, tNot, tAnd, tOr, eIf, eAnd, eOr, eNot, eIs, aNil, aCons, aStar, itemsO, eTup, nLst, eNw, pNone, pSome, sSkip, sSeq, sAsg, sAsgN, sRet, sRetN, sIf, tgName, tgAll, tgTup, sTg, sPar, sFor, iSeqM, iRg1, iRg2, iEnM, ownL, sApp, tgSet, ePop, ePopA, eCall, peeks, takes, hands, boolD, pw_bind, qQ, wipeR, reduceIte, nOp, nList, isD, lenD, wW]
    refine q_map1 (fun d => match d with
      | .int i => lg.getD i.toNat .none
      | _ => .none) ?_
    simp only [eCmp, eBin, eOp, eUn, eFn, eIx, eSlc, eChn, tVal, tNot, tAnd, tOr, eIf, eAnd, eOr, eNot, eIs, aNil, aCons, aStar, itemsO, eTup, nLst, eNw, pNone, pSome, sSkip, sSeq, sAsg, sAsgN, sRet, sRetN, sIf, tgName, tgAll, tgTup, sTg, sPar, sFor, iSeqM, iRg1, iRg2, iEnM, ownL, sApp, tgSet, ePop, ePopA, eCall, peeks, takes, hands, boolD, pw_bind, qQ, wipeR, reduceIte, nOp, nList, isD, lenD, wW]
    have hlm : (ns.map PyData.int).length ≤ lim := Nat.le_trans (m := 2000) (by rw [List.length_map]; omega) (by decide)
    refine ⟨hlm, fun d hd => ?_, ?_⟩
    · obtain ⟨i, hi, rfl⟩ := List.mem_map.mp hd
      simp only [eCmp, eBin, eOp, eUn, eFn, eIx, eSlc, eChn, tVal, tNot, tAnd, tOr, eIf, eAnd, eOr, eNot, eIs, aNil, aCons, aStar, itemsO, eTup, nLst, eNw, pNone, pSome, sSkip, sSeq, sAsg, sAsgN, sRet, sRetN, sIf, tgName, tgAll, tgTup, sTg, sPar, sFor, iSeqM, iRg1, iRg2, iEnM, ownL, sApp, tgSet, ePop, ePopA, eCall, peeks, takes, hands, boolD, pw_bind, qQ, wipeR, reduceIte, nOp, nList, isD, lenD, wW, ix_log (show 0 ≤ i ∧ i < lg.length by have := ho.1 i hi; omega)]
    · have e : (ns.map PyData.int).map (fun d => match d with
        | .int i => lg.getD i.toNat .none
        | _ => .none) = came lg ns := by
        rw [List.map_map]
        rfl
      rw [e]
      simp only [eCmp, eBin, eOp, eUn, eFn, eIx, eSlc, eChn, tVal, tNot, tAnd, tOr, eIf, eAnd, eOr, eNot, eIs, aNil, aCons, aStar, itemsO, eTup, nLst, eNw, pNone, pSome, sSkip, sSeq, sAsg, sAsgN, sRet, sRetN, sIf, tgName, tgAll, tgTup, sTg, sPar, sFor, iSeqM, iRg1, iRg2, iEnM, ownL, sApp, tgSet, ePop, ePopA, eCall, peeks, takes, hands, boolD, pw_bind, qQ, wipeR, reduceIte, nOp, nList, isD, lenD, wW, tupleD]
      exact ⟨ns, rfl, h1, ho, rfl⟩
end K51
set_option linter.all false
set_option Elab.async false
set_option maxHeartbeats 0
set_option maxRecDepth 10000
namespace K51
open PySem TW
open K02 (tmB tm_of q_ev lim_le' add_tup add_lst take_len drop_len cut_take cut_drop cut_drop' cut_last tma_short tma_one r_law_one q_dict0)
def oddL : List PyData := [.none, .bool true, .bool false, .int (-1), .int 0, .int 1, .int 2, .int 3, .int 4, .int (10 ^ 39), .str "", .str "0", .str "safe", .tuple [], .tuple [.int 0], .tuple [.int 0, .int 1], .tuple [.int 1, .int 0], .tuple [.tuple []], .list [], .list [.int 0],
  .dict [], .tuple [.str "log"], .tuple [.str "safe", .tuple []], .tuple [.tuple [.int 0, .int 1], .tuple [.int 1, .int 0]], .tuple [.int 0, .int 0, .int 0, .tuple []], .tuple [.int 0, .int 0, .int 1]]
def shB (n : Nat) : PyData → Bool
  | .tuple ds => decide (ds.length ≤ n)
  | _ => true
theorem odd_ok : oddL.all (tmB 50 3) = true := by decide +kernel
theorem odd_sh : oddL.all (shB 42) = true := by decide +kernel
theorem odd_a (b : Option Bx) : m_law_odd_2 ⟨[.box, .no], b⟩ = .ok (.nx, ⟨[.box, .dat (.list (oddL.take 20))], b⟩) := by rfl
theorem odd_b (b : Option Bx) : (aCons (eVar 0) (aCons (eBin .add (eVar 1) (eNw (nLst (aCons (eNw nDict0) (aCons (eTup (aCons (eC (.str "log")) aNil)) (aCons (eTup (aCons (eC (.str "safe")) (aCons (eTup aNil) aNil))) (aCons (eTup (aCons (eTup (aCons (eC (.int 0)) (aCons (eC (.int 1)) aNil))) (aCons (eTup (aCons (eC (.int 1)) (aCons (eC (.int 0)) aNil))) aNil))) (aCons (eTup (aCons (eC (.int 0)) (aCons (eC (.int 0)) (aCons (eC (.int 0)) (aCons (eTup aNil) aNil))))) (aCons (eTup (aCons (eC (.int 0)) (aCons (eC (.int 0)) (aCons (eC (.int 1)) aNil)))) aNil))))))))) aNil)) ⟨[.box, .dat (.list (oddL.take 20))], b⟩ = .ok ([.slot 0, .val (.list oddL)], ⟨[.box, .dat (.list (oddL.take 20))], b⟩) := by rfl
theorem r_law_odd (b : Option Bx) (hb : Bg b) : Runs f_law_odd [.box] b fun d b' => (Tm 50 3 d ∧ shB 42 d = true) ∧ Bg b' := by
  refine runs_of ?_
  unfold m_law_odd TW.sSeq m_law_odd_1
  simp only [List.map_cons, List.map_nil, argSV, List.length_cons, List.length_nil, Nat.reduceAdd, Nat.reduceSub, List.replicate, List.cons_append, List.nil_append]
  rw [pw_bind, q_ev (odd_a b)]
  unfold TW.sRet eCall
  show pw (_ >>= _) _ _ _
  rw [pw_bind, pw_bind, q_ev (odd_b b)]
  simp only [eCmp, eBin, eOp, eUn, eFn, eIx, eSlc, eChn, tVal, tNot, tAnd, tOr, eIf, eAnd, eOr, eNot, eIs, aNil, aCons, aStar, itemsO, eTup, nLst, eNw, pNone, pSome, sSkip, sSeq, sAsg, sAsgN, sRet, sRetN, sIf, tgName, tgAll, tgTup, sTg, sPar, sFor, iSeqM, iRg1, iRg2, iEnM, ownL, sApp, tgSet, ePop, ePopA, eCall, peeks, takes, hands, boolD, pw_bind, qQ, wipeR, reduceIte, nOp, nList, isD, lenD, wW]
  refine q_callR (r_law_one _ _ hb (by decide) (by decide)) rfl ?_
  rintro v b4 ⟨hv, hb4⟩
  simp only [eCmp, eBin, eOp, eUn, eFn, eIx, eSlc, eChn, tVal, tNot, tAnd, tOr, eIf, eAnd, eOr, eNot, eIs, aNil, aCons, aStar, itemsO, eTup, nLst, eNw, pNone, pSome, sSkip, sSeq, sAsg, sAsgN, sRet, sRetN, sIf, tgName, tgAll, tgTup, sTg, sPar, sFor, iSeqM, iRg1, iRg2, iEnM, ownL, sApp, tgSet, ePop, ePopA, eCall, peeks, takes, hands, boolD, pw_bind, qQ, wipeR, reduceIte, nOp, nList, isD, lenD, wW]
  exact ⟨⟨tm_of (List.all_eq_true.mp odd_ok v hv), List.all_eq_true.mp odd_sh v hv⟩, hb4⟩
end K51
set_option linter.all false
set_option Elab.async false
set_option maxHeartbeats 0
set_option maxRecDepth 10000
namespace K51
open PySem TW
open K02 (tmB tm_of q_ev lim_le' add_tup add_lst take_len drop_len cut_take cut_drop cut_drop' cut_last tma_short tma_one r_law_one q_dict0 l3 isT_eq)
def Gv (d : PyData) : Prop := Tm 1000 8 d ∧ shB 60 d = true
theorem sh_tup {n : Nat} {ds : List PyData} (h : ds.length ≤ n) : shB n (.tuple ds) = true := by simp [shB, h]
theorem sh_mono {n m : Nat} {d : PyData} (h : shB n d = true) (hnm : n ≤ m) : shB m d = true := by
  cases d <;> simp only [shB, decide_eq_true_eq] at h ⊢
  omega
theorem gv_odd {d : PyData} (h : Tm 50 3 d ∧ shB 42 d = true) : Gv d := ⟨h.1.mono (by omega) (by omega), sh_mono h.2 (by omega)⟩
theorem bent_tail (F : Sem) (ds : List PyData) (x2 : SV) (b : Option Bx) (hb : Bg b) (hA : TmA 240 0 ds) (hlen : ds.length ≤ 40) : pw (m_law_bent_5 F) ⟨[.box, .dat (.tuple ds), x2, .no, .no, .no], b⟩ (fun f s => match f with
    | .rt d => Gv d ∧ Bg s.b
    | .nx => Gv .none ∧ Bg s.b
    | _ => False) fun _ => False := by
  unfold m_law_bent_5 m_law_bent_4
  simp only [eCmp, eBin, eOp, eUn, eFn, eIx, eSlc, eChn, tVal, tNot, tAnd, tOr, eIf, eAnd, eOr, eNot, eIs, aNil, aCons, aStar, itemsO, eTup, nLst, eNw, pNone, pSome, sSkip, sSeq, sAsg, sAsgN, sRet, sRetN, sIf, tgName, tgAll, tgTup, sTg, sPar, sFor, iSeqM, iRg1, iRg2, iEnM, ownL, sApp, tgSet, ePop, ePopA, eCall, peeks, takes, hands, boolD, pw_bind, qQ, wipeR, reduceIte, nOp, nList, isD, lenD, wW]
  refine q_callR (runs_draw (n := (ds.length : Int) + 1) (by omega) (by omega) hb) rfl ?_
  rintro _ b1 ⟨x, rfl, hx1, hx2, hb1⟩
  obtain ⟨k, rfl⟩ : ∃ k : Nat, x = (k : Int) := ⟨x.toNat, by omega⟩
  have hk : k ≤ ds.length := by omega
  have tl : (ds.take k).length ≤ ds.length := take_len
  have dl : ∀ j, (ds.drop j).length ≤ ds.length := fun j => drop_len
  have tk0 : (ds.take k).length + (ds.drop (k + 1)).length ≤ ds.length := by rw [List.length_take, List.length_drop]; omega
  have tk1 : (ds.take k).length + (ds.drop k).length ≤ ds.length := by rw [List.length_take, List.length_drop]; omega
  unfold m_law_bent_3 m_law_bent_2
  simp only [eCmp, eBin, eOp, eUn, eFn, eIx, eSlc, eChn, tVal, tNot, tAnd, tOr, eIf, eAnd, eOr, eNot, eIs, aNil, aCons, aStar, itemsO, eTup, nLst, eNw, pNone, pSome, sSkip, sSeq, sAsg, sAsgN, sRet, sRetN, sIf, tgName, tgAll, tgTup, sTg, sPar, sFor, iSeqM, iRg1, iRg2, iEnM, ownL, sApp, tgSet, ePop, ePopA, eCall, peeks, takes, hands, boolD, pw_bind, qQ, wipeR, reduceIte, nOp, nList, isD, lenD, wW, slD, cut_take hk]
  refine q_callR (r_law_odd b1 hb1) rfl ?_
  rintro o b2 ⟨ho, hb2⟩
  have e1 : binD .add (.tuple (ds.take k)) (.tuple [o]) = some (.tuple (ds.take k ++ [o])) := add_tup (lim_le' (by simp; omega))
  have e2 : binD .add (.tuple (ds.take k ++ [o])) (.tuple (ds.drop (k + 1))) = some (.tuple (ds.take k ++ [o] ++ ds.drop (k + 1))) := add_tup (lim_le' (by have := dl (k + 1); simp; omega))
  have e3 : binD .add (.tuple (ds.take k)) (.tuple (ds.drop (k + 1))) = some (.tuple (ds.take k ++ ds.drop (k + 1))) := add_tup (lim_le' (by have := dl (k + 1); omega))
  simp only [eCmp, eBin, eOp, eUn, eFn, eIx, eSlc, eChn, tVal, tNot, tAnd, tOr, eIf, eAnd, eOr, eNot, eIs, aNil, aCons, aStar, itemsO, eTup, nLst, eNw, pNone, pSome, sSkip, sSeq, sAsg, sAsgN, sRet, sRetN, sIf, tgName, tgAll, tgTup, sTg, sPar, sFor, iSeqM, iRg1, iRg2, iEnM, ownL, sApp, tgSet, ePop, ePopA, eCall, peeks, takes, hands, boolD, pw_bind, qQ, wipeR, reduceIte, nOp, nList, isD, lenD, wW, show 0 + 1 ≤ lim from by decide, slD, cut_take hk, cut_drop' hk, e1, e2, e3, backD, listD, K02.l4]
  unfold m_law_bent_1
  simp only [eCmp, eBin, eOp, eUn, eFn, eIx, eSlc, eChn, tVal, tNot, tAnd, tOr, eIf, eAnd, eOr, eNot, eIs, aNil, aCons, aStar, itemsO, eTup, nLst, eNw, pNone, pSome, sSkip, sSeq, sAsg, sAsgN, sRet, sRetN, sIf, tgName, tgAll, tgTup, sTg, sPar, sFor, iSeqM, iRg1, iRg2, iEnM, ownL, sApp, tgSet, ePop, ePopA, eCall, peeks, takes, hands, boolD, pw_bind, qQ, wipeR, reduceIte, nOp, nList, isD, lenD, wW, slD, cut_take hk]
  refine q_callR (r_law_odd b2 hb2) rfl ?_
  rintro o' b3 ⟨ho', hb3⟩
  have e1' : binD .add (.tuple (ds.take k)) (.tuple [o']) = some (.tuple (ds.take k ++ [o'])) := add_tup (lim_le' (by simp; omega))
  have e4 : binD .add (.tuple (ds.take k ++ [o'])) (.tuple (ds.drop k)) = some (.tuple (ds.take k ++ [o'] ++ ds.drop k)) := add_tup (lim_le' (by have := dl k; simp; omega))
  have e5 : binD .add (.tuple ds) (.tuple (ds.drop (ds.length - 1))) = some (.tuple (ds ++ ds.drop (ds.length - 1))) := add_tup (lim_le' (by have := dl (ds.length - 1); omega))
  simp only [eCmp, eBin, eOp, eUn, eFn, eIx, eSlc, eChn, tVal, tNot, tAnd, tOr, eIf, eAnd, eOr, eNot, eIs, aNil, aCons, aStar, itemsO, eTup, nLst, eNw, pNone, pSome, sSkip, sSeq, sAsg, sAsgN, sRet, sRetN, sIf, tgName, tgAll, tgTup, sTg, sPar, sFor, iSeqM, iRg1, iRg2, iEnM, ownL, sApp, tgSet, ePop, ePopA, eCall, peeks, takes, hands, boolD, pw_bind, qQ, wipeR, reduceIte, nOp, nList, isD, lenD, wW, show 0 + 1 ≤ lim from by decide, e1', slD, cut_drop hk, e4, neD, cut_last, e5, K02.l2]
  have e6 : ∀ a b c d e f : PyData, binD .add (.list [a, b, c, d]) (.list [e, f]) = some (.list [a, b, c, d, e, f]) := fun a b c d e f => add_lst (show 4 + 2 ≤ lim by decide)
  simp only [eCmp, eBin, eOp, eUn, eFn, eIx, eSlc, eChn, tVal, tNot, tAnd, tOr, eIf, eAnd, eOr, eNot, eIs, aNil, aCons, aStar, itemsO, eTup, nLst, eNw, pNone, pSome, sSkip, sSeq, sAsg, sAsgN, sRet, sRetN, sIf, tgName, tgAll, tgTup, sTg, sPar, sFor, iSeqM, iRg1, iRg2, iEnM, ownL, sApp, tgSet, ePop, ePopA, eCall, peeks, takes, hands, boolD, pw_bind, qQ, wipeR, reduceIte, nOp, nList, isD, lenD, wW, e6]
  refine q_callR (r_law_one _ _ hb3 (by simp) (by simp)) rfl ?_
  rintro v b4 ⟨hv, hb4⟩
  simp only [eCmp, eBin, eOp, eUn, eFn, eIx, eSlc, eChn, tVal, tNot, tAnd, tOr, eIf, eAnd, eOr, eNot, eIs, aNil, aCons, aStar, itemsO, eTup, nLst, eNw, pNone, pSome, sSkip, sSeq, sAsg, sAsgN, sRet, sRetN, sIf, tgName, tgAll, tgTup, sTg, sPar, sFor, iSeqM, iRg1, iRg2, iEnM, ownL, sApp, tgSet, ePop, ePopA, eCall, peeks, takes, hands, boolD, pw_bind, qQ, wipeR, reduceIte, nOp, nList, isD, lenD, wW]
  refine ⟨?_, hb4⟩
  simp only [List.mem_cons, List.not_mem_nil, or_false] at hv
  rcases hv with rfl | rfl | rfl | rfl | rfl | rfl
  · exact ⟨(Tm.tup (((hA.take k).app (tma_one ho.1)).app (hA.drop (k + 1)))).mono (by omega) (by omega), sh_tup (by simp only [List.length_append, List.length_singleton]; omega)⟩
  · exact ⟨(Tm.tup ((hA.take k).app (hA.drop (k + 1)))).mono (by omega) (by omega), sh_tup (by simp only [List.length_append]; omega)⟩
  · exact ⟨(Tm.tup (tma_rev hA)).mono (by omega) (by omega), sh_tup (by simp; omega)⟩
  · exact ⟨(Tm.lst hA).mono (by omega) (by omega), rfl⟩
  · exact ⟨(Tm.tup (((hA.take k).app (tma_one ho'.1)).app (hA.drop k))).mono (by omega) (by omega), sh_tup (by simp only [List.length_append, List.length_singleton]; omega)⟩
  · exact ⟨(Tm.tup (hA.app (hA.drop _))).mono (by omega) (by omega), sh_tup (by simp; omega)⟩
theorem r_law_bent (ns : List Int) (b : Option Bx) (hb : Bg b) (hl : ns.length ≤ 40) (hA : TmA 240 0 (ns.map PyData.int)) : Runs f_law_bent [.box, .dat (.tuple (ns.map PyData.int))] b fun d b' => Gv d ∧ Bg b' := by
  show Runs (runF 6 (m_law_bent (fr_law_bent 11))) _ _ _
  refine runs_of ?_
  unfold m_law_bent m_law_bent_10
  simp only [List.map_cons, List.map_nil, argSV, List.length_cons, List.length_nil, Nat.reduceAdd, Nat.reduceSub, List.replicate, List.cons_append, List.nil_append]
  have hlen : (ns.map PyData.int).length ≤ 40 := by rw [List.length_map]; exact hl
  generalize hds : ns.map PyData.int = ds at hA hlen
  have hi : ∀ j, j < ds.length → ∃ i, ds[j]? = some (.int i) := fun j hj => by
    rw [← hds, List.length_map] at hj
    exact ⟨ns[j], by rw [← hds, List.getElem?_map, List.getElem?_eq_getElem hj]; rfl⟩
  have hbig : big62 (ds.length : Int) = true := big62_of (by omega) (by omega)
  simp only [eCmp, eBin, eOp, eUn, eFn, eIx, eSlc, eChn, tVal, tNot, tAnd, tOr, eIf, eAnd, eOr, eNot, eIs, aNil, aCons, aStar, itemsO, eTup, nLst, eNw, pNone, pSome, sSkip, sSeq, sAsg, sAsgN, sRet, sRetN, sIf, tgName, tgAll, tgTup, sTg, sPar, sFor, iSeqM, iRg1, iRg2, iEnM, ownL, sApp, tgSet, ePop, ePopA, eCall, peeks, takes, hands, boolD, pw_bind, qQ, wipeR, reduceIte, nOp, nList, isD, lenD, wW]
  refine q_cmp_map [.box, .dat (.tuple ds), .no, .no, .no, .no] b (fun _ => none) ?_
  simp only [eCmp, eBin, eOp, eUn, eFn, eIx, eSlc, eChn, tVal, tNot, tAnd, tOr, eIf, eAnd, eOr, eNot, eIs, aNil, aCons, aStar, itemsO, eTup, nLst, eNw, pNone, pSome, sSkip, sSeq, sAsg, sAsgN, sRet, sRetN, sIf, tgName, tgAll, tgTup, sTg, sPar, sFor, iSeqM, iRg1, iRg2, iEnM, ownL, sApp, tgSet, ePop, ePopA, eCall, peeks, takes, hands, boolD, pw_bind, qQ, wipeR, reduceIte, nOp, nList, isD, lenD, wW, hbig, rgD_nat, rgN_len]
  refine ⟨lim_le' (by omega), fun d hd => ?_, fun r1 hr => ?_⟩
  · obtain ⟨j, rfl, hj⟩ := rgN_mem hd
    obtain ⟨i, hg⟩ := hi j hj
    simp only [eCmp, eBin, eOp, eUn, eFn, eIx, eSlc, eChn, tVal, tNot, tAnd, tOr, eIf, eAnd, eOr, eNot, eIs, aNil, aCons, aStar, itemsO, eTup, nLst, eNw, pNone, pSome, sSkip, sSeq, sAsg, sAsgN, sRet, sRetN, sIf, tgName, tgAll, tgTup, sTg, sPar, sFor, iSeqM, iRg1, iRg2, iEnM, ownL, sApp, tgSet, ePop, ePopA, eCall, peeks, takes, hands, boolD, pw_bind, qQ, wipeR, reduceIte, nOp, nList, isD, lenD, wW, ixN hg, isT_eq]
  · rw [back_no rfl hr]
    unfold m_law_bent_9 m_law_bent_8
    have e0 : (rgN ds.length).filterMap (fun _ => (none : Option PyData)) = [] := List.filterMap_eq_nil_iff.mpr fun _ _ => rfl
    rw [e0]
    simp only [eCmp, eBin, eOp, eUn, eFn, eIx, eSlc, eChn, tVal, tNot, tAnd, tOr, eIf, eAnd, eOr, eNot, eIs, aNil, aCons, aStar, itemsO, eTup, nLst, eNw, pNone, pSome, sSkip, sSeq, sAsg, sAsgN, sRet, sRetN, sIf, tgName, tgAll, tgTup, sTg, sPar, sFor, iSeqM, iRg1, iRg2, iEnM, ownL, sApp, tgSet, ePop, ePopA, eCall, peeks, takes, hands, boolD, pw_bind, qQ, wipeR, reduceIte, nOp, nList, isD, lenD, wW, le0, n0_list, List.isEmpty_nil]
    exact bent_tail (fr_law_bent 11) ds _ b hb hA hlen
theorem seq_ix {j n : Nat} (h : j < n) : seqIndex? (j : Int) n = some j := by
  simp [seqIndex?]
  omega
theorem i63_lt {i : Int} (h1 : 0 ≤ i) (h2 : i < 1000) : i63 i = true := by
  unfold i63
  rw [Bool.and_eq_true, decide_eq_true_eq, decide_eq_true_eq]
  omega
theorem map_erase (f : Int → PyData) : ∀ (l : List Int) (j : Nat), (l.map f).eraseIdx j = (l.eraseIdx j).map f
  | [], _ => rfl
  | _ :: _, 0 => rfl
  | a :: r, j + 1 => by
    show f a :: (r.map f).eraseIdx j = f a :: (r.eraseIdx j).map f
    rw [map_erase f r j]
theorem perm_erase : ∀ (l : List Int) (j : Nat) (h : j < l.length), (l[j] :: l.eraseIdx j).Perm l
  | a :: r, 0, _ => List.Perm.refl _
  | a :: r, j + 1, h => by
    have hj : j < r.length := by simpa using h
    have ih := perm_erase r j hj
    show (r[j] :: a :: r.eraseIdx j).Perm (a :: r)
    exact (List.Perm.swap a _ _).trans (ih.cons a)
theorem r_law_mixed (xs : List Int) (b : Option Bx) (hb : Bg b) (hl : xs.length ≤ 1000) : Runs f_law_mixed [.box, .dat (.list (xs.map PyData.int))] b fun d b' => (∃ ys : List Int, d = .list (ys.map PyData.int) ∧ ys.Perm xs) ∧ Bg b' := by
  refine runs_of ?_
  unfold m_law_mixed
  simp only [List.map_cons, List.map_nil, argSV, List.length_cons, List.length_nil, Nat.reduceAdd, Nat.reduceSub, List.replicate, List.cons_append, List.nil_append]
  simp only [eCmp, eBin, eOp, eUn, eFn, eIx, eSlc, eChn, tVal, tNot, tAnd, tOr, eIf, eAnd, eOr, eNot, eIs, aNil, aCons, aStar, itemsO, eTup, nLst, eNw, pNone, pSome, sSkip, sSeq, sAsg, sAsgN, sRet, sRetN, sIf, tgName, tgAll, tgTup, sTg, sPar, sFor, iSeqM, iRg1, iRg2, iEnM, ownL, sApp, tgSet, ePop, ePopA, eCall, peeks, takes, hands, boolD, pw_bind, qQ, wipeR, reduceIte, nOp, nList, isD, lenD, wW, nList, listD]
  refine q_cmp ?_
  simp only [eCmp, eBin, eOp, eUn, eFn, eIx, eSlc, eChn, tVal, tNot, tAnd, tOr, eIf, eAnd, eOr, eNot, eIs, aNil, aCons, aStar, itemsO, eTup, nLst, eNw, pNone, pSome, sSkip, sSeq, sAsg, sAsgN, sRet, sRetN, sIf, tgName, tgAll, tgTup, sTg, sPar, sFor, iSeqM, iRg1, iRg2, iEnM, ownL, sApp, tgSet, ePop, ePopA, eCall, peeks, takes, hands, boolD, pw_bind, qQ, wipeR, reduceIte, nOp, nList, isD, lenD, wW]
  refine ⟨fun acc r s => ∃ (as rest : List Int) (x3 : SV) (b1 : Option Bx), acc = as.map PyData.int ∧ s = ⟨[.box, .dat (.list (xs.map PyData.int)), .own (.list (rest.map PyData.int)), x3], b1⟩ ∧ Bg b1 ∧ (as ++ rest).Perm xs ∧ rest.length = r.length, ⟨[], xs, .no, b, rfl, rfl, hb, List.Perm.refl _, by simp⟩, ?_, ?_⟩
  · rintro acc d r _ ⟨as, rest, x3, b1, rfl, rfl, hb1, hp, hr⟩
    rw [List.length_cons] at hr
    have hlen := hp.length_eq
    rw [List.length_append] at hlen
    simp only [eCmp, eBin, eOp, eUn, eFn, eIx, eSlc, eChn, tVal, tNot, tAnd, tOr, eIf, eAnd, eOr, eNot, eIs, aNil, aCons, aStar, itemsO, eTup, nLst, eNw, pNone, pSome, sSkip, sSeq, sAsg, sAsgN, sRet, sRetN, sIf, tgName, tgAll, tgTup, sTg, sPar, sFor, iSeqM, iRg1, iRg2, iEnM, ownL, sApp, tgSet, ePop, ePopA, eCall, peeks, takes, hands, boolD, pw_bind, qQ, wipeR, reduceIte, nOp, nList, isD, lenD, wW, wipeR]
    refine q_callR (runs_draw (n := ((rest.map PyData.int).length : Int)) (by rw [List.length_map]; omega) (by rw [List.length_map]; omega) hb1) rfl ?_
    rintro _ b2 ⟨x, rfl, hx1, hx2, hb2⟩
    obtain ⟨j, rfl⟩ : ∃ j : Nat, x = (j : Int) := ⟨x.toNat, by omega⟩
    rw [List.length_map] at hx2
    have hj : j < rest.length := by omega
    have hg : (rest.map PyData.int)[j]? = some (.int rest[j]) := by rw [List.getElem?_map, List.getElem?_eq_getElem hj]; rfl
    have h63 : i63 (j : Int) = true := i63_lt (by omega) (by omega)
    have hsq : seqIndex? (j : Int) (rest.map PyData.int).length = some j := seq_ix (by rw [List.length_map]; exact hj)
    simp only [eCmp, eBin, eOp, eUn, eFn, eIx, eSlc, eChn, tVal, tNot, tAnd, tOr, eIf, eAnd, eOr, eNot, eIs, aNil, aCons, aStar, itemsO, eTup, nLst, eNw, pNone, pSome, sSkip, sSeq, sAsg, sAsgN, sRet, sRetN, sIf, tgName, tgAll, tgTup, sTg, sPar, sFor, iSeqM, iRg1, iRg2, iEnM, ownL, sApp, tgSet, ePop, ePopA, eCall, peeks, takes, hands, boolD, pw_bind, qQ, wipeR, reduceIte, nOp, nList, isD, lenD, wW, h63, hsq, hg]
    refine ⟨Nat.lt_of_le_of_lt (m := 1000) (by rw [List.length_map]; omega) (by decide), as ++ [rest[j]], rest.eraseIdx j, .dat d, b2, by rw [List.map_append]; rfl, ?_, hb2, ?_, by rw [List.length_eraseIdx_of_lt hj]; omega⟩
    · rw [map_erase]
    · refine List.Perm.trans ?_ hp
      rw [List.append_assoc]
      exact List.Perm.append_left as (perm_erase rest j hj)
  · rintro acc _ ⟨as, rest, x3, b1, rfl, rfl, hb1, hp, hr⟩
    have : rest = [] := List.length_eq_zero_iff.mp hr
    subst this
    simp only [eCmp, eBin, eOp, eUn, eFn, eIx, eSlc, eChn, tVal, tNot, tAnd, tOr, eIf, eAnd, eOr, eNot, eIs, aNil, aCons, aStar, itemsO, eTup, nLst, eNw, pNone, pSome, sSkip, sSeq, sAsg, sAsgN, sRet, sRetN, sIf, tgName, tgAll, tgTup, sTg, sPar, sFor, iSeqM, iRg1, iRg2, iEnM, ownL, sApp, tgSet, ePop, ePopA, eCall, peeks, takes, hands, boolD, pw_bind, qQ, wipeR, reduceIte, nOp, nList, isD, lenD, wW, backR]
    exact ⟨⟨as, rfl, by simpa using hp⟩, hb1⟩
end K51
set_option linter.all false
set_option Elab.async false
set_option maxHeartbeats 0
set_option maxRecDepth 10000
namespace K51
open PySem TW
open K02 (tmB tm_of q_ev lim_le' add_tup add_lst take_len drop_len cut_take cut_drop cut_drop' cut_last tma_short tma_one tma_all)
theorem cut_t1 {ds : List PyData} : cutD ds none (some 1) = ds.take 1 := by
  cases ds with
  | nil => rfl
  | cons a r => exact cut_take (k := 1) (by simp)
theorem cut_d1 {ds : List PyData} : cutD ds (some 1) none = ds.drop 1 := by
  exact cut_drop' (k := 0) (Nat.zero_le _)
def bl2 : PyData → PyData
  | .int i => if i < 2 then .bool (i != 0) else .int i
  | d => d
theorem gv_tup {n : Nat} {ds : List PyData} (h : TmA n 3 ds) (hn : n ≤ 900) (hl : ds.length ≤ 60) : Gv (.tuple ds) := ⟨(Tm.tup h).mono (by omega) (by omega), sh_tup hl⟩
theorem tm_bl2 {i : Int} (h : i.natAbs < 1000) : Tm 8 0 (bl2 (.int i)) := by
  unfold bl2
  by_cases h2 : i < 2
  · simp only [h2, if_true]
    cases (i != 0) <;> exact tm_of (n := 8) (m := 0) (by decide)
  · simp only [h2, if_false]
    exact (tm_small h).mono (by omega) (by omega)
theorem rgI_mem {n : Nat} {i : Int} (h : i ∈ rgI n) : 0 ≤ i ∧ i < n := by
  unfold rgI at h
  obtain ⟨k, hk, rfl⟩ := List.mem_map.mp h
  rw [List.mem_range] at hk
  omega
theorem rgI_len {n : Nat} : (rgI n).length = n := by unfold rgI; rw [List.length_map, List.length_range]
theorem r_law_values (n : Nat) (b : Option Bx) (hb : Bg b) (hn : n ≤ 40) : Runs f_law_values [.box, .dat (.int n)] b fun d b' => (∃ ds, d = .list ds ∧ ds.length ≤ 15 ∧ ∀ v ∈ ds, Gv v) ∧ Bg b' := by
  refine runs_of ?_
  unfold m_law_values m_law_values_10
  simp only [List.map_cons, List.map_nil, argSV, List.length_cons, List.length_nil, Nat.reduceAdd, Nat.reduceSub, List.replicate, List.cons_append, List.nil_append]
  simp only [eCmp, eBin, eOp, eUn, eFn, eIx, eSlc, eChn, tVal, tNot, tAnd, tOr, eIf, eAnd, eOr, eNot, eIs, aNil, aCons, aStar, itemsO, eTup, nLst, eNw, pNone, pSome, sSkip, sSeq, sAsg, sAsgN, sRet, sRetN, sIf, tgName, tgAll, tgTup, sTg, sPar, sFor, iSeqM, iRg1, iRg2, iEnM, ownL, sApp, tgSet, ePop, ePopA, eCall, peeks, takes, hands, boolD, pw_bind, qQ, wipeR, reduceIte, nOp, nList, isD, lenD, wW, nLstRg, mRg1, rg_ok (show n ≤ 4000 by omega), rg_map]
  refine q_callR (r_law_mixed (rgI n) b hb (by rw [rgI_len]; omega)) rfl ?_
  rintro _ b1 ⟨⟨ns, rfl, hp⟩, hb1⟩
  have hl : ns.length = n := by rw [hp.length_eq, rgI_len]
  have hA0 : TmA 240 0 (ns.map PyData.int) := (K02.tma_ints (n := n) (by omega) fun l h => rgI_mem (hp.mem_iff.mp h)).mono (by omega) (by omega)
  have hb0 := r_law_bent ns
  unfold m_law_values_9 m_law_values_8
  simp only [eCmp, eBin, eOp, eUn, eFn, eIx, eSlc, eChn, tVal, tNot, tAnd, tOr, eIf, eAnd, eOr, eNot, eIs, aNil, aCons, aStar, itemsO, eTup, nLst, eNw, pNone, pSome, sSkip, sSeq, sAsg, sAsgN, sRet, sRetN, sIf, tgName, tgAll, tgTup, sTg, sPar, sFor, iSeqM, iRg1, iRg2, iEnM, ownL, sApp, tgSet, ePop, ePopA, eCall, peeks, takes, hands, boolD, pw_bind, qQ, wipeR, reduceIte, nOp, nList, isD, lenD, wW, tupleD]
  refine q_callR (runs_draw (n := (n : Int) + 1) (by omega) (by omega) hb1) rfl ?_
  rintro _ b2 ⟨x, rfl, hx1, hx2, hb2⟩
  obtain ⟨k, rfl⟩ : ∃ k : Nat, x = (k : Int) := ⟨x.toNat, by omega⟩
  have hbent := fun b hb => r_law_bent ns b hb (by omega) hA0
  have hA1 : TmA 240 0 ((rgI n).map PyData.int) := (K02.tma_ints (n := n) (by omega) fun l h => rgI_mem h).mono (by rw [rgI_len]; omega) (by omega)
  have hlen : (ns.map PyData.int).length = n := by rw [List.length_map, hl]
  have hl1 : ((rgI n).map PyData.int).length = n := by rw [List.length_map, rgI_len]
  have hints : ∀ d ∈ ns.map PyData.int, ∃ i, d = .int i ∧ i.natAbs < 1000 := fun d hd => by
    obtain ⟨i, hi, rfl⟩ := List.mem_map.mp hd
    have := rgI_mem (hp.mem_iff.mp hi)
    exact ⟨i, rfl, by omega⟩
  generalize hds : ns.map PyData.int = ds at hA0 hbent hlen hints
  have hk : k ≤ ds.length := by omega
  have tl : (ds.take k).length ≤ ds.length := take_len
  have t1 : (ds.take 1).length ≤ ds.length := take_len
  have d1 : (ds.drop 1).length ≤ ds.length := drop_len
  have dk : (ds.drop k).length ≤ ds.length := drop_len
  have dk1 : (ds.drop (k + 1)).length ≤ ds.length := drop_len
  have hN : Tm 4 0 (.int (n : Int)) := tm_small (by omega)
  have hM : Tm 4 0 (.int (-1)) := tm_small (by decide)
  have ad : ∀ {xs ys : List PyData}, xs.length + ys.length ≤ 1000 → binD .add (.tuple xs) (.tuple ys) = some (.tuple (xs ++ ys)) := fun h => add_tup (lim_le' (by omega))
  have e1 : binD .add (.tuple ds) (.tuple [.int n]) = some (.tuple (ds ++ [.int n])) := ad (by simp; omega)
  have e2 : binD .add (.tuple ds) (.tuple (ds.take 1)) = some (.tuple (ds ++ ds.take 1)) := ad (by omega)
  have e3 : ∀ d, binD .add (.tuple (ds.take k)) (.tuple [d]) = some (.tuple (ds.take k ++ [d])) := fun d => ad (by simp; omega)
  have e4 : ∀ d, binD .add (.tuple (ds.take k ++ [d])) (.tuple (ds.drop (k + 1))) = some (.tuple (ds.take k ++ [d] ++ ds.drop (k + 1))) := fun d => ad (by simp; omega)
  have e5 : binD .add (.tuple (ds.take k)) (.tuple (ds.take 1)) = some (.tuple (ds.take k ++ ds.take 1)) := ad (by omega)
  have e6 : binD .add (.tuple (ds.take k ++ ds.take 1)) (.tuple (ds.drop (k + 1))) = some (.tuple (ds.take k ++ ds.take 1 ++ ds.drop (k + 1))) := ad (by rw [List.length_append]; omega)
  have e7 : ∀ d, binD .add (.tuple (ds.take k ++ [d])) (.tuple (ds.drop k)) = some (.tuple (ds.take k ++ [d] ++ ds.drop k)) := fun d => ad (by simp; omega)
  unfold m_law_values_7 m_law_values_6
  simp only [eCmp, eBin, eOp, eUn, eFn, eIx, eSlc, eChn, tVal, tNot, tAnd, tOr, eIf, eAnd, eOr, eNot, eIs, aNil, aCons, aStar, itemsO, eTup, nLst, eNw, pNone, pSome, sSkip, sSeq, sAsg, sAsgN, sRet, sRetN, sIf, tgName, tgAll, tgTup, sTg, sPar, sFor, iSeqM, iRg1, iRg2, iEnM, ownL, sApp, tgSet, ePop, ePopA, eCall, peeks, takes, hands, boolD, pw_bind, qQ, wipeR, reduceIte, nOp, nList, isD, lenD, wW, eTupRg, mRg1, rg_ok (show n ≤ 4000 by omega), rg_map, tupleD, backD, slD, cut_d1, cut_t1, e1, e2, listD]
  unfold m_law_values_5 m_law_values_4
  have h01 : 0 + 1 ≤ lim := by decide
  have h03 : 0 + 1 + 1 + 1 ≤ lim := by decide
  have h07 : 0 + 1 + 1 + 1 + 1 + 1 + 1 + 1 ≤ lim := by decide
  have a1 : ∀ a b c d e f g h i j : PyData, binD .add (.list [a, b, c, d, e, f, g]) (.list [h, i, j]) = some (.list [a, b, c, d, e, f, g, h, i, j]) := fun _ _ _ _ _ _ _ _ _ _ => add_lst (show 7 + 3 ≤ lim by decide)
  have a2 : ∀ a b c d e f g h i j k l m : PyData, binD .add (.list [a, b, c, d, e, f, g, h, i, j]) (.list [k, l, m]) = some (.list [a, b, c, d, e, f, g, h, i, j, k, l, m]) := fun _ _ _ _ _ _ _ _ _ _ _ _ _ => add_lst (show 10 + 3 ≤ lim by decide)
  have a3 : ∀ a b c d e f g h i j k l m n o : PyData, binD .add (.list [a, b, c, d, e, f, g, h, i, j, k, l, m]) (.list [n, o]) = some (.list [a, b, c, d, e, f, g, h, i, j, k, l, m, n, o]) := fun _ _ _ _ _ _ _ _ _ _ _ _ _ _ _ => add_lst (show 13 + 2 ≤ lim by decide)
  simp only [eCmp, eBin, eOp, eUn, eFn, eIx, eSlc, eChn, tVal, tNot, tAnd, tOr, eIf, eAnd, eOr, eNot, eIs, aNil, aCons, aStar, itemsO, eTup, nLst, eNw, pNone, pSome, sSkip, sSeq, sAsg, sAsgN, sRet, sRetN, sIf, tgName, tgAll, tgTup, sTg, sPar, sFor, iSeqM, iRg1, iRg2, iEnM, ownL, sApp, tgSet, ePop, ePopA, eCall, peeks, takes, hands, boolD, pw_bind, qQ, wipeR, reduceIte, nOp, nList, isD, lenD, wW, slD, cut_take hk, cut_drop' hk, e3, e4, neD, h01, h07]
  refine q_callR (r_law_odd b2 hb2) rfl ?_
  rintro o b3 ⟨ho, hb3⟩
  unfold m_law_values_3 m_law_values_2
  simp only [eCmp, eBin, eOp, eUn, eFn, eIx, eSlc, eChn, tVal, tNot, tAnd, tOr, eIf, eAnd, eOr, eNot, eIs, aNil, aCons, aStar, itemsO, eTup, nLst, eNw, pNone, pSome, sSkip, sSeq, sAsg, sAsgN, sRet, sRetN, sIf, tgName, tgAll, tgTup, sTg, sPar, sFor, iSeqM, iRg1, iRg2, iEnM, ownL, sApp, tgSet, ePop, ePopA, eCall, peeks, takes, hands, boolD, pw_bind, qQ, wipeR, reduceIte, nOp, nList, isD, lenD, wW, h03, a1, slD, cut_take hk, cut_drop' hk, cut_drop hk, cut_t1, e3, e5, e6, e7, h01]
  refine q_callR (hbent b3 hb3) rfl ?_
  rintro bt b4 ⟨hbt, hb4⟩
  unfold m_law_values_1
  simp only [eCmp, eBin, eOp, eUn, eFn, eIx, eSlc, eChn, tVal, tNot, tAnd, tOr, eIf, eAnd, eOr, eNot, eIs, aNil, aCons, aStar, itemsO, eTup, nLst, eNw, pNone, pSome, sSkip, sSeq, sAsg, sAsgN, sRet, sRetN, sIf, tgName, tgAll, tgTup, sTg, sPar, sFor, iSeqM, iRg1, iRg2, iEnM, ownL, sApp, tgSet, ePop, ePopA, eCall, peeks, takes, hands, boolD, pw_bind, qQ, wipeR, reduceIte, nOp, nList, isD, lenD, wW, h03, a2]
  refine q_map1 bl2 ?_
  simp only [eCmp, eBin, eOp, eUn, eFn, eIx, eSlc, eChn, tVal, tNot, tAnd, tOr, eIf, eAnd, eOr, eNot, eIs, aNil, aCons, aStar, itemsO, eTup, nLst, eNw, pNone, pSome, sSkip, sSeq, sAsg, sAsgN, sRet, sRetN, sIf, tgName, tgAll, tgTup, sTg, sPar, sFor, iSeqM, iRg1, iRg2, iEnM, ownL, sApp, tgSet, ePop, ePopA, eCall, peeks, takes, hands, boolD, pw_bind, qQ, wipeR, reduceIte, nOp, nList, isD, lenD, wW]
  refine ⟨lim_le' (by omega), fun d hd => ?_, ?_⟩
  · obtain ⟨i, rfl, _⟩ := hints d hd
    simp only [eCmp, eBin, eOp, eUn, eFn, eIx, eSlc, eChn, tVal, tNot, tAnd, tOr, eIf, eAnd, eOr, eNot, eIs, aNil, aCons, aStar, itemsO, eTup, nLst, eNw, pNone, pSome, sSkip, sSeq, sAsg, sAsgN, sRet, sRetN, sIf, tgName, tgAll, tgTup, sTg, sPar, sFor, iSeqM, iRg1, iRg2, iEnM, ownL, sApp, tgSet, ePop, ePopA, eCall, peeks, takes, hands, boolD, pw_bind, qQ, wipeR, reduceIte, nOp, nList, isD, lenD, wW]
    by_cases h2 : i < 2
    · simp only [eCmp, eBin, eOp, eUn, eFn, eIx, eSlc, eChn, tVal, tNot, tAnd, tOr, eIf, eAnd, eOr, eNot, eIs, aNil, aCons, aStar, itemsO, eTup, nLst, eNw, pNone, pSome, sSkip, sSeq, sAsg, sAsgN, sRet, sRetN, sIf, tgName, tgAll, tgTup, sTg, sPar, sFor, iSeqM, iRg1, iRg2, iEnM, ownL, sApp, tgSet, ePop, ePopA, eCall, peeks, takes, hands, boolD, pw_bind, qQ, wipeR, reduceIte, nOp, nList, isD, lenD, wW, decide_eq_true h2, boolF, bl2, if_pos h2]
    · simp only [eCmp, eBin, eOp, eUn, eFn, eIx, eSlc, eChn, tVal, tNot, tAnd, tOr, eIf, eAnd, eOr, eNot, eIs, aNil, aCons, aStar, itemsO, eTup, nLst, eNw, pNone, pSome, sSkip, sSeq, sAsg, sAsgN, sRet, sRetN, sIf, tgName, tgAll, tgTup, sTg, sPar, sFor, iSeqM, iRg1, iRg2, iEnM, ownL, sApp, tgSet, ePop, ePopA, eCall, peeks, takes, hands, boolD, pw_bind, qQ, wipeR, reduceIte, nOp, nList, isD, lenD, wW, decide_eq_false h2, bl2, if_neg h2]
  · simp only [eCmp, eBin, eOp, eUn, eFn, eIx, eSlc, eChn, tVal, tNot, tAnd, tOr, eIf, eAnd, eOr, eNot, eIs, aNil, aCons, aStar, itemsO, eTup, nLst, eNw, pNone, pSome, sSkip, sSeq, sAsg, sAsgN, sRet, sRetN, sIf, tgName, tgAll, tgTup, sTg, sPar, sFor, iSeqM, iRg1, iRg2, iEnM, ownL, sApp, tgSet, ePop, ePopA, eCall, peeks, takes, hands, boolD, pw_bind, qQ, wipeR, reduceIte, nOp, nList, isD, lenD, wW, tupleD]
    refine q_callR (r_law_odd b4 hb4) rfl ?_
    rintro o' b5 ⟨ho', hb5⟩
    simp only [eCmp, eBin, eOp, eUn, eFn, eIx, eSlc, eChn, tVal, tNot, tAnd, tOr, eIf, eAnd, eOr, eNot, eIs, aNil, aCons, aStar, itemsO, eTup, nLst, eNw, pNone, pSome, sSkip, sSeq, sAsg, sAsgN, sRet, sRetN, sIf, tgName, tgAll, tgTup, sTg, sPar, sFor, iSeqM, iRg1, iRg2, iEnM, ownL, sApp, tgSet, ePop, ePopA, eCall, peeks, takes, hands, boolD, pw_bind, qQ, wipeR, reduceIte, nOp, nList, isD, lenD, wW, show 0 + 1 + 1 ≤ lim from by decide, a3]
    refine ⟨⟨_, rfl, Nat.le_refl 15, fun v hv => ?_⟩, hb5⟩
    simp only [List.mem_cons, List.not_mem_nil, or_false] at hv
    have hm : ∀ {x y : List PyData}, True := fun {_ _} => trivial
    rcases hv with rfl | rfl | rfl | rfl | rfl | rfl | rfl | rfl | rfl | rfl | rfl | rfl | rfl | rfl | rfl
    · exact gv_tup (n := 240) (hA0.mono (Nat.le_refl _) (by omega)) (by omega) (by omega)
    · exact gv_tup (n := 240) (hA1.mono (Nat.le_refl _) (by omega)) (by omega) (by omega)
    · exact gv_tup (n := 240) ((tma_rev hA0).mono (Nat.le_refl _) (by omega)) (by omega) (by rw [List.length_reverse]; omega)
    · exact gv_tup (n := 240) ((hA0.drop 1).mono (Nat.le_refl _) (by omega)) (by omega) (by omega)
    · exact gv_tup (n := 260) ((hA0.app (tma_one hN)).mono (by omega) (by omega)) (by omega) (by simp; omega)
    · exact ⟨(Tm.lst hA0).mono (by omega) (by omega), rfl⟩
    · exact gv_tup (n := 500) ((hA0.app (hA0.take 1)).mono (by omega) (by omega)) (by omega) (by rw [List.length_append, List.length_take]; omega)
    · exact gv_tup (n := 500) (((hA0.take k).app (tma_one hN)).app (hA0.drop (k + 1)) |>.mono (by omega) (by omega)) (by omega) (by simp only [List.length_append, List.length_singleton]; rw [List.length_take, List.length_drop]; omega)
    · exact gv_tup (n := 500) (((hA0.take k).app (tma_one hM)).app (hA0.drop (k + 1)) |>.mono (by omega) (by omega)) (by omega) (by simp only [List.length_append, List.length_singleton]; rw [List.length_take, List.length_drop]; omega)
    · exact gv_odd ho
    · exact gv_tup (n := 800) (((hA0.take k).app (hA0.take 1)).app (hA0.drop (k + 1)) |>.mono (by omega) (by omega)) (by omega) (by simp only [List.length_append]; rw [List.length_take, List.length_take, List.length_drop]; omega)
    · exact gv_tup (n := 500) (((hA0.take k).app (tma_one tm_none)).app (hA0.drop k) |>.mono (by omega) (by omega)) (by omega) (by simp only [List.length_append, List.length_singleton]; rw [List.length_take, List.length_drop]; omega)
    · exact hbt
    · refine gv_tup (n := 400) ((tma_all (n := 8) (m := 0) fun d hd => ?_).mono (by rw [List.length_map]; omega) (by omega)) (by omega) (by rw [List.length_map]; omega)
      obtain ⟨e, he, rfl⟩ := List.mem_map.mp hd
      obtain ⟨i, rfl, hi⟩ := hints e he
      exact tm_bl2 hi
    · exact gv_odd ho'
end K51
set_option linter.all false
set_option Elab.async false
set_option maxHeartbeats 0
set_option maxRecDepth 10000
namespace K51
open PySem TW
theorem q_ask {wr : Wr} {n : Nat} {cl : Clz} {m : M Opd} {s : Sx} {Q : Opd → Sx → Prop} {E : Er → Prop}
    (h : pw (m >>= take) ⟨s.r.map hideV, s.b⟩ (fun d s' => Q (.val (wr.d d)) ⟨s.r, s'.b⟩) fun e => match e with
      | .stuck => False
      | .exc c fs _ b => ∃ d b', clzF n cl c fs b = .ok (d, b') ∧ Q (.val d) ⟨s.r, b'⟩) : pw (eAsk wr n cl m) s Q E := by
  unfold pw at h ⊢
  unfold eAsk lamM
  have e : (do let o ← m; take o : M PyData) = (m >>= take) := rfl
  rw [e]
  cases hm : (m >>= take) ⟨s.r.map hideV, s.b⟩ with
  | ok p =>
    obtain ⟨d, s'⟩ := p
    rw [hm] at h
    exact h
  | error er =>
    rw [hm] at h
    cases er with
    | stuck => exact h.elim
    | exc c fs r b =>
      obtain ⟨d, b', h1, h2⟩ := h
      dsimp only
      rw [h1]
      exact h2
theorem tried (v : PyData) (b : Option Bx) : clzF 3 cl_law_tried ("BadOrder" : Str) [(("given" : Str), v)] b = .ok (.list [.str "order", v], b) := by
  kernel_rfl
end K51
set_option linter.all false
set_option Elab.async false
set_option maxHeartbeats 0
set_option maxRecDepth 10000
namespace K51
open PySem TW
open K02 (tmB tm_of q_ev lim_le' add_tup add_lst take_len drop_len cut_take cut_drop cut_drop' cut_last tma_short tma_one tma_all isT_eq)
theorem rp {n m : Nat} {d : PyData} (h : Tm n m d) (hn : n ≤ 10000) (hm : m ≤ 60) : ∃ x, reprD [d] = some (.str x) ∧ cmpD .ne (.str x) (.str x) = some (.bool false) := by
  have hk := (tame_shw h.t).k
  refine ⟨_, repr_tm h (by omega) (by omega), ?_⟩
  rw [cmpD_ne, if_pos (by unfold shp SeqAt.shaped; simp [PyData.canLay0, PyData.depth, hk])]
  simp [PyData.eqv]
def hA (v d : PyData) : Prop := (∃ ns : List Int, v = .tuple (ns.map PyData.int) ∧ ns.length ≤ 200 ∧ Ord ns ∧ d = .int (hold ns)) ∨ (¬ Oks v ∧ d = .list [.str "order", v])
theorem gv_len {v : PyData} (g : Gv v) : ∀ ds, v = .tuple ds → ds.length ≤ 60 := by
  rintro ds rfl
  have := g.2
  simpa [shB] using this
theorem hA_tm {v d : PyData} (g : Gv v) (h : hA v d) : Tm 1100 9 d := by
  rcases h with ⟨ns, rfl, hl, _, rfl⟩ | ⟨_, rfl⟩
  · have := hold_bd ns
    exact (tm_small (by omega)).mono (by omega) (by omega)
  · exact (Tm.lst (TmA.cons (tm_of (n := 40) (m := 0) (by decide +kernel)) (TmA.cons g.1 TmA.nil))).mono (by omega) (by omega)
theorem hA_one {v d d' : PyData} (h : hA v d) (h' : hA v d') : d = d' := by
  rcases h with ⟨ns, rfl, hl, ho, rfl⟩ | ⟨hn, rfl⟩
  · rcases h' with ⟨ms, e, _, _, rfl⟩ | ⟨hn, rfl⟩
    · have := congrArg intsOf (PyData.tuple.inj e)
      rw [intsOf_map, intsOf_map] at this
      cases Option.some.inj this
      rfl
    · exact absurd ⟨ns, rfl, by omega, ho⟩ hn
  · rcases h' with ⟨ms, rfl, hl, ho, rfl⟩ | ⟨_, rfl⟩
    · exact absurd ⟨ms, rfl, by omega, ho⟩ hn
    · rfl
theorem ask_hold (i : Nat) (v : PyData) (g : ∀ ds, v = .tuple ds → ds.length ≤ 4000) (s : Sx) (hs : (s.r.map hideV).getD i .no = .dat v) (Q : Opd → Sx → Prop) (h : ∀ d, hA v d → Q (.val d) s) :
    pw (eAsk wr_law_tried 3 cl_law_tried (eCallX 1 f_order_hold (aCons (eVar i) aNil))) s Q fun _ => False := by
  refine q_ask ?_
  obtain ⟨r, b⟩ := s
  have hs : (r.map hideV).getD i .no = .dat v := hs
  unfold eCallX
  simp only [eCmp, eBin, eOp, eUn, eFn, eIx, eSlc, eChn, tVal, tNot, tAnd, tOr, eIf, eAnd, eOr, eNot, eIs, aNil, aCons, aStar, itemsO, eTup, nLst, eNw, pNone, pSome, sSkip, sSeq, sAsg, sAsgN, sRet, sRetN, sIf, tgName, tgAll, tgTup, sTg, sPar, sFor, iSeqM, iRg1, iRg2, iEnM, ownL, sApp, tgSet, ePop, ePopA, eCall, peeks, takes, hands, boolD, pw_bind, qQ, wipeR, reduceIte, nOp, nList, isD, lenD, wW, hs]
  refine q_callXR (r_order_hold v b g) rfl ?_ ?_
  · rintro d _ ⟨⟨ns, h1, h2, h3, rfl⟩, rfl⟩
    simp only [eCmp, eBin, eOp, eUn, eFn, eIx, eSlc, eChn, tVal, tNot, tAnd, tOr, eIf, eAnd, eOr, eNot, eIs, aNil, aCons, aStar, itemsO, eTup, nLst, eNw, pNone, pSome, sSkip, sSeq, sAsg, sAsgN, sRet, sRetN, sIf, tgName, tgAll, tgTup, sTg, sPar, sFor, iSeqM, iRg1, iRg2, iEnM, ownL, sApp, tgSet, ePop, ePopA, eCall, peeks, takes, hands, boolD, pw_bind, qQ, wipeR, reduceIte, nOp, nList, isD, lenD, wW]
    exact h _ (.inl ⟨ns, h1, h2, h3, rfl⟩)
  · rintro c fs _ ⟨h1, rfl, rfl, rfl⟩
    exact ⟨_, _, tried v _, h _ (.inr ⟨h1, rfl⟩)⟩
def cA (lg : List PyData) (v d : PyData) : Prop := (∃ ns : List Int, v = .tuple (ns.map PyData.int) ∧ ns.length = lg.length ∧ Ord ns ∧ d = .tuple (came lg ns)) ∨ (¬ IsO lg.length v ∧ d = .list [.str "order", v])
theorem ask_come (lg : List PyData) (v : PyData) (hlg : lg.length ≤ 2000) (g : ∀ ds, v = .tuple ds → ds.length ≤ 4000) (s : Sx) (hs : (s.r.map hideV).getD 2 .no = .dat v) (hs3 : (s.r.map hideV).getD 3 .no = .dat (.tuple lg)) (Q : Opd → Sx → Prop) (h : ∀ d, cA lg v d → Q (.val d) s) :
    pw (eAsk wr_law_tried 3 cl_law_tried (eCallX 2 f_come_log (aCons (eVar 3) (aCons (eVar 2) aNil)))) s Q fun _ => False := by
  refine q_ask ?_
  obtain ⟨r, b⟩ := s
  have hs : (r.map hideV).getD 2 .no = .dat v := hs
  have hs3 : (r.map hideV).getD 3 .no = .dat (.tuple lg) := hs3
  unfold eCallX
  simp only [eCmp, eBin, eOp, eUn, eFn, eIx, eSlc, eChn, tVal, tNot, tAnd, tOr, eIf, eAnd, eOr, eNot, eIs, aNil, aCons, aStar, itemsO, eTup, nLst, eNw, pNone, pSome, sSkip, sSeq, sAsg, sAsgN, sRet, sRetN, sIf, tgName, tgAll, tgTup, sTg, sPar, sFor, iSeqM, iRg1, iRg2, iEnM, ownL, sApp, tgSet, ePop, ePopA, eCall, peeks, takes, hands, boolD, pw_bind, qQ, wipeR, reduceIte, nOp, nList, isD, lenD, wW, hs, hs3]
  refine q_callXR (r_come_log lg v b hlg g) rfl ?_ ?_
  · rintro d _ ⟨⟨ns, h1, h2, h3, rfl⟩, rfl⟩
    simp only [eCmp, eBin, eOp, eUn, eFn, eIx, eSlc, eChn, tVal, tNot, tAnd, tOr, eIf, eAnd, eOr, eNot, eIs, aNil, aCons, aStar, itemsO, eTup, nLst, eNw, pNone, pSome, sSkip, sSeq, sAsg, sAsgN, sRet, sRetN, sIf, tgName, tgAll, tgTup, sTg, sPar, sFor, iSeqM, iRg1, iRg2, iEnM, ownL, sApp, tgSet, ePop, ePopA, eCall, peeks, takes, hands, boolD, pw_bind, qQ, wipeR, reduceIte, nOp, nList, isD, lenD, wW]
    exact h _ (.inl ⟨ns, h1, h2, h3, rfl⟩)
  · rintro c fs _ ⟨h1, rfl, rfl, rfl⟩
    exact ⟨_, _, tried v _, h _ (.inr ⟨h1, rfl⟩)⟩
def LogOk (lg : List PyData) : Prop := lg.length ≤ 40 ∧ ∀ d ∈ lg, Tm 4 0 d
theorem came_tm {lg : List PyData} (L : LogOk lg) {ns : List Int} (h : ns.length = lg.length) : Tm 250 1 (.tuple (came lg ns)) := by
  have : TmA (ns.length * 6) 0 (came lg ns) := by
    have := tma_all (n := 4) (m := 0) (ds := came lg ns) fun d hd => by
      obtain ⟨i, _, rfl⟩ := List.mem_map.mp hd
      rw [List.getD_eq_getElem?_getD]
      cases e : lg[i.toNat]? with
      | none => exact tm_none
      | some x => exact L.2 x (List.mem_of_getElem? e)
    rwa [came, List.length_map] at this
  have := L.1
  exact (Tm.tup ‹TmA _ 0 _›).mono (by omega) (by omega)
theorem cA_tm {lg : List PyData} (L : LogOk lg) {v d : PyData} (g : Gv v) (h : cA lg v d) : Tm 1100 9 d := by
  rcases h with ⟨ns, rfl, hl, _, rfl⟩ | ⟨_, rfl⟩
  · exact (came_tm L hl).mono (by omega) (by omega)
  · exact (Tm.lst (TmA.cons (tm_of (n := 40) (m := 0) (by decide +kernel)) (TmA.cons g.1 TmA.nil))).mono (by omega) (by omega)
theorem cA_one {lg : List PyData} {v d d' : PyData} (h : cA lg v d) (h' : cA lg v d') : d = d' := by
  rcases h with ⟨ns, rfl, hl, ho, rfl⟩ | ⟨hn, rfl⟩
  · rcases h' with ⟨ms, e, _, _, rfl⟩ | ⟨hn, rfl⟩
    · have := congrArg intsOf (PyData.tuple.inj e)
      rw [intsOf_map, intsOf_map] at this
      cases Option.some.inj this
      rfl
    · exact absurd ⟨ns, rfl, hl, ho⟩ hn
  · rcases h' with ⟨ms, rfl, hl, ho, rfl⟩ | ⟨_, rfl⟩
    · exact absurd ⟨ms, rfl, hl, ho⟩ hn
    · rfl
abbrev TurnEnd (n : Nat) (lg : List PyData) (b : Option Bx) : Fl → Sx → Prop := fun f s => f = .nx ∧ ∃ x2 x4 x5 x6 x7 x8 x9, s = ⟨[.box, .dat (.int n), x2, .dat (.tuple lg), x4, x5, x6, x7, x8, x9], b⟩
theorem tm_ans {d : PyData} (h : Tm 1100 9 d) : Tm 3000 10 (.list [d, d]) := (Tm.lst (TmA.cons h (TmA.cons h TmA.nil))).mono (by omega) (by omega)
theorem size_iff {v : PyData} (g : Gv v) {k : Nat} (hk : ∀ ds, v = .tuple ds → ds.length = k) : IsO k v ↔ Oks v := by
  constructor
  · rintro ⟨ns, rfl, h1, h2⟩
    have := gv_len g _ rfl
    rw [List.length_map] at this
    exact ⟨ns, rfl, by omega, h2⟩
  · rintro ⟨ns, rfl, h1, h2⟩
    have := hk _ rfl
    rw [List.length_map] at this
    exact ⟨ns, rfl, this, h2⟩
theorem turn_b (n : Nat) (lg : List PyData) (v : PyData) (g : Gv v) (L : LogOk lg) (hl : lg.length = n) (sh : Str) (hr : reprD [.list [v, .tuple lg]] = some (.str sh)) (hn : cmpD .ne (.str sh) (.str sh) = some (.bool false)) (x5 x6 x7 x8 x9 : SV) (b : Option Bx) :
    pw m_law_right_6 ⟨[.box, .dat (.int n), .dat v, .dat (.tuple lg), .dat (.str sh), x5, x6, x7, x8, x9], b⟩ (TurnEnd n lg b) fun _ => False := by
  have hg := fun ds e => Nat.le_trans (gv_len g ds e) (show 60 ≤ 4000 by decide)
  have hL := L.1
  have l2 : 0 + 1 + 1 ≤ lim := by decide
  have fin : ∀ (due : PyData) (y9 : SV), cA lg v due → pw m_law_right_2 ⟨[.box, .dat (.int n), .dat v, .dat (.tuple lg), .dat (.str sh), x5, .dat due, x7, x8, y9], b⟩ (TurnEnd n lg b) fun _ => False := by
    intro due y9 hd
    obtain ⟨x, hx1, hx2⟩ := rp (cA_tm L g hd) (by omega) (by omega)
    unfold m_law_right_2
    simp only [eCmp, eBin, eOp, eUn, eFn, eIx, eSlc, eChn, tVal, tNot, tAnd, tOr, eIf, eAnd, eOr, eNot, eIs, aNil, aCons, aStar, itemsO, eTup, nLst, eNw, pNone, pSome, sSkip, sSeq, sAsg, sAsgN, sRet, sRetN, sIf, tgName, tgAll, tgTup, sTg, sPar, sFor, iSeqM, iRg1, iRg2, iEnM, ownL, sApp, tgSet, ePop, ePopA, eCall, peeks, takes, hands, boolD, pw_bind, qQ, wipeR, reduceIte, nOp, nList, isD, lenD, wW]
    refine ask_come lg v (by omega) hg _ rfl rfl _ fun d hdd => ?_
    cases cA_one hd hdd
    simp only [eCmp, eBin, eOp, eUn, eFn, eIx, eSlc, eChn, tVal, tNot, tAnd, tOr, eIf, eAnd, eOr, eNot, eIs, aNil, aCons, aStar, itemsO, eTup, nLst, eNw, pNone, pSome, sSkip, sSeq, sAsg, sAsgN, sRet, sRetN, sIf, tgName, tgAll, tgTup, sTg, sPar, sFor, iSeqM, iRg1, iRg2, iEnM, ownL, sApp, tgSet, ePop, ePopA, eCall, peeks, takes, hands, boolD, pw_bind, qQ, wipeR, reduceIte, nOp, nList, isD, lenD, wW, hx1, hx2, l2, hr, hn]
    exact ⟨rfl, _, _, _, _, _, _, _, rfl⟩
  unfold m_law_right_6 m_law_right_5 m_law_right_4 m_law_right_3
  simp only [eCmp, eBin, eOp, eUn, eFn, eIx, eSlc, eChn, tVal, tNot, tAnd, tOr, eIf, eAnd, eOr, eNot, eIs, aNil, aCons, aStar, itemsO, eTup, nLst, eNw, pNone, pSome, sSkip, sSeq, sAsg, sAsgN, sRet, sRetN, sIf, tgName, tgAll, tgTup, sTg, sPar, sFor, iSeqM, iRg1, iRg2, iEnM, ownL, sApp, tgSet, ePop, ePopA, eCall, peeks, takes, hands, boolD, pw_bind, qQ, wipeR, reduceIte, nOp, nList, isD, lenD, wW, l2]
  refine q_callR (r_law_is_order v n b hg (by omega)) rfl ?_
  rintro _ _ ⟨⟨c, rfl, hc⟩, rfl⟩
  cases c with
  | false =>
    simp only [eCmp, eBin, eOp, eUn, eFn, eIx, eSlc, eChn, tVal, tNot, tAnd, tOr, eIf, eAnd, eOr, eNot, eIs, aNil, aCons, aStar, itemsO, eTup, nLst, eNw, pNone, pSome, sSkip, sSeq, sAsg, sAsgN, sRet, sRetN, sIf, tgName, tgAll, tgTup, sTg, sPar, sFor, iSeqM, iRg1, iRg2, iEnM, ownL, sApp, tgSet, ePop, ePopA, eCall, peeks, takes, hands, boolD, pw_bind, qQ, wipeR, reduceIte, nOp, nList, isD, lenD, wW]
    exact fin _ _ (.inr ⟨fun h => (by rw [hl] at h; have := hc.mpr h; cases this), rfl⟩)
  | true =>
    obtain ⟨ns, rfl, h1, ho⟩ := hc.mp rfl
    simp only [eCmp, eBin, eOp, eUn, eFn, eIx, eSlc, eChn, tVal, tNot, tAnd, tOr, eIf, eAnd, eOr, eNot, eIs, aNil, aCons, aStar, itemsO, eTup, nLst, eNw, pNone, pSome, sSkip, sSeq, sAsg, sAsgN, sRet, sRetN, sIf, tgName, tgAll, tgTup, sTg, sPar, sFor, iSeqM, iRg1, iRg2, iEnM, ownL, sApp, tgSet, ePop, ePopA, eCall, peeks, takes, hands, boolD, pw_bind, qQ, wipeR, reduceIte, nOp, nList, isD, lenD, wW]
    refine q_map1 (fun d => match d with
      | .int i => lg.getD i.toNat .none
      | _ => .none) ?_
    simp only [eCmp, eBin, eOp, eUn, eFn, eIx, eSlc, eChn, tVal, tNot, tAnd, tOr, eIf, eAnd, eOr, eNot, eIs, aNil, aCons, aStar, itemsO, eTup, nLst, eNw, pNone, pSome, sSkip, sSeq, sAsg, sAsgN, sRet, sRetN, sIf, tgName, tgAll, tgTup, sTg, sPar, sFor, iSeqM, iRg1, iRg2, iEnM, ownL, sApp, tgSet, ePop, ePopA, eCall, peeks, takes, hands, boolD, pw_bind, qQ, wipeR, reduceIte, nOp, nList, isD, lenD, wW]
    have hlm : (ns.map PyData.int).length ≤ lim := Nat.le_trans (m := 2000) (by rw [List.length_map]; omega) (by decide)
    refine ⟨hlm, fun d hd => ?_, ?_⟩
    · obtain ⟨i, hi, rfl⟩ := List.mem_map.mp hd
      simp only [eCmp, eBin, eOp, eUn, eFn, eIx, eSlc, eChn, tVal, tNot, tAnd, tOr, eIf, eAnd, eOr, eNot, eIs, aNil, aCons, aStar, itemsO, eTup, nLst, eNw, pNone, pSome, sSkip, sSeq, sAsg, sAsgN, sRet, sRetN, sIf, tgName, tgAll, tgTup, sTg, sPar, sFor, iSeqM, iRg1, iRg2, iEnM, ownL, sApp, tgSet, ePop, ePopA, eCall, peeks, takes, hands, boolD, pw_bind, qQ, wipeR, reduceIte, nOp, nList, isD, lenD, wW, ix_log (show 0 ≤ i ∧ i < lg.length by have := ho.1 i hi; omega)]
    · have e : (ns.map PyData.int).map (fun d => match d with
        | .int i => lg.getD i.toNat .none
        | _ => .none) = came lg ns := by
        rw [List.map_map]
        rfl
      rw [e]
      simp only [eCmp, eBin, eOp, eUn, eFn, eIx, eSlc, eChn, tVal, tNot, tAnd, tOr, eIf, eAnd, eOr, eNot, eIs, aNil, aCons, aStar, itemsO, eTup, nLst, eNw, pNone, pSome, sSkip, sSeq, sAsg, sAsgN, sRet, sRetN, sIf, tgName, tgAll, tgTup, sTg, sPar, sFor, iSeqM, iRg1, iRg2, iEnM, ownL, sApp, tgSet, ePop, ePopA, eCall, peeks, takes, hands, boolD, pw_bind, qQ, wipeR, reduceIte, nOp, nList, isD, lenD, wW, tupleD]
      exact fin _ _ (.inl ⟨ns, rfl, by omega, ho, rfl⟩)
theorem turn (n : Nat) (lg : List PyData) (v : PyData) (g : Gv v) (L : LogOk lg) (hl : lg.length = n) (x4 x5 x6 x7 x8 x9 : SV) (b : Option Bx) :
    pw m_law_right_14 ⟨[.box, .dat (.int n), .dat v, .dat (.tuple lg), x4, x5, x6, x7, x8, x9], b⟩ (TurnEnd n lg b) fun _ => False := by
  have hg := fun ds e => Nat.le_trans (gv_len g ds e) (show 60 ≤ 4000 by decide)
  have hL := L.1
  have l2 : 0 + 1 + 1 ≤ lim := by decide
  have tlg : Tm 250 1 (.tuple lg) := (Tm.tup (tma_all L.2)).mono (by omega) (by omega)
  obtain ⟨sh, hr, hn⟩ := rp (Tm.lst (TmA.cons g.1 (TmA.cons tlg TmA.nil))) (by omega) (by omega)
  unfold m_law_right_14 m_law_right_13 m_law_right_12 m_law_right_11
  simp only [eCmp, eBin, eOp, eUn, eFn, eIx, eSlc, eChn, tVal, tNot, tAnd, tOr, eIf, eAnd, eOr, eNot, eIs, aNil, aCons, aStar, itemsO, eTup, nLst, eNw, pNone, pSome, sSkip, sSeq, sAsg, sAsgN, sRet, sRetN, sIf, tgName, tgAll, tgTup, sTg, sPar, sFor, iSeqM, iRg1, iRg2, iEnM, ownL, sApp, tgSet, ePop, ePopA, eCall, peeks, takes, hands, boolD, pw_bind, qQ, wipeR, reduceIte, nOp, nList, isD, lenD, wW, l2, hr]
  have rest : ∀ (k : Nat) (due : PyData), hA v due → pw m_law_right_8 ⟨[.box, .dat (.int n), .dat v, .dat (.tuple lg), .dat (.str sh), .dat (.int k), .dat due, x7, x8, x9], b⟩ (TurnEnd n lg b) fun _ => False := by
    intro k due hd
    obtain ⟨x, hx1, hx2⟩ := rp (tm_ans (hA_tm g hd)) (by omega) (by omega)
    unfold m_law_right_8 m_law_right_7
    simp only [eCmp, eBin, eOp, eUn, eFn, eIx, eSlc, eChn, tVal, tNot, tAnd, tOr, eIf, eAnd, eOr, eNot, eIs, aNil, aCons, aStar, itemsO, eTup, nLst, eNw, pNone, pSome, sSkip, sSeq, sAsg, sAsgN, sRet, sRetN, sIf, tgName, tgAll, tgTup, sTg, sPar, sFor, iSeqM, iRg1, iRg2, iEnM, ownL, sApp, tgSet, ePop, ePopA, eCall, peeks, takes, hands, boolD, pw_bind, qQ, wipeR, reduceIte, nOp, nList, isD, lenD, wW]
    refine q_map1 (fun _ => due) ?_
    have hbig : big62 ((2 : Nat) : Int) = true := big62_of (by omega) (by omega)
    have e2 : ((2 : Nat) : Int) = 2 := rfl
    rw [e2] at hbig
    have r2 : rgD 0 2 = rgN 2 := rgD_nat (m := 2)
    simp only [eCmp, eBin, eOp, eUn, eFn, eIx, eSlc, eChn, tVal, tNot, tAnd, tOr, eIf, eAnd, eOr, eNot, eIs, aNil, aCons, aStar, itemsO, eTup, nLst, eNw, pNone, pSome, sSkip, sSeq, sAsg, sAsgN, sRet, sRetN, sIf, tgName, tgAll, tgTup, sTg, sPar, sFor, iSeqM, iRg1, iRg2, iEnM, ownL, sApp, tgSet, ePop, ePopA, eCall, peeks, takes, hands, boolD, pw_bind, qQ, wipeR, reduceIte, nOp, nList, isD, lenD, wW, iRg1, hbig, r2, rgN_len]
    refine ⟨by decide, fun d hd2 => ?_, ?_⟩
    · refine ask_hold 2 v hg _ rfl _ fun d' hdd => ?_
      cases hA_one hd hdd
      simp only [eCmp, eBin, eOp, eUn, eFn, eIx, eSlc, eChn, tVal, tNot, tAnd, tOr, eIf, eAnd, eOr, eNot, eIs, aNil, aCons, aStar, itemsO, eTup, nLst, eNw, pNone, pSome, sSkip, sSeq, sAsg, sAsgN, sRet, sRetN, sIf, tgName, tgAll, tgTup, sTg, sPar, sFor, iSeqM, iRg1, iRg2, iEnM, ownL, sApp, tgSet, ePop, ePopA, eCall, peeks, takes, hands, boolD, pw_bind, qQ, wipeR, reduceIte, nOp, nList, isD, lenD, wW]
    · have e3 : (rgN 2).map (fun _ => due) = [due, due] := rfl
      rw [e3]
      simp only [eCmp, eBin, eOp, eUn, eFn, eIx, eSlc, eChn, tVal, tNot, tAnd, tOr, eIf, eAnd, eOr, eNot, eIs, aNil, aCons, aStar, itemsO, eTup, nLst, eNw, pNone, pSome, sSkip, sSeq, sAsg, sAsgN, sRet, sRetN, sIf, tgName, tgAll, tgTup, sTg, sPar, sFor, iSeqM, iRg1, iRg2, iEnM, ownL, sApp, tgSet, ePop, ePopA, eCall, peeks, takes, hands, boolD, pw_bind, qQ, wipeR, reduceIte, nOp, nList, isD, lenD, wW, l2, hx1, hx2]
      exact turn_b n lg v g L hl sh hr hn _ _ _ _ _ b
  have next : ∀ (k : Nat), k ≤ 60 → (∀ ds, v = .tuple ds → ds.length = k) → pw m_law_right_10 ⟨[.box, .dat (.int n), .dat v, .dat (.tuple lg), .dat (.str sh), .dat (.int k), x6, x7, x8, x9], b⟩ (TurnEnd n lg b) fun _ => False := by
    intro k hk hds
    unfold m_law_right_10 m_law_right_9
    simp only [eCmp, eBin, eOp, eUn, eFn, eIx, eSlc, eChn, tVal, tNot, tAnd, tOr, eIf, eAnd, eOr, eNot, eIs, aNil, aCons, aStar, itemsO, eTup, nLst, eNw, pNone, pSome, sSkip, sSeq, sAsg, sAsgN, sRet, sRetN, sIf, tgName, tgAll, tgTup, sTg, sPar, sFor, iSeqM, iRg1, iRg2, iEnM, ownL, sApp, tgSet, ePop, ePopA, eCall, peeks, takes, hands, boolD, pw_bind, qQ, wipeR, reduceIte, nOp, nList, isD, lenD, wW]
    refine q_callR (r_law_is_order v k b hg (by omega)) rfl ?_
    rintro _ _ ⟨⟨c, rfl, hc⟩, rfl⟩
    have hs := size_iff g hds
    cases c with
    | false =>
      simp only [eCmp, eBin, eOp, eUn, eFn, eIx, eSlc, eChn, tVal, tNot, tAnd, tOr, eIf, eAnd, eOr, eNot, eIs, aNil, aCons, aStar, itemsO, eTup, nLst, eNw, pNone, pSome, sSkip, sSeq, sAsg, sAsgN, sRet, sRetN, sIf, tgName, tgAll, tgTup, sTg, sPar, sFor, iSeqM, iRg1, iRg2, iEnM, ownL, sApp, tgSet, ePop, ePopA, eCall, peeks, takes, hands, boolD, pw_bind, qQ, wipeR, reduceIte, nOp, nList, isD, lenD, wW, l2]
      exact rest k _ (.inr ⟨fun h => (by have := hc.mpr (hs.mpr h); cases this), rfl⟩)
    | true =>
      obtain ⟨ns, rfl, h1, ho⟩ := hs.mp (hc.mp rfl)
      simp only [eCmp, eBin, eOp, eUn, eFn, eIx, eSlc, eChn, tVal, tNot, tAnd, tOr, eIf, eAnd, eOr, eNot, eIs, aNil, aCons, aStar, itemsO, eTup, nLst, eNw, pNone, pSome, sSkip, sSeq, sAsg, sAsgN, sRet, sRetN, sIf, tgName, tgAll, tgTup, sTg, sPar, sFor, iSeqM, iRg1, iRg2, iEnM, ownL, sApp, tgSet, ePop, ePopA, eCall, peeks, takes, hands, boolD, pw_bind, qQ, wipeR, reduceIte, nOp, nList, isD, lenD, wW]
      refine q_callR (r_law_count ns _ (by omega)) rfl ?_
      rintro _ _ ⟨rfl, rfl⟩
      simp only [eCmp, eBin, eOp, eUn, eFn, eIx, eSlc, eChn, tVal, tNot, tAnd, tOr, eIf, eAnd, eOr, eNot, eIs, aNil, aCons, aStar, itemsO, eTup, nLst, eNw, pNone, pSome, sSkip, sSeq, sAsg, sAsgN, sRet, sRetN, sIf, tgName, tgAll, tgTup, sTg, sPar, sFor, iSeqM, iRg1, iRg2, iEnM, ownL, sApp, tgSet, ePop, ePopA, eCall, peeks, takes, hands, boolD, pw_bind, qQ, wipeR, reduceIte, nOp, nList, isD, lenD, wW]
      exact rest k _ (.inl ⟨ns, rfl, h1, ho, rfl⟩)
  by_cases hv : ∃ ds, v = .tuple ds
  · obtain ⟨ds, rfl⟩ := hv
    simp only [eCmp, eBin, eOp, eUn, eFn, eIx, eSlc, eChn, tVal, tNot, tAnd, tOr, eIf, eAnd, eOr, eNot, eIs, aNil, aCons, aStar, itemsO, eTup, nLst, eNw, pNone, pSome, sSkip, sSeq, sAsg, sAsgN, sRet, sRetN, sIf, tgName, tgAll, tgTup, sTg, sPar, sFor, iSeqM, iRg1, iRg2, iEnM, ownL, sApp, tgSet, ePop, ePopA, eCall, peeks, takes, hands, boolD, pw_bind, qQ, wipeR, reduceIte, nOp, nList, isD, lenD, wW, isT_eq, lenD]
    exact next ds.length (gv_len g _ rfl) fun _ e => by cases e; rfl
  · cases v with
    | tuple ds => exact absurd ⟨ds, rfl⟩ hv
    | _ =>
      simp only [eCmp, eBin, eOp, eUn, eFn, eIx, eSlc, eChn, tVal, tNot, tAnd, tOr, eIf, eAnd, eOr, eNot, eIs, aNil, aCons, aStar, itemsO, eTup, nLst, eNw, pNone, pSome, sSkip, sSeq, sAsg, sAsgN, sRet, sRetN, sIf, tgName, tgAll, tgTup, sTg, sPar, sFor, iSeqM, iRg1, iRg2, iEnM, ownL, sApp, tgSet, ePop, ePopA, eCall, peeks, takes, hands, boolD, pw_bind, qQ, wipeR, reduceIte, nOp, nList, isD, lenD, wW, isT_eq]
      exact next 0 (by omega) fun _ e => by cases e
end K51
set_option linter.all false
set_option Elab.async false
set_option maxHeartbeats 0
set_option maxRecDepth 10000
namespace K51
open PySem TW
open K02 (tmB tm_of q_ev lim_le' tma_all)
theorem right_loop (n : Nat) (lg : List PyData) (L : LogOk lg) (hl : lg.length = n) (b : Option Bx) (Q : Fl → Sx → Prop) : ∀ (ds : List PyData) (s : Sx), (∀ v ∈ ds, Gv v) → TurnEnd n lg b .nx s →
    (∀ s, TurnEnd n lg b .nx s → Q .nx s) → pw (forL (tgName 2) m_law_right_14 ds) s Q fun _ => False
  | [], s, _, hs, h => h s hs
  | v :: r, s, hv, hs, h => by
    obtain ⟨_, x2, x4, x5, x6, x7, x8, x9, rfl⟩ := hs
    unfold forL
    simp only [eCmp, eBin, eOp, eUn, eFn, eIx, eSlc, eChn, tVal, tNot, tAnd, tOr, eIf, eAnd, eOr, eNot, eIs, aNil, aCons, aStar, itemsO, eTup, nLst, eNw, pNone, pSome, sSkip, sSeq, sAsg, sAsgN, sRet, sRetN, sIf, tgName, tgAll, tgTup, sTg, sPar, sFor, iSeqM, iRg1, iRg2, iEnM, ownL, sApp, tgSet, ePop, ePopA, eCall, peeks, takes, hands, boolD, pw_bind, qQ, wipeR, reduceIte, nOp, nList, isD, lenD, wW]
    refine pw_mono (turn n lg v (hv v (by simp)) L hl x4 x5 x6 x7 x8 x9 b) (fun f s' hs' => ?_) fun _ h => h
    obtain ⟨rfl, _⟩ := id hs'
    exact right_loop n lg L hl b Q r s' (fun w hw => hv w (List.mem_cons_of_mem _ hw)) hs' h
theorem r_law_right (n : Nat) (b : Option Bx) (hb : Bg b) (hn : n ≤ 40) : Runs f_law_right [.box, .dat (.int n)] b fun d b' => d = .bool true ∧ Bg b' := by
  refine runs_of ?_
  unfold m_law_right m_law_right_17
  simp only [List.map_cons, List.map_nil, argSV, List.length_cons, List.length_nil, Nat.reduceAdd, Nat.reduceSub, List.replicate, List.cons_append, List.nil_append]
  have hbig : big62 (n : Int) = true := big62_of (by omega) (by omega)
  simp only [eCmp, eBin, eOp, eUn, eFn, eIx, eSlc, eChn, tVal, tNot, tAnd, tOr, eIf, eAnd, eOr, eNot, eIs, aNil, aCons, aStar, itemsO, eTup, nLst, eNw, pNone, pSome, sSkip, sSeq, sAsg, sAsgN, sRet, sRetN, sIf, tgName, tgAll, tgTup, sTg, sPar, sFor, iSeqM, iRg1, iRg2, iEnM, ownL, sApp, tgSet, ePop, ePopA, eCall, peeks, takes, hands, boolD, pw_bind, qQ, wipeR, reduceIte, nOp, nList, isD, lenD, wW]
  refine q_cmp ?_
  simp only [eCmp, eBin, eOp, eUn, eFn, eIx, eSlc, eChn, tVal, tNot, tAnd, tOr, eIf, eAnd, eOr, eNot, eIs, aNil, aCons, aStar, itemsO, eTup, nLst, eNw, pNone, pSome, sSkip, sSeq, sAsg, sAsgN, sRet, sRetN, sIf, tgName, tgAll, tgTup, sTg, sPar, sFor, iSeqM, iRg1, iRg2, iEnM, ownL, sApp, tgSet, ePop, ePopA, eCall, peeks, takes, hands, boolD, pw_bind, qQ, wipeR, reduceIte, nOp, nList, isD, lenD, wW, iRg1, hbig, rgD_nat]
  refine ⟨fun acc r s => ∃ (x7 : SV) (b1 : Option Bx), s = ⟨[.box, .dat (.int n), .no, .no, .no, .no, .no, x7, .no, .no], b1⟩ ∧ Bg b1 ∧ acc.length + r.length = n ∧ ∀ d ∈ acc, Tm 4 0 d, ⟨.no, b, rfl, hb, by rw [rgN_len]; simp, by simp⟩, ?_, ?_⟩
  · rintro acc d r _ ⟨x7, b1, rfl, hb1, hlen, hacc⟩
    rw [List.length_cons] at hlen
    simp only [eCmp, eBin, eOp, eUn, eFn, eIx, eSlc, eChn, tVal, tNot, tAnd, tOr, eIf, eAnd, eOr, eNot, eIs, aNil, aCons, aStar, itemsO, eTup, nLst, eNw, pNone, pSome, sSkip, sSeq, sAsg, sAsgN, sRet, sRetN, sIf, tgName, tgAll, tgTup, sTg, sPar, sFor, iSeqM, iRg1, iRg2, iEnM, ownL, sApp, tgSet, ePop, ePopA, eCall, peeks, takes, hands, boolD, pw_bind, qQ, wipeR, reduceIte, nOp, nList, isD, lenD, wW, wipeR]
    refine q_callR (runs_draw (n := 4) (by omega) (by omega) hb1) rfl ?_
    rintro _ b2 ⟨x, rfl, hx1, hx2, hb2⟩
    simp only [eCmp, eBin, eOp, eUn, eFn, eIx, eSlc, eChn, tVal, tNot, tAnd, tOr, eIf, eAnd, eOr, eNot, eIs, aNil, aCons, aStar, itemsO, eTup, nLst, eNw, pNone, pSome, sSkip, sSeq, sAsg, sAsgN, sRet, sRetN, sIf, tgName, tgAll, tgTup, sTg, sPar, sFor, iSeqM, iRg1, iRg2, iEnM, ownL, sApp, tgSet, ePop, ePopA, eCall, peeks, takes, hands, boolD, pw_bind, qQ, wipeR, reduceIte, nOp, nList, isD, lenD, wW]
    refine ⟨Nat.lt_of_le_of_lt (m := 40) (by omega) (by decide), _, b2, rfl, hb2, by simp; omega, fun d hd => ?_⟩
    rcases List.mem_append.mp hd with h | h
    · exact hacc d h
    · rw [List.mem_singleton.mp h]
      exact tm_small (by omega)
  · rintro acc _ ⟨x7, b1, rfl, hb1, hlen, hacc⟩
    have hlen : acc.length = n := hlen
    simp only [eCmp, eBin, eOp, eUn, eFn, eIx, eSlc, eChn, tVal, tNot, tAnd, tOr, eIf, eAnd, eOr, eNot, eIs, aNil, aCons, aStar, itemsO, eTup, nLst, eNw, pNone, pSome, sSkip, sSeq, sAsg, sAsgN, sRet, sRetN, sIf, tgName, tgAll, tgTup, sTg, sPar, sFor, iSeqM, iRg1, iRg2, iEnM, ownL, sApp, tgSet, ePop, ePopA, eCall, peeks, takes, hands, boolD, pw_bind, qQ, wipeR, reduceIte, nOp, nList, isD, lenD, wW, backR, tupleD]
    unfold m_law_right_16 m_law_right_15
    simp only [eCmp, eBin, eOp, eUn, eFn, eIx, eSlc, eChn, tVal, tNot, tAnd, tOr, eIf, eAnd, eOr, eNot, eIs, aNil, aCons, aStar, itemsO, eTup, nLst, eNw, pNone, pSome, sSkip, sSeq, sAsg, sAsgN, sRet, sRetN, sIf, tgName, tgAll, tgTup, sTg, sPar, sFor, iSeqM, iRg1, iRg2, iEnM, ownL, sApp, tgSet, ePop, ePopA, eCall, peeks, takes, hands, boolD, pw_bind, qQ, wipeR, reduceIte, nOp, nList, isD, lenD, wW, tgAll]
    refine q_callR (r_law_values n b1 hb1 hn) rfl ?_
    rintro _ b2 ⟨⟨ds, rfl, hds, hg⟩, hb2⟩
    simp only [eCmp, eBin, eOp, eUn, eFn, eIx, eSlc, eChn, tVal, tNot, tAnd, tOr, eIf, eAnd, eOr, eNot, eIs, aNil, aCons, aStar, itemsO, eTup, nLst, eNw, pNone, pSome, sSkip, sSeq, sAsg, sAsgN, sRet, sRetN, sIf, tgName, tgAll, tgTup, sTg, sPar, sFor, iSeqM, iRg1, iRg2, iEnM, ownL, sApp, tgSet, ePop, ePopA, eCall, peeks, takes, hands, boolD, pw_bind, qQ, wipeR, reduceIte, nOp, nList, isD, lenD, wW]
    refine right_loop n acc ⟨by omega, hacc⟩ hlen b2 _ ds _ hg ⟨rfl, _, _, _, _, _, _, _, rfl⟩ ?_
    rintro _ ⟨_, x2, x4, x5, x6, x7, x8, x9, rfl⟩
    unfold m_law_right_1
    simp only [eCmp, eBin, eOp, eUn, eFn, eIx, eSlc, eChn, tVal, tNot, tAnd, tOr, eIf, eAnd, eOr, eNot, eIs, aNil, aCons, aStar, itemsO, eTup, nLst, eNw, pNone, pSome, sSkip, sSeq, sAsg, sAsgN, sRet, sRetN, sIf, tgName, tgAll, tgTup, sTg, sPar, sFor, iSeqM, iRg1, iRg2, iEnM, ownL, sApp, tgSet, ePop, ePopA, eCall, peeks, takes, hands, boolD, pw_bind, qQ, wipeR, reduceIte, nOp, nList, isD, lenD, wW]
    exact hb2
end K51
set_option linter.all false
set_option Elab.async false
set_option maxHeartbeats 0
set_option maxRecDepth 10000
namespace K51
open PySem TW
open K02 (tmB tm_of q_ev lim_le' tma_all)
def manyL : List PyData := [.int 0, .int 1, .int 2, .int 3, .int 4, .int 5, .int 6, .int 8, .int 11, .int 15, .int 24, .int 40]
theorem many_ix {j : Nat} (h : j < 12) : ∃ k : Nat, k ≤ 40 ∧ ixD' (.list manyL) (.int (j : Nat)) = some (.int (k : Nat)) := by
  have : j = 0 ∨ j = 1 ∨ j = 2 ∨ j = 3 ∨ j = 4 ∨ j = 5 ∨ j = 6 ∨ j = 7 ∨ j = 8 ∨ j = 9 ∨ j = 10 ∨ j = 11 := by omega
  rcases this with rfl | rfl | rfl | rfl | rfl | rfl | rfl | rfl | rfl | rfl | rfl | rfl
  · exact ⟨0, by omega, rfl⟩
  · exact ⟨1, by omega, rfl⟩
  · exact ⟨2, by omega, rfl⟩
  · exact ⟨3, by omega, rfl⟩
  · exact ⟨4, by omega, rfl⟩
  · exact ⟨5, by omega, rfl⟩
  · exact ⟨6, by omega, rfl⟩
  · exact ⟨8, by omega, rfl⟩
  · exact ⟨11, by omega, rfl⟩
  · exact ⟨15, by omega, rfl⟩
  · exact ⟨24, by omega, rfl⟩
  · exact ⟨40, by omega, rfl⟩
def Form (s : Sx) : Prop := ∃ x2 b, s = ⟨[.no, .box, x2, .no, .no], b⟩ ∧ Bg b
theorem law_loop (Q : Fl → Sx → Prop) (hq : ∀ s, Form s → Q .nx s) : ∀ (ds : List PyData) (s : Sx), (∀ d ∈ ds, ∃ j : Nat, j < 12 ∧ d = .int (j : Nat)) → Form s → pw (forL (tgName 2) m_law_11 ds) s Q fun _ => False
  | [], s, _, h => hq s h
  | d :: ds, s, hd, h => by
    obtain ⟨x2, b, rfl, hb⟩ := h
    obtain ⟨j, hj, rfl⟩ := hd d (by simp)
    obtain ⟨k, hk, e⟩ := many_ix hj
    unfold manyL at e
    have l12 : 0 + 1 + 1 + 1 + 1 + 1 + 1 + 1 + 1 + 1 + 1 + 1 + 1 ≤ lim := by decide
    unfold forL
    simp only [eCmp, eBin, eOp, eUn, eFn, eIx, eSlc, eChn, tVal, tNot, tAnd, tOr, eIf, eAnd, eOr, eNot, eIs, aNil, aCons, aStar, itemsO, eTup, nLst, eNw, pNone, pSome, sSkip, sSeq, sAsg, sAsgN, sRet, sRetN, sIf, tgName, tgAll, tgTup, sTg, sPar, sFor, iSeqM, iRg1, iRg2, iEnM, ownL, sApp, tgSet, ePop, ePopA, eCall, peeks, takes, hands, boolD, pw_bind, qQ, wipeR, reduceIte, nOp, nList, isD, lenD, wW]
    unfold m_law_11
    simp only [eCmp, eBin, eOp, eUn, eFn, eIx, eSlc, eChn, tVal, tNot, tAnd, tOr, eIf, eAnd, eOr, eNot, eIs, aNil, aCons, aStar, itemsO, eTup, nLst, eNw, pNone, pSome, sSkip, sSeq, sAsg, sAsgN, sRet, sRetN, sIf, tgName, tgAll, tgTup, sTg, sPar, sFor, iSeqM, iRg1, iRg2, iEnM, ownL, sApp, tgSet, ePop, ePopA, eCall, peeks, takes, hands, boolD, pw_bind, qQ, wipeR, reduceIte, nOp, nList, isD, lenD, wW, l12, e]
    refine q_callR (r_law_right k b hb hk) rfl ?_
    rintro _ b1 ⟨rfl, hb1⟩
    simp only [eCmp, eBin, eOp, eUn, eFn, eIx, eSlc, eChn, tVal, tNot, tAnd, tOr, eIf, eAnd, eOr, eNot, eIs, aNil, aCons, aStar, itemsO, eTup, nLst, eNw, pNone, pSome, sSkip, sSeq, sAsg, sAsgN, sRet, sRetN, sIf, tgName, tgAll, tgTup, sTg, sPar, sFor, iSeqM, iRg1, iRg2, iEnM, ownL, sApp, tgSet, ePop, ePopA, eCall, peeks, takes, hands, boolD, pw_bind, qQ, wipeR, reduceIte, nOp, nList, isD, lenD, wW]
    exact law_loop Q hq ds _ (fun d h => hd d (List.mem_cons_of_mem _ h)) ⟨_, _, rfl, hb1⟩
theorem q_hold {v : PyData} {ns : List Int} {k : Int} {s : Sx} {Q : PyData → Sx → Prop} (e : v = .tuple (ns.map PyData.int)) (ho : Ord ns ∧ ns.length ≤ 200 ∧ hold ns = k) (h : Q (.int k) s) : pw (callX 1 f_order_hold [.dat v]) s Q fun _ => False := by
  subst e
  obtain ⟨ho, hl, rfl⟩ := ho
  refine q_callXR (r_order_hold _ s.b fun ds e => by cases e; rw [List.length_map]; omega) rfl ?_ ?_
  · rintro _ _ ⟨⟨ms, e, _, _, rfl⟩, rfl⟩
    have := congrArg intsOf (PyData.tuple.inj e)
    rw [intsOf_map, intsOf_map] at this
    cases Option.some.inj this
    exact h
  · rintro c fs b ⟨hn, _⟩
    exact hn ⟨ns, rfl, hl, ho⟩
@[irreducible] def tA : List Int := (rgI 200).drop 1 ++ [0]
@[irreducible] def tB : List Int := rgI 198 ++ [199, 198]
@[irreducible] def t1 : List Int := rgI 201
@[irreducible] def t2 : List Int := rgI 199 ++ [198]
@[irreducible] def t3 : List Int := rgI 199 ++ [200]
@[irreducible] def t4 : List PyData := (rgI 199).map PyData.int ++ [.bool true]
@[irreducible] def tC : List Int := 199 :: rgI 199
@[irreducible] def u3 : List PyData := List.replicate 199 (.int 3)
@[irreducible] def lgL : List PyData := List.replicate 199 (.int 3) ++ [.int 5]
@[irreducible] def evL : List PyData := .int 5 :: List.replicate 199 (.int 3)
theorem rk1 : rgOk 1 200 = true := by decide
theorem rk2 : rgOk 0 198 = true := by decide
theorem rk3 : rgOk 0 199 = true := by decide
theorem rk4 : rgOk 0 201 = true := by decide
theorem fA : binD .add (.tuple (rgD 1 200)) (.tuple [.int 0]) = some (.tuple (tA.map PyData.int)) := by unfold tA; kernel_rfl
theorem fB : binD .add (.tuple (rgD 0 198)) (.tuple [.int 199, .int 198]) = some (.tuple (tB.map PyData.int)) := by unfold tB; kernel_rfl
theorem f1 : rgD 0 201 = t1.map PyData.int := by unfold t1; kernel_rfl
theorem f2 : binD .add (.tuple (rgD 0 199)) (.tuple [.int 198]) = some (.tuple (t2.map PyData.int)) := by unfold t2; kernel_rfl
theorem f3 : binD .add (.tuple (rgD 0 199)) (.tuple [.int 200]) = some (.tuple (t3.map PyData.int)) := by unfold t3; kernel_rfl
theorem f4 : binD .add (.tuple (rgD 0 199)) (.tuple [.bool true]) = some (.tuple t4) := by unfold t4; kernel_rfl
theorem f5 : repD (.tuple [.int 3]) (.int 199) = some (.tuple u3) := by unfold u3; kernel_rfl
theorem f6 : binD .add (.tuple u3) (.tuple [.int 5]) = some (.tuple lgL) := by unfold u3 lgL; kernel_rfl
theorem f7 : binD .add (.tuple [.int 199]) (.tuple (rgD 0 199)) = some (.tuple (tC.map PyData.int)) := by unfold tC; kernel_rfl
theorem f8 : binD .add (.tuple [.int 5]) (.tuple u3) = some (.tuple evL) := by unfold u3 evL; kernel_rfl
theorem f9 : came lgL tC = evL := by unfold lgL tC evL; kernel_rfl
theorem f10 : cmpD .eq (.tuple evL) (.tuple evL) = some (.bool true) := by
  have h1 : shp (.tuple evL) = true := by unfold evL; decide +kernel
  have h2 : PyData.eqv (.tuple evL) (.tuple evL) = true := by unfold evL; decide +kernel
  rw [cmpD_eq, if_pos (by rw [h1]; rfl), h2]
theorem oA : Ord tA ∧ tA.length ≤ 200 ∧ hold tA = 1 := by unfold Ord tA; decide +kernel
theorem oAr : Ord tA.reverse ∧ tA.reverse.length ≤ 200 ∧ hold tA.reverse = 198 := by unfold Ord tA; decide +kernel
theorem o0 : Ord [] ∧ ([] : List Int).length ≤ 200 ∧ hold [] = 0 := by unfold Ord; decide +kernel
theorem oB : Ord tB ∧ tB.length ≤ 200 ∧ hold tB = 1 := by unfold Ord tB; decide +kernel
theorem oC : Ord tC ∧ tC.length = 200 := by unfold Ord tC; decide +kernel
theorem oL : lgL.length = 200 := by unfold lgL; decide +kernel
theorem no_ints {ns : List Int} (h : ¬ (ns.length ≤ 200 ∧ Ord ns)) : ¬ Oks (.tuple (ns.map PyData.int)) := by
  rintro ⟨ms, e, h1, h2⟩
  have := congrArg intsOf (PyData.tuple.inj e)
  rw [intsOf_map, intsOf_map] at this
  cases Option.some.inj this
  exact h ⟨h1, h2⟩
theorem n1 : ¬ Oks (.tuple (t1.map PyData.int)) := no_ints (by unfold Ord t1; decide +kernel)
theorem n2 : ¬ Oks (.tuple (t2.map PyData.int)) := no_ints (by unfold Ord t2; decide +kernel)
theorem n3 : ¬ Oks (.tuple (t3.map PyData.int)) := no_ints (by unfold Ord t3; decide +kernel)
theorem n4 : ¬ Oks (.tuple t4) := by
  rintro ⟨ms, e, _, _⟩
  have h := PyData.tuple.inj e
  have : (PyData.bool true) ∈ t4 := by unfold t4; simp
  rw [h] at this
  obtain ⟨_, _, e⟩ := List.mem_map.mp this
  cases e
theorem s1 : Tm 2000 1 (.tuple (t1.map PyData.int)) ∧ t1.length ≤ 4000 := by
  unfold t1
  refine ⟨(Tm.tup (K02.tma_ints (n := 201) (by omega) fun l h => rgI_mem h)).mono (by rw [rgI_len]; omega) (by omega), by rw [rgI_len]; omega⟩
theorem s4 : tmB 2000 1 (.tuple (t2.map PyData.int)) = true ∧ tmB 2000 1 (.tuple (t3.map PyData.int)) = true ∧ tmB 2000 1 (.tuple t4) = true ∧ t2.length ≤ 4000 ∧ t3.length ≤ 4000 ∧ t4.length ≤ 4000 := by unfold t2 t3 t4; decide +kernel
theorem qA {s : Sx} {Q : PyData → Sx → Prop} (h : Q (.int 1) s) : pw (callX 1 f_order_hold [.dat (.tuple (tA.map PyData.int))]) s Q fun _ => False := q_hold rfl oA h
theorem eAr : PyData.tuple (tA.map PyData.int).reverse = .tuple (tA.reverse.map PyData.int) := by rw [List.map_reverse]
theorem qAr {s : Sx} {Q : PyData → Sx → Prop} (h : Q (.int 198) s) : pw (callX 1 f_order_hold [.dat (.tuple (tA.map PyData.int).reverse)]) s Q fun _ => False := q_hold eAr oAr h
theorem q0 {s : Sx} {Q : PyData → Sx → Prop} (h : Q (.int 0) s) : pw (callX 1 f_order_hold [.dat (.tuple [])]) s Q fun _ => False := q_hold (ns := []) rfl o0 h
theorem qB {s : Sx} {Q : PyData → Sx → Prop} (h : Q (.int 1) s) : pw (callX 1 f_order_hold [.dat (.tuple (tB.map PyData.int))]) s Q fun _ => False := q_hold rfl oB h
end K51
set_option linter.all false
set_option Elab.async false
set_option maxHeartbeats 0
set_option maxRecDepth 10000
namespace K51
open PySem TW
open K02 (tmB tm_of q_ev lim_le' tma_all)
theorem q_come {s : Sx} {Q : PyData → Sx → Prop} (h : Q (.tuple evL) s) : pw (callX 2 f_come_log [.dat (.tuple lgL), .dat (.tuple (tC.map PyData.int))]) s Q fun _ => False := by
  refine q_callXR (r_come_log lgL _ s.b (by rw [oL]; omega) fun ds e => by cases e; rw [List.length_map, oC.2]; omega) rfl ?_ ?_
  · rintro _ _ ⟨⟨ms, e, _, _, rfl⟩, rfl⟩
    have := congrArg intsOf (PyData.tuple.inj e)
    rw [intsOf_map, intsOf_map] at this
    cases Option.some.inj this
    rw [f9]
    exact h
  · rintro c fs b ⟨hn, _⟩
    exact hn (isO_map.mpr ⟨by rw [oC.2, oL], oC.1⟩)
@[irreducible] def a1 : M Fl := m_law_1
@[irreducible] def a2 : M Fl := m_law_2
@[irreducible] def a4 : M Fl := m_law_4
@[irreducible] def a10 : M Fl := m_law_10
theorem ea1 : m_law_1 = a1 := by unfold a1; rfl
theorem ea2 : m_law_2 = a2 := by unfold a2; rfl
theorem ea4 : m_law_4 = a4 := by unfold a4; rfl
theorem ea10 : m_law_10 = a10 := by unfold a10; rfl
theorem no_turn {v : PyData} (hn : ¬ Oks v) (ht : Tm 2000 1 v) (hl : ∀ ds, v = .tuple ds → ds.length ≤ 4000) (x2 x3 : SV) (b : Option Bx) (Q : Fl → Sx → Prop) (h : Q .nx ⟨[.no, .box, x2, x3, .dat v], b⟩) : pw a2 ⟨[.no, .box, x2, x3, .dat v], b⟩ Q fun _ => False := by
  have l2 : 0 + 1 + 1 ≤ lim := by decide
  obtain ⟨x, hx1, hx2⟩ := rp (Tm.lst (TmA.cons (tm_of (n := 40) (m := 0) (d := .str "order") (by decide +kernel)) (TmA.cons ht TmA.nil))) (by omega) (by omega)
  unfold a2 m_law_2
  simp only [eCmp, eBin, eOp, eUn, eFn, eIx, eSlc, eChn, tVal, tNot, tAnd, tOr, eIf, eAnd, eOr, eNot, eIs, aNil, aCons, aStar, itemsO, eTup, nLst, eNw, pNone, pSome, sSkip, sSeq, sAsg, sAsgN, sRet, sRetN, sIf, tgName, tgAll, tgTup, sTg, sPar, sFor, iSeqM, iRg1, iRg2, iEnM, ownL, sApp, tgSet, ePop, ePopA, eCall, peeks, takes, hands, boolD, pw_bind, qQ, wipeR, reduceIte, nOp, nList, isD, lenD, wW]
  refine ask_hold 4 v hl _ rfl _ fun d hd => ?_
  cases hA_one hd (.inr ⟨hn, rfl⟩)
  simp only [eCmp, eBin, eOp, eUn, eFn, eIx, eSlc, eChn, tVal, tNot, tAnd, tOr, eIf, eAnd, eOr, eNot, eIs, aNil, aCons, aStar, itemsO, eTup, nLst, eNw, pNone, pSome, sSkip, sSeq, sAsg, sAsgN, sRet, sRetN, sIf, tgName, tgAll, tgTup, sTg, sPar, sFor, iSeqM, iRg1, iRg2, iEnM, ownL, sApp, tgSet, ePop, ePopA, eCall, peeks, takes, hands, boolD, pw_bind, qQ, wipeR, reduceIte, nOp, nList, isD, lenD, wW, l2, hx1, hx2]
  exact h
theorem no_loop (Q : Fl → Sx → Prop) (x2 x3 : SV) (b : Option Bx) (hq : ∀ x4, Q .nx ⟨[.no, .box, x2, x3, x4], b⟩) : ∀ (ds : List PyData) (x4 : SV), (∀ v ∈ ds, ¬ Oks v ∧ Tm 2000 1 v ∧ ∀ ds, v = .tuple ds → ds.length ≤ 4000) → pw (forL (tgName 4) a2 ds) ⟨[.no, .box, x2, x3, x4], b⟩ Q fun _ => False
  | [], x4, _ => hq x4
  | v :: r, x4, hv => by
    obtain ⟨h1, h2, h3⟩ := hv v (by simp)
    unfold forL
    simp only [eCmp, eBin, eOp, eUn, eFn, eIx, eSlc, eChn, tVal, tNot, tAnd, tOr, eIf, eAnd, eOr, eNot, eIs, aNil, aCons, aStar, itemsO, eTup, nLst, eNw, pNone, pSome, sSkip, sSeq, sAsg, sAsgN, sRet, sRetN, sIf, tgName, tgAll, tgTup, sTg, sPar, sFor, iSeqM, iRg1, iRg2, iEnM, ownL, sApp, tgSet, ePop, ePopA, eCall, peeks, takes, hands, boolD, pw_bind, qQ, wipeR, reduceIte, nOp, nList, isD, lenD, wW]
    refine no_turn h1 h2 h3 x2 x3 b _ ?_
    exact no_loop Q x2 x3 b hq r _ fun w hw => hv w (List.mem_cons_of_mem _ hw)
@[irreducible] def hdA : Int := hold tA
@[irreducible] def hdR : Int := hold tA.reverse
@[irreducible] def hdN : Int := hold []
@[irreducible] def hdB : Int := hold tB
theorem e7 : cmpD .ne (.list [.int hdA, .int hdR, .int hdN]) (.list [.int 1, .int 198, .int 0]) = some (.bool false) := by
  unfold hdA hdR hdN
  rw [oA.2.2, oAr.2.2, o0.2.2]
  have : shp (.list [.int 1, .int 198, .int 0]) = true := by decide +kernel
  rw [cmpD_ne, this]
  simp [PyData.eqv, PyData.eqvAll]
theorem e8 : decide (hdB = 1) = true := decide_eq_true (by unfold hdB; exact oB.2.2)
theorem qA' {s : Sx} {Q : PyData → Sx → Prop} (h : Q (.int hdA) s) : pw (callX 1 f_order_hold [.dat (.tuple (tA.map PyData.int))]) s Q fun _ => False := qA (by unfold hdA at h; rwa [oA.2.2] at h)
theorem qR' {s : Sx} {Q : PyData → Sx → Prop} (h : Q (.int hdR) s) : pw (callX 1 f_order_hold [.dat (.tuple (tA.map PyData.int).reverse)]) s Q fun _ => False := qAr (by unfold hdR at h; rwa [oAr.2.2] at h)
theorem qN' {s : Sx} {Q : PyData → Sx → Prop} (h : Q (.int hdN) s) : pw (callX 1 f_order_hold [.dat (.tuple [])]) s Q fun _ => False := q0 (by unfold hdN at h; rwa [o0.2.2] at h)
theorem qB' {s : Sx} {Q : PyData → Sx → Prop} (h : Q (.int hdB) s) : pw (callX 1 f_order_hold [.dat (.tuple (tB.map PyData.int))]) s Q fun _ => False := qB (by unfold hdB at h; rwa [oB.2.2] at h)
theorem law_end (x2 x3 x4 : SV) (b : Option Bx) : pw a1 ⟨[.no, .box, x2, x3, x4], b⟩ (fun f _ => f = .rt (.bool true)) fun _ => False := by
  unfold a1 m_law_1
  simp only [eCmp, eBin, eOp, eUn, eFn, eIx, eSlc, eChn, tVal, tNot, tAnd, tOr, eIf, eAnd, eOr, eNot, eIs, aNil, aCons, aStar, itemsO, eTup, nLst, eNw, pNone, pSome, sSkip, sSeq, sAsg, sAsgN, sRet, sRetN, sIf, tgName, tgAll, tgTup, sTg, sPar, sFor, iSeqM, iRg1, iRg2, iEnM, ownL, sApp, tgSet, ePop, ePopA, eCall, peeks, takes, hands, boolD, pw_bind, qQ, wipeR, reduceIte, nOp, nList, isD, lenD, wW, eCallX, eTupRg, mRg1, rk3, f5, f6, f7, show 0 + 1 ≤ lim from by decide]
  refine q_come ?_
  rw [f8]
  dsimp only
  rw [f10]
theorem law_nos (x2 x3 : SV) (b : Option Bx) : pw a4 ⟨[.no, .box, x2, x3, .no], b⟩ (fun f _ => f = .rt (.bool true)) fun _ => False := by
  have l4 : 0 + 1 + 1 + 1 + 1 ≤ lim := by decide
  unfold a4 m_law_4 m_law_3
  rw [ea1, ea2]
  simp only [eCmp, eBin, eOp, eUn, eFn, eIx, eSlc, eChn, tVal, tNot, tAnd, tOr, eIf, eAnd, eOr, eNot, eIs, aNil, aCons, aStar, itemsO, eTup, nLst, eNw, pNone, pSome, sSkip, sSeq, sAsg, sAsgN, sRet, sRetN, sIf, tgName, tgAll, tgTup, sTg, sPar, sFor, iSeqM, iRg1, iRg2, iEnM, ownL, sApp, tgSet, ePop, ePopA, eCall, peeks, takes, hands, boolD, pw_bind, qQ, wipeR, reduceIte, nOp, nList, isD, lenD, wW, eTupRg, mRg1, rk3, rk4, f1, f2, f3, f4, l4, show 0 + 1 ≤ lim from by decide]
  refine no_loop _ _ _ _ (fun x4 => law_end x2 x3 x4 b) _ _ ?_
  intro v hv
  simp only [List.mem_cons, List.not_mem_nil, or_false] at hv
  obtain ⟨h1, h2, h3, h4, h5, h6⟩ := s4
  rcases hv with rfl | rfl | rfl | rfl
  · exact ⟨n1, s1.1, fun ds e => by cases e; rw [List.length_map]; exact s1.2⟩
  · exact ⟨n2, tm_of h1, fun ds e => by cases e; rw [List.length_map]; exact h4⟩
  · exact ⟨n3, tm_of h2, fun ds e => by cases e; rw [List.length_map]; exact h5⟩
  · exact ⟨n4, tm_of h3, fun ds e => by cases e; exact h6⟩
theorem law_tail (x2 : SV) (b : Option Bx) : pw a10 ⟨[.no, .box, x2, .no, .no], b⟩ (fun f _ => f = .rt (.bool true)) fun _ => False := by
  have l3 : 0 + 1 + 1 + 1 ≤ lim := by decide
  unfold a10 m_law_10 m_law_9
  simp only [eCmp, eBin, eOp, eUn, eFn, eIx, eSlc, eChn, tVal, tNot, tAnd, tOr, eIf, eAnd, eOr, eNot, eIs, aNil, aCons, aStar, itemsO, eTup, nLst, eNw, pNone, pSome, sSkip, sSeq, sAsg, sAsgN, sRet, sRetN, sIf, tgName, tgAll, tgTup, sTg, sPar, sFor, iSeqM, iRg1, iRg2, iEnM, ownL, sApp, tgSet, ePop, ePopA, eCall, peeks, takes, hands, boolD, pw_bind, qQ, wipeR, reduceIte, nOp, nList, isD, lenD, wW, eTupRg, mRg2, rk1, fA, show 0 + 1 ≤ lim from by decide]
  unfold m_law_8 m_law_7
  simp only [eCmp, eBin, eOp, eUn, eFn, eIx, eSlc, eChn, tVal, tNot, tAnd, tOr, eIf, eAnd, eOr, eNot, eIs, aNil, aCons, aStar, itemsO, eTup, nLst, eNw, pNone, pSome, sSkip, sSeq, sAsg, sAsgN, sRet, sRetN, sIf, tgName, tgAll, tgTup, sTg, sPar, sFor, iSeqM, iRg1, iRg2, iEnM, ownL, sApp, tgSet, ePop, ePopA, eCall, peeks, takes, hands, boolD, pw_bind, qQ, wipeR, reduceIte, nOp, nList, isD, lenD, wW, eCallX]
  refine qA' ?_
  simp only [eCmp, eBin, eOp, eUn, eFn, eIx, eSlc, eChn, tVal, tNot, tAnd, tOr, eIf, eAnd, eOr, eNot, eIs, aNil, aCons, aStar, itemsO, eTup, nLst, eNw, pNone, pSome, sSkip, sSeq, sAsg, sAsgN, sRet, sRetN, sIf, tgName, tgAll, tgTup, sTg, sPar, sFor, iSeqM, iRg1, iRg2, iEnM, ownL, sApp, tgSet, ePop, ePopA, eCall, peeks, takes, hands, boolD, pw_bind, qQ, wipeR, reduceIte, nOp, nList, isD, lenD, wW, eCallX, backD]
  refine qR' ?_
  rw [if_pos (show 0 ≤ lim from Nat.zero_le _)]
  refine qN' ?_
  rw [if_pos l3, if_pos l3, e7]
  simp only [eCmp, eBin, eOp, eUn, eFn, eIx, eSlc, eChn, tVal, tNot, tAnd, tOr, eIf, eAnd, eOr, eNot, eIs, aNil, aCons, aStar, itemsO, eTup, nLst, eNw, pNone, pSome, sSkip, sSeq, sAsg, sAsgN, sRet, sRetN, sIf, tgName, tgAll, tgTup, sTg, sPar, sFor, iSeqM, iRg1, iRg2, iEnM, ownL, sApp, tgSet, ePop, ePopA, eCall, peeks, takes, hands, boolD, pw_bind, qQ, wipeR, reduceIte, nOp, nList, isD, lenD, wW]
  unfold m_law_6 m_law_5
  simp only [eCmp, eBin, eOp, eUn, eFn, eIx, eSlc, eChn, tVal, tNot, tAnd, tOr, eIf, eAnd, eOr, eNot, eIs, aNil, aCons, aStar, itemsO, eTup, nLst, eNw, pNone, pSome, sSkip, sSeq, sAsg, sAsgN, sRet, sRetN, sIf, tgName, tgAll, tgTup, sTg, sPar, sFor, iSeqM, iRg1, iRg2, iEnM, ownL, sApp, tgSet, ePop, ePopA, eCall, peeks, takes, hands, boolD, pw_bind, qQ, wipeR, reduceIte, nOp, nList, isD, lenD, wW, eCallX, eTupRg, mRg1, rk2, fB, show 0 + 1 + 1 ≤ lim from by decide]
  refine qB' ?_
  simp only [eCmp, eBin, eOp, eUn, eFn, eIx, eSlc, eChn, tVal, tNot, tAnd, tOr, eIf, eAnd, eOr, eNot, eIs, aNil, aCons, aStar, itemsO, eTup, nLst, eNw, pNone, pSome, sSkip, sSeq, sAsg, sAsgN, sRet, sRetN, sIf, tgName, tgAll, tgTup, sTg, sPar, sFor, iSeqM, iRg1, iRg2, iEnM, ownL, sApp, tgSet, ePop, ePopA, eCall, peeks, takes, hands, boolD, pw_bind, qQ, wipeR, reduceIte, nOp, nList, isD, lenD, wW, e8]
  rw [ea4]
  exact law_nos _ _ _
theorem hp (ns : List Int) (_ : ns.length ≤ 63) : pw m_law (lawS 5 ns) (fun f _ => f = .rt (.bool true)) fun _ => False := by
  have hbig : big62 ((12 : Nat) : Int) = true := big62_of (by omega) (by omega)
  have e12 : ((12 : Nat) : Int) = 12 := rfl
  rw [e12] at hbig
  have r3 : rgD 0 12 = rgN 12 := rgD_nat (m := 12)
  unfold m_law m_law_12
  rw [ea10]
  simp only [eCmp, eBin, eOp, eUn, eFn, eIx, eSlc, eChn, tVal, tNot, tAnd, tOr, eIf, eAnd, eOr, eNot, eIs, aNil, aCons, aStar, itemsO, eTup, nLst, eNw, pNone, pSome, sSkip, sSeq, sAsg, sAsgN, sRet, sRetN, sIf, tgName, tgAll, tgTup, sTg, sPar, sFor, iSeqM, iRg1, iRg2, iEnM, ownL, sApp, tgSet, ePop, ePopA, eCall, peeks, takes, hands, boolD, pw_bind, qQ, wipeR, reduceIte, nOp, nList, isD, lenD, wW, iRg1, hbig, r3]
  refine law_loop _ ?_ _ _ (fun d hd => ?_) ⟨_, _, rfl, bg_of ns⟩
  · rintro _ ⟨x2, b, rfl, hb⟩
    exact law_tail x2 b
  · obtain ⟨j, e, hj⟩ := rgN_mem hd
    exact ⟨j, hj, e⟩
end K51
set_option linter.all false
set_option Elab.async false
set_option maxRecDepth 100000
set_option maxHeartbeats 0
namespace K51
open PySem PySem.Spec PyProof.Rows L2 TW
abbrev pg : Program := PySem.Challenge.pw_twicesafe_k51_orders_and_their_holds
def top (i : Nat) : Stmt := pg.main.body.getD i (.Pass ⟨0, 0, 0, 0⟩)
abbrev s_is_integer : Stmt := top 9
theorem sc_is_integer : FnScope ["value", "low", "high"] ["value", "low", "high"] (defScope s_is_integer) := ⟨rfl, rfl, rfl, by decide +kernel, rfl, by decide +kernel, by decide +kernel⟩
def d_is_integer : He.DefD := ⟨("is_integer", none), "is_integer", "is_integer", defArgs s_is_integer, defBody s_is_integer, defScope s_is_integer, [], []⟩
abbrev s_are_integers : Stmt := top 10
theorem sc_are_integers : FnScope ["value", "many", "low", "high", "item"] ["value", "many", "low", "high"] (defScope s_are_integers) := ⟨rfl, rfl, rfl, by decide +kernel, rfl, by decide +kernel, by decide +kernel⟩
def d_are_integers : He.DefD := ⟨("are_integers", none), "are_integers", "are_integers", defArgs s_are_integers, defBody s_are_integers, defScope s_are_integers, [], []⟩
abbrev s_is_order : Stmt := top 12
theorem sc_is_order : FnScope ["value", "many"] ["value", "many"] (defScope s_is_order) := ⟨rfl, rfl, rfl, by decide +kernel, rfl, by decide +kernel, by decide +kernel⟩
def d_is_order : He.DefD := ⟨("is_order", none), "is_order", "is_order", defArgs s_is_order, defBody s_is_order, defScope s_is_order, [], []⟩
abbrev s_held_counts : Stmt := top 13
theorem sc_held_counts : FnScope ["order", "place", "left", "found", "other"] ["order"] (defScope s_held_counts) := ⟨rfl, rfl, rfl, by decide +kernel, rfl, by decide +kernel, by decide +kernel⟩
def d_held_counts : He.DefD := ⟨("held_counts", none), "held_counts", "held_counts", defArgs s_held_counts, defBody s_held_counts, defScope s_held_counts, [], []⟩
abbrev s_order_hold : Stmt := top 14
theorem sc_order_hold : FnScope ["value"] ["value"] (defScope s_order_hold) := ⟨rfl, rfl, rfl, by decide +kernel, rfl, by decide +kernel, by decide +kernel⟩
def d_order_hold : He.DefD := ⟨("order_hold", none), "order_hold", "order_hold", defArgs s_order_hold, defBody s_order_hold, defScope s_order_hold, [], []⟩
abbrev s_come_log : Stmt := top 15
theorem sc_come_log : FnScope ["log", "value", "place"] ["log", "value"] (defScope s_come_log) := ⟨rfl, rfl, rfl, by decide +kernel, rfl, by decide +kernel, by decide +kernel⟩
def d_come_log : He.DefD := ⟨("come_log", none), "come_log", "come_log", defArgs s_come_log, defBody s_come_log, defScope s_come_log, [], []⟩
abbrev s_law_opened : Stmt := top 17
theorem sc_law_opened : FnScope ["_law_script", "_law_cells", "_law_small", "_law_great", "_law_cell"] ["_law_script"] (defScope s_law_opened) := ⟨rfl, rfl, rfl, by decide +kernel, rfl, by decide +kernel, by decide +kernel⟩
def d_law_opened : He.DefD := ⟨("_law_opened", none), "_law_opened", "_law_opened", defArgs s_law_opened, defBody s_law_opened, defScope s_law_opened, [], []⟩
abbrev s_law_tried : Stmt := top 24
theorem sc_law_tried : FnScope ["_law_call", "error", "_law_flags"] ["_law_call"] (defScope s_law_tried) := ⟨rfl, rfl, rfl, by decide +kernel, rfl, by decide +kernel, by decide +kernel⟩
def d_law_tried : He.DefD := ⟨("_law_tried", none), "_law_tried", "_law_tried", defArgs s_law_tried, defBody s_law_tried, defScope s_law_tried, [], []⟩
abbrev s_law_draw : Stmt := top 18
theorem sc_law_draw : FnScope ["_law_box", "_law_many", "_law_great", "_law_digit", "_law_cell", "_law_mixed_here"] ["_law_box", "_law_many"] (defScope s_law_draw) := ⟨rfl, rfl, rfl, by decide +kernel, rfl, by decide +kernel, by decide +kernel⟩
def d_law_draw : He.DefD := ⟨("_law_draw", none), "_law_draw", "_law_draw", defArgs s_law_draw, defBody s_law_draw, defScope s_law_draw, [], []⟩
abbrev s_law_whole : Stmt := top 20
theorem sc_law_whole : FnScope ["_law_value", "_law_low", "_law_high"] ["_law_value", "_law_low", "_law_high"] (defScope s_law_whole) := ⟨rfl, rfl, rfl, by decide +kernel, rfl, by decide +kernel, by decide +kernel⟩
def d_law_whole : He.DefD := ⟨("_law_whole", none), "_law_whole", "_law_whole", defArgs s_law_whole, defBody s_law_whole, defScope s_law_whole, [], []⟩
abbrev s_law_is_order : Stmt := top 25
theorem sc_law_is_order : FnScope ["_law_value", "_law_many", "_law_item"] ["_law_value", "_law_many"] (defScope s_law_is_order) := ⟨rfl, rfl, rfl, by decide +kernel, rfl, by decide +kernel, by decide +kernel⟩
def d_law_is_order : He.DefD := ⟨("_law_is_order", none), "_law_is_order", "_law_is_order", defArgs s_law_is_order, defBody s_law_is_order, defScope s_law_is_order, [], []⟩
abbrev s_law_count : Stmt := top 26
theorem sc_law_count : FnScope ["_law_given", "_law_found", "_law_at", "_law_place"] ["_law_given"] (defScope s_law_count) := ⟨rfl, rfl, rfl, by decide +kernel, rfl, by decide +kernel, by decide +kernel⟩
def d_law_count : He.DefD := ⟨("_law_count", none), "_law_count", "_law_count", defArgs s_law_count, defBody s_law_count, defScope s_law_count, [], []⟩
abbrev s_law_one : Stmt := top 19
theorem sc_law_one : FnScope ["_law_box", "_law_items"] ["_law_box", "_law_items"] (defScope s_law_one) := ⟨rfl, rfl, rfl, by decide +kernel, rfl, by decide +kernel, by decide +kernel⟩
def d_law_one : He.DefD := ⟨("_law_one", none), "_law_one", "_law_one", defArgs s_law_one, defBody s_law_one, defScope s_law_one, [], []⟩
abbrev s_law_odd : Stmt := top 22
theorem sc_law_odd : FnScope ["_law_box", "_law_some"] ["_law_box"] (defScope s_law_odd) := ⟨rfl, rfl, rfl, by decide +kernel, rfl, by decide +kernel, by decide +kernel⟩
def d_law_odd : He.DefD := ⟨("_law_odd", none), "_law_odd", "_law_odd", defArgs s_law_odd, defBody s_law_odd, defScope s_law_odd, [], []⟩
abbrev s_law_bent : Stmt := top 21
theorem sc_law_bent : FnScope ["_law_box", "_law_value", "_law_places", "_law_at", "_law_some", "_law_k"] ["_law_box", "_law_value"] (defScope s_law_bent) := ⟨rfl, rfl, rfl, by decide +kernel, rfl, by decide +kernel, by decide +kernel⟩
def d_law_bent : He.DefD := ⟨("_law_bent", none), "_law_bent", "_law_bent", defArgs s_law_bent, defBody s_law_bent, defScope s_law_bent, [], []⟩
abbrev s_law_mixed : Stmt := top 23
theorem sc_law_mixed : FnScope ["_law_box", "_law_items", "_law_rest", "_law_item"] ["_law_box", "_law_items"] (defScope s_law_mixed) := ⟨rfl, rfl, rfl, by decide +kernel, rfl, by decide +kernel, by decide +kernel⟩
def d_law_mixed : He.DefD := ⟨("_law_mixed", none), "_law_mixed", "_law_mixed", defArgs s_law_mixed, defBody s_law_mixed, defScope s_law_mixed, [], []⟩
abbrev s_law_values : Stmt := top 27
theorem sc_law_values : FnScope ["_law_box", "_law_many", "_law_given", "_law_at", "_law_some", "_law_place"] ["_law_box", "_law_many"] (defScope s_law_values) := ⟨rfl, rfl, rfl, by decide +kernel, rfl, by decide +kernel, by decide +kernel⟩
def d_law_values : He.DefD := ⟨("_law_values", none), "_law_values", "_law_values", defArgs s_law_values, defBody s_law_values, defScope s_law_values, [], []⟩
abbrev s_law_right : Stmt := top 28
theorem sc_law_right : FnScope ["_law_box", "_law_many", "_law_value", "_law_log", "_law_shown", "_law_size", "_law_due", "_law_k", "_law_again", "_law_place"] ["_law_box", "_law_many"] (defScope s_law_right) := ⟨rfl, rfl, rfl, by decide +kernel, rfl, by decide +kernel, by decide +kernel⟩
def d_law_right : He.DefD := ⟨("_law_right", none), "_law_right", "_law_right", defArgs s_law_right, defBody s_law_right, defScope s_law_right, [], []⟩
abbrev s_law : Stmt := top 29
theorem sc_law : FnScope ["_law_script", "_law_box", "_law_turn", "_law_long", "_law_bad"] ["_law_script"] (defScope s_law) := ⟨rfl, rfl, rfl, by decide +kernel, rfl, by decide +kernel, by decide +kernel⟩
def d_law : He.DefD := ⟨("law", none), "law", "law", defArgs s_law, defBody s_law, defScope s_law, [], []⟩
abbrev s_init_BadOrder : Stmt := methAt (top 3) 0
theorem sc_init_BadOrder : FnScope ["self", "given"] ["self", "given"] (defScope s_init_BadOrder) := ⟨rfl, rfl, rfl, by decide +kernel, rfl, by decide +kernel, by decide +kernel⟩
def d_init_BadOrder : He.DefD := ⟨("BadOrder", some "__init__"), "__init__", "BadOrder.__init__", defArgs s_init_BadOrder, defBody s_init_BadOrder, defScope s_init_BadOrder, [], []⟩
def fn : List He.DefD := [d_is_integer, d_are_integers, d_is_order, d_held_counts, d_order_hold, d_come_log, d_law_opened, d_law_tried, d_law_draw, d_law_whole, d_law_is_order, d_law_count, d_law_one, d_law_odd, d_law_bent, d_law_mixed, d_law_values, d_law_right, d_law, d_init_BadOrder]
def ex (K : PySem.W.Frag) : Bool := exB K "BadOrder" ["given"] && (decide (PySem.W.exmOne K (.ref (He.ga K "BadOrder")) (.ref (He.ga K "ServiceError")) = some true) && (decide (PySem.W.kitOne K (.ref (He.ga K "BadOrder")) (.ref (He.ga K "BadOrder")) = some true) && (decide (PySem.W.kitOne K (.ref (He.ga K "BadOrder")) (.ref (He.ga K "NoHold")) = some false) && (decide (PySem.W.kitOne K (.ref (He.ga K "BadOrder")) (.ref (He.ga K "NoIndex")) = some false) && (decide (PySem.W.kitOne K (.ref (He.ga K "BadOrder")) (.ref (He.ga K "NoNumber")) = some false) && (decide (PySem.W.kitOne K (.ref (He.ga K "BadOrder")) (.ref (He.ga K "NoState")) = some false) && (decide (PySem.W.kitOne K (.ref (He.ga K "BadOrder")) (.type "ValueError") = some true) && true)))))))
def fa : List He.Fa := [.glo "is_integer", .glo "are_integers", .glo "is_order", .glo "held_counts", .glo "order_hold", .glo "come_log", .glo "_law_opened", .glo "_law_tried", .glo "_law_draw", .glo "_law_whole", .glo "_law_is_order", .glo "_law_count", .glo "_law_one", .glo "_law_odd", .glo "_law_bent", .glo "_law_mixed", .glo "_law_values", .glo "_law_right", .glo "law", .free "ValueError", .free "abs", .free "all", .free "bool", .free "int", .free "isinstance", .free "len", .free "list", .free "max", .free "range", .free "repr", .free "set", .free "sorted", .free "tuple", .int "MAX_LOG" 200, .glo "BadOrder", .glo "NoHold", .glo "NoIndex", .glo "NoNumber", .glo "NoState", .glo "ServiceError"]
def tf : List He.Defn := [("_law_right", none), ("law", none)]
def cs : List (Addr × Addr) := [(227, 225), (234, 230)]
theorem t_in_law_right : ((225 : Addr), (("_law_right" : Str) ++ ".<locals>.") ++ "<lambda>") ∈ tabs0 := by decide +kernel
theorem t_one_law_right : ∀ p ∈ tabs0, p.1 = 225 → p.2 = (("_law_right" : Str) ++ ".<locals>.") ++ "<lambda>" := by decide +kernel
theorem t_in_law : ((230 : Addr), (("law" : Str) ++ ".<locals>.") ++ "<lambda>") ∈ tabs0 := by decide +kernel
theorem t_one_law : ∀ p ∈ tabs0, p.1 = 230 → p.2 = (("law" : Str) ++ ".<locals>.") ++ "<lambda>" := by decide +kernel
structure Kn (K : PySem.W.Frag) (mg : Str → Option Value) (base : Heap) : Prop where
  sm : SmP base
  g_is_integer : mg "is_integer" = some (.ref (He.fAd K ("is_integer", none)))
  d_is_integer : ∃ fd, FunD K "is_integer" "is_integer" (defArgs s_is_integer) (defBody s_is_integer) (defScope s_is_integer) [] [] (He.fAd K ("is_integer", none)) fd
  k_is_integer : PySem.W.keepIn K (.ref (He.fAd K ("is_integer", none))) = true
  g_are_integers : mg "are_integers" = some (.ref (He.fAd K ("are_integers", none)))
  d_are_integers : ∃ fd, FunD K "are_integers" "are_integers" (defArgs s_are_integers) (defBody s_are_integers) (defScope s_are_integers) [] [] (He.fAd K ("are_integers", none)) fd
  k_are_integers : PySem.W.keepIn K (.ref (He.fAd K ("are_integers", none))) = true
  g_is_order : mg "is_order" = some (.ref (He.fAd K ("is_order", none)))
  d_is_order : ∃ fd, FunD K "is_order" "is_order" (defArgs s_is_order) (defBody s_is_order) (defScope s_is_order) [] [] (He.fAd K ("is_order", none)) fd
  k_is_order : PySem.W.keepIn K (.ref (He.fAd K ("is_order", none))) = true
  g_held_counts : mg "held_counts" = some (.ref (He.fAd K ("held_counts", none)))
  d_held_counts : ∃ fd, FunD K "held_counts" "held_counts" (defArgs s_held_counts) (defBody s_held_counts) (defScope s_held_counts) [] [] (He.fAd K ("held_counts", none)) fd
  k_held_counts : PySem.W.keepIn K (.ref (He.fAd K ("held_counts", none))) = true
  g_order_hold : mg "order_hold" = some (.ref (He.fAd K ("order_hold", none)))
  d_order_hold : ∃ fd, FunD K "order_hold" "order_hold" (defArgs s_order_hold) (defBody s_order_hold) (defScope s_order_hold) [] [] (He.fAd K ("order_hold", none)) fd
  k_order_hold : PySem.W.keepIn K (.ref (He.fAd K ("order_hold", none))) = true
  g_come_log : mg "come_log" = some (.ref (He.fAd K ("come_log", none)))
  d_come_log : ∃ fd, FunD K "come_log" "come_log" (defArgs s_come_log) (defBody s_come_log) (defScope s_come_log) [] [] (He.fAd K ("come_log", none)) fd
  k_come_log : PySem.W.keepIn K (.ref (He.fAd K ("come_log", none))) = true
  g__law_opened : mg "_law_opened" = some (.ref (He.fAd K ("_law_opened", none)))
  d__law_opened : ∃ fd, FunD K "_law_opened" "_law_opened" (defArgs s_law_opened) (defBody s_law_opened) (defScope s_law_opened) [] [] (He.fAd K ("_law_opened", none)) fd
  k__law_opened : PySem.W.keepIn K (.ref (He.fAd K ("_law_opened", none))) = true
  g__law_tried : mg "_law_tried" = some (.ref (He.fAd K ("_law_tried", none)))
  d__law_tried : ∃ fd, FunD K "_law_tried" "_law_tried" (defArgs s_law_tried) (defBody s_law_tried) (defScope s_law_tried) [] [] (He.fAd K ("_law_tried", none)) fd
  k__law_tried : PySem.W.keepIn K (.ref (He.fAd K ("_law_tried", none))) = true
  g__law_draw : mg "_law_draw" = some (.ref (He.fAd K ("_law_draw", none)))
  d__law_draw : ∃ fd, FunD K "_law_draw" "_law_draw" (defArgs s_law_draw) (defBody s_law_draw) (defScope s_law_draw) [] [] (He.fAd K ("_law_draw", none)) fd
  k__law_draw : PySem.W.keepIn K (.ref (He.fAd K ("_law_draw", none))) = true
  g__law_whole : mg "_law_whole" = some (.ref (He.fAd K ("_law_whole", none)))
  d__law_whole : ∃ fd, FunD K "_law_whole" "_law_whole" (defArgs s_law_whole) (defBody s_law_whole) (defScope s_law_whole) [] [] (He.fAd K ("_law_whole", none)) fd
  k__law_whole : PySem.W.keepIn K (.ref (He.fAd K ("_law_whole", none))) = true
  g__law_is_order : mg "_law_is_order" = some (.ref (He.fAd K ("_law_is_order", none)))
  d__law_is_order : ∃ fd, FunD K "_law_is_order" "_law_is_order" (defArgs s_law_is_order) (defBody s_law_is_order) (defScope s_law_is_order) [] [] (He.fAd K ("_law_is_order", none)) fd
  k__law_is_order : PySem.W.keepIn K (.ref (He.fAd K ("_law_is_order", none))) = true
  g__law_count : mg "_law_count" = some (.ref (He.fAd K ("_law_count", none)))
  d__law_count : ∃ fd, FunD K "_law_count" "_law_count" (defArgs s_law_count) (defBody s_law_count) (defScope s_law_count) [] [] (He.fAd K ("_law_count", none)) fd
  k__law_count : PySem.W.keepIn K (.ref (He.fAd K ("_law_count", none))) = true
  g__law_one : mg "_law_one" = some (.ref (He.fAd K ("_law_one", none)))
  d__law_one : ∃ fd, FunD K "_law_one" "_law_one" (defArgs s_law_one) (defBody s_law_one) (defScope s_law_one) [] [] (He.fAd K ("_law_one", none)) fd
  k__law_one : PySem.W.keepIn K (.ref (He.fAd K ("_law_one", none))) = true
  g__law_odd : mg "_law_odd" = some (.ref (He.fAd K ("_law_odd", none)))
  d__law_odd : ∃ fd, FunD K "_law_odd" "_law_odd" (defArgs s_law_odd) (defBody s_law_odd) (defScope s_law_odd) [] [] (He.fAd K ("_law_odd", none)) fd
  k__law_odd : PySem.W.keepIn K (.ref (He.fAd K ("_law_odd", none))) = true
  g__law_bent : mg "_law_bent" = some (.ref (He.fAd K ("_law_bent", none)))
  d__law_bent : ∃ fd, FunD K "_law_bent" "_law_bent" (defArgs s_law_bent) (defBody s_law_bent) (defScope s_law_bent) [] [] (He.fAd K ("_law_bent", none)) fd
  k__law_bent : PySem.W.keepIn K (.ref (He.fAd K ("_law_bent", none))) = true
  g__law_mixed : mg "_law_mixed" = some (.ref (He.fAd K ("_law_mixed", none)))
  d__law_mixed : ∃ fd, FunD K "_law_mixed" "_law_mixed" (defArgs s_law_mixed) (defBody s_law_mixed) (defScope s_law_mixed) [] [] (He.fAd K ("_law_mixed", none)) fd
  k__law_mixed : PySem.W.keepIn K (.ref (He.fAd K ("_law_mixed", none))) = true
  g__law_values : mg "_law_values" = some (.ref (He.fAd K ("_law_values", none)))
  d__law_values : ∃ fd, FunD K "_law_values" "_law_values" (defArgs s_law_values) (defBody s_law_values) (defScope s_law_values) [] [] (He.fAd K ("_law_values", none)) fd
  k__law_values : PySem.W.keepIn K (.ref (He.fAd K ("_law_values", none))) = true
  g__law_right : mg "_law_right" = some (.ref (He.fAd K ("_law_right", none)))
  d__law_right : ∃ fd, FunD K "_law_right" "_law_right" (defArgs s_law_right) (defBody s_law_right) (defScope s_law_right) [] [] (He.fAd K ("_law_right", none)) fd
  k__law_right : PySem.W.keepIn K (.ref (He.fAd K ("_law_right", none))) = true
  g_law : mg "law" = some (.ref (He.fAd K ("law", none)))
  d_law : ∃ fd, FunD K "law" "law" (defArgs s_law) (defBody s_law) (defScope s_law) [] [] (He.fAd K ("law", none)) fd
  k_law : PySem.W.keepIn K (.ref (He.fAd K ("law", none))) = true
  g_ValueError : mg "ValueError" = none
  g_abs : mg "abs" = none
  g_all : mg "all" = none
  g_bool : mg "bool" = none
  g_int : mg "int" = none
  g_isinstance : mg "isinstance" = none
  g_len : mg "len" = none
  g_list : mg "list" = none
  g_max : mg "max" = none
  g_range : mg "range" = none
  g_repr : mg "repr" = none
  g_set : mg "set" = none
  g_sorted : mg "sorted" = none
  g_tuple : mg "tuple" = none
  c_MAX_LOG : ∃ t, mg "MAX_LOG" = some (.int 200 t)
  g_BadOrder : mg "BadOrder" = some (.ref (He.ga K "BadOrder"))
  g_NoHold : mg "NoHold" = some (.ref (He.ga K "NoHold"))
  g_NoIndex : mg "NoIndex" = some (.ref (He.ga K "NoIndex"))
  g_NoNumber : mg "NoNumber" = some (.ref (He.ga K "NoNumber"))
  g_NoState : mg "NoState" = some (.ref (He.ga K "NoState"))
  g_ServiceError : mg "ServiceError" = some (.ref (He.ga K "ServiceError"))
  i_BadOrder : ∃ fd, FunD K "__init__" "BadOrder.__init__" (defArgs s_init_BadOrder) (defBody s_init_BadOrder) (defScope s_init_BadOrder) [] [] (He.ma K (He.ga K "BadOrder") "__init__") fd
  x_BadOrder : ExK K (He.ga K "BadOrder") (He.ma K (He.ga K "BadOrder") "__init__") ["given"]
  m_BadOrder_ServiceError : PySem.W.exmOne K (.ref (He.ga K "BadOrder")) (.ref (He.ga K "ServiceError")) = some true
  k_BadOrder_BadOrder : PySem.W.kitOne K (.ref (He.ga K "BadOrder")) (.ref (He.ga K "BadOrder")) = some true
  k_BadOrder_NoHold : PySem.W.kitOne K (.ref (He.ga K "BadOrder")) (.ref (He.ga K "NoHold")) = some false
  k_BadOrder_NoIndex : PySem.W.kitOne K (.ref (He.ga K "BadOrder")) (.ref (He.ga K "NoIndex")) = some false
  k_BadOrder_NoNumber : PySem.W.kitOne K (.ref (He.ga K "BadOrder")) (.ref (He.ga K "NoNumber")) = some false
  k_BadOrder_NoState : PySem.W.kitOne K (.ref (He.ga K "BadOrder")) (.ref (He.ga K "NoState")) = some false
  k_BadOrder_ValueError : PySem.W.kitOne K (.ref (He.ga K "BadOrder")) (.type "ValueError") = some true
  t__law_right : He.cT K ("_law_right", none) = (227, 225)
  b__law_right : LamX.TabB base mg 227 225
  t_law : He.cT K ("law", none) = (234, 230)
  b_law : LamX.TabB base mg 234 230
theorem kn {K : PySem.W.Frag} {mg : Str → Option Value} {base h : Heap} (X : K.In h) (G : h.Ns mainGlobals mg) (c : He.SaysD fa fn K) (cx : ex K = true) (sm : SmP base) (ct : tf.map (He.cT K) = cs) (tb : ∀ p ∈ cs, LamX.TabB base mg p.1 p.2) : Kn K mg base where
  sm := sm
  g_is_integer := He.glo_ok X G (c.fact 0 (f := .glo "is_integer") rfl)
  d_is_integer := c.def_ 0 (d := d_is_integer) rfl
  k_is_integer := (c.def_ 0 (d := d_is_integer) rfl).elim fun _ F => F.kp
  g_are_integers := He.glo_ok X G (c.fact 1 (f := .glo "are_integers") rfl)
  d_are_integers := c.def_ 1 (d := d_are_integers) rfl
  k_are_integers := (c.def_ 1 (d := d_are_integers) rfl).elim fun _ F => F.kp
  g_is_order := He.glo_ok X G (c.fact 2 (f := .glo "is_order") rfl)
  d_is_order := c.def_ 2 (d := d_is_order) rfl
  k_is_order := (c.def_ 2 (d := d_is_order) rfl).elim fun _ F => F.kp
  g_held_counts := He.glo_ok X G (c.fact 3 (f := .glo "held_counts") rfl)
  d_held_counts := c.def_ 3 (d := d_held_counts) rfl
  k_held_counts := (c.def_ 3 (d := d_held_counts) rfl).elim fun _ F => F.kp
  g_order_hold := He.glo_ok X G (c.fact 4 (f := .glo "order_hold") rfl)
  d_order_hold := c.def_ 4 (d := d_order_hold) rfl
  k_order_hold := (c.def_ 4 (d := d_order_hold) rfl).elim fun _ F => F.kp
  g_come_log := He.glo_ok X G (c.fact 5 (f := .glo "come_log") rfl)
  d_come_log := c.def_ 5 (d := d_come_log) rfl
  k_come_log := (c.def_ 5 (d := d_come_log) rfl).elim fun _ F => F.kp
  g__law_opened := He.glo_ok X G (c.fact 6 (f := .glo "_law_opened") rfl)
  d__law_opened := c.def_ 6 (d := d_law_opened) rfl
  k__law_opened := (c.def_ 6 (d := d_law_opened) rfl).elim fun _ F => F.kp
  g__law_tried := He.glo_ok X G (c.fact 7 (f := .glo "_law_tried") rfl)
  d__law_tried := c.def_ 7 (d := d_law_tried) rfl
  k__law_tried := (c.def_ 7 (d := d_law_tried) rfl).elim fun _ F => F.kp
  g__law_draw := He.glo_ok X G (c.fact 8 (f := .glo "_law_draw") rfl)
  d__law_draw := c.def_ 8 (d := d_law_draw) rfl
  k__law_draw := (c.def_ 8 (d := d_law_draw) rfl).elim fun _ F => F.kp
  g__law_whole := He.glo_ok X G (c.fact 9 (f := .glo "_law_whole") rfl)
  d__law_whole := c.def_ 9 (d := d_law_whole) rfl
  k__law_whole := (c.def_ 9 (d := d_law_whole) rfl).elim fun _ F => F.kp
  g__law_is_order := He.glo_ok X G (c.fact 10 (f := .glo "_law_is_order") rfl)
  d__law_is_order := c.def_ 10 (d := d_law_is_order) rfl
  k__law_is_order := (c.def_ 10 (d := d_law_is_order) rfl).elim fun _ F => F.kp
  g__law_count := He.glo_ok X G (c.fact 11 (f := .glo "_law_count") rfl)
  d__law_count := c.def_ 11 (d := d_law_count) rfl
  k__law_count := (c.def_ 11 (d := d_law_count) rfl).elim fun _ F => F.kp
  g__law_one := He.glo_ok X G (c.fact 12 (f := .glo "_law_one") rfl)
  d__law_one := c.def_ 12 (d := d_law_one) rfl
  k__law_one := (c.def_ 12 (d := d_law_one) rfl).elim fun _ F => F.kp
  g__law_odd := He.glo_ok X G (c.fact 13 (f := .glo "_law_odd") rfl)
  d__law_odd := c.def_ 13 (d := d_law_odd) rfl
  k__law_odd := (c.def_ 13 (d := d_law_odd) rfl).elim fun _ F => F.kp
  g__law_bent := He.glo_ok X G (c.fact 14 (f := .glo "_law_bent") rfl)
  d__law_bent := c.def_ 14 (d := d_law_bent) rfl
  k__law_bent := (c.def_ 14 (d := d_law_bent) rfl).elim fun _ F => F.kp
  g__law_mixed := He.glo_ok X G (c.fact 15 (f := .glo "_law_mixed") rfl)
  d__law_mixed := c.def_ 15 (d := d_law_mixed) rfl
  k__law_mixed := (c.def_ 15 (d := d_law_mixed) rfl).elim fun _ F => F.kp
  g__law_values := He.glo_ok X G (c.fact 16 (f := .glo "_law_values") rfl)
  d__law_values := c.def_ 16 (d := d_law_values) rfl
  k__law_values := (c.def_ 16 (d := d_law_values) rfl).elim fun _ F => F.kp
  g__law_right := He.glo_ok X G (c.fact 17 (f := .glo "_law_right") rfl)
  d__law_right := c.def_ 17 (d := d_law_right) rfl
  k__law_right := (c.def_ 17 (d := d_law_right) rfl).elim fun _ F => F.kp
  g_law := He.glo_ok X G (c.fact 18 (f := .glo "law") rfl)
  d_law := c.def_ 18 (d := d_law) rfl
  k_law := (c.def_ 18 (d := d_law) rfl).elim fun _ F => F.kp
  g_ValueError := He.free_ok X G (c.fact 19 (f := .free "ValueError") rfl)
  g_abs := He.free_ok X G (c.fact 20 (f := .free "abs") rfl)
  g_all := He.free_ok X G (c.fact 21 (f := .free "all") rfl)
  g_bool := He.free_ok X G (c.fact 22 (f := .free "bool") rfl)
  g_int := He.free_ok X G (c.fact 23 (f := .free "int") rfl)
  g_isinstance := He.free_ok X G (c.fact 24 (f := .free "isinstance") rfl)
  g_len := He.free_ok X G (c.fact 25 (f := .free "len") rfl)
  g_list := He.free_ok X G (c.fact 26 (f := .free "list") rfl)
  g_max := He.free_ok X G (c.fact 27 (f := .free "max") rfl)
  g_range := He.free_ok X G (c.fact 28 (f := .free "range") rfl)
  g_repr := He.free_ok X G (c.fact 29 (f := .free "repr") rfl)
  g_set := He.free_ok X G (c.fact 30 (f := .free "set") rfl)
  g_sorted := He.free_ok X G (c.fact 31 (f := .free "sorted") rfl)
  g_tuple := He.free_ok X G (c.fact 32 (f := .free "tuple") rfl)
  c_MAX_LOG := He.int_ok X G (c.fact 33 (f := .int "MAX_LOG" 200) rfl)
  g_BadOrder := He.glo_ok X G (c.fact 34 (f := .glo "BadOrder") rfl)
  g_NoHold := He.glo_ok X G (c.fact 35 (f := .glo "NoHold") rfl)
  g_NoIndex := He.glo_ok X G (c.fact 36 (f := .glo "NoIndex") rfl)
  g_NoNumber := He.glo_ok X G (c.fact 37 (f := .glo "NoNumber") rfl)
  g_NoState := He.glo_ok X G (c.fact 38 (f := .glo "NoState") rfl)
  g_ServiceError := He.glo_ok X G (c.fact 39 (f := .glo "ServiceError") rfl)
  i_BadOrder := c.def_ 19 (d := d_init_BadOrder) rfl
  x_BadOrder := exB_ok (He.ba cx).1
  m_BadOrder_ServiceError := of_decide_eq_true (He.ba (He.ba cx).2).1
  k_BadOrder_BadOrder := of_decide_eq_true (He.ba (He.ba (He.ba cx).2).2).1
  k_BadOrder_NoHold := of_decide_eq_true (He.ba (He.ba (He.ba (He.ba cx).2).2).2).1
  k_BadOrder_NoIndex := of_decide_eq_true (He.ba (He.ba (He.ba (He.ba (He.ba cx).2).2).2).2).1
  k_BadOrder_NoNumber := of_decide_eq_true (He.ba (He.ba (He.ba (He.ba (He.ba (He.ba cx).2).2).2).2).2).1
  k_BadOrder_NoState := of_decide_eq_true (He.ba (He.ba (He.ba (He.ba (He.ba (He.ba (He.ba cx).2).2).2).2).2).2).1
  k_BadOrder_ValueError := of_decide_eq_true (He.ba (He.ba (He.ba (He.ba (He.ba (He.ba (He.ba (He.ba cx).2).2).2).2).2).2).2).1
  t__law_right := (List.cons.inj ct).1
  b__law_right := tb (227, 225) (by decide)
  t_law := (List.cons.inj (List.cons.inj ct).2).1
  b_law := tb (234, 230) (by decide)
section
variable {P : Program} {w : World} {K : PySem.W.Frag} {mg : Str → Option Value} {base : Heap}
theorem ini_BadOrder (E : Kn K mg base) : IniX P w K mg base "BadOrder" ["given"] ["self", "given"] := by
  obtain ⟨fd, F⟩ := E.i_BadOrder
  exact ⟨fd, init1 (f := "given") (p := "given") F sc_init_BadOrder E.x_BadOrder (by rfl) (by rfl) (by decide) (by decide) (fun _ => rfl), F.bindsN fun _ _ _ _ _ _ us hl => match us, hl with | [_, _], _ => rfl⟩
theorem ok_is_integer (E : Kn K mg base) : FnX P w K mg base 1 "is_integer" ["value", "low", "high"] K02.f_is_integer := by
  obtain ⟨fd, F⟩ := E.d_is_integer
  refine ⟨fd, fn_of_body (m := K02.m_is_integer) 3 F sc_is_integer E.sm rfl fun cdv A outer s H E' C => ?_, F.bindsN fun _ _ _ _ _ _ us hl => match us, hl with | [_, _, _], _ => rfl⟩
  exact (sb_one (ss_ret (sd_and (sd_is .int (sd_var rfl (by first | exact .inl (by rfl) | exact .inr (.inl (by rfl)) | exact .inr (.inr (by rfl)))) (by rfl) (E.g_isinstance) tb_isinstance (by rfl) (E.g_int) tb_int) (sd_and (sd_not (sd_is .bool (sd_var rfl (by first | exact .inl (by rfl) | exact .inr (.inl (by rfl)) | exact .inr (.inr (by rfl)))) (by rfl) (E.g_isinstance) tb_isinstance (by rfl) (E.g_bool) tb_bool)) (sd_one (sd_chn op_le op_le ok_le ok_le (sd_var rfl (by first | exact .inl (by rfl) | exact .inr (.inl (by rfl)) | exact .inr (.inr (by rfl)))) (sd_var rfl (by first | exact .inl (by rfl) | exact .inr (.inl (by rfl)) | exact .inr (.inr (by rfl)))) (sd_var rfl (by first | exact .inl (by rfl) | exact .inr (.inl (by rfl)) | exact .inr (.inr (by rfl))))))))))
theorem ok_are_integers (E : Kn K mg base) : FnX P w K mg base 2 "are_integers" ["value", "many", "low", "high"] K02.f_are_integers := by
  obtain ⟨fd, F⟩ := E.d_are_integers
  refine ⟨fd, fn_of_body (m := K02.m_are_integers) 5 F sc_are_integers E.sm rfl fun cdv A outer s H E' C => ?_, F.bindsN fun _ _ _ _ _ _ us hl => match us, hl with | [_, _, _, _], _ => rfl⟩
  exact (sb_cons (ss_if (SdW.st (sw_or (st_not (st_val (sd_is .tuple (sd_var rfl (by first | exact .inl (by rfl) | exact .inr (.inl (by rfl)) | exact .inr (.inr (by rfl)))) (by rfl) (E.g_isinstance) tb_isinstance (by rfl) (E.g_tuple) tb_tuple))) (sw_or1 (st_ne C (sd_callB call_lenA ok_len (by rfl) (E.g_len) tb_len (sa_cons (sd_var rfl (by first | exact .inl (by rfl) | exact .inr (.inl (by rfl)) | exact .inr (.inr (by rfl)))) sa_nil)) (sd_var rfl (by first | exact .inl (by rfl) | exact .inr (.inl (by rfl)) | exact .inr (.inr (by rfl))))))))
(sb_one (ss_ret sd_bool))
sb_nil)
(sb_one (ss_ret (sd_callB (cr_all C.calm) ok_all (by rfl) (E.g_all) tb_all (sa_cons (sd_nw (sn_cmp [("item", 4)] C (si_seq (sd_var rfl (by first | exact .inl (by rfl) | exact .inr (.inl (by rfl)) | exact .inr (.inr (by rfl))))) (blkOk_by (by kernel_rfl)) (fun _ _ _ _ _ => (sgw_name (by decide) (C.blk _ _ _ _ _) rfl (by first | exact .inl (by rfl) | exact .inr (by rfl)))) (fun _ _ _ _ _ => sts_nil) (fun _ _ _ _ _ => (sd_callX (C.blk _ _ _ _ _) (ok_is_integer E) (by decide) (by rfl) E.g_is_integer E.k_is_integer (sa_cons (sd_var rfl (by first | exact .inl (by rfl) | exact .inr (.inl (by rfl)) | exact .inr (.inr (by rfl)))) (sa_cons (sd_var rfl (by first | exact .inl (by rfl) | exact .inr (.inl (by rfl)) | exact .inr (.inr (by rfl)))) (sa_cons (sd_var rfl (by first | exact .inl (by rfl) | exact .inr (.inl (by rfl)) | exact .inr (.inr (by rfl)))) sa_nil))))))) sa_nil)))))
theorem ok_is_order (E : Kn K mg base) : FnX P w K mg base 3 "is_order" ["value", "many"] f_is_order := by
  obtain ⟨fd, F⟩ := E.d_is_order
  refine ⟨fd, fn_of_body (m := m_is_order) 2 F sc_is_order E.sm rfl fun cdv A outer s H E' C => ?_, F.bindsN fun _ _ _ _ _ _ us hl => match us, hl with | [_, _], _ => rfl⟩
  exact (sb_one (ss_ret (sd_and (sd_callX C (ok_are_integers E) (by decide) (by rfl) E.g_are_integers E.k_are_integers (sa_cons (sd_var rfl (by first | exact .inl (by rfl) | exact .inr (.inl (by rfl)) | exact .inr (.inr (by rfl)))) (sa_cons (sd_var rfl (by first | exact .inl (by rfl) | exact .inr (.inl (by rfl)) | exact .inr (.inr (by rfl)))) (sa_cons sd_int (sa_cons (sd_sub (sd_var rfl (by first | exact .inl (by rfl) | exact .inr (.inl (by rfl)) | exact .inr (.inr (by rfl)))) sd_int) sa_nil))))) (sd_one (sd_eq C (sd_LSW C (by rfl) (E.g_len) (by rfl) (E.g_set) (sa_cons (sd_var rfl (by first | exact .inl (by rfl) | exact .inr (.inl (by rfl)) | exact .inr (.inr (by rfl)))) sa_nil)) (sd_var rfl (by first | exact .inl (by rfl) | exact .inr (.inl (by rfl)) | exact .inr (.inr (by rfl)))))))))
theorem ok_held_counts (E : Kn K mg base) : FnX P w K mg base 1 "held_counts" ["order"] f_held_counts := by
  obtain ⟨fd, F⟩ := E.d_held_counts
  refine ⟨fd, fn_of_body (m := m_held_counts) 5 F sc_held_counts E.sm rfl fun cdv A outer s H E' C => ?_, F.bindsN fun _ _ _ _ _ _ us hl => match us, hl with | [_], _ => rfl⟩
  exact (sb_cons (ss_parP (sp_own (sn_lstRg C (by rfl) (E.g_list) (sr_1 (by rfl) (E.g_range) (sd_callB call_lenA ok_len (by rfl) (E.g_len) tb_len (sa_cons (sd_var rfl (by first | exact .inl (by rfl) | exact .inr (.inl (by rfl)) | exact .inr (.inr (by rfl)))) sa_nil)))) (sp_own (sn_lst sa_nil) sp_nil)) fun ta h => ps_par C.calm C.nd rfl rfl (by decide) (by rfl) (by rfl) h rfl)
(sb_cons (ss_for C (fun _ _ h => False.elim h) (si_seq (sd_var rfl (by first | exact .inl (by rfl) | exact .inr (.inl (by rfl)) | exact .inr (.inr (by rfl))))) (sg_name C rfl (by first | exact .inl (by rfl) | exact .inr (by rfl)))
(sb_cons (ss_app (sd_callB call_lenA ok_len (by rfl) (E.g_len) tb_len (sa_cons (sd_nw (sn_cmpO [("other", 4)] C rfl (by first | exact .inl (by rfl) | exact .inr (.inl (by rfl)) | exact .inr (.inr (by rfl))) (blkOk_by (by kernel_rfl)) (fun _ _ _ _ _ => (sgw_name (by decide) (C.blk _ _ _ _ _) rfl (by first | exact .inl (by rfl) | exact .inr (by rfl)))) (fun _ _ _ _ _ => (sts_one (st_lt (sd_var rfl (by first | exact .inl (by rfl) | exact .inr (.inl (by rfl)) | exact .inr (.inr (by rfl)))) (sd_var rfl (by first | exact .inl (by rfl) | exact .inr (.inl (by rfl)) | exact .inr (.inr (by rfl))))))) (fun _ _ _ _ _ => (sd_var rfl (by first | exact .inl (by rfl) | exact .inr (.inl (by rfl)) | exact .inr (.inr (by rfl))))))) sa_nil)) rfl (by first | exact .inl (by rfl) | exact .inr (.inl (by rfl)) | exact .inr (.inr (by rfl))))
(sb_one (ss_rem C (sd_var rfl (by first | exact .inl (by rfl) | exact .inr (.inl (by rfl)) | exact .inr (.inr (by rfl)))) rfl (by first | exact .inl (by rfl) | exact .inr (.inl (by rfl)) | exact .inr (.inr (by rfl)))))))
(sb_one (ss_ret (sd_var rfl (by first | exact .inl (by rfl) | exact .inr (.inl (by rfl)) | exact .inr (.inr (by rfl))))))))
theorem ok_order_hold (E : Kn K mg base) : FnXE P w K mg base 4 "order_hold" ["value"] f_order_hold := by
  obtain ⟨fd, F⟩ := E.d_order_hold
  refine FnXE.of_body (k := 3) (m := m_order_hold) 1 (F.bindsN fun _ _ _ _ _ _ us hl => match us, hl with | [_], _ => rfl) F sc_order_hold E.sm rfl fun cdv A outer s H E' C => ?_
  exact (sb_cons (ss_if (SdW.st (sw_or (st_not (st_val (sd_is .tuple (sd_var rfl (by first | exact .inl (by rfl) | exact .inr (.inl (by rfl)) | exact .inr (.inr (by rfl)))) (by rfl) (E.g_isinstance) tb_isinstance (by rfl) (E.g_tuple) tb_tuple))) (sw_or (st_gt (sd_callB call_lenA ok_len (by rfl) (E.g_len) tb_len (sa_cons (sd_var rfl (by first | exact .inl (by rfl) | exact .inr (.inl (by rfl)) | exact .inr (.inr (by rfl)))) sa_nil)) (sd_glob (by rfl) E.c_MAX_LOG)) (sw_or1 (st_not (st_val (sd_callX C (ok_is_order E) (by decide) (by rfl) E.g_is_order E.k_is_order (sa_cons (sd_var rfl (by first | exact .inl (by rfl) | exact .inr (.inl (by rfl)) | exact .inr (.inr (by rfl)))) (sa_cons (sd_callB call_lenA ok_len (by rfl) (E.g_len) tb_len (sa_cons (sd_var rfl (by first | exact .inl (by rfl) | exact .inr (.inl (by rfl)) | exact .inr (.inr (by rfl)))) sa_nil)) sa_nil)))))))))
(sb_one (ss_raiseX C cxE_takes (by decide) E.x_BadOrder (ini_BadOrder E) (by rfl) E.g_BadOrder (sa_cons (sd_var rfl (by first | exact .inl (by rfl) | exact .inr (.inl (by rfl)) | exact .inr (.inr (by rfl)))) sa_nil) (by decide)))
sb_nil)
(sb_one (ss_ret (sd_maxD C (by rfl) (E.g_max) (sd_callX C (ok_held_counts E) (by decide) (by rfl) E.g_held_counts E.k_held_counts (sa_cons (sd_var rfl (by first | exact .inl (by rfl) | exact .inr (.inl (by rfl)) | exact .inr (.inr (by rfl)))) sa_nil)) sd_int))))
theorem ok_come_log (E : Kn K mg base) : FnXE P w K mg base 4 "come_log" ["log", "value"] f_come_log := by
  obtain ⟨fd, F⟩ := E.d_come_log
  refine FnXE.of_body (k := 3) (m := m_come_log) 3 (F.bindsN fun _ _ _ _ _ _ us hl => match us, hl with | [_, _], _ => rfl) F sc_come_log E.sm rfl fun cdv A outer s H E' C => ?_
  exact (sb_cons (ss_if (st_not (st_val (sd_callX C (ok_is_order E) (by decide) (by rfl) E.g_is_order E.k_is_order (sa_cons (sd_var rfl (by first | exact .inl (by rfl) | exact .inr (.inl (by rfl)) | exact .inr (.inr (by rfl)))) (sa_cons (sd_callB call_lenA ok_len (by rfl) (E.g_len) tb_len (sa_cons (sd_var rfl (by first | exact .inl (by rfl) | exact .inr (.inl (by rfl)) | exact .inr (.inr (by rfl)))) sa_nil)) sa_nil)))))
(sb_one (ss_raiseX C cxE_takes (by decide) E.x_BadOrder (ini_BadOrder E) (by rfl) E.g_BadOrder (sa_cons (sd_var rfl (by first | exact .inl (by rfl) | exact .inr (.inl (by rfl)) | exact .inr (.inr (by rfl)))) sa_nil) (by decide)))
sb_nil)
(sb_one (ss_ret (sd_callT call_tuple_of ok_tuple (by rfl) (E.g_tuple) tb_tuple (sa_cons (sd_nw (sn_cmp [("place", 2)] C (si_seq (sd_var rfl (by first | exact .inl (by rfl) | exact .inr (.inl (by rfl)) | exact .inr (.inr (by rfl))))) (blkOk_by (by kernel_rfl)) (fun _ _ _ _ _ => (sgw_name (by decide) (C.blk _ _ _ _ _) rfl (by first | exact .inl (by rfl) | exact .inr (by rfl)))) (fun _ _ _ _ _ => sts_nil) (fun _ _ _ _ _ => (sd_ix (sd_var rfl (by first | exact .inl (by rfl) | exact .inr (.inl (by rfl)) | exact .inr (.inr (by rfl)))) (sd_var rfl (by first | exact .inl (by rfl) | exact .inr (.inl (by rfl)) | exact .inr (.inr (by rfl)))) fun _ _ => rfl)))) sa_nil)))))
theorem ok_law_opened (E : Kn K mg base) : ∃ fd, Fn P w K mg base 1 (He.fAd K ("_law_opened", none)) fd ["_law_script"] (spOpen K) ∧ Binds K fd ["_law_script"] [] := by
  obtain ⟨fd, F⟩ := E.d__law_opened
  refine ⟨fd, fn_mk F sc_law_opened (fun vs H Q E h => ?_) (fun cdv A outer s H vs Q E' hr hgd h => ?_), F.bindsN fun _ _ _ _ _ _ us hl => match us, hl with | [_], _ => rfl⟩
  · obtain ⟨a, ns, rfl, _⟩ := h
    rfl
  · have C : Cok (cxN P w K mg base ["_law_script", "_law_cells", "_law_small", "_law_great", "_law_cell"] "_law_opened" (defScope s_law_opened) _ cdv A outer s H E') 0 := ⟨rfl, sc_law_opened.nd, hr, hgd, E.sm⟩
    obtain ⟨t, pt, ht⟩ : ∃ t, PSs (cxN P w K mg base ["_law_script", "_law_cells", "_law_small", "_law_great", "_law_cell"] "_law_opened" (defScope s_law_opened) (He.fAd K ("_law_opened", none)) cdv A outer s H E') (defBody s_law_opened) t ∧ ∀ vs H Q E, spOpen K vs H Q E → t { nx := fun _ H' => Q .non H', rt := Q } (start ["_law_script", "_law_cells", "_law_small", "_law_great", "_law_cell"] vs) H := open_ok
      (ps_setLc C.calm C.nd rfl (by rfl) (sw_true (by rfl) (by rfl) rfl (by rfl)) (pi_sq (pe_slice sl_list (pe_var rfl (by first | exact .inl (by rfl) | exact .inr (.inl (by rfl)) | exact .inr (.inr (by rfl)))) po_none (po_some pe_int))) (blkOk_by (own := [("_law_cell", 4)]) (by kernel_rfl)) (fun _ _ _ _ _ => (sgw_name (by decide) (C.blk _ _ _ _ _) rfl (by first | exact .inl (by rfl) | exact .inr (by rfl))).pg) (fun _ _ _ _ _ => sts_nil.pts) (fun _ _ _ _ _ => (sd_callB call_abs ok_abs (by rfl) E.g_abs tb_abs (sa_cons (sd_var rfl (by first | exact .inl (by rfl) | exact .inr (.inl (by rfl)) | exact .inr (.inr (by rfl)))) sa_nil)).pe))
      (ss_cmp [("_law_cell", 4)] C rfl (by rfl) (sw_true (by rfl) (by rfl) rfl (by rfl)) (si_seq (sd_var rfl (by first | exact .inl (by rfl) | exact .inr (.inl (by rfl)) | exact .inr (.inr (by rfl))))) (blkOk_by (by kernel_rfl)) (fun _ _ _ _ _ => sgw_name (by decide) (C.blk _ _ _ _ _) rfl (by first | exact .inl (by rfl) | exact .inr (by rfl))) (fun _ _ _ _ _ => sts_one (st_lt (sd_var rfl (by first | exact .inl (by rfl) | exact .inr (.inl (by rfl)) | exact .inr (.inr (by rfl)))) (sd_pow sd_int sd_int))) (fun _ _ _ _ _ => sd_var rfl (by first | exact .inl (by rfl) | exact .inr (.inl (by rfl)) | exact .inr (.inr (by rfl))))) (ss_cmp [("_law_cell", 4)] C rfl (by rfl) (sw_true (by rfl) (by rfl) rfl (by rfl)) (si_seq (sd_var rfl (by first | exact .inl (by rfl) | exact .inr (.inl (by rfl)) | exact .inr (.inr (by rfl))))) (blkOk_by (by kernel_rfl)) (fun _ _ _ _ _ => sgw_name (by decide) (C.blk _ _ _ _ _) rfl (by first | exact .inl (by rfl) | exact .inr (by rfl))) (fun _ _ _ _ _ => sts_one (st_ge (sd_var rfl (by first | exact .inl (by rfl) | exact .inr (.inl (by rfl)) | exact .inr (.inr (by rfl)))) (sd_pow sd_int sd_int))) (fun _ _ _ _ _ => sd_var rfl (by first | exact .inl (by rfl) | exact .inr (.inl (by rfl)) | exact .inr (.inr (by rfl)))))
      (sd_add (sd_var rfl (by first | exact .inl (by rfl) | exact .inr (.inl (by rfl)) | exact .inr (.inr (by rfl)))) (sd_mul (sd_nw (sn_lst (sa_cons sd_int sa_nil))) (sd_callT call_int1 ok_int (by rfl) E.g_int tb_int (sa_cons (sd_eq C (sd_var rfl (by first | exact .inl (by rfl) | exact .inr (.inl (by rfl)) | exact .inr (.inr (by rfl)))) (sd_nw (sn_lst sa_nil))) sa_nil))))
      (fun te h => ps_ret (pe_disp (pps_cons pe_str (pe_var rfl (by first | exact .inl (by rfl) | exact .inr (.inl (by rfl)) | exact .inr (.inr (by rfl)))) (pps_cons pe_str h (pps_cons pe_str pe_int pps_nil))) rfl rfl (by simp) (show 3 ≤ 15 by decide)))
    exact ⟨t, pt, ht vs H Q (fun _ _ _ => False) h⟩
theorem ask_law_tried (E : Kn K mg base) : AskOk P w K mg base 0 "_law_tried" 3 wr_law_tried cl_law_tried := by
  obtain ⟨fd, F⟩ := E.d__law_tried
  refine ⟨["_law_call", "error", "_law_flags"], "_law_call", defArgs s_law_tried, defScope s_law_tried, fd, _, _, _, _, _, "error", 1, F, F.bindsN fun _ _ _ _ _ _ us hl => match us, hl with | [_], _ => rfl, sc_law_tried, rfl, rfl, (by first | exact .inl (by rfl) | exact .inr (.inl (by rfl)) | exact .inr (.inr (by rfl))), .bare, rfl, rfl, ⟨by decide, by decide⟩, fun cdv A outer s H C => ?_⟩
  exact (.cons ⟨(by rfl), rfl, .inl E.g_ServiceError⟩ (tab_cons ⟨_, E.g_BadOrder, E.m_BadOrder_ServiceError⟩ tab_nil)
(sxb_cons (sxs_asg (by decide) C.nd (sx_lst (sxa_cons (sx_is (tabL [("BadOrder", true)]) rfl (by first | exact .inl (by rfl) | exact .inr (.inl (by rfl)) | exact .inr (.inr (by rfl))) (by rfl) E.g_isinstance tb_isinstance (fun _ _ _ => (pe_glob (v := .ref (He.ga K "BadOrder")) (by rfl) E.g_BadOrder rfl)) (.own _) (tab_cons ⟨_, E.g_BadOrder, E.x_BadOrder.e, E.k_BadOrder_BadOrder⟩ tab_nil)) (sxa_cons (sx_is (tabL [("BadOrder", false)]) rfl (by first | exact .inl (by rfl) | exact .inr (.inl (by rfl)) | exact .inr (.inr (by rfl))) (by rfl) E.g_isinstance tb_isinstance (fun _ _ _ => (pe_glob (v := .ref (He.ga K "NoHold")) (by rfl) E.g_NoHold rfl)) (.own _) (tab_cons ⟨_, E.g_BadOrder, E.x_BadOrder.e, E.k_BadOrder_NoHold⟩ tab_nil)) (sxa_cons (sx_is (tabL [("BadOrder", false)]) rfl (by first | exact .inl (by rfl) | exact .inr (.inl (by rfl)) | exact .inr (.inr (by rfl))) (by rfl) E.g_isinstance tb_isinstance (fun _ _ _ => (pe_glob (v := .ref (He.ga K "NoIndex")) (by rfl) E.g_NoIndex rfl)) (.own _) (tab_cons ⟨_, E.g_BadOrder, E.x_BadOrder.e, E.k_BadOrder_NoIndex⟩ tab_nil)) sxa_nil)))) rfl (by first | exact .inl (by rfl) | exact .inr (by rfl)))
(sxb_cons (sxs_asg (by decide) C.nd (sx_add (sx_of fun _ _ _ => (sd_var rfl (by first | exact .inl (by rfl) | exact .inr (.inl (by rfl)) | exact .inr (.inr (by rfl))))) (sx_lst (sxa_cons (sx_is (tabL [("BadOrder", false)]) rfl (by first | exact .inl (by rfl) | exact .inr (.inl (by rfl)) | exact .inr (.inr (by rfl))) (by rfl) E.g_isinstance tb_isinstance (fun _ _ _ => (pe_glob (v := .ref (He.ga K "NoNumber")) (by rfl) E.g_NoNumber rfl)) (.own _) (tab_cons ⟨_, E.g_BadOrder, E.x_BadOrder.e, E.k_BadOrder_NoNumber⟩ tab_nil)) (sxa_cons (sx_is (tabL [("BadOrder", false)]) rfl (by first | exact .inl (by rfl) | exact .inr (.inl (by rfl)) | exact .inr (.inr (by rfl))) (by rfl) E.g_isinstance tb_isinstance (fun _ _ _ => (pe_glob (v := .ref (He.ga K "NoState")) (by rfl) E.g_NoState rfl)) (.own _) (tab_cons ⟨_, E.g_BadOrder, E.x_BadOrder.e, E.k_BadOrder_NoState⟩ tab_nil)) sxa_nil)))) rfl (by first | exact .inl (by rfl) | exact .inr (by rfl)))
(sxb_cons (sxs_if (SXW.st (sxw_or (sxt_of fun _ _ _ => (st_neS C.room.units (sd_countB (sd_var rfl (by first | exact .inl (by rfl) | exact .inr (.inl (by rfl)) | exact .inr (.inr (by rfl)))) sd_bool) sd_int)) (sxw_or1 (sxt_not (sxt_val (sx_is (tabL [("BadOrder", true)]) rfl (by first | exact .inl (by rfl) | exact .inr (.inl (by rfl)) | exact .inr (.inr (by rfl))) (by rfl) E.g_isinstance tb_isinstance (fun _ _ _ => (pe_bltn (v := .ty "ValueError") (by rfl) E.g_ValueError tb_ValueError rfl)) (.ty "ValueError") (tab_cons ⟨_, E.g_BadOrder, E.x_BadOrder.e, E.k_BadOrder_ValueError⟩ tab_nil)))))))
(sxb_one (sxs_ret (sx_lst (sxa_cons (sx_of fun _ _ _ => sd_str) sxa_nil))))
sxb_nil)
(sxb_cons (sxs_if (SXW.st (sxw_or (sxt_val (sx_of fun _ _ _ => (sd_ix (sd_var rfl (by first | exact .inl (by rfl) | exact .inr (.inl (by rfl)) | exact .inr (.inr (by rfl)))) sd_int fun _ _ => rfl))) (sxw_or1 (sxt_val (sx_of fun _ _ _ => (sd_ix (sd_var rfl (by first | exact .inl (by rfl) | exact .inr (.inl (by rfl)) | exact .inr (.inr (by rfl)))) sd_int fun _ _ => rfl))))))
(sxb_one (sxs_ret (sx_if (sxt_val (sx_of fun _ _ _ => (sd_ix (sd_var rfl (by first | exact .inl (by rfl) | exact .inr (.inl (by rfl)) | exact .inr (.inr (by rfl)))) sd_int fun _ _ => rfl))) (sx_lst (sxa_cons (sx_of fun _ _ _ => sd_str) (sxa_cons (sx_fld (inL ["BadOrder"]) rfl (by first | exact .inl (by rfl) | exact .inr (.inl (by rfl)) | exact .inr (.inr (by rfl))) (in_cons ⟨_, E.g_BadOrder, E.x_BadOrder.x, E.x_BadOrder.n "given" (by simp)⟩ in_nil)) sxa_nil))) (sx_lst (sxa_cons (sx_of fun _ _ _ => sd_str) (sxa_cons (sx_fld (inL []) rfl (by first | exact .inl (by rfl) | exact .inr (.inl (by rfl)) | exact .inr (.inr (by rfl))) in_nil) sxa_nil))))))
sxb_nil)
(sxb_cons (sxs_if (sxt_val (sx_of fun _ _ _ => (sd_ix (sd_var rfl (by first | exact .inl (by rfl) | exact .inr (.inl (by rfl)) | exact .inr (.inr (by rfl)))) sd_int fun _ _ => rfl)))
(sxb_one (sxs_ret (sx_lst (sxa_cons (sx_of fun _ _ _ => sd_str) (sxa_cons (sx_fld (inL []) rfl (by first | exact .inl (by rfl) | exact .inr (.inl (by rfl)) | exact .inr (.inr (by rfl))) in_nil) sxa_nil)))))
sxb_nil)
(sxb_one (sxs_ret (sx_if (sxt_val (sx_of fun _ _ _ => (sd_ix (sd_var rfl (by first | exact .inl (by rfl) | exact .inr (.inl (by rfl)) | exact .inr (.inr (by rfl)))) sd_int fun _ _ => rfl))) (sx_lst (sxa_cons (sx_of fun _ _ _ => sd_str) (sxa_cons (sx_fld (inL []) rfl (by first | exact .inl (by rfl) | exact .inr (.inl (by rfl)) | exact .inr (.inr (by rfl))) in_nil) sxa_nil))) (sx_lst (sxa_cons (sx_of fun _ _ _ => sd_str) (sxa_cons (sx_fld (inL []) rfl (by first | exact .inl (by rfl) | exact .inr (.inl (by rfl)) | exact .inr (.inr (by rfl))) in_nil) sxa_nil))))))))))) .nil)
theorem ok_law_draw (E : Kn K mg base) : FnX P w K mg base 1 "_law_draw" ["_law_box", "_law_many"] drawF := by
  obtain ⟨fd, F⟩ := E.d__law_draw
  refine ⟨fd, fn_mk F sc_law_draw (fun vs H Q E h => ?_) (fun cdv A outer s H vs Q E' hr hgd h => ⟨tDraw K, ?_, draw_ok h⟩), F.bindsN fun _ _ _ _ _ _ us hl => match us, hl with | [_, _], _ => rfl⟩
  · obtain ⟨G, as, b, h1, h2, _⟩ := h
    rw [h2.length, h1]
  · have C : Cok (cxN P w K mg base ["_law_box", "_law_many", "_law_great", "_law_digit", "_law_cell", "_law_mixed_here"] "_law_draw" (defScope s_law_draw) _ cdv A outer s H E') 0 := ⟨rfl, sc_law_draw.nd, hr, hgd, E.sm⟩
    refine pss_cons (ps_set C.nd rfl (by first | exact .inl (by rfl) | exact .inr (by rfl)) (pe_dget (room1 C.room) (pe_var rfl (by first | exact .inl (by rfl) | exact .inr (.inl (by rfl)) | exact .inr (.inr (by rfl)))) pe_str fun _ _ => rfl)) (pss_cons (ps_while (fun _ _ h => False.elim h) (pt_cmpR (op_neD C.room.units) (pe_var rfl (by first | exact .inl (by rfl) | exact .inr (.inl (by rfl)) | exact .inr (.inr (by rfl)))) (pe_lst pa_nil) (nomark _)) (pss_cons ?a ?b)) (pss_cons ?c ?d))
    case a => exact ps_if (pt_cmpR op_gt (pe_ix ix_seq (pe_var rfl (by first | exact .inl (by rfl) | exact .inr (.inl (by rfl)) | exact .inr (.inr (by rfl)))) (pe_un un_neg pe_int) fun _ _ => rfl) pe_int (nomark _)) (pss_cons (ps_set C.nd rfl (by first | exact .inl (by rfl) | exact .inr (by rfl)) (pe_op op_modN (pe_callTy call_int1 (by rfl) E.g_int tb_int (pa_cons (pe_ix ix_seq (pe_var rfl (by first | exact .inl (by rfl) | exact .inr (.inl (by rfl)) | exact .inr (.inr (by rfl)))) (pe_un un_neg pe_int) fun _ _ => rfl) pa_nil)) (pe_var rfl (by first | exact .inl (by rfl) | exact .inr (.inl (by rfl)) | exact .inr (.inr (by rfl))))))
       (pss_cons (ps_asg (pe_op op_fdivN (pe_callTy call_int1 (by rfl) E.g_int tb_int (pa_cons (pe_ix ix_seq (pe_var rfl (by first | exact .inl (by rfl) | exact .inr (.inl (by rfl)) | exact .inr (.inr (by rfl)))) (pe_un un_neg pe_int) fun _ _ => rfl) pa_nil)) (pe_var rfl (by first | exact .inl (by rfl) | exact .inr (.inl (by rfl)) | exact .inr (.inr (by rfl))))) (pg_sub (pe_var rfl (by first | exact .inl (by rfl) | exact .inr (.inl (by rfl)) | exact .inr (.inr (by rfl)))) (pe_un un_neg pe_int) set_list)) (pss_one (ps_ret (pe_var rfl (by first | exact .inl (by rfl) | exact .inr (.inl (by rfl)) | exact .inr (.inr (by rfl)))))))) pss_nil
    case b => exact (pss_one (ps_expr (pe_bm0 PySem.F.plainAttrs_list PySem.F.slot_list_pop PySem.F.type_list_pop mt_pop (pe_var rfl (by first | exact .inl (by rfl) | exact .inr (.inl (by rfl)) | exact .inr (.inr (by rfl)))) rfl rfl)))
    case c => exact (ps_dput (room1 C.room) (pe_var rfl (by first | exact .inl (by rfl) | exact .inr (.inl (by rfl)) | exact .inr (.inr (by rfl)))) pe_str (pe_op op_add (pe_dget (room1 C.room) (pe_var rfl (by first | exact .inl (by rfl) | exact .inr (.inl (by rfl)) | exact .inr (.inr (by rfl)))) pe_str fun _ _ => rfl) pe_int) rfl)
    refine (pss_cons (ps_set C.nd rfl (by first | exact .inl (by rfl) | exact .inr (by rfl)) (pe_ix ix_seq (pe_dget (room1 C.room) (pe_var rfl (by first | exact .inl (by rfl) | exact .inr (.inl (by rfl)) | exact .inr (.inr (by rfl)))) pe_str fun _ _ => rfl) (pe_op op_modN (pe_callTy call_int1 (by rfl) E.g_int tb_int (pa_cons (pe_dget (room1 C.room) (pe_var rfl (by first | exact .inl (by rfl) | exact .inr (.inl (by rfl)) | exact .inr (.inr (by rfl)))) pe_str fun _ _ => rfl) pa_nil)) (pe_callB call_len_seq (by rfl) E.g_len tb_len (pa_cons (pe_dget (room1 C.room) (pe_var rfl (by first | exact .inl (by rfl) | exact .inr (.inl (by rfl)) | exact .inr (.inr (by rfl)))) pe_str fun _ _ => rfl) pa_nil))) fun _ _ => rfl)) ?_)
    refine pss_cons (ps_set C.nd rfl (by first | exact .inl (by rfl) | exact .inr (by rfl)) (pe_op op_add (pe_op op_mul (pe_var rfl (by first | exact .inl (by rfl) | exact .inr (.inl (by rfl)) | exact .inr (.inr (by rfl)))) pe_int) (pe_op op_mul (pe_dget (room1 C.room) (pe_var rfl (by first | exact .inl (by rfl) | exact .inr (.inl (by rfl)) | exact .inr (.inr (by rfl)))) pe_str fun _ _ => rfl) pe_int))) ?_
    refine pss_cons (ps_set C.nd rfl (by first | exact .inl (by rfl) | exact .inr (by rfl)) (pe_op op_modN (pe_callTy call_int1 (by rfl) E.g_int tb_int (pa_cons (pe_var rfl (by first | exact .inl (by rfl) | exact .inr (.inl (by rfl)) | exact .inr (.inr (by rfl)))) pa_nil)) pe_int)) ?_
    refine pss_cons (ps_set C.nd rfl (by first | exact .inl (by rfl) | exact .inr (by rfl)) (pe_op op_modN (pe_callTy call_int1 (by rfl) E.g_int tb_int (pa_cons (pe_op op_mul (pe_var rfl (by first | exact .inl (by rfl) | exact .inr (.inl (by rfl)) | exact .inr (.inr (by rfl)))) (pe_op op_add (pe_op op_fdivW (pe_var rfl (by first | exact .inl (by rfl) | exact .inr (.inl (by rfl)) | exact .inr (.inr (by rfl)))) pe_int) pe_int)) pa_nil)) pe_int)) ?_
    exact pss_one (ps_ret (pe_op op_modN (pe_callTy call_int1 (by rfl) E.g_int tb_int (pa_cons (pe_op op_fdivN (pe_var rfl (by first | exact .inl (by rfl) | exact .inr (.inl (by rfl)) | exact .inr (.inr (by rfl)))) pe_int) pa_nil)) (pe_var rfl (by first | exact .inl (by rfl) | exact .inr (.inl (by rfl)) | exact .inr (.inr (by rfl))))))
theorem ok_law_whole (E : Kn K mg base) : FnX P w K mg base 1 "_law_whole" ["_law_value", "_law_low", "_law_high"] K02.f_law_whole := by
  obtain ⟨fd, F⟩ := E.d__law_whole
  refine ⟨fd, fn_of_body (m := K02.m_law_whole) 3 F sc_law_whole E.sm rfl fun cdv A outer s H E' C => ?_, F.bindsN fun _ _ _ _ _ _ us hl => match us, hl with | [_, _, _], _ => rfl⟩
  exact (sb_one (ss_ret (sd_and (sd_is .int (sd_var rfl (by first | exact .inl (by rfl) | exact .inr (.inl (by rfl)) | exact .inr (.inr (by rfl)))) (by rfl) (E.g_isinstance) tb_isinstance (by rfl) (E.g_int) tb_int) (sd_and (sd_not (sd_is .bool (sd_var rfl (by first | exact .inl (by rfl) | exact .inr (.inl (by rfl)) | exact .inr (.inr (by rfl)))) (by rfl) (E.g_isinstance) tb_isinstance (by rfl) (E.g_bool) tb_bool)) (sd_one (sd_chn op_le op_le ok_le ok_le (sd_var rfl (by first | exact .inl (by rfl) | exact .inr (.inl (by rfl)) | exact .inr (.inr (by rfl)))) (sd_var rfl (by first | exact .inl (by rfl) | exact .inr (.inl (by rfl)) | exact .inr (.inr (by rfl)))) (sd_var rfl (by first | exact .inl (by rfl) | exact .inr (.inl (by rfl)) | exact .inr (.inr (by rfl))))))))))
theorem ok_law_is_order (E : Kn K mg base) : FnX P w K mg base 2 "_law_is_order" ["_law_value", "_law_many"] f_law_is_order := by
  obtain ⟨fd, F⟩ := E.d__law_is_order
  refine ⟨fd, fn_of_body (m := m_law_is_order) 3 F sc_law_is_order E.sm rfl fun cdv A outer s H E' C => ?_, F.bindsN fun _ _ _ _ _ _ us hl => match us, hl with | [_, _], _ => rfl⟩
  exact (sb_cons (ss_if (SdW.st (sw_or (st_not (st_val (sd_is .tuple (sd_var rfl (by first | exact .inl (by rfl) | exact .inr (.inl (by rfl)) | exact .inr (.inr (by rfl)))) (by rfl) (E.g_isinstance) tb_isinstance (by rfl) (E.g_tuple) tb_tuple))) (sw_or1 (st_ne C (sd_callB call_lenA ok_len (by rfl) (E.g_len) tb_len (sa_cons (sd_var rfl (by first | exact .inl (by rfl) | exact .inr (.inl (by rfl)) | exact .inr (.inr (by rfl)))) sa_nil)) (sd_var rfl (by first | exact .inl (by rfl) | exact .inr (.inl (by rfl)) | exact .inr (.inr (by rfl))))))))
(sb_one (ss_ret sd_bool))
sb_nil)
(sb_cons (ss_if (st_ne0 C (sd_nw (sn_cmp [("_law_item", 2)] C (si_seq (sd_var rfl (by first | exact .inl (by rfl) | exact .inr (.inl (by rfl)) | exact .inr (.inr (by rfl))))) (blkOk_by (by kernel_rfl)) (fun _ _ _ _ _ => (sgw_name (by decide) (C.blk _ _ _ _ _) rfl (by first | exact .inl (by rfl) | exact .inr (by rfl)))) (fun _ _ _ _ _ => (sts_one (st_not (st_val (sd_callX (C.blk _ _ _ _ _) (ok_law_whole E) (by decide) (by rfl) E.g__law_whole E.k__law_whole (sa_cons (sd_var rfl (by first | exact .inl (by rfl) | exact .inr (.inl (by rfl)) | exact .inr (.inr (by rfl)))) (sa_cons sd_int (sa_cons (sd_sub (sd_var rfl (by first | exact .inl (by rfl) | exact .inr (.inl (by rfl)) | exact .inr (.inr (by rfl)))) sd_int) sa_nil)))))))) (fun _ _ _ _ _ => (sd_var rfl (by first | exact .inl (by rfl) | exact .inr (.inl (by rfl)) | exact .inr (.inr (by rfl))))))) (sd_nw (sn_lst sa_nil)))
(sb_one (ss_ret sd_bool))
sb_nil)
(sb_one (ss_ret (sd_eq C (sd_callB cr_sortedU ok_sortedU (by rfl) (E.g_sorted) tb_sorted (sa_cons (sd_var rfl (by first | exact .inl (by rfl) | exact .inr (.inl (by rfl)) | exact .inr (.inr (by rfl)))) sa_nil)) (sd_nw (sn_lstRg C (by rfl) (E.g_list) (sr_1 (by rfl) (E.g_range) (sd_var rfl (by first | exact .inl (by rfl) | exact .inr (.inl (by rfl)) | exact .inr (.inr (by rfl))))))))))))
theorem ok_law_count (E : Kn K mg base) : FnX P w K mg base 1 "_law_count" ["_law_given"] f_law_count := by
  obtain ⟨fd, F⟩ := E.d__law_count
  refine ⟨fd, fn_of_body (m := m_law_count) 4 F sc_law_count E.sm rfl fun cdv A outer s H E' C => ?_, F.bindsN fun _ _ _ _ _ _ us hl => match us, hl with | [_], _ => rfl⟩
  exact (sb_cons (ss_asg C sd_int rfl (by first | exact .inl (by rfl) | exact .inr (by rfl)))
(sb_cons (ss_for C (fun _ _ h => False.elim h) (si_rg1 (by rfl) (E.g_range) (sd_callB call_lenA ok_len (by rfl) (E.g_len) tb_len (sa_cons (sd_var rfl (by first | exact .inl (by rfl) | exact .inr (.inl (by rfl)) | exact .inr (.inr (by rfl)))) sa_nil))) (sg_name C rfl (by first | exact .inl (by rfl) | exact .inr (by rfl)))
(sb_one (ss_asg C (sd_callB (call_max2 C.calm) ok_max2 (by rfl) (E.g_max) tb_max (sa_cons (sd_var rfl (by first | exact .inl (by rfl) | exact .inr (.inl (by rfl)) | exact .inr (.inr (by rfl)))) (sa_cons (sd_callB call_lenA ok_len (by rfl) (E.g_len) tb_len (sa_cons (sd_nw (sn_cmp [("_law_place", 3)] C (si_seq (sd_slc (sd_var rfl (by first | exact .inl (by rfl) | exact .inr (.inl (by rfl)) | exact .inr (.inr (by rfl)))) (so_some (sd_add (sd_var rfl (by first | exact .inl (by rfl) | exact .inr (.inl (by rfl)) | exact .inr (.inr (by rfl)))) sd_int)) so_none)) (blkOk_by (by kernel_rfl)) (fun _ _ _ _ _ => (sgw_name (by decide) (C.blk _ _ _ _ _) rfl (by first | exact .inl (by rfl) | exact .inr (by rfl)))) (fun _ _ _ _ _ => (sts_one (st_lt (sd_var rfl (by first | exact .inl (by rfl) | exact .inr (.inl (by rfl)) | exact .inr (.inr (by rfl)))) (sd_ix (sd_var rfl (by first | exact .inl (by rfl) | exact .inr (.inl (by rfl)) | exact .inr (.inr (by rfl)))) (sd_var rfl (by first | exact .inl (by rfl) | exact .inr (.inl (by rfl)) | exact .inr (.inr (by rfl)))) fun _ _ => rfl)))) (fun _ _ _ _ _ => sd_int))) sa_nil)) sa_nil))) rfl (by first | exact .inl (by rfl) | exact .inr (by rfl)))))
(sb_one (ss_ret (sd_var rfl (by first | exact .inl (by rfl) | exact .inr (.inl (by rfl)) | exact .inr (.inr (by rfl))))))))
theorem ok_law_one (E : Kn K mg base) : FnX P w K mg base 2 "_law_one" ["_law_box", "_law_items"] K02.f_law_one := by
  obtain ⟨fd, F⟩ := E.d__law_one
  refine ⟨fd, fn_of_body (m := K02.m_law_one) 2 F sc_law_one E.sm rfl fun cdv A outer s H E' C => ?_, F.bindsN fun _ _ _ _ _ _ us hl => match us, hl with | [_, _], _ => rfl⟩
  exact (sb_one (ss_ret (sd_ix (sd_var rfl (by first | exact .inl (by rfl) | exact .inr (.inl (by rfl)) | exact .inr (.inr (by rfl)))) (sd_callX C (ok_law_draw E) (by decide) (by rfl) E.g__law_draw E.k__law_draw (sa_cons (sd_var rfl (by first | exact .inl (by rfl) | exact .inr (.inl (by rfl)) | exact .inr (.inr (by rfl)))) (sa_cons (sd_callB call_lenA ok_len (by rfl) (E.g_len) tb_len (sa_cons (sd_var rfl (by first | exact .inl (by rfl) | exact .inr (.inl (by rfl)) | exact .inr (.inr (by rfl)))) sa_nil)) sa_nil))) fun _ _ => rfl)))
theorem ok_law_odd (E : Kn K mg base) : FnX P w K mg base 3 "_law_odd" ["_law_box"] f_law_odd := by
  obtain ⟨fd, F⟩ := E.d__law_odd
  refine ⟨fd, fn_of_body (m := m_law_odd) 2 F sc_law_odd E.sm rfl fun cdv A outer s H E' C => ?_, F.bindsN fun _ _ _ _ _ _ us hl => match us, hl with | [_], _ => rfl⟩
  exact (sb_cons (ss_asg C (sd_nw (sn_lst (sa_cons sd_none (sa_cons sd_bool (sa_cons sd_bool (sa_cons (sd_neg sd_int) (sa_cons sd_int (sa_cons sd_int (sa_cons sd_int (sa_cons sd_int (sa_cons sd_int (sa_cons (sd_pow sd_int sd_int) (sa_cons sd_str (sa_cons sd_str (sa_cons sd_str (sa_cons (sd_tup sa_nil) (sa_cons (sd_tup (sa_cons sd_int sa_nil)) (sa_cons (sd_tup (sa_cons sd_int (sa_cons sd_int sa_nil))) (sa_cons (sd_tup (sa_cons sd_int (sa_cons sd_int sa_nil))) (sa_cons (sd_tup (sa_cons (sd_tup sa_nil) sa_nil)) (sa_cons (sd_nw (sn_lst sa_nil)) (sa_cons (sd_nw (sn_lst (sa_cons sd_int sa_nil))) sa_nil)))))))))))))))))))))) rfl (by first | exact .inl (by rfl) | exact .inr (by rfl)))
(sb_one (ss_ret (sd_callX C (ok_law_one E) (by decide) (by rfl) E.g__law_one E.k__law_one (sa_cons (sd_var rfl (by first | exact .inl (by rfl) | exact .inr (.inl (by rfl)) | exact .inr (.inr (by rfl)))) (sa_cons (sd_add (sd_var rfl (by first | exact .inl (by rfl) | exact .inr (.inl (by rfl)) | exact .inr (.inr (by rfl)))) (sd_nw (sn_lst (sa_cons (sd_nw sn_dict0) (sa_cons (sd_tup (sa_cons sd_str sa_nil)) (sa_cons (sd_tup (sa_cons sd_str (sa_cons (sd_tup sa_nil) sa_nil))) (sa_cons (sd_tup (sa_cons (sd_tup (sa_cons sd_int (sa_cons sd_int sa_nil))) (sa_cons (sd_tup (sa_cons sd_int (sa_cons sd_int sa_nil))) sa_nil))) (sa_cons (sd_tup (sa_cons sd_int (sa_cons sd_int (sa_cons sd_int (sa_cons (sd_tup sa_nil) sa_nil))))) (sa_cons (sd_tup (sa_cons sd_int (sa_cons sd_int (sa_cons sd_int sa_nil)))) sa_nil))))))))) sa_nil))))))
theorem okr_law_bent (E : Kn K mg base) : ∀ n, FnX P w K mg base (3 + 1 + n) "_law_bent" ["_law_box", "_law_value"] (fr_law_bent n)
  | 0 => by
    obtain ⟨fd, F⟩ := E.d__law_bent
    exact ⟨fd, fn_stuck, F.bindsN fun _ _ _ _ _ _ us hl => match us, hl with | [_, _], _ => rfl⟩
  | n + 1 => by
    have ih := okr_law_bent E n
    obtain ⟨fd, F⟩ := E.d__law_bent
    refine ⟨fd, fn_of_body (k := 3 + 1 + n) (m := m_law_bent (fr_law_bent n)) 6 F sc_law_bent E.sm rfl fun cdv A outer s H E' C => ?_, F.bindsN fun _ _ _ _ _ _ us hl => match us, hl with | [_, _], _ => rfl⟩
    exact (sb_cons (ss_cmpD [("_law_k", 5)] C rfl (by rfl) (sw_cmp (by rfl) (by rfl) rfl (by rfl)) (si_rg1 (by rfl) (E.g_range) (sd_callB call_lenA ok_len (by rfl) (E.g_len) tb_len (sa_cons (sd_var rfl (by first | exact .inl (by rfl) | exact .inr (.inl (by rfl)) | exact .inr (.inr (by rfl)))) sa_nil))) (blkOk_by (by kernel_rfl)) (fun _ _ _ _ _ => (sgw_name (by decide) (C.blk _ _ _ _ _) rfl (by first | exact .inl (by rfl) | exact .inr (by rfl)))) (fun _ _ _ _ _ => (sts_one (st_val (sd_is .tuple (sd_ix (sd_var rfl (by first | exact .inl (by rfl) | exact .inr (.inl (by rfl)) | exact .inr (.inr (by rfl)))) (sd_var rfl (by first | exact .inl (by rfl) | exact .inr (.inl (by rfl)) | exact .inr (.inr (by rfl)))) fun _ _ => rfl) (by rfl) (E.g_isinstance) tb_isinstance (by rfl) (E.g_tuple) tb_tuple)))) (fun _ _ _ _ _ => (sd_var rfl (by first | exact .inl (by rfl) | exact .inr (.inl (by rfl)) | exact .inr (.inr (by rfl))))))
(sb_cons (ss_if (SdW.st (sw_and (st_ne0 C (sd_var rfl (by first | exact .inl (by rfl) | exact .inr (.inl (by rfl)) | exact .inr (.inr (by rfl)))) (sd_nw (sn_lst sa_nil))) (sw_and1 (st_gt (sd_callX C (ok_law_draw E) (by omega) (by rfl) E.g__law_draw E.k__law_draw (sa_cons (sd_var rfl (by first | exact .inl (by rfl) | exact .inr (.inl (by rfl)) | exact .inr (.inr (by rfl)))) (sa_cons sd_int sa_nil))) sd_int))))
(sb_cons (ss_asg C (sd_ix (sd_var rfl (by first | exact .inl (by rfl) | exact .inr (.inl (by rfl)) | exact .inr (.inr (by rfl)))) (sd_callX C (ok_law_draw E) (by omega) (by rfl) E.g__law_draw E.k__law_draw (sa_cons (sd_var rfl (by first | exact .inl (by rfl) | exact .inr (.inl (by rfl)) | exact .inr (.inr (by rfl)))) (sa_cons (sd_callB call_lenA ok_len (by rfl) (E.g_len) tb_len (sa_cons (sd_var rfl (by first | exact .inl (by rfl) | exact .inr (.inl (by rfl)) | exact .inr (.inr (by rfl)))) sa_nil)) sa_nil))) fun _ _ => rfl) rfl (by first | exact .inl (by rfl) | exact .inr (by rfl)))
(sb_one (ss_ret (sd_add (sd_add (sd_slc (sd_var rfl (by first | exact .inl (by rfl) | exact .inr (.inl (by rfl)) | exact .inr (.inr (by rfl)))) so_none (so_some (sd_var rfl (by first | exact .inl (by rfl) | exact .inr (.inl (by rfl)) | exact .inr (.inr (by rfl)))))) (sd_tup (sa_cons (sd_callX C ih (by omega) (by rfl) E.g__law_bent E.k__law_bent (sa_cons (sd_var rfl (by first | exact .inl (by rfl) | exact .inr (.inl (by rfl)) | exact .inr (.inr (by rfl)))) (sa_cons (sd_ix (sd_var rfl (by first | exact .inl (by rfl) | exact .inr (.inl (by rfl)) | exact .inr (.inr (by rfl)))) (sd_var rfl (by first | exact .inl (by rfl) | exact .inr (.inl (by rfl)) | exact .inr (.inr (by rfl)))) fun _ _ => rfl) sa_nil))) sa_nil))) (sd_slc (sd_var rfl (by first | exact .inl (by rfl) | exact .inr (.inl (by rfl)) | exact .inr (.inr (by rfl)))) (so_some (sd_add (sd_var rfl (by first | exact .inl (by rfl) | exact .inr (.inl (by rfl)) | exact .inr (.inr (by rfl)))) sd_int)) so_none)))))
sb_nil)
(sb_cons (ss_asg C (sd_callX C (ok_law_draw E) (by omega) (by rfl) E.g__law_draw E.k__law_draw (sa_cons (sd_var rfl (by first | exact .inl (by rfl) | exact .inr (.inl (by rfl)) | exact .inr (.inr (by rfl)))) (sa_cons (sd_add (sd_callB call_lenA ok_len (by rfl) (E.g_len) tb_len (sa_cons (sd_var rfl (by first | exact .inl (by rfl) | exact .inr (.inl (by rfl)) | exact .inr (.inr (by rfl)))) sa_nil)) sd_int) sa_nil))) rfl (by first | exact .inl (by rfl) | exact .inr (by rfl)))
(sb_cons (ss_asg C (sd_nw (sn_lst (sa_cons (sd_add (sd_add (sd_slc (sd_var rfl (by first | exact .inl (by rfl) | exact .inr (.inl (by rfl)) | exact .inr (.inr (by rfl)))) so_none (so_some (sd_var rfl (by first | exact .inl (by rfl) | exact .inr (.inl (by rfl)) | exact .inr (.inr (by rfl)))))) (sd_tup (sa_cons (sd_callX C (ok_law_odd E) (by omega) (by rfl) E.g__law_odd E.k__law_odd (sa_cons (sd_var rfl (by first | exact .inl (by rfl) | exact .inr (.inl (by rfl)) | exact .inr (.inr (by rfl)))) sa_nil)) sa_nil))) (sd_slc (sd_var rfl (by first | exact .inl (by rfl) | exact .inr (.inl (by rfl)) | exact .inr (.inr (by rfl)))) (so_some (sd_add (sd_var rfl (by first | exact .inl (by rfl) | exact .inr (.inl (by rfl)) | exact .inr (.inr (by rfl)))) sd_int)) so_none)) (sa_cons (sd_add (sd_slc (sd_var rfl (by first | exact .inl (by rfl) | exact .inr (.inl (by rfl)) | exact .inr (.inr (by rfl)))) so_none (so_some (sd_var rfl (by first | exact .inl (by rfl) | exact .inr (.inl (by rfl)) | exact .inr (.inr (by rfl)))))) (sd_slc (sd_var rfl (by first | exact .inl (by rfl) | exact .inr (.inl (by rfl)) | exact .inr (.inr (by rfl)))) (so_some (sd_add (sd_var rfl (by first | exact .inl (by rfl) | exact .inr (.inl (by rfl)) | exact .inr (.inr (by rfl)))) sd_int)) so_none)) (sa_cons (sd_back (sd_var rfl (by first | exact .inl (by rfl) | exact .inr (.inl (by rfl)) | exact .inr (.inr (by rfl))))) (sa_cons (sd_callT call_list_of ok_list (by rfl) (E.g_list) tb_list (sa_cons (sd_var rfl (by first | exact .inl (by rfl) | exact .inr (.inl (by rfl)) | exact .inr (.inr (by rfl)))) sa_nil)) sa_nil)))))) rfl (by first | exact .inl (by rfl) | exact .inr (by rfl)))
(sb_one (ss_ret (sd_callX C (ok_law_one E) (by omega) (by rfl) E.g__law_one E.k__law_one (sa_cons (sd_var rfl (by first | exact .inl (by rfl) | exact .inr (.inl (by rfl)) | exact .inr (.inr (by rfl)))) (sa_cons (sd_add (sd_var rfl (by first | exact .inl (by rfl) | exact .inr (.inl (by rfl)) | exact .inr (.inr (by rfl)))) (sd_nw (sn_lst (sa_cons (sd_add (sd_add (sd_slc (sd_var rfl (by first | exact .inl (by rfl) | exact .inr (.inl (by rfl)) | exact .inr (.inr (by rfl)))) so_none (so_some (sd_var rfl (by first | exact .inl (by rfl) | exact .inr (.inl (by rfl)) | exact .inr (.inr (by rfl)))))) (sd_tup (sa_cons (sd_callX C (ok_law_odd E) (by omega) (by rfl) E.g__law_odd E.k__law_odd (sa_cons (sd_var rfl (by first | exact .inl (by rfl) | exact .inr (.inl (by rfl)) | exact .inr (.inr (by rfl)))) sa_nil)) sa_nil))) (sd_slc (sd_var rfl (by first | exact .inl (by rfl) | exact .inr (.inl (by rfl)) | exact .inr (.inr (by rfl)))) (so_some (sd_var rfl (by first | exact .inl (by rfl) | exact .inr (.inl (by rfl)) | exact .inr (.inr (by rfl))))) so_none)) (sa_cons (sd_add (sd_var rfl (by first | exact .inl (by rfl) | exact .inr (.inl (by rfl)) | exact .inr (.inr (by rfl)))) (sd_slc (sd_var rfl (by first | exact .inl (by rfl) | exact .inr (.inl (by rfl)) | exact .inr (.inr (by rfl)))) (so_some (sd_neg sd_int)) so_none)) sa_nil))))) sa_nil)))))))))
theorem ok_law_bent (E : Kn K mg base) : FnX P w K mg base 16 "_law_bent" ["_law_box", "_law_value"] f_law_bent := okr_law_bent E 12
theorem ok_law_mixed (E : Kn K mg base) : FnX P w K mg base 2 "_law_mixed" ["_law_box", "_law_items"] f_law_mixed := by
  obtain ⟨fd, F⟩ := E.d__law_mixed
  refine ⟨fd, fn_of_body (m := m_law_mixed) 4 F sc_law_mixed E.sm rfl fun cdv A outer s H E' C => ?_, F.bindsN fun _ _ _ _ _ _ us hl => match us, hl with | [_, _], _ => rfl⟩
  exact (sb_cons (ss_asgN C (sn_list (by rfl) (E.g_list) tb_list (sa_cons (sd_var rfl (by first | exact .inl (by rfl) | exact .inr (.inl (by rfl)) | exact .inr (.inr (by rfl)))) sa_nil)) rfl (by first | exact .inl (by rfl) | exact .inr (by rfl)))
(sb_one (ss_ret (sd_nw (sn_cmp [("_law_item", 3)] C (si_seq (sd_var rfl (by first | exact .inl (by rfl) | exact .inr (.inl (by rfl)) | exact .inr (.inr (by rfl))))) (blkOk_by (by kernel_rfl)) (fun _ _ _ _ _ => (sgw_name (by decide) (C.blk _ _ _ _ _) rfl (by first | exact .inl (by rfl) | exact .inr (by rfl)))) (fun _ _ _ _ _ => sts_nil) (fun _ _ _ _ _ => (sd_popA (sd_callX (C.blk _ _ _ _ _) (ok_law_draw E) (by decide) (by rfl) E.g__law_draw E.k__law_draw (sa_cons (sd_var rfl (by first | exact .inl (by rfl) | exact .inr (.inl (by rfl)) | exact .inr (.inr (by rfl)))) (sa_cons (sd_callB call_lenA ok_len (by rfl) (E.g_len) tb_len (sa_cons (sd_var rfl (by first | exact .inl (by rfl) | exact .inr (.inl (by rfl)) | exact .inr (.inr (by rfl)))) sa_nil)) sa_nil))) rfl (by first | exact .inl (by rfl) | exact .inr (.inl (by rfl)) | exact .inr (.inr (by rfl))))))))))
theorem ok_law_values (E : Kn K mg base) : FnX P w K mg base 17 "_law_values" ["_law_box", "_law_many"] f_law_values := by
  obtain ⟨fd, F⟩ := E.d__law_values
  refine ⟨fd, fn_of_body (m := m_law_values) 6 F sc_law_values E.sm rfl fun cdv A outer s H E' C => ?_, F.bindsN fun _ _ _ _ _ _ us hl => match us, hl with | [_, _], _ => rfl⟩
  exact (sb_cons (ss_asg C (sd_callT call_tuple_of ok_tuple (by rfl) (E.g_tuple) tb_tuple (sa_cons (sd_callX C (ok_law_mixed E) (by decide) (by rfl) E.g__law_mixed E.k__law_mixed (sa_cons (sd_var rfl (by first | exact .inl (by rfl) | exact .inr (.inl (by rfl)) | exact .inr (.inr (by rfl)))) (sa_cons (sd_nw (sn_lstRg C (by rfl) (E.g_list) (sr_1 (by rfl) (E.g_range) (sd_var rfl (by first | exact .inl (by rfl) | exact .inr (.inl (by rfl)) | exact .inr (.inr (by rfl))))))) sa_nil))) sa_nil)) rfl (by first | exact .inl (by rfl) | exact .inr (by rfl)))
(sb_cons (ss_asg C (sd_callX C (ok_law_draw E) (by decide) (by rfl) E.g__law_draw E.k__law_draw (sa_cons (sd_var rfl (by first | exact .inl (by rfl) | exact .inr (.inl (by rfl)) | exact .inr (.inr (by rfl)))) (sa_cons (sd_add (sd_var rfl (by first | exact .inl (by rfl) | exact .inr (.inl (by rfl)) | exact .inr (.inr (by rfl)))) sd_int) sa_nil))) rfl (by first | exact .inl (by rfl) | exact .inr (by rfl)))
(sb_cons (ss_asg C (sd_nw (sn_lst (sa_cons (sd_var rfl (by first | exact .inl (by rfl) | exact .inr (.inl (by rfl)) | exact .inr (.inr (by rfl)))) (sa_cons (sd_tupRg C (by rfl) (E.g_tuple) (sr_1 (by rfl) (E.g_range) (sd_var rfl (by first | exact .inl (by rfl) | exact .inr (.inl (by rfl)) | exact .inr (.inr (by rfl)))))) (sa_cons (sd_back (sd_var rfl (by first | exact .inl (by rfl) | exact .inr (.inl (by rfl)) | exact .inr (.inr (by rfl))))) (sa_cons (sd_slc (sd_var rfl (by first | exact .inl (by rfl) | exact .inr (.inl (by rfl)) | exact .inr (.inr (by rfl)))) (so_some sd_int) so_none) (sa_cons (sd_add (sd_var rfl (by first | exact .inl (by rfl) | exact .inr (.inl (by rfl)) | exact .inr (.inr (by rfl)))) (sd_tup (sa_cons (sd_var rfl (by first | exact .inl (by rfl) | exact .inr (.inl (by rfl)) | exact .inr (.inr (by rfl)))) sa_nil))) (sa_cons (sd_callT call_list_of ok_list (by rfl) (E.g_list) tb_list (sa_cons (sd_var rfl (by first | exact .inl (by rfl) | exact .inr (.inl (by rfl)) | exact .inr (.inr (by rfl)))) sa_nil)) (sa_cons (sd_add (sd_var rfl (by first | exact .inl (by rfl) | exact .inr (.inl (by rfl)) | exact .inr (.inr (by rfl)))) (sd_slc (sd_var rfl (by first | exact .inl (by rfl) | exact .inr (.inl (by rfl)) | exact .inr (.inr (by rfl)))) so_none (so_some sd_int))) sa_nil))))))))) rfl (by first | exact .inl (by rfl) | exact .inr (by rfl)))
(sb_cons (ss_asg C (sd_add (sd_var rfl (by first | exact .inl (by rfl) | exact .inr (.inl (by rfl)) | exact .inr (.inr (by rfl)))) (sd_nw (sn_lst (sa_cons (sd_add (sd_add (sd_slc (sd_var rfl (by first | exact .inl (by rfl) | exact .inr (.inl (by rfl)) | exact .inr (.inr (by rfl)))) so_none (so_some (sd_var rfl (by first | exact .inl (by rfl) | exact .inr (.inl (by rfl)) | exact .inr (.inr (by rfl)))))) (sd_tup (sa_cons (sd_var rfl (by first | exact .inl (by rfl) | exact .inr (.inl (by rfl)) | exact .inr (.inr (by rfl)))) sa_nil))) (sd_slc (sd_var rfl (by first | exact .inl (by rfl) | exact .inr (.inl (by rfl)) | exact .inr (.inr (by rfl)))) (so_some (sd_add (sd_var rfl (by first | exact .inl (by rfl) | exact .inr (.inl (by rfl)) | exact .inr (.inr (by rfl)))) sd_int)) so_none)) (sa_cons (sd_add (sd_add (sd_slc (sd_var rfl (by first | exact .inl (by rfl) | exact .inr (.inl (by rfl)) | exact .inr (.inr (by rfl)))) so_none (so_some (sd_var rfl (by first | exact .inl (by rfl) | exact .inr (.inl (by rfl)) | exact .inr (.inr (by rfl)))))) (sd_tup (sa_cons (sd_neg sd_int) sa_nil))) (sd_slc (sd_var rfl (by first | exact .inl (by rfl) | exact .inr (.inl (by rfl)) | exact .inr (.inr (by rfl)))) (so_some (sd_add (sd_var rfl (by first | exact .inl (by rfl) | exact .inr (.inl (by rfl)) | exact .inr (.inr (by rfl)))) sd_int)) so_none)) (sa_cons (sd_callX C (ok_law_odd E) (by decide) (by rfl) E.g__law_odd E.k__law_odd (sa_cons (sd_var rfl (by first | exact .inl (by rfl) | exact .inr (.inl (by rfl)) | exact .inr (.inr (by rfl)))) sa_nil)) sa_nil)))))) rfl (by first | exact .inl (by rfl) | exact .inr (by rfl)))
(sb_cons (ss_asg C (sd_add (sd_var rfl (by first | exact .inl (by rfl) | exact .inr (.inl (by rfl)) | exact .inr (.inr (by rfl)))) (sd_nw (sn_lst (sa_cons (sd_add (sd_add (sd_slc (sd_var rfl (by first | exact .inl (by rfl) | exact .inr (.inl (by rfl)) | exact .inr (.inr (by rfl)))) so_none (so_some (sd_var rfl (by first | exact .inl (by rfl) | exact .inr (.inl (by rfl)) | exact .inr (.inr (by rfl)))))) (sd_slc (sd_var rfl (by first | exact .inl (by rfl) | exact .inr (.inl (by rfl)) | exact .inr (.inr (by rfl)))) so_none (so_some sd_int))) (sd_slc (sd_var rfl (by first | exact .inl (by rfl) | exact .inr (.inl (by rfl)) | exact .inr (.inr (by rfl)))) (so_some (sd_add (sd_var rfl (by first | exact .inl (by rfl) | exact .inr (.inl (by rfl)) | exact .inr (.inr (by rfl)))) sd_int)) so_none)) (sa_cons (sd_add (sd_add (sd_slc (sd_var rfl (by first | exact .inl (by rfl) | exact .inr (.inl (by rfl)) | exact .inr (.inr (by rfl)))) so_none (so_some (sd_var rfl (by first | exact .inl (by rfl) | exact .inr (.inl (by rfl)) | exact .inr (.inr (by rfl)))))) (sd_tup (sa_cons sd_none sa_nil))) (sd_slc (sd_var rfl (by first | exact .inl (by rfl) | exact .inr (.inl (by rfl)) | exact .inr (.inr (by rfl)))) (so_some (sd_var rfl (by first | exact .inl (by rfl) | exact .inr (.inl (by rfl)) | exact .inr (.inr (by rfl))))) so_none)) (sa_cons (sd_callX C (ok_law_bent E) (by omega) (by rfl) E.g__law_bent E.k__law_bent (sa_cons (sd_var rfl (by first | exact .inl (by rfl) | exact .inr (.inl (by rfl)) | exact .inr (.inr (by rfl)))) (sa_cons (sd_var rfl (by first | exact .inl (by rfl) | exact .inr (.inl (by rfl)) | exact .inr (.inr (by rfl)))) sa_nil))) sa_nil)))))) rfl (by first | exact .inl (by rfl) | exact .inr (by rfl)))
(sb_one (ss_ret (sd_add (sd_var rfl (by first | exact .inl (by rfl) | exact .inr (.inl (by rfl)) | exact .inr (.inr (by rfl)))) (sd_nw (sn_lst (sa_cons (sd_callT call_tuple_of ok_tuple (by rfl) (E.g_tuple) tb_tuple (sa_cons (sd_nw (sn_cmp [("_law_place", 5)] C (si_seq (sd_var rfl (by first | exact .inl (by rfl) | exact .inr (.inl (by rfl)) | exact .inr (.inr (by rfl))))) (blkOk_by (by kernel_rfl)) (fun _ _ _ _ _ => (sgw_name (by decide) (C.blk _ _ _ _ _) rfl (by first | exact .inl (by rfl) | exact .inr (by rfl)))) (fun _ _ _ _ _ => sts_nil) (fun _ _ _ _ _ => (sd_if (st_lt (sd_var rfl (by first | exact .inl (by rfl) | exact .inr (.inl (by rfl)) | exact .inr (.inr (by rfl)))) sd_int) (sd_callT call_bool1 ok_bool (by rfl) (E.g_bool) tb_bool (sa_cons (sd_var rfl (by first | exact .inl (by rfl) | exact .inr (.inl (by rfl)) | exact .inr (.inr (by rfl)))) sa_nil)) (sd_var rfl (by first | exact .inl (by rfl) | exact .inr (.inl (by rfl)) | exact .inr (.inr (by rfl)))))))) sa_nil)) (sa_cons (sd_callX C (ok_law_odd E) (by decide) (by rfl) E.g__law_odd E.k__law_odd (sa_cons (sd_var rfl (by first | exact .inl (by rfl) | exact .inr (.inl (by rfl)) | exact .inr (.inr (by rfl)))) sa_nil)) sa_nil))))))))))))
theorem ok_law_right (E : Kn K mg base) : FnX P w K mg base 18 "_law_right" ["_law_box", "_law_many"] f_law_right := by
  obtain ⟨fd, F⟩ := E.d__law_right
  refine ⟨fd, fn_of_bodyC (k := 17) (m := m_law_right) 10 F sc_law_right E.sm rfl fun cdv hcd A outer s H E' C => ?_, F.bindsN fun _ _ _ _ _ _ us hl => match us, hl with | [_, _], _ => rfl⟩
  obtain rfl := code_at F E.t__law_right hcd
  exact (sb_cons (ss_tg (sd_tup (sa_cons (sd_callT call_tuple_of ok_tuple (by rfl) (E.g_tuple) tb_tuple (sa_cons (sd_nw (sn_cmp [("_law_k", 7)] C (si_rg1 (by rfl) (E.g_range) (sd_var rfl (by first | exact .inl (by rfl) | exact .inr (.inl (by rfl)) | exact .inr (.inr (by rfl))))) (blkOk_by (by kernel_rfl)) (fun _ _ _ _ _ => (sgw_name (by decide) (C.blk _ _ _ _ _) rfl (by first | exact .inl (by rfl) | exact .inr (by rfl)))) (fun _ _ _ _ _ => sts_nil) (fun _ _ _ _ _ => (sd_callX (C.blk _ _ _ _ _) (ok_law_draw E) (by decide) (by rfl) E.g__law_draw E.k__law_draw (sa_cons (sd_var rfl (by first | exact .inl (by rfl) | exact .inr (.inl (by rfl)) | exact .inr (.inr (by rfl)))) (sa_cons sd_int sa_nil)))))) sa_nil)) (sa_cons sd_none sa_nil))) (sg_tup C (sgs_cons (sg_name C rfl (by first | exact .inl (by rfl) | exact .inr (by rfl))) (sgs_cons (sg_name C rfl (by first | exact .inl (by rfl) | exact .inr (by rfl))) sgs_nil))))
(sb_cons (ss_for C (fun _ _ h => False.elim h) (si_seq (sd_callX C (ok_law_values E) (by decide) (by rfl) E.g__law_values E.k__law_values (sa_cons (sd_var rfl (by first | exact .inl (by rfl) | exact .inr (.inl (by rfl)) | exact .inr (.inr (by rfl)))) (sa_cons (sd_var rfl (by first | exact .inl (by rfl) | exact .inr (.inl (by rfl)) | exact .inr (.inr (by rfl)))) sa_nil)))) (sg_name C rfl (by first | exact .inl (by rfl) | exact .inr (by rfl)))
(sb_cons (ss_asg C (sd_callB (call_repr C.sok (room66 C.room)) ok_repr (by rfl) (E.g_repr) tb_repr (sa_cons (sd_nw (sn_lst (sa_cons (sd_var rfl (by first | exact .inl (by rfl) | exact .inr (.inl (by rfl)) | exact .inr (.inr (by rfl)))) (sa_cons (sd_var rfl (by first | exact .inl (by rfl) | exact .inr (.inl (by rfl)) | exact .inr (.inr (by rfl)))) sa_nil)))) sa_nil)) rfl (by first | exact .inl (by rfl) | exact .inr (by rfl)))
(sb_cons (ss_asg C (sd_if (st_val (sd_is .tuple (sd_var rfl (by first | exact .inl (by rfl) | exact .inr (.inl (by rfl)) | exact .inr (.inr (by rfl)))) (by rfl) (E.g_isinstance) tb_isinstance (by rfl) (E.g_tuple) tb_tuple)) (sd_callB call_lenA ok_len (by rfl) (E.g_len) tb_len (sa_cons (sd_var rfl (by first | exact .inl (by rfl) | exact .inr (.inl (by rfl)) | exact .inr (.inr (by rfl)))) sa_nil)) sd_int) rfl (by first | exact .inl (by rfl) | exact .inr (by rfl)))
(sb_cons (ss_asg C (sd_if (st_val (sd_callX C (ok_law_is_order E) (by decide) (by rfl) E.g__law_is_order E.k__law_is_order (sa_cons (sd_var rfl (by first | exact .inl (by rfl) | exact .inr (.inl (by rfl)) | exact .inr (.inr (by rfl)))) (sa_cons (sd_var rfl (by first | exact .inl (by rfl) | exact .inr (.inl (by rfl)) | exact .inr (.inr (by rfl)))) sa_nil)))) (sd_callX C (ok_law_count E) (by decide) (by rfl) E.g__law_count E.k__law_count (sa_cons (sd_var rfl (by first | exact .inl (by rfl) | exact .inr (.inl (by rfl)) | exact .inr (.inr (by rfl)))) sa_nil)) (sd_nw (sn_lst (sa_cons sd_str (sa_cons (sd_var rfl (by first | exact .inl (by rfl) | exact .inr (.inl (by rfl)) | exact .inr (.inr (by rfl)))) sa_nil))))) rfl (by first | exact .inl (by rfl) | exact .inr (by rfl)))
(sb_cons (ss_if (st_ne C (sd_callB (call_repr C.sok (room66 C.room)) ok_repr (by rfl) (E.g_repr) tb_repr (sa_cons (sd_nw (sn_cmp [("_law_again", 8)] C (si_rg1 (by rfl) (E.g_range) sd_int) (blkOk_by (by kernel_rfl)) (fun _ _ _ _ _ => (sgw_name (by decide) (C.blk _ _ _ _ _) rfl (by first | exact .inl (by rfl) | exact .inr (by rfl)))) (fun _ _ _ _ _ => sts_nil) (fun _ _ _ _ _ => (sd_ask (C.blk _ _ _ _ _) (ask_law_tried E) (by decide) (by decide) (by rfl) E.g__law_tried E.k__law_tried E.b__law_right rfl t_in_law_right t_one_law_right (LamX.lamS_by (by kernel_rfl)) rfl (fun _ _ _ _ _ => rfl) (fun _ _ _ _ _ _ _ CL tk' => (sd_callXE CL tk' (ok_order_hold E) (by decide) (by rfl) E.g_order_hold E.k_order_hold (sa_cons (sd_var rfl (by first | exact .inl (by rfl) | exact .inr (.inl (by rfl)) | exact .inr (.inr (by rfl)))) sa_nil))))))) sa_nil)) (sd_callB (call_repr C.sok (room66 C.room)) ok_repr (by rfl) (E.g_repr) tb_repr (sa_cons (sd_nw (sn_lst (sa_cons (sd_var rfl (by first | exact .inl (by rfl) | exact .inr (.inl (by rfl)) | exact .inr (.inr (by rfl)))) (sa_cons (sd_var rfl (by first | exact .inl (by rfl) | exact .inr (.inl (by rfl)) | exact .inr (.inr (by rfl)))) sa_nil)))) sa_nil)))
(sb_one (ss_ret sd_bool))
sb_nil)
(sb_cons (ss_asg C (sd_nw (sn_lst (sa_cons sd_str (sa_cons (sd_var rfl (by first | exact .inl (by rfl) | exact .inr (.inl (by rfl)) | exact .inr (.inr (by rfl)))) sa_nil)))) rfl (by first | exact .inl (by rfl) | exact .inr (by rfl)))
(sb_cons (ss_if (st_val (sd_callX C (ok_law_is_order E) (by decide) (by rfl) E.g__law_is_order E.k__law_is_order (sa_cons (sd_var rfl (by first | exact .inl (by rfl) | exact .inr (.inl (by rfl)) | exact .inr (.inr (by rfl)))) (sa_cons (sd_var rfl (by first | exact .inl (by rfl) | exact .inr (.inl (by rfl)) | exact .inr (.inr (by rfl)))) sa_nil))))
(sb_one (ss_asg C (sd_callT call_tuple_of ok_tuple (by rfl) (E.g_tuple) tb_tuple (sa_cons (sd_nw (sn_cmp [("_law_place", 9)] C (si_seq (sd_var rfl (by first | exact .inl (by rfl) | exact .inr (.inl (by rfl)) | exact .inr (.inr (by rfl))))) (blkOk_by (by kernel_rfl)) (fun _ _ _ _ _ => (sgw_name (by decide) (C.blk _ _ _ _ _) rfl (by first | exact .inl (by rfl) | exact .inr (by rfl)))) (fun _ _ _ _ _ => sts_nil) (fun _ _ _ _ _ => (sd_ix (sd_var rfl (by first | exact .inl (by rfl) | exact .inr (.inl (by rfl)) | exact .inr (.inr (by rfl)))) (sd_var rfl (by first | exact .inl (by rfl) | exact .inr (.inl (by rfl)) | exact .inr (.inr (by rfl)))) fun _ _ => rfl)))) sa_nil)) rfl (by first | exact .inl (by rfl) | exact .inr (by rfl))))
sb_nil)
(sb_one (ss_if (SdW.st (sw_or (st_ne C (sd_callB (call_repr C.sok (room66 C.room)) ok_repr (by rfl) (E.g_repr) tb_repr (sa_cons (sd_ask C (ask_law_tried E) (by decide) (by decide) (by rfl) E.g__law_tried E.k__law_tried E.b__law_right rfl t_in_law_right t_one_law_right (LamX.lamS_by (by kernel_rfl)) rfl (fun _ _ _ _ _ => rfl) (fun _ _ _ _ _ _ _ CL tk' => (sd_callXE CL tk' (ok_come_log E) (by decide) (by rfl) E.g_come_log E.k_come_log (sa_cons (sd_var rfl (by first | exact .inl (by rfl) | exact .inr (.inl (by rfl)) | exact .inr (.inr (by rfl)))) (sa_cons (sd_var rfl (by first | exact .inl (by rfl) | exact .inr (.inl (by rfl)) | exact .inr (.inr (by rfl)))) sa_nil))))) sa_nil)) (sd_callB (call_repr C.sok (room66 C.room)) ok_repr (by rfl) (E.g_repr) tb_repr (sa_cons (sd_var rfl (by first | exact .inl (by rfl) | exact .inr (.inl (by rfl)) | exact .inr (.inr (by rfl)))) sa_nil))) (sw_or1 (st_ne C (sd_callB (call_repr C.sok (room66 C.room)) ok_repr (by rfl) (E.g_repr) tb_repr (sa_cons (sd_nw (sn_lst (sa_cons (sd_var rfl (by first | exact .inl (by rfl) | exact .inr (.inl (by rfl)) | exact .inr (.inr (by rfl)))) (sa_cons (sd_var rfl (by first | exact .inl (by rfl) | exact .inr (.inl (by rfl)) | exact .inr (.inr (by rfl)))) sa_nil)))) sa_nil)) (sd_var rfl (by first | exact .inl (by rfl) | exact .inr (.inl (by rfl)) | exact .inr (.inr (by rfl))))))))
(sb_one (ss_ret sd_bool))
sb_nil)))))))))
(sb_one (ss_ret sd_bool))))
theorem ok_law {fd : FuncData} (F : FunD K "law" "law" (defArgs s_law) (defBody s_law) (defScope s_law) [] [] (He.fAd K ("law", none)) fd) (E : Kn K mg base) (hp : ∀ ns : List Int, ns.length ≤ 63 → pw m_law (lawS 5 ns) (fun f _ => f = .rt (.bool true)) fun _ => False) :
    Fn P w K mg base 19 (He.fAd K ("law", none)) fd ["_law_script"] (spLaw K) := by
  obtain ⟨fo, FO, BO⟩ := ok_law_opened (P := P) (w := w) E
  refine fn_lawC (ok := fun ns b => b = boxOf ns) 5 F sc_law E.sm rfl (by decide) (fun cdv _ A outer s H E' C => (ps_set C.nd rfl (by first | exact .inl (by rfl) | exact .inr (by rfl)) (pe_callN C FO (by decide) (by rfl) E.g__law_opened E.k__law_opened BO (pa_cons (pe_var rfl (by first | exact .inl (by rfl) | exact .inr (.inl (by rfl)) | exact .inr (.inr (by rfl)))) pa_nil)))) (fun cdv hcd A outer s H E' C => ?_) (fun ns bx hl e => by subst e; exact hp ns hl)
  obtain rfl := code_at F E.t_law hcd
  exact (sb_cons (ss_for C (fun _ _ h => False.elim h) (si_rg1 (by rfl) (E.g_range) sd_int) (sg_name C rfl (by first | exact .inl (by rfl) | exact .inr (by rfl)))
(sb_one (ss_if (st_not (st_val (sd_callX C (ok_law_right E) (by decide) (by rfl) E.g__law_right E.k__law_right (sa_cons (sd_var rfl (by first | exact .inl (by rfl) | exact .inr (.inl (by rfl)) | exact .inr (.inr (by rfl)))) (sa_cons (sd_ix (sd_nw (sn_lst (sa_cons sd_int (sa_cons sd_int (sa_cons sd_int (sa_cons sd_int (sa_cons sd_int (sa_cons sd_int (sa_cons sd_int (sa_cons sd_int (sa_cons sd_int (sa_cons sd_int (sa_cons sd_int (sa_cons sd_int sa_nil)))))))))))))) (sd_var rfl (by first | exact .inl (by rfl) | exact .inr (.inl (by rfl)) | exact .inr (.inr (by rfl)))) fun _ _ => rfl) sa_nil)))))
(sb_one (ss_ret sd_bool))
sb_nil)))
(sb_cons (ss_asg C (sd_add (sd_tupRg C (by rfl) (E.g_tuple) (sr_2 (by rfl) (E.g_range) sd_int sd_int)) (sd_tup (sa_cons sd_int sa_nil))) rfl (by first | exact .inl (by rfl) | exact .inr (by rfl)))
(sb_cons (ss_if (st_ne C (sd_nw (sn_lst (sa_cons (sd_callN (ps := ["value"]) (F := f_order_hold) C (ok_order_hold E) (by decide) (by rfl) E.g_order_hold E.k_order_hold (sa_cons (sd_var rfl (by first | exact .inl (by rfl) | exact .inr (.inl (by rfl)) | exact .inr (.inr (by rfl)))) sa_nil)) (sa_cons (sd_callN (ps := ["value"]) (F := f_order_hold) C (ok_order_hold E) (by decide) (by rfl) E.g_order_hold E.k_order_hold (sa_cons (sd_back (sd_var rfl (by first | exact .inl (by rfl) | exact .inr (.inl (by rfl)) | exact .inr (.inr (by rfl))))) sa_nil)) (sa_cons (sd_callN (ps := ["value"]) (F := f_order_hold) C (ok_order_hold E) (by decide) (by rfl) E.g_order_hold E.k_order_hold (sa_cons (sd_tup sa_nil) sa_nil)) sa_nil))))) (sd_nw (sn_lst (sa_cons sd_int (sa_cons sd_int (sa_cons sd_int sa_nil))))))
(sb_one (ss_ret sd_bool))
sb_nil)
(sb_cons (ss_if (st_ne C (sd_callN (ps := ["value"]) (F := f_order_hold) C (ok_order_hold E) (by decide) (by rfl) E.g_order_hold E.k_order_hold (sa_cons (sd_add (sd_tupRg C (by rfl) (E.g_tuple) (sr_1 (by rfl) (E.g_range) sd_int)) (sd_tup (sa_cons sd_int (sa_cons sd_int sa_nil)))) sa_nil)) sd_int)
(sb_one (ss_ret sd_bool))
sb_nil)
(sb_cons (ss_for C (fun _ _ h => False.elim h) (si_seq (sd_nw (sn_lst (sa_cons (sd_tupRg C (by rfl) (E.g_tuple) (sr_1 (by rfl) (E.g_range) sd_int)) (sa_cons (sd_add (sd_tupRg C (by rfl) (E.g_tuple) (sr_1 (by rfl) (E.g_range) sd_int)) (sd_tup (sa_cons sd_int sa_nil))) (sa_cons (sd_add (sd_tupRg C (by rfl) (E.g_tuple) (sr_1 (by rfl) (E.g_range) sd_int)) (sd_tup (sa_cons sd_int sa_nil))) (sa_cons (sd_add (sd_tupRg C (by rfl) (E.g_tuple) (sr_1 (by rfl) (E.g_range) sd_int)) (sd_tup (sa_cons sd_bool sa_nil))) sa_nil))))))) (sg_name C rfl (by first | exact .inl (by rfl) | exact .inr (by rfl)))
(sb_one (ss_if (st_ne C (sd_callB (call_repr C.sok (room66 C.room)) ok_repr (by rfl) (E.g_repr) tb_repr (sa_cons (sd_ask C (ask_law_tried E) (by decide) (by decide) (by rfl) E.g__law_tried E.k__law_tried E.b_law rfl t_in_law t_one_law (LamX.lamS_by (by kernel_rfl)) rfl (fun _ _ _ _ _ => rfl) (fun _ _ _ _ _ _ _ CL tk' => (sd_callXE CL tk' (ok_order_hold E) (by decide) (by rfl) E.g_order_hold E.k_order_hold (sa_cons (sd_var rfl (by first | exact .inl (by rfl) | exact .inr (.inl (by rfl)) | exact .inr (.inr (by rfl)))) sa_nil)))) sa_nil)) (sd_callB (call_repr C.sok (room66 C.room)) ok_repr (by rfl) (E.g_repr) tb_repr (sa_cons (sd_nw (sn_lst (sa_cons sd_str (sa_cons (sd_var rfl (by first | exact .inl (by rfl) | exact .inr (.inl (by rfl)) | exact .inr (.inr (by rfl)))) sa_nil)))) sa_nil)))
(sb_one (ss_ret sd_bool))
sb_nil)))
(sb_one (ss_ret (sd_eq C (sd_callN (ps := ["log", "value"]) (F := f_come_log) C (ok_come_log E) (by decide) (by rfl) E.g_come_log E.k_come_log (sa_cons (sd_add (sd_rep (sd_tup (sa_cons sd_int sa_nil)) sd_int) (sd_tup (sa_cons sd_int sa_nil))) (sa_cons (sd_add (sd_tup (sa_cons sd_int sa_nil)) (sd_tupRg C (by rfl) (E.g_tuple) (sr_1 (by rfl) (E.g_range) sd_int))) sa_nil))) (sd_add (sd_tup (sa_cons sd_int sa_nil)) (sd_rep (sd_tup (sa_cons sd_int sa_nil)) sd_int))))))))))
end
def names0 : List Str := ["MAX_LOG", "ServiceError", "BadOrder", "NoHold", "NoIndex", "NoNumber", "NoState", "is_integer", "are_integers", "is_order", "held_counts", "order_hold", "come_log", "_law_opened", "_law_draw", "_law_one", "_law_whole", "_law_bent", "_law_odd", "_law_mixed", "_law_tried", "_law_is_order", "_law_count", "_law_values", "_law_right"]
def names : List Str := names0
abbrev R : PySem.W.OpenRow := PySem.W.OpenLaw.row PySem.Challenge.rw_twicesafe_k51_orders_and_their_holds
theorem run (w : World) : HandSHeadRun.RunEq R (PySem.W.view R.prog [29]) (hookL 4 fa fn ex tf cs) (obL 4 fa fn ex tf) 4000 names w := by
  intro os
  kernel_rfl
theorem facts {w : World} {K : PySem.W.Frag} {h : Heap} {mg : Str → Option Value} {f : Addr} (hp : ∀ ns : List Int, ns.length ≤ 63 → pw m_law (lawS 5 ns) (fun f _ => f = .rt (.bool true)) fun _ => False)
    (X : K.In h) (c : He.SaysD fa fn K) (cx : ex K = true) (ct : tf.map (He.cT K) = cs) (G : h.Ns mainGlobals mg) (hf : mg ("law" : Str) = some (.ref f)) :
    ∃ fd : FuncData, (∀ (s : Shared) (u : Value), BindsTo s fd ⟨[u], []⟩ [(("_law_script" : Str), u)]) ∧
        ∀ base : Heap, (SmP base) → (∀ p ∈ cs, LamX.TabB base mg p.1 p.2) → Fn pg w K mg base 19 f fd ["_law_script"] (spLaw K) := by
  obtain ⟨fd, F⟩ := c.def_ 18 (d := d_law) rfl
  have e := hf.symm.trans (He.glo_ok X G (c.fact 18 (f := .glo "law") rfl))
  cases e
  have b := FunD.bindsA (ps := ["_law_script"]) F fun _ _ _ _ _ _ us hl => match us, hl with | [_], _ => rfl
  refine ⟨fd, fun s v => b s [v] rfl, fun base sm tb => ?_⟩
  exact ok_law (P := pg) (w := w) F (kn X G c cx sm ct tb) hp
end K51
open K51 PySem PySem.W PySem.Calls PyProof.Rows TW in
theorem K51.holds (hp : ∀ ns : List Int, ns.length ≤ 63 → pw m_law (lawS 5 ns) (fun f _ => f = .rt (.bool true)) fun _ => False) : PySem.Challenge.rw_twicesafe_k51_orders_and_their_holds.Holds := by
  w_on; o_law
  refine HandSHeadRun.head_any (r := OpenLaw.row PySem.Challenge.rw_twicesafe_k51_orders_and_their_holds) (q := view (OpenLaw.row PySem.Challenge.rw_twicesafe_k51_orders_and_their_holds).prog [29]) (H := hookL 4 fa fn ex tf cs) (ob := obL 4 fa fn ex tf) (M := 4000) (loose := names) (d := HandSHeadRun.topDef (OpenLaw.row PySem.Challenge.rw_twicesafe_k51_orders_and_their_holds).prog 29) (kwd := []) obL_eq
    (by kernel_rfl) (fun s => by kernel_rfl) K51.run (by kernel_rfl) (by kernel_rfl) (by kernel_rfl) (by rfl) (by first | assumption | decide +kernel) (by decide +kernel) ⟨rfl, rfl, rfl, rfl, rfl, by decide +kernel⟩ ?hw ?hc
  case hw => w_witness2
  case hc =>
    refine walk_lawL (l := PySem.Challenge.rw_twicesafe_k51_orders_and_their_holds) (j := 4) (fa := fa) (fn := fn) (ex := ex) (tf := tf) (cs := cs) 19 rfl (by kernel_rfl) ⟨rfl, by decide, by decide⟩ (by decide) ?_
    intro w mg f h K X c cx ct G hmg
    exact facts hp X c cx ct G (by
      have e : (HandSHeadRun.topDef (OpenLaw.row PySem.Challenge.rw_twicesafe_k51_orders_and_their_holds).prog 29).name = ("law" : PySem.Str) := by kernel_rfl
      rw [← e]
      exact hmg)
theorem PySem.Challenge.cw_twicesafe_k51_orders_and_their_holds_holds : PySem.Challenge.rw_twicesafe_k51_orders_and_their_holds.Holds :=
  K51.holds K51.hp
