import PyProof.Rows.All
import HandS.ForMost
import HandS.Walk
import HandS.Zip
import HandS.Lambda
import HandS.HeadHook4
import KE.DataEq
import HandS.TupAny
import HandS.Wide
import HandS.Style
import HandS.IsInst
import HandS.SortInts
import HandS.Defaults
import KE.GoesEnum
import KE.GoesMore
import HandS.Deep
import HandS.Head2
import HandS.HeadHook2
import HandS.Conv
import HandS.Iter
import HandS.SetFor
import HandS.More
import HandS.Strs
import HandS.SortRule
import HandS.SetBool
import KE.KDictDisplayH
import HandS.TupLen
import HandS.DictComp
import HandS.Finally
import KE.KDictPairs
import PyProof.WalksMore
import PyProof.WalkInts
import PyProof.Rows.TupIter
import HandS.TryOnly
import KE.SortKeyHeap
import PyProof.ReprRoads
import PyProof.ReprLen
import HandS.Nested
import HandS.EndTab
import HandS.HeadEnd
import PyProof.Rows.StrJoinMade
import HandS.TupMul
import KE.KDictCopyH
import KE.SortData
import PyProof.CallFns
import PyProof.CallStr
import PyProof.Rows.IntBool
import PySem.Challenge.RW_shoalmates_k01_seas_and_standings
import Wide.All
import OpenK.AllK
import Wide.FinOn
import KE.KStateDown
import Lean
import HandS.Base
import HandS.Call
import HandS.Ends
import HandS.Words
import HandS.WordsExc
import HandS.Head0
import HandS.Head1
import HandS.HeadHook1
import HandS.HeadHook3
set_option Elab.async false
set_option linter.all false
set_option maxRecDepth 100000
set_option maxHeartbeats 0
namespace LW
open PySem PySem.Spec PyProof.Rows L2
def top (i : Nat) : Stmt := PySem.Challenge.pw_shoalmates_k01_seas_and_standings.main.body.getD i (.Pass ⟨0, 0, 0, 0⟩)
abbrev s_is_number : Stmt := top 1
abbrev s_is_count : Stmt := top 2
abbrev s_is_sea : Stmt := top 4
abbrev s_are_ships : Stmt := top 5
abbrev s_is_standing : Stmt := top 6
abbrev s_law_cell_at : Stmt := top 8
abbrev s_law_box : Stmt := top 9
abbrev s_law_take : Stmt := top 10
abbrev s_law_of : Stmt := top 11
abbrev s_law_same : Stmt := top 12
abbrev s_law_sea : Stmt := top 13
abbrev s_law_lot : Stmt := top 14
abbrev s_law_is_count : Stmt := top 15
abbrev s_law_sea_due : Stmt := top 16
abbrev s_law_lot_due : Stmt := top 17
abbrev s_law_odd : Stmt := top 18
abbrev s_law_bent : Stmt := top 19
abbrev s_law_right : Stmt := top 20
abbrev s_law : Stmt := top 21
def d_is_number : He.DefD := ⟨("is_number", none), "is_number", "is_number", defArgs s_is_number, defBody s_is_number, defScope s_is_number, [], []⟩
def d_is_count : He.DefD := ⟨("is_count", none), "is_count", "is_count", defArgs s_is_count, defBody s_is_count, defScope s_is_count, [], []⟩
def d_is_sea : He.DefD := ⟨("is_sea", none), "is_sea", "is_sea", defArgs s_is_sea, defBody s_is_sea, defScope s_is_sea, [], []⟩
def d_are_ships : He.DefD := ⟨("are_ships", none), "are_ships", "are_ships", defArgs s_are_ships, defBody s_are_ships, defScope s_are_ships, [], []⟩
def d_is_standing : He.DefD := ⟨("is_standing", none), "is_standing", "is_standing", defArgs s_is_standing, defBody s_is_standing, defScope s_is_standing, [], []⟩
def d_law_cell_at : He.DefD := ⟨("_law_cell_at", none), "_law_cell_at", "_law_cell_at", defArgs s_law_cell_at, defBody s_law_cell_at, defScope s_law_cell_at, [], []⟩
def d_law_box : He.DefD := ⟨("_law_box", none), "_law_box", "_law_box", defArgs s_law_box, defBody s_law_box, defScope s_law_box, [], []⟩
def d_law_take : He.DefD := ⟨("_law_take", none), "_law_take", "_law_take", defArgs s_law_take, defBody s_law_take, defScope s_law_take, [], []⟩
def d_law_of : He.DefD := ⟨("_law_of", none), "_law_of", "_law_of", defArgs s_law_of, defBody s_law_of, defScope s_law_of, [], []⟩
def d_law_same : He.DefD := ⟨("_law_same", none), "_law_same", "_law_same", defArgs s_law_same, defBody s_law_same, defScope s_law_same, [], []⟩
def d_law_sea : He.DefD := ⟨("_law_sea", none), "_law_sea", "_law_sea", defArgs s_law_sea, defBody s_law_sea, defScope s_law_sea, [], []⟩
def d_law_lot : He.DefD := ⟨("_law_lot", none), "_law_lot", "_law_lot", defArgs s_law_lot, defBody s_law_lot, defScope s_law_lot, [], []⟩
def d_law_is_count : He.DefD := ⟨("_law_is_count", none), "_law_is_count", "_law_is_count", defArgs s_law_is_count, defBody s_law_is_count, defScope s_law_is_count, [], []⟩
def d_law_sea_due : He.DefD := ⟨("_law_sea_due", none), "_law_sea_due", "_law_sea_due", defArgs s_law_sea_due, defBody s_law_sea_due, defScope s_law_sea_due, [], []⟩
def d_law_lot_due : He.DefD := ⟨("_law_lot_due", none), "_law_lot_due", "_law_lot_due", defArgs s_law_lot_due, defBody s_law_lot_due, defScope s_law_lot_due, [], []⟩
def d_law_odd : He.DefD := ⟨("_law_odd", none), "_law_odd", "_law_odd", defArgs s_law_odd, defBody s_law_odd, defScope s_law_odd, [], []⟩
def d_law_bent : He.DefD := ⟨("_law_bent", none), "_law_bent", "_law_bent", defArgs s_law_bent, defBody s_law_bent, defScope s_law_bent, [], []⟩
def d_law_right : He.DefD := ⟨("_law_right", none), "_law_right", "_law_right", defArgs s_law_right, defBody s_law_right, defScope s_law_right, [], []⟩
def d_law : He.DefD := ⟨("law", none), "law", "law", defArgs s_law, defBody s_law, defScope s_law, [], []⟩
def fn : List He.DefD := ([d_is_number, d_is_count, d_is_sea, d_are_ships, d_is_standing, d_law_cell_at, d_law_box, d_law_take, d_law_of, d_law_same, d_law_sea, d_law_lot, d_law_is_count, d_law_sea_due, d_law_lot_due, d_law_odd, d_law_bent, d_law_right, d_law] : List He.DefD)
def fa : List He.Fa := ([.glo "is_number", .glo "is_count", .glo "is_sea", .glo "are_ships", .glo "is_standing", .glo "_law_cell_at", .glo "_law_box", .glo "_law_take", .glo "_law_of", .glo "_law_same", .glo "_law_sea", .glo "_law_lot", .glo "_law_is_count", .glo "_law_sea_due", .glo "_law_lot_due", .glo "_law_odd", .glo "_law_bent", .glo "_law_right", .glo "law", .free "len", .free "range", .free "all", .free "any", .free "min", .free "max", .free "abs", .free "sum", .free "int", .free "bool", .free "str"] : List He.Fa) ++ ([.free "list", .free "tuple", .free "sorted", .free "enumerate", .free "zip", .free "isinstance", .free "set", .free "repr", .free "dict"] : List He.Fa)
abbrev R : PySem.W.OpenRow := PySem.W.OpenLaw.row PySem.Challenge.rw_shoalmates_k01_seas_and_standings
abbrev hk : PySem.W.Hook := He.hookD 6 fa fn
def ob (s : PySem.W.SharedT) : He.AlD := He.obsDG 6 fa fn (HandSHeadRun.getT s)
theorem ob_eq (s : PySem.W.SharedT) : ob s = hk.obs s.abs := He.obsDG_eq (HandSHeadRun.getT_eq s)
def others : List PySem.Str := (["is_number", "is_count", "is_sea", "are_ships", "is_standing", "_law_cell_at", "_law_box", "_law_take", "_law_of", "_law_same", "_law_sea", "_law_lot", "_law_is_count", "_law_sea_due", "_law_lot_due", "_law_odd", "_law_bent", "_law_right"] : List PySem.Str)
theorem run (w : World) : HandSHeadRun.RunEq R (PySem.W.view R.prog [21]) hk ob 4000 others w := by
  intro os
  kernel_rfl
end LW
namespace DL
open PySem L2
/-- data, with no address -/
inductive D where
  | non | bl (b : Bool) | int (i : Int) | str (s : Str)
  | lst (xs : List D) | tup (xs : List D)
  | dT (kvs : List (List Int × D)) | dK (kvs : List (Key × D))
  | obj (C : Str) (fs : List (Str × D))
  | scr (ns : List Int)
/-- a slot: empty, a value, an object of one's own that may be changed, one that was handed in and may be changed -/
inductive Sl where
  | e | v (d : D) | o (d : D) | p (d : D)
abbrev Env := List Sl
structure Gc where
  K : PySem.W.Frag
  mg : Str → Option Value
def StL (G : Gc) (a : Addr) (xs : List V) : Prop :=
  ∃ (o : Obj) (its : Array Value) (n : Nat), G.K.lookup a = some o ∧ o.cls = .type "list" ∧ o.dict = none ∧ o.data = .seq its n ∧ its.size ≤ sizeLine ∧ Vals xs its.toList
def FL (H : Hp) (W : List Addr) (a : Addr) (xs : List V) : Prop := a ∉ W ∧ Rd H a (.lst xs)
def FT (G : Gc) (H : Hp) (W : List Addr) (a : Addr) (xs : List V) : Prop := H a = some (.tup xs)
mutual
def Rp (G : Gc) (H : Hp) (W : List Addr) : D → V → Prop
  | .non, v => v = .non
  | .bl b, v => v = .bl b
  | .int i, v => v = .int i
  | .str s, v => v = .str s
  | .lst ds, v => ∃ a vs, v = .ref a ∧ FL H W a vs ∧ ds.length ≤ sizeLine ∧ RpAll G H W ds vs
  | .tup ds, v => ∃ a vs, v = .ref a ∧ FT G H W a vs ∧ ds.length ≤ sizeLine ∧ RpAll G H W ds vs
  | .dT kvs, v => ∃ a vs, v = .ref a ∧ a ∉ W ∧ H a = some (.dT vs) ∧ kvs.length ≤ sizeLine ∧ RpT G H W kvs vs
  | .dK kvs, v => ∃ a vs, v = .ref a ∧ a ∉ W ∧ H a = some (.dK vs) ∧ kvs.length ≤ sizeLine ∧ RpK G H W kvs vs
  | .obj C fs, v => ∃ a Ca dx vs, v = .ref a ∧ a ∉ W ∧ H a = some (.ins Ca dx vs) ∧ G.mg C = some (.ref Ca) ∧ fs.length ≤ 900 ∧ RpF G H W fs vs
  | .scr ns, v => ∃ a, v = .ref a ∧ ((a ∉ W ∧ Rd H a (.lst (ns.map V.int))) ∨ StL G a (ns.map V.int)) ∧ ns.length ≤ sizeLine
def RpAll (G : Gc) (H : Hp) (W : List Addr) : List D → List V → Prop
  | [], vs => vs = []
  | d :: ds, vs => ∃ x xs, vs = x :: xs ∧ Rp G H W d x ∧ RpAll G H W ds xs
def RpT (G : Gc) (H : Hp) (W : List Addr) : List (List Int × D) → List (List Key × V) → Prop
  | [], vs => vs = []
  | (k, d) :: ds, vs => ∃ x xs, vs = (k.map Sum.inl, x) :: xs ∧ Rp G H W d x ∧ RpT G H W ds xs
def RpK (G : Gc) (H : Hp) (W : List Addr) : List (Key × D) → List (Key × V) → Prop
  | [], vs => vs = []
  | (k, d) :: ds, vs => ∃ x xs, vs = (k, x) :: xs ∧ Rp G H W d x ∧ RpK G H W ds xs
def RpF (G : Gc) (H : Hp) (W : List Addr) : List (Str × D) → List (Str × V) → Prop
  | [], vs => vs = []
  | (k, d) :: ds, vs => ∃ x xs, vs = (k, x) :: xs ∧ Rp G H W d x ∧ RpF G H W ds xs
end
/-- an object of one's own -/
def Ow (G : Gc) (H : Hp) (W : List Addr) : D → Addr → Prop
  | .lst ds, a => ∃ vs, H a = some (.lst vs) ∧ ds.length ≤ sizeLine ∧ RpAll G H W ds vs
  | .dT kvs, a => ∃ vs, H a = some (.dT vs) ∧ kvs.length ≤ sizeLine ∧ RpT G H W kvs vs
  | .dK kvs, a => ∃ vs, H a = some (.dK vs) ∧ kvs.length ≤ sizeLine ∧ RpK G H W kvs vs
  | .obj C fs, a => ∃ Ca dx vs, H a = some (.ins Ca dx vs) ∧ G.mg C = some (.ref Ca) ∧ fs.length ≤ 900 ∧ RpF G H W fs vs
  | _, _ => False
def isTp : HO → Bool
  | .tup _ => true
  | _ => false
def isTb : HO → Bool
  | .tbl _ => true
  | _ => false
def isEx : HO → Bool
  | .ext _ => true
  | _ => false
/-- the tables of code objects of those defs of the program that make lambdas, and the lambdas' names -/
class TabC where
  T : List (Addr × Str)
variable [TabC]
def TabsG (H : Hp) : Prop := LamX.Tabs TabC.T H
/-- what stands stays, but for W; tuples stay always; tables of code objects may grow -/
structure Fm (W : List Addr) (H H' : Hp) : Prop where
  k : ∀ b x, (b ∈ W → isTp x = true) → isTb x = false → H b = some x → H' b = some x
  tb : TabsG H → TabsG H'
  tk : ∀ b ps, H b = some (.tbl ps) → ∃ ps', H' b = some (.tbl ps')
instance {W : List Addr} {H H' : Hp} : CoeFun (Fm W H H') (fun _ => ∀ b x, (b ∈ W → isTp x = true) → H b = some x → (nt : isTb x = false := by rfl) → H' b = some x) := ⟨fun f b x n e nt => f.k b x n nt e⟩
omit [TabC] in
theorem tab_keep {H H' : Hp} {P : Addr} {q : Str} (t : LamX.TabS H P q) (k : ∀ b x, (isTb x = true ∨ ∃ q, x = LamX.CodeO b q) → H b = some x → H' b = some x) : LamX.TabS H' P q := by
  obtain ⟨ps, h1, h2, h3⟩ := t
  refine ⟨ps, k _ _ (.inl rfl) h1, h2, fun pos cv hc => ?_⟩
  obtain ⟨c, e1, e2⟩ := h3 pos cv hc
  exact ⟨c, e1, k _ _ (.inr ⟨_, rfl⟩) e2⟩
/-- nothing is changed but plain objects -/
theorem Fm.ofX {W : List Addr} {H H' : Hp} (k : ∀ b x, (b ∈ W → isTp x = true) → H b = some x → H' b = some x) (hW : ∀ b x, b ∈ W → H b = some x → isTb x = false ∧ ∀ q, x ≠ LamX.CodeO b q) : Fm W H H' :=
  ⟨fun b x n _ e => k b x n e, fun t p hp => tab_keep (t p hp) fun b x c e => k b x (fun z => by
    have h := hW b x z e
    rcases c with c | ⟨q, c⟩
    · rw [h.1] at c; cases c
    · exact (h.2 q c).elim) e, fun b ps e => ⟨ps, k b _ (fun z => by have := (hW b _ z e).1; cases this) e⟩⟩
theorem Fm.of {W : List Addr} {H H' : Hp} (k : ∀ b x, (b ∈ W → isTp x = true) → H b = some x → H' b = some x) (hW : ∀ b x, b ∈ W → H b = some x → isTb x = false ∧ isEx x = false) : Fm W H H' :=
  Fm.ofX k fun b x hb e => ⟨(hW b x hb e).1, fun q z => by have := (hW b x hb e).2; rw [z] at this; cases this⟩
theorem Fm.of0 {H H' : Hp} (k : ∀ b x, H b = some x → H' b = some x) : Fm [] H H' := Fm.of (fun b x _ e => k b x e) fun _ _ h => nomatch h
theorem Fm.out {W : List Addr} {H H' : Hp} (f : Fm W H H') {b : Addr} {x : HO} (n : b ∉ W) (e : H b = some x) (nt : isTb x = false := by rfl) : H' b = some x := f b x (fun z => (n z).elim) e nt
theorem Fm.refl (W : List Addr) (H : Hp) : Fm W H H := ⟨fun _ _ _ _ e => e, fun t => t, fun _ ps e => ⟨ps, e⟩⟩
theorem Fm.trans {W : List Addr} {H H1 H2 : Hp} (a : Fm W H H1) (b : Fm W H1 H2) : Fm W H H2 := ⟨fun c x n nt e => b.k c x n nt (a.k c x n nt e), fun t => b.tb (a.tb t), fun c ps e => have ⟨ps1, e1⟩ := a.tk c ps e; b.tk c ps1 e1⟩
theorem Fm.seq {A B W : List Addr} {H H1 H2 : Hp} (a : Fm A H H1) (b : Fm B H1 H2) (k : ∀ c x, (c ∈ W → isTp x = true) → isTb x = false → H c = some x → H2 c = some x) : Fm W H H2 := ⟨k, fun t => b.tb (a.tb t), fun c ps e => have ⟨ps1, e1⟩ := a.tk c ps e; b.tk c ps1 e1⟩
theorem Fm.mono {W W' : List Addr} {H H1 : Hp} (a : Fm W H H1) (h : ∀ b ∈ W, b ∈ W') : Fm W' H H1 := ⟨fun c x n nt e => a.k c x (fun z => n (h c z)) nt e, a.tb, a.tk⟩
theorem Fm.thw {W : List Addr} {H H1 : Hp} (f : Fm W H H1) {b : Addr} (n : b ∉ W) (h : H b ≠ none) : H1 b ≠ none := fun e => by
  cases q : H b with
  | none => exact h q
  | some x =>
    cases c : isTb x with
    | false => have := f.k b x (fun z => (n z).elim) c q; rw [e] at this; cases this
    | true =>
      cases x with
      | tbl ps => obtain ⟨ps', e'⟩ := f.tk b ps q; rw [e] at e'; cases e'
      | _ => cases c
theorem Fm.th {H H1 : Hp} (f : Fm [] H H1) {b : Addr} (h : H b ≠ none) : H1 b ≠ none := f.thw (by simp) h
theorem Fm.rd {W : List Addr} {H H1 : Hp} (f : Fm W H H1) {a : Addr} {u : HO} (n : a ∉ W) (h : Rd H a u) (nt : isTb u = false := by rfl) : Rd H1 a u := by
  rcases h with h | ⟨o, h⟩
  · exact .inl (f a _ (fun z => (n z).elim) h nt)
  · exact .inr ⟨o, f a _ (fun z => (n z).elim) h rfl⟩
omit [TabC] in
theorem Rd.ne0 {H : Hp} {a : Addr} {u : HO} (h : Rd H a u) : H a ≠ none := by
  rcases h with h | ⟨o, h⟩ <;> rw [h] <;> exact fun z => nomatch z
/-- the step by which all data stay -/
structure Mo (W W' : List Addr) (H H' : Hp) : Prop where
  fm : Fm W H H'
  nw : ∀ b ∈ W', b ∈ W ∨ H b = none
theorem Mo.refl (W : List Addr) (H : Hp) : Mo W W H H := ⟨Fm.refl W H, fun _ h => .inl h⟩
theorem Mo.rd {W W' : List Addr} {H H1 : Hp} (f : Mo W W' H H1) {a : Addr} {u : HO} (n : a ∉ W) (h : Rd H a u) (nt : isTb u = false := by rfl) : a ∉ W' ∧ Rd H1 a u :=
  ⟨fun z => (f.nw a z).elim n (fun e => Rd.ne0 h e), f.fm.rd n h nt⟩
theorem FL.mo {W W' : List Addr} {H H1 : Hp} {a : Addr} {xs : List V} (m : Mo W W' H H1) (h : FL H W a xs) : FL H1 W' a xs := m.rd h.1 h.2
theorem FT.mo {G : Gc} {W W' : List Addr} {H H1 : Hp} {a : Addr} {xs : List V} (m : Mo W W' H H1) (h : FT G H W a xs) : FT G H1 W' a xs := by
  exact m.fm _ _ (fun _ => rfl) h rfl
mutual
theorem Rp.mo {G : Gc} {W W' : List Addr} {H H1 : Hp} (m : Mo W W' H H1) : ∀ (d : D) (v : V), Rp G H W d v → Rp G H1 W' d v
  | .non, v, h => h
  | .bl b, v, h => h
  | .int i, v, h => h
  | .str s, v, h => h
  | .lst ds, v, ⟨a, vs, e, f, l, r⟩ => ⟨a, vs, e, f.mo m, l, RpAll.mo m ds vs r⟩
  | .tup ds, v, ⟨a, vs, e, f, l, r⟩ => ⟨a, vs, e, f.mo m, l, RpAll.mo m ds vs r⟩
  | .dT ds, v, ⟨a, vs, e, n, f, l, r⟩ => ⟨a, vs, e, (m.rd n (.inl f)).1, m.fm.out n f, l, RpT.mo m ds vs r⟩
  | .dK ds, v, ⟨a, vs, e, n, f, l, r⟩ => ⟨a, vs, e, (m.rd n (.inl f)).1, m.fm.out n f, l, RpK.mo m ds vs r⟩
  | .obj C ds, v, ⟨a, Ca, dx, vs, e, n, f, g, l, r⟩ => ⟨a, Ca, dx, vs, e, (m.rd n (.inl f)).1, m.fm.out n f, g, l, RpF.mo m ds vs r⟩
  | .scr ns, v, ⟨a, e, f, l⟩ => ⟨a, e, f.imp (fun f => m.rd f.1 f.2) id, l⟩
theorem RpAll.mo {G : Gc} {W W' : List Addr} {H H1 : Hp} (m : Mo W W' H H1) : ∀ (ds : List D) (vs : List V), RpAll G H W ds vs → RpAll G H1 W' ds vs
  | [], vs, h => h
  | d :: ds, vs, ⟨x, xs, e, r, q⟩ => ⟨x, xs, e, Rp.mo m d x r, RpAll.mo m ds xs q⟩
theorem RpT.mo {G : Gc} {W W' : List Addr} {H H1 : Hp} (m : Mo W W' H H1) : ∀ (ds : List (List Int × D)) (vs : List (List Key × V)), RpT G H W ds vs → RpT G H1 W' ds vs
  | [], vs, h => h
  | (k, d) :: ds, vs, ⟨x, xs, e, r, q⟩ => ⟨x, xs, e, Rp.mo m d x r, RpT.mo m ds xs q⟩
theorem RpK.mo {G : Gc} {W W' : List Addr} {H H1 : Hp} (m : Mo W W' H H1) : ∀ (ds : List (Key × D)) (vs : List (Key × V)), RpK G H W ds vs → RpK G H1 W' ds vs
  | [], vs, h => h
  | (k, d) :: ds, vs, ⟨x, xs, e, r, q⟩ => ⟨x, xs, e, Rp.mo m d x r, RpK.mo m ds xs q⟩
theorem RpF.mo {G : Gc} {W W' : List Addr} {H H1 : Hp} (m : Mo W W' H H1) : ∀ (ds : List (Str × D)) (vs : List (Str × V)), RpF G H W ds vs → RpF G H1 W' ds vs
  | [], vs, h => h
  | (k, d) :: ds, vs, ⟨x, xs, e, r, q⟩ => ⟨x, xs, e, Rp.mo m d x r, RpF.mo m ds xs q⟩
end
omit [TabC] in
theorem Ow.ne0 {G : Gc} {H : Hp} {W : List Addr} {d : D} {a : Addr} (h : Ow G H W d a) : H a ≠ none := by
  cases d with
  | lst ds => obtain ⟨vs, e, _⟩ := h; rw [e]; exact fun z => nomatch z
  | dT ds => obtain ⟨vs, e, _⟩ := h; rw [e]; exact fun z => nomatch z
  | dK ds => obtain ⟨vs, e, _⟩ := h; rw [e]; exact fun z => nomatch z
  | obj C ds => obtain ⟨Ca, dx, vs, e, _⟩ := h; rw [e]; exact fun z => nomatch z
  | _ => exact h.elim
/-- an own object that was not touched -/
theorem Ow.mo {G : Gc} {H H' : Hp} {W W' : List Addr} {d : D} {a : Addr} (m : Mo W W' H H') (k : ∀ x, H a = some x → (nt : isTb x = false := by rfl) → H' a = some x) (h : Ow G H W d a) : Ow G H' W' d a := by
  cases d with
  | lst ds => obtain ⟨vs, e, l, r⟩ := h; exact ⟨vs, k _ e, l, RpAll.mo m _ _ r⟩
  | dT ds => obtain ⟨vs, e, l, r⟩ := h; exact ⟨vs, k _ e, l, RpT.mo m _ _ r⟩
  | dK ds => obtain ⟨vs, e, l, r⟩ := h; exact ⟨vs, k _ e, l, RpK.mo m _ _ r⟩
  | obj C ds => obtain ⟨Ca, dx, vs, e, g, l, r⟩ := h; exact ⟨Ca, dx, vs, k _ e, g, l, RpF.mo m _ _ r⟩
  | _ => exact h.elim
/-- an own object is a value from now on -/
theorem Ow.rp {G : Gc} {H : Hp} {W W' : List Addr} {d : D} {a : Addr} (n : a ∉ W') (s : ∀ b ∈ W', b ∈ W) (h : Ow G H W d a) : Rp G H W' d (.ref a) := by
  have m : Mo W W' H H := ⟨Fm.refl W H, fun b z => .inl (s b z)⟩
  cases d with
  | lst ds => obtain ⟨vs, e, l, r⟩ := h; exact ⟨a, vs, rfl, ⟨n, .inl e⟩, l, RpAll.mo m _ _ r⟩
  | dT ds => obtain ⟨vs, e, l, r⟩ := h; exact ⟨a, vs, rfl, n, e, l, RpT.mo m _ _ r⟩
  | dK ds => obtain ⟨vs, e, l, r⟩ := h; exact ⟨a, vs, rfl, n, e, l, RpK.mo m _ _ r⟩
  | obj C ds => obtain ⟨Ca, dx, vs, e, g, l, r⟩ := h; exact ⟨a, Ca, dx, vs, rfl, n, e, g, l, RpF.mo m _ _ r⟩
  | _ => exact h.elim
omit [TabC] in
structure Gam where
  U : List Addr
  π : List (Nat × Addr)
omit [TabC] in
def ownO : St → Env → List Addr
  | some (.ref a) :: σ, .o _ :: ρ => a :: ownO σ ρ
  | _ :: σ, _ :: ρ => ownO σ ρ
  | _, _ => []
omit [TabC] in
abbrev Gam.w (Γ : Gam) (σ : St) (ρ : Env) : List Addr := ownO σ ρ ++ Γ.U
omit [TabC] in
abbrev Gam.mu (Γ : Gam) (σ : St) (ρ : Env) : List Addr := ownO σ ρ ++ Γ.π.map (·.2)
omit [TabC] in
def SlR (G : Gc) (H : Hp) (W : List Addr) (π : List (Nat × Addr)) (i : Nat) : Option V → Sl → Prop
  | _, .e => True
  | x, .v d => ∃ v, x = some v ∧ Rp G H W d v
  | x, .o d => ∃ a, x = some (.ref a) ∧ Ow G H W d a
  | x, .p d => ∃ a, x = some (.ref a) ∧ (i, a) ∈ π ∧ Ow G H W d a
theorem TabsG.fm {H H' : Hp} {W : List Addr} (t : TabsG H) (f : Fm W H H') : TabsG H' := f.tb t
structure Sr (Γ : Gam) (G : Gc) (H : Hp) (σ : St) (ρ : Env) : Prop where
  len : σ.length = ρ.length
  nd : (ownO σ ρ).Nodup
  out : ∀ a ∈ ownO σ ρ, a ∉ Γ.U
  sl : ∀ (i : Nat) (s : Sl), ρ[i]? = some s → ∃ x, σ[i]? = some x ∧ SlR G H (Γ.w σ ρ) Γ.π i x s
  pin : ∀ p ∈ Γ.π, p.2 ∈ Γ.U ∧ ∃ d, ρ[p.1]? = some (.p d)
  pnd : (Γ.π.map (·.2)).Nodup
  th : ∀ a ∈ Γ.U, H a ≠ none
  tb : TabsG H
omit [TabC] in
theorem mem_ownO : ∀ {σ : St} {ρ : Env} {a : Addr}, a ∈ ownO σ ρ ↔ ∃ (i : Nat) (d : D), σ[i]? = some (some (.ref a)) ∧ ρ[i]? = some (.o d)
  | [], ρ, a => by
    constructor
    · intro h; simp [ownO] at h
    · rintro ⟨i, d, h, _⟩; simp at h
  | x :: σ, [], a => by
    constructor
    · intro h
      cases x with
      | none => simp [ownO] at h
      | some v => cases v <;> simp [ownO] at h
    · rintro ⟨i, d, _, h⟩; simp at h
  | x :: σ, s :: ρ, a => by
    have ih := mem_ownO (σ := σ) (ρ := ρ) (a := a)
    have key : a ∈ ownO (x :: σ) (s :: ρ) ↔ (∃ d, x = some (.ref a) ∧ s = .o d) ∨ a ∈ ownO σ ρ := by
      cases s with
      | o d =>
        cases x with
        | none => simp [ownO]
        | some v =>
          cases v with
          | ref b =>
            simp only [ownO, List.mem_cons]
            constructor
            · rintro (h | h)
              · exact .inl ⟨d, by rw [h], rfl⟩
              · exact .inr h
            · rintro (⟨_, h, _⟩ | h)
              · left
                injection h with h; injection h with h; exact h.symm
              · exact .inr h
          | _ => simp [ownO]
      | _ =>
        cases x with
        | none => simp [ownO]
        | some v => cases v <;> simp [ownO]
    rw [key, ih]
    constructor
    · rintro (⟨d, h1, h2⟩ | ⟨i, d, h1, h2⟩)
      · exact ⟨0, d, by simp [h1], by simp [h2]⟩
      · exact ⟨i + 1, d, by simpa using h1, by simpa using h2⟩
    · rintro ⟨i, d, h1, h2⟩
      cases i with
      | zero => exact .inl ⟨d, by simpa using h1, by simpa using h2⟩
      | succ i => exact .inr ⟨i, d, by simpa using h1, by simpa using h2⟩
omit [TabC] in
/-- two places of one own address are one -/
theorem ownO_inj : ∀ {σ : St} {ρ : Env}, (ownO σ ρ).Nodup → ∀ {i j : Nat} {a : Addr} {d d' : D}, σ[i]? = some (some (.ref a)) → ρ[i]? = some (.o d) → σ[j]? = some (some (.ref a)) → ρ[j]? = some (.o d') → i = j
  | [], _, _, i, _, _, _, _, h, _, _, _ => by simp at h
  | _ :: _, [], _, i, _, _, _, _, _, h, _, _ => by simp at h
  | x :: σ, s :: ρ, nd, i, j, a, d, d', h1, h2, h3, h4 => by
    have tl : (ownO σ ρ).Nodup := by
      cases s with
      | o d =>
        cases x with
        | none => simpa [ownO] using nd
        | some v =>
          cases v with
          | ref b => simp only [ownO, List.nodup_cons] at nd; exact nd.2
          | _ => simpa [ownO] using nd
      | _ =>
        cases x with
        | none => simpa [ownO] using nd
        | some v => cases v <;> simpa [ownO] using nd
    have hd : ∀ {j : Nat} {d' : D}, x = some (.ref a) → s = .o d → σ[j]? = some (some (.ref a)) → ρ[j]? = some (.o d') → False := by
      rintro j d' rfl rfl q1 q2
      simp only [ownO, List.nodup_cons] at nd
      exact nd.1 (mem_ownO.mpr ⟨j, d', q1, q2⟩)
    have hd' : ∀ {j : Nat} {d'' : D}, x = some (.ref a) → s = .o d'' → ∀ {d' : D}, σ[j]? = some (some (.ref a)) → ρ[j]? = some (.o d') → False := by
      rintro j d'' rfl rfl d' q1 q2
      simp only [ownO, List.nodup_cons] at nd
      exact nd.1 (mem_ownO.mpr ⟨j, d', q1, q2⟩)
    cases i with
    | zero =>
      cases j with
      | zero => rfl
      | succ j => exact (hd' (by simpa using h1) (by simpa using h2) (by simpa using h3) (by simpa using h4)).elim
    | succ i =>
      cases j with
      | zero => exact (hd' (by simpa using h3) (by simpa using h4) (by simpa using h1) (by simpa using h2)).elim
      | succ j => exact congrArg (· + 1) (ownO_inj tl (by simpa using h1) (by simpa using h2) (by simpa using h3) (by simpa using h4))
end DL
namespace DL
open PySem L2
variable [TabC]
omit [TabC] in
abbrev _root_.L2.Cx.G (X : Cx) : Gc := ⟨X.K, X.mg⟩
section
variable {Γ : Gam} {G : Gc} {H H' H1 H2 : Hp} {σ σ' σ1 σ2 : L2.St} {ρ ρ' ρ1 ρ2 : Env}
theorem Sr.mu_w (s : Sr Γ G H σ ρ) : ∀ b ∈ Γ.mu σ ρ, b ∈ Γ.w σ ρ := fun b h => by
  rcases List.mem_append.mp h with h | h
  · exact List.mem_append_left _ h
  · obtain ⟨p, hp, e⟩ := List.mem_map.mp h
    exact List.mem_append_right _ (e ▸ (s.pin p hp).1)
theorem Sr.own_th (s : Sr Γ G H σ ρ) : ∀ a ∈ ownO σ ρ, H a ≠ none := fun a h => by
  obtain ⟨i, d, h1, h2⟩ := mem_ownO.mp h
  obtain ⟨x, e, q⟩ := s.sl i _ h2
  rw [h1] at e
  cases e
  obtain ⟨b, e, q⟩ := q
  cases e
  exact q.ne0
theorem Sr.w_th (s : Sr Γ G H σ ρ) : ∀ a ∈ Γ.w σ ρ, H a ≠ none := fun a h => (List.mem_append.mp h).elim (s.own_th a) (s.th a)
omit [TabC] in
/-- what is known stays known -/
def Tr (H H' : Hp) : Prop := ∀ b, H b ≠ none → H' b ≠ none
omit [TabC] in
theorem Tr.refl (H : Hp) : Tr H H := fun _ z => z
omit [TabC] in
theorem Tr.trans (a : Tr H H1) (b : Tr H1 H2) : Tr H H2 := fun c z => b c (a c z)
theorem Tr.of (f : Fm [] H H') : Tr H H' := fun b z => f.th z
omit [TabC] in
theorem tr_upd {a : Addr} {o : HO} : Tr H (upd H a o) := fun b z e => by
  by_cases q : b = a
  · rw [q, upd_same] at e; cases e
  · rw [upd_ne q] at e; exact z e
omit [TabC] in
theorem Tr.back (t : Tr H H') {b : Addr} (n : H' b = none) : H b = none := by
  cases q : H b with
  | none => rfl
  | some x => exact absurd n (t b (by rw [q]; exact fun z => nomatch z))
/-- behind an expression -/
structure Po (Γ : Gam) (G : Gc) (σ : L2.St) (ρ : Env) (H : Hp) (ρ' : Env) (H' : Hp) : Prop where
  sr : Sr Γ G H' σ ρ'
  fm : Fm (Γ.mu σ ρ) H H'
  sub : ∀ a ∈ ownO σ ρ', a ∈ ownO σ ρ
  tr : Tr H H'
theorem Po.refl (s : Sr Γ G H σ ρ) : Po Γ G σ ρ H ρ H := ⟨s, Fm.refl _ _, fun _ h => h, Tr.refl _⟩
omit [TabC] in
theorem mu_sub (h : ∀ a ∈ ownO σ ρ', a ∈ ownO σ ρ) : ∀ b ∈ Γ.mu σ ρ', b ∈ Γ.mu σ ρ := fun b z => by
  rcases List.mem_append.mp z with z | z
  · exact List.mem_append_left _ (h b z)
  · exact List.mem_append_right _ z
theorem Po.trans (a : Po Γ G σ ρ H ρ1 H1) (b : Po Γ G σ ρ1 H1 ρ2 H2) : Po Γ G σ ρ H ρ2 H2 :=
  ⟨b.sr, a.fm.trans (b.fm.mono (mu_sub a.sub)), fun x z => a.sub x (b.sub x z), a.tr.trans b.tr⟩
theorem Po.mo (s : Sr Γ G H σ ρ) (a : Po Γ G σ ρ H ρ1 H1) : Mo (Γ.w σ ρ) (Γ.w σ ρ1) H H1 :=
  ⟨a.fm.mono s.mu_w, fun b z => .inl ((List.mem_append.mp z).elim (fun z => List.mem_append_left _ (a.sub b z)) fun z => List.mem_append_right _ z)⟩
/-- nothing that stood was touched -/
theorem Sr.keep (s : Sr Γ G H σ ρ) (f : Fm [] H H') : Sr Γ G H' σ ρ where
  len := s.len
  nd := s.nd
  out := s.out
  pin := s.pin
  pnd := s.pnd
  th := fun a h => f.th (s.th a h)
  tb := s.tb.fm f
  sl := fun i x h => by
    have m : Mo (Γ.w σ ρ) (Γ.w σ ρ) H H' := ⟨f.mono (fun _ z => absurd z (by simp)), fun _ z => .inl z⟩
    obtain ⟨y, e, q⟩ := s.sl i x h
    refine ⟨y, e, ?_⟩
    cases x with
    | e => trivial
    | v d => obtain ⟨v, e, r⟩ := q; exact ⟨v, e, Rp.mo m _ _ r⟩
    | o d => obtain ⟨a, e, r⟩ := q; exact ⟨a, e, r.mo m fun x z nt => f a x (by simp) z nt⟩
    | p d => obtain ⟨a, e, p, r⟩ := q; exact ⟨a, e, p, r.mo m fun x z nt => f a x (by simp) z nt⟩
theorem Sr.po (s : Sr Γ G H σ ρ) (f : Fm [] H H') : Po Γ G σ ρ H ρ H' := ⟨s.keep f, f.mono fun _ z => absurd z (by simp), fun _ h => h, Tr.of f⟩
theorem fm_new {p : Addr} {o : HO} (n : H p = none) : Fm [] H (upd H p o) := Fm.of0 fun b x e => by
  rw [upd_ne (ne_of_none e n)]
  exact e
/-- behind a statement -/
structure So (Γ : Gam) (G : Gc) (σ : L2.St) (ρ : Env) (H : Hp) (σ' : L2.St) (ρ' : Env) (H' : Hp) : Prop where
  sr : Sr Γ G H' σ' ρ'
  fm : Fm (Γ.mu σ ρ) H H'
  nw : ∀ a ∈ ownO σ' ρ', a ∈ ownO σ ρ ∨ H a = none
  tr : Tr H H'
theorem So.refl (s : Sr Γ G H σ ρ) : So Γ G σ ρ H σ ρ H := ⟨s, Fm.refl _ _, fun _ h => .inl h, Tr.refl _⟩
theorem Po.so (a : Po Γ G σ ρ H ρ1 H1) : So Γ G σ ρ H σ ρ1 H1 := ⟨a.sr, a.fm, fun x h => .inl (a.sub x h), a.tr⟩
theorem So.trans (a : So Γ G σ ρ H σ1 ρ1 H1) (b : So Γ G σ1 ρ1 H1 σ2 ρ2 H2) : So Γ G σ ρ H σ2 ρ2 H2 where
  sr := b.sr
  fm := ⟨fun c x n nt e => by
    refine b.fm c x (fun z => ?_) (a.fm c x n e nt) nt
    rcases List.mem_append.mp z with z | z
    · rcases a.nw c z with z | z
      · exact n (List.mem_append_left _ z)
      · rw [e] at z; cases z
    · exact n (List.mem_append_right _ z), fun t => b.fm.tb (a.fm.tb t), fun c ps e => have ⟨ps1, e1⟩ := a.fm.tk c ps e; b.fm.tk c ps1 e1⟩
  nw := fun c z => by
    rcases b.nw c z with z | z
    · exact a.nw c z
    · exact .inr (a.tr.back z)
  tr := a.tr.trans b.tr
theorem So.mo (s : Sr Γ G H σ ρ) (a : So Γ G σ ρ H σ1 ρ1 H1) : Mo (Γ.w σ ρ) (Γ.w σ1 ρ1) H H1 :=
  ⟨a.fm.mono s.mu_w, fun b z => (List.mem_append.mp z).elim (fun z => (a.nw b z).imp (fun z => List.mem_append_left _ z) id) fun z => .inl (List.mem_append_right _ z)⟩
end
omit [TabC] in
abbrev EM := Env → Option (D × Env)
omit [TabC] in
abbrev TM := Env → Option (Bool × Env)
omit [TabC] in
inductive Arg where
  | val (d : D) | slot (i : Nat)
omit [TabC] in
abbrev AM := Env → Option (List Arg × Env)
omit [TabC] in
inductive Out where
  | nx (ρ : Env) | rt (d : D) (ρ : Env) | bk (ρ : Env) | ct (ρ : Env) | rf (d : D) (ρ : Env)
omit [TabC] in
abbrev SM := Env → Option Out
structure DE (X : Cx) (e : Expr) (t : TE) (m : EM) : Prop where
  pe : PE X e t
  q : ∀ (Γ : Gam) (σ : L2.St) (H : Hp) (ρ : Env) (d : D) (ρ' : Env) (Q : VK), Sr Γ X.G H σ ρ → m ρ = some (d, ρ') →
    (∀ v H', Po Γ X.G σ ρ H ρ' H' → Rp X.G H' (Γ.w σ ρ') d v → Q v H') → t σ H Q
structure DT (X : Cx) (e : Expr) (t : TT) (m : TM) : Prop where
  pe : PT X e t
  q : ∀ (Γ : Gam) (σ : L2.St) (H : Hp) (ρ : Env) (d : Bool) (ρ' : Env) (Q : Bool → Hp → Prop), Sr Γ X.G H σ ρ → m ρ = some (d, ρ') →
    (∀ H', Po Γ X.G σ ρ H ρ' H' → Q d H') → t σ H Q
structure DW (X : Cx) (e : Expr) (t : TT) (m : TM) : Prop where
  pe : PW X e t
  q : ∀ (Γ : Gam) (σ : L2.St) (H : Hp) (ρ : Env) (d : Bool) (ρ' : Env) (Q : Bool → Hp → Prop), Sr Γ X.G H σ ρ → m ρ = some (d, ρ') →
    (∀ H', Po Γ X.G σ ρ H ρ' H' → Q d H') → t σ H Q
/-- the wanted end, by the outcome -/
def Fin (Γ : Gam) (G : Gc) (σ : L2.St) (ρ : Env) (H : Hp) (E : Ends) : Out → Prop
  | .nx ρ' => ∀ σ' H', So Γ G σ ρ H σ' ρ' H' → E.nx σ' H'
  | .rt d ρ' => ∀ v σ' H', So Γ G σ ρ H σ' ρ' H' → Rp G H' (Γ.w σ' ρ') d v → E.rt v H'
  | .bk ρ' => ∀ σ' H', So Γ G σ ρ H σ' ρ' H' → E.bk σ' H'
  | .ct ρ' => ∀ σ' H', So Γ G σ ρ H σ' ρ' H' → E.ct σ' H'
  | .rf d ρ' => ∀ a σ' H', So Γ G σ ρ H σ' ρ' H' → (a ∈ ownO σ ρ ∨ H a = none) → a ∉ ownO σ' ρ' → a ∉ Γ.U → Ow G H' (a :: Γ.w σ' ρ') d a → E.rt (.ref a) H'
structure DS (X : Cx) (st : Stmt) (t : TS) (m : SM) : Prop where
  pe : PS X st t
  q : ∀ (Γ : Gam) (σ : L2.St) (H : Hp) (ρ : Env) (o : Out) (E : Ends), Sr Γ X.G H σ ρ → m ρ = some o → Fin Γ X.G σ ρ H E o → t E σ H
structure DSs (X : Cx) (st : List Stmt) (t : TS) (m : SM) : Prop where
  pe : PSs X st t
  q : ∀ (Γ : Gam) (σ : L2.St) (H : Hp) (ρ : Env) (o : Out) (E : Ends), Sr Γ X.G H σ ρ → m ρ = some o → Fin Γ X.G σ ρ H E o → t E σ H
theorem Fin.from {Γ : Gam} {G : Gc} {σ σ1 : L2.St} {ρ ρ1 : Env} {H H1 : Hp} {E E' : Ends} {o : Out} (a : So Γ G σ ρ H σ1 ρ1 H1) (h : Fin Γ G σ ρ H E o)
    (hn : E'.nx = E.nx := by rfl) (hr : E'.rt = E.rt := by rfl) (hb : E'.bk = E.bk := by rfl) (hc : E'.ct = E.ct := by rfl) : Fin Γ G σ1 ρ1 H1 E' o := by
  cases o with
  | nx ρ' => intro σ' H' q; rw [hn]; exact h σ' H' (a.trans q)
  | rt d ρ' => intro v σ' H' q r; rw [hr]; exact h v σ' H' (a.trans q) r
  | bk ρ' => intro σ' H' q; rw [hb]; exact h σ' H' (a.trans q)
  | ct ρ' => intro σ' H' q; rw [hc]; exact h σ' H' (a.trans q)
  | rf d ρ' => intro b σ' H' q n; rw [hr]; exact h b σ' H' (a.trans q) (n.elim (fun z => a.nw b z) fun z => .inr (a.tr.back z))
omit [TabC] in
def sSkip : SM := fun ρ => some (.nx ρ)
omit [TabC] in
def sSeq (m1 m2 : SM) : SM := fun ρ => (m1 ρ).bind fun o => match o with
  | .nx ρ' => m2 ρ'
  | o => some o
omit [TabC] in
def sRet (m : EM) : SM := fun ρ => (m ρ).bind fun p => some (.rt p.1 p.2)
omit [TabC] in
def sRetN : SM := fun ρ => some (.rt .non ρ)
omit [TabC] in
def sIf (c : TM) (a b : SM) : SM := fun ρ => (c ρ).bind fun p => if p.1 = true then a p.2 else b p.2
omit [TabC] in
def sDrop (m : EM) : SM := fun ρ => (m ρ).bind fun p => some (.nx p.2)
omit [TabC] in
/-- a name is stored: not one that was handed in to be changed -/
def putV (i : Nat) (d : D) (ρ : Env) : Option Env := match ρ[i]? with
  | some (.p _) => none
  | some _ => some (ρ.set i (.v d))
  | none => none
omit [TabC] in
def sSet (i : Nat) (m : EM) : SM := fun ρ => (m ρ).bind fun p => (putV i p.1 p.2).bind fun ρ' => some (.nx ρ')
section
variable {X : Cx} {st : Stmt} {sts : List Stmt} {e c : Expr} {pos : Pos} {m m1 m2 : SM} {me : EM} {mc : TM} {t t1 t2 : TS} {te : TE} {tc : TT}
theorem dss_nil : DSs X [] tNext sSkip := ⟨pss_nil, fun Γ σ H ρ o E s h f => by
  cases h
  exact f σ H (So.refl s)⟩
theorem dss_cons (h1 : DS X st t1 m1) (h2 : DSs X sts t2 m2) : DSs X (st :: sts) (tSeq t1 t2) (sSeq m1 m2) := by
  obtain ⟨p1, q1⟩ := h1
  obtain ⟨p2, q2⟩ := h2
  refine ⟨pss_cons p1 p2, fun Γ σ H ρ o E s h f => ?_⟩
  show t1 { E with nx := t2 E } σ H
  unfold sSeq at h
  cases e1 : m1 ρ with
  | none => rw [e1] at h; cases h
  | some o1 =>
    rw [e1] at h
    refine q1 Γ σ H ρ o1 _ s e1 ?_
    cases o1 with
    | nx ρ1 =>
      intro σ1 H1 a
      exact q2 Γ σ1 H1 ρ1 o E a.sr h (f.from a)
    | rt d ρ1 => cases h; exact f
    | bk ρ1 => cases h; exact f
    | ct ρ1 => cases h; exact f
    | rf d ρ1 => cases h; exact f
theorem dss_one (h1 : DS X st t1 m1) : DSs X [st] t1 m1 := by
  obtain ⟨p1, q1⟩ := h1
  exact ⟨pss_one p1, q1⟩
theorem ds_ret (he : DE X e te me) : DS X (.Return (some e) pos) (tRet te) (sRet me) := by
  obtain ⟨p, q⟩ := he
  refine ⟨ps_ret p, fun Γ σ H ρ o E s h f => ?_⟩
  unfold sRet at h
  cases e1 : me ρ with
  | none => rw [e1] at h; cases h
  | some r =>
    rw [e1] at h
    cases h
    exact q Γ σ H ρ r.1 r.2 _ s e1 fun v H' a r => f v σ H' a.so r
theorem ds_if {a b : List Stmt} (hc : DT X c tc mc) (ha : DSs X a t1 m1) (hb : DSs X b t2 m2) : DS X (.If c a b pos) (tIfS tc t1 t2) (sIf mc m1 m2) := by
  obtain ⟨pc, qc⟩ := hc
  obtain ⟨p1, q1⟩ := ha
  obtain ⟨p2, q2⟩ := hb
  refine ⟨ps_if pc p1 p2, fun Γ σ H ρ o E s h f => ?_⟩
  unfold sIf at h
  cases e1 : mc ρ with
  | none => rw [e1] at h; cases h
  | some r =>
    rw [e1] at h
    refine qc Γ σ H ρ r.1 r.2 _ s e1 fun H' a => ?_
    replace h : (if r.1 = true then m1 r.2 else m2 r.2) = some o := h
    split at h
    · rename_i hh; rw [hh]; exact q1 Γ σ H' r.2 o E a.sr h (f.from a.so)
    · rename_i hh
      rw [if_neg hh]
      exact q2 Γ σ H' r.2 o E a.sr h (f.from a.so)
theorem ds_drop (he : DE X e te me) (hs : swapsWith e none pos.line X.env = pure false := by rfl) : DS X (.Expr e pos) (tDrop te) (sDrop me) := by
  obtain ⟨p, q⟩ := he
  refine ⟨ps_expr p hs, fun Γ σ H ρ o E s h f => ?_⟩
  unfold sDrop at h
  cases e1 : me ρ with
  | none => rw [e1] at h; cases h
  | some r =>
    rw [e1] at h
    cases h
    exact q Γ σ H ρ r.1 r.2 _ s e1 fun v H' a r => f σ H' a.so
omit [TabC] in
theorem ownO_set (σ : L2.St) (ρ : Env) (i : Nat) (x : Option V) (d : D) : ∀ a ∈ ownO (σ.set i x) (ρ.set i (.v d)), a ∈ ownO σ ρ := fun a h => by
  obtain ⟨j, d', h1, h2⟩ := mem_ownO.mp h
  by_cases e : j = i
  · subst e
    by_cases l : j < ρ.length
    · rw [List.getElem?_set_self l] at h2; cases h2
    · rw [List.getElem?_eq_none (by simpa using Nat.not_lt.mp l)] at h2; cases h2
  · rw [List.getElem?_set_ne (Ne.symm e)] at h1 h2
    exact mem_ownO.mpr ⟨j, d', h1, h2⟩
omit [TabC] in
theorem sub_nodup_own {σ : L2.St} {ρ : Env} (i : Nat) (x : Option V) (s : Sl) (hs : ∀ d, s ≠ .o d) : ∀ (σ : L2.St) (ρ : Env) (i : Nat), (ownO (σ.set i x) (ρ.set i s)).Sublist (ownO σ ρ)
  | [], ρ, i => by simp [ownO]
  | y :: σ, [], i => by cases i <;> simp [ownO]
  | y :: σ, r :: ρ, 0 => by
    have h1 : ownO (x :: σ) (s :: ρ) = ownO σ ρ := by
      cases s with
      | o d => exact absurd rfl (hs d)
      | _ =>
        cases x with
        | none => simp [ownO]
        | some v => cases v <;> simp [ownO]
    show (ownO (x :: σ) (s :: ρ)).Sublist _
    rw [h1]
    cases r with
    | o d =>
      cases y with
      | none => simp [ownO]
      | some v => cases v <;> simp [ownO]
    | _ =>
      cases y with
      | none => simp [ownO]
      | some v => cases v <;> simp [ownO]
  | y :: σ, r :: ρ, i + 1 => by
    have ih := sub_nodup_own (σ := σ) (ρ := ρ) i x s hs σ ρ i
    show (ownO (y :: σ.set i x) (r :: ρ.set i s)).Sublist (ownO (y :: σ) (r :: ρ))
    cases r with
    | o d =>
      cases y with
      | none => simpa [ownO] using ih
      | some v =>
        cases v with
        | ref a => simpa [ownO] using ih
        | _ => simpa [ownO] using ih
    | _ =>
      cases y with
      | none => simpa [ownO] using ih
      | some v => cases v <;> simpa [ownO] using ih
end
section
variable {Γ : Gam} {G : Gc} {H H' H1 H2 : Hp} {σ σ' σ1 σ2 : L2.St} {ρ ρ' ρ1 ρ2 : Env}
/-- a slot takes a value -/
theorem Sr.put {i : Nat} {d : D} {v : V} (s : Sr Γ G H σ ρ) (h : putV i d ρ = some ρ') (r : Rp G H (Γ.w σ ρ) d v) : So Γ G σ ρ H (σ.set i (some v)) ρ' H := by
  unfold putV at h
  have key : ∃ s0, ρ[i]? = some s0 ∧ (∀ d, s0 ≠ .p d) ∧ ρ' = ρ.set i (.v d) := by
    cases e : ρ[i]? with
    | none => rw [e] at h; cases h
    | some s0 =>
      rw [e] at h
      cases s0 with
      | p d => cases h
      | _ => cases h; exact ⟨_, rfl, (fun d z => by cases z), rfl⟩
  obtain ⟨s0, e0, np, rfl⟩ := key
  have sub := ownO_set σ ρ i (some v) d
  have il : i < ρ.length := (List.getElem?_eq_some_iff.mp e0).1
  have m : Mo (Γ.w σ ρ) (Γ.w (σ.set i (some v)) (ρ.set i (.v d))) H H := ⟨Fm.refl _ _, fun b z => .inl ((List.mem_append.mp z).elim (fun z => List.mem_append_left _ (sub b z)) fun z => List.mem_append_right _ z)⟩
  refine ⟨⟨by simpa using s.len, ?_, fun a h => s.out a (sub a h), fun j x hj => ?_, fun p hp => ?_, s.pnd, s.th, s.tb⟩, Fm.refl _ _, fun a h => .inl (sub a h), Tr.refl _⟩
  · exact s.nd.sublist (sub_nodup_own (σ := σ) (ρ := ρ) i _ _ (fun d z => by cases z) σ ρ i)
  · by_cases e : j = i
    · subst e
      rw [List.getElem?_set_self il] at hj
      cases hj
      exact ⟨some v, by rw [List.getElem?_set_self (by rw [s.len]; exact il)], v, rfl, Rp.mo m _ _ r⟩
    · rw [List.getElem?_set_ne (Ne.symm e)] at hj
      obtain ⟨y, e1, q⟩ := s.sl j x hj
      refine ⟨y, by rw [List.getElem?_set_ne (Ne.symm e)]; exact e1, ?_⟩
      cases x with
      | e => trivial
      | v d => obtain ⟨v, e, r⟩ := q; exact ⟨v, e, Rp.mo m _ _ r⟩
      | o d => obtain ⟨a, e, r⟩ := q; exact ⟨a, e, r.mo m fun x z _ => z⟩
      | p d => obtain ⟨a, e, p, r⟩ := q; exact ⟨a, e, p, r.mo m fun x z _ => z⟩
  · obtain ⟨h1, d', h2⟩ := s.pin p hp
    refine ⟨h1, d', ?_⟩
    have ne : i ≠ p.1 := fun z => by
      rw [← z, e0] at h2
      cases h2
      exact np _ rfl
    rw [List.getElem?_set_ne ne]
    exact h2
end
section
variable {X : Cx} {e : Expr} {pos pos' : Pos} {me : EM} {te : TE}
theorem ds_set (i : Nat) {x : Str} (hN : X.N.Nodup) (he : DE X e te me) (hi : X.N[i]? = some x := by rfl) (hx : Loc X.env.scope x := by first | exact Or.inl rfl | exact Or.inr rfl) (hs : swapsWith e (some (.Name x pos')) pos.line X.env = pure false := by rfl)
    (hf : X.fn x = true ∨ X.env.scope.names.lookup x = some .local := by first | exact .inl rfl | exact .inr rfl) : DS X (.Assign [.Name x pos'] e pos) (tAsg te (gName i)) (sSet i me) := by
  obtain ⟨p, q⟩ := he
  refine ⟨ps_set hN hi hx p hs hf, fun Γ σ H ρ o E s h f => ?_⟩
  unfold sSet at h
  cases e1 : me ρ with
  | none => rw [e1] at h; cases h
  | some r =>
    rw [e1] at h
    replace h : (putV i r.1 r.2).bind (fun ρ' => some (.nx ρ')) = some o := h
    cases e2 : putV i r.1 r.2 with
    | none => rw [e2] at h; cases h
    | some ρ2 =>
      rw [e2] at h
      cases h
      refine q Γ σ H ρ r.1 r.2 _ s e1 fun v H' a rr => ?_
      exact f _ H' (a.so.trans (a.sr.put e2 rr))
end
end DL
namespace DL
open PySem L2
variable [TabC]
omit [TabC] in
def eC (d : D) : EM := fun ρ => some (d, ρ)
omit [TabC] in
def eVar (i : Nat) : EM := fun ρ => match ρ[i]? with
  | some (.v d) => some (d, ρ)
  | some (.o d) => some (d, ρ.set i (.v d))
  | _ => none
omit [TabC] in
def eOp1 (f : D → Option D) (a : EM) : EM := fun ρ => (a ρ).bind fun p => (f p.1).map fun z => (z, p.2)
omit [TabC] in
def eOp2 (f : D → D → Option D) (a b : EM) : EM := fun ρ => (a ρ).bind fun p => (b p.2).bind fun q => (f p.1 q.1).map fun z => (z, q.2)
omit [TabC] in
def eIf (c : TM) (a b : EM) : EM := fun ρ => (c ρ).bind fun p => if p.1 = true then a p.2 else b p.2
omit [TabC] in
def eAnd (a b : EM) : EM := fun ρ => (a ρ).bind fun p => match p.1 with
  | .bl true => b p.2
  | .bl false => some (.bl false, p.2)
  | _ => none
omit [TabC] in
def eOr (a b : EM) : EM := fun ρ => (a ρ).bind fun p => match p.1 with
  | .bl true => some (.bl true, p.2)
  | .bl false => b p.2
  | _ => none
omit [TabC] in
def eNot (a : EM) : EM := fun ρ => (a ρ).bind fun p => match p.1 with
  | .bl b => some (.bl (!b), p.2)
  | _ => none
omit [TabC] in
def tB (a : EM) : TM := fun ρ => (a ρ).bind fun p => match p.1 with
  | .bl b => some (b, p.2)
  | _ => none
omit [TabC] in
def tAnd (a b : TM) : TM := fun ρ => (a ρ).bind fun p => if p.1 = true then b p.2 else some (false, p.2)
omit [TabC] in
def tOr (a b : TM) : TM := fun ρ => (a ρ).bind fun p => if p.1 = true then some (true, p.2) else b p.2
omit [TabC] in
def tNot (a : TM) : TM := fun ρ => (a ρ).map fun p => (!p.1, p.2)
omit [TabC] in
def aNil : AM := fun ρ => some ([], ρ)
omit [TabC] in
def aCons (a : EM) (r : AM) : AM := fun ρ => (a ρ).bind fun p => (r p.2).map fun q => (.val p.1 :: q.1, q.2)
omit [TabC] in
/-- an own object handed in to be changed -/
def aSlot (i : Nat) (r : AM) : AM := fun ρ => (r ρ).map fun q => (.slot i :: q.1, q.2)
omit [TabC] in
/-- all are values -/
def vals : List Arg → Option (List D)
  | [] => some []
  | .val d :: r => (vals r).map (d :: ·)
  | .slot _ :: _ => none
omit [TabC] in
def eCallV (f : List D → Option D) (a : AM) : EM := fun ρ => (a ρ).bind fun p => (vals p.1).bind fun ds => (f ds).map fun z => (z, p.2)
section
variable {Γ : Gam} {G : Gc} {H H' H1 H2 : Hp} {σ σ' : L2.St} {ρ ρ' ρ1 ρ2 : Env}
/-- an own object at a slot becomes a value -/
theorem Sr.freeze {i : Nat} {d : D} (s : Sr Γ G H σ ρ) (h : ρ[i]? = some (.o d)) : Po Γ G σ ρ H (ρ.set i (.v d)) H ∧ ∃ a, σ[i]? = some (some (.ref a)) ∧ Rp G H (Γ.w σ (ρ.set i (.v d))) d (.ref a) := by
  obtain ⟨x, ex, a, rfl, ow⟩ := s.sl i _ h
  have il : i < ρ.length := (List.getElem?_eq_some_iff.mp h).1
  have sub : ∀ b ∈ ownO σ (ρ.set i (.v d)), b ∈ ownO σ ρ := fun b hb => by
    have := ownO_set σ ρ i (some (.ref a)) d b
    rw [show σ.set i (some (.ref a)) = σ from ?_] at this
    · exact this hb
    · apply List.ext_getElem?
      intro j
      by_cases e : j = i
      · subst e
        rw [List.getElem?_set_self (List.getElem?_eq_some_iff.mp ex).1, ex]
      · rw [List.getElem?_set_ne (Ne.symm e)]
  have subw : ∀ b ∈ Γ.w σ (ρ.set i (.v d)), b ∈ Γ.w σ ρ := fun b z => (List.mem_append.mp z).elim (fun z => List.mem_append_left _ (sub b z)) fun z => List.mem_append_right _ z
  have na : a ∉ Γ.w σ (ρ.set i (.v d)) := fun z => by
    rcases List.mem_append.mp z with z | z
    · obtain ⟨j, d', h1, h2⟩ := mem_ownO.mp z
      by_cases e : j = i
      · subst e
        rw [List.getElem?_set_self il] at h2
        cases h2
      · rw [List.getElem?_set_ne (Ne.symm e)] at h2
        exact e (ownO_inj s.nd h1 h2 ex h)
    · exact s.out a (mem_ownO.mpr ⟨i, d, ex, h⟩) z
  have rr := ow.rp na subw
  have m : Mo (Γ.w σ ρ) (Γ.w σ (ρ.set i (.v d))) H H := ⟨Fm.refl _ _, fun b z => .inl (subw b z)⟩
  refine ⟨⟨⟨by simpa using s.len, ?_, fun a h => s.out a (sub a h), fun j x hj => ?_, fun p hp => ?_, s.pnd, s.th, s.tb⟩, Fm.refl _ _, sub, Tr.refl _⟩, a, ex, rr⟩
  · have q := sub_nodup_own (σ := σ) (ρ := ρ) i (some (.ref a)) (.v d) (fun d z => by cases z) σ ρ i
    rw [show σ.set i (some (.ref a)) = σ from ?_] at q
    · exact s.nd.sublist q
    · apply List.ext_getElem?
      intro j
      by_cases e : j = i
      · subst e
        rw [List.getElem?_set_self (List.getElem?_eq_some_iff.mp ex).1, ex]
      · rw [List.getElem?_set_ne (Ne.symm e)]
  · by_cases e : j = i
    · subst e
      rw [List.getElem?_set_self il] at hj
      cases hj
      exact ⟨_, ex, _, rfl, rr⟩
    · rw [List.getElem?_set_ne (Ne.symm e)] at hj
      obtain ⟨y, e1, q⟩ := s.sl j x hj
      refine ⟨y, e1, ?_⟩
      cases x with
      | e => trivial
      | v d => obtain ⟨v, e, r⟩ := q; exact ⟨v, e, Rp.mo m _ _ r⟩
      | o d => obtain ⟨a, e, r⟩ := q; exact ⟨a, e, r.mo m fun x z _ => z⟩
      | p d => obtain ⟨a, e, p, r⟩ := q; exact ⟨a, e, p, r.mo m fun x z _ => z⟩
  · obtain ⟨h1, d', h2⟩ := s.pin p hp
    refine ⟨h1, d', ?_⟩
    have ne : i ≠ p.1 := fun z => by
      rw [← z, h] at h2
      cases h2
    rw [List.getElem?_set_ne ne]
    exact h2
end
/-- what an operator on two values tells -/
def OpD (G : Gc) (r : R2) (f : D → D → Option D) : Prop := ∀ (H : Hp) (W : List Addr) (x y : V) (dx dy z : D) (Q : VK), (∀ a ∈ W, H a ≠ none) → Rp G H W dx x → Rp G H W dy y → f dx dy = some z →
  (∀ v H', Fm [] H H' → Rp G H' W z v → Q v H') → r x y H Q
def OpD1 (G : Gc) (r : V → Hp → VK → Prop) (f : D → Option D) : Prop := ∀ (H : Hp) (W : List Addr) (x : V) (dx z : D) (Q : VK), (∀ a ∈ W, H a ≠ none) → Rp G H W dx x → f dx = some z →
  (∀ v H', Fm [] H H' → Rp G H' W z v → Q v H') → r x H Q
def CallD (G : Gc) (r : List V → Hp → VK → Prop) (f : List D → Option D) : Prop := ∀ (H : Hp) (W : List Addr) (xs : List V) (ds : List D) (z : D) (Q : VK), (∀ a ∈ W, H a ≠ none) → RpAll G H W ds xs → f ds = some z →
  (∀ v H', Fm [] H H' → Rp G H' W z v → Q v H') → r xs H Q
omit [TabC] in
/-- what the arguments are: values, own objects at slots -/
def ArR (G : Gc) (H : Hp) (W : List Addr) (σ : L2.St) : List Arg → List V → Prop
  | [], vs => vs = []
  | .val d :: r, vs => ∃ x xs, vs = x :: xs ∧ Rp G H W d x ∧ ArR G H W σ r xs
  | .slot i :: r, vs => ∃ x xs, vs = x :: xs ∧ σ[i]? = some (some x) ∧ ArR G H W σ r xs
theorem ArR.mo {G : Gc} {W W' : List Addr} {H H1 : Hp} {σ : L2.St} (m : Mo W W' H H1) : ∀ (as : List Arg) (vs : List V), ArR G H W σ as vs → ArR G H1 W' σ as vs
  | [], _, h => h
  | .val d :: r, _, ⟨x, xs, e, q, k⟩ => ⟨x, xs, e, Rp.mo m _ _ q, ArR.mo m r xs k⟩
  | .slot i :: r, _, ⟨x, xs, e, q, k⟩ => ⟨x, xs, e, q, ArR.mo m r xs k⟩
omit [TabC] in
theorem ArR.vals {G : Gc} {W : List Addr} {H : Hp} {σ : L2.St} : ∀ {as : List Arg} {vs : List V} {ds : List D}, ArR G H W σ as vs → vals as = some ds → RpAll G H W ds vs
  | [], _, _, h, e => by cases e; exact h
  | .val d :: r, _, ds, ⟨x, xs, ex, q, k⟩, e => by
    unfold DL.vals at e
    cases e1 : DL.vals r with
    | none => rw [e1] at e; cases e
    | some ds' =>
      rw [e1] at e
      cases e
      exact ⟨x, xs, ex, q, ArR.vals k e1⟩
  | .slot i :: r, _, _, _, e => nomatch e
structure DA (X : Cx) (es : List Expr) (t : TA) (m : AM) : Prop where
  pe : PA X es t
  q : ∀ (Γ : Gam) (σ : L2.St) (H : Hp) (ρ : Env) (as : List Arg) (ρ' : Env) (Q : List V → Hp → Prop), Sr Γ X.G H σ ρ → m ρ = some (as, ρ') →
    (∀ vs H', Po Γ X.G σ ρ H ρ' H' → ArR X.G H' (Γ.w σ ρ') σ as vs → Q vs H') → t σ H Q
section
variable {X : Cx} {e a b c : Expr} {es rest : List Expr} {pos : Pos} {m ma mb : EM} {mc ma' mb' : TM} {am : AM} {te te1 te2 : TE} {tc tt1 tt2 : TT} {at1 : TA}
theorem de_var (i : Nat) {x : Str} (hN : X.N[i]? = some x := by rfl) (hv : Vis X.env.scope x := by first | exact Or.inl rfl | exact Or.inr (Or.inl rfl) | exact Or.inr (Or.inr rfl)) (hd : (x == ("__debug__" : Str)) = false := by decide)
    (hcd : (x == ("__classdict__" : Str)) = false := by decide) : DE X (.Name x pos) (tVar i) (eVar i) := by
  refine ⟨pe_var hN hv hd hcd, fun Γ σ H ρ d ρ' Q s h f => ?_⟩
  unfold eVar at h
  cases e : ρ[i]? with
  | none => rw [e] at h; cases h
  | some sl =>
    rw [e] at h
    cases sl with
    | v d0 =>
      cases h
      obtain ⟨x, ex, v, rfl, r⟩ := s.sl i _ e
      exact ⟨v, ex, f v H (Po.refl s) r⟩
    | o d0 =>
      cases h
      obtain ⟨po, a, ex, r⟩ := s.freeze e
      exact ⟨.ref a, ex, f _ H po r⟩
    | _ => cases h
theorem de_int {i j} : DE X (.Constant (.int i) j pos) (tC (.int i)) (eC (.int i)) := ⟨pe_int, fun Γ σ H ρ d ρ' Q s h f => by
  cases h
  exact f _ H (Po.refl s) rfl⟩
theorem de_bl {i j} : DE X (.Constant (.bool i) j pos) (tC (.bl i)) (eC (.bl i)) := ⟨pe_bl, fun Γ σ H ρ d ρ' Q s h f => by
  cases h
  exact f _ H (Po.refl s) rfl⟩
theorem de_non {j} : DE X (.Constant .none j pos) (tC .non) (eC .non) := ⟨pe_non, fun Γ σ H ρ d ρ' Q s h f => by
  cases h
  exact f _ H (Po.refl s) rfl⟩
theorem de_str {i j} : DE X (.Constant (.str i) j pos) (tC (.str i)) (eC (.str i)) := ⟨pe_str, fun Γ σ H ρ d ρ' Q s h f => by
  cases h
  exact f _ H (Po.refl s) rfl⟩
/-- the frame of the two operands -/
theorem op2 {te1 te2 : TE} {r : R2} {f : D → D → Option D} {G : Gc} (od : OpD G r f)
    (q1 : ∀ (Γ : Gam) (σ : L2.St) (H : Hp) (ρ : Env) (d : D) (ρ' : Env) (Q : VK), Sr Γ G H σ ρ → ma ρ = some (d, ρ') → (∀ v H', Po Γ G σ ρ H ρ' H' → Rp G H' (Γ.w σ ρ') d v → Q v H') → te1 σ H Q)
    (q2 : ∀ (Γ : Gam) (σ : L2.St) (H : Hp) (ρ : Env) (d : D) (ρ' : Env) (Q : VK), Sr Γ G H σ ρ → mb ρ = some (d, ρ') → (∀ v H', Po Γ G σ ρ H ρ' H' → Rp G H' (Γ.w σ ρ') d v → Q v H') → te2 σ H Q)
    (Γ : Gam) (σ : L2.St) (H : Hp) (ρ : Env) (d : D) (ρ' : Env) (Q : VK) (s : Sr Γ G H σ ρ) (h : eOp2 f ma mb ρ = some (d, ρ')) (k : ∀ v H', Po Γ G σ ρ H ρ' H' → Rp G H' (Γ.w σ ρ') d v → Q v H') : tOp r te1 te2 σ H Q := by
  unfold eOp2 at h
  cases e1 : ma ρ with
  | none => rw [e1] at h; cases h
  | some p =>
    rw [e1] at h
    replace h : ((mb p.2).bind fun q => (f p.1 q.1).map fun z => (z, q.2)) = some (d, ρ') := h
    cases e2 : mb p.2 with
    | none => rw [e2] at h; cases h
    | some q =>
      rw [e2] at h
      replace h : ((f p.1 q.1).map fun z => (z, q.2)) = some (d, ρ') := h
      cases e3 : f p.1 q.1 with
      | none => rw [e3] at h; cases h
      | some z =>
        rw [e3] at h
        cases h
        refine q1 Γ σ H ρ p.1 p.2 _ s e1 fun x H1 a1 r1 => ?_
        refine q2 Γ σ H1 p.2 q.1 q.2 _ a1.sr e2 fun y H2 a2 r2 => ?_
        exact od H2 (Γ.w σ q.2) x y p.1 q.1 d Q a2.sr.w_th (Rp.mo (a2.mo a1.sr) _ _ r1) r2 e3 fun v H3 f3 r3 => k v H3 ((a1.trans a2).trans (a2.sr.po f3)) r3
theorem de_op {op : Operator} {r : R2} {f : D → D → Option D} (ho : OpR X (binaryOp op) r) (od : OpD X.G r f) (ha : DE X a te1 ma) (hb : DE X b te2 mb) : DE X (.BinOp a op b pos) (tOp r te1 te2) (eOp2 f ma mb) := by
  obtain ⟨p1, q1⟩ := ha
  obtain ⟨p2, q2⟩ := hb
  exact ⟨pe_op ho p1 p2, op2 od q1 q2⟩
theorem de_cmp {op : CmpOp} {r : R2} {f : D → D → Option D} (ho : OpR X (compareOp op) r) (od : OpD X.G r f) (ha : DE X a te1 ma) (hb : DE X b te2 mb) (hm : behindInMarks op b = false) : DE X (.Compare a [op] [b] pos) (tOp r te1 te2) (eOp2 f ma mb) := by
  obtain ⟨p1, q1⟩ := ha
  obtain ⟨p2, q2⟩ := hb
  exact ⟨pe_cmpR ho p1 p2 hm, op2 od q1 q2⟩
theorem de_ix {r : R2} {f : D → D → Option D} (ho : IxR X r) (od : OpD X.G r f) (ha : DE X a te1 ma) (hb : DE X b te2 mb) (hs : PlainIx b := by exact fun _ _ => rfl) : DE X (.Subscript a b pos) (tOp r te1 te2) (eOp2 f ma mb) := by
  obtain ⟨p1, q1⟩ := ha
  obtain ⟨p2, q2⟩ := hb
  exact ⟨pe_ix ho p1 p2 hs, op2 od q1 q2⟩
theorem de_un {op : UnaryOp} {r : V → Hp → VK → Prop} {f : D → Option D} (ho : UnR X (unaryOp op) r) (od : OpD1 X.G r f) (ha : DE X a te1 ma) : DE X (.UnaryOp op a pos) (tUn r te1) (eOp1 f ma) := by
  obtain ⟨p1, q1⟩ := ha
  refine ⟨pe_un ho p1, fun Γ σ H ρ d ρ' Q s h k => ?_⟩
  unfold eOp1 at h
  cases e1 : ma ρ with
  | none => rw [e1] at h; cases h
  | some p =>
    rw [e1] at h
    replace h : ((f p.1).map fun z => (z, p.2)) = some (d, ρ') := h
    cases e3 : f p.1 with
    | none => rw [e3] at h; cases h
    | some z =>
      rw [e3] at h
      cases h
      refine q1 Γ σ H ρ p.1 p.2 _ s e1 fun x H1 a1 r1 => ?_
      exact od H1 (Γ.w σ p.2) x p.1 d Q a1.sr.w_th r1 e3 fun v H3 f3 r3 => k v H3 (a1.trans (a1.sr.po f3)) r3
theorem dt_val {e : Expr} (h : DE X e te m) (he : ∀ whole, isTrue e X.env whole = (do let v ← whole; standAt e.pos; holding [v] (truthy v)) := by intro _; rfl) : DT X e (L2.tB te) (tB m) := by
  obtain ⟨p1, q1⟩ := h
  refine ⟨pt_val p1 he, fun Γ σ H ρ d ρ' Q s h k => ?_⟩
  unfold DL.tB at h
  cases e1 : m ρ with
  | none => rw [e1] at h; cases h
  | some p =>
    rw [e1] at h
    obtain ⟨d0, ρ0⟩ := p
    cases d0 with
    | bl b0 =>
      cases h
      exact q1 Γ σ H ρ _ _ _ s e1 fun v H' a r => ⟨d, r, k H' a⟩
    | _ => cases h
theorem dt_cmp {op : CmpOp} {r : R2} {f : D → D → Option D} (ho : OpR X (compareOp op) r) (od : OpD X.G r f) (ha : DE X a te1 ma) (hb : DE X b te2 mb) (hm : behindInMarks op b = false) : DT X (.Compare a [op] [b] pos) (tTest (tOp r te1 te2)) (tB (eOp2 f ma mb)) := by
  obtain ⟨p1, q1⟩ := ha
  obtain ⟨p2, q2⟩ := hb
  refine ⟨pt_cmpR ho p1 p2 hm, fun Γ σ H ρ d ρ' Q s h k => ?_⟩
  unfold DL.tB at h
  cases e1 : eOp2 f ma mb ρ with
  | none => rw [e1] at h; cases h
  | some p =>
    rw [e1] at h
    obtain ⟨d0, ρ0⟩ := p
    cases d0 with
    | bl b0 =>
      cases h
      exact op2 od q1 q2 Γ σ H ρ _ _ _ s e1 fun v H' a r => ⟨d, r, k H' a⟩
    | _ => cases h
theorem DW.dt (h : DW X e tc mc) : DT X e tc mc := by
  obtain ⟨p1, q1⟩ := h
  exact ⟨p1.pt, q1⟩
theorem dw_or1 (h : DT X a tt1 ma') : DW X (.BoolOp .Or [a] pos) tt1 ma' := by
  obtain ⟨p1, q1⟩ := h
  exact ⟨pw_or1 p1, q1⟩
theorem dw_or (h : DT X a tt1 ma') (h2 : DW X (.BoolOp .Or (b :: rest) pos) tt2 mb') : DW X (.BoolOp .Or (a :: b :: rest) pos) (L2.tOr tt1 tt2) (tOr ma' mb') := by
  obtain ⟨p1, q1⟩ := h
  obtain ⟨p2, q2⟩ := h2
  refine ⟨pw_or p1 p2, fun Γ σ H ρ d ρ' Q s h k => ?_⟩
  unfold DL.tOr at h
  cases e1 : ma' ρ with
  | none => rw [e1] at h; cases h
  | some p =>
    rw [e1] at h
    replace h : (if p.1 = true then some (true, p.2) else mb' p.2) = some (d, ρ') := h
    refine q1 Γ σ H ρ p.1 p.2 _ s e1 fun H1 a1 => ?_
    split at h
    · rename_i z; rw [if_pos z]; cases h; exact k H1 a1
    · rename_i z; rw [if_neg z]; exact q2 Γ σ H1 p.2 d ρ' _ a1.sr h fun H2 a2 => k H2 (a1.trans a2)
theorem dt_not (h : DT X a tt1 ma') : DT X (.UnaryOp .Not a pos) (L2.tNot tt1) (tNot ma') := by
  obtain ⟨p1, q1⟩ := h
  refine ⟨pt_not p1, fun Γ σ H ρ d ρ' Q s h k => ?_⟩
  unfold DL.tNot at h
  cases e1 : ma' ρ with
  | none => rw [e1] at h; cases h
  | some p =>
    rw [e1] at h
    cases h
    exact q1 Γ σ H ρ p.1 p.2 _ s e1 fun H1 a1 => k H1 a1
theorem de_one {op} (h : DE X a te m) : DE X (.BoolOp op [a] pos) te m := by
  obtain ⟨p1, q1⟩ := h
  exact ⟨pe_one p1, q1⟩
theorem de_and (h : DE X a te1 ma) (h2 : DE X (.BoolOp .And (b :: rest) pos) te2 mb) : DE X (.BoolOp .And (a :: b :: rest) pos) (tAndV te1 te2) (eAnd ma mb) := by
  obtain ⟨p1, q1⟩ := h
  obtain ⟨p2, q2⟩ := h2
  refine ⟨pe_and p1 p2, fun Γ σ H ρ d ρ' Q s h k => ?_⟩
  unfold eAnd at h
  cases e1 : ma ρ with
  | none => rw [e1] at h; cases h
  | some p =>
    rw [e1] at h
    obtain ⟨d0, ρ0⟩ := p
    cases d0 with
    | bl b0 =>
      refine q1 Γ σ H ρ _ _ _ s e1 fun v H1 a1 r1 => ⟨b0, r1, ?_⟩
      cases b0 with
      | true => exact q2 Γ σ H1 ρ0 d ρ' _ a1.sr h fun v H2 a2 r2 => k v H2 (a1.trans a2) r2
      | false => cases h; exact k _ H1 a1 rfl
    | _ => cases h
theorem de_not (h : DE X a te1 ma) : DE X (.UnaryOp .Not a pos) (tNotV te1) (eNot ma) := by
  obtain ⟨p1, q1⟩ := h
  refine ⟨pe_not p1, fun Γ σ H ρ d ρ' Q s h k => ?_⟩
  unfold eNot at h
  cases e1 : ma ρ with
  | none => rw [e1] at h; cases h
  | some p =>
    rw [e1] at h
    obtain ⟨d0, ρ0⟩ := p
    cases d0 with
    | bl b0 =>
      cases h
      exact q1 Γ σ H ρ _ _ _ s e1 fun v H1 a1 r1 => ⟨b0, r1, k _ H1 a1 rfl⟩
    | _ => cases h
theorem de_ifExp (hc : DT X c tc mc) (ha : DE X a te1 ma) (hb : DE X b te2 mb) : DE X (.IfExp c a b pos) (tIf tc te1 te2) (eIf mc ma mb) := by
  obtain ⟨p0, q0⟩ := hc
  obtain ⟨p1, q1⟩ := ha
  obtain ⟨p2, q2⟩ := hb
  refine ⟨pe_ifExp p0 p1 p2, fun Γ σ H ρ d ρ' Q s h k => ?_⟩
  unfold eIf at h
  cases e1 : mc ρ with
  | none => rw [e1] at h; cases h
  | some p =>
    rw [e1] at h
    replace h : (if p.1 = true then ma p.2 else mb p.2) = some (d, ρ') := h
    refine q0 Γ σ H ρ p.1 p.2 _ s e1 fun H1 a1 => ?_
    split at h
    · rename_i z; rw [if_pos z]; exact q1 Γ σ H1 p.2 d ρ' _ a1.sr h fun v H2 a2 => k v H2 (a1.trans a2)
    · rename_i z; rw [if_neg z]; exact q2 Γ σ H1 p.2 d ρ' _ a1.sr h fun v H2 a2 => k v H2 (a1.trans a2)
theorem da_nil : DA X [] tNil aNil := ⟨pa_nil, fun Γ σ H ρ as ρ' Q s h k => by
  cases h
  exact k [] H (Po.refl s) rfl⟩
theorem da_cons (ha : DE X e te m) (hr : DA X es at1 am) (hs : starEach (e :: es) X.env = (false, eval e X.env) :: starEach es X.env := by rfl) : DA X (e :: es) (tCons te at1) (aCons m am) := by
  obtain ⟨p1, q1⟩ := ha
  obtain ⟨p2, q2⟩ := hr
  refine ⟨pa_cons p1 p2 hs, fun Γ σ H ρ as ρ' Q s h k => ?_⟩
  unfold aCons at h
  cases e1 : m ρ with
  | none => rw [e1] at h; cases h
  | some p =>
    rw [e1] at h
    replace h : ((am p.2).map fun q => (.val p.1 :: q.1, q.2)) = some (as, ρ') := h
    cases e2 : am p.2 with
    | none => rw [e2] at h; cases h
    | some q =>
      rw [e2] at h
      cases h
      refine q1 Γ σ H ρ p.1 p.2 _ s e1 fun v H1 a1 r1 => ?_
      refine q2 Γ σ H1 p.2 q.1 q.2 _ a1.sr e2 fun vs H2 a2 r2 => ?_
      exact k _ H2 (a1.trans a2) ⟨v, vs, rfl, Rp.mo (a2.mo a1.sr) _ _ r1, r2⟩
theorem da_slot (i : Nat) {x : Str} {p : Pos} (hr : DA X es at1 am) (hN : X.N[i]? = some x := by rfl) (hv : Vis X.env.scope x := by first | exact Or.inl rfl | exact Or.inr (Or.inl rfl) | exact Or.inr (Or.inr rfl)) (hd : (x == ("__debug__" : Str)) = false := by decide)
    (hcd : (x == ("__classdict__" : Str)) = false := by decide) (hs : starEach (.Name x p :: es) X.env = (false, eval (.Name x p) X.env) :: starEach es X.env := by rfl) :
    DA X (.Name x p :: es) (tCons (tVar i) at1) (fun ρ => match ρ[i]? with | some (.o _) => aSlot i am ρ | some (.p _) => aSlot i am ρ | _ => none) := by
  obtain ⟨p2, q2⟩ := hr
  refine ⟨pa_cons (pe_var hN hv hd hcd) p2 hs, fun Γ σ H ρ as ρ' Q s h k => ?_⟩
  have key : ∃ sl a, ρ[i]? = some sl ∧ σ[i]? = some (some (.ref a)) ∧ aSlot i am ρ = some (as, ρ') := by
    cases e : ρ[i]? with
    | none => rw [e] at h; cases h
    | some sl =>
      rw [e] at h
      cases sl with
      | o d => obtain ⟨y, ey, a, rfl, _⟩ := s.sl i _ e; exact ⟨_, a, rfl, ey, h⟩
      | p d => obtain ⟨y, ey, a, rfl, _⟩ := s.sl i _ e; exact ⟨_, a, rfl, ey, h⟩
      | _ => cases h
  obtain ⟨sl, a, e1, e2, h⟩ := key
  unfold aSlot at h
  cases e3 : am ρ with
  | none => rw [e3] at h; cases h
  | some q =>
    rw [e3] at h
    cases h
    refine ⟨.ref a, e2, ?_⟩
    refine q2 Γ σ H ρ q.1 q.2 _ s e3 fun vs H2 a2 r2 => ?_
    exact k _ H2 a2 ⟨.ref a, vs, rfl, e2, r2⟩
theorem callv {t : TA} {r : List V → Hp → VK → Prop} {f : List D → Option D} {G : Gc} (od : CallD G r f)
    (q1 : ∀ (Γ : Gam) (σ : L2.St) (H : Hp) (ρ : Env) (as : List Arg) (ρ' : Env) (Q : List V → Hp → Prop), Sr Γ G H σ ρ → am ρ = some (as, ρ') → (∀ vs H', Po Γ G σ ρ H ρ' H' → ArR G H' (Γ.w σ ρ') σ as vs → Q vs H') → t σ H Q)
    (Γ : Gam) (σ : L2.St) (H : Hp) (ρ : Env) (d : D) (ρ' : Env) (Q : VK) (s : Sr Γ G H σ ρ) (h : eCallV f am ρ = some (d, ρ')) (k : ∀ v H', Po Γ G σ ρ H ρ' H' → Rp G H' (Γ.w σ ρ') d v → Q v H') : tCB r t σ H Q := by
  unfold eCallV at h
  cases e1 : am ρ with
  | none => rw [e1] at h; cases h
  | some p =>
    rw [e1] at h
    replace h : ((vals p.1).bind fun ds => (f ds).map fun z => (z, p.2)) = some (d, ρ') := h
    cases e2 : vals p.1 with
    | none => rw [e2] at h; cases h
    | some ds =>
      rw [e2] at h
      replace h : ((f ds).map fun z => (z, p.2)) = some (d, ρ') := h
      cases e3 : f ds with
      | none => rw [e3] at h; cases h
      | some z =>
        rw [e3] at h
        cases h
        refine q1 Γ σ H ρ p.1 p.2 _ s e1 fun vs H1 a1 r1 => ?_
        exact od H1 _ vs ds d Q a1.sr.w_th (r1.vals e2) e3 fun v H3 f3 r3 => k v H3 (a1.trans (a1.sr.po f3)) r3
theorem de_callB {x : Str} {p : Pos} {id : String} {r : List V → Hp → VK → Prop} {f : List D → Option D} (hc : CallR X (.builtin id) r) (od : CallD X.G r f) (hm : X.mg x = none) (hv : bootBuiltins x = some (.builtin id)) (ha : DA X (e :: es) at1 am) (hg : Gl X x := by rfl)
    (hn : x ≠ "__name__" := by decide) (hdb : (x == ("__debug__" : Str)) = false := by decide)
    (he : starEach (e :: es) X.env = (false, eval e X.env) :: starEach es X.env := by rfl) (hpl : (backTo pos (starEach es X.env)).any (·.1) = false := by rfl) : DE X (.Call (.Name x p) (e :: es) [] pos) (tCB r at1) (eCallV f am) := by
  obtain ⟨p1, q1⟩ := ha
  exact ⟨pe_callB hc hg hm hv p1 hn hdb he hpl, callv od q1⟩
theorem de_callTy {x : Str} {p : Pos} {T : String} {r : List V → Hp → VK → Prop} {f : List D → Option D} (hc : CallR X (.type T) r) (od : CallD X.G r f) (hm : X.mg x = none) (hv : bootBuiltins x = some (.type T)) (ha : DA X (e :: es) at1 am) (hg : Gl X x := by rfl)
    (hn : x ≠ "__name__" := by decide) (hdb : (x == ("__debug__" : Str)) = false := by decide)
    (he : starEach (e :: es) X.env = (false, eval e X.env) :: starEach es X.env := by rfl) (hpl : (backTo pos (starEach es X.env)).any (·.1) = false := by rfl) : DE X (.Call (.Name x p) (e :: es) [] pos) (tCB r at1) (eCallV f am) := by
  obtain ⟨p1, q1⟩ := ha
  exact ⟨pe_callTy hc hg hm hv p1 hn hdb he hpl, callv od q1⟩
omit [TabC] in
def mkTup (ds : List D) : Option D := if ds.length ≤ 1000000 then some (.tup ds) else none
omit [TabC] in
def mkLst (ds : List D) : Option D := if ds.length ≤ 1000000 then some (.lst ds) else none
omit [TabC] in
theorem RpAll.length {G : Gc} {H : Hp} {W : List Addr} : ∀ {ds : List D} {vs : List V}, RpAll G H W ds vs → vs.length = ds.length
  | [], _, h => by rw [show _ = [] from h]; rfl
  | d :: ds, _, ⟨x, xs, e, _, q⟩ => by rw [e, List.length_cons, List.length_cons, RpAll.length q]
omit [TabC] in
theorem line_of {n : Nat} (h : n ≤ 1000000) : n ≤ sizeLine := Nat.le_trans h (by decide)
theorem new_mo {G : Gc} {W : List Addr} {H : Hp} {p : Addr} {o : HO} (n : H p = none) : Mo W W H (upd H p o) := ⟨(fm_new n).mono fun _ z => absurd z (by simp), fun _ z => .inl z⟩
omit [TabC] in
theorem new_out {W : List Addr} {H : Hp} {p : Addr} (th : ∀ a ∈ W, H a ≠ none) (n : H p = none) : p ∉ W := fun z => th p z n
theorem de_tup {k} (ha : DA X es at1 am) : DE X (.Tuple es k pos) (tTup at1) (eCallV mkTup am) := by
  obtain ⟨p1, q1⟩ := ha
  refine ⟨pe_tup p1, fun Γ σ H ρ d ρ' Q s h kk => ?_⟩
  have := callv (r := fun xs H Q => xs.length ≤ sizeLine ∧ ∀ p, H p = none → Q (.ref p) (upd H p (.tup xs))) (G := X.G) (f := mkTup) (fun H W xs ds z Q th r e q => ?_) q1 Γ σ H ρ d ρ' Q s h kk
  · exact this
  · unfold mkTup at e
    split at e
    · cases e
      rename_i l
      refine ⟨by rw [r.length]; exact line_of l, fun p n => q _ _ (fm_new n) ?_⟩
      exact ⟨p, xs, rfl, upd_same, line_of l, RpAll.mo (new_mo (G := X.G) n) _ _ r⟩
    · cases e
theorem de_lst (ha : DA X es at1 am) : DE X (.List es pos) (tLst at1) (eCallV mkLst am) := by
  obtain ⟨p1, q1⟩ := ha
  refine ⟨pe_lst p1, fun Γ σ H ρ d ρ' Q s h kk => ?_⟩
  have := callv (r := fun xs H Q => xs.length ≤ sizeLine ∧ ∀ p, H p = none → Q (.ref p) (upd H p (.lst xs))) (G := X.G) (f := mkLst) (fun H W xs ds z Q th r e q => ?_) q1 Γ σ H ρ d ρ' Q s h kk
  · exact this
  · unfold mkLst at e
    split at e
    · cases e
      rename_i l
      refine ⟨by rw [r.length]; exact line_of l, fun p n => q _ _ (fm_new n) ?_⟩
      exact ⟨p, xs, rfl, ⟨new_out th n, .inl upd_same⟩, line_of l, RpAll.mo (new_mo (G := X.G) n) _ _ r⟩
    · cases e
end
end DL
namespace DL
open PySem L2
variable [TabC]
omit [TabC] in
def lim (n : Nat) : Bool := decide (n ≤ 1000000)
omit [TabC] in
theorem lim_line {n : Nat} (h : lim n = true) : n ≤ sizeLine := line_of (of_decide_eq_true h)
omit [TabC] in
def addD : D → D → Option D
  | .int i, .int j => some (.int (i + j))
  | .str a, .str b => if lim (a.length + b.length) then some (.str (a ++ b)) else none
  | .lst a, .lst b => if lim (a.length + b.length) then some (.lst (a ++ b)) else none
  | .tup a, .tup b => if lim (a.length + b.length) then some (.tup (a ++ b)) else none
  | _, _ => none
omit [TabC] in
def subD : D → D → Option D
  | .int i, .int j => some (.int (i - j))
  | _, _ => none
omit [TabC] in
def mulOk (i j : Int) : Bool := (decide (-(2 ^ 64) < i) && decide (i < 2 ^ 64)) || (decide (-(2 ^ 64) < j) && decide (j < 2 ^ 64))
omit [TabC] in
def repL (k : Int) (xs : List D) : List D := (List.replicate k.toNat xs).flatten
omit [TabC] in
def mulD : D → D → Option D
  | .int i, .int j => if mulOk i j then some (.int (i * j)) else none
  | .lst xs, .int k => if decide (-(2 ^ 63) ≤ k) && decide (k < 2 ^ 63) && lim (xs.length * k.toNat) then some (.lst (repL k xs)) else none
  | _, _ => none
omit [TabC] in
def divD : D → D → Option D
  | .int i, .int j => if decide (0 < j) && decide (j.natAbs.log2 < 9000) then some (.int (i / j)) else none
  | _, _ => none
omit [TabC] in
def modD : D → D → Option D
  | .int i, .int j => if decide (0 < j) then some (.int (i % j)) else none
  | _, _ => none
omit [TabC] in
def powD : D → D → Option D
  | .int i, .int j => if decide (0 ≤ j) && decide (j ≤ 1000000) && decide (i.natAbs < 2 ^ 64) then some (.int (i ^ j.toNat)) else none
  | _, _ => none
omit [TabC] in
def negD : D → Option D
  | .int i => some (.int (-i))
  | _ => none
omit [TabC] in
def ltD : D → D → Option D
  | .int i, .int j => some (.bl (decide (i < j)))
  | _, _ => none
omit [TabC] in
def leD : D → D → Option D
  | .int i, .int j => some (.bl (decide (i ≤ j)))
  | _, _ => none
omit [TabC] in
def gtD : D → D → Option D
  | .int i, .int j => some (.bl (decide (j < i)))
  | _, _ => none
omit [TabC] in
def geD : D → D → Option D
  | .int i, .int j => some (.bl (decide (j ≤ i)))
  | _, _ => none
omit [TabC] in
theorem FL.sq {K : PySem.W.Frag} {H : Hp} {W : List Addr} {a : Addr} {xs : List V} (h : FL H W a xs) : SqL K H a xs := .inl h.2
omit [TabC] in
theorem FT.sq {G : Gc} {H : Hp} {W : List Addr} {a : Addr} {xs : List V} (h : FT G H W a xs) : SqT G.K H a xs := .inl (.inl h)
omit [TabC] in
theorem RpAll.app {G : Gc} {H : Hp} {W : List Addr} : ∀ {ds es : List D} {vs ws : List V}, RpAll G H W ds vs → RpAll G H W es ws → RpAll G H W (ds ++ es) (vs ++ ws)
  | [], _, _, _, h, q => by cases (show _ = [] from h); exact q
  | d :: ds, _, _, _, ⟨x, xs, e, r, k⟩, q => ⟨x, xs ++ _, by rw [e]; rfl, r, RpAll.app k q⟩
omit [TabC] in
theorem RpAll.get {G : Gc} {H : Hp} {W : List Addr} : ∀ {ds : List D} {vs : List V} {i : Nat} {d : D}, RpAll G H W ds vs → ds[i]? = some d → ∃ v, vs[i]? = some v ∧ Rp G H W d v
  | [], _, _, _, _, h => by simp at h
  | d :: ds, _, 0, _, ⟨x, xs, e, r, k⟩, h => by
    cases h
    exact ⟨x, by rw [e]; rfl, r⟩
  | d :: ds, _, i + 1, _, ⟨x, xs, e, r, k⟩, h => by
    obtain ⟨v, h1, h2⟩ := RpAll.get (i := i) k h
    exact ⟨v, by rw [e]; exact h1, h2⟩
omit [TabC] in
theorem RpAll.drop {G : Gc} {H : Hp} {W : List Addr} : ∀ (n : Nat) {ds : List D} {vs : List V}, RpAll G H W ds vs → RpAll G H W (ds.drop n) (vs.drop n)
  | 0, _, _, h => h
  | n + 1, [], _, h => by cases (show _ = [] from h); exact rfl
  | n + 1, d :: ds, _, ⟨x, xs, e, r, k⟩ => by rw [e]; exact RpAll.drop n k
omit [TabC] in
theorem RpAll.take {G : Gc} {H : Hp} {W : List Addr} : ∀ (n : Nat) {ds : List D} {vs : List V}, RpAll G H W ds vs → RpAll G H W (ds.take n) (vs.take n)
  | 0, _, _, h => rfl
  | n + 1, [], _, h => by cases (show _ = [] from h); exact rfl
  | n + 1, d :: ds, _, ⟨x, xs, e, r, k⟩ => by rw [e]; exact ⟨x, _, rfl, r, RpAll.take n k⟩
omit [TabC] in
theorem RpAll.rev {G : Gc} {H : Hp} {W : List Addr} : ∀ {ds : List D} {vs : List V}, RpAll G H W ds vs → RpAll G H W ds.reverse vs.reverse
  | [], _, h => by cases (show _ = [] from h); exact rfl
  | d :: ds, _, ⟨x, xs, e, r, k⟩ => by
    rw [e, List.reverse_cons, List.reverse_cons]
    exact RpAll.app (RpAll.rev k) ⟨x, [], rfl, r, rfl⟩
omit [TabC] in
theorem RpAll.rep {G : Gc} {H : Hp} {W : List Addr} {ds : List D} {vs : List V} (h : RpAll G H W ds vs) : ∀ n : Nat, RpAll G H W (List.replicate n ds).flatten (List.replicate n vs).flatten
  | 0 => rfl
  | n + 1 => by
    rw [List.replicate_succ, List.replicate_succ, List.flatten_cons, List.flatten_cons]
    exact h.app (RpAll.rep h n)
omit [TabC] in
theorem RpAll.nil_iff {G : Gc} {H : Hp} {W : List Addr} {ds : List D} {vs : List V} (h : RpAll G H W ds vs) : vs = [] ↔ ds = [] := by
  have e := h.length
  constructor <;> rintro rfl
  · exact List.eq_nil_of_length_eq_zero e.symm
  · exact List.eq_nil_of_length_eq_zero e
section
variable {X : Cx}
omit [TabC] in
/-- two lists that are read -/
def rCatR : R2 := fun x y H Q => ∃ l b xs zs, x = .ref l ∧ y = .ref b ∧ Rd H l (.lst xs) ∧ Rd H b (.lst zs) ∧ xs.length + zs.length ≤ sizeLine ∧ ∀ p, H p = none → Q (.ref p) (upd H p (.lst (xs ++ zs)))
omit [TabC] in
theorem lstR {pins : List (Addr × Obj)} {σ : L2.St} {H : Hp} {s : Shared} {l : Addr} {xs : List V} (I : Inv X pins σ H s) (hH : Rd H l (.lst xs)) :
    xs.length ≤ sizeLine ∧ ∃ (its : List Value) (n : Nat), Vals xs its ∧ xs.length = its.length ∧ s.heap.get? l = some { cls := .type "list", data := .seq its.toArray n } := by
  obtain ⟨z, its, n, r, e⟩ := hH.ok I.hok
  exact ⟨z, its, n, r, r.length, e⟩
omit [TabC] in
theorem op_catR : OpR X (binaryOp .Add) rCatR := by
  intro pins s σ H x y v u Q I rx ry h
  obtain ⟨l, b, xs, zs, rfl, rfl, hH, hB, hz, q⟩ := h
  cases rx
  cases ry
  obtain ⟨z, its, n, r, hl, e⟩ := lstR I hH
  obtain ⟨z2, its2, n2, r2, hl2, e2⟩ := lstR I hB
  refine PySem.P.add_list e e2 ?_ (by rw [List.size_toArray, List.size_toArray]; omega)
  have ea : its.toArray ++ its2.toArray = (its ++ its2).toArray := by simp
  rw [ea]
  exact ⟨.ref _, _, I.lnew (t' := s.toks) (r.append r2) (by rw [List.length_append]; omega), rfl, q _ I.fresh⟩
omit [TabC] in
def rAddA (K : PySem.W.Frag) : R2 := fun x y H Q => (rI0 (fun i j => .int (i + j)) x y H Q) ∨ ((∃ i j, x = .str i ∧ y = .str j ∧ i.length + j.length ≤ sizeLine ∧ Q (.str (i ++ j)) H) ∨ (rCatR x y H Q ∨ rCatA K x y H Q))
omit [TabC] in
theorem op_addA : OpR X (binaryOp .Add) (rAddA X.K) := op_add.or (op_add_str.or (op_catR.or op_catA))
theorem od_add : OpD X.G (rAddA X.K) addD := by
  intro H W x y dx dy z Q th rx ry e q
  cases dx with
  | int i =>
    cases dy with
    | int j =>
      cases e
      exact .inl ⟨i, j, rx, ry, q _ H (Fm.refl _ _) rfl⟩
    | _ => cases e
  | str i =>
    cases dy with
    | str j =>
      simp only [addD] at e
      split at e
      · rename_i l
        cases e
        exact .inr (.inl ⟨i, j, rx, ry, lim_line l, q _ H (Fm.refl _ _) rfl⟩)
      · cases e
    | _ => cases e
  | lst as =>
    cases dy with
    | lst bs =>
      simp only [addD] at e
      split at e
      · rename_i l
        cases e
        obtain ⟨a, vs, rfl, fa, la, ra⟩ := rx
        obtain ⟨b, ws, rfl, fb, lb, rb⟩ := ry
        refine .inr (.inr (.inl ⟨a, b, vs, ws, rfl, rfl, fa.2, fb.2, by rw [ra.length, rb.length]; exact lim_line l, fun p n => q _ _ (fm_new n) ?_⟩))
        exact ⟨p, _, rfl, ⟨new_out th n, .inl upd_same⟩, by rw [List.length_append]; exact lim_line l, RpAll.mo (new_mo (G := X.G) n) _ _ (ra.app rb)⟩
      · cases e
    | _ => cases e
  | tup as =>
    cases dy with
    | tup bs =>
      simp only [addD] at e
      split at e
      · rename_i l
        cases e
        have rx0 := rx
        have ry0 := ry
        obtain ⟨a, vs, rfl, fa, la, ra⟩ := rx
        obtain ⟨b, ws, rfl, fb, lb, rb⟩ := ry
        refine .inr (.inr (.inr ⟨a, b, vs, ws, rfl, rfl, fa.sq, fb.sq, by rw [ra.length, rb.length]; exact lim_line l, fun n => ?_, fun n1 n2 => ?_, fun n1 n2 p n => q _ _ (fm_new n) ?_⟩))
        · have e1 : as = [] := ra.nil_iff.mp n
          subst e1
          exact q _ H (Fm.refl _ _) ry0
        · have e1 : bs = [] := rb.nil_iff.mp n2
          subst e1
          rw [List.append_nil] at q
          exact q _ H (Fm.refl _ _) rx0
        · exact ⟨p, _, rfl, upd_same, by rw [List.length_append]; exact lim_line l, RpAll.mo (new_mo (G := X.G) n) _ _ (ra.app rb)⟩
      · cases e
    | _ => cases e
  | _ => cases e
theorem od_sub : OpD X.G (rI0 fun i j => .int (i - j)) subD := by
  intro H W x y dx dy z Q th rx ry e q
  cases dx with
  | int i =>
    cases dy with
    | int j => cases e; exact ⟨i, j, rx, ry, q _ H (Fm.refl _ _) rfl⟩
    | _ => cases e
  | _ => cases e
omit [TabC] in
theorem cmul_of {i j : Int} (h : mulOk i j = true) : CMul i j := by
  unfold mulOk at h
  rw [Bool.or_eq_true, Bool.and_eq_true, Bool.and_eq_true] at h
  rcases h with ⟨h1, h2⟩ | ⟨h1, h2⟩
  · exact .inl ⟨of_decide_eq_true h1, of_decide_eq_true h2⟩
  · exact .inr ⟨of_decide_eq_true h1, of_decide_eq_true h2⟩
theorem od_mul : OpD X.G (rI CMul fun i j => .int (i * j)) (fun a b => match a, b with | .int i, .int j => mulD (.int i) (.int j) | _, _ => none) := by
  intro H W x y dx dy z Q th rx ry e q
  cases dx with
  | int i =>
    cases dy with
    | int j =>
      simp only [mulD] at e
      split at e
      · rename_i l
        cases e
        exact ⟨i, j, rx, ry, cmul_of l, q _ H (Fm.refl _ _) rfl⟩
      · cases e
    | _ => cases e
  | _ => cases e
theorem od_div : OpD X.G (rI CDivW fun i j => .int (i / j)) divD := by
  intro H W x y dx dy z Q th rx ry e q
  cases dx with
  | int i =>
    cases dy with
    | int j =>
      simp only [divD] at e
      split at e
      · rename_i l
        cases e
        rw [Bool.and_eq_true] at l
        exact ⟨i, j, rx, ry, ⟨of_decide_eq_true l.1, of_decide_eq_true l.2⟩, q _ H (Fm.refl _ _) rfl⟩
      · cases e
    | _ => cases e
  | _ => cases e
theorem od_mod : OpD X.G (rI (fun _ j => 0 < j) fun i j => .int (i % j)) modD := by
  intro H W x y dx dy z Q th rx ry e q
  cases dx with
  | int i =>
    cases dy with
    | int j =>
      simp only [modD] at e
      split at e
      · rename_i l
        cases e
        exact ⟨i, j, rx, ry, of_decide_eq_true l, q _ H (Fm.refl _ _) rfl⟩
      · cases e
    | _ => cases e
  | _ => cases e
theorem od_pow : OpD X.G (rI CPow fun i j => .int (i ^ j.toNat)) powD := by
  intro H W x y dx dy z Q th rx ry e q
  cases dx with
  | int i =>
    cases dy with
    | int j =>
      simp only [powD] at e
      split at e
      · rename_i l
        cases e
        rw [Bool.and_eq_true, Bool.and_eq_true] at l
        exact ⟨i, j, rx, ry, ⟨of_decide_eq_true l.1.1, of_decide_eq_true l.1.2, of_decide_eq_true l.2⟩, q _ H (Fm.refl _ _) rfl⟩
      · cases e
    | _ => cases e
  | _ => cases e
theorem od_neg : OpD1 X.G (rU fun i => .int (-i)) negD := by
  intro H W x dx z Q th rx e q
  cases dx with
  | int i => cases e; exact ⟨i, rx, q _ H (Fm.refl _ _) rfl⟩
  | _ => cases e
theorem od_cmp {p : Int → Int → Bool} : OpD X.G (rI0 fun i j => .bl (p i j)) (fun a b => match a, b with | .int i, .int j => some (.bl (p i j)) | _, _ => none) := by
  intro H W x y dx dy z Q th rx ry e q
  cases dx with
  | int i =>
    cases dy with
    | int j => cases e; exact ⟨i, j, rx, ry, q _ H (Fm.refl _ _) rfl⟩
    | _ => cases e
  | _ => cases e
theorem OpD.eq {G : Gc} {r : R2} {f g : D → D → Option D} (h : OpD G r f) (e : ∀ a b, g a b = f a b) : OpD G r g := fun H W x y dx dy z Q th rx ry he q => h H W x y dx dy z Q th rx ry ((e dx dy).symm.trans he) q
theorem od_lt : OpD X.G (rI0 fun i j => .bl (decide (i < j))) ltD := od_cmp.eq fun a b => by cases a <;> cases b <;> rfl
theorem od_gt : OpD X.G (rI0 fun i j => .bl (decide (j < i))) gtD := od_cmp.eq fun a b => by cases a <;> cases b <;> rfl
theorem od_ge : OpD X.G (rI0 fun i j => .bl (decide (j ≤ i))) geD := od_cmp.eq fun a b => by cases a <;> cases b <;> rfl
end
omit [TabC] in
mutual
def py : D → PyData
  | .non => .none
  | .bl b => .bool b
  | .int i => .int i
  | .str s => .str s
  | .lst xs => .list (pys xs)
  | .tup xs => .tuple (pys xs)
  | _ => .none
def pys : List D → List PyData
  | [] => []
  | x :: xs => py x :: pys xs
end
omit [TabC] in
mutual
/-- plain data, so deep at most -/
def okD : Nat → D → Bool
  | _, .non => true
  | _, .bl _ => true
  | _, .int _ => true
  | _, .str _ => true
  | 0, _ => false
  | n + 1, .lst xs => okDs n xs
  | n + 1, .tup xs => okDs n xs
  | _, _ => false
def okDs : Nat → List D → Bool
  | _, [] => true
  | n, x :: xs => okD n x && okDs n xs
end
omit [TabC] in
def eqv (a b : D) : Bool := PyData.eqv (py a) (py b)
omit [TabC] in
def eqD (a b : D) : Option D := if okD 60 a && okD 60 b then some (.bl (eqv a b)) else none
omit [TabC] in
def neD (a b : D) : Option D := if okD 60 a && okD 60 b then some (.bl (!eqv a b)) else none
omit [TabC] in
mutual
theorem py_plain : ∀ (n : Nat) (d : D), okD n d = true → (py d).plain = true ∧ (py d).depth ≤ n
  | _, .non, _ => ⟨rfl, by simp [py, PyData.depth]⟩
  | _, .bl _, _ => ⟨rfl, by simp [py, PyData.depth]⟩
  | _, .int _, _ => ⟨rfl, by simp [py, PyData.depth]⟩
  | _, .str _, _ => ⟨rfl, by simp [py, PyData.depth]⟩
  | 0, .lst _, h => by simp [okD] at h
  | 0, .tup _, h => by simp [okD] at h
  | 0, .dT _, h => by simp [okD] at h
  | 0, .dK _, h => by simp [okD] at h
  | 0, .obj _ _, h => by simp [okD] at h
  | 0, .scr _, h => by simp [okD] at h
  | n + 1, .lst xs, h => by
    have := pys_plain n xs (by simpa [okD] using h)
    exact ⟨by simpa [py, PyData.plain] using this.1, by simp only [py, PyData.depth]; omega⟩
  | n + 1, .tup xs, h => by
    have := pys_plain n xs (by simpa [okD] using h)
    exact ⟨by simpa [py, PyData.plain] using this.1, by simp only [py, PyData.depth]; omega⟩
  | n + 1, .dT _, h => by simp [okD] at h
  | n + 1, .dK _, h => by simp [okD] at h
  | n + 1, .obj _ _, h => by simp [okD] at h
  | n + 1, .scr _, h => by simp [okD] at h
theorem pys_plain : ∀ (n : Nat) (ds : List D), okDs n ds = true → PyData.plainAll (pys ds) = true ∧ PyData.depthAll (pys ds) ≤ n
  | _, [], _ => ⟨rfl, by simp [pys, PyData.depthAll]⟩
  | n, d :: ds, h => by
    rw [okDs, Bool.and_eq_true] at h
    have h1 := py_plain n d h.1
    have h2 := pys_plain n ds h.2
    refine ⟨by rw [pys, PyData.plainAll, h1.1, h2.1]; rfl, ?_⟩
    simp only [pys, PyData.depthAll]
    omega
end
omit [TabC] in
mutual
theorem Rp.dp {G : Gc} {H : Hp} {W : List Addr} : ∀ (n : Nat) (d : D) (v : V), okD n d = true → Rp G H W d v → Dp G.K H v (py d)
  | _, .non, _, _, h => by cases (show _ = V.non from h); exact .non
  | _, .bl _, _, _, h => by cases (show _ = V.bl _ from h); exact .bl _
  | _, .int _, _, _, h => by cases (show _ = V.int _ from h); exact .int _
  | _, .str _, _, _, h => by cases (show _ = V.str _ from h); exact .str _
  | 0, .lst _, _, h, _ => by simp [okD] at h
  | 0, .tup _, _, h, _ => by simp [okD] at h
  | 0, .dT _, _, h, _ => by simp [okD] at h
  | 0, .dK _, _, h, _ => by simp [okD] at h
  | 0, .obj _ _, _, h, _ => by simp [okD] at h
  | 0, .scr _, _, h, _ => by simp [okD] at h
  | n + 1, .lst ds, v, h, ⟨a, vs, e, f, l, r⟩ => by
    subst e
    exact .lst f.sq (RpAll.dp n ds vs (by simpa [okD] using h) r)
  | n + 1, .tup ds, v, h, ⟨a, vs, e, f, l, r⟩ => by
    subst e
    exact .tup f.sq (RpAll.dp n ds vs (by simpa [okD] using h) r)
  | n + 1, .dT _, _, h, _ => by simp [okD] at h
  | n + 1, .dK _, _, h, _ => by simp [okD] at h
  | n + 1, .obj _ _, _, h, _ => by simp [okD] at h
  | n + 1, .scr _, _, h, _ => by simp [okD] at h
theorem RpAll.dp {G : Gc} {H : Hp} {W : List Addr} : ∀ (n : Nat) (ds : List D) (vs : List V), okDs n ds = true → RpAll G H W ds vs → DpAll G.K H vs (pys ds)
  | _, [], _, _, h => by cases (show _ = [] from h); exact .nil
  | n, d :: ds, _, h, ⟨x, xs, e, r, q⟩ => by
    subst e
    rw [okDs, Bool.and_eq_true] at h
    exact .cons (Rp.dp n d x h.1 r) (RpAll.dp n ds xs h.2 q)
end
section
variable {X : Cx}
omit [TabC] in
def rEqP (K : PySem.W.Frag) : R2 := fun x y H Q => ∃ d e, Dp K H x d ∧ Dp K H y e ∧ d.plain = true ∧ e.plain = true ∧ d.depth ≤ 60 ∧ Q (.bl (PyData.eqv d e)) H
omit [TabC] in
def rNeP (K : PySem.W.Frag) : R2 := fun x y H Q => ∃ d e, Dp K H x d ∧ Dp K H y e ∧ d.plain = true ∧ e.plain = true ∧ d.depth ≤ 60 ∧ Q (.bl (!PyData.eqv d e)) H
omit [TabC] in
theorem op_eqP (hu : X.A.units + 64 < cLine) : OpR X (compareOp .Eq) (rEqP X.K) := by
  intro pins s σ H x y v u Q I rx ry h
  obtain ⟨d, e, hd, he, sd, se, dd, q⟩ := h
  obtain ⟨as, r1⟩ := Dp.reads I d x v hd rx
  obtain ⟨bs, r2⟩ := Dp.reads I e y u he ry
  exact SeqAt.eq_plain r1 r2 sd se (by omega) ⟨.bl _, H, I, rfl, q⟩
omit [TabC] in
theorem op_neP (hu : X.A.units + 64 < cLine) : OpR X (compareOp .NotEq) (rNeP X.K) := by
  intro pins s σ H x y v u Q I rx ry h
  obtain ⟨d, e, hd, he, sd, se, dd, q⟩ := h
  obtain ⟨as, r1⟩ := Dp.reads I d x v hd rx
  obtain ⟨bs, r2⟩ := Dp.reads I e y u he ry
  exact SeqAt.ne_plain r1 r2 sd se (by omega) ⟨.bl _, H, I, rfl, q⟩
theorem od_eq : OpD X.G (rEqP X.K) eqD := by
  intro H W x y dx dy z Q th rx ry e q
  unfold eqD at e
  split at e
  · rename_i l
    cases e
    rw [Bool.and_eq_true] at l
    have p1 := py_plain 60 dx l.1
    have p2 := py_plain 60 dy l.2
    exact ⟨_, _, Rp.dp 60 dx x l.1 rx, Rp.dp 60 dy y l.2 ry, p1.1, p2.1, p1.2, q _ H (Fm.refl _ _) rfl⟩
  · cases e
theorem od_ne : OpD X.G (rNeP X.K) neD := by
  intro H W x y dx dy z Q th rx ry e q
  unfold neD at e
  split at e
  · rename_i l
    cases e
    rw [Bool.and_eq_true] at l
    have p1 := py_plain 60 dx l.1
    have p2 := py_plain 60 dy l.2
    exact ⟨_, _, Rp.dp 60 dx x l.1 rx, Rp.dp 60 dy y l.2 ry, p1.1, p2.1, p1.2, q _ H (Fm.refl _ _) rfl⟩
  · cases e
end
omit [TabC] in
/-- is None -/
def isND : D → Bool
  | .non => true
  | _ => false
omit [TabC] in
theorem isN_rp {G : Gc} {H : Hp} {W : List Addr} {d : D} {v : V} (h : Rp G H W d v) : decide (v = .non) = isND d := by
  cases d with
  | non => cases (show v = .non from h); rfl
  | bl => cases (show v = .bl _ from h); rfl
  | int => cases (show v = .int _ from h); rfl
  | str => cases (show v = .str _ from h); rfl
  | lst => obtain ⟨a, vs, rfl, _⟩ := h; rfl
  | tup => obtain ⟨a, vs, rfl, _⟩ := h; rfl
  | dT => obtain ⟨a, vs, rfl, _⟩ := h; rfl
  | dK => obtain ⟨a, vs, rfl, _⟩ := h; rfl
  | obj => obtain ⟨a, Ca, dx, vs, rfl, _⟩ := h; rfl
  | scr => obtain ⟨a, rfl, _⟩ := h; rfl
omit [TabC] in
def isD : D → D → Option D
  | a, .non => some (.bl (isND a))
  | .bl a, .bl b => some (.bl (decide (a = b)))
  | _, _ => none
section
variable {X : Cx}
omit [TabC] in
def rIsA : R2 := fun x y H Q => (y = .non ∧ Q (.bl (decide (x = .non))) H) ∨ rIsB x y H Q
omit [TabC] in
theorem op_isA : OpR X (compareOp .Is) rIsA := op_isN.or op_isBl
theorem od_is : OpD X.G rIsA isD := by
  intro H W x y dx dy z Q th rx ry e q
  cases dy with
  | non =>
    have e2 : z = .bl (isND dx) := by cases dx <;> (cases e; rfl)
    subst e2
    refine .inl ⟨ry, ?_⟩
    rw [isN_rp rx]
    exact q _ H (Fm.refl _ _) rfl
  | bl b =>
    cases dx with
    | bl a => cases e; exact .inr ⟨a, b, rx, ry, q _ H (Fm.refl _ _) rfl⟩
    | _ => cases e
  | _ => cases dx <;> cases e
omit [TabC] in
def ixD : D → D → Option D
  | .lst ds, .int i => atI ds i
  | .tup ds, .int i => atI ds i
  | .str z, .int i => if lim z.length then (atI z.cps.toList i).map fun c => .str ⟨#[c]⟩ else none
  | .scr ns, .int i => (atI ns i).map D.int
  | _, _ => none
omit [TabC] in
theorem atI_rp {G : Gc} {H : Hp} {W : List Addr} {ds : List D} {vs : List V} (r : RpAll G H W ds vs) {i : Int} {d : D} (h : atI ds i = some d) : ∃ v, atI vs i = some v ∧ Rp G H W d v := by
  unfold atI at h ⊢
  rw [r.length]
  cases e : ixN ds.length i with
  | none => rw [e] at h; cases h
  | some j =>
    rw [e] at h
    exact r.get h
omit [TabC] in
theorem scr_sq {G : Gc} {H : Hp} {W : List Addr} {ns : List Int} {x : V} (h : Rp G H W (.scr ns) x) : ∃ a, x = .ref a ∧ SqL G.K H a (ns.map V.int) := by
  obtain ⟨a, e, f, l⟩ := h
  exact ⟨a, e, f.imp (·.2) id⟩
omit [TabC] in
theorem atI_int {ns : List Int} {i : Int} {d : D} (h : (atI ns i).map D.int = some d) : ∃ n, atI (ns.map V.int) i = some (.int n) ∧ d = .int n := by
  unfold atI at h ⊢
  rw [List.length_map]
  cases e : ixN ns.length i with
  | none => rw [e] at h; cases h
  | some j =>
    rw [e] at h
    simp only [Option.bind_some] at h ⊢
    rw [List.getElem?_map]
    cases e2 : ns[j]? with
    | none => rw [e2] at h; cases h
    | some n => rw [e2] at h; cases h; exact ⟨n, rfl, rfl⟩
theorem od_ix : OpD X.G (rIx X.K) ixD := by
  intro H W x y dx dy z Q th rx ry e q
  cases dy with
  | int i =>
    cases dx with
    | lst ds =>
      obtain ⟨a, vs, rfl, fa, la, ra⟩ := rx
      obtain ⟨v, hv, rv⟩ := atI_rp ra e
      exact .inl ⟨a, vs, i, v, rfl, ry, fa.sq, hv, q v H (Fm.refl _ _) rv⟩
    | tup ds =>
      obtain ⟨a, vs, rfl, fa, la, ra⟩ := rx
      obtain ⟨v, hv, rv⟩ := atI_rp ra e
      exact .inr (.inl ⟨a, vs, i, v, rfl, ry, fa.sq, hv, q v H (Fm.refl _ _) rv⟩)
    | str s =>
      simp only [ixD] at e
      split at e
      · rename_i l
        cases e2 : atI s.cps.toList i with
        | none => rw [e2] at e; cases e
        | some c =>
          rw [e2] at e
          cases e
          exact .inr (.inr ⟨s, i, c, rx, ry, lim_line l, e2, q _ H (Fm.refl _ _) rfl⟩)
      · cases e
    | scr ns =>
      obtain ⟨a, rfl, sq⟩ := scr_sq rx
      obtain ⟨n, h1, rfl⟩ := atI_int e
      exact .inl ⟨a, _, i, _, rfl, ry, sq, h1, q _ H (Fm.refl _ _) rfl⟩
    | _ => cases e
  | _ => cases dx <;> cases e
end
omit [TabC] in
def ints? : List D → Option (List Int)
  | [] => some []
  | .int i :: r => (ints? r).map (i :: ·)
  | _ => none
omit [TabC] in
def bools? : List D → Option (List Bool)
  | [] => some []
  | .bl i :: r => (bools? r).map (i :: ·)
  | _ => none
omit [TabC] in
theorem ints_vals {G : Gc} {H : Hp} {W : List Addr} : ∀ {ds : List D} {vs : List V} {ns : List Int}, RpAll G H W ds vs → ints? ds = some ns → vs = ns.map V.int ∧ ds = ns.map D.int
  | [], _, _, r, e => by cases e; exact ⟨r, rfl⟩
  | .int i :: ds, _, _, ⟨x, xs, ex, r, k⟩, e => by
    unfold ints? at e
    cases e1 : ints? ds with
    | none => rw [e1] at e; cases e
    | some ms =>
      rw [e1] at e
      cases e
      obtain ⟨h1, h2⟩ := ints_vals k e1
      rw [ex, show x = .int i from r, h1, h2]
      exact ⟨rfl, rfl⟩
  | .non :: _, _, _, _, e => nomatch e
  | .bl _ :: _, _, _, _, e => nomatch e
  | .str _ :: _, _, _, _, e => nomatch e
  | .lst _ :: _, _, _, _, e => nomatch e
  | .tup _ :: _, _, _, _, e => nomatch e
  | .dT _ :: _, _, _, _, e => nomatch e
  | .dK _ :: _, _, _, _, e => nomatch e
  | .obj _ _ :: _, _, _, _, e => nomatch e
  | .scr _ :: _, _, _, _, e => nomatch e
omit [TabC] in
theorem bools_vals {G : Gc} {H : Hp} {W : List Addr} : ∀ {ds : List D} {vs : List V} {ns : List Bool}, RpAll G H W ds vs → bools? ds = some ns → vs = ns.map V.bl
  | [], _, _, r, e => by cases e; exact r
  | .bl i :: ds, _, _, ⟨x, xs, ex, r, k⟩, e => by
    unfold bools? at e
    cases e1 : bools? ds with
    | none => rw [e1] at e; cases e
    | some ms =>
      rw [e1] at e
      cases e
      rw [ex, show x = .bl i from r, bools_vals k e1]
      rfl
  | .non :: _, _, _, _, e => nomatch e
  | .int _ :: _, _, _, _, e => nomatch e
  | .str _ :: _, _, _, _, e => nomatch e
  | .lst _ :: _, _, _, _, e => nomatch e
  | .tup _ :: _, _, _, _, e => nomatch e
  | .dT _ :: _, _, _, _, e => nomatch e
  | .dK _ :: _, _, _, _, e => nomatch e
  | .obj _ _ :: _, _, _, _, e => nomatch e
  | .scr _ :: _, _, _, _, e => nomatch e
omit [TabC] in
theorem rp_ints {G : Gc} {H : Hp} {W : List Addr} : ∀ ns : List Int, RpAll G H W (ns.map D.int) (ns.map V.int)
  | [] => rfl
  | i :: ns => ⟨.int i, ns.map V.int, rfl, rfl, rp_ints ns⟩
omit [TabC] in
def lenF : List D → Option D
  | [.lst ds] => some (.int ds.length)
  | [.tup ds] => some (.int ds.length)
  | [.str z] => if lim z.length then some (.int z.length) else none
  | [.scr ns] => some (.int ns.length)
  | _ => none
omit [TabC] in
def absF : List D → Option D
  | [.int i] => some (.int (if i < 0 then -i else i))
  | _ => none
omit [TabC] in
def minF : List D → Option D
  | [.int i, .int j] => some (.int (if j < i then j else i))
  | _ => none
omit [TabC] in
def allF : List D → Option D
  | [.lst ds] => (bools? ds).map fun ns => .bl (ns.all id)
  | _ => none
omit [TabC] in
def listF : List D → Option D
  | [.lst ds] => some (.lst ds)
  | [.tup ds] => some (.lst ds)
  | _ => none
omit [TabC] in
def tupF : List D → Option D
  | [.lst ds] => some (.tup ds)
  | [.tup ds] => some (.tup ds)
  | _ => none
omit [TabC] in
def intF : List D → Option D
  | [.int i] => some (.int i)
  | [.bl k] => some (.int (if k then 1 else 0))
  | _ => none
omit [TabC] in
theorem one_of {G : Gc} {H : Hp} {W : List Addr} {d : D} {vs : List V} (r : RpAll G H W [d] vs) : ∃ x, vs = [x] ∧ Rp G H W d x := by
  obtain ⟨x, xs, e, h, k⟩ := r
  cases (show xs = [] from k)
  exact ⟨x, e, h⟩
omit [TabC] in
theorem two_of {G : Gc} {H : Hp} {W : List Addr} {d e : D} {vs : List V} (r : RpAll G H W [d, e] vs) : ∃ x y, vs = [x, y] ∧ Rp G H W d x ∧ Rp G H W e y := by
  obtain ⟨x, xs, ex, h, k⟩ := r
  obtain ⟨y, rfl, h2⟩ := one_of k
  exact ⟨x, y, ex, h, h2⟩
section
variable {X : Cx}
omit [TabC] in
abbrev rLenA (K : PySem.W.Frag) : List V → Hp → VK → Prop := fun xs H Q => (∃ p ys, xs = [.ref p] ∧ (SqL K H p ys ∨ SqT K H p ys) ∧ Q (.int ys.length) H) ∨ (∃ z, xs = [.str z] ∧ z.length ≤ sizeLine ∧ Q (.int z.length) H)
omit [TabC] in
theorem cr_len : CallR X (.builtin "len") (rLenA X.K) := call_len_seq.or call_len_str
theorem cd_len : CallD X.G (rLenA X.K) lenF := by
  intro H W xs ds z Q th r e q
  match ds, e with
  | [.lst ds], e =>
    cases e
    obtain ⟨x, rfl, a, vs, rfl, fa, la, ra⟩ := one_of r
    refine .inl ⟨a, vs, rfl, .inl fa.sq, ?_⟩
    rw [ra.length]
    exact q _ H (Fm.refl _ _) rfl
  | [.tup ds], e =>
    cases e
    obtain ⟨x, rfl, a, vs, rfl, fa, la, ra⟩ := one_of r
    refine .inl ⟨a, vs, rfl, .inr fa.sq, ?_⟩
    rw [ra.length]
    exact q _ H (Fm.refl _ _) rfl
  | [.str s], e =>
    simp only [lenF] at e
    split at e
    · rename_i l
      cases e
      obtain ⟨x, rfl, rfl⟩ := one_of r
      exact .inr ⟨s, rfl, lim_line l, q _ H (Fm.refl _ _) rfl⟩
    · cases e
  | [.scr ns], e =>
    cases e
    obtain ⟨x, rfl, rx⟩ := one_of r
    obtain ⟨a, rfl, sq⟩ := scr_sq rx
    refine .inl ⟨a, _, rfl, .inl sq, ?_⟩
    rw [List.length_map]
    exact q _ H (Fm.refl _ _) rfl
theorem cd_abs : CallD X.G (fun xs H Q => ∃ i, xs = [.int i] ∧ Q (.int (if i < 0 then -i else i)) H) absF := by
  intro H W xs ds z Q th r e q
  match ds, e with
  | [.int i], e =>
    cases e
    obtain ⟨x, rfl, rfl⟩ := one_of r
    exact ⟨i, rfl, q _ H (Fm.refl _ _) rfl⟩
theorem cd_min : CallD X.G (fun xs H Q => ∃ i j, xs = [.int i, .int j] ∧ Q (.int (if j < i then j else i)) H) minF := by
  intro H W xs ds z Q th r e q
  match ds, e with
  | [.int i, .int j], e =>
    cases e
    obtain ⟨x, y, rfl, rfl, rfl⟩ := two_of r
    exact ⟨i, j, rfl, q _ H (Fm.refl _ _) rfl⟩
omit [TabC] in
theorem lst_arg {G : Gc} {H : Hp} {W : List Addr} {ds : List D} {xs : List V} (r : RpAll G H W [.lst ds] xs) : ∃ a vs, xs = [.ref a] ∧ FL H W a vs ∧ ds.length ≤ sizeLine ∧ RpAll G H W ds vs := by
  obtain ⟨x, rfl, a, vs, rfl, fa, la, ra⟩ := one_of r
  exact ⟨a, vs, rfl, fa, la, ra⟩
theorem cd_all : CallD X.G (rAll X.K) allF := by
  intro H W xs ds z Q th r e q
  match ds, e with
  | [.lst ds], e =>
    obtain ⟨a, vs, rfl, fa, la, ra⟩ := lst_arg r
    simp only [allF] at e
    cases e1 : bools? ds with
    | none => rw [e1] at e; cases e
    | some ns =>
      rw [e1] at e
      cases e
      have h1 := bools_vals ra e1
      subst h1
      exact ⟨a, ns, rfl, fa.sq, q _ H (Fm.refl _ _) rfl⟩
theorem cd_list : CallD X.G (fun xs H Q => ∃ p ys, xs = [.ref p] ∧ (SqL X.K H p ys ∨ SqT X.K H p ys) ∧ ∀ l, H l = none → Q (.ref l) (upd H l (.lst ys))) listF := by
  intro H W xs ds z Q th r e q
  match ds, e with
  | [.lst ds], e =>
    cases e
    obtain ⟨x, rfl, a, vs, rfl, fa, la, ra⟩ := one_of r
    exact ⟨a, vs, rfl, .inl fa.sq, fun p n => q _ _ (fm_new n) ⟨p, _, rfl, ⟨new_out th n, .inl upd_same⟩, la, RpAll.mo (new_mo (G := X.G) n) _ _ ra⟩⟩
  | [.tup ds], e =>
    cases e
    obtain ⟨x, rfl, a, vs, rfl, fa, la, ra⟩ := one_of r
    exact ⟨a, vs, rfl, .inr fa.sq, fun p n => q _ _ (fm_new n) ⟨p, _, rfl, ⟨new_out th n, .inl upd_same⟩, la, RpAll.mo (new_mo (G := X.G) n) _ _ ra⟩⟩
theorem cd_tup : CallD X.G (fun xs H Q => ∃ p ys, xs = [.ref p] ∧ ((SqL X.K H p ys ∧ ∀ l, H l = none → Q (.ref l) (upd H l (.tup ys))) ∨ (SqT X.K H p ys ∧ Q (.ref p) H))) tupF := by
  intro H W xs ds z Q th r e q
  match ds, e with
  | [.lst ds], e =>
    cases e
    obtain ⟨x, rfl, a, vs, rfl, fa, la, ra⟩ := one_of r
    exact ⟨a, vs, rfl, .inl ⟨fa.sq, fun p n => q _ _ (fm_new n) ⟨p, _, rfl, upd_same, la, RpAll.mo (new_mo (G := X.G) n) _ _ ra⟩⟩⟩
  | [.tup ds], e =>
    cases e
    obtain ⟨x, rfl, rr⟩ := one_of r
    have rr0 := rr
    obtain ⟨a, vs, rfl, fa, la, ra⟩ := rr
    exact ⟨a, vs, rfl, .inr ⟨fa.sq, q _ H (Fm.refl _ _) rr0⟩⟩
theorem cd_int : CallD X.G (fun xs H Q => (∃ i, xs = [.int i] ∧ Q (.int i) H) ∨ ∃ k, xs = [.bl k] ∧ Q (.int (if k then 1 else 0)) H) intF := by
  intro H W xs ds z Q th r e q
  match ds, e with
  | [.int i], e =>
    cases e
    obtain ⟨x, rfl, rfl⟩ := one_of r
    exact .inl ⟨i, rfl, q _ H (Fm.refl _ _) rfl⟩
  | [.bl i], e =>
    cases e
    obtain ⟨x, rfl, rfl⟩ := one_of r
    exact .inr ⟨i, rfl, q _ H (Fm.refl _ _) rfl⟩
end
end DL
namespace DL
open PySem L2
variable [TabC]
omit [TabC] in
abbrev GM := D → Env → Option Env
omit [TabC] in
/-- alike but for some places -/
def Al (is : List Nat) (σ σ' : L2.St) : Prop := σ'.length = σ.length ∧ ∀ j, j ∉ is → σ'[j]? = σ[j]?
omit [TabC] in
theorem Al.refl (is : List Nat) (σ : L2.St) : Al is σ σ := ⟨rfl, fun _ _ => rfl⟩
omit [TabC] in
theorem Al.trans {is js : List Nat} {σ σ1 σ2 : L2.St} (a : Al is σ σ1) (b : Al js σ1 σ2) : Al (is ++ js) σ σ2 :=
  ⟨b.1.trans a.1, fun j n => (b.2 j fun z => n (List.mem_append_right _ z)).trans (a.2 j fun z => n (List.mem_append_left _ z))⟩
omit [TabC] in
theorem Al.wipe {is vs : List Nat} {σ σ1 : L2.St} (a : Al is σ σ1) (h : ∀ i ∈ is, i ∈ vs) : wipe σ1 vs = wipe σ vs := by
  apply List.ext_getElem?
  intro j
  by_cases m : j ∈ vs
  · have key : ∀ (vs : List Nat) (σ : L2.St), j ∈ vs → (L2.wipe σ vs)[j]? = if j < σ.length then some none else none := by
      intro vs
      induction vs with
      | nil => intro σ h; simp at h
      | cons v r ih =>
        intro σ hm
        show ((L2.wipe σ r).set v none)[j]? = _
        by_cases e : v = j
        · subst e
          by_cases l : v < σ.length
          · rw [if_pos l, List.getElem?_set_self (by rw [wipe_length]; exact l)]
          · rw [if_neg l, List.getElem?_eq_none (by rw [List.length_set, wipe_length]; exact Nat.not_lt.mp l)]
        · rw [List.getElem?_set_ne e]
          rcases List.mem_cons.mp hm with z | z
          · exact absurd z.symm e
          · exact ih σ z
    rw [key vs σ1 m, key vs σ m, a.1]
  · rw [wipe_out m, wipe_out m]
    exact a.2 j fun z => m (h j z)
structure DG (X : Cx) (tg : Expr) (t : TG) (is : List Nat) (g : GM) : Prop where
  pe : PG X tg t
  q : ∀ (Γ : Gam) (σ : L2.St) (H : Hp) (ρ : Env) (d : D) (v : V) (ρ' : Env) (Q : L2.St → Hp → Prop), Sr Γ X.G H σ ρ → Rp X.G H (Γ.w σ ρ) d v → g d ρ = some ρ' →
    (∀ σ', So Γ X.G σ ρ H σ' ρ' H → Al is σ σ' → Q σ' H) → t v σ H Q
structure DGs (X : Cx) (ts : List Expr) (t : TGs) (is : List Nat) (g : List D → Env → Option Env) : Prop where
  pe : PGs X ts t
  q : ∀ (Γ : Gam) (σ : L2.St) (H : Hp) (ρ : Env) (ds : List D) (vs : List V) (ρ' : Env) (Q : L2.St → Hp → Prop), Sr Γ X.G H σ ρ → RpAll X.G H (Γ.w σ ρ) ds vs → g ds ρ = some ρ' →
    (∀ σ', So Γ X.G σ ρ H σ' ρ' H → Al is σ σ' → Q σ' H) → t vs σ H Q
omit [TabC] in
def gV (i : Nat) : GM := fun d ρ => putV i d ρ
omit [TabC] in
def gNil : List D → Env → Option Env := fun ds ρ => match ds with
  | [] => some ρ
  | _ => none
omit [TabC] in
def gCons (g : GM) (r : List D → Env → Option Env) : List D → Env → Option Env := fun ds ρ => match ds with
  | d :: ds => (g d ρ).bind fun ρ' => r ds ρ'
  | [] => none
omit [TabC] in
def gT (r : List D → Env → Option Env) : GM := fun d ρ => match d with
  | .tup ds => r ds ρ
  | _ => none
section
variable {X : Cx} {pos : Pos} {e : Expr} {es : List Expr} {is js : List Nat} {g : GM} {gs : List D → Env → Option Env} {tg : TG} {tgs : TGs}
theorem dg_name (i : Nat) {x : Str} (hN : X.N.Nodup) (hi : X.N[i]? = some x := by rfl) (hx : Loc X.env.scope x := by first | exact Or.inl rfl | exact Or.inr rfl)
    (hf : X.fn x = true ∨ X.env.scope.names.lookup x = some .local := by first | exact .inl rfl | exact .inr rfl) : DG X (.Name x pos) (gName i) [i] (gV i) := by
  refine ⟨pg_name hN hi hx hf, fun Γ σ H ρ d v ρ' Q s r h k => ?_⟩
  exact k _ (s.put h r) ⟨by simp, fun j n => by rw [List.getElem?_set_ne (fun z => n (by simp [z]))]⟩
theorem dgs_nil : DGs X [] L2.gNil [] gNil := by
  refine ⟨pgs_nil, fun Γ σ H ρ ds vs ρ' Q s r h k => ?_⟩
  cases ds with
  | nil =>
    cases h
    exact ⟨r, k σ (So.refl s) (Al.refl _ _)⟩
  | cons d ds => cases h
theorem dgs_cons (h1 : DG X e tg is g) (h2 : DGs X es tgs js gs) (hs : (assignEach (e :: es) X.env).map (·.2) = assign e X.env :: (assignEach es X.env).map (·.2) := by rfl) : DGs X (e :: es) (L2.gCons tg tgs) (is ++ js) (gCons g gs) := by
  obtain ⟨p1, q1⟩ := h1
  obtain ⟨p2, q2⟩ := h2
  refine ⟨pgs_cons p1 p2 hs, fun Γ σ H ρ ds vs ρ' Q s r h k => ?_⟩
  cases ds with
  | nil => cases h
  | cons d ds =>
    obtain ⟨x, xs, e, r1, r2⟩ := r
    simp only [gCons] at h
    cases e1 : g d ρ with
    | none => rw [e1] at h; cases h
    | some ρ1 =>
      rw [e1] at h
      refine ⟨x, xs, e, q1 Γ σ H ρ d x ρ1 _ s r1 e1 fun σ1 a1 al1 => ?_⟩
      exact q2 Γ σ1 H ρ1 ds xs ρ' _ a1.sr (RpAll.mo (a1.mo s) _ _ r2) h fun σ2 a2 al2 => k σ2 (a1.trans a2) (al1.trans al2)
theorem dg_tup {k : Nat} {n : Nat} (hc : X.calm = true) (h : DGs X es tgs is gs) (hd : ∀ ds ρ ρ', gs ds ρ = some ρ' → ds.length = n)
    (hn : (assignEach es X.env).length = n := by rfl) (hst : (assignEach es X.env).findIdx? (·.1) = none := by rfl) : DG X (.Tuple es k pos) (gTup X.K n tgs) is (gT gs) := by
  obtain ⟨p1, q1⟩ := h
  refine ⟨pg_tup hc p1 hn hst, fun Γ σ H ρ d v ρ' Q s r h k => ?_⟩
  cases d with
  | tup ds =>
    obtain ⟨a, vs, rfl, fa, la, ra⟩ := r
    refine ⟨a, vs, rfl, fa.sq, ra.length.trans (hd ds ρ ρ' h), ?_⟩
    exact q1 Γ σ H ρ ds vs ρ' _ s ra h k
  | _ => cases h
end
structure WalkD (G : Gc) (W0 : List Addr) (H0 : Hp) (J : It) (ds : List D) : Prop where
  le : ds.length ≤ sizeLine
  go : ∀ (H : Hp) (i : Nat), Fm W0 H0 H → i < ds.length → J.go i H
  stop : ∀ (H : Hp), Fm W0 H0 H → J.stop ds.length H
  yld : ∀ (H : Hp) (i : Nat) (x : V) (H' : Hp), Fm W0 H0 H → J.yld i H x H' → i < ds.length → Fm [] H H' ∧ ∀ (W : List Addr) (d : D), ds[i]? = some d → (∀ b ∈ W, (b ∈ W0 ∨ H0 b = none) ∧ H b ≠ none) → Rp G H' W d x
omit [TabC] in
abbrev IM := Env → Option (List D × Env)
structure DI (X : Cx) (tg iter : Expr) (wi : TI) (m : IM) : Prop where
  pe : PI X tg iter wi
  q : ∀ (Γ : Gam) (σ : L2.St) (H : Hp) (ρ : Env) (ds : List D) (ρ' : Env) (R : It → Hp → Prop), Sr Γ X.G H σ ρ → m ρ = some (ds, ρ') →
    (∀ J H', Po Γ X.G σ ρ H ρ' H' → WalkD X.G (Γ.w σ ρ') H' J ds → R J H') → wi σ H R
omit [TabC] in
def rngD (lo : Int) (n : Nat) : List D := (List.range n).map fun (i : Nat) => D.int (lo + (i : Int))
omit [TabC] in
def ok62 (i : Int) : Bool := decide (-(2 ^ 62) ≤ i) && decide (i < 2 ^ 62)
omit [TabC] in
def rng1 : List Arg → Option (List D)
  | [.val (.int j)] => if ok62 j && lim j.toNat then some (rngD 0 j.toNat) else none
  | _ => none
omit [TabC] in
def iArg (f : List Arg → Option (List D)) (m : AM) : IM := fun ρ => (m ρ).bind fun p => (f p.1).map fun ds => (ds, p.2)
theorem fm_mo {W0 W : List Addr} {H0 H : Hp} (f : Fm W0 H0 H) (w : ∀ b ∈ W, (b ∈ W0 ∨ H0 b = none) ∧ H b ≠ none) : Mo W0 W H0 H := ⟨f, fun b z => (w b z).1⟩
theorem walkD_list {G : Gc} {W0 : List Addr} {H0 : Hp} {a : Addr} {vs : List V} {ds : List D} (le : ds.length ≤ sizeLine) (fa : FL H0 W0 a vs) (ra : RpAll G H0 W0 ds vs) : WalkD G W0 H0 (Itl G.K a) ds := by
  have sq : ∀ H, Fm W0 H0 H → SqL G.K H a vs := fun H f => .inl (f.rd fa.1 fa.2)
  have w := walk_list (K := G.K) (a := a) (xs := vs)
  rw [ra.length] at w
  refine ⟨le, fun H i f l => w.goes i H l (sq H f), fun H f => w.stops H (sq H f), fun H i x H' f y l => ?_⟩
  obtain ⟨e1, e2⟩ := w.yields i H x H' l (sq H f) y
  subst e1
  refine ⟨Fm.refl _ _, fun W d hd wb => ?_⟩
  obtain ⟨v, hv, rv⟩ := ra.get hd
  rw [e2] at hv
  cases hv
  exact Rp.mo (fm_mo f wb) _ _ rv
theorem walkD_tup {G : Gc} {W0 : List Addr} {H0 : Hp} {a : Addr} {vs : List V} {ds : List D} (le : ds.length ≤ sizeLine) (fa : FT G H0 W0 a vs) (ra : RpAll G H0 W0 ds vs) : WalkD G W0 H0 (Itt G.K a) ds := by
  have sq : ∀ H, Fm W0 H0 H → SqT G.K H a vs := fun H f => by
    exact .inl (.inl (f _ _ (fun _ => rfl) fa rfl))
  have w := walk_tup (K := G.K) (a := a) (xs := vs)
  rw [ra.length] at w
  refine ⟨le, fun H i f l => w.goes i H l (sq H f), fun H f => w.stops H (sq H f), fun H i x H' f y l => ?_⟩
  obtain ⟨e1, e2⟩ := w.yields i H x H' l (sq H f) y
  subst e1
  refine ⟨Fm.refl _ _, fun W d hd wb => ?_⟩
  obtain ⟨v, hv, rv⟩ := ra.get hd
  rw [e2] at hv
  cases hv
  exact Rp.mo (fm_mo f wb) _ _ rv
omit [TabC] in
theorem rngD_length (lo : Int) (n : Nat) : (rngD lo n).length = n := by simp [rngD]
theorem walkD_rng {G : Gc} {W0 : List Addr} {H0 : Hp} {lo : Int} {n : Nat} (hl : lim n = true) : WalkD G W0 H0 (Itr lo n) (rngD lo n) := by
  have w := walk_range (lo := lo) (n := n)
  refine ⟨by rw [rngD_length]; exact lim_line hl, fun H i f l => w.goes i H (by rwa [rngD_length] at l) trivial, fun H f => by rw [rngD_length]; exact w.stops H trivial, fun H i x H' f y l => ?_⟩
  rw [rngD_length] at l
  obtain ⟨e1, e2⟩ := w.yields i H x H' l trivial y
  subst e1
  refine ⟨Fm.refl _ _, fun W d hd wb => ?_⟩
  unfold rngD at hd
  rw [List.getElem?_map, List.getElem?_range l] at hd
  cases hd
  exact e2
section
variable {X : Cx} {tg e a b : Expr} {pos p : Pos} {m : EM} {am : AM} {te : TE} {at1 : TA}
omit [TabC] in
theorem iArg_some {f : List Arg → Option (List D)} {ρ ρ' : Env} {ds : List D} (h : iArg f am ρ = some (ds, ρ')) : ∃ as, am ρ = some (as, ρ') ∧ f as = some ds := by
  unfold iArg at h
  cases e1 : am ρ with
  | none => rw [e1] at h; cases h
  | some r =>
    rw [e1] at h
    replace h : ((f r.1).map fun ds => (ds, r.2)) = some (ds, ρ') := h
    cases e2 : f r.1 with
    | none => rw [e2] at h; cases h
    | some z =>
      rw [e2] at h
      cases h
      exact ⟨_, rfl, e2⟩
theorem di_rng1 (hm : X.mg "range" = none) (ha : DA X [a] at1 am) (hg : Gl X "range" := by rfl) (hs : starEach [a] X.env = [(false, eval a X.env)] := by rfl) : DI X tg (.Call (.Name "range" p) [a] [] pos) (iRng1 at1) (iArg rng1 am) := by
  obtain ⟨p, q⟩ := ha
  refine ⟨pi_range1 hg hm p hs, fun Γ σ H ρ ds ρ' R s h k => ?_⟩
  obtain ⟨as, e1, e2⟩ := iArg_some h
  refine q Γ σ H ρ _ _ _ s e1 fun vs H1 a1 r1 => ?_
  match as, e2, r1 with
  | [.val (.int j)], e2, r1 =>
    simp only [rng1] at e2
    split at e2
    · rename_i l
      cases e2
      unfold ok62 at l
      rw [Bool.and_eq_true, Bool.and_eq_true] at l
      obtain ⟨x, xs, rfl, rx, rr⟩ := r1
      cases (show xs = [] from rr)
      cases (show x = .int j from rx)
      exact ⟨j, rfl, of_decide_eq_true l.1.1, of_decide_eq_true l.1.2, k _ H1 a1 (walkD_rng l.2)⟩
    · cases e2
end
end DL
namespace DL
open PySem L2
variable [TabC]
omit [TabC] in
def nonO : Option Sl → Prop
  | some (.o _) => False
  | _ => True
omit [TabC] in
theorem ownO_cons_non {x : Option V} {s : Sl} (h : nonO (some s)) (σ : L2.St) (ρ : Env) : ownO (x :: σ) (s :: ρ) = ownO σ ρ := by
  cases s with
  | o d => exact h.elim
  | _ =>
    cases x with
    | none => rfl
    | some v => cases v <;> rfl
omit [TabC] in
theorem ownO_congr : ∀ {σ σ' : L2.St} {ρ ρ' : Env}, σ.length = σ'.length → ρ.length = ρ'.length → (∀ i : Nat, (σ[i]? = σ'[i]? ∧ ρ[i]? = ρ'[i]?) ∨ (nonO ρ[i]? ∧ nonO ρ'[i]?)) → ownO σ ρ = ownO σ' ρ'
  | [], [], ρ, ρ', _, _, _ => by simp [ownO]
  | x :: σ, x' :: σ', [], [], _, _, _ => by
    have e : ∀ (x : Option V) (σ : L2.St), ownO (x :: σ) [] = [] := fun x σ => by
      cases x with
      | none => rfl
      | some v => cases v <;> rfl
    rw [e, e]
  | x :: σ, x' :: σ', s :: ρ, s' :: ρ', h1, h2, h => by
    have ih := ownO_congr (σ := σ) (σ' := σ') (ρ := ρ) (ρ' := ρ') (by simpa using h1) (by simpa using h2) fun i => by simpa using h (i + 1)
    rcases h 0 with ⟨a, b⟩ | ⟨a, b⟩
    · have a' : x = x' := by simpa using a
      have b' : s = s' := by simpa using b
      subst a'
      subst b'
      cases s with
      | o d =>
        cases x with
        | none => exact ih
        | some v =>
          cases v with
          | ref q => exact congrArg (q :: ·) ih
          | _ => exact ih
      | _ => rw [ownO_cons_non (by trivial), ownO_cons_non (by trivial), ih]
    · rw [ownO_cons_non (by simpa using a), ownO_cons_non (by simpa using b), ih]
section
variable {Γ : Gam} {G : Gc} {H H' H1 H2 : Hp} {σ σ' σ1 σ2 : L2.St} {ρ ρ' ρ1 ρ2 : Env}
theorem SlR.mo {W W' : List Addr} {π : List (Nat × Addr)} {i : Nat} {x : Option V} {s : Sl} (m : Mo W W' H H') (k : ∀ a x, a ∈ W → H a = some x → H' a = some x ∨ ∀ d, s ≠ .o d ∧ s ≠ .p d) (q : SlR G H W π i x s) (w : ∀ a d, s = .o d ∨ s = .p d → x = some (.ref a) → a ∈ W) : SlR G H' W' π i x s := by
  cases s with
  | e => trivial
  | v d => obtain ⟨v, e, r⟩ := q; exact ⟨v, e, Rp.mo m _ _ r⟩
  | o d => obtain ⟨a, e, r⟩ := q; exact ⟨a, e, r.mo m fun x z _ => (k a x (w a d (.inl rfl) e) z).resolve_right fun h => (h d).1 rfl⟩
  | p d => obtain ⟨a, e, p, r⟩ := q; exact ⟨a, e, p, r.mo m fun x z _ => (k a x (w a d (.inr rfl) e) z).resolve_right fun h => (h d).2 rfl⟩
theorem Sr.ag (s : Sr Γ G H σ ρ) (h1 : σ'.length = σ.length) (h2 : ρ'.length = ρ.length) (hc : ∀ i : Nat, (σ[i]? = σ'[i]? ∧ ρ[i]? = ρ'[i]?) ∨ (nonO ρ[i]? ∧ nonO ρ'[i]?))
    (hs : ∀ (i : Nat) (t : Sl), ρ'[i]? = some t → (ρ[i]? = some t ∧ σ[i]? = σ'[i]?) ∨ ∃ x, σ'[i]? = some x ∧ SlR G H (Γ.w σ ρ) Γ.π i x t) (hp : ∀ p ∈ Γ.π, ρ'[p.1]? = ρ[p.1]?) :
    Sr Γ G H σ' ρ' ∧ ownO σ' ρ' = ownO σ ρ := by
  have eo : ownO σ' ρ' = ownO σ ρ := (ownO_congr h1.symm h2.symm hc).symm
  refine ⟨⟨by rw [h1, h2]; exact s.len, by rw [eo]; exact s.nd, by rw [eo]; exact s.out, fun i t ht => ?_, fun p hp' => ?_, s.pnd, s.th, s.tb⟩, eo⟩
  · show ∃ x, σ'[i]? = some x ∧ SlR G H (ownO σ' ρ' ++ Γ.U) Γ.π i x t
    rw [eo]
    rcases hs i t ht with ⟨a, b⟩ | h
    · rw [← b]; exact s.sl i t a
    · exact h
  · rw [hp p hp']
    exact s.pin p hp'
/-- less that is kept away from -/
theorem Sr.less {U' : List Addr} (s : Sr Γ G H σ ρ) (h : ∀ a ∈ U', a ∈ Γ.U) (hp : ∀ p ∈ Γ.π, p.2 ∈ U') : Sr ⟨U', Γ.π⟩ G H σ ρ := by
  refine ⟨s.len, s.nd, fun a ha z => s.out a ha (h a z), fun i t ht => ?_, fun p hp' => ⟨hp p hp', (s.pin p hp').2⟩, s.pnd, fun a ha => s.th a (h a ha), s.tb⟩
  obtain ⟨x, e, q⟩ := s.sl i t ht
  have m : Mo (Γ.w σ ρ) (ownO σ ρ ++ U') H H := ⟨Fm.refl _ _, fun b z => .inl ((List.mem_append.mp z).elim (fun z => List.mem_append_left _ z) fun z => List.mem_append_right _ (h b z))⟩
  refine ⟨x, e, ?_⟩
  cases t with
  | e => trivial
  | v d => obtain ⟨v, e, r⟩ := q; exact ⟨v, e, Rp.mo m _ _ r⟩
  | o d => obtain ⟨a, e, r⟩ := q; exact ⟨a, e, r.mo m fun x z _ => z⟩
  | p d => obtain ⟨a, e, p, r⟩ := q; exact ⟨a, e, p, r.mo m fun x z _ => z⟩
/-- a new object, kept away from -/
theorem Sr.more {a : Addr} {o : HO} (s : Sr Γ G H σ ρ) (n : H a = none) : Sr ⟨a :: Γ.U, Γ.π⟩ G (upd H a o) σ ρ := by
  have s' := s.keep (fm_new (o := o) n)
  refine ⟨s'.len, s'.nd, fun b hb z => ?_, fun i t ht => ?_, fun p hp => ⟨List.mem_cons_of_mem _ (s'.pin p hp).1, (s'.pin p hp).2⟩, s'.pnd, fun b hb => ?_, s'.tb⟩
  · rcases List.mem_cons.mp z with z | z
    · subst z; exact s.own_th b hb n
    · exact s'.out b hb z
  · obtain ⟨x, e, q⟩ := s.sl i t ht
    have m : Mo (Γ.w σ ρ) (ownO σ ρ ++ a :: Γ.U) H (upd H a o) := ⟨(fm_new n).mono fun _ z => absurd z (by simp), fun b z => by
      rcases List.mem_append.mp z with z | z
      · exact .inl (List.mem_append_left _ z)
      · rcases List.mem_cons.mp z with z | z
        · exact .inr (z ▸ n)
        · exact .inl (List.mem_append_right _ z)⟩
    have kk : ∀ b x, H b = some x → upd H a o b = some x := fun b x z => by rw [upd_ne (ne_of_none z n)]; exact z
    refine ⟨x, e, ?_⟩
    cases t with
    | e => trivial
    | v d => obtain ⟨v, e, r⟩ := q; exact ⟨v, e, Rp.mo m _ _ r⟩
    | o d => obtain ⟨a, e, r⟩ := q; exact ⟨a, e, r.mo m fun x z _ => kk _ _ z⟩
    | p d => obtain ⟨a, e, p, r⟩ := q; exact ⟨a, e, p, r.mo m fun x z _ => kk _ _ z⟩
  · rcases List.mem_cons.mp hb with z | z
    · subst z; rw [upd_same]; exact fun z => nomatch z
    · exact s'.th b z
theorem wr_fm {H : Hp} {a : Addr} {o u : HO} (hv : H a = some u) (hu : isTp u = false := by rfl) (hx : isTb u = false := by rfl) (hy : isEx u = false := by rfl) : Fm [a] H (upd H a o) := Fm.of (fun b x nb e => by rw [upd_ne (fun z : b = a => by subst z; rw [hv] at e; cases e; have := nb (by simp); rw [hu] at this; cases this)]; exact e) fun b x hb e => by
  rw [List.mem_singleton.mp hb, hv] at e
  cases e
  exact ⟨hx, hy⟩
/-- one that is kept away from is changed -/
theorem Sr.wrU {a : Addr} {o u : HO} (s : Sr Γ G H σ ρ) (ha : a ∈ Γ.U) (hp : a ∉ Γ.π.map (·.2)) (hv : H a = some u) (hu : isTp u = false := by rfl) (hx : isTb u = false := by rfl) (hy : isEx u = false := by rfl) : Sr Γ G (upd H a o) σ ρ := by
  have na : a ∉ ownO σ ρ := fun z => s.out a z ha
  have m : Mo (Γ.w σ ρ) (Γ.w σ ρ) H (upd H a o) := ⟨(wr_fm hv hu hx hy).mono fun b z => by rw [List.mem_singleton.mp z]; exact List.mem_append_right _ ha, fun b z => .inl z⟩
  refine ⟨s.len, s.nd, s.out, fun i t ht => ?_, s.pin, s.pnd, fun b hb => ?_, s.tb.fm m.fm⟩
  · obtain ⟨x, e, q⟩ := s.sl i t ht
    refine ⟨x, e, ?_⟩
    cases t with
    | e => trivial
    | v d => obtain ⟨v, e, r⟩ := q; exact ⟨v, e, Rp.mo m _ _ r⟩
    | o d =>
      obtain ⟨b, rfl, r⟩ := q
      have nb : b ≠ a := fun z => na (by rw [← z]; exact mem_ownO.mpr ⟨i, d, e, ht⟩)
      exact ⟨b, rfl, r.mo m fun x z _ => by rw [upd_ne nb]; exact z⟩
    | p d =>
      obtain ⟨b, rfl, p, r⟩ := q
      have nb : b ≠ a := fun z => hp (by rw [← z]; exact List.mem_map.mpr ⟨_, p, rfl⟩)
      exact ⟨b, rfl, p, r.mo m fun x z _ => by rw [upd_ne nb]; exact z⟩
  · by_cases e : b = a
    · rw [e, upd_same]; exact fun z => nomatch z
    · rw [upd_ne e]; exact s.th b hb
end
omit [TabC] in
def wipeE (ρ : Env) : List Nat → Env
  | [] => ρ
  | v :: r => (wipeE ρ r).set v .e
omit [TabC] in
def noOwn (vs : List Nat) (ρ : Env) : Bool := vs.all fun i => match ρ[i]? with
  | some (.o _) => false
  | some (.p _) => false
  | _ => true
omit [TabC] in
def wipeC (vs : List Nat) (ρ : Env) : Option Env := if noOwn vs ρ then some (wipeE ρ vs) else none
omit [TabC] in
/-- the places vs as they were in ρ1 -/
def rstE (ρ1 ρ : Env) : List Nat → Env
  | [] => ρ
  | v :: r => match ρ1[v]? with
    | some s => (rstE ρ1 ρ r).set v s
    | none => rstE ρ1 ρ r
omit [TabC] in
def compT (vs : List Nat) (g : GM) (tt : TM) (el : EM) (d : D) (ρ : Env) : Option (List D × Env) :=
  (g d ρ).bind fun ρ1 => (tt ρ1).bind fun p => if p.1 = true then (el p.2).bind fun q => (wipeC vs q.2).map fun ρ' => ([q.1], ρ') else (wipeC vs p.2).map fun ρ' => ([], ρ')
omit [TabC] in
def compL (vs : List Nat) (g : GM) (tt : TM) (el : EM) : List D → Env → Option (List D × Env)
  | [], ρ => some ([], ρ)
  | d :: ds, ρ => (compT vs g tt el d ρ).bind fun p => (compL vs g tt el ds p.2).map fun q => (p.1 ++ q.1, q.2)
omit [TabC] in
def eComp (vs : List Nat) (it : IM) (g : GM) (tt : TM) (el : EM) : EM := fun ρ => (it ρ).bind fun p => (wipeC vs p.2).bind fun ρw => (compL vs g tt el p.1 ρw).map fun q => (.lst q.1, rstE p.2 q.2 vs)
omit [TabC] in
def tTrue : TM := fun ρ => some (true, ρ)
structure DTs (X : Cx) (ifs : List Expr) (t : TT) (m : TM) : Prop where
  pe : PTs X ifs t
  q : ∀ (Γ : Gam) (σ : L2.St) (H : Hp) (ρ : Env) (d : Bool) (ρ' : Env) (Q : Bool → Hp → Prop), Sr Γ X.G H σ ρ → m ρ = some (d, ρ') →
    (∀ H', Po Γ X.G σ ρ H ρ' H' → Q d H') → t σ H Q
theorem dts_nil {X : Cx} : DTs X [] tYes tTrue := ⟨pts_nil, fun Γ σ H ρ d ρ' Q s h k => by
  cases h
  exact k H (Po.refl s)⟩
theorem dts_one {X : Cx} {c : Expr} {m : TM} {t : TT} (h : DT X c t m) : DTs X [c] t m := by
  obtain ⟨p, q⟩ := h
  exact ⟨pts_one p, q⟩
omit [TabC] in
theorem wipeE_length (ρ : Env) : ∀ vs : List Nat, (wipeE ρ vs).length = ρ.length
  | [] => rfl
  | v :: r => by rw [wipeE, List.length_set, wipeE_length ρ r]
omit [TabC] in
theorem wipeE_out {ρ : Env} {i : Nat} : ∀ {vs : List Nat}, i ∉ vs → (wipeE ρ vs)[i]? = ρ[i]?
  | [], _ => rfl
  | v :: r, h => by
    rw [wipeE, List.getElem?_set_ne (fun z => h (by rw [← z]; exact List.mem_cons_self))]
    exact wipeE_out fun z => h (List.mem_cons_of_mem _ z)
omit [TabC] in
theorem wipeE_in {ρ : Env} {i : Nat} : ∀ {vs : List Nat}, i ∈ vs → (wipeE ρ vs)[i]? = if i < ρ.length then some .e else none
  | v :: r, h => by
    rw [wipeE]
    by_cases e : v = i
    · subst e
      by_cases l : v < ρ.length
      · rw [if_pos l, List.getElem?_set_self (by rw [wipeE_length]; exact l)]
      · rw [if_neg l, List.getElem?_eq_none (by rw [List.length_set, wipeE_length]; exact Nat.not_lt.mp l)]
    · rw [List.getElem?_set_ne e]
      rcases List.mem_cons.mp h with z | z
      · exact absurd z.symm e
      · exact wipeE_in z
omit [TabC] in
theorem wipe_in {σ : L2.St} {i : Nat} : ∀ {vs : List Nat}, i ∈ vs → (wipe σ vs)[i]? = if i < σ.length then some none else none
  | v :: r, h => by
    show ((wipe σ r).set v none)[i]? = _
    by_cases e : v = i
    · subst e
      by_cases l : v < σ.length
      · rw [if_pos l, List.getElem?_set_self (by rw [wipe_length]; exact l)]
      · rw [if_neg l, List.getElem?_eq_none (by rw [List.length_set, wipe_length]; exact Nat.not_lt.mp l)]
    · rw [List.getElem?_set_ne e]
      rcases List.mem_cons.mp h with z | z
      · exact absurd z.symm e
      · exact wipe_in z
omit [TabC] in
theorem wipe_wipe (σ : L2.St) (vs : List Nat) : wipe (wipe σ vs) vs = wipe σ vs := by
  apply List.ext_getElem?
  intro j
  by_cases m : j ∈ vs
  · rw [wipe_in m, wipe_in m, wipe_length]
  · rw [wipe_out m]
omit [TabC] in
theorem rstE_length (ρ1 ρ : Env) : ∀ vs : List Nat, (rstE ρ1 ρ vs).length = ρ.length
  | [] => rfl
  | v :: r => by
    rw [rstE]
    split
    · rw [List.length_set, rstE_length ρ1 ρ r]
    · exact rstE_length ρ1 ρ r
omit [TabC] in
theorem rstE_out {ρ1 ρ : Env} {i : Nat} : ∀ {vs : List Nat}, i ∉ vs → (rstE ρ1 ρ vs)[i]? = ρ[i]?
  | [], _ => rfl
  | v :: r, h => by
    have ih := rstE_out (ρ1 := ρ1) (ρ := ρ) (i := i) (vs := r) fun z => h (List.mem_cons_of_mem _ z)
    rw [rstE]
    split
    · rw [List.getElem?_set_ne (fun z => h (by rw [← z]; exact List.mem_cons_self))]
      exact ih
    · exact ih
omit [TabC] in
theorem rstE_in {ρ1 ρ : Env} {i : Nat} (hl : ρ1.length = ρ.length) : ∀ {vs : List Nat}, i ∈ vs → (rstE ρ1 ρ vs)[i]? = ρ1[i]?
  | v :: r, h => by
    rw [rstE]
    by_cases e : v = i
    · subst e
      cases q : ρ1[v]? with
      | none =>
        show (rstE ρ1 ρ r)[v]? = none
        rw [List.getElem?_eq_none]
        rw [rstE_length, ← hl]
        exact List.getElem?_eq_none_iff.mp q
      | some s =>
        show ((rstE ρ1 ρ r).set v s)[v]? = some s
        rw [List.getElem?_set_self]
        rw [rstE_length, ← hl]
        exact (List.getElem?_eq_some_iff.mp q).1
    · have ih := rstE_in hl (vs := r) (i := i) ((List.mem_cons.mp h).resolve_left fun z => e z.symm)
      split
      · rw [List.getElem?_set_ne e]; exact ih
      · exact ih
omit [TabC] in
theorem noOwn_at {vs : List Nat} {ρ : Env} (h : noOwn vs ρ = true) {i : Nat} (hi : i ∈ vs) : (∀ d, ρ[i]? ≠ some (.o d)) ∧ ∀ d, ρ[i]? ≠ some (.p d) := by
  have := List.all_eq_true.mp h i hi
  constructor
  · intro d e
    rw [e] at this
    cases this
  · intro d e
    rw [e] at this
    cases this
omit [TabC] in
theorem nonO_of {o : Option Sl} (h : ∀ d, o ≠ some (.o d)) : nonO o := by
  cases o with
  | none => trivial
  | some s =>
    cases s with
    | o d => exact h d rfl
    | _ => trivial
section
variable {Γ : Gam} {G : Gc} {H H' H1 H2 : Hp} {σ σ' σ1 σ2 : L2.St} {ρ ρ' ρ1 ρ2 : Env} {vs : List Nat}
omit [TabC] in
theorem wipeC_some (h : wipeC vs ρ = some ρ') : noOwn vs ρ = true ∧ ρ' = wipeE ρ vs := by
  unfold wipeC at h
  split at h
  · rename_i l; cases h; exact ⟨l, rfl⟩
  · cases h
theorem Sr.wipe (s : Sr Γ G H σ ρ) (h : noOwn vs ρ = true) : Sr Γ G H (wipe σ vs) (wipeE ρ vs) ∧ ownO (L2.wipe σ vs) (wipeE ρ vs) = ownO σ ρ := by
  refine s.ag (wipe_length _ _) (wipeE_length _ _) (fun i => ?_) (fun i t ht => ?_) fun p hp => ?_
  · by_cases m : i ∈ vs
    · refine .inr ⟨nonO_of (noOwn_at h m).1, ?_⟩
      rw [wipeE_in m]
      split <;> trivial
    · exact .inl ⟨(wipe_out m).symm, (wipeE_out m).symm⟩
  · by_cases m : i ∈ vs
    · rw [wipeE_in m] at ht
      split at ht
      · rename_i l
        cases ht
        exact .inr ⟨none, by rw [wipe_in m, if_pos (by rw [s.len]; exact l)], trivial⟩
      · cases ht
    · rw [wipeE_out m] at ht
      exact .inl ⟨ht, (wipe_out m).symm⟩
  · have m : p.1 ∉ vs := fun z => by
      obtain ⟨_, d, e⟩ := s.pin p hp
      exact (noOwn_at h z).2 d e
    exact wipeE_out m
end
end DL
namespace DL
open PySem L2
variable [TabC]
omit [TabC] in
theorem compL_cons {vs : List Nat} {g : GM} {tt : TM} {el : EM} {d : D} {ds : List D} {ρ : Env} : compL vs g tt el (d :: ds) ρ = (compT vs g tt el d ρ).bind fun p => (compL vs g tt el ds p.2).map fun q => (p.1 ++ q.1, q.2) := rfl
omit [TabC] in
theorem noOwn_wipe {vs : List Nat} {ρ : Env} : noOwn vs (wipeE ρ vs) = true := by
  refine List.all_eq_true.mpr fun i hi => ?_
  rw [wipeE_in hi]
  split
  · rename_i d e
    split at e <;> cases e
  · rename_i d e
    split at e <;> cases e
  · rfl
omit [TabC] in
theorem compL_split {vs : List Nat} {g : GM} {tt : TM} {el : EM} {ds : List D} {i : Nat} {d : D} {ρ : Env} {zr : List D} {ρf : Env} (hd : ds[i]? = some d) (h : compL vs g tt el (ds.drop i) ρ = some (zr, ρf)) :
    ∃ z ρ' zr', compT vs g tt el d ρ = some (z, ρ') ∧ compL vs g tt el (ds.drop (i + 1)) ρ' = some (zr', ρf) ∧ zr = z ++ zr' := by
  have e : ds.drop i = d :: ds.drop (i + 1) := by
    obtain ⟨l, e⟩ := List.getElem?_eq_some_iff.mp hd
    rw [List.drop_eq_getElem_cons l, e]
  rw [e, compL_cons] at h
  cases e1 : compT vs g tt el d ρ with
  | none => rw [e1] at h; cases h
  | some p =>
    rw [e1] at h
    replace h : ((compL vs g tt el (ds.drop (i + 1)) p.2).map fun q => (p.1 ++ q.1, q.2)) = some (zr, ρf) := h
    cases e2 : compL vs g tt el (ds.drop (i + 1)) p.2 with
    | none => rw [e2] at h; cases h
    | some q =>
      rw [e2] at h
      cases h
      exact ⟨p.1, p.2, q.1, rfl, e2, rfl⟩
/-- a fresh object -/
structure DF (X : Cx) (e : Expr) (t : TE) (m : EM) : Prop where
  pe : PE X e t
  q : ∀ (Γ : Gam) (σ : L2.St) (H : Hp) (ρ : Env) (d : D) (ρ' : Env) (Q : VK), Sr Γ X.G H σ ρ → m ρ = some (d, ρ') →
    (∀ a H', H a = none → Sr ⟨a :: Γ.U, Γ.π⟩ X.G H' σ ρ' → Ow X.G H' (ownO σ ρ' ++ a :: Γ.U) d a → Fm (Γ.mu σ ρ) H H' → (∀ b ∈ ownO σ ρ', b ∈ ownO σ ρ) → Tr H H' → Q (.ref a) H') → t σ H Q
theorem DF.de {X : Cx} {e : Expr} {t : TE} {m : EM} (h : DF X e t m) : DE X e t m := by
  refine ⟨h.pe, fun Γ σ H ρ d ρ' Q s hm k => h.q Γ σ H ρ d ρ' Q s hm fun a H' n sr ow fm sub tr => ?_⟩
  have sl := sr.less (U' := Γ.U) (fun b z => List.mem_cons_of_mem _ z) (fun p hp => (s.pin p hp).1)
  refine k _ H' ⟨sl, fm, sub, tr⟩ (ow.rp (fun z => ?_) fun b z => ?_)
  · rcases List.mem_append.mp z with z | z
    · exact sr.out a z List.mem_cons_self
    · exact s.th a z n
  · rcases List.mem_append.mp z with z | z
    · exact List.mem_append_left _ z
    · exact List.mem_append_right _ (List.mem_cons_of_mem _ z)
section
variable {Γ : Gam} {G : Gc} {H H' H1 H2 : Hp} {σ σ' σ1 σ2 : L2.St} {ρ ρ' ρ1 ρ2 : Env} {vs : List Nat}
/-- behind a comprehension, the new list kept away from -/
theorem Sr.rst' {D0 : Addr} (s1 : Sr Γ G H1 σ ρ1) (h : noOwn vs ρ1 = true) (s : Sr ⟨D0 :: Γ.U, Γ.π⟩ G H (L2.wipe σ vs) ρ) (hn : noOwn vs ρ = true) (m : Mo (Γ.w σ ρ1) (ownO (L2.wipe σ vs) ρ ++ D0 :: Γ.U) H1 H) : Sr ⟨D0 :: Γ.U, Γ.π⟩ G H σ (rstE ρ1 ρ vs) ∧ ownO σ (rstE ρ1 ρ vs) = ownO (L2.wipe σ vs) ρ := by
  have hl : ρ1.length = ρ.length := by rw [← s1.len, ← s.len, wipe_length]
  refine s.ag (wipe_length _ _).symm (rstE_length _ _ _) (fun i => ?_) (fun i t ht => ?_) fun p hp => ?_
  · by_cases mm : i ∈ vs
    · refine .inr ⟨nonO_of (noOwn_at hn mm).1, ?_⟩
      rw [rstE_in hl mm]
      exact nonO_of (noOwn_at h mm).1
    · exact .inl ⟨wipe_out mm, (rstE_out mm).symm⟩
  · by_cases mm : i ∈ vs
    · rw [rstE_in hl mm] at ht
      obtain ⟨x, e, q⟩ := s1.sl i t ht
      refine .inr ⟨x, e, ?_⟩
      cases t with
      | e => trivial
      | v d => obtain ⟨v, e, r⟩ := q; exact ⟨v, e, Rp.mo m _ _ r⟩
      | o d => exact absurd ht ((noOwn_at h mm).1 d)
      | p d => exact absurd ht ((noOwn_at h mm).2 d)
    · rw [rstE_out mm] at ht
      exact .inl ⟨ht, wipe_out mm⟩
  · have mm : p.1 ∉ vs := fun z => by
      obtain ⟨_, d, e⟩ := s.pin p hp
      exact (noOwn_at hn z).2 d e
    exact rstE_out mm
end
section
variable {X : Cx} {elt tg iter : Expr} {ifs : List Expr} {scope : Scope} {own : List (Str × Nat)} {pos : Pos} {wi : TI} {g : TG} {tt : TT} {te : TE} {is : List Nat} {it : IM} {gm : GM} {tm : TM} {el : EM}
theorem comp_qF (hi : DI X tg iter wi it) (hsub : ∀ i ∈ is, i ∈ own.map (·.2))
    (hg : ∀ (Γ : Gam) (σ : L2.St) (H : Hp) (ρ : Env) (d : D) (v : V) (ρ' : Env) (Q : L2.St → Hp → Prop), Sr Γ X.G H σ ρ → Rp X.G H (Γ.w σ ρ) d v → gm d ρ = some ρ' → (∀ σ', So Γ X.G σ ρ H σ' ρ' H → Al is σ σ' → Q σ' H) → g v σ H Q)
    (ht : ∀ (Γ : Gam) (σ : L2.St) (H : Hp) (ρ : Env) (d : Bool) (ρ' : Env) (Q : Bool → Hp → Prop), Sr Γ X.G H σ ρ → tm ρ = some (d, ρ') → (∀ H', Po Γ X.G σ ρ H ρ' H' → Q d H') → tt σ H Q)
    (he : ∀ (Γ : Gam) (σ : L2.St) (H : Hp) (ρ : Env) (d : D) (ρ' : Env) (Q : VK), Sr Γ X.G H σ ρ → el ρ = some (d, ρ') → (∀ v H', Po Γ X.G σ ρ H ρ' H' → Rp X.G H' (Γ.w σ ρ') d v → Q v H') → te σ H Q)
    (Γ : Gam) (σ : L2.St) (H : Hp) (ρ : Env) (d : D) (ρ' : Env) (Q : VK) (s : Sr Γ X.G H σ ρ) (h : eComp (own.map (·.2)) it gm tm el ρ = some (d, ρ'))
    (k : ∀ a H', H a = none → Sr ⟨a :: Γ.U, Γ.π⟩ X.G H' σ ρ' → Ow X.G H' (ownO σ ρ' ++ a :: Γ.U) d a → Fm (Γ.mu σ ρ) H H' → (∀ b ∈ ownO σ ρ', b ∈ ownO σ ρ) → Tr H H' → Q (.ref a) H') : tLc wi g tt te (own.map (·.2)) σ H Q := by
  generalize hvs : own.map (·.2) = vs at *
  unfold eComp at h
  cases e1 : it ρ with
  | none => rw [e1] at h; cases h
  | some r =>
  rw [e1] at h
  obtain ⟨ds, ρ1⟩ := r
  replace h : ((wipeC vs ρ1).bind fun ρw => (compL vs gm tm el ds ρw).map fun q => (D.lst q.1, rstE ρ1 q.2 vs)) = some (d, ρ') := h
  cases e2 : wipeC vs ρ1 with
  | none => rw [e2] at h; cases h
  | some ρw =>
  rw [e2] at h
  replace h : ((compL vs gm tm el ds ρw).map fun q => (D.lst q.1, rstE ρ1 q.2 vs)) = some (d, ρ') := h
  cases e3 : compL vs gm tm el ds ρw with
  | none => rw [e3] at h; cases h
  | some r3 =>
  rw [e3] at h
  obtain ⟨zall, ρf⟩ := r3
  cases h
  obtain ⟨no1, rfl⟩ := wipeC_some e2
  refine hi.q Γ σ H ρ ds ρ1 _ s e1 fun J H1 a1 wd D0 hD => ?_
  have s1 := a1.sr
  obtain ⟨sw, ow⟩ := s1.wipe no1
  have sD := sw.more (o := .lst []) hD
  generalize hH2 : upd H1 D0 (.lst []) = H2 at sD ⊢
  have f12 : Fm [] H1 H2 := by rw [← hH2]; exact fm_new hD
  have nDown : ∀ ρi : Env, (∀ a ∈ ownO (wipe σ vs) ρi, a ∈ ownO (wipe σ vs) (wipeE ρ1 vs)) → D0 ∉ ownO (wipe σ vs) ρi := fun ρi sub z => sw.own_th D0 (sub D0 z) hD
  have nDpi : D0 ∉ Γ.π.map (·.2) := fun z => by
    obtain ⟨p, hp, e⟩ := List.mem_map.mp z
    exact sw.th p.2 (sw.pin p hp).1 (e ▸ hD)
  -- the frame from the loop's begin
  have fr : ∀ {H3 : Hp}, Fm (D0 :: Γ.mu (wipe σ vs) (wipeE ρ1 vs)) H2 H3 → Fm (Γ.w σ ρ1) H1 H3 := fun {H3} f => f12.seq f fun b x nb nt e => by
    refine f b x (fun z => ?_) (f12 b x (by simp) e nt) nt
    rcases List.mem_cons.mp z with z | z
    · rw [z, hD] at e; cases e
    · exact nb (by rw [show Γ.w σ ρ1 = Γ.w (wipe σ vs) (wipeE ρ1 vs) by show _ ++ _ = _ ++ _; rw [ow]]; exact sw.mu_w b z)
  let Pv : Nat → Hp → Prop := fun i H3 => ∃ (zs zr : List D) (ρi : Env) (acc : List V), compL vs gm tm el (ds.drop i) ρi = some (zr, ρf) ∧ zs ++ zr = zall ∧ H3 D0 = some (.lst acc) ∧ noOwn vs ρi = true ∧
    RpAll X.G H3 (ownO (wipe σ vs) ρi ++ D0 :: Γ.U) zs acc ∧ zs.length ≤ i ∧ Sr ⟨D0 :: Γ.U, Γ.π⟩ X.G H3 (wipe σ vs) ρi ∧ Fm (D0 :: Γ.mu (wipe σ vs) (wipeE ρ1 vs)) H2 H3 ∧ (∀ a ∈ ownO (wipe σ vs) ρi, a ∈ ownO (wipe σ vs) (wipeE ρ1 vs)) ∧ Tr H2 H3
  have ww : Walk J ds.length (fun H3 => Fm (Γ.w σ ρ1) H1 H3) (fun i H3 x H4 => J.yld i H3 x H4 ∧ Fm (Γ.w σ ρ1) H1 H3) := ⟨fun i H3 hi f => wd.go H3 i f hi, fun H3 f => wd.stop H3 f, fun i H3 x H4 hi f y => ⟨y, f⟩⟩
  have start : Pv 0 (upd H1 D0 (.lst [])) := by
    rw [hH2]
    refine ⟨[], zall, wipeE ρ1 vs, [], e3, rfl, by rw [← hH2]; exact upd_same, noOwn_wipe, rfl, Nat.zero_le _, sD, Fm.refl _ _, fun _ z => z, Tr.refl _⟩
  have res := lc_it ww (g := g) (tt := tt) (te := te) (vs := vs) (σ := σ) (H1 := H1) (D := D0) (Qd := fun H' => Q (.ref D0) H') Pv start
    (fun i H3 _ p => by obtain ⟨_, _, _, _, _, _, _, _, _, _, _, f, _, _⟩ := p; exact fr f) (fun i x H3 H4 hi p y => ?turn) (fun H3 p => ?done)
  · rw [← hH2]
    exact res
  case done =>
    obtain ⟨zs, zr, ρi, acc, c1, c2, c3, no, c4, c5, c6, c7, c8, c9⟩ := p
    rw [List.drop_length] at c1
    cases c1
    rw [List.append_nil] at c2
    subst c2
    have m0 : Mo (Γ.w σ ρ1) (ownO (wipe σ vs) ρf ++ D0 :: Γ.U) H1 H3 := ⟨fr c7, fun b z => by
      rcases List.mem_append.mp z with z | z
      · exact .inl (List.mem_append_left _ (ow ▸ c8 b z))
      · rcases List.mem_cons.mp z with z | z
        · exact .inr (z ▸ hD)
        · exact .inl (List.mem_append_right _ z)⟩
    obtain ⟨sf, of⟩ := s1.rst' no1 c6 no m0
    refine k D0 H3 (a1.tr.back hD) sf ?_ (a1.fm.trans ?_) (fun a z => ?_) (a1.tr.trans ((Tr.of f12).trans c9))
    · rw [of]
      exact ⟨acc, c3, Nat.le_trans c5 wd.le, c4⟩
    · refine Fm.mono (W := Γ.mu σ ρ1) (f12.seq c7 fun b x nb nt e => ?_) (mu_sub a1.sub)
      refine c7 b x (fun z => ?_) (f12 b x (by simp) e nt) nt
      rcases List.mem_cons.mp z with z | z
      · rw [z, hD] at e; cases e
      · exact nb (by
          rcases List.mem_append.mp z with z | z
          · exact List.mem_append_left _ (ow ▸ z)
          · exact List.mem_append_right _ z)
    · rw [of] at z
      exact a1.sub a (ow ▸ c8 a z)
  case turn =>
    obtain ⟨zs, zr, ρi, acc, c1, c2, c3, no, c4, c5, c6, c7, c8, c9⟩ := p
    obtain ⟨y, fy⟩ := y
    obtain ⟨f34, yr⟩ := wd.yld H3 i x H4 fy y hi
    have hdi : ds[i]? = some ds[i] := List.getElem?_eq_getElem hi
    obtain ⟨z1, ρn, zr', ct, cl, ez⟩ := compL_split hdi c1
    have s4 := c6.keep f34
    have rx : Rp X.G H4 (ownO (wipe σ vs) ρi ++ D0 :: Γ.U) ds[i] x := yr _ _ hdi fun b hb => by
      refine ⟨?_, c6.w_th b hb⟩
      rcases List.mem_append.mp hb with z | z
      · exact .inl (List.mem_append_left _ (ow ▸ c8 b z))
      · rcases List.mem_cons.mp z with z | z
        · exact .inr (z ▸ hD)
        · exact .inl (List.mem_append_right _ z)
    unfold compT at ct
    cases g1 : gm ds[i] ρi with
    | none => rw [g1] at ct; cases ct
    | some ρ2 =>
    rw [g1] at ct
    replace ct : ((tm ρ2).bind fun p => if p.1 = true then (el p.2).bind fun q => (wipeC vs q.2).map fun ρ' => ([q.1], ρ') else (wipeC vs p.2).map fun ρ' => ([], ρ')) = some (z1, ρn) := ct
    refine hg ⟨D0 :: Γ.U, Γ.π⟩ (wipe σ vs) H4 ρi _ x ρ2 _ s4 rx g1 fun σ2 b2 al => ?_
    have ewp : wipe σ2 vs = wipe σ vs := (al.wipe hsub).trans (wipe_wipe σ vs)
    refine ⟨ewp, ?_⟩
    cases t1 : tm ρ2 with
    | none => rw [t1] at ct; cases ct
    | some p =>
    rw [t1] at ct
    replace ct : (if p.1 = true then (el p.2).bind fun q => (wipeC vs q.2).map fun ρ' => ([q.1], ρ') else (wipeC vs p.2).map fun ρ' => ([], ρ')) = some (z1, ρn) := ct
    refine ht ⟨D0 :: Γ.U, Γ.π⟩ σ2 H4 ρ2 p.1 p.2 _ b2.sr t1 fun H5 b3 => ?_
    -- what the turn leaves
    have fin : ∀ {ρe : Env} {H6 : Hp}, So ⟨D0 :: Γ.U, Γ.π⟩ X.G (wipe σ vs) ρi H4 σ2 ρe H6 → (∀ a ∈ ownO σ2 ρe, a ∈ ownO σ2 ρ2) → noOwn vs ρe = true → H6 D0 = some (.lst acc) ∧ Mo (ownO (wipe σ vs) ρi ++ D0 :: Γ.U) (ownO σ2 ρe ++ D0 :: Γ.U) H3 H6 ∧
        Sr ⟨D0 :: Γ.U, Γ.π⟩ X.G H6 (wipe σ vs) (wipeE ρe vs) ∧ Fm (D0 :: Γ.mu (wipe σ vs) (wipeE ρ1 vs)) H2 H6 ∧ (ownO (wipe σ vs) (wipeE ρe vs) = ownO σ2 ρe) ∧ (∀ a ∈ ownO σ2 ρe, a ∈ ownO (wipe σ vs) ρi) ∧ Tr H2 H6 := fun {ρe H6} b sub no' => by
      obtain ⟨sx, ox⟩ := b.sr.wipe no'
      rw [ewp] at sx ox
      have sub2 : ∀ a ∈ ownO σ2 ρe, a ∈ ownO (wipe σ vs) ρi := fun a z => by
        rcases b2.nw a (sub a z) with q | q
        · exact q
        · -- a place that the target made would be new; the target makes none
          exact absurd q (b2.sr.own_th a (sub a z))
      refine ⟨b.fm D0 _ (fun z => ?_) (f34 D0 _ (by simp) c3 rfl) rfl, ⟨f34.seq b.fm fun c x nc nt e => b.fm c x (fun z => nc (s4.mu_w c z)) (f34 c x (by simp) e nt) nt, fun c z => .inl ?_⟩, sx, (c7.trans (f34.mono fun _ z => absurd z (by simp))).seq b.fm fun c x nc nt e => ?_, ox, sub2, (c9.trans (Tr.of f34)).trans b.tr⟩
      · rcases List.mem_append.mp z with z | z
        · exact (nDown ρi c8 z).elim
        · exact (nDpi z).elim
      · rcases List.mem_append.mp z with z | z
        · exact List.mem_append_left _ (sub2 c z)
        · exact List.mem_append_right _ z
      · refine b.fm c x (fun z => nc ?_) (f34 c x (by simp) (c7 c x nc e nt) nt) nt
        rcases List.mem_append.mp z with z | z
        · exact List.mem_cons_of_mem _ (List.mem_append_left _ (c8 c z))
        · exact List.mem_cons_of_mem _ (List.mem_append_right _ z)
    split at ct
    · rename_i pt
      rw [if_pos pt]
      cases l1 : el p.2 with
      | none => rw [l1] at ct; cases ct
      | some q =>
      rw [l1] at ct
      replace ct : ((wipeC vs q.2).map fun ρ' => ([q.1], ρ')) = some (z1, ρn) := ct
      cases w1 : wipeC vs q.2 with
      | none => rw [w1] at ct; cases ct
      | some ρ3 =>
      rw [w1] at ct
      cases ct
      obtain ⟨no3, rfl⟩ := wipeC_some w1
      refine he ⟨D0 :: Γ.U, Γ.π⟩ σ2 H5 p.2 q.1 q.2 _ b3.sr l1 fun v H6 b4 rv => ?_
      obtain ⟨k1, k2, k3, k4, k5, k6, k7⟩ := fin (b2.trans (b3.so.trans b4.so)) (fun a z => b3.sub a (b4.sub a z)) no3
      have s7 := k3.wrU (o := .lst (acc ++ [v])) (a := D0) List.mem_cons_self nDpi k1
      have rall := RpAll.mo k2 _ _ c4
      have al2 : acc.length = zs.length := c4.length
      refine ⟨acc, k1, by rw [al2]; exact Nat.lt_of_lt_of_le (Nat.lt_of_le_of_lt c5 hi) wd.le, ?_⟩
      have mD : Mo (ownO σ2 q.2 ++ D0 :: Γ.U) (ownO (wipe σ vs) (wipeE q.2 vs) ++ D0 :: Γ.U) H6 (upd H6 D0 (.lst (acc ++ [v]))) := ⟨(wr_fm k1).mono fun c z => by rw [List.mem_singleton.mp z]; exact List.mem_append_right _ List.mem_cons_self, fun c z => .inl (by rw [k5] at z; exact z)⟩
      refine ⟨zs ++ [q.1], zr', wipeE q.2 vs, acc ++ [v], cl, by rw [List.append_assoc, ← ez, c2], upd_same, noOwn_wipe, ?_, by rw [List.length_append]; simp; omega, s7, k4.seq (wr_fm k1) fun c x nc nt e => ?_, fun a z => ?_, k7.trans tr_upd⟩
      · exact RpAll.app (RpAll.mo mD _ _ rall) ⟨v, [], rfl, Rp.mo mD _ _ rv, rfl⟩
      · have k4' := k4 c x nc e nt
        rw [upd_ne (fun z : c = D0 => by subst z; rw [k1] at k4'; cases k4'; exact nomatch nc List.mem_cons_self)]
        exact k4'
      · rw [k5] at z
        exact c8 a (k6 a z)
    · rename_i pt
      rw [if_neg pt]
      cases w1 : wipeC vs p.2 with
      | none => rw [w1] at ct; cases ct
      | some ρ3 =>
      rw [w1] at ct
      cases ct
      obtain ⟨no3, rfl⟩ := wipeC_some w1
      obtain ⟨k1, k2, k3, k4, k5, k6, k7⟩ := fin (b2.trans b3.so) (fun a z => b3.sub a z) no3
      refine ⟨zs, zr', wipeE p.2 vs, acc, cl, by rw [← c2, ez]; rfl, k1, noOwn_wipe, ?_, Nat.le_succ_of_le c5, k3, k4, fun a z => ?_, k7⟩
      · rw [k5]
        exact RpAll.mo k2 _ _ c4
      · rw [k5] at z
        exact c8 a (k6 a z)
theorem df_comp (hc : X.calm = true) (hN : X.N.Nodup) (hi : DI X tg iter wi it) (ok : BlkOk X.N X.env.scope scope own)
    (hg : ∀ (s : Shared) (H : Hp) (C : Addr) (cl : List (Str × Addr)) (fp : List Addr), DG (X.blk s H scope (compEnvC scope cl C X.env) fp) tg g is gm)
    (ht : ∀ (s : Shared) (H : Hp) (C : Addr) (cl : List (Str × Addr)) (fp : List Addr), DTs (X.blk s H scope (compEnvC scope cl C X.env) fp) ifs tt tm)
    (he : ∀ (s : Shared) (H : Hp) (C : Addr) (cl : List (Str × Addr)) (fp : List Addr), DE (X.blk s H scope (compEnvC scope cl C X.env) fp) elt te el)
    (hsub : ∀ i ∈ is, i ∈ own.map (·.2) := by decide) (hs : ∀ x, foldedSetIterable iter X.env x = pure x := by intro _; rfl) :
    DF X (.ListComp elt [⟨tg, iter, ifs, 0⟩] scope pos) (tLc wi g tt te (own.map (·.2))) (eComp (own.map (·.2)) it gm tm el) :=
  ⟨pe_lc hc hN hi.pe ok (fun s H C cl fp => (hg s H C cl fp).pe) (fun s H C cl fp => (ht s H C cl fp).pe) (fun s H C cl fp => (he s H C cl fp).pe) hs,
    comp_qF hi hsub (hg X.s_0 (fun _ => none) 0 [] []).q (ht X.s_0 (fun _ => none) 0 [] []).q (he X.s_0 (fun _ => none) 0 [] []).q⟩
theorem ds_setComp (i : Nat) {y : Str} {py spos : Pos} (hc : X.calm = true) (hN : X.N.Nodup) (hi : DI X tg iter wi it) (ok : BlkOk X.N X.env.scope scope own)
    (hg : ∀ (s : Shared) (H : Hp) (C : Addr) (cl : List (Str × Addr)) (fp : List Addr), DG (X.blk s H scope (compEnvC scope cl C X.env) fp) tg g is gm)
    (ht : ∀ (s : Shared) (H : Hp) (C : Addr) (cl : List (Str × Addr)) (fp : List Addr), DTs (X.blk s H scope (compEnvC scope cl C X.env) fp) ifs tt tm)
    (he : ∀ (s : Shared) (H : Hp) (C : Addr) (cl : List (Str × Addr)) (fp : List Addr), DE (X.blk s H scope (compEnvC scope cl C X.env) fp) elt te el)
    (hy : X.N[i]? = some y := by rfl) (hyl : X.env.scope.names.lookup y = some .local := by rfl)
    (hsw : swapsWith (.ListComp elt [⟨tg, iter, ifs, 0⟩] scope pos) (some (.Name y py)) spos.line X.env = pure true := by exact sw_true rfl rfl rfl (by decide +kernel))
    (hsub : ∀ i ∈ is, i ∈ own.map (·.2) := by decide) (hs : ∀ x, foldedSetIterable iter X.env x = pure x := by intro _; rfl) :
    DS X (.Assign [.Name y py] (.ListComp elt [⟨tg, iter, ifs, 0⟩] scope pos) spos) (tAsg (tLc wi g tt te (own.map (·.2))) (gName i)) (sSet i (eComp (own.map (·.2)) it gm tm el)) := by
  refine ⟨ps_setLc hc hN hy hyl hsw hi.pe ok (fun s H C cl fp => (hg s H C cl fp).pe) (fun s H C cl fp => (ht s H C cl fp).pe) (fun s H C cl fp => (he s H C cl fp).pe) hs, fun Γ σ H ρ o E s h f => ?_⟩
  have hd := (df_comp (pos := pos) hc hN hi ok hg ht he hsub hs).de
  unfold sSet at h
  cases e1 : eComp (own.map (·.2)) it gm tm el ρ with
  | none => rw [e1] at h; cases h
  | some r =>
    rw [e1] at h
    replace h : (putV i r.1 r.2).bind (fun ρ' => some (.nx ρ')) = some o := h
    cases e2 : putV i r.1 r.2 with
    | none => rw [e2] at h; cases h
    | some ρ2 =>
      rw [e2] at h
      cases h
      refine hd.q Γ σ H ρ r.1 r.2 _ s e1 fun v H' a rr => ?_
      exact f _ H' (a.so.trans (a.sr.put e2 rr))
end
end DL
namespace DL
open PySem L2
variable [TabC]
omit [TabC] in
abbrev FnSem := List Sl → Option (D × List Sl)
omit [TabC] in
def argS (ρ : Env) : List Arg → Option (List Sl)
  | [] => some []
  | .val d :: r => (argS ρ r).map (.v d :: ·)
  | .slot i :: r => match ρ[i]? with
    | some (.o d) => (argS ρ r).map (.p d :: ·)
    | some (.p d) => (argS ρ r).map (.p d :: ·)
    | _ => none
omit [TabC] in
def slotsOf : List Arg → List Nat
  | [] => []
  | .val _ :: r => slotsOf r
  | .slot i :: r => i :: slotsOf r
omit [TabC] in
def setO (i : Nat) (d : D) (ρ : Env) : Env := match ρ[i]? with
  | some (.o _) => ρ.set i (.o d)
  | some (.p _) => ρ.set i (.p d)
  | _ => ρ
omit [TabC] in
def wbk : List Arg → List Sl → Env → Option Env
  | [], [], ρ => some ρ
  | .val _ :: r, _ :: ss, ρ => wbk r ss ρ
  | .slot i :: r, .p d :: ss, ρ => wbk r ss (setO i d ρ)
  | _, _, _ => none
omit [TabC] in
def callS (fn : FnSem) (as : List Arg) (ρ : Env) : Option (D × Env) := if decide (slotsOf as).Nodup then (argS ρ as).bind fun ss => (fn ss).bind fun q => (wbk as q.2 ρ).map fun ρ2 => (q.1, ρ2) else none
omit [TabC] in
def eCall (fn : FnSem) (a : AM) : EM := fun ρ => (a ρ).bind fun p => callS fn p.1 p.2
omit [TabC] in
def AsR (G : Gc) (H : Hp) (W : List Addr) : List Sl → List V → Prop
  | [], vs => vs = []
  | .v d :: r, vs => ∃ x xs, vs = x :: xs ∧ Rp G H W d x ∧ AsR G H W r xs
  | .p d :: r, vs => ∃ a xs, vs = .ref a :: xs ∧ a ∈ W ∧ Ow G H W d a ∧ AsR G H W r xs
  | _ :: _, _ => False
omit [TabC] in
def pad : List Sl → List V → List Addr
  | .p _ :: r, .ref a :: xs => a :: pad r xs
  | _ :: r, _ :: xs => pad r xs
  | _, _ => []
/-- what stands, and the tables -/
def Th (W : List Addr) (H : Hp) : Prop := (∀ a ∈ W, H a ≠ none) ∧ TabsG H
def spF (G : Gc) (fn : FnSem) : Sp := fun vs H Q _ => ∃ (W : List Addr) (ss : List Sl) (d : D) (ss' : List Sl), AsR G H W ss vs ∧ (pad ss vs).Nodup ∧ Th W H ∧ fn ss = some (d, ss') ∧
  ∀ v H', Fm (pad ss vs) H H' → Tr H H' → AsR G H' W ss' vs → Rp G H' W d v → Q v H'
omit [TabC] in
theorem AsR.length {G : Gc} {H : Hp} {W : List Addr} : ∀ {ss : List Sl} {vs : List V}, AsR G H W ss vs → vs.length = ss.length
  | [], _, h => by rw [show _ = [] from h]; rfl
  | .v d :: r, _, ⟨x, xs, e, _, q⟩ => by rw [e, List.length_cons, List.length_cons, AsR.length q]
  | .p d :: r, _, ⟨a, xs, e, _, _, q⟩ => by rw [e, List.length_cons, List.length_cons, AsR.length q]
  | .e :: _, _, h => h.elim
  | .o _ :: _, _, h => h.elim
omit [TabC] in
/-- the def of so many parameters and further names, by its body -/
def fin (ρ : Env) : Nat → List Sl → List Sl
  | _, [] => []
  | i, .p _ :: r => ρ.getD i .e :: fin ρ (i + 1) r
  | i, s :: r => s :: fin ρ (i + 1) r
omit [TabC] in
def mkFn (n k : Nat) (m : SM) : FnSem := fun ss => if ss.length = n then (m (ss ++ List.replicate k .e)).bind fun o => match o with
  | .rt d ρ => some (d, fin ρ 0 ss)
  | .nx ρ => some (.non, fin ρ 0 ss)
  | .rf d ρ => some (d, fin ρ 0 ss)
  | _ => none else none
omit [TabC] in
/-- one that hands back a fresh object -/
def mkFnF (n k : Nat) (m : SM) : FnSem := fun ss => if ss.length = n then (m (ss ++ List.replicate k .e)).bind fun o => match o with
  | .rf d ρ => some (d, fin ρ 0 ss)
  | _ => none else none
def spFF (G : Gc) (fn : FnSem) : Sp := fun vs H Q _ => ∃ (W : List Addr) (ss : List Sl) (d : D) (ss' : List Sl), AsR G H W ss vs ∧ (pad ss vs).Nodup ∧ Th W H ∧ fn ss = some (d, ss') ∧
  ∀ a H', H a = none → Fm (pad ss vs) H H' → Tr H H' → AsR G H' W ss' vs → Ow G H' (a :: W) d a → Q (.ref a) H'
omit [TabC] in
def pinsOf : Nat → List Sl → List V → List (Nat × Addr)
  | i, .p _ :: r, .ref a :: xs => (i, a) :: pinsOf (i + 1) r xs
  | i, _ :: r, _ :: xs => pinsOf (i + 1) r xs
  | _, _, _ => []
omit [TabC] in
theorem pins_pad : ∀ {ss : List Sl} {vs : List V} {i : Nat}, (pinsOf i ss vs).map (·.2) = pad ss vs
  | [], _, _ => by simp [pinsOf, pad]
  | s :: r, [], _ => by cases s <;> simp [pinsOf, pad]
  | s :: r, v :: xs, i => by
    have ih := pins_pad (ss := r) (vs := xs) (i := i + 1)
    cases s with
    | p d =>
      cases v with
      | ref a => simp [pinsOf, pad, ih]
      | _ => simpa [pinsOf, pad] using ih
    | _ => cases v <;> simpa [pinsOf, pad] using ih
omit [TabC] in
theorem pins_ge : ∀ {ss : List Sl} {vs : List V} {i : Nat} {p : Nat × Addr}, p ∈ pinsOf i ss vs → i ≤ p.1
  | [], _, _, _, h => by simp [pinsOf] at h
  | s :: r, [], _, _, h => by cases s <;> simp [pinsOf] at h
  | s :: r, v :: xs, i, p, h => by
    have ih : p ∈ pinsOf (i + 1) r xs → i ≤ p.1 := fun h => Nat.le_of_succ_le (pins_ge h)
    cases s with
    | p d =>
      cases v with
      | ref a =>
        simp only [pinsOf, List.mem_cons] at h
        rcases h with h | h
        · rw [h]; exact Nat.le_refl _
        · exact ih h
      | _ => exact ih (by simpa [pinsOf] using h)
    | _ => exact ih (by cases v <;> simpa [pinsOf] using h)
omit [TabC] in
theorem pins_uniq : ∀ {ss : List Sl} {vs : List V} {i : Nat} {j : Nat} {a b : Addr}, (j, a) ∈ pinsOf i ss vs → (j, b) ∈ pinsOf i ss vs → a = b
  | [], _, _, _, _, _, h, _ => by simp [pinsOf] at h
  | s :: r, [], _, _, _, _, h, _ => by cases s <;> simp [pinsOf] at h
  | s :: r, v :: xs, i, j, a, b, h, k => by
    have ih : (j, a) ∈ pinsOf (i + 1) r xs → (j, b) ∈ pinsOf (i + 1) r xs → a = b := fun h k => pins_uniq h k
    cases s with
    | p d =>
      cases v with
      | ref c =>
        simp only [pinsOf, List.mem_cons] at h k
        rcases h with h | h <;> rcases k with k | k
        · injection h with _ h; injection k with _ k; rw [h, k]
        · injection h with h _
          have := pins_ge k
          omega
        · injection k with k _
          have := pins_ge h
          omega
        · exact ih h k
      | _ => exact ih (by simpa [pinsOf] using h) (by simpa [pinsOf] using k)
    | _ => exact ih (by cases v <;> simpa [pinsOf] using h) (by cases v <;> simpa [pinsOf] using k)
omit [TabC] in
/-- what stands at the parameters' places -/
theorem pins_at {G : Gc} {H : Hp} {W : List Addr} : ∀ {ss : List Sl} {vs : List V} {i : Nat}, AsR G H W ss vs → ∀ (j : Nat) (s : Sl), ss[j]? = some s → ∃ v, vs[j]? = some v ∧ SlR G H W (pinsOf i ss vs) (i + j) (some v) s ∧ (∀ d, s ≠ .o d) ∧ s ≠ .e
  | [], _, _, _, j, _, h => by simp at h
  | .v d :: r, _, i, ⟨x, xs, e, rx, q⟩, 0, s, h => by
    cases h
    exact ⟨x, by rw [e]; rfl, ⟨x, rfl, rx⟩, (fun d z => nomatch z), fun z => nomatch z⟩
  | .v d :: r, _, i, ⟨x, xs, e, rx, q⟩, j + 1, s, h => by
    subst e
    obtain ⟨v, h1, h2, h3⟩ := pins_at (i := i + 1) q j s h
    refine ⟨v, h1, ?_, h3⟩
    rw [show i + (j + 1) = i + 1 + j by omega]
    have e2 : pinsOf i (.v d :: r) (x :: xs) = pinsOf (i + 1) r xs := by cases x <;> simp [pinsOf]
    rw [e2]
    exact h2
  | .p d :: r, _, i, ⟨a, xs, e, ha, ow, q⟩, 0, s, h => by
    cases h
    subst e
    exact ⟨.ref a, rfl, ⟨a, rfl, by simp [pinsOf], ow⟩, (fun d z => nomatch z), fun z => nomatch z⟩
  | .p d :: r, _, i, ⟨a, xs, e, ha, ow, q⟩, j + 1, s, h => by
    subst e
    obtain ⟨v, h1, h2, h3⟩ := pins_at (i := i + 1) q j s h
    refine ⟨v, h1, ?_, h3⟩
    rw [show i + (j + 1) = i + 1 + j by omega]
    cases s with
    | p d' =>
      obtain ⟨b, e1, e2, e3⟩ := h2
      exact ⟨b, e1, by simp [pinsOf, e2], e3⟩
    | e => trivial
    | v d' => exact h2
    | o d' => exact h2
  | .e :: _, _, _, h, _, _, _ => h.elim
  | .o _ :: _, _, _, h, _, _, _ => h.elim
omit [TabC] in
theorem pins_w {G : Gc} {H : Hp} {W : List Addr} : ∀ {ss : List Sl} {vs : List V} {i : Nat}, AsR G H W ss vs → ∀ p ∈ pinsOf i ss vs, p.2 ∈ W ∧ ∃ d, i ≤ p.1 ∧ ss[p.1 - i]? = some (.p d)
  | [], _, _, _, p, h => by simp [pinsOf] at h
  | .v d :: r, _, i, ⟨x, xs, e, rx, q⟩, p, h => by
    subst e
    have h' : p ∈ pinsOf (i + 1) r xs := by cases x <;> simpa [pinsOf] using h
    obtain ⟨h1, d', h2, h3⟩ := pins_w (i := i + 1) q p h'
    refine ⟨h1, d', by omega, ?_⟩
    rw [show p.1 - i = (p.1 - (i + 1)) + 1 by omega]
    exact h3
  | .p d :: r, _, i, ⟨a, xs, e, ha, ow, q⟩, p, h => by
    subst e
    simp only [pinsOf, List.mem_cons] at h
    rcases h with h | h
    · rw [h]
      exact ⟨ha, d, Nat.le_refl _, by simp⟩
    · obtain ⟨h1, d', h2, h3⟩ := pins_w (i := i + 1) q p h
      refine ⟨h1, d', by omega, ?_⟩
      rw [show p.1 - i = (p.1 - (i + 1)) + 1 by omega]
      exact h3
  | .e :: _, _, _, h, _, _ => h.elim
  | .o _ :: _, _, _, h, _, _ => h.elim
omit [TabC] in
theorem ownO_none : ∀ {σ : L2.St} {ρ : Env}, (∀ (i : Nat) d, ρ[i]? ≠ some (.o d)) → ownO σ ρ = [] := fun {σ ρ} h => by
  cases e : ownO σ ρ with
  | nil => rfl
  | cons a l =>
    obtain ⟨i, d, _, h2⟩ := mem_ownO.mp (show a ∈ ownO σ ρ by rw [e]; exact List.mem_cons_self)
    exact absurd h2 (h i d)
omit [TabC] in
theorem entry_at {ss : List Sl} {k : Nat} {i : Nat} {s : Sl} (h : (ss ++ List.replicate k Sl.e)[i]? = some s) : ss[i]? = some s ∨ s = .e := by
  by_cases l : i < ss.length
  · rw [List.getElem?_append_left l] at h
    exact .inl h
  · rw [List.getElem?_append_right (Nat.not_lt.mp l), List.getElem?_replicate] at h
    split at h
    · cases h; exact .inr rfl
    · cases h
/-- the entry -/
theorem entry_sr {G : Gc} {H : Hp} {W : List Addr} {ss : List Sl} {vs : List V} {N : List Str} (a : AsR G H W ss vs) (nd : (pad ss vs).Nodup) (th : Th W H) (hl : ss.length ≤ N.length) :
    Sr ⟨W, pinsOf 0 ss vs⟩ G H (L2.start N vs) (ss ++ List.replicate (N.length - ss.length) .e) ∧ ownO (L2.start N vs) (ss ++ List.replicate (N.length - ss.length) .e) = [] := by
  have al := a.length
  have no : ∀ (i : Nat) d, (ss ++ List.replicate (N.length - ss.length) Sl.e)[i]? ≠ some (.o d) := fun i d h => by
    rcases entry_at h with h | h
    · obtain ⟨v, _, _, h3, _⟩ := pins_at (i := 0) a i _ h
      exact h3 d rfl
    · cases h
  have eo := ownO_none (σ := L2.start N vs) no
  refine ⟨⟨?_, by rw [eo]; exact .nil, by rw [eo]; intro _ z; exact absurd z (by simp), fun i s h => ?_, fun p hp => ?_, by rw [pins_pad]; exact nd, th.1, th.2⟩, eo⟩
  · unfold L2.start
    simp only [List.length_append, List.length_map, List.length_replicate]
    omega
  · show ∃ x, _ ∧ SlR G H (ownO _ _ ++ W) _ i x s
    rw [eo]
    have il : i < N.length := by
      have := (List.getElem?_eq_some_iff.mp h).1
      simp only [List.length_append, List.length_replicate] at this
      omega
    rcases entry_at h with h | h
    · obtain ⟨v, h1, h2, _⟩ := pins_at (i := 0) a i s h
      refine ⟨some v, ?_, by rwa [Nat.zero_add] at h2⟩
      unfold L2.start
      have : i < vs.length := (List.getElem?_eq_some_iff.mp h1).1
      rw [List.getElem?_append_left (by simpa using this), List.getElem?_map, h1]
      rfl
    · subst h
      unfold L2.start
      have hz : i < (vs.map some ++ List.replicate (N.length - vs.length) none).length := by
        simp only [List.length_append, List.length_map, List.length_replicate]
        omega
      exact ⟨_, List.getElem?_eq_getElem hz, trivial⟩
  · obtain ⟨h1, d, _, h3⟩ := pins_w a p hp
    refine ⟨h1, d, ?_⟩
    rw [Nat.sub_zero] at h3
    rw [List.getElem?_append_left (List.getElem?_eq_some_iff.mp h3).1]
    exact h3
/-- the end -/
theorem fin_ok {Γ : Gam} {G : Gc} {H H' : Hp} {W : List Addr} {σ' : L2.St} {ρ' : Env} (s : Sr Γ G H' σ' ρ') (hU : Γ.U = W) (m : Mo W W H H') (un : ∀ {j : Nat} {a b : Addr}, (j, a) ∈ Γ.π → (j, b) ∈ Γ.π → a = b) :
    ∀ {ss : List Sl} {vs : List V} {i : Nat}, (∀ p ∈ pinsOf i ss vs, p ∈ Γ.π) → AsR G H W ss vs → AsR G H' W (fin ρ' i ss) vs
  | [], _, _, _, h => h
  | .v d :: r, _, i, hp, ⟨x, xs, e, rx, q⟩ => by
    subst e
    refine ⟨x, xs, rfl, Rp.mo m _ _ rx, fin_ok s hU m un (fun p hp' => hp p ?_) q⟩
    cases x <;> simpa [pinsOf] using hp'
  | .p d :: r, _, i, hp, ⟨a, xs, e, ha, ow, q⟩ => by
    subst e
    have hpi : (i, a) ∈ Γ.π := hp _ (by simp [pinsOf])
    obtain ⟨h1, d', h2⟩ := s.pin _ hpi
    obtain ⟨y, _, b, rfl, hb, ow'⟩ := s.sl i _ h2
    have eb : b = a := un hb hpi
    subst eb
    have e2 : fin ρ' i (.p d :: r) = .p d' :: fin ρ' (i + 1) r := by
      show ρ'.getD i .e :: _ = _
      rw [List.getD_eq_getElem?_getD, h2]
      rfl
    rw [e2]
    refine ⟨b, xs, rfl, ha, ?_, fin_ok s hU m un (fun p hp' => hp p (by simp [pinsOf, hp'])) q⟩
    exact ow'.mo ⟨Fm.refl _ _, fun c z => .inl (List.mem_append_right _ (hU ▸ z))⟩ fun x z _ => z
  | .e :: _, _, _, _, h => h.elim
  | .o _ :: _, _, _, _, h => h.elim
section
variable {P : Program} {w : World} {K : PySem.W.Frag} {mg : Str → Option Value} {base : Heap} {x qual : Str} {params : Arguments} {body : List Stmt} {scope : Scope} {kws : List (Str × V)} {f : Addr} {fd : FuncData}
omit [TabC] in
/-- a def's body, at its own code -/
theorem funD_okC {CX : CXT} {N ps : List Str} {k : Nat} {sp : Sp} (F : FunD K x qual params body scope [] kws f fd) (S : FnScope N ps scope) (len : ∀ vs H Q E, sp vs H Q E → vs.length = ps.length)
    (hbody : ∀ (A : Around) (outer : List PySem.Env) (s : Shared) (H : Hp) (vs : List V) (Q : VK) (E : XK), Room k (A.deeper (PyProof.Rows.envOfC qual scope s.heap.objs.size f fd.code)) → sp vs H Q E →
      ∃ t, PSs (cxOf CX P w K mg base N qual scope f fd.code A outer s H E) body t ∧ t { nx := fun _ H' => Q .non H', rt := Q } (L2.start N vs) H) : FnOk P w K mg base CX (k + 1) f fd ps sp := by
  obtain ⟨oc, od, dV, kV, doc, pm, an, cdv, ct, osl, rfl, lk, hc, _⟩ := F.ex
  exact fn_of lk hc S len fun A outer s H vs Q E hr h => hbody A outer s H vs Q E hr h
theorem fn_okC {N ps : List Str} {k : Nat} {m : SM} (F : FunD K x qual params body scope [] kws f fd) (S : FnScope N ps scope)
    (hb : ∀ (A : Around) (outer : List PySem.Env) (s : Shared) (H : Hp) (E : XK), Room k (A.deeper (PyProof.Rows.envOfC qual scope s.heap.objs.size f fd.code)) → ∃ t, DSs (cxOf CX0 P w K mg base N qual scope f fd.code A outer s H E).nox body t m) :
    FnOk P w K mg base CX0 (k + 1) f fd ps (spF ⟨K, mg⟩ (mkFn ps.length (N.length - ps.length) m)) := by
  refine funD_okC F S (fun vs H Q E h => ?_) fun A outer s H vs Q E hr h => ?_
  · obtain ⟨W, ss, d, ss', a, _, _, e, _⟩ := h
    unfold mkFn at e
    split at e
    · rename_i l; rw [a.length, l]
    · cases e
  · obtain ⟨t, ht⟩ := hb A outer s H E hr
    refine ⟨t, ht.pe.nox, ?_⟩
    obtain ⟨W, ss, d, ss', a, nd, th, e, q⟩ := h
    unfold mkFn at e
    split at e
    · rename_i l
      have hpl : ps.length ≤ N.length := by have := congrArg List.length S.pre; rw [List.length_take] at this; omega
      obtain ⟨sr, eo⟩ := entry_sr (N := N) a nd th (by omega)
      rw [← l] at e
      cases e1 : m (ss ++ List.replicate (N.length - ss.length) .e) with
      | none => rw [e1] at e; cases e
      | some o =>
        rw [e1] at e
        refine ht.q _ _ H _ o _ sr e1 ?_
        have done : ∀ {ρ' : Env} {σ' : L2.St} {H' : Hp} {d' : D} {v : V}, So ⟨W, pinsOf 0 ss vs⟩ ⟨K, mg⟩ (L2.start N vs) (ss ++ List.replicate (N.length - ss.length) .e) H σ' ρ' H' → some (d', fin ρ' 0 ss) = some (d, ss') → Rp ⟨K, mg⟩ H' (Gam.w ⟨W, pinsOf 0 ss vs⟩ σ' ρ') d' v → Q v H' := fun {ρ' σ' H' d' v} b eq rv => by
          cases eq
          have fm : Fm (pad ss vs) H H' := by
            have := b.fm
            unfold Gam.mu at this
            rw [eo] at this
            rw [← pins_pad (i := 0)]
            exact this
          have mo : Mo W W H H' := ⟨fm.mono fun c z => by
            rw [← pins_pad (i := 0)] at z
            obtain ⟨p, hp, e⟩ := List.mem_map.mp z
            exact e ▸ (pins_w a p hp).1, fun _ z => .inl z⟩
          exact q v H' fm b.tr (fin_ok b.sr rfl mo (fun h1 h2 => pins_uniq h1 h2) (fun _ z => z) a) (Rp.mo ⟨Fm.refl _ _, fun c z => .inl (List.mem_append_right _ z)⟩ _ _ rv)
        cases o with
        | nx ρ' => exact fun σ' H' b => done b e rfl
        | rt d' ρ' => exact fun v σ' H' b r => done b e r
        | bk ρ' => cases e
        | ct ρ' => cases e
        | rf d' ρ' => exact fun a σ' H' b n na nu ow => done b e (ow.rp (fun z => (List.mem_append.mp z).elim na nu) fun c z => List.mem_cons_of_mem _ z)
    · cases e
/-- a def keeps what its body denotes -/
theorem fn_ok {N ps : List Str} {k : Nat} {m : SM} (F : FunD K x qual params body scope [] kws f fd) (S : FnScope N ps scope)
    (hb : ∀ (cdv : Value) (A : Around) (outer : List PySem.Env) (s : Shared) (H : Hp) (E : XK), Room k (A.deeper (PyProof.Rows.envOfC qual scope s.heap.objs.size f cdv)) → ∃ t, DSs (cxOf CX0 P w K mg base N qual scope f cdv A outer s H E).nox body t m) :
    FnOk P w K mg base CX0 (k + 1) f fd ps (spF ⟨K, mg⟩ (mkFn ps.length (N.length - ps.length) m)) := fn_okC F S fun A outer s H E hr => hb _ A outer s H E hr
theorem fn_okF {N ps : List Str} {k : Nat} {m : SM} (F : FunD K x qual params body scope [] kws f fd) (S : FnScope N ps scope)
    (hb : ∀ (cdv : Value) (A : Around) (outer : List PySem.Env) (s : Shared) (H : Hp) (E : XK), Room k (A.deeper (PyProof.Rows.envOfC qual scope s.heap.objs.size f cdv)) → ∃ t, DSs (cxOf CX0 P w K mg base N qual scope f cdv A outer s H E).nox body t m) :
    FnOk P w K mg base CX0 (k + 1) f fd ps (spFF ⟨K, mg⟩ (mkFnF ps.length (N.length - ps.length) m)) := by
  refine F.ok S (fun vs H Q E h => ?_) fun cdv A outer s H vs Q E hr h => ?_
  · obtain ⟨W, ss, d, ss', a, _, _, e, _⟩ := h
    unfold mkFnF at e
    split at e
    · rename_i l; rw [a.length, l]
    · cases e
  · obtain ⟨t, ht⟩ := hb cdv A outer s H E hr
    refine ⟨t, ht.pe.nox, ?_⟩
    obtain ⟨W, ss, d, ss', a, nd, th, e, q⟩ := h
    unfold mkFnF at e
    split at e
    · rename_i l
      have hpl : ps.length ≤ N.length := by have := congrArg List.length S.pre; rw [List.length_take] at this; omega
      obtain ⟨sr, eo⟩ := entry_sr (N := N) a nd th (by omega)
      rw [← l] at e
      cases e1 : m (ss ++ List.replicate (N.length - ss.length) .e) with
      | none => rw [e1] at e; cases e
      | some o =>
        rw [e1] at e
        refine ht.q _ _ H _ o _ sr e1 ?_
        cases o with
        | rf d' ρ' =>
          cases e
          intro b σ' H' bb n na nu ow
          have fm : Fm (pad ss vs) H H' := by
            have := bb.fm
            unfold Gam.mu at this
            rw [eo] at this
            rw [← pins_pad (i := 0)]
            exact this
          have mo : Mo W W H H' := ⟨fm.mono fun c z => by
            rw [← pins_pad (i := 0)] at z
            obtain ⟨p, hp, e⟩ := List.mem_map.mp z
            exact e ▸ (pins_w a p hp).1, fun _ z => .inl z⟩
          have nn : H b = none := by
            rw [eo] at n
            exact n.resolve_left (by simp)
          exact q b H' nn fm bb.tr (fin_ok bb.sr rfl mo (fun h1 h2 => pins_uniq h1 h2) (fun _ z => z) a) (ow.mo ⟨Fm.refl _ _, fun c z => .inl (by
            rcases List.mem_cons.mp z with z | z
            · rw [z]; exact List.mem_cons_self
            · exact List.mem_cons_of_mem _ (List.mem_append_right _ z))⟩ fun _ z _ => z)
        | _ => cases e
    · cases e
end
/-- a def that stands behind the top and keeps what is denoted -/
structure FnD (P : Program) (w : World) (K : PySem.W.Frag) (mg : Str → Option Value) (base : Heap) (x : Str) (k : Nat) (ps : List Str) (fn : FnSem) : Prop where
  ex : ∃ (f : Addr) (fd : FuncData), mg x = some (.ref f) ∧ PySem.W.keepIn K (.ref f) = true ∧ Binds K fd ps [] ∧ FnOk P w K mg base CX0 k f fd ps (spF ⟨K, mg⟩ fn)
structure FnDF (P : Program) (w : World) (K : PySem.W.Frag) (mg : Str → Option Value) (base : Heap) (x : Str) (k : Nat) (ps : List Str) (fn : FnSem) : Prop where
  ex : ∃ (f : Addr) (fd : FuncData), mg x = some (.ref f) ∧ PySem.W.keepIn K (.ref f) = true ∧ Binds K fd ps [] ∧ FnOk P w K mg base CX0 k f fd ps (spFF ⟨K, mg⟩ fn)
omit [TabC] in
theorem setO_same {i : Nat} {d : D} {ρ : Env} {j : Nat} (h : j ≠ i) : (setO i d ρ)[j]? = ρ[j]? := by
  unfold setO
  split
  · exact List.getElem?_set_ne (Ne.symm h)
  · exact List.getElem?_set_ne (Ne.symm h)
  · rfl
omit [TabC] in
theorem setO_length {i : Nat} {d : D} {ρ : Env} : (setO i d ρ).length = ρ.length := by
  unfold setO
  split <;> simp
section
variable {Γ : Gam} {G : Gc} {H H' H1 H2 : Hp} {σ σ' σ1 σ2 : L2.St} {ρ ρ' ρ1 ρ2 : Env}
omit [TabC] in
theorem ownO_setO (i : Nat) (d : D) : ∀ (σ : L2.St) (ρ : Env), ownO σ (setO i d ρ) = ownO σ ρ := fun σ ρ => by
  have key : ∀ (σ : L2.St) (ρ : Env) (i : Nat) (d0 : D), ρ[i]? = some (.o d0) → ownO σ (ρ.set i (.o d)) = ownO σ ρ := by
    intro σ
    induction σ with
    | nil => intro ρ i d0 _; simp [ownO]
    | cons x σ ih =>
      intro ρ i d0 h
      cases ρ with
      | nil => simp at h
      | cons s ρ =>
        cases i with
        | zero =>
          cases h
          show ownO (x :: σ) (.o d :: ρ) = ownO (x :: σ) (.o d0 :: ρ)
          cases x with
          | none => rfl
          | some v => cases v <;> rfl
        | succ i =>
          have := ih ρ i d0 h
          show ownO (x :: σ) (s :: ρ.set i (.o d)) = ownO (x :: σ) (s :: ρ)
          cases s with
          | o d' =>
            cases x with
            | none => exact this
            | some v =>
              cases v with
              | ref a => exact congrArg (a :: ·) this
              | _ => exact this
          | _ => rw [ownO_cons_non (by trivial), ownO_cons_non (by trivial)]; exact this
  unfold setO
  split
  · rename_i d0 e; exact key σ ρ i d0 e
  · rename_i d0 e
    refine (ownO_congr rfl (by simp) fun j => ?_).symm
    by_cases q : j = i
    · subst q
      refine .inr ⟨by rw [e]; trivial, ?_⟩
      rw [List.getElem?_set_self (List.getElem?_eq_some_iff.mp e).1]
      trivial
    · exact .inl ⟨rfl, (List.getElem?_set_ne (Ne.symm q)).symm⟩
  · rfl
omit [TabC] in
/-- the address of an own or a handed-in object -/
def atSl (Γ : Gam) (σ : L2.St) (ρ : Env) (i : Nat) (a : Addr) : Prop := σ[i]? = some (some (.ref a)) ∧ ((∃ d, ρ[i]? = some (.o d)) ∨ ∃ d, ρ[i]? = some (.p d) ∧ (i, a) ∈ Γ.π)
theorem Sr.atSl (s : Sr Γ G H σ ρ) {i : Nat} (h : (∃ d, ρ[i]? = some (.o d)) ∨ ∃ d, ρ[i]? = some (.p d)) : ∃ a d, DL.atSl Γ σ ρ i a ∧ (ρ[i]? = some (.o d) ∨ ρ[i]? = some (.p d)) ∧ Ow G H (Γ.w σ ρ) d a ∧ a ∈ Γ.mu σ ρ := by
  rcases h with ⟨d, h⟩ | ⟨d, h⟩
  · obtain ⟨x, ex, a, rfl, ow⟩ := s.sl i _ h
    exact ⟨a, d, ⟨ex, .inl ⟨d, h⟩⟩, .inl h, ow, List.mem_append_left _ (mem_ownO.mpr ⟨i, d, ex, h⟩)⟩
  · obtain ⟨x, ex, a, rfl, hp, ow⟩ := s.sl i _ h
    exact ⟨a, d, ⟨ex, .inr ⟨d, h, hp⟩⟩, .inr h, ow, List.mem_append_right _ (List.mem_map.mpr ⟨_, hp, rfl⟩)⟩
/-- two places, one object: one place -/
theorem Sr.at_inj (s : Sr Γ G H σ ρ) {i j : Nat} {a : Addr} (h : DL.atSl Γ σ ρ i a) (h' : DL.atSl Γ σ ρ j a) : i = j := by
  obtain ⟨e, h⟩ := h
  obtain ⟨e', h'⟩ := h'
  rcases h with ⟨d, h⟩ | ⟨d, h, hp⟩ <;> rcases h' with ⟨d', h'⟩ | ⟨d', h', hp'⟩
  · exact ownO_inj s.nd e h e' h'
  · exact absurd (s.pin _ hp').1 (s.out a (mem_ownO.mpr ⟨i, d, e, h⟩))
  · exact absurd (s.pin _ hp).1 (s.out a (mem_ownO.mpr ⟨j, d', e', h'⟩))
  · have key : ∀ (l : List (Nat × Addr)), (l.map (·.2)).Nodup → (i, a) ∈ l → (j, a) ∈ l → i = j := by
      intro l
      induction l with
      | nil => intro _ h; simp at h
      | cons q r ih =>
        intro nd h1 h2
        rw [List.map_cons, List.nodup_cons] at nd
        rcases List.mem_cons.mp h1 with z | z <;> rcases List.mem_cons.mp h2 with z' | z'
        · rw [← z] at z'; injection z' with z' _; exact z'.symm
        · exact absurd (List.mem_map.mpr ⟨_, z', by rw [← z]⟩) nd.1
        · exact absurd (List.mem_map.mpr ⟨_, z, by rw [← z']⟩) nd.1
        · exact ih nd.2 z z'
    exact key _ s.pnd hp hp'
end
end DL
namespace DL
open PySem L2
variable [TabC]
section
variable {Γ : Gam} {G : Gc} {H H' H1 H2 : Hp} {σ σ' σ1 σ2 : L2.St} {ρ ρ' ρ1 ρ2 : Env}
theorem atSl_w (s : Sr Γ G H σ ρ) {i : Nat} {a : Addr} (h : atSl Γ σ ρ i a) : a ∈ Γ.mu σ ρ := by
  rcases h with ⟨e, ⟨d, h⟩ | ⟨d, h, hp⟩⟩
  · exact List.mem_append_left _ (mem_ownO.mpr ⟨i, d, e, h⟩)
  · exact List.mem_append_right _ (List.mem_map.mpr ⟨_, hp, rfl⟩)
/-- own objects are changed -/
theorem Sr.change {A : List Addr} (s : Sr Γ G H σ ρ) (f : Fm A H H') (hA : ∀ a ∈ A, a ∈ Γ.mu σ ρ) (th : ∀ a ∈ A, H' a ≠ none) (hl : ρ2.length = ρ.length) (ho : ownO σ ρ2 = ownO σ ρ)
    (hc : ∀ (i : Nat) (t : Sl), ρ2[i]? = some t → (ρ[i]? = some t ∧ ∀ a, DL.atSl Γ σ ρ i a → a ∉ A) ∨ ∃ a d d', DL.atSl Γ σ ρ i a ∧ Ow G H' (Γ.w σ ρ) d' a ∧ ((ρ[i]? = some (.o d) ∧ t = .o d') ∨ (ρ[i]? = some (.p d) ∧ t = .p d')))
    (hp : ∀ p ∈ Γ.π, ∃ d, ρ2[p.1]? = some (.p d)) : Po Γ G σ ρ H ρ2 H' := by
  have tr : Tr H H' := fun b z e => by
    by_cases q : b ∈ A
    · exact th b q e
    · exact f.thw q z e
  have m : Mo (Γ.w σ ρ) (Γ.w σ ρ) H H' := ⟨f.mono fun b z => s.mu_w b (hA b z), fun b z => .inl z⟩
  refine ⟨⟨by rw [hl]; exact s.len, by rw [ho]; exact s.nd, by rw [ho]; exact s.out, fun i t ht => ?_, fun p hp' => ⟨(s.pin p hp').1, hp p hp'⟩, s.pnd, fun a ha e => ?_, s.tb.fm f⟩, f.mono hA, (fun a z => by rw [ho] at z; exact z), tr⟩
  · show ∃ x, _ ∧ SlR G H' (ownO σ ρ2 ++ Γ.U) Γ.π i x t
    rw [ho]
    rcases hc i t ht with ⟨h1, h2⟩ | ⟨a, d, d', h1, h2, h3⟩
    · obtain ⟨x, e, q⟩ := s.sl i t h1
      refine ⟨x, e, ?_⟩
      cases t with
      | e => trivial
      | v d => obtain ⟨v, e, r⟩ := q; exact ⟨v, e, Rp.mo m _ _ r⟩
      | o d =>
        obtain ⟨b, rfl, r⟩ := q
        exact ⟨b, rfl, r.mo m fun x z nt => f.out (h2 b ⟨e, .inl ⟨d, h1⟩⟩) z nt⟩
      | p d =>
        obtain ⟨b, rfl, p, r⟩ := q
        exact ⟨b, rfl, p, r.mo m fun x z nt => f.out (h2 b ⟨e, .inr ⟨d, h1, p⟩⟩) z nt⟩
    · obtain ⟨e, h1⟩ := h1
      refine ⟨_, e, ?_⟩
      rcases h3 with ⟨h3, rfl⟩ | ⟨h3, rfl⟩
      · exact ⟨a, rfl, h2⟩
      · rcases h1 with ⟨d0, h1⟩ | ⟨d0, h1, hpi⟩
        · rw [h3] at h1; cases h1
        · exact ⟨a, rfl, hpi, h2⟩
  · by_cases q : a ∈ A
    · exact th a q e
    · exact f.thw q (s.th a ha) e
theorem argS_as (s : Sr Γ G H σ ρ) : ∀ {as : List Arg} {vs : List V} {ss : List Sl}, ArR G H (Γ.w σ ρ) σ as vs → argS ρ as = some ss → AsR G H (Γ.w σ ρ) ss vs ∧ (∀ a, a ∈ pad ss vs ↔ ∃ i ∈ slotsOf as, atSl Γ σ ρ i a) ∧ ∀ i ∈ slotsOf as, ∃ a, atSl Γ σ ρ i a
  | [], vs, ss, h, e => by
    cases e
    cases (show vs = [] from h)
    exact ⟨rfl, fun a => by simp [pad, slotsOf], fun i z => absurd z (by simp [slotsOf])⟩
  | .val d :: r, _, ss, ⟨x, xs, ex, rx, q⟩, e => by
    subst ex
    unfold argS at e
    cases e1 : argS ρ r with
    | none => rw [e1] at e; cases e
    | some s1 =>
      rw [e1] at e
      cases e
      obtain ⟨h1, h2, h3⟩ := argS_as s q e1
      refine ⟨⟨x, xs, rfl, rx, h1⟩, fun a => ?_, h3⟩
      have e2 : pad (.v d :: s1) (x :: xs) = pad s1 xs := by cases x <;> simp [pad]
      rw [e2]
      exact h2 a
  | .slot i :: r, _, ss, ⟨x, xs, ex, hx, q⟩, e => by
    subst ex
    unfold argS at e
    have key : ∃ d s1, ((ρ[i]? = some (.o d)) ∨ ρ[i]? = some (.p d)) ∧ argS ρ r = some s1 ∧ ss = .p d :: s1 := by
      cases e0 : ρ[i]? with
      | none => rw [e0] at e; cases e
      | some sl =>
        rw [e0] at e
        cases sl with
        | o d =>
          cases e1 : argS ρ r with
          | none => rw [e1] at e; cases e
          | some s1 => rw [e1] at e; cases e; exact ⟨d, s1, .inl rfl, rfl, rfl⟩
        | p d =>
          cases e1 : argS ρ r with
          | none => rw [e1] at e; cases e
          | some s1 => rw [e1] at e; cases e; exact ⟨d, s1, .inr rfl, rfl, rfl⟩
        | _ => cases e
    obtain ⟨d, s1, k1, k2, rfl⟩ := key
    obtain ⟨a, d', at', k3, ow, mu⟩ := s.atSl (i := i) (k1.imp (fun z => ⟨d, z⟩) fun z => ⟨d, z⟩)
    have ed : d' = d := by rcases k1 with k1 | k1 <;> rcases k3 with k3 | k3 <;> rw [k1] at k3 <;> cases k3 <;> rfl
    subst ed
    have ev : x = .ref a := by have := at'.1; rw [hx] at this; cases this; rfl
    subst ev
    obtain ⟨h1, h2, h3⟩ := argS_as s q k2
    refine ⟨⟨a, xs, rfl, s.mu_w a mu, ow, h1⟩, fun b => ?_, fun j hj => ?_⟩
    · simp only [pad, slotsOf, List.mem_cons]
      constructor
      · rintro (rfl | z)
        · exact ⟨i, .inl rfl, at'⟩
        · obtain ⟨j, hj, hb⟩ := (h2 b).mp z; exact ⟨j, .inr hj, hb⟩
      · rintro ⟨j, rfl | hj, hb⟩
        · left
          have := hb.1; rw [at'.1] at this; cases this; rfl
        · exact .inr ((h2 b).mpr ⟨j, hj, hb⟩)
    · rcases List.mem_cons.mp hj with z | z
      · subst z; exact ⟨a, at'⟩
      · exact h3 j z
theorem pad_nodup (s : Sr Γ G H σ ρ) : ∀ {as : List Arg} {vs : List V} {ss : List Sl}, ArR G H (Γ.w σ ρ) σ as vs → argS ρ as = some ss → (slotsOf as).Nodup → (pad ss vs).Nodup
  | [], vs, ss, h, e, _ => by cases e; simp [pad]
  | .val d :: r, _, ss, ⟨x, xs, ex, rx, q⟩, e, nd => by
    subst ex
    unfold argS at e
    cases e1 : argS ρ r with
    | none => rw [e1] at e; cases e
    | some s1 =>
      rw [e1] at e
      cases e
      have e2 : pad (.v d :: s1) (x :: xs) = pad s1 xs := by cases x <;> simp [pad]
      rw [e2]
      exact pad_nodup s q e1 nd
  | .slot i :: r, _, ss, ⟨x, xs, ex, hx, q⟩, e, nd => by
    subst ex
    have full := argS_as s (as := .slot i :: r) (vs := x :: xs) (ss := ss) ⟨x, xs, rfl, hx, q⟩ e
    unfold argS at e
    have key : ∃ d s1, argS ρ r = some s1 ∧ ss = .p d :: s1 := by
      cases e0 : ρ[i]? with
      | none => rw [e0] at e; cases e
      | some sl =>
        rw [e0] at e
        cases sl with
        | o d =>
          cases e1 : argS ρ r with
          | none => rw [e1] at e; cases e
          | some s1 => rw [e1] at e; cases e; exact ⟨d, s1, rfl, rfl⟩
        | p d =>
          cases e1 : argS ρ r with
          | none => rw [e1] at e; cases e
          | some s1 => rw [e1] at e; cases e; exact ⟨d, s1, rfl, rfl⟩
        | _ => cases e
    obtain ⟨d, s1, k2, rfl⟩ := key
    obtain ⟨a, hi⟩ := full.2.2 i List.mem_cons_self
    have ev : x = .ref a := by have := hi.1; rw [hx] at this; cases this; rfl
    subst ev
    have nd' := List.nodup_cons.mp nd
    simp only [pad]
    refine List.nodup_cons.mpr ⟨fun z => ?_, pad_nodup s q k2 nd'.2⟩
    obtain ⟨j, hj, hb⟩ := ((argS_as s q k2).2.1 a).mp z
    exact nd'.1 (s.at_inj hi hb ▸ hj)
omit [TabC] in
theorem wbk_spec {G : Gc} {W : List Addr} {σ : L2.St} : ∀ {as : List Arg} {ss' : List Sl} {vs : List V} {ρ1 ρ2 : Env}, ArR G H W σ as vs → AsR G H' W ss' vs → wbk as ss' ρ1 = some ρ2 → (slotsOf as).Nodup → (∀ i ∈ slotsOf as, ∃ d, ρ1[i]? = some (.o d) ∨ ρ1[i]? = some (.p d)) →
    ρ2.length = ρ1.length ∧ ownO σ ρ2 = ownO σ ρ1 ∧ ∀ i : Nat, (i ∉ slotsOf as ∧ ρ2[i]? = ρ1[i]?) ∨ (i ∈ slotsOf as ∧ ∃ a d d', σ[i]? = some (some (.ref a)) ∧ Ow G H' W d' a ∧ ((ρ1[i]? = some (.o d) ∧ ρ2[i]? = some (.o d')) ∨ (ρ1[i]? = some (.p d) ∧ ρ2[i]? = some (.p d'))))
  | [], [], _, _, _, _, _, e, _, _ => by
    cases e
    exact ⟨rfl, rfl, fun i => .inl ⟨by simp [slotsOf], rfl⟩⟩
  | [], _ :: _, _, _, _, _, _, e, _, _ => by cases e
  | .val d :: r, [], _, _, _, _, _, e, _, _ => by cases e
  | .slot i :: r, [], _, _, _, _, _, e, _, _ => by cases e
  | .val d :: r, s0 :: ss', _, ρ1, ρ2, ⟨x, xs, ex, _, q⟩, q', e, nd, ho => by
    subst ex
    have q2 : AsR G H' W ss' xs := by
      cases s0 with
      | v d => obtain ⟨_, _, e, _, q⟩ := q'; cases e; exact q
      | p d => obtain ⟨_, _, e, _, _, q⟩ := q'; cases e; exact q
      | e => exact q'.elim
      | o d => exact q'.elim
    exact wbk_spec (as := r) q q2 (by simpa [wbk] using e) nd ho
  | .slot i :: r, s0 :: ss', _, ρ1, ρ2, ⟨x, xs, ex, hx, q⟩, q', e, nd, ho => by
    subst ex
    cases s0 with
    | p d' =>
      obtain ⟨a, xs', e2, _, ow, q2⟩ := q'
      cases e2
      have e3 : wbk r ss' (setO i d' ρ1) = some ρ2 := by simpa [wbk] using e
      have nd' := List.nodup_cons.mp nd
      have ho' : ∀ j ∈ slotsOf r, ∃ d, (setO i d' ρ1)[j]? = some (.o d) ∨ (setO i d' ρ1)[j]? = some (.p d) := fun j hj => by
        have ne : j ≠ i := fun z => nd'.1 (z ▸ hj)
        rw [setO_same ne]
        exact ho j (List.mem_cons_of_mem _ hj)
      obtain ⟨h1, h2, h3⟩ := wbk_spec (as := r) q q2 e3 nd'.2 ho'
      refine ⟨h1.trans setO_length, h2.trans (ownO_setO i d' σ ρ1), fun j => ?_⟩
      by_cases ej : j = i
      · subst ej
        have nj : j ∉ slotsOf r := nd'.1
        rcases h3 j with ⟨_, h3⟩ | ⟨z, _⟩
        · refine .inr ⟨List.mem_cons_self, a, ?_⟩
          obtain ⟨d, hd⟩ := ho j List.mem_cons_self
          have jl : j < ρ1.length := by rcases hd with hd | hd <;> exact (List.getElem?_eq_some_iff.mp hd).1
          refine ⟨d, d', hx, ow, ?_⟩
          rcases hd with hd | hd
          · refine .inl ⟨hd, ?_⟩
            rw [h3]
            unfold setO
            rw [hd]
            exact List.getElem?_set_self jl
          · refine .inr ⟨hd, ?_⟩
            rw [h3]
            unfold setO
            rw [hd]
            exact List.getElem?_set_self jl
        · exact absurd z nj
      · rcases h3 j with ⟨n, h3⟩ | ⟨z, a', d0, d1, k1, k2, k3⟩
        · refine .inl ⟨fun z => (List.mem_cons.mp z).elim ej n, ?_⟩
          rw [h3, setO_same ej]
        · refine .inr ⟨List.mem_cons_of_mem _ z, a', d0, d1, k1, k2, ?_⟩
          rw [setO_same ej] at k3
          exact k3
    | v d => simp [wbk] at e
    | e => exact q'.elim
    | o d => exact q'.elim
end
section
variable {X : Cx} {e : Expr} {es : List Expr} {pos p : Pos} {am : AM} {at1 : TA} {x : Str} {k : Nat} {ps : List Str} {fn : FnSem}
theorem call_core {G : Gc} {Γ : Gam} {σ : L2.St} {H1 : Hp} {ρ1 : Env} {as : List Arg} {vs : List V} {d : D} {ρ' : Env} {Q : VK} {E : XK} (s1 : Sr Γ G H1 σ ρ1) (ar : ArR G H1 (Γ.w σ ρ1) σ as vs) (h : callS fn as ρ1 = some (d, ρ'))
    (kk : ∀ v H', Po Γ G σ ρ1 H1 ρ' H' → Rp G H' (Γ.w σ ρ') d v → Q v H') : spF G fn vs H1 Q E := by
  unfold callS at h
  split at h
  · rename_i nd
    have nd := of_decide_eq_true nd
    cases e2 : argS ρ1 as with
    | none => rw [e2] at h; cases h
    | some ss =>
    rw [e2] at h
    replace h : ((fn ss).bind fun q => (wbk as q.2 ρ1).map fun ρ2 => (q.1, ρ2)) = some (d, ρ') := h
    cases e3 : fn ss with
    | none => rw [e3] at h; cases h
    | some r3 =>
    rw [e3] at h
    obtain ⟨d3, ss'⟩ := r3
    replace h : ((wbk as ss' ρ1).map fun ρ2 => (d3, ρ2)) = some (d, ρ') := h
    cases e4 : wbk as ss' ρ1 with
    | none => rw [e4] at h; cases h
    | some ρ2 =>
    rw [e4] at h
    cases h
    obtain ⟨k1, k2, k3⟩ := argS_as s1 ar e2
    refine ⟨Γ.w σ ρ1, ss, d, ss', k1, pad_nodup s1 ar e2 nd, ⟨s1.w_th, s1.tb⟩, e3, fun v H2 fm _ as' rv => ?_⟩
    have hA : ∀ a ∈ pad ss vs, a ∈ Γ.mu σ ρ1 := fun a z => by
      obtain ⟨i, _, hi⟩ := (k2 a).mp z
      exact atSl_w s1 hi
    have ho : ∀ i ∈ slotsOf as, ∃ d, ρ1[i]? = some (.o d) ∨ ρ1[i]? = some (.p d) := fun i hi => by
      obtain ⟨a, _, h⟩ := k3 i hi
      rcases h with ⟨d, h⟩ | ⟨d, h, _⟩
      · exact ⟨d, .inl h⟩
      · exact ⟨d, .inr h⟩
    obtain ⟨w1, w2, w3⟩ := wbk_spec (H := H1) ar as' e4 nd ho
    have po := s1.change (ρ2 := ρ') fm hA (fun a z ez => by
      obtain ⟨i, hi, ha⟩ := (k2 a).mp z
      rcases w3 i with ⟨n, _⟩ | ⟨_, a', d0, d1, h1, h2, _⟩
      · exact n hi
      · have : a' = a := by have := ha.1; rw [h1] at this; cases this; rfl
        subst this
        exact h2.ne0 ez) w1 w2 (fun i t ht => by
      rcases w3 i with ⟨n, h1⟩ | ⟨z, a', d0, d1, h1, h2, h3⟩
      · refine .inl ⟨by rw [← h1]; exact ht, fun a ha z => ?_⟩
        obtain ⟨j, hj, hb⟩ := (k2 a).mp z
        exact n (s1.at_inj ha hb ▸ hj)
      · obtain ⟨b, hb⟩ := k3 i z
        have : a' = b := by have := hb.1; rw [h1] at this; cases this; rfl
        subst this
        refine .inr ⟨a', d0, d1, hb, h2, ?_⟩
        rcases h3 with ⟨h3, h4⟩ | ⟨h3, h4⟩
        · rw [ht] at h4; cases h4; exact .inl ⟨h3, rfl⟩
        · rw [ht] at h4; cases h4; exact .inr ⟨h3, rfl⟩) (fun q hq => by
      obtain ⟨_, d0, h0⟩ := s1.pin q hq
      rcases w3 q.1 with ⟨n, h1⟩ | ⟨z, a', d1, d2, h1, h2, h3⟩
      · exact ⟨d0, by rw [h1]; exact h0⟩
      · rcases h3 with ⟨h3, _⟩ | ⟨_, h4⟩
        · rw [h0] at h3; cases h3
        · exact ⟨d2, h4⟩)
    refine kk v H2 po ?_
    show Rp _ _ (ownO σ ρ' ++ Γ.U) _ _
    rw [w2]
    exact rv
  · cases h
theorem call_q (q1 : ∀ (Γ : Gam) (σ : L2.St) (H : Hp) (ρ : Env) (as : List Arg) (ρ' : Env) (Q : List V → Hp → Prop), Sr Γ X.G H σ ρ → am ρ = some (as, ρ') → (∀ vs H', Po Γ X.G σ ρ H ρ' H' → ArR X.G H' (Γ.w σ ρ') σ as vs → Q vs H') → at1 σ H Q)
    (Γ : Gam) (σ : L2.St) (H : Hp) (ρ : Env) (d : D) (ρ' : Env) (Q : VK) (s : Sr Γ X.G H σ ρ) (h : eCall fn am ρ = some (d, ρ')) (kk : ∀ v H', Po Γ X.G σ ρ H ρ' H' → Rp X.G H' (Γ.w σ ρ') d v → Q v H') : tCall (spF X.G fn) [] E0 at1 σ H Q := by
  unfold eCall at h
  cases e1 : am ρ with
  | none => rw [e1] at h; cases h
  | some r1 =>
  rw [e1] at h
  refine q1 Γ σ H ρ r1.1 r1.2 _ s e1 fun vs H1 a1 ar => ?_
  show spF X.G fn (vs ++ []) H1 Q E0
  rw [List.append_nil]
  exact call_core a1.sr ar h fun v H2 po rv => kk v H2 (a1.trans po) rv
theorem de_call (F : FnD X.prog X.w X.K X.mg X.base x k ps fn) (hr : Room k X.A) (ha : DA X (e :: es) at1 am) (hg : Gl X x := by rfl) (hdb : (x == ("__debug__" : Str)) = false := by decide)
    (he : starEach (e :: es) X.env = (false, eval e X.env) :: starEach es X.env := by rfl) (hpl : (backTo pos (starEach es X.env)).any (·.1) = false := by rfl) : DE X (.Call (.Name x p) (e :: es) [] pos) (tCall (spF X.G fn) [] E0 at1) (eCall fn am) := by
  obtain ⟨f, fd, h1, h2, h3, h4⟩ := F.ex
  exact ⟨pe_call h4 hr hg h1 h2 h3 .nil pass0 ha.pe hdb he hpl, call_q ha.q⟩
end
omit [TabC] in
def forL (g : GM) (b : SM) : List D → Env → Option Out
  | [], ρ => some (.nx ρ)
  | d :: ds, ρ => (g d ρ).bind fun ρ1 => (b ρ1).bind fun o => match o with
    | .nx ρ' => forL g b ds ρ'
    | .ct ρ' => forL g b ds ρ'
    | .bk ρ' => some (.nx ρ')
    | .rt d ρ' => some (.rt d ρ')
    | .rf d ρ' => some (.rf d ρ')
omit [TabC] in
def sFor (it : IM) (g : GM) (b : SM) : SM := fun ρ => (it ρ).bind fun p => forL g b p.1 p.2
section
variable {X : Cx} {tg iter c : Expr} {body : List Stmt} {pos : Pos} {wi : TI} {g : TG} {tb : TS} {tc : TT} {it : IM} {gm : GM} {b : SM} {is : List Nat} {mc : TM}
theorem ds_for (hp : PassesOwn (model X.prog X.w) X.A X.env X.xe) (hc : X.calm = true) (hi : DI X tg iter wi it) (hg : DG X tg g is gm) (hb : DSs X body tb b) (hs : ∀ x, foldedSetIterable iter X.env x = pure x := by intro _; rfl) :
    DS X (.For tg iter body [] pos) (tFor wi g tb) (sFor it gm b) := by
  refine ⟨ps_for hp hc hi.pe hg.pe hb.pe hs, fun Γ σ H ρ o E s h f => ?_⟩
  unfold sFor at h
  cases e1 : it ρ with
  | none => rw [e1] at h; cases h
  | some r =>
  rw [e1] at h
  obtain ⟨ds, ρ1⟩ := r
  replace h : forL gm b ds ρ1 = some o := h
  refine hi.q Γ σ H ρ ds ρ1 _ s e1 fun J H1 a1 wd => ?_
  -- W: what is still to be done gives o
  refine ⟨fun i m σ2 H2 => m = ds.length - i ∧ i ≤ ds.length ∧ ∃ ρ2, So Γ X.G σ ρ1 H1 σ2 ρ2 H2 ∧ forL gm b (ds.drop i) ρ2 = some o, ⟨ds.length, by simp, Nat.zero_le _, ρ1, So.refl a1.sr, h⟩, ?_⟩
  rintro i m σ2 H2 ⟨rfl, hi2, ρ2, a2, h2⟩
  have fm : Fm (Γ.w σ ρ1) H1 H2 := a2.fm.mono a1.sr.mu_w
  by_cases hlt : i < ds.length
  · refine .inr ⟨wd.go H2 i fm hlt, fun σ3 H3 => ∃ ρ3, So Γ X.G σ ρ1 H1 σ3 ρ3 H3 ∧ forL gm b (ds.drop (i + 1)) ρ3 = some o, fun σ3 H3 ⟨ρ3, a3, h3⟩ => ⟨ds.length - (i + 1), by omega, rfl, hlt, ρ3, a3, h3⟩, fun x H3 y => ?_⟩
    obtain ⟨f23, yr⟩ := wd.yld H2 i x H3 fm y hlt
    rw [List.drop_eq_getElem_cons hlt] at h2
    replace h2 : ((gm ds[i] ρ2).bind fun ρ1 => (b ρ1).bind fun o => match o with | .nx ρ' => forL gm b (ds.drop (i + 1)) ρ' | .ct ρ' => forL gm b (ds.drop (i + 1)) ρ' | .bk ρ' => some (.nx ρ') | .rt d ρ' => some (.rt d ρ') | .rf d ρ' => some (.rf d ρ')) = some o := h2
    have s3 := a2.sr.keep f23
    have p3 : So Γ X.G σ2 ρ2 H2 σ2 ρ2 H3 := (a2.sr.po f23).so
    have rx : Rp X.G H3 (Γ.w σ2 ρ2) ds[i] x := yr _ _ (List.getElem?_eq_getElem hlt) fun c hc => by
      refine ⟨?_, a2.sr.w_th c hc⟩
      rcases List.mem_append.mp hc with z | z
      · exact (a2.nw c z).imp (fun z => List.mem_append_left _ z) id
      · exact .inl (List.mem_append_right _ z)
    cases g1 : gm ds[i] ρ2 with
    | none => rw [g1] at h2; cases h2
    | some ρ3 =>
    rw [g1] at h2
    refine hg.q Γ σ2 H3 ρ2 _ x ρ3 _ s3 rx g1 fun σ3 a3 al => ?_
    simp only [Option.bind_some] at h2
    cases b1 : b ρ3 with
    | none => rw [b1] at h2; cases h2
    | some o1 =>
    rw [b1] at h2
    simp only [Option.bind_some] at h2
    have base := (a2.trans p3).trans a3
    refine hb.q Γ σ3 H3 ρ3 o1 _ a3.sr b1 ?_
    cases o1 with
    | nx ρ4 => exact fun σ4 H4 a4 => ⟨ρ4, base.trans a4, h2⟩
    | ct ρ4 => exact fun σ4 H4 a4 => ⟨ρ4, base.trans a4, h2⟩
    | bk ρ4 =>
      cases h2
      exact fun σ4 H4 a4 => f σ4 H4 (a1.so.trans (base.trans a4))
    | rt d ρ4 =>
      cases h2
      exact fun v σ4 H4 a4 r => f v σ4 H4 (a1.so.trans (base.trans a4)) r
    | rf d ρ4 =>
      cases h2
      exact fun b σ4 H4 a4 n => f b σ4 H4 (a1.so.trans (base.trans a4)) (n.elim (fun z => (a1.so.trans base).nw b z) fun z => .inr ((a1.so.trans base).tr.back z))
  · have ei : i = ds.length := by omega
    subst ei
    rw [List.drop_length] at h2
    cases h2
    exact .inl ⟨wd.stop H2 fm, f σ2 H2 (a1.so.trans a2)⟩
end
end DL
namespace DL
open PySem L2
variable [TabC]
omit [TabC] in
def putO (i : Nat) (d : D) (ρ : Env) : Option Env := match ρ[i]? with
  | some (.p _) => none
  | some _ => some (ρ.set i (.o d))
  | none => none
omit [TabC] in
def sSetO (i : Nat) (m : EM) : SM := fun ρ => (m ρ).bind fun p => (putO i p.1 p.2).bind fun ρ' => some (.nx ρ')
section
variable {Γ : Gam} {G : Gc} {H H' H1 H2 : Hp} {σ σ' σ1 σ2 : L2.St} {ρ ρ' ρ1 ρ2 : Env}
omit [TabC] in
theorem own_put : ∀ (σ : L2.St) (ρ : Env) (i : Nat) (a : Addr) (d : D), σ.length = ρ.length → i < ρ.length → ∃ l1 l2, ownO (σ.set i (some (.ref a))) (ρ.set i (.o d)) = l1 ++ a :: l2 ∧ (l1 ++ l2).Sublist (ownO σ ρ)
  | [], ρ, i, a, d, h, l => by simp at h; simp [← h] at l
  | x :: σ, [], i, a, d, h, l => by simp at h
  | x :: σ, s :: ρ, 0, a, d, h, l => by
    refine ⟨[], ownO σ ρ, rfl, ?_⟩
    cases s with
    | o d' =>
      cases x with
      | none => exact List.Sublist.refl _
      | some v =>
        cases v with
        | ref b => exact List.sublist_cons_self _ _
        | _ => exact List.Sublist.refl _
    | _ => rw [ownO_cons_non (by trivial)]; exact List.Sublist.refl _
  | x :: σ, s :: ρ, i + 1, a, d, h, l => by
    obtain ⟨l1, l2, e, sb⟩ := own_put σ ρ i a d (by simpa using h) (by simpa using l)
    show ∃ l1 l2, ownO (x :: σ.set i (some (.ref a))) (s :: ρ.set i (.o d)) = _ ∧ _
    cases s with
    | o d' =>
      cases x with
      | none => exact ⟨l1, l2, e, sb⟩
      | some v =>
        cases v with
        | ref b => exact ⟨b :: l1, l2, congrArg (b :: ·) e, sb.cons₂ b⟩
        | _ => exact ⟨l1, l2, e, sb⟩
    | _ =>
      rw [ownO_cons_non (by trivial), ownO_cons_non (by trivial)]
      exact ⟨l1, l2, e, sb⟩
theorem Sr.putO {i : Nat} {d : D} {a : Addr} (s : Sr ⟨a :: Γ.U, Γ.π⟩ G H σ ρ) (h : putO i d ρ = some ρ') (ow : Ow G H (ownO σ ρ ++ a :: Γ.U) d a) (hpi : ∀ p ∈ Γ.π, p.2 ∈ Γ.U) (hU : ∀ b ∈ Γ.U, H b ≠ none) (haU : a ∉ Γ.U) :
    Sr Γ G H (σ.set i (some (.ref a))) ρ' ∧ ∀ b ∈ ownO (σ.set i (some (.ref a))) ρ', b = a ∨ b ∈ ownO σ ρ := by
  unfold DL.putO at h
  have key : ∃ s0, ρ[i]? = some s0 ∧ (∀ d, s0 ≠ .p d) ∧ ρ' = ρ.set i (.o d) := by
    cases e : ρ[i]? with
    | none => rw [e] at h; cases h
    | some s0 =>
      rw [e] at h
      cases s0 with
      | p d => cases h
      | _ => cases h; exact ⟨_, rfl, (fun d z => by cases z), rfl⟩
  obtain ⟨s0, e0, np, rfl⟩ := key
  have il : i < ρ.length := (List.getElem?_eq_some_iff.mp e0).1
  obtain ⟨l1, l2, eo, sb⟩ := own_put σ ρ i a d s.len il
  have mem : ∀ b ∈ ownO (σ.set i (some (.ref a))) (ρ.set i (.o d)), b = a ∨ b ∈ ownO σ ρ := fun b hb => by
    rw [eo] at hb
    rcases List.mem_append.mp hb with z | z
    · exact .inr (sb.mem (List.mem_append_left _ z))
    · rcases List.mem_cons.mp z with z | z
      · exact .inl z
      · exact .inr (sb.mem (List.mem_append_right _ z))
  have na : a ∉ ownO σ ρ := fun z => s.out a z List.mem_cons_self
  have m : Mo (ownO σ ρ ++ a :: Γ.U) (Γ.w (σ.set i (some (.ref a))) (ρ.set i (.o d))) H H := ⟨Fm.refl _ _, fun b z => .inl (by
    rcases List.mem_append.mp z with z | z
    · rcases mem b z with z | z
      · rw [z]; exact List.mem_append_right _ List.mem_cons_self
      · exact List.mem_append_left _ z
    · exact List.mem_append_right _ (List.mem_cons_of_mem _ z))⟩
  refine ⟨⟨by simpa using s.len, ?_, fun b hb z => ?_, fun j x hj => ?_, fun p hp => ⟨hpi p hp, ?_⟩, s.pnd, hU, s.tb⟩, mem⟩
  · rw [eo]
    have nd := s.nd.sublist sb
    have na' : a ∉ l1 ++ l2 := fun z => na (sb.mem z)
    rw [List.nodup_append] at nd ⊢
    refine ⟨nd.1, List.nodup_cons.mpr ⟨fun z => na' (List.mem_append_right _ z), nd.2.1⟩, fun b hb c hc => ?_⟩
    rcases List.mem_cons.mp hc with z | z
    · rw [z]; exact fun e => na' (List.mem_append_left _ (e ▸ hb))
    · exact nd.2.2 b hb c z
  · rcases mem b hb with q | q
    · rw [q] at z; exact haU z
    · exact s.out b q (List.mem_cons_of_mem _ z)
  · by_cases e : j = i
    · subst e
      rw [List.getElem?_set_self il] at hj
      cases hj
      exact ⟨_, List.getElem?_set_self (by rw [s.len]; exact il), a, rfl, ow.mo m fun x z _ => z⟩
    · rw [List.getElem?_set_ne (Ne.symm e)] at hj
      obtain ⟨y, e1, q⟩ := s.sl j x hj
      refine ⟨y, by rw [List.getElem?_set_ne (Ne.symm e)]; exact e1, ?_⟩
      cases x with
      | e => trivial
      | v d => obtain ⟨v, e, r⟩ := q; exact ⟨v, e, Rp.mo m _ _ r⟩
      | o d => obtain ⟨a, e, r⟩ := q; exact ⟨a, e, r.mo m fun x z _ => z⟩
      | p d => obtain ⟨a, e, p, r⟩ := q; exact ⟨a, e, p, r.mo m fun x z _ => z⟩
  · obtain ⟨_, d', h2⟩ := s.pin p hp
    have ne : i ≠ p.1 := fun z => by
      rw [← z, e0] at h2
      cases h2
      exact np _ rfl
    exact ⟨d', by rw [List.getElem?_set_ne ne]; exact h2⟩
/-- a new object: kept away from -/
theorem Sr.more' {a : Addr} (s : Sr Γ G H σ ρ) (n : H a = none) (f : Fm [] H H') (ne : H' a ≠ none) : Sr ⟨a :: Γ.U, Γ.π⟩ G H' σ ρ := by
  have s' := s.keep f
  refine ⟨s'.len, s'.nd, fun b hb z => ?_, fun i t ht => ?_, fun p hp => ⟨List.mem_cons_of_mem _ (s'.pin p hp).1, (s'.pin p hp).2⟩, s'.pnd, fun b hb => ?_, s'.tb⟩
  · rcases List.mem_cons.mp z with z | z
    · subst z; exact s.own_th b hb n
    · exact s'.out b hb z
  · obtain ⟨x, e, q⟩ := s.sl i t ht
    have m : Mo (Γ.w σ ρ) (ownO σ ρ ++ a :: Γ.U) H H' := ⟨f.mono fun _ z => absurd z (by simp), fun b z => by
      rcases List.mem_append.mp z with z | z
      · exact .inl (List.mem_append_left _ z)
      · rcases List.mem_cons.mp z with z | z
        · exact .inr (z ▸ n)
        · exact .inl (List.mem_append_right _ z)⟩
    refine ⟨x, e, ?_⟩
    cases t with
    | e => trivial
    | v d => obtain ⟨v, e, r⟩ := q; exact ⟨v, e, Rp.mo m _ _ r⟩
    | o d => obtain ⟨a, e, r⟩ := q; exact ⟨a, e, r.mo m fun x z nt => f a x (by simp) z nt⟩
    | p d => obtain ⟨a, e, p, r⟩ := q; exact ⟨a, e, p, r.mo m fun x z nt => f a x (by simp) z nt⟩
  · rcases List.mem_cons.mp hb with z | z
    · subst z; exact ne
    · exact s'.th b z
end
section
variable {X : Cx} {e a b : Expr} {es : List Expr} {pos pos' p : Pos} {me ma mb : EM} {te te1 te2 : TE} {am : AM} {at1 : TA}
theorem ds_setO (i : Nat) {x : Str} (hN : X.N.Nodup) (he : DF X e te me) (hi : X.N[i]? = some x := by rfl) (hx : Loc X.env.scope x := by first | exact Or.inl rfl | exact Or.inr rfl) (hs : swapsWith e (some (.Name x pos')) pos.line X.env = pure false := by rfl)
    (hf : X.fn x = true ∨ X.env.scope.names.lookup x = some .local := by first | exact .inl rfl | exact .inr rfl) : DS X (.Assign [.Name x pos'] e pos) (tAsg te (gName i)) (sSetO i me) := by
  refine ⟨ps_set hN hi hx he.pe hs hf, fun Γ σ H ρ o E s h f => ?_⟩
  unfold sSetO at h
  cases e1 : me ρ with
  | none => rw [e1] at h; cases h
  | some r =>
    rw [e1] at h
    replace h : (putO i r.1 r.2).bind (fun ρ' => some (.nx ρ')) = some o := h
    cases e2 : putO i r.1 r.2 with
    | none => rw [e2] at h; cases h
    | some ρ2 =>
      rw [e2] at h
      cases h
      refine he.q Γ σ H ρ r.1 r.2 _ s e1 fun a H' n sr ow fm sub tr => ?_
      obtain ⟨s2, mem⟩ := sr.putO (i := i) e2 ow (fun p hp => (s.pin p hp).1) (fun b hb => tr b (s.th b hb)) (fun z => s.th a z n)
      exact f _ H' ⟨s2, fm, fun b hb => (mem b hb).elim (fun z => .inr (z ▸ n)) fun z => .inl (sub b z), tr⟩
/-- what makes a fresh object of values -/
def CallDF (G : Gc) (r : List V → Hp → VK → Prop) (f : List D → Option D) : Prop := ∀ (H : Hp) (W : List Addr) (xs : List V) (ds : List D) (z : D) (Q : VK), (∀ a ∈ W, H a ≠ none) → RpAll G H W ds xs → f ds = some z →
  (∀ a H', H a = none → Fm [] H H' → Ow G H' (a :: W) z a → Q (.ref a) H') → r xs H Q
def OpDF (G : Gc) (r : R2) (f : D → D → Option D) : Prop := ∀ (H : Hp) (W : List Addr) (x y : V) (dx dy z : D) (Q : VK), (∀ a ∈ W, H a ≠ none) → Rp G H W dx x → Rp G H W dy y → f dx dy = some z →
  (∀ a H', H a = none → Fm [] H H' → Ow G H' (a :: W) z a → Q (.ref a) H') → r x y H Q
theorem fresh_end {Γ : Gam} {G : Gc} {H H1 H2 : Hp} {σ : L2.St} {ρ ρ' : Env} {d : D} {Q : VK} {v : Addr} (a1 : Po Γ G σ ρ H ρ' H1) (n : H1 v = none) (f : Fm [] H1 H2) (ow : Ow G H2 (v :: Γ.w σ ρ') d v)
    (k : ∀ a H', H a = none → Sr ⟨a :: Γ.U, Γ.π⟩ G H' σ ρ' → Ow G H' (ownO σ ρ' ++ a :: Γ.U) d a → Fm (Γ.mu σ ρ) H H' → (∀ b ∈ ownO σ ρ', b ∈ ownO σ ρ) → Tr H H' → Q (.ref a) H') : Q (.ref v) H2 := by
  refine k v H2 (a1.tr.back n) (a1.sr.more' n f ow.ne0) (ow.mo ⟨Fm.refl _ _, fun b z => .inl ?_⟩ fun _ z _ => z) (a1.fm.trans (f.mono fun _ z => absurd z (by simp))) a1.sub (a1.tr.trans (Tr.of f))
  rcases List.mem_append.mp z with z | z
  · exact List.mem_cons_of_mem _ (List.mem_append_left _ z)
  · rcases List.mem_cons.mp z with z | z
    · rw [z]; exact List.mem_cons_self
    · exact List.mem_cons_of_mem _ (List.mem_append_right _ z)
theorem callvF {t : TA} {r : List V → Hp → VK → Prop} {f : List D → Option D} {G : Gc} (od : CallDF G r f)
    (q1 : ∀ (Γ : Gam) (σ : L2.St) (H : Hp) (ρ : Env) (as : List Arg) (ρ' : Env) (Q : List V → Hp → Prop), Sr Γ G H σ ρ → am ρ = some (as, ρ') → (∀ vs H', Po Γ G σ ρ H ρ' H' → ArR G H' (Γ.w σ ρ') σ as vs → Q vs H') → t σ H Q)
    (Γ : Gam) (σ : L2.St) (H : Hp) (ρ : Env) (d : D) (ρ' : Env) (Q : VK) (s : Sr Γ G H σ ρ) (h : eCallV f am ρ = some (d, ρ'))
    (k : ∀ a H', H a = none → Sr ⟨a :: Γ.U, Γ.π⟩ G H' σ ρ' → Ow G H' (ownO σ ρ' ++ a :: Γ.U) d a → Fm (Γ.mu σ ρ) H H' → (∀ b ∈ ownO σ ρ', b ∈ ownO σ ρ) → Tr H H' → Q (.ref a) H') : tCB r t σ H Q := by
  unfold eCallV at h
  cases e1 : am ρ with
  | none => rw [e1] at h; cases h
  | some p =>
    rw [e1] at h
    replace h : ((vals p.1).bind fun ds => (f ds).map fun z => (z, p.2)) = some (d, ρ') := h
    cases e2 : vals p.1 with
    | none => rw [e2] at h; cases h
    | some ds =>
      rw [e2] at h
      replace h : ((f ds).map fun z => (z, p.2)) = some (d, ρ') := h
      cases e3 : f ds with
      | none => rw [e3] at h; cases h
      | some z =>
        rw [e3] at h
        cases h
        refine q1 Γ σ H ρ p.1 p.2 _ s e1 fun vs H1 a1 r1 => ?_
        exact od H1 _ vs ds d Q a1.sr.w_th (r1.vals e2) e3 fun v H3 n f3 ow => fresh_end a1 n f3 ow k
theorem df_lst (ha : DA X es at1 am) : DF X (.List es pos) (tLst at1) (eCallV mkLst am) := by
  refine ⟨pe_lst ha.pe, fun Γ σ H ρ d ρ' Q s h kk => ?_⟩
  have := callvF (r := fun xs H Q => xs.length ≤ sizeLine ∧ ∀ p, H p = none → Q (.ref p) (upd H p (.lst xs))) (G := X.G) (f := mkLst) (fun H W xs ds z Q th r e q => ?_) ha.q Γ σ H ρ d ρ' Q s h kk
  · exact this
  · unfold mkLst at e
    split at e
    · cases e
      rename_i l
      refine ⟨by rw [r.length]; exact line_of l, fun p n => q p _ n (fm_new n) ⟨xs, upd_same, line_of l, RpAll.mo ⟨(fm_new n).mono fun _ z => absurd z (by simp), fun b z => ?_⟩ _ _ r⟩⟩
      rcases List.mem_cons.mp z with z | z
      · exact .inr (z ▸ n)
      · exact .inl z
    · cases e
theorem df_callTy {x : Str} {T : String} {r : List V → Hp → VK → Prop} {f : List D → Option D} (hc : CallR X (.type T) r) (od : CallDF X.G r f) (hm : X.mg x = none) (hv : bootBuiltins x = some (.type T)) (ha : DA X (e :: es) at1 am) (hg : Gl X x := by rfl)
    (hn : x ≠ "__name__" := by decide) (hdb : (x == ("__debug__" : Str)) = false := by decide)
    (he : starEach (e :: es) X.env = (false, eval e X.env) :: starEach es X.env := by rfl) (hpl : (backTo pos (starEach es X.env)).any (·.1) = false := by rfl) : DF X (.Call (.Name x p) (e :: es) [] pos) (tCB r at1) (eCallV f am) :=
  ⟨pe_callTy hc hg hm hv ha.pe hn hdb he hpl, callvF od ha.q⟩
theorem new_mo' {W : List Addr} {H : Hp} {p : Addr} {o : HO} (n : H p = none) : Mo W (p :: W) H (upd H p o) := ⟨(fm_new n).mono fun _ z => absurd z (by simp), fun b z => by
  rcases List.mem_cons.mp z with z | z
  · exact .inr (z ▸ n)
  · exact .inl z⟩
theorem cdf_list : CallDF X.G (fun xs H Q => ∃ p ys, xs = [.ref p] ∧ (SqL X.K H p ys ∨ SqT X.K H p ys) ∧ ∀ l, H l = none → Q (.ref l) (upd H l (.lst ys))) listF := by
  intro H W xs ds z Q th r e q
  match ds, e with
  | [.lst ds], e =>
    cases e
    obtain ⟨x, rfl, a, vs, rfl, fa, la, ra⟩ := one_of r
    exact ⟨a, vs, rfl, .inl fa.sq, fun p n => q p _ n (fm_new n) ⟨vs, upd_same, la, RpAll.mo (new_mo' n) _ _ ra⟩⟩
  | [.tup ds], e =>
    cases e
    obtain ⟨x, rfl, a, vs, rfl, fa, la, ra⟩ := one_of r
    exact ⟨a, vs, rfl, .inr fa.sq, fun p n => q p _ n (fm_new n) ⟨vs, upd_same, la, RpAll.mo (new_mo' n) _ _ ra⟩⟩
end
omit [TabC] in
def stO (ρ : Env) (i : Nat) : Option D := match ρ[i]? with
  | some (.o d) => some d
  | some (.p d) => some d
  | _ => none
omit [TabC] in
def isK : String → D → Bool
  | "list", .lst _ => true
  | "dict", .dT _ => true
  | "dict", .dK _ => true
  | _, _ => false
omit [TabC] in
def eMut (T : String) (i : Nat) (f : D → List D → Option (D × D)) (a : AM) : EM := fun ρ => (stO ρ i).bind fun d0 => if isK T d0 then (a ρ).bind fun p => (vals p.1).bind fun ds => (stO p.2 i).bind fun d => (f d ds).map fun z => (z.1, setO i z.2 p.2) else none
/-- what a method does to its object -/
def MutD (G : Gc) (r : V → List V → Hp → VK → Prop) (f : D → List D → Option (D × D)) : Prop := ∀ (H : Hp) (W : List Addr) (a : Addr) (xs : List V) (d : D) (ds : List D) (z d' : D) (Q : VK), a ∈ W → (∀ a ∈ W, H a ≠ none) → Ow G H W d a → RpAll G H W ds xs → f d ds = some (z, d') →
  (∀ v H', Fm [a] H H' → Ow G H' W d' a → Rp G H' W z v → Q v H') → r (.ref a) xs H Q
section
variable {Γ : Gam} {G : Gc} {H H' H1 H2 : Hp} {σ σ' σ1 σ2 : L2.St} {ρ ρ' ρ1 ρ2 : Env}
omit [TabC] in
theorem stO_some {i : Nat} {d : D} (h : stO ρ i = some d) : ρ[i]? = some (.o d) ∨ ρ[i]? = some (.p d) := by
  unfold stO at h
  split at h
  · rename_i e; cases h; exact .inl e
  · rename_i e; cases h; exact .inr e
  · cases h
theorem Sr.stO (s : Sr Γ G H σ ρ) {i : Nat} {d : D} (h : DL.stO ρ i = some d) : ∃ a, DL.atSl Γ σ ρ i a ∧ Ow G H (Γ.w σ ρ) d a ∧ a ∈ Γ.mu σ ρ := by
  have k := stO_some h
  obtain ⟨a, d', at', k3, ow, mu⟩ := s.atSl (i := i) (k.imp (fun z => ⟨d, z⟩) fun z => ⟨d, z⟩)
  have ed : d' = d := by rcases k with k1 | k1 <;> rcases k3 with k3 | k3 <;> rw [k1] at k3 <;> cases k3 <;> rfl
  subst ed
  exact ⟨a, at', ow, mu⟩
/-- one own object is changed -/
theorem Sr.change1 {i : Nat} {a : Addr} {d d' : D} (s : Sr Γ G H σ ρ) (at' : DL.atSl Γ σ ρ i a) (h : DL.stO ρ i = some d) (f : Fm [a] H H') (ow : Ow G H' (Γ.w σ ρ) d' a) : Po Γ G σ ρ H (setO i d' ρ) H' := by
  have k := stO_some h
  have il : i < ρ.length := by rcases k with k | k <;> exact (List.getElem?_eq_some_iff.mp k).1
  refine s.change f (fun b z => ?_) (fun b z => ?_) setO_length (ownO_setO i d' σ ρ) (fun j t ht => ?_) fun p hp => ?_
  · rw [List.mem_singleton.mp z]; exact atSl_w s at'
  · rw [List.mem_singleton.mp z]; exact ow.ne0
  · by_cases e : j = i
    · subst e
      refine .inr ⟨a, d, d', at', ow, ?_⟩
      rcases k with k | k
      · refine .inl ⟨k, ?_⟩
        unfold setO at ht
        rw [k] at ht
        replace ht : (ρ.set j (.o d'))[j]? = some t := ht
        rw [List.getElem?_set_self il] at ht
        cases ht
        rfl
      · refine .inr ⟨k, ?_⟩
        unfold setO at ht
        rw [k] at ht
        replace ht : (ρ.set j (.p d'))[j]? = some t := ht
        rw [List.getElem?_set_self il] at ht
        cases ht
        rfl
    · rw [setO_same e] at ht
      exact .inl ⟨ht, fun b hb z => e (s.at_inj hb ((List.mem_singleton.mp z) ▸ at'))⟩
  · obtain ⟨_, d0, h0⟩ := s.pin p hp
    by_cases e : p.1 = i
    · rcases k with k | k
      · rw [e, k] at h0; cases h0
      · refine ⟨d', ?_⟩
        rw [e]
        unfold setO
        rw [k]
        exact List.getElem?_set_self il
    · exact ⟨d0, by rw [setO_same e]; exact h0⟩
omit [TabC] in
theorem Ow.ty {K : PySem.W.Frag} {mg : Str → Option Value} {W : List Addr} {T : String} {d : D} {a : Addr} (h : isK T d = true) (ow : Ow ⟨K, mg⟩ H W d a) : tyV K T (.ref a) H := by
  unfold isK at h
  split at h
  · obtain ⟨vs, e, _⟩ := ow; exact .inl ⟨rfl, vs, .inl (.inl e)⟩
  · obtain ⟨vs, e, _⟩ := ow; exact .inr (.inr (.inl ⟨rfl, .inr ⟨_, e⟩⟩))
  · obtain ⟨vs, e, _⟩ := ow; exact .inr (.inr (.inl ⟨rfl, .inl ⟨_, e⟩⟩))
  · cases h
end
section
variable {X : Cx} {e : Expr} {es : List Expr} {p : Pos} {am : AM} {at1 : TA} {x name : Str} {apos cpos : Pos} {T id : String} {r : V → List V → Hp → VK → Prop} {f : D → List D → Option (D × D)}
theorem mut_q (i : Nat) (od : MutD X.G r f) (q1 : ∀ (Γ : Gam) (σ : L2.St) (H : Hp) (ρ : Env) (as : List Arg) (ρ' : Env) (Q : List V → Hp → Prop), Sr Γ X.G H σ ρ → am ρ = some (as, ρ') → (∀ vs H', Po Γ X.G σ ρ H ρ' H' → ArR X.G H' (Γ.w σ ρ') σ as vs → Q vs H') → at1 σ H Q)
    (Γ : Gam) (σ : L2.St) (H : Hp) (ρ : Env) (d : D) (ρ' : Env) (Q : VK) (s : Sr Γ X.G H σ ρ) (h : eMut T i f am ρ = some (d, ρ')) (k : ∀ v H', Po Γ X.G σ ρ H ρ' H' → Rp X.G H' (Γ.w σ ρ') d v → Q v H') : tBM X.K T r (tVar i) at1 σ H Q := by
  unfold eMut at h
  cases e0 : stO ρ i with
  | none => rw [e0] at h; cases h
  | some d0 =>
  rw [e0] at h
  simp only [Option.bind_some] at h
  split at h
  · rename_i hk
    obtain ⟨a, at0, ow0, _⟩ := s.stO e0
    refine ⟨.ref a, at0.1, Ow.ty hk ow0, ?_⟩
    cases e1 : am ρ with
    | none => rw [e1] at h; cases h
    | some p1 =>
    rw [e1] at h
    simp only [Option.bind_some] at h
    cases e2 : vals p1.1 with
    | none => rw [e2] at h; cases h
    | some ds =>
    rw [e2] at h
    simp only [Option.bind_some] at h
    cases e3 : stO p1.2 i with
    | none => rw [e3] at h; cases h
    | some d1 =>
    rw [e3] at h
    simp only [Option.bind_some] at h
    cases e4 : f d1 ds with
    | none => rw [e4] at h; cases h
    | some z =>
    rw [e4] at h
    cases h
    refine q1 Γ σ H ρ p1.1 p1.2 _ s e1 fun vs H1 a1 ar => ?_
    obtain ⟨b, at1', ow1, mu1⟩ := a1.sr.stO e3
    have eb : b = a := by have := at1'.1; rw [at0.1] at this; cases this; rfl
    subst eb
    refine od H1 (Γ.w σ p1.2) b vs d1 ds z.1 z.2 _ (a1.sr.mu_w b mu1) a1.sr.w_th ow1 (ar.vals e2) e4 fun v H2 f2 ow2 rv => ?_
    have po := a1.sr.change1 at1' e3 f2 ow2
    refine k v H2 (a1.trans po) ?_
    show Rp _ _ (ownO σ (setO i z.2 p1.2) ++ Γ.U) _ _
    rw [ownO_setO]
    exact rv
  · cases h
theorem de_mth (i : Nat) (pa : PlainAttrs T) (slot : Slot T name id) (hty : typeOf (.builtin id) = pure (.type "method_descriptor")) (hm : MtR X id r) (od : MutD X.G r f) (ha : DA X (e :: es) at1 am) (hN : X.N[i]? = some x := by rfl)
    (hv : Vis X.env.scope x := by first | exact Or.inl rfl | exact Or.inr (Or.inl rfl) | exact Or.inr (Or.inr rfl)) (hd : (x == ("__debug__" : Str)) = false := by decide) (hcd : (x == ("__classdict__" : Str)) = false := by decide)
    (hbase : attributeBase (.Name x p) name X.env (eval (.Name x p) X.env) = eval (.Name x p) X.env := by rfl)
    (hfew : ((backTo cpos (starEach (e :: es) X.env)).all (fun x => !x.1) && (backToKw cpos (keywordEach [] X.env)).all (fun x => x.1.isSome)
      && decide ((e :: es).length + ([] : List Keyword).length + (if ([] : List Keyword).isEmpty then 0 else 1) < 30)) = true := by rfl)
    (hline : (apos.endLine == cpos.line) = true := by rfl) (hs : starEach (e :: es) X.env = (false, eval e X.env) :: starEach es X.env := by rfl) (hplain : (backTo cpos (starEach es X.env)).any (·.1) = false := by rfl) :
    DE X (.Call (.Attribute (.Name x p) name apos) (e :: es) [] cpos) (tBM X.K T r (tVar i) at1) (eMut T i f am) :=
  ⟨pe_bm pa slot hty hm (pe_var hN hv hd hcd) ha.pe hbase hfew hline hs hplain, mut_q i od ha.q⟩
omit [TabC] in
def appendM : D → List D → Option (D × D)
  | .lst xs, [d] => if lim (xs.length + 1) then some (.non, .lst (xs ++ [d])) else none
  | _, _ => none
theorem wr_mo {W : List Addr} {H : Hp} {a : Addr} {o u : HO} (h : a ∈ W) (hv : H a = some u) (hu : isTp u = false := by rfl) (hx : isTb u = false := by rfl) (hy : isEx u = false := by rfl) : Mo W W H (upd H a o) := ⟨(wr_fm hv hu hx hy).mono fun b z => by rw [List.mem_singleton.mp z]; exact h, fun _ z => .inl z⟩
theorem md_append : MutD X.G rAppend appendM := by
  intro H W a xs d ds z d' Q ha th ow r e q
  match d, ds, e with
  | .lst ys, [d1], e =>
    simp only [appendM] at e
    split at e
    · rename_i l
      cases e
      obtain ⟨x, rfl, rx⟩ := one_of r
      obtain ⟨vs, hv, lv, rv⟩ := ow
      have l' := lim_line l
      refine ⟨a, vs, x, rfl, rfl, hv, by rw [rv.length]; omega, q _ _ (wr_fm hv) ⟨vs ++ [x], upd_same, by rw [List.length_append]; exact l', RpAll.mo (wr_mo ha hv) _ _ (rv.app ⟨x, [], rfl, rx, rfl⟩)⟩ rfl⟩
    · cases e
end
end DL
namespace PySem
end PySem
namespace DL
open PySem L2
variable [TabC]
end DL
namespace DL
open PySem L2
variable [TabC]
omit [TabC] in
def zipF : List D → List D → List D
  | d :: ds, e :: es => .tup [d, e] :: zipF ds es
  | _, _ => []
omit [TabC] in
theorem zipF_length : ∀ (ds es : List D), (zipF ds es).length = min ds.length es.length
  | [], _ => by simp [zipF]
  | _ :: _, [] => by simp [zipF]
  | d :: ds, e :: es => by simp [zipF, zipF_length ds es]
omit [TabC] in
theorem zipF_get : ∀ (ds es : List D) (i : Nat) (x y : D), ds[i]? = some x → es[i]? = some y → (zipF ds es)[i]? = some (.tup [x, y])
  | [], _, _, _, _, h, _ => by simp at h
  | _ :: _, [], _, _, _, _, h => by simp at h
  | d :: ds, e :: es, 0, x, y, h1, h2 => by cases h1; cases h2; rfl
  | d :: ds, e :: es, i + 1, x, y, h1, h2 => zipF_get ds es i x y h1 h2
omit [TabC] in
def zipA : List Arg → Option (List D)
  | [.val (.lst ds), .val (.lst es)] => some (zipF ds es)
  | [.val (.tup ds), .val (.tup es)] => some (zipF ds es)
  | _ => none
theorem walkD_pair {G : Gc} {W0 : List Addr} {H0 : Hp} {J : It} {ps : List D} (le : ps.length ≤ sizeLine) (go : ∀ (H : Hp) (i : Nat), Fm W0 H0 H → i < ps.length → J.go i H) (stop : ∀ (H : Hp), Fm W0 H0 H → J.stop ps.length H)
    (yld : ∀ (H : Hp) (i : Nat) (x : V) (H' : Hp), Fm W0 H0 H → J.yld i H x H' → i < ps.length → ∃ T v1 v2 d1 d2, x = .ref T ∧ H T = none ∧ H' = upd H T (.tup [v1, v2]) ∧ ps[i]? = some (.tup [d1, d2]) ∧ Rp G H0 W0 d1 v1 ∧ Rp G H0 W0 d2 v2) : WalkD G W0 H0 J ps := by
  refine ⟨le, go, stop, fun H i x H' f y l => ?_⟩
  obtain ⟨T, v1, v2, d1, d2, rfl, hT, rfl, hp, r1, r2⟩ := yld H i x H' f y l
  refine ⟨fm_new hT, fun W d hd wb => ?_⟩
  rw [hp] at hd
  cases hd
  have m := (fm_mo f wb)
  have nT : T ∉ W := fun z => (wb T z).2 hT
  have m2 : Mo W W H (upd H T (.tup [v1, v2])) := ⟨(fm_new hT).mono fun _ z => absurd z (by simp), fun _ z => .inl z⟩
  refine ⟨T, [v1, v2], rfl, upd_same, by show 2 ≤ sizeLine; decide, v1, [v2], rfl, Rp.mo m2 _ _ (Rp.mo m _ _ r1), v2, [], rfl, Rp.mo m2 _ _ (Rp.mo m _ _ r2), rfl⟩
section
variable {X : Cx} {e e2 : Expr} {pos p tpos : Pos} {elts : List Expr} {kk : Nat} {am : AM} {at1 : TA}
theorem di_zip (hm : X.mg "zip" = none) (ha : DA X [e, e2] at1 am) (hg : Gl X "zip" := by rfl) (hs : starEach [e, e2] X.env = (false, eval e X.env) :: starEach [e2] X.env := by rfl) (hpl : (backTo pos (starEach [e2] X.env)).any (·.1) = false := by rfl) :
    DI X (.Tuple elts kk tpos) (.Call (.Name "zip" p) [e, e2] [] pos) (RZ.iZipA X.K at1) (iArg zipA am) := by
  refine ⟨RZ.pi_zipA hg hm ha.pe hs hpl, fun Γ σ H ρ ds ρ' R s h k => ?_⟩
  obtain ⟨as, e1, e2⟩ := iArg_some h
  refine ha.q Γ σ H ρ _ _ _ s e1 fun vs H1 a1 r1 => ?_
  match as, e2, r1 with
  | [.val (.lst ds0), .val (.lst es0)], e2, r1 =>
    cases e2
    obtain ⟨x, xs, rfl, ⟨a, vs, rfl, fa, la, ra⟩, y, ys, rfl, ⟨b, ws, rfl, fb, lb, rb⟩, rr⟩ := r1
    cases (show ys = [] from rr)
    refine ⟨a, b, vs, ws, rfl, .inl ⟨fa.sq, fb.sq, k _ H1 a1 ?_⟩⟩
    have sq : ∀ H, Fm (Γ.w σ ρ') H1 H → SqL X.K H a vs ∧ SqL X.K H b ws := fun H f => ⟨.inl (f.rd fa.1 fa.2), .inl (f.rd fb.1 fb.2)⟩
    have w := walk_zip (K := X.K) (a := a) (b := b) (xs := vs) (ys := ws) (n := min ds0.length es0.length) (by rw [ra.length, rb.length])
    refine walkD_pair (by rw [zipF_length]; omega) (fun H i f l => w.goes i H (by rwa [zipF_length] at l) (sq H f)) (fun H f => by rw [zipF_length]; exact w.stops H (sq H f)) fun H i x H' f y l => ?_
    rw [zipF_length] at l
    obtain ⟨T, v1, v2, e1, e2, e3, e4, e5⟩ := w.yields i H x H' l (sq H f) y
    have l1 : i < ds0.length := by omega
    have l2 : i < es0.length := by omega
    obtain ⟨v, hv, rv⟩ := ra.get (List.getElem?_eq_getElem l1)
    obtain ⟨u, hu, ru⟩ := rb.get (List.getElem?_eq_getElem l2)
    replace e4 : vs[i]? = some v1 := e4
    replace e5 : ws[i]? = some v2 := e5
    rw [hv] at e4
    rw [hu] at e5
    cases e4
    cases e5
    exact ⟨T, _, _, ds0[i], es0[i], e1, e2, e3, zipF_get _ _ i _ _ (List.getElem?_eq_getElem l1) (List.getElem?_eq_getElem l2), rv, ru⟩
  | [.val (.tup ds0), .val (.tup es0)], e2, r1 =>
    cases e2
    obtain ⟨x, xs, rfl, ⟨a, vs, rfl, fa, la, ra⟩, y, ys, rfl, ⟨b, ws, rfl, fb, lb, rb⟩, rr⟩ := r1
    cases (show ys = [] from rr)
    refine ⟨a, b, vs, ws, rfl, .inr ⟨fa.sq, fb.sq, k _ H1 a1 ?_⟩⟩
    have sqa : ∀ H, Fm (Γ.w σ ρ') H1 H → SqT X.K H a vs := fun H f => by
      exact .inl (.inl (f _ _ (fun _ => rfl) fa rfl))
    have sqb : ∀ H, Fm (Γ.w σ ρ') H1 H → SqT X.K H b ws := fun H f => by
      exact .inl (.inl (f _ _ (fun _ => rfl) fb rfl))
    have ea := ra.length
    have eb := rb.length
    refine walkD_pair (by rw [zipF_length]; omega) (fun H i f l => ?_) (fun H f => ?_) fun H i x H' f y l => ?_
    · rw [zipF_length] at l
      exact ⟨vs, ws, vs[i]'(by omega), ws[i]'(by omega), sqa H f, sqb H f, List.getElem?_eq_getElem _, List.getElem?_eq_getElem _⟩
    · rw [zipF_length]
      exact ⟨vs, ws, sqa H f, sqb H f, by omega⟩
    · rw [zipF_length] at l
      obtain ⟨T, v1, v2, e1, e2, e3, e4, e5⟩ := y
      have l1 : i < ds0.length := by omega
      have l2 : i < es0.length := by omega
      obtain ⟨v, hv, rv⟩ := ra.get (List.getElem?_eq_getElem l1)
      obtain ⟨u, hu, ru⟩ := rb.get (List.getElem?_eq_getElem l2)
      have e6 := e4 vs (sqa H f)
      have e7 := e5 ws (sqb H f)
      rw [hv] at e6
      rw [hu] at e7
      cases e6
      cases e7
      exact ⟨T, _, _, ds0[i], es0[i], e1, e2, e3, zipF_get _ _ i _ _ (List.getElem?_eq_getElem l1) (List.getElem?_eq_getElem l2), rv, ru⟩
end
omit [TabC] in
def permA (perm : List Nat) (as : List Arg) : List Arg := perm.map fun i => as.getD i (.val .non)
omit [TabC] in
def permV (perm : List Nat) (vs : List V) : List V := perm.map fun i => vs.getD i .non
omit [TabC] in
def permU (perm : List Nat) (us : List Value) : List Value := perm.map fun i => us.getD i .none
omit [TabC] in
def eCallK (perm : List Nat) (n m : Nat) (fn : FnSem) (a b : AM) : EM := fun ρ => (a ρ).bind fun p => (b p.2).bind fun q => if decide (p.1.length = n) && decide (q.1.length = m) && perm.all (fun i => decide (i < n + m)) then callS fn (permA perm (p.1 ++ q.1)) q.2 else none
/-- a def's binding of a call with keywords -/
structure FnK (P : Program) (w : World) (K : PySem.W.Frag) (mg : Str → Option Value) (base : Heap) (x : Str) (k : Nat) (ps ks : List Str) (n : Nat) (perm : List Nat) (fn : FnSem) : Prop where
  ex : ∃ (f : Addr) (fd : FuncData), mg x = some (.ref f) ∧ PySem.W.keepIn K (.ref f) = true ∧ KBn K fd ps n ks (fun us ws => permU perm (us ++ ws)) (fun vs zs => permV perm (vs ++ zs)) ∧ FnOk P w K mg base CX0 k f fd ps (spF ⟨K, mg⟩ fn)
structure DK (X : Cx) (kws : List Keyword) (t : TA) (m : AM) : Prop where
  pe : PK X kws t
  q : ∀ (Γ : Gam) (σ : L2.St) (H : Hp) (ρ : Env) (as : List Arg) (ρ' : Env) (Q : List V → Hp → Prop), Sr Γ X.G H σ ρ → m ρ = some (as, ρ') →
    (∀ vs H', Po Γ X.G σ ρ H ρ' H' → ArR X.G H' (Γ.w σ ρ') σ as vs → Q vs H') → t σ H Q
omit [TabC] in
theorem ArR.length {G : Gc} {H : Hp} {W : List Addr} {σ : L2.St} : ∀ {as : List Arg} {vs : List V}, ArR G H W σ as vs → vs.length = as.length
  | [], _, h => by rw [show _ = [] from h]; rfl
  | .val d :: r, _, ⟨x, xs, e, _, q⟩ => by rw [e, List.length_cons, List.length_cons, ArR.length q]
  | .slot i :: r, _, ⟨x, xs, e, _, q⟩ => by rw [e, List.length_cons, List.length_cons, ArR.length q]
omit [TabC] in
theorem ArR.app {G : Gc} {H : Hp} {W : List Addr} {σ : L2.St} : ∀ {as bs : List Arg} {vs ws : List V}, ArR G H W σ as vs → ArR G H W σ bs ws → ArR G H W σ (as ++ bs) (vs ++ ws)
  | [], _, _, _, h, q => by cases (show _ = [] from h); exact q
  | .val d :: r, _, _, _, ⟨x, xs, e, rx, k⟩, q => ⟨x, xs ++ _, by rw [e]; rfl, rx, ArR.app k q⟩
  | .slot i :: r, _, _, _, ⟨x, xs, e, rx, k⟩, q => ⟨x, xs ++ _, by rw [e]; rfl, rx, ArR.app k q⟩
omit [TabC] in
theorem ArR.get {G : Gc} {H : Hp} {W : List Addr} {σ : L2.St} : ∀ {as : List Arg} {vs : List V} {i : Nat} {a : Arg}, ArR G H W σ as vs → as[i]? = some a → ∃ v, vs[i]? = some v ∧ ArR G H W σ [a] [v]
  | [], _, _, _, _, h => by simp at h
  | .val d :: r, _, 0, _, ⟨x, xs, e, rx, k⟩, h => by cases h; exact ⟨x, by rw [e]; rfl, x, [], rfl, rx, rfl⟩
  | .slot d :: r, _, 0, _, ⟨x, xs, e, rx, k⟩, h => by cases h; exact ⟨x, by rw [e]; rfl, x, [], rfl, rx, rfl⟩
  | .val d :: r, _, i + 1, _, ⟨x, xs, e, rx, k⟩, h => by
    obtain ⟨v, h1, h2⟩ := ArR.get (i := i) k h
    exact ⟨v, by rw [e]; exact h1, h2⟩
  | .slot d :: r, _, i + 1, _, ⟨x, xs, e, rx, k⟩, h => by
    obtain ⟨v, h1, h2⟩ := ArR.get (i := i) k h
    exact ⟨v, by rw [e]; exact h1, h2⟩
omit [TabC] in
theorem ArR.perm {G : Gc} {H : Hp} {W : List Addr} {σ : L2.St} {as : List Arg} {vs : List V} (r : ArR G H W σ as vs) : ∀ {perm : List Nat}, (∀ i ∈ perm, i < as.length) → ArR G H W σ (permA perm as) (permV perm vs)
  | [], _ => rfl
  | i :: perm, h => by
    have il := h i List.mem_cons_self
    obtain ⟨v, h1, h2⟩ := r.get (List.getElem?_eq_getElem il)
    have e1 : permA (i :: perm) as = [as[i]] ++ permA perm as := by simp [permA, List.getD_eq_getElem?_getD, List.getElem?_eq_getElem il]
    have e2 : permV (i :: perm) vs = [v] ++ permV perm vs := by simp [permV, List.getD_eq_getElem?_getD, h1]
    rw [e1, e2]
    exact h2.app (ArR.perm r fun j hj => h j (List.mem_cons_of_mem _ hj))
section
variable {X : Cx} {e : Expr} {es : List Expr} {kws : List Keyword} {pos p kpos : Pos} {am bm : AM} {m : EM} {te : TE} {at1 at2 : TA} {x : Str} {k n : Nat} {ps ks : List Str} {perm : List Nat} {fn : FnSem} {nm : Option Str}
theorem dk_nil : DK X [] tNil aNil := ⟨pk_nil, fun Γ σ H ρ as ρ' Q s h k => by
  cases h
  exact k [] H (Po.refl s) rfl⟩
theorem dk_cons (ha : DE X e te m) (hr : DK X kws at1 am) : DK X (⟨nm, e, kpos⟩ :: kws) (tCons te at1) (aCons m am) := by
  refine ⟨pk_cons ha.pe hr.pe, fun Γ σ H ρ as ρ' Q s h k => ?_⟩
  unfold aCons at h
  cases e1 : m ρ with
  | none => rw [e1] at h; cases h
  | some p =>
    rw [e1] at h
    replace h : ((am p.2).map fun q => (.val p.1 :: q.1, q.2)) = some (as, ρ') := h
    cases e2 : am p.2 with
    | none => rw [e2] at h; cases h
    | some q =>
      rw [e2] at h
      cases h
      refine ha.q Γ σ H ρ p.1 p.2 _ s e1 fun v H1 a1 r1 => ?_
      refine hr.q Γ σ H1 p.2 q.1 q.2 _ a1.sr e2 fun vs H2 a2 r2 => ?_
      exact k _ H2 (a1.trans a2) ⟨v, vs, rfl, Rp.mo (a2.mo a1.sr) _ _ r1, r2⟩
theorem callK_q {E : XK} (q1 : ∀ (Γ : Gam) (σ : L2.St) (H : Hp) (ρ : Env) (as : List Arg) (ρ' : Env) (Q : List V → Hp → Prop), Sr Γ X.G H σ ρ → am ρ = some (as, ρ') → (∀ vs H', Po Γ X.G σ ρ H ρ' H' → ArR X.G H' (Γ.w σ ρ') σ as vs → Q vs H') → at1 σ H Q)
    (q2 : ∀ (Γ : Gam) (σ : L2.St) (H : Hp) (ρ : Env) (as : List Arg) (ρ' : Env) (Q : List V → Hp → Prop), Sr Γ X.G H σ ρ → bm ρ = some (as, ρ') → (∀ vs H', Po Γ X.G σ ρ H ρ' H' → ArR X.G H' (Γ.w σ ρ') σ as vs → Q vs H') → at2 σ H Q)
    (Γ : Gam) (σ : L2.St) (H : Hp) (ρ : Env) (d : D) (ρ' : Env) (Q : VK) (s : Sr Γ X.G H σ ρ) (h : eCallK perm n ks.length fn am bm ρ = some (d, ρ')) (kk : ∀ v H', Po Γ X.G σ ρ H ρ' H' → Rp X.G H' (Γ.w σ ρ') d v → Q v H') :
    tCallN n ks.length (spF X.G fn) (fun vs zs => permV perm (vs ++ zs)) E at1 at2 σ H Q := by
  unfold eCallK at h
  cases e1 : am ρ with
  | none => rw [e1] at h; cases h
  | some r1 =>
  rw [e1] at h
  simp only [Option.bind_some] at h
  cases e2 : bm r1.2 with
  | none => rw [e2] at h; cases h
  | some r2 =>
  rw [e2] at h
  simp only [Option.bind_some] at h
  split at h
  · rename_i l
    rw [Bool.and_eq_true, Bool.and_eq_true] at l
    have l1 := of_decide_eq_true l.1.1
    have l2 := of_decide_eq_true l.1.2
    refine q1 Γ σ H ρ r1.1 r1.2 _ s e1 fun vs H1 a1 ar => ?_
    refine q2 Γ σ H1 r1.2 r2.1 r2.2 _ a1.sr e2 fun zs H2 a2 br => ?_
    have ar2 := ArR.mo (a2.mo a1.sr) _ _ ar
    refine ⟨ar.length.trans l1, br.length.trans l2, ?_⟩
    refine call_core a2.sr ((ar2.app br).perm fun i hi => ?_) h fun v H3 po rv => kk v H3 ((a1.trans a2).trans po) rv
    rw [List.length_append, l1, l2]
    exact of_decide_eq_true (List.all_eq_true.mp l.2 i hi)
  · cases h
theorem de_callK0 (F : FnK X.prog X.w X.K X.mg X.base x k ps ks 0 perm fn) (hr : Room k X.A) (hkw : DK X kws at2 bm) (hg : Gl X x := by rfl) (hall : (backToKw pos (keywordEach kws X.env)).all (·.1.isSome) = true := by rfl) (hks : (backToKw pos (keywordEach kws X.env)).filterMap (·.1) = ks := by rfl)
    (hdb : (x == ("__debug__" : Str)) = false := by decide) (hpl : ((backTo pos (starEach [] X.env)).any (·.1) || (backToKw pos (keywordEach kws X.env)).any (·.1.isNone)) = false := by rfl) :
    DE X (.Call (.Name x p) [] kws pos) (tCallN 0 ks.length (spF X.G fn) (fun vs zs => permV perm (vs ++ zs)) E0 tNil at2) (eCallK perm 0 ks.length fn aNil bm) := by
  obtain ⟨f, fd, h1, h2, h3, h4⟩ := F.ex
  refine ⟨⟨fun pins s σ H Q I h => ?_⟩, callK_q (fun Γ σ H ρ as ρ' Q s h k => by
    cases h
    exact k [] H (Po.refl s) rfl) hkw.q⟩
  refine wpAny_Call_Name_kw (ld_glob I hg h1 ?_ hdb)
  refine PySem.W.callWith_KW0 (h₀ := X.base) I.ok.mod.kin h2 hall ?_ hpl
  refine thn (hkw.pe.run pos pins s σ H _ I h) fun ws s2 ⟨zs, H2, I2, rz, l1, l2, q2⟩ => ⟨I2.kIn, ?_⟩
  rw [hks]
  exact run_fnN (us := []) (vs := []) h4 hr h3 pass0 I2 .nil rz l1 l2 q2
end
omit [TabC] in
abbrev OM := Env → Option (Option Int × Env)
structure DO (X : Cx) (e : Option Expr) (t : TO) (m : OM) : Prop where
  pe : PO X e t
  q : ∀ (Γ : Gam) (σ : L2.St) (H : Hp) (ρ : Env) (d : Option Int) (ρ' : Env) (Q : Option Int → Hp → Prop), Sr Γ X.G H σ ρ → m ρ = some (d, ρ') → (∀ H', Po Γ X.G σ ρ H ρ' H' → Q d H') → t σ H Q
omit [TabC] in
def oNo : OM := fun ρ => some (none, ρ)
omit [TabC] in
def oSome (m : EM) : OM := fun ρ => (m ρ).bind fun p => match p.1 with
  | .int i => some (some i, p.2)
  | _ => none
omit [TabC] in
def cutD (xs : List D) (lo hi : Option Int) : List D := (xs.drop (HT.sIx xs.length 0 lo)).take (HT.sIx xs.length xs.length hi - HT.sIx xs.length 0 lo)
omit [TabC] in
def sliceD : D → Option Int → Option Int → Option D
  | .lst xs, lo, hi => some (.lst (cutD xs lo hi))
  | .tup xs, lo, hi => some (.tup (cutD xs lo hi))
  | _, _, _ => none
omit [TabC] in
def eSlice (a : EM) (lo hi : OM) : EM := fun ρ => (a ρ).bind fun p => (lo p.2).bind fun l => (hi l.2).bind fun h => (sliceD p.1 l.1 h.1).map fun z => (z, h.2)
omit [TabC] in
def revD : D → Option D
  | .lst xs => some (.lst xs.reverse)
  | _ => none
omit [TabC] in
theorem cutD_rp {G : Gc} {H : Hp} {W : List Addr} {ds : List D} {vs : List V} (r : RpAll G H W ds vs) (lo hi : Option Int) : RpAll G H W (cutD ds lo hi) (cutV vs lo hi) := by
  unfold cutD cutV
  rw [r.length]
  exact (r.drop _).take _
omit [TabC] in
theorem cutD_length (ds : List D) (lo hi : Option Int) : (cutD ds lo hi).length ≤ ds.length := by
  unfold cutD
  rw [List.length_take, List.length_drop]
  omega
omit [TabC] in
theorem cutD_all {ds : List D} {lo hi : Option Int} (h : HT.sIx ds.length 0 lo = 0 ∧ HT.sIx ds.length ds.length hi = ds.length) : cutD ds lo hi = ds := by
  unfold cutD
  rw [h.1, h.2]
  simp
section
variable {X : Cx} {e : Expr} {lo hi : Option Expr} {pos p2 : Pos} {m : EM} {te : TE} {ml mh : OM} {tl th : TO}
theorem do_none : DO X none tNoPart oNo := ⟨po_none, fun Γ σ H ρ d ρ' Q s h k => by
  cases h
  exact k H (Po.refl s)⟩
theorem do_some (h : DE X e te m) : DO X (some e) (tPart te) (oSome m) := by
  refine ⟨po_some h.pe, fun Γ σ H ρ d ρ' Q s hm k => ?_⟩
  unfold oSome at hm
  cases e1 : m ρ with
  | none => rw [e1] at hm; cases hm
  | some p =>
    rw [e1] at hm
    obtain ⟨d0, ρ0⟩ := p
    cases d0 with
    | int i =>
      cases hm
      exact h.q Γ σ H ρ _ _ _ s e1 fun v H1 a1 r1 => ⟨i, r1, k H1 a1⟩
    | _ => cases hm
omit [TabC] in
abbrev rSlX (K : PySem.W.Frag) : V → Option Int → Option Int → Hp → VK → Prop := fun x lo hi H Q => rSlL K x lo hi H Q ∨ rSlA K x lo hi H Q
theorem de_slice (he : DE X e te m) (hl : DO X lo tl ml) (hu : DO X hi th mh) : DE X (.Subscript e (.Slice lo hi none p2) pos) (tSl (rSlX X.K) te tl th) (eSlice m ml mh) := by
  refine ⟨pe_slice (sl_list.or sl_tupA) he.pe hl.pe hu.pe, fun Γ σ H ρ d ρ' Q s h k => ?_⟩
  unfold eSlice at h
  cases e1 : m ρ with
  | none => rw [e1] at h; cases h
  | some r1 =>
  rw [e1] at h
  simp only [Option.bind_some] at h
  cases e2 : ml r1.2 with
  | none => rw [e2] at h; cases h
  | some r2 =>
  rw [e2] at h
  simp only [Option.bind_some] at h
  cases e3 : mh r2.2 with
  | none => rw [e3] at h; cases h
  | some r3 =>
  rw [e3] at h
  simp only [Option.bind_some] at h
  cases e4 : sliceD r1.1 r2.1 r3.1 with
  | none => rw [e4] at h; cases h
  | some z =>
  rw [e4] at h
  cases h
  refine he.q Γ σ H ρ _ _ _ s e1 fun v H1 a1 rv => ?_
  refine hl.q Γ σ H1 _ _ _ _ a1.sr e2 fun H2 a2 => ?_
  refine hu.q Γ σ H2 _ _ _ _ a2.sr e3 fun H3 a3 => ?_
  have rv3 := Rp.mo ((a2.trans a3).mo a1.sr) _ _ rv
  have sr3 := a3.sr
  have fin : ∀ {v' : V} {H4 : Hp}, Fm [] H3 H4 → Rp X.G H4 (Γ.w σ r3.2) d v' → Q v' H4 := fun {v' H4} f r => k v' H4 (((a1.trans a2).trans a3).trans (sr3.po f)) r
  cases hd : r1.1 with
  | lst ds =>
    rw [hd] at rv3 e4
    cases e4
    obtain ⟨a, vs, rfl, fa, la, ra⟩ := rv3
    refine .inl ⟨a, vs, rfl, fa.sq, fun p n => fin (fm_new n) ⟨p, _, rfl, ⟨new_out sr3.w_th n, .inl upd_same⟩, Nat.le_trans (cutD_length _ _ _) la, RpAll.mo (new_mo (G := X.G) n) _ _ (cutD_rp ra _ _)⟩⟩
  | tup ds =>
    rw [hd] at rv3 e4
    cases e4
    have rv4 := rv3
    obtain ⟨a, vs, rfl, fa, la, ra⟩ := rv3
    refine .inr ⟨a, vs, rfl, fa.sq, fun hw => ?_, fun _ p n => fin (fm_new n) ⟨p, _, rfl, upd_same, Nat.le_trans (cutD_length _ _ _) la, RpAll.mo (new_mo (G := X.G) n) _ _ (cutD_rp ra _ _)⟩⟩
    rw [ra.length] at hw
    rw [cutD_all hw] at fin
    exact fin (Fm.refl _ _) rv4
  | _ => rw [hd] at e4; cases e4
theorem de_revL {k0 : Nat} {q1 q2 q3 : Pos} (he : DE X e te m) : DE X (.Subscript e (.Slice none none (some (.UnaryOp .USub (.Constant (.int 1) k0 q1) q2)) q3) pos) (tRevL X.K te) (eOp1 revD m) := by
  refine ⟨pe_revL he.pe, fun Γ σ H ρ d ρ' Q s h k => ?_⟩
  unfold eOp1 at h
  cases e1 : m ρ with
  | none => rw [e1] at h; cases h
  | some p =>
    rw [e1] at h
    obtain ⟨d0, ρ0⟩ := p
    cases d0 with
    | lst ds =>
      cases h
      refine he.q Γ σ H ρ _ _ _ s e1 fun v H1 a1 r1 => ?_
      obtain ⟨a, vs, rfl, fa, la, ra⟩ := r1
      refine ⟨a, vs, rfl, fa.sq, fun p n => k _ _ (a1.trans (a1.sr.po (fm_new n))) ⟨p, _, rfl, ⟨new_out a1.sr.w_th n, .inl upd_same⟩, by rw [List.length_reverse]; exact la, RpAll.mo (new_mo (G := X.G) n) _ _ ra.rev⟩⟩
    | _ => cases h
end
end DL
namespace DL
open PySem L2
variable [TabC]
omit [TabC] in
def sAsg (m : EM) (g : GM) : SM := fun ρ => (m ρ).bind fun p => (g p.1 p.2).bind fun ρ' => some (.nx ρ')
omit [TabC] in
def sPar (i j : Nat) (a : AM) : SM := fun ρ => (a ρ).bind fun p => (vals p.1).bind fun ds => match ds with
  | [x, y] => (putV i x p.2).bind fun ρ1 => (putV j y ρ1).bind fun ρ2 => some (.nx ρ2)
  | _ => none
omit [TabC] in
/-- x[i] = e, x an own object -/
def sStore (T : String) (x : Nat) (f : D → D → D → Option D) (mi : EM) (me : EM) : SM := fun ρ => (me ρ).bind fun p => (stO p.2 x).bind fun _ => (mi p.2).bind fun q => (stO q.2 x).bind fun d => (f d q.1 p.1).bind fun d' => some (.nx (setO x d' q.2))
omit [TabC] in
def setL : D → D → D → Option D
  | .lst xs, .int i, d => (ixN xs.length i).map fun j => .lst (xs.set j d)
  | _, _, _ => none
def StoreD (G : Gc) (r : V → V → V → Hp → (Hp → Prop) → Prop) (f : D → D → D → Option D) : Prop := ∀ (H : Hp) (W : List Addr) (a : Addr) (i v : V) (d di dv d' : D) (Q : Hp → Prop), a ∈ W → (∀ a ∈ W, H a ≠ none) → Ow G H W d a → Rp G H W di i → Rp G H W dv v → f d di dv = some d' →
  (∀ H', Fm [a] H H' → Ow G H' W d' a → Q H') → r (.ref a) i v H Q
section
variable {X : Cx} {e tg a b c oi : Expr} {pos : Pos} {m mi : EM} {te ti : TE} {is : List Nat} {g : GM} {tg1 : TG} {am : AM} {at1 : TA}
theorem ds_asg (he : DE X e te m) (hg : DG X tg tg1 is g) (hs : swapsWithSole [tg] e pos.line X.env = pure false := by rfl) (hw : swappedStores [tg] e X.env = pure none := by rfl)
    (h1 : (assignEach [tg] X.env).map (·.2) = [assign tg X.env] := by rfl) : DS X (.Assign [tg] e pos) (tAsg te tg1) (sAsg m g) := by
  refine ⟨ps_asg he.pe hg.pe hs hw h1, fun Γ σ H ρ o E s h f => ?_⟩
  unfold sAsg at h
  cases e1 : m ρ with
  | none => rw [e1] at h; cases h
  | some r =>
    rw [e1] at h
    simp only [Option.bind_some] at h
    cases e2 : g r.1 r.2 with
    | none => rw [e2] at h; cases h
    | some ρ2 =>
      rw [e2] at h
      cases h
      refine he.q Γ σ H ρ _ _ _ s e1 fun v H1 a1 rv => ?_
      exact hg.q Γ σ H1 _ _ v ρ2 _ a1.sr rv e2 fun σ2 a2 _ => f σ2 H1 (a1.so.trans a2)
theorem sd_set : StoreD X.G rSetL setL := by
  intro H W a i v d di dv d' Q ha th ow ri rv e q
  match d, di, e with
  | .lst xs, .int n, e =>
    simp only [setL] at e
    cases e1 : ixN xs.length n with
    | none => rw [e1] at e; cases e
    | some j =>
      rw [e1] at e
      cases e
      obtain ⟨vs, hv, lv, rvs⟩ := ow
      refine ⟨a, vs, n, j, rfl, ri, hv, by rw [rvs.length]; exact e1, q _ (wr_fm hv) ⟨vs.set j v, upd_same, by rw [List.length_set]; exact lv, RpAll.mo (wr_mo ha hv) _ _ ?_⟩⟩
      have key : ∀ (xs : List D) (vs : List V) (j : Nat), RpAll X.G H W xs vs → RpAll X.G H W (xs.set j dv) (vs.set j v) := by
        intro xs
        induction xs with
        | nil => intro vs j r; cases (show vs = [] from r); exact rfl
        | cons y ys ih =>
          intro vs j r
          obtain ⟨u, us, rfl, r1, r2⟩ := r
          cases j with
          | zero => exact ⟨v, us, rfl, rv, r2⟩
          | succ j => exact ⟨u, _, rfl, r1, ih us j r2⟩
      exact key xs vs j rvs
theorem ds_store (x : Nat) {T : String} {nx : Str} {p : Pos} {tpos : Pos} {r : V → V → V → Hp → (Hp → Prop) → Prop} {f : D → D → D → Option D} (he : DE X e te m) (hi : DE X oi ti mi) (hr : PSet X r) (od : StoreD X.G r f) (hN : X.N[x]? = some nx := by rfl)
    (hv : Vis X.env.scope nx := by first | exact Or.inl rfl | exact Or.inr (Or.inl rfl) | exact Or.inr (Or.inr rfl)) (hd : (nx == ("__debug__" : Str)) = false := by decide) (hcd : (nx == ("__classdict__" : Str)) = false := by decide)
    (ha : ∀ v, assign (.Subscript (.Name nx p) oi tpos) X.env v = (do
      let ov ← holding [v] (eval (.Name nx p) X.env)
      let iv ← holding [v, ov] (eval oi X.env)
      standAt tpos
      holding [v, ov, iv] (setItem ov iv v)
      release [v, ov, iv] []) := by intro _; rfl)
    (hs : swapsWithSole [.Subscript (.Name nx p) oi tpos] e pos.line X.env = pure false := by rfl) (hw : swappedStores [.Subscript (.Name nx p) oi tpos] e X.env = pure none := by rfl)
    (h1 : (assignEach [.Subscript (.Name nx p) oi tpos] X.env).map (·.2) = [assign (.Subscript (.Name nx p) oi tpos) X.env] := by rfl) :
    DS X (.Assign [.Subscript (.Name nx p) oi tpos] e pos) (tAsg te (gSub (tVar x) ti r)) (sStore T x f mi m) := by
  refine ⟨ps_asg he.pe (pg_sub (pe_var hN hv hd hcd) hi.pe hr ha) hs hw h1, fun Γ σ H ρ o E s h k => ?_⟩
  unfold sStore at h
  cases e1 : m ρ with
  | none => rw [e1] at h; cases h
  | some p1 =>
  rw [e1] at h
  simp only [Option.bind_some] at h
  cases e2 : stO p1.2 x with
  | none => rw [e2] at h; cases h
  | some d0 =>
  rw [e2] at h
  simp only [Option.bind_some] at h
  cases e3 : mi p1.2 with
  | none => rw [e3] at h; cases h
  | some q1 =>
  rw [e3] at h
  simp only [Option.bind_some] at h
  cases e4 : stO q1.2 x with
  | none => rw [e4] at h; cases h
  | some d1 =>
  rw [e4] at h
  simp only [Option.bind_some] at h
  cases e5 : f d1 q1.1 p1.1 with
  | none => rw [e5] at h; cases h
  | some d' =>
  rw [e5] at h
  cases h
  refine he.q Γ σ H ρ _ _ _ s e1 fun v H1 a1 rv => ?_
  obtain ⟨a, at0, _, _⟩ := a1.sr.stO e2
  refine ⟨.ref a, at0.1, hi.q Γ σ H1 _ _ _ _ a1.sr e3 fun iv H2 a2 ri => ?_⟩
  obtain ⟨b, at1', ow, mu⟩ := a2.sr.stO e4
  have eb : b = a := by have := at1'.1; rw [at0.1] at this; cases this; rfl
  subst eb
  refine od H2 (Γ.w σ q1.2) b iv v d1 q1.1 p1.1 d' _ (a2.sr.mu_w b mu) a2.sr.w_th ow ri (Rp.mo (a2.mo a1.sr) _ _ rv) e5 fun H3 f3 ow3 => ?_
  exact k σ H3 (((a1.trans a2).trans (a2.sr.change1 at1' e4 f3 ow3)).so)
omit [TabC] in
/-- x[i], x an own object -/
def eIxO (x : Nat) (mi : EM) : EM := fun ρ => (stO ρ x).bind fun _ => (mi ρ).bind fun p => (stO p.2 x).bind fun d => (ixD d p.1).map fun z => (z, p.2)
theorem de_ixO (x : Nat) {nx : Str} {p : Pos} (hi : DE X oi ti mi) (hN : X.N[x]? = some nx := by rfl)
    (hv : Vis X.env.scope nx := by first | exact Or.inl rfl | exact Or.inr (Or.inl rfl) | exact Or.inr (Or.inr rfl)) (hd : (nx == ("__debug__" : Str)) = false := by decide) (hcd : (nx == ("__classdict__" : Str)) = false := by decide) (hs : PlainIx oi := by exact fun _ _ => rfl) :
    DE X (.Subscript (.Name nx p) oi pos) (tOp (rIx X.K) (tVar x) ti) (eIxO x mi) := by
  refine ⟨pe_ix ix_seq (pe_var hN hv hd hcd) hi.pe hs, fun Γ σ H ρ d ρ' Q s h k => ?_⟩
  unfold eIxO at h
  cases e2 : stO ρ x with
  | none => rw [e2] at h; cases h
  | some d0 =>
  rw [e2] at h
  simp only [Option.bind_some] at h
  cases e3 : mi ρ with
  | none => rw [e3] at h; cases h
  | some q1 =>
  rw [e3] at h
  simp only [Option.bind_some] at h
  cases e4 : stO q1.2 x with
  | none => rw [e4] at h; cases h
  | some d1 =>
  rw [e4] at h
  simp only [Option.bind_some] at h
  cases e5 : ixD d1 q1.1 with
  | none => rw [e5] at h; cases h
  | some z =>
  rw [e5] at h
  cases h
  obtain ⟨a, at0, _, _⟩ := s.stO e2
  refine ⟨.ref a, at0.1, hi.q Γ σ H _ _ _ _ s e3 fun iv H2 a2 ri => ?_⟩
  obtain ⟨b, at1', ow, mu⟩ := a2.sr.stO e4
  have eb : b = a := by have := at1'.1; rw [at0.1] at this; cases this; rfl
  subst eb
  obtain ⟨q0, ρ0⟩ := q1
  cases d1 with
  | lst xs =>
    cases q0 with
    | int i =>
      obtain ⟨vs, hv, lv, rv⟩ := ow
      obtain ⟨v, hv2, rv2⟩ := atI_rp rv e5
      exact .inl ⟨b, vs, i, v, rfl, ri, .inl (.inl hv), hv2, k v H2 a2 rv2⟩
    | _ => cases e5
  | dT xs => cases q0 <;> cases e5
  | dK xs => cases q0 <;> cases e5
  | obj C fs => cases q0 <;> cases e5
  | _ => exact ow.elim
end
omit [TabC] in
def vwS : Sl → Sl
  | .o d => .v d
  | .p _ => .e
  | s => s
omit [TabC] in
def scal0 : D → Bool
  | .non => true
  | .bl _ => true
  | .int _ => true
  | .str _ => true
  | _ => false
omit [TabC] in
def scalD : D → Bool
  | .non => true
  | .bl _ => true
  | .int _ => true
  | .str _ => true
  | .tup ds => ds.all scal0
  | _ => false
omit [TabC] in
def eBor (m : EM) : EM := fun ρ => (m (ρ.map vwS)).bind fun p => if scalD p.1 then some (p.1, ρ) else none
section
variable {Γ : Gam} {G : Gc} {H H' : Hp} {σ : L2.St} {ρ ρ' : Env}
omit [TabC] in
theorem ownO_vw (σ : L2.St) (ρ : Env) : ownO σ (ρ.map vwS) = [] := ownO_none fun i d h => by
  rw [List.getElem?_map] at h
  cases e : ρ[i]? with
  | none => rw [e] at h; cases h
  | some s => rw [e] at h; cases s <;> cases h
theorem Sr.vw (s : Sr Γ G H σ ρ) : Sr ⟨Γ.U, []⟩ G H σ (ρ.map vwS) := by
  have eo := ownO_vw σ ρ
  have m : Mo (Γ.w σ ρ) Γ.U H H := ⟨Fm.refl _ _, fun b z => .inl (List.mem_append_right _ z)⟩
  refine ⟨by simpa using s.len, by rw [eo]; exact .nil, by rw [eo]; intro a z; exact absurd z (by simp), fun i t ht => ?_, fun p hp => absurd hp (by simp), .nil, s.th, s.tb⟩
  show ∃ x, _ ∧ SlR G H (ownO σ (ρ.map vwS) ++ Γ.U) [] i x t
  rw [eo, List.nil_append]
  rw [List.getElem?_map] at ht
  cases e : ρ[i]? with
  | none => rw [e] at ht; cases ht
  | some s0 =>
    rw [e] at ht
    obtain ⟨x, ex, q⟩ := s.sl i _ e
    refine ⟨x, ex, ?_⟩
    cases s0 with
    | e => cases ht; trivial
    | v d => cases ht; obtain ⟨v, e, r⟩ := q; exact ⟨v, e, Rp.mo m _ _ r⟩
    | o d =>
      cases ht
      obtain ⟨a, rfl, ow⟩ := q
      exact ⟨.ref a, rfl, ow.rp (fun z => s.out a (mem_ownO.mpr ⟨i, d, ex, e⟩) z) fun b z => List.mem_append_right _ z⟩
    | p d => cases ht; trivial
end
section
variable {X : Cx} {e : Expr} {m : EM} {te : TE}
end
end DL
namespace DL
open PySem L2
variable [TabC]
omit [TabC] in
def tyN : D → Option String
  | .non => some "NoneType"
  | .bl _ => some "bool"
  | .int _ => some "int"
  | .str _ => some "str"
  | .lst _ => some "list"
  | .tup _ => some "tuple"
  | _ => none
omit [TabC] in
/-- the answer of isinstance by names -/
def isiN : String → String → Bool
  | "bool", "int" => true
  | a, b => a == b
omit [TabC] in
def isiD (T : String) (d : D) : Option D := (tyN d).map fun a => .bl (isiN a T)
omit [TabC] in
def isiD2 (T U : String) (d : D) : Option D := (tyN d).map fun a => .bl (isiN a T || isiN a U)
omit [TabC] in
theorem tyX_of {G : Gc} {H : Hp} {W : List Addr} {d : D} {v : V} {a : String} (r : Rp G H W d v) (h : tyN d = some a) : TyX G.K H v (.type a) := by
  cases d with
  | non => cases h; cases (show v = .non from r); exact .base .non
  | bl b => cases h; cases (show v = .bl b from r); exact .base (.bl b)
  | int i => cases h; cases (show v = .int i from r); exact .base (.int i)
  | str i => cases h; cases (show v = .str i from r); exact .base (.str i)
  | lst ds =>
    cases h
    obtain ⟨b, vs, rfl, ⟨_, f⟩, _⟩ := r
    rcases f with f | ⟨o, f⟩
    · exact .base (.lst f)
    · exact .base (.frz f)
  | tup ds =>
    cases h
    obtain ⟨b, vs, rfl, f, _⟩ := r
    exact .base (.tup f)
  | _ => cases h
omit [TabC] in
def names : List String := ["NoneType", "bool", "int", "str", "list", "tuple"]
omit [TabC] in
theorem tyN_mem {d : D} {a : String} (h : tyN d = some a) : a ∈ names := by
  cases d <;> cases h <;> decide
omit [TabC] in
theorem kit_int : ∀ a ∈ names, kitB a "int" = some (isiN a "int") := by decide +kernel
omit [TabC] in
theorem kit_bool : ∀ a ∈ names, kitB a "bool" = some (isiN a "bool") := by decide +kernel
omit [TabC] in
theorem kit_str : ∀ a ∈ names, kitB a "str" = some (isiN a "str") := by decide +kernel
omit [TabC] in
theorem kit_list : ∀ a ∈ names, kitB a "list" = some (isiN a "list") := by decide +kernel
omit [TabC] in
theorem kit_tuple : ∀ a ∈ names, kitB a "tuple" = some (isiN a "tuple") := by decide +kernel
section
variable {X : Cx} {e : Expr} {pos p p2 p3 pt : Pos} {m : EM} {te : TE} {T U : String} {kk : Nat} {nT nU : Str}
theorem de_isi (hm : X.mg "isinstance" = none) (hT : X.mg nT = none) (hv : bootBuiltins nT = some (.type T)) (hk : ∀ a ∈ names, kitB a T = some (isiN a T)) (he : DE X e te m) (hg : Gl X "isinstance" := by rfl) (hgT : Gl X nT := by rfl)
    (hnT : nT ≠ "__name__" := by decide) (hdT : (nT == ("__debug__" : Str)) = false := by decide) (hs : starEach [e, .Name nT p2] X.env = (false, eval e X.env) :: starEach [.Name nT p2] X.env := by rfl) (hs2 : starEach [.Name nT p2] X.env = (false, eval (.Name nT p2) X.env) :: starEach [] X.env := by rfl)
    (hpl : (backTo pos (starEach [.Name nT p2] X.env)).any (·.1) = false := by rfl) :
    DE X (.Call (.Name "isinstance" p) [e, .Name nT p2] [] pos) (tCB (rIsi X.K) (tCons te (tCons (tC (.ty T)) tNil))) (eOp1 (isiD T) m) := by
  refine ⟨pe_callB call_isi hg hm (by decide +kernel) (pa_cons he.pe (pa_cons (pe_bltn hgT hT hv rfl hnT hdT) pa_nil hs2) hs) (by decide) (by decide) hs hpl, fun Γ σ H ρ d ρ' Q s h k => ?_⟩
  unfold eOp1 at h
  cases e1 : m ρ with
  | none => rw [e1] at h; cases h
  | some q =>
    rw [e1] at h
    simp only [Option.bind_some] at h
    unfold isiD at h
    cases e2 : tyN q.1 with
    | none => rw [e2] at h; cases h
    | some a =>
      rw [e2] at h
      cases h
      refine he.q Γ σ H ρ _ _ _ s e1 fun v H1 a1 r1 => ?_
      exact ⟨v, .ty T, .type a, .type T, isiN a T, rfl, .ty T, tyX_of r1 e2, kit_ty (hk a (tyN_mem e2)), k _ H1 a1 rfl⟩
theorem de_isiT (hm : X.mg "isinstance" = none) (hT : X.mg nT = none) (hv : bootBuiltins nT = some (.type T)) (hk : ∀ a ∈ names, kitB a T = some (isiN a T)) (hU : X.mg nU = none) (hvU : bootBuiltins nU = some (.type U)) (hkU : ∀ a ∈ names, kitB a U = some (isiN a U))
    (he : DE X e te m) (hg : Gl X "isinstance" := by rfl) (hgT : Gl X nT := by rfl) (hgU : Gl X nU := by rfl)
    (hnT : nT ≠ "__name__" := by decide) (hdT : (nT == ("__debug__" : Str)) = false := by decide) (hnU : nU ≠ "__name__" := by decide) (hdU : (nU == ("__debug__" : Str)) = false := by decide)
    (hs : starEach [e, .Tuple [.Name nT p2, .Name nU p3] kk pt] X.env = (false, eval e X.env) :: starEach [.Tuple [.Name nT p2, .Name nU p3] kk pt] X.env := by rfl)
    (hs2 : starEach [.Tuple [.Name nT p2, .Name nU p3] kk pt] X.env = (false, eval (.Tuple [.Name nT p2, .Name nU p3] kk pt) X.env) :: starEach [] X.env := by rfl)
    (hs3 : starEach [.Name nT p2, .Name nU p3] X.env = (false, eval (.Name nT p2) X.env) :: starEach [.Name nU p3] X.env := by rfl) (hs4 : starEach [.Name nU p3] X.env = (false, eval (.Name nU p3) X.env) :: starEach [] X.env := by rfl)
    (hpl : (backTo pos (starEach [.Tuple [.Name nT p2, .Name nU p3] kk pt] X.env)).any (·.1) = false := by rfl) :
    DE X (.Call (.Name "isinstance" p) [e, .Tuple [.Name nT p2, .Name nU p3] kk pt] [] pos) (tCB (rIsiT X.K) (tCons te (tCons (tTup (tCons (tC (.ty T)) (tCons (tC (.ty U)) tNil))) tNil))) (eOp1 (isiD2 T U) m) := by
  refine ⟨pe_callB call_isiT hg hm (by decide +kernel) (pa_cons he.pe (pa_cons (pe_tup (pa_cons (pe_bltn hgT hT hv rfl hnT hdT) (pa_cons (pe_bltn hgU hU hvU rfl hnU hdU) pa_nil hs4) hs3)) pa_nil hs2) hs) (by decide) (by decide) hs hpl, fun Γ σ H ρ d ρ' Q s h k => ?_⟩
  unfold eOp1 at h
  cases e1 : m ρ with
  | none => rw [e1] at h; cases h
  | some q =>
    rw [e1] at h
    simp only [Option.bind_some] at h
    unfold isiD2 at h
    cases e2 : tyN q.1 with
    | none => rw [e2] at h; cases h
    | some a =>
      rw [e2] at h
      cases h
      refine he.q Γ σ H ρ _ _ _ s e1 fun v H1 a1 r1 => ?_
      refine ⟨by show 2 ≤ sizeLine; decide, fun t n => ?_⟩
      have f := fm_new (o := .tup [.ty T, .ty U]) n
      have r2 := Rp.mo (new_mo (G := X.G) (W := Γ.w σ q.2) (o := .tup [.ty T, .ty U]) n) _ _ r1
      refine ⟨v, t, [.ty T, .ty U], .type a, [.type T, .type U], isiN a T || isiN a U, rfl, upd_same, .cons (.ty T) (.cons (.ty U) .nil), tyX_of r2 e2, ?_, k _ _ (a1.trans (a1.sr.po f)) rfl⟩
      cases q1 : isiN a T with
      | true => exact kitAny_cons (b := true) (by rw [← q1]; exact kit_ty (hk a (tyN_mem e2))) (fun z => nomatch z) fun _ => rfl
      | false =>
        refine kitAny_cons (b := false) (by rw [← q1]; exact kit_ty (hk a (tyN_mem e2))) (fun _ => ?_) fun z => nomatch z
        cases q2 : isiN a U with
        | true => exact kitAny_cons (b := true) (by rw [← q2]; exact kit_ty (hkU a (tyN_mem e2))) (fun z => nomatch z) fun _ => rfl
        | false => exact kitAny_cons (b := false) (by rw [← q2]; exact kit_ty (hkU a (tyN_mem e2))) (fun _ => kitAny_nil) fun z => nomatch z
end
end DL
namespace DL
open PySem L2
variable [TabC]
omit [TabC] in
def sRetF (m : EM) : SM := fun ρ => (m ρ).bind fun p => some (.rf p.1 p.2)
section
variable {X : Cx} {e : Expr} {pos p : Pos} {me : EM} {te : TE} {x : Str} {k : Nat} {ps : List Str} {fn : FnSem} {am : AM} {at1 : TA} {es : List Expr}
theorem ds_retF (he : DF X e te me) : DS X (.Return (some e) pos) (tRet te) (sRetF me) := by
  refine ⟨ps_ret he.pe, fun Γ σ H ρ o E s h f => ?_⟩
  unfold sRetF at h
  cases e1 : me ρ with
  | none => rw [e1] at h; cases h
  | some r =>
    rw [e1] at h
    cases h
    refine he.q Γ σ H ρ r.1 r.2 _ s e1 fun a H' n sr ow fm sub tr => ?_
    have sl := sr.less (U' := Γ.U) (fun b z => List.mem_cons_of_mem _ z) (fun p hp => (s.pin p hp).1)
    refine f a σ H' ⟨sl, fm, fun b z => .inl (sub b z), tr⟩ (.inr n) (fun z => sr.out a z List.mem_cons_self) (fun z => s.th a z n) (ow.mo ⟨Fm.refl _ _, fun b z => .inl ?_⟩ fun _ z _ => z)
    rcases List.mem_cons.mp z with z | z
    · rw [z]; exact List.mem_append_right _ List.mem_cons_self
    · rcases List.mem_append.mp z with z | z
      · exact List.mem_append_left _ z
      · exact List.mem_append_right _ (List.mem_cons_of_mem _ z)
omit [TabC] in
/-- a call that hands back a fresh object, of values alone -/
def eCallF (fn : FnSem) (a : AM) : EM := fun ρ => (a ρ).bind fun p => (vals p.1).bind fun ds => (fn (ds.map .v)).map fun q => (q.1, p.2)
omit [TabC] in
theorem asR_vals {G : Gc} {H : Hp} {W : List Addr} : ∀ {ds : List D} {vs : List V}, RpAll G H W ds vs → AsR G H W (ds.map .v) vs ∧ pad (ds.map .v) vs = []
  | [], _, h => by cases (show _ = [] from h); exact ⟨rfl, rfl⟩
  | d :: ds, _, ⟨x, xs, e, r, q⟩ => by
    subst e
    obtain ⟨h1, h2⟩ := asR_vals q
    refine ⟨⟨x, xs, rfl, r, h1⟩, ?_⟩
    show pad (.v d :: ds.map .v) (x :: xs) = []
    cases x <;> simpa [pad] using h2
theorem de_callF (F : FnDF X.prog X.w X.K X.mg X.base x k ps fn) (hr : Room k X.A) (ha : DA X (e :: es) at1 am) (hg : Gl X x := by rfl) (hdb : (x == ("__debug__" : Str)) = false := by decide)
    (he : starEach (e :: es) X.env = (false, eval e X.env) :: starEach es X.env := by rfl) (hpl : (backTo pos (starEach es X.env)).any (·.1) = false := by rfl) : DF X (.Call (.Name x p) (e :: es) [] pos) (tCall (spFF X.G fn) [] E0 at1) (eCallF fn am) := by
  obtain ⟨f, fd, h1, h2, h3, h4⟩ := F.ex
  refine ⟨pe_call h4 hr hg h1 h2 h3 .nil pass0 ha.pe hdb he hpl, fun Γ σ H ρ d ρ' Q s h kk => ?_⟩
  unfold eCallF at h
  cases e1 : am ρ with
  | none => rw [e1] at h; cases h
  | some p1 =>
  rw [e1] at h
  simp only [Option.bind_some] at h
  cases e2 : vals p1.1 with
  | none => rw [e2] at h; cases h
  | some ds =>
  rw [e2] at h
  simp only [Option.bind_some] at h
  cases e3 : fn (ds.map .v) with
  | none => rw [e3] at h; cases h
  | some z =>
  rw [e3] at h
  cases h
  refine ha.q Γ σ H ρ p1.1 p1.2 _ s e1 fun vs H1 a1 ar => ?_
  obtain ⟨k1, k2⟩ := asR_vals (ar.vals e2)
  show spFF X.G fn (vs ++ []) H1 Q E0
  rw [List.append_nil]
  refine ⟨Γ.w σ p1.2, ds.map .v, z.1, z.2, k1, by rw [k2]; exact .nil, ⟨a1.sr.w_th, a1.sr.tb⟩, e3, fun a H2 n fm _ as' ow => ?_⟩
  rw [k2] at fm
  exact fresh_end a1 n fm ow kk
theorem Sr.wr1 {Γ : Gam} {G : Gc} {H H' : Hp} {σ : L2.St} {ρ : Env} {a : Addr} (s : Sr Γ G H σ ρ) (ha : a ∈ Γ.U) (hp : a ∉ Γ.π.map (·.2)) (f : Fm [a] H H') (ne : H' a ≠ none) : Sr Γ G H' σ ρ := by
  have na : a ∉ ownO σ ρ := fun z => s.out a z ha
  have m : Mo (Γ.w σ ρ) (Γ.w σ ρ) H H' := ⟨f.mono fun b z => by
    rw [List.mem_singleton.mp z]; exact List.mem_append_right _ ha, fun b z => .inl z⟩
  refine ⟨s.len, s.nd, s.out, fun i t ht => ?_, s.pin, s.pnd, fun b hb => ?_, s.tb.fm f⟩
  · obtain ⟨x, e, q⟩ := s.sl i t ht
    refine ⟨x, e, ?_⟩
    cases t with
    | e => trivial
    | v d => obtain ⟨v, e, r⟩ := q; exact ⟨v, e, Rp.mo m _ _ r⟩
    | o d =>
      obtain ⟨b, rfl, r⟩ := q
      have nb : b ≠ a := fun z => na (by rw [← z]; exact mem_ownO.mpr ⟨i, d, e, ht⟩)
      exact ⟨b, rfl, r.mo m fun x z nt => f.out (by simpa using nb) z nt⟩
    | p d =>
      obtain ⟨b, rfl, p, r⟩ := q
      have nb : b ≠ a := fun z => hp (by rw [← z]; exact List.mem_map.mpr ⟨_, p, rfl⟩)
      exact ⟨b, rfl, p, r.mo m fun x z nt => f.out (by simpa using nb) z nt⟩
  · by_cases e : b = a
    · rw [e]; exact ne
    · exact f.thw (by simpa using e) (s.th b hb)
omit [TabC] in
/-- a call with one fresh object that the callee may change -/
def eCallT (fn : FnSem) (m : EM) : EM := fun ρ => (m ρ).bind fun p => (fn [.p p.1]).map fun q => (q.1, p.2)
end
section
variable {P : Program} {w : World} {K : PySem.W.Frag} {mg : Str → Option Value} {base : Heap} {x qual : Str} {params : Arguments} {body : List Stmt} {scope : Scope} {f : Addr} {fd : FuncData}
theorem FunD.d {ps : List Str} {k : Nat} {fn : FnSem} (F : FunD K x qual params body scope [] [] f fd) (g : mg x = some (.ref f))
    (hbd : ∀ (kV doc pm : Value) (an : Option Addr) (cdv ct : Value) (us : List Value), us.length = ps.length → bindArgs (PySem.W.fnOf x qual params body scope .none kV doc pm an cdv ct) ⟨us, []⟩ = pure (ps.zip us))
    (ok : FnOk P w K mg base CX0 k f fd ps (spF ⟨K, mg⟩ fn)) : FnD P w K mg base x k ps fn := ⟨f, fd, g, F.kp, F.bindsN hbd, ok⟩
theorem FunD.df {ps : List Str} {k : Nat} {fn : FnSem} (F : FunD K x qual params body scope [] [] f fd) (g : mg x = some (.ref f))
    (hbd : ∀ (kV doc pm : Value) (an : Option Addr) (cdv ct : Value) (us : List Value), us.length = ps.length → bindArgs (PySem.W.fnOf x qual params body scope .none kV doc pm an cdv ct) ⟨us, []⟩ = pure (ps.zip us))
    (ok : FnOk P w K mg base CX0 k f fd ps (spFF ⟨K, mg⟩ fn)) : FnDF P w K mg base x k ps fn := ⟨f, fd, g, F.kp, F.bindsN hbd, ok⟩
omit [TabC] in
theorem vals_get {vs : List V} {us : List Value} (r : Vals vs us) : ∀ i, RelV (vs.getD i .non) (us.getD i .none) := fun i => by
  induction r generalizing i with
  | nil => simp only [List.getD_nil]; rfl
  | cons h _ ih =>
    cases i with
    | zero => simpa using h
    | succ i => simpa using ih i
omit [TabC] in
theorem permVU {perm : List Nat} {vs : List V} {us : List Value} (r : Vals vs us) : Vals (permV perm vs) (permU perm us) := by
  induction perm with
  | nil => exact .nil
  | cons i l ih => exact .cons (vals_get r i) ih
theorem FunD.k {ps ks : List Str} {n k : Nat} {perm : List Nat} {fn : FnSem} (F : FunD K x qual params body scope [] [] f fd) (g : mg x = some (.ref f))
    (hbd : ∀ (kV doc pm : Value) (an : Option Addr) (cdv ct : Value) (us ws : List Value), us.length = n → ws.length = ks.length → bindArgs (PySem.W.fnOf x qual params body scope .none kV doc pm an cdv ct) ⟨us, ks.zip ws⟩ = pure (ps.zip (permU perm (us ++ ws))))
    (ok : FnOk P w K mg base CX0 k f fd ps (spF ⟨K, mg⟩ fn)) : FnK P w K mg base x k ps ks n perm fn := by
  obtain ⟨oc, od, dV, kV, doc, pm, an, cdv, ct, osl, rfl, lk, hcd, hD, hK⟩ := F.ex
  refine ⟨f, _, g, F.kp, ⟨fun s us ws hin h1 h2 => ?_, fun r1 r2 => permVU (r1.append r2)⟩, ok⟩
  rcases hD with ⟨_, rfl⟩ | ⟨e, _⟩
  · exact .of_eq (hbd kV doc pm an cdv ct us ws h1 h2)
  · exact absurd rfl e
end
omit [TabC] in
def isT (T : String) : D → Bool
  | .lst _ => T == "list"
  | _ => false
omit [TabC] in
def eMthV (T : String) (f : D → List D → Option D) (m : EM) (a : AM) : EM := fun ρ => (m ρ).bind fun p0 => if isT T p0.1 then (a p0.2).bind fun p => (vals p.1).bind fun ds => (f p0.1 ds).map fun z => (z, p.2) else none
section
variable {X : Cx} {o e : Expr} {es : List Expr} {p : Pos} {am : AM} {at1 : TA} {m : EM} {te : TE} {x name : Str} {apos cpos : Pos} {T id : String} {r : V → List V → Hp → VK → Prop} {f : D → List D → Option D}
end
end DL
namespace DL
open PySem L2
variable [TabC]
omit [TabC] in
def iSeqT (K : PySem.W.Frag) (tl : TE) : TI := fun σ H R => tl σ H fun x H1 => ∃ a, x = .ref a ∧ (((∃ xs, SqL K H1 a xs) ∧ R (Itl K a) H1) ∨ ((∃ xs, SqT K H1 a xs) ∧ R (Itt K a) H1))
omit [TabC] in
def iSeq (m : EM) : IM := fun ρ => (m ρ).bind fun p => match p.1 with
  | .lst ds => some (ds, p.2)
  | .tup ds => some (ds, p.2)
  | _ => none
section
variable {X : Cx} {tg e a b : Expr} {pos p : Pos} {m : EM} {am : AM} {te : TE} {at1 : TA}
omit [TabC] in
theorem pi_seq {l : Expr} {tl : TE} (hl : PE X l tl) : PI X tg l (iSeqT X.K tl) := by
  refine ⟨fun pins s σ H R I h => ?_⟩
  refine thn (hl.run pins s σ H _ I h) fun v s1 ⟨x, H1, I1, r1, q1⟩ => ?_
  obtain ⟨a, e, q⟩ := q1
  subst e
  cases r1
  rcases q with ⟨⟨xs, hq⟩, q⟩ | ⟨⟨xs, hq⟩, q⟩
  · obtain ⟨its, rv, p, hz⟩ := I1.list hq
    refine wpAny_pyIter_list p.isList ?_
    refine ⟨s1.heap.objs.size, [s1.heap.objs.size], _, _, H1, rfl, I1.kept (t' := s1.toks) fun b o e => Heap.get?_push_of_some _ e, turn_list a _, ⟨_, Heap.get?_push_size _ rfl, rfl, rfl⟩, fun b hb => ?_, q⟩
    have e : b = s1.heap.objs.size := by simpa using hb
    subst e
    exact I1.fpOk (Nat.le_refl _) (I1.hok.fresh (Nat.le_refl _))
  · obtain ⟨its, rv, p, hz⟩ := I1.tuple hq
    refine wpAny_pyIter_tuple (show s1.heap.IsTuple a its.toArray from p) ?_
    refine ⟨s1.heap.objs.size, [s1.heap.objs.size], _, _, H1, rfl, I1.kept (t' := s1.toks) fun b o e => Heap.get?_push_of_some _ e, turn_tuple a _, ⟨_, Heap.get?_push_size _ rfl, rfl, rfl⟩, fun b hb => ?_, q⟩
    have e : b = s1.heap.objs.size := by simpa using hb
    subst e
    exact I1.fpOk (Nat.le_refl _) (I1.hok.fresh (Nat.le_refl _))
theorem di_seq (h : DE X e te m) : DI X tg e (iSeqT X.K te) (iSeq m) := by
  obtain ⟨p, q⟩ := h
  refine ⟨pi_seq p, fun Γ σ H ρ ds ρ' R s h k => ?_⟩
  unfold iSeq at h
  cases e1 : m ρ with
  | none => rw [e1] at h; cases h
  | some r =>
    rw [e1] at h
    obtain ⟨d0, ρ0⟩ := r
    cases d0 with
    | lst ds0 =>
      cases h
      refine q Γ σ H ρ _ _ _ s e1 fun v H1 a1 r1 => ?_
      obtain ⟨a, vs, rfl, fa, la, ra⟩ := r1
      exact ⟨a, rfl, .inl ⟨⟨vs, fa.sq⟩, k _ H1 a1 (walkD_list (G := X.G) la fa ra)⟩⟩
    | tup ds0 =>
      cases h
      refine q Γ σ H ρ _ _ _ s e1 fun v H1 a1 r1 => ?_
      obtain ⟨a, vs, rfl, fa, la, ra⟩ := r1
      exact ⟨a, rfl, .inr ⟨⟨vs, fa.sq⟩, k _ H1 a1 (walkD_tup (G := X.G) la fa ra)⟩⟩
    | _ => cases h
omit [TabC] in
/-- a test that looks at own objects -/
def tBor (m : TM) : TM := fun ρ => (m (ρ.map vwS)).map fun p => (p.1, ρ)
end
end DL
namespace DL
open PySem L2
variable [TabC]
omit [TabC] in
structure Nb (mg : Str → Option Value) : Prop where
  len : mg "len" = none
  range : mg "range" = none
  all : mg "all" = none
  any : mg "any" = none
  min : mg "min" = none
  max : mg "max" = none
  abs : mg "abs" = none
  sum : mg "sum" = none
  int : mg "int" = none
  bool : mg "bool" = none
  str : mg "str" = none
  list : mg "list" = none
  tuple : mg "tuple" = none
  sorted : mg "sorted" = none
  enumerate : mg "enumerate" = none
  zip : mg "zip" = none
  isinstance : mg "isinstance" = none
omit [TabC] in
theorem bt_len : bootBuiltins "len" = some (.builtin "len") := by decide +kernel
omit [TabC] in
theorem bt_all : bootBuiltins "all" = some (.builtin "all") := by decide +kernel
omit [TabC] in
theorem bt_min : bootBuiltins "min" = some (.builtin "min") := by decide +kernel
omit [TabC] in
theorem bt_abs : bootBuiltins "abs" = some (.builtin "abs") := by decide +kernel
omit [TabC] in
theorem bt_int : bootBuiltins "int" = some (.type "int") := by decide +kernel
omit [TabC] in
theorem bt_bool : bootBuiltins "bool" = some (.type "bool") := by decide +kernel
omit [TabC] in
theorem bt_str : bootBuiltins "str" = some (.type "str") := by decide +kernel
omit [TabC] in
theorem bt_list : bootBuiltins "list" = some (.type "list") := by decide +kernel
omit [TabC] in
theorem bt_tuple : bootBuiltins "tuple" = some (.type "tuple") := by decide +kernel
omit [TabC] in
def mulI (a b : D) : Option D := match a, b with
  | .int i, .int j => mulD (.int i) (.int j)
  | _, _ => none
theorem od_mulI {X : Cx} : OpD X.G (rI CMul fun i j => .int (i * j)) mulI := od_mul
omit [TabC] in
theorem gl_nil : ∀ ds ρ ρ', gNil ds ρ = some ρ' → ds.length = 0 := fun ds ρ ρ' h => by
  cases ds with
  | nil => rfl
  | cons d ds => cases h
omit [TabC] in
theorem gl_cons {g : GM} {gs : List D → Env → Option Env} {n : Nat} (h : ∀ ds ρ ρ', gs ds ρ = some ρ' → ds.length = n) : ∀ ds ρ ρ', gCons g gs ds ρ = some ρ' → ds.length = n + 1 := fun ds ρ ρ' e => by
  cases ds with
  | nil => cases e
  | cons d ds =>
    replace e : ((g d ρ).bind fun ρ' => gs ds ρ') = some ρ' := e
    cases e1 : g d ρ with
    | none => rw [e1] at e; cases e
    | some ρ1 => rw [e1] at e; rw [List.length_cons, h ds ρ1 ρ' e]
theorem fn_none {P : Program} {w : World} {K : PySem.W.Frag} {mg : Str → Option Value} {base : Heap} {CX : CXT} {k : Nat} {f : Addr} {fd : FuncData} {ps : List Str} {G : Gc} : FnOk P w K mg base CX k f fd ps (spF G fun _ => none) :=
  ⟨fun vs H Q E ⟨_, _, _, _, _, _, _, e, _⟩ => (nomatch e), fun A outer s H args us vs Q E _ _ _ _ ⟨_, _, _, _, _, _, _, e, _⟩ => (nomatch e)⟩
theorem FnD.mono {P : Program} {w : World} {K : PySem.W.Frag} {mg : Str → Option Value} {base : Heap} {x : Str} {j k : Nat} {ps : List Str} {fn : FnSem} (F : FnD P w K mg base x j ps fn) (h : j ≤ k) : FnD P w K mg base x k ps fn := by
  obtain ⟨f, fd, a, b, c, d⟩ := F.ex
  exact ⟨f, fd, a, b, c, d.mono h⟩
end DL
namespace DL
open PySem L2
variable [TabC]
def tOfE (G : Gc) (m : EM) : TE := fun σ H Q => ∃ (Γ : Gam) (ρ : Env) (d : D) (ρ' : Env), Sr Γ G H σ ρ ∧ m ρ = some (d, ρ') ∧ ∀ v H', Po Γ G σ ρ H ρ' H' → Rp G H' (Γ.w σ ρ') d v → Q v H'
def tOfT (G : Gc) (m : TM) : TT := fun σ H Q => ∃ (Γ : Gam) (ρ : Env) (d : Bool) (ρ' : Env), Sr Γ G H σ ρ ∧ m ρ = some (d, ρ') ∧ ∀ H', Po Γ G σ ρ H ρ' H' → Q d H'
def tOfG (G : Gc) (is : List Nat) (g : GM) : TG := fun v σ H Q => ∃ (Γ : Gam) (ρ : Env) (d : D) (ρ' : Env), Sr Γ G H σ ρ ∧ Rp G H (Γ.w σ ρ) d v ∧ g d ρ = some ρ' ∧ ∀ σ', So Γ G σ ρ H σ' ρ' H → Al is σ σ' → Q σ' H
theorem DE.can {X : Cx} {e : Expr} {t : TE} {m : EM} (h : DE X e t m) : DE X e (tOfE X.G m) m :=
  ⟨⟨fun pins s σ H Q I ⟨Γ, ρ, d, ρ', sr, hm, k⟩ => h.pe.run pins s σ H Q I (h.q Γ σ H ρ d ρ' Q sr hm k)⟩, fun Γ σ H ρ d ρ' Q sr hm k => ⟨Γ, ρ, d, ρ', sr, hm, k⟩⟩
theorem DTs.can {X : Cx} {e : List Expr} {t : TT} {m : TM} (h : DTs X e t m) : DTs X e (tOfT X.G m) m :=
  ⟨⟨fun pins s σ H Q I ⟨Γ, ρ, d, ρ', sr, hm, k⟩ => h.pe.run pins s σ H Q I (h.q Γ σ H ρ d ρ' Q sr hm k)⟩, fun Γ σ H ρ d ρ' Q sr hm k => ⟨Γ, ρ, d, ρ', sr, hm, k⟩⟩
theorem DG.can {X : Cx} {e : Expr} {t : TG} {is : List Nat} {g : GM} (h : DG X e t is g) : DG X e (tOfG X.G is g) is g :=
  ⟨⟨fun pins s σ H v u Q I r ⟨Γ, ρ, d, ρ', sr, rv, hm, k⟩ => h.pe.run pins s σ H v u Q I r (h.q Γ σ H ρ d v ρ' Q sr rv hm k)⟩, fun Γ σ H ρ d v ρ' Q sr rv hm k => ⟨Γ, ρ, d, ρ', sr, rv, hm, k⟩⟩
section
variable {X : Cx} {elt tg iter : Expr} {ifs : List Expr} {scope : Scope} {own : List (Str × Nat)} {pos : Pos} {wi : TI} {is : List Nat} {it : IM} {gm : GM} {tm : TM} {el : EM}
theorem df_compX (hc : X.calm = true) (hN : X.N.Nodup) (hi : DI X tg iter wi it) (ok : BlkOk X.N X.env.scope scope own)
    (hg : ∀ (s : Shared) (H : Hp) (C : Addr) (cl : List (Str × Addr)) (fp : List Addr), ∃ g, DG (X.blk s H scope (compEnvC scope cl C X.env) fp) tg g is gm)
    (ht : ∀ (s : Shared) (H : Hp) (C : Addr) (cl : List (Str × Addr)) (fp : List Addr), ∃ t, DTs (X.blk s H scope (compEnvC scope cl C X.env) fp) ifs t tm)
    (he : ∀ (s : Shared) (H : Hp) (C : Addr) (cl : List (Str × Addr)) (fp : List Addr), ∃ t, DE (X.blk s H scope (compEnvC scope cl C X.env) fp) elt t el)
    (hsub : ∀ i ∈ is, i ∈ own.map (·.2) := by decide) (hs : ∀ x, foldedSetIterable iter X.env x = pure x := by intro _; rfl) :
    DF X (.ListComp elt [⟨tg, iter, ifs, 0⟩] scope pos) (tLc wi (tOfG X.G is gm) (tOfT X.G tm) (tOfE X.G el) (own.map (·.2))) (eComp (own.map (·.2)) it gm tm el) :=
  df_comp hc hN hi ok (fun s H C cl fp => let ⟨_, h⟩ := hg s H C cl fp; h.can) (fun s H C cl fp => let ⟨_, h⟩ := ht s H C cl fp; h.can) (fun s H C cl fp => let ⟨_, h⟩ := he s H C cl fp; h.can) hsub hs
theorem ds_setCompX (i : Nat) {y : Str} {py spos : Pos} (hc : X.calm = true) (hN : X.N.Nodup) (hi : DI X tg iter wi it) (ok : BlkOk X.N X.env.scope scope own)
    (hg : ∀ (s : Shared) (H : Hp) (C : Addr) (cl : List (Str × Addr)) (fp : List Addr), ∃ g, DG (X.blk s H scope (compEnvC scope cl C X.env) fp) tg g is gm)
    (ht : ∀ (s : Shared) (H : Hp) (C : Addr) (cl : List (Str × Addr)) (fp : List Addr), ∃ t, DTs (X.blk s H scope (compEnvC scope cl C X.env) fp) ifs t tm)
    (he : ∀ (s : Shared) (H : Hp) (C : Addr) (cl : List (Str × Addr)) (fp : List Addr), ∃ t, DE (X.blk s H scope (compEnvC scope cl C X.env) fp) elt t el)
    (hy : X.N[i]? = some y := by rfl) (hyl : X.env.scope.names.lookup y = some .local := by rfl)
    (hsw : swapsWith (.ListComp elt [⟨tg, iter, ifs, 0⟩] scope pos) (some (.Name y py)) spos.line X.env = pure true := by exact sw_true rfl rfl rfl (by decide +kernel))
    (hsub : ∀ i ∈ is, i ∈ own.map (·.2) := by decide) (hs : ∀ x, foldedSetIterable iter X.env x = pure x := by intro _; rfl) :
    DS X (.Assign [.Name y py] (.ListComp elt [⟨tg, iter, ifs, 0⟩] scope pos) spos) (tAsg (tLc wi (tOfG X.G is gm) (tOfT X.G tm) (tOfE X.G el) (own.map (·.2))) (gName i)) (sSet i (eComp (own.map (·.2)) it gm tm el)) :=
  ds_setComp i hc hN hi ok (fun s H C cl fp => let ⟨_, h⟩ := hg s H C cl fp; h.can) (fun s H C cl fp => let ⟨_, h⟩ := ht s H C cl fp; h.can) (fun s H C cl fp => let ⟨_, h⟩ := he s H C cl fp; h.can) hy hyl hsw hsub hs
end
omit [TabC] in
def aSl (i : Nat) (r : AM) : AM := fun ρ => match ρ[i]? with
  | some (.o _) => aSlot i r ρ
  | some (.p _) => aSlot i r ρ
  | _ => none
theorem da_sl {X : Cx} {es : List Expr} {am : AM} {at1 : TA} (i : Nat) {x : Str} {p : Pos} (hr : DA X es at1 am) (hN : X.N[i]? = some x := by rfl) (hv : Vis X.env.scope x := by first | exact Or.inl rfl | exact Or.inr (Or.inl rfl) | exact Or.inr (Or.inr rfl)) (hd : (x == ("__debug__" : Str)) = false := by decide)
    (hcd : (x == ("__classdict__" : Str)) = false := by decide) (hs : starEach (.Name x p :: es) X.env = (false, eval (.Name x p) X.env) :: starEach es X.env := by rfl) : DA X (.Name x p :: es) (tCons (tVar i) at1) (aSl i am) := by
  have h := da_slot i hr hN hv hd hcd hs
  have e : aSl i am = _ := rfl
  refine ⟨h.pe, fun Γ σ H ρ as ρ' Q s hm k => h.q Γ σ H ρ as ρ' Q s (by unfold aSl at hm; exact hm) k⟩
section
variable {X : Cx} {e : Expr} {es : List Expr} {kws : List Keyword} {pos p kpos : Pos} {am bm : AM} {at1 at2 : TA} {x : Str} {k n nk : Nat} {ps ks : List Str} {perm : List Nat} {fn : FnSem}
theorem de_kw0 (F : FnK X.prog X.w X.K X.mg X.base x k ps ks 0 perm fn) (hr : Room k X.A) (hkw : DK X kws at2 bm) (hnk : ks.length = nk := by rfl) (hg : Gl X x := by rfl) (hall : (backToKw pos (keywordEach kws X.env)).all (·.1.isSome) = true := by rfl) (hks : (backToKw pos (keywordEach kws X.env)).filterMap (·.1) = ks := by rfl)
    (hdb : (x == ("__debug__" : Str)) = false := by decide) (hpl : ((backTo pos (starEach [] X.env)).any (·.1) || (backToKw pos (keywordEach kws X.env)).any (·.1.isNone)) = false := by rfl) :
    DE X (.Call (.Name x p) [] kws pos) (tCallN 0 nk (spF X.G fn) (fun vs zs => permV perm (vs ++ zs)) E0 tNil at2) (eCallK perm 0 nk fn aNil bm) := by
  subst hnk
  exact de_callK0 F hr hkw hg hall hks hdb hpl
end
end DL
namespace DL
open PySem L2
variable [TabC]
/-- the law's promise, from what it denotes -/
theorem sp_law {K : PySem.W.Frag} {mg : Str → Option Value} {fn : FnSem} {H : Hp} {a : Addr} {ns : List Int} {E : XK} (hS : SqL K H a (ns.map V.int)) (hl : ns.length ≤ 63) (tb : TabsG H) (h : ∃ ss, fn [.v (.scr ns)] = some (.bl true, ss)) :
    spF ⟨K, mg⟩ fn [.ref a] H (fun v _ => v = .bl true) E := by
  obtain ⟨ss, h⟩ := h
  exact ⟨[], [.v (.scr ns)], .bl true, ss, ⟨.ref a, [], rfl, ⟨a, rfl, hS.imp (fun h => ⟨by simp, h⟩) id, by unfold sizeLine; omega⟩, rfl⟩, by simp [pad], ⟨by simp, tb⟩, h, fun v H' _ _ _ r => r⟩
end DL
namespace DL
open PySem L2
variable [TabC]
omit [TabC] in
def okRg (a b : Int) : Bool := ok62 a && ok62 b && lim (b - a).toNat
omit [TabC] in
def rgD (a b : Int) : List D := rngD a (b - a).toNat
omit [TabC] in
def trgF : List D → Option D
  | [.int n] => if okRg 0 n then some (.tup (rgD 0 n)) else none
  | [.int a, .int b] => if okRg a b then some (.tup (rgD a b)) else none
  | _ => none
omit [TabC] in
theorem okRg_ok {a b : Int} (h : okRg a b = true) : RgOk a b ∧ (rgD a b).length ≤ sizeLine := by
  unfold okRg ok62 at h
  rw [Bool.and_eq_true, Bool.and_eq_true, Bool.and_eq_true, Bool.and_eq_true] at h
  obtain ⟨⟨⟨h1, h2⟩, h3, h4⟩, h5⟩ := h
  have l := of_decide_eq_true h5
  exact ⟨⟨of_decide_eq_true h1, of_decide_eq_true h2, of_decide_eq_true h3, of_decide_eq_true h4, Nat.le_trans l (by decide)⟩, by unfold rgD; rw [rngD_length]; exact line_of l⟩
omit [TabC] in
theorem rgD_rp {G : Gc} {H : Hp} {W : List Addr} (a b : Int) : RpAll G H W (rgD a b) (rgV a b) := by
  unfold rgD rngD rgV
  generalize (b - a).toNat = n
  induction (List.range n) with
  | nil => rfl
  | cons x l ih => exact ⟨_, _, rfl, rfl, ih⟩
omit [TabC] in
def rRg (mk : List V → HO) : List V → Hp → VK → Prop
  | [x], H, Q => ∃ n, x = .int n ∧ (RgOk 0 n ∧ ∀ q, H q = none → Q (.ref q) (upd H q (mk (rgV 0 n))))
  | [x, y], H, Q => ∃ i j, x = .int i ∧ y = .int j ∧ (RgOk i j ∧ ∀ q, H q = none → Q (.ref q) (upd H q (mk (rgV i j))))
  | _, _, _ => False
section
variable {X : Cx} {a b : Expr} {p p2 pos pos2 : Pos} {ta tb : TE} {m m2 : EM}
theorem cd_trg {G : Gc} : CallD G (rRg HO.tup) trgF := by
  intro H W xs ds z Q th r e q
  match ds, e with
  | [.int n], e =>
    simp only [trgF] at e
    split at e
    · rename_i l; cases e
      obtain ⟨x, xs, rfl, rx, rr⟩ := r
      cases (show xs = [] from rr); cases (show x = .int n from rx)
      obtain ⟨l1, l2⟩ := okRg_ok l
      exact ⟨n, rfl, l1, fun p hp => q _ _ (fm_new hp) ⟨p, rgV 0 n, rfl, upd_same, l2, rgD_rp 0 n⟩⟩
    · cases e
  | [.int i, .int j], e =>
    simp only [trgF] at e
    split at e
    · rename_i l; cases e
      obtain ⟨x, xs, rfl, rx, y, ys, rfl, ry, rr⟩ := r
      cases (show ys = [] from rr); cases (show x = .int i from rx); cases (show y = .int j from ry)
      obtain ⟨l1, l2⟩ := okRg_ok l
      exact ⟨i, j, rfl, rfl, l1, fun p hp => q _ _ (fm_new hp) ⟨p, rgV i j, rfl, upd_same, l2, rgD_rp i j⟩⟩
    · cases e
theorem de_trg1 (hm : X.mg "tuple" = none) (hm2 : X.mg "range" = none) (ha : DE X a ta m) (hc : X.calm = true := by rfl) (hg : Gl X "tuple" := by rfl) (hg2 : Gl X "range" := by rfl)
    (na : starEach [a] X.env = (false, eval a X.env) :: starEach [] X.env := by rfl)
    (nr : starEach [.Call (.Name "range" p2) [a] [] pos2] X.env = (false, eval (.Call (.Name "range" p2) [a] [] pos2) X.env) :: starEach [] X.env := by rfl) :
    DE X (.Call (.Name "tuple" p) [.Call (.Name "range" p2) [a] [] pos2] [] pos) (tCB (rRg HO.tup) (tCons ta tNil)) (eCallV trgF (aCons m aNil)) :=
  ⟨pe_tupRg hc hg hm (prg_1 hg2 hm2 ha.pe na) nr, callv cd_trg (da_cons ha da_nil na).q⟩
end
section
variable {X : Cx} {tg a b c : Expr} {p pos : Pos} {am : AM} {at1 : TA}
end
omit [TabC] in
def sParOV (i j : Nat) (m1 m2 : EM) : SM := fun ρ => (m1 ρ).bind fun p => (m2 p.2).bind fun q => (putO i p.1 q.2).bind fun ρ3 => (putV j q.1 ρ3).bind fun ρ4 => some (.nx ρ4)
section
variable {X : Cx} {a b : Expr} {pos : Pos} {m1 m2 : EM} {te1 te2 : TE}
theorem ds_parOV (i j : Nat) {x y : Str} {px py pt : Pos} {kt k2 pt2} (hc : X.calm = true) (hN : X.N.Nodup) (ha : DF X a te1 m1) (hb : DE X b te2 m2) (hi : X.N[i]? = some x := by rfl) (hj : X.N[j]? = some y := by rfl) (hij : i ≠ j := by decide)
    (hx : X.env.scope.names.lookup x = some .local := by rfl) (hy : X.env.scope.names.lookup y = some .local := by rfl)
    (na : starEach [a, b] X.env = (false, eval a X.env) :: starEach [b] X.env := by rfl) (nb : starEach [b] X.env = (false, eval b X.env) :: starEach [] X.env := by rfl)
    (hw : swappedStores [.Tuple [.Name x px, .Name y py] kt pt] (.Tuple [a, b] k2 pt2) X.env = pure (some [x, y]) := by rfl)
    (hs : swapsWithSole [.Tuple [.Name x px, .Name y py] kt pt] (.Tuple [a, b] k2 pt2) pos.line X.env = pure false := by rfl) :
    DS X (.Assign [.Tuple [.Name x px, .Name y py] kt pt] (.Tuple [a, b] k2 pt2) pos) (tPar i j (tCons te1 (tCons te2 tNil))) (sParOV i j m1 m2) := by
  refine ⟨ps_par hc hN hi hj hij hx hy (da_cons ha.de (da_cons hb da_nil nb) na).pe hw hs, fun Γ σ H ρ o E s h f => ?_⟩
  unfold sParOV at h
  cases e1 : m1 ρ with
  | none => rw [e1] at h; cases h
  | some p =>
  obtain ⟨d1, ρ1⟩ := p
  rw [e1] at h; simp only [Option.bind_some] at h
  cases e2 : m2 ρ1 with
  | none => rw [e2] at h; cases h
  | some q =>
  obtain ⟨d2, ρ2⟩ := q
  rw [e2] at h; simp only [Option.bind_some] at h
  cases e3 : putO i d1 ρ2 with
  | none => rw [e3] at h; cases h
  | some ρ3 =>
  rw [e3] at h; simp only [Option.bind_some] at h
  cases e4 : putV j d2 ρ3 with
  | none => rw [e4] at h; cases h
  | some ρ4 =>
  rw [e4] at h; cases h
  refine ha.q Γ σ H ρ d1 ρ1 _ s e1 fun z H1 n sr1 ow1 fm1 sub1 tr1 => ?_
  refine hb.q ⟨z :: Γ.U, Γ.π⟩ σ H1 ρ1 d2 ρ2 _ sr1 e2 fun v H2 a2 r2 => ?_
  have zU : z ∉ Γ.U := fun q => s.th z q n
  have zmu : z ∉ Gam.mu ⟨z :: Γ.U, Γ.π⟩ σ ρ1 := fun q => by
    rcases List.mem_append.mp q with q | q
    · exact sr1.out z q List.mem_cons_self
    · obtain ⟨p, hp, e⟩ := List.mem_map.mp q
      exact zU (e ▸ (s.pin p hp).1)
  have ow2 : Ow X.G H2 (ownO σ ρ2 ++ z :: Γ.U) d1 z := ow1.mo (a2.mo sr1) fun x e nt => a2.fm.out zmu e nt
  obtain ⟨s3, mem⟩ := Sr.putO (i := i) a2.sr e3 ow2 (fun p hp => (s.pin p hp).1) (fun b hb => a2.tr b (tr1 b (s.th b hb))) zU
  have r3 : Rp X.G H2 (Γ.w (σ.set i (some (.ref z))) ρ3) d2 v := Rp.mo ⟨Fm.refl _ _, fun b q => .inl (by
    rcases List.mem_append.mp q with q | q
    · rcases mem b q with q | q
      · rw [q]; exact List.mem_append_right _ List.mem_cons_self
      · exact List.mem_append_left _ q
    · exact List.mem_append_right _ (List.mem_cons_of_mem _ q))⟩ _ _ r2
  have b4 := s3.put e4 r3
  refine ⟨_, _, rfl, f _ H2 ⟨b4.sr, ?_, fun c hc => ?_, tr1.trans a2.tr⟩⟩
  · refine fm1.trans (a2.fm.mono fun b q => ?_)
    rcases List.mem_append.mp q with q | q
    · exact List.mem_append_left _ (sub1 b q)
    · exact List.mem_append_right _ q
  · rcases b4.nw c hc with q | q
    · rcases mem c q with q | q
      · exact .inr (q ▸ n)
      · exact .inl (sub1 c (a2.sub c q))
    · exact .inr ((tr1.trans a2.tr).back q)
end
omit [TabC] in
/-- names of built-ins that stand free, further -/
structure NbX (mg : Str → Option Value) : Prop where
  set : mg "set" = none
  repr : mg "repr" = none
  dict : mg "dict" = none
end DL
namespace DL
open PySem L2
variable [TabC]
omit [TabC] in
def rExtendR : V → List V → Hp → VK → Prop := fun x vs H Q => ∃ l b xs zs, x = .ref l ∧ vs = [.ref b] ∧ H l = some (.lst xs) ∧ Rd H b (.lst zs) ∧ xs.length + zs.length ≤ sizeLine ∧ Q .non (upd H l (.lst (xs ++ zs)))
section
variable {X : Cx}
end
section
variable {X : Cx} {a b : Expr} {pos : Pos} {m1 m2 : EM} {te1 te2 : TE}
end
omit [TabC] in
def addL : D → D → Option D
  | .lst a, .lst b => if lim (a.length + b.length) then some (.lst (a ++ b)) else none
  | _, _ => none
end DL
namespace DL
open PySem L2
variable [TabC]
section
variable {Γ : Gam} {G : Gc} {H H1 H2 H' : Hp} {σ : L2.St} {ρ ρ1 ρ2 : Env} {X : Cx} {a b : Expr} {pos : Pos} {ma mb : EM} {te1 te2 : TE} {op : Operator} {r : R2} {f : D → D → Option D}
theorem Sr.drop {z : Addr} (s : Sr ⟨z :: Γ.U, Γ.π⟩ G H σ ρ) (hp : ∀ p ∈ Γ.π, p.2 ∈ Γ.U) : Sr Γ G H σ ρ where
  len := s.len
  nd := s.nd
  out := fun a h q => s.out a h (List.mem_cons_of_mem _ q)
  pin := fun p h => ⟨hp p h, (s.pin p h).2⟩
  pnd := s.pnd
  th := fun a h => s.th a (List.mem_cons_of_mem _ h)
  tb := s.tb
  sl := fun i x h => by
    obtain ⟨y, e, q⟩ := s.sl i x h
    have m : Mo (Gam.w ⟨z :: Γ.U, Γ.π⟩ σ ρ) (Γ.w σ ρ) H H := ⟨Fm.refl _ _, fun b hb => .inl ((List.mem_append.mp hb).elim (fun q => List.mem_append_left _ q) fun q => List.mem_append_right _ (List.mem_cons_of_mem _ q))⟩
    refine ⟨y, e, ?_⟩
    cases x with
    | e => trivial
    | v d => obtain ⟨v, e, r⟩ := q; exact ⟨v, e, Rp.mo m _ _ r⟩
    | o d => obtain ⟨a, e, r⟩ := q; exact ⟨a, e, r.mo m fun x z _ => z⟩
    | p d => obtain ⟨a, e, p, r⟩ := q; exact ⟨a, e, p, r.mo m fun x z _ => z⟩
theorem op2F {te1 te2 : TE} {r : R2} {f : D → D → Option D} {G : Gc} (od : OpDF G r f)
    (q1 : ∀ (Γ : Gam) (σ : L2.St) (H : Hp) (ρ : Env) (d : D) (ρ' : Env) (Q : VK), Sr Γ G H σ ρ → ma ρ = some (d, ρ') → (∀ v H', Po Γ G σ ρ H ρ' H' → Rp G H' (Γ.w σ ρ') d v → Q v H') → te1 σ H Q)
    (q2 : ∀ (Γ : Gam) (σ : L2.St) (H : Hp) (ρ : Env) (d : D) (ρ' : Env) (Q : VK), Sr Γ G H σ ρ → mb ρ = some (d, ρ') → (∀ v H', Po Γ G σ ρ H ρ' H' → Rp G H' (Γ.w σ ρ') d v → Q v H') → te2 σ H Q)
    (Γ : Gam) (σ : L2.St) (H : Hp) (ρ : Env) (d : D) (ρ' : Env) (Q : VK) (s : Sr Γ G H σ ρ) (h : eOp2 f ma mb ρ = some (d, ρ'))
    (k : ∀ a H', H a = none → Sr ⟨a :: Γ.U, Γ.π⟩ G H' σ ρ' → Ow G H' (ownO σ ρ' ++ a :: Γ.U) d a → Fm (Γ.mu σ ρ) H H' → (∀ b ∈ ownO σ ρ', b ∈ ownO σ ρ) → Tr H H' → Q (.ref a) H') : tOp r te1 te2 σ H Q := by
  unfold eOp2 at h
  cases e1 : ma ρ with
  | none => rw [e1] at h; cases h
  | some p =>
    rw [e1] at h
    replace h : ((mb p.2).bind fun q => (f p.1 q.1).map fun z => (z, q.2)) = some (d, ρ') := h
    cases e2 : mb p.2 with
    | none => rw [e2] at h; cases h
    | some q =>
      rw [e2] at h
      replace h : ((f p.1 q.1).map fun z => (z, q.2)) = some (d, ρ') := h
      cases e3 : f p.1 q.1 with
      | none => rw [e3] at h; cases h
      | some z =>
        rw [e3] at h
        cases h
        refine q1 Γ σ H ρ p.1 p.2 _ s e1 fun x H1 a1 r1 => ?_
        refine q2 Γ σ H1 p.2 q.1 q.2 _ a1.sr e2 fun y H2 a2 r2 => ?_
        exact od H2 (Γ.w σ q.2) x y p.1 q.1 d Q a2.sr.w_th (Rp.mo (a2.mo a1.sr) _ _ r1) r2 e3 fun v H3 n f3 ow => fresh_end (a1.trans a2) n f3 ow k
theorem df_op (ho : OpR X (binaryOp op) r) (od : OpDF X.G r f) (ha : DE X a te1 ma) (hb : DE X b te2 mb) : DF X (.BinOp a op b pos) (tOp r te1 te2) (eOp2 f ma mb) :=
  ⟨pe_op ho ha.pe hb.pe, op2F od ha.q hb.q⟩
theorem odf_add : OpDF X.G (rAddA X.K) addL := by
  intro H W x y dx dy z Q th rx ry e q
  match dx, dy, e with
  | .lst d1, .lst d2, e =>
    simp only [addL] at e
    split at e
    · rename_i l
      cases e
      obtain ⟨a1, v1, rfl, f1, l1, q1⟩ := rx
      obtain ⟨a2, v2, rfl, f2, l2, q2⟩ := ry
      have l' := lim_line l
      refine .inr (.inr (.inl ⟨a1, a2, v1, v2, rfl, rfl, f1.2, f2.2, by rw [q1.length, q2.length]; exact l', fun p n => q p _ n (fm_new n) ⟨v1 ++ v2, upd_same, by rw [List.length_append]; exact l', RpAll.mo (new_mo' n) _ _ (q1.app q2)⟩⟩))
    · cases e
end
end DL
namespace DL
open PySem L2
variable [TabC]
section
variable {X : Cx}
end
section
variable {X : Cx} {oi e : Expr} {pos p tpos : Pos} {mi me : EM} {ti te : TE} {f : D → D → Option D} {op : Operator} {tip : TIp}
end
end DL
namespace DL
open PySem L2
variable [TabC]
section
variable {X : Cx} {e st : Expr} {lo hi : Option Expr} {p2 pos : Pos} {te : TE} {tl th ts : TO} {m : EM} {ml mh ms : OM}
end
end DL
namespace DL
open PySem L2 PySem.Spec PyProof.Rows
variable [TabC]
omit [TabC] in
abbrev eSet (w : World) : Obj := { cls := .type "set", dict := none, data := .set #[] 0 (.fresh 0 0 (!w.params.followText "set-order")) }
section
variable {P : Program} {w : World} {A : Around} {E : Value → Shared → Prop} {s : Shared}
omit [TabC] in
theorem call_set_lstI {l : Addr} {its : Array Value} (ns : List Int) {Q : Value → Shared → Prop} (hh : A.handled = none) (hl : s.heap.IsList l its) (hit : IntsAre its.toList ns) (hb : ns.length + 1 < scanBound)
    (k : ∀ (h' : Heap) (tk c : Nat), SetR w h' s.heap.objs.size (fun j => decide (j ∈ ns)) c → c ≤ ns.length → (∀ b o, s.heap.get? b = some o → h'.get? b = some o) → Q (.ref s.heap.objs.size) { s with heap := h', toks := tk }) :
    wpAny (model P w) A (call (.type "set") [.ref l]) Q E s := by
  have len : its.size = ns.length := by have q := IntsAre.length hit; rwa [Array.length_toList] at q
  obtain ⟨c, tl, hmro⟩ := F.called_set.mro
  have f1 := F.called_set.made
  have f2 := F.called_set.sub
  have f3 := F.called_set.notType
  have f4 := F.called_set.canCreate
  have f5 := F.typeCall_set_1 (.ref l)
  refine wpAny_call (codeAny_of_tree ?_)
  show wpAny _ _ (callAny (.type "set") _) _ _ _
  refine wpAny_pure ⟨Code.quiet_builtin _ (by decide +kernel), codeAny_builtin F.entry_type_call ?_⟩
  rw [Around.under_plain (weight_type_call_type "set" [.ref l] []) rfl]
  repeat (any_goals (first | assumption | wp_step))
  refine codeAny_mono (code_set_led1 (.ref l) (E := E) (Q₁ := fun o s₁ => o = .ref s.heap.objs.size ∧ s₁ = { s with heap := s.heap.push (eSet w) }) ⟨rfl, rfl⟩) fun r s₁ hr => ?_
  cases r with
  | error e => exact hr
  | ok fl =>
    cases fl with
    | ret obj =>
      obtain ⟨rfl, rfl⟩ := hr
      have g0 : (s.heap.push (eSet w)).get? s.heap.objs.size = some (eSet w) := Heap.get?_push_size _ rfl
      have hT : Shared.TypeIs { s with heap := s.heap.push (eSet w) } (.ref s.heap.objs.size) "set" := ⟨_, g0, rfl⟩
      have f6 := F.called_set.init.lookup
      have f7 := F.called_set.init.bind (.ref s.heap.objs.size)
      repeat (any_goals (first | assumption | wp_step))
      refine codeAny_mono (codeAny_call_builtin (R := wants (fun r s₂ => r = .none ∧ ∃ h' tk c, s₂ = { s with heap := h', toks := tk } ∧ SetR w h' s.heap.objs.size (fun j => decide (j ∈ ns)) c ∧ c ≤ ns.length ∧
          (∀ b o, s.heap.get? b = some o → h'.get? b = some o)) E) F.called_set.init.plain F.entry_set_init (check_set_init_1 hT ?_)) fun r₂ s₂ hr₂ => ?_
      · obtain ⟨ol, hol, hcl, nl, hdl⟩ := hl
        obtain ⟨ocls, odict, odata, oslots⟩ := ol
        simp only at hcl hdl
        subst hcl; subst hdl
        have g1 : (s.heap.push (eSet w)).get? l = some { cls := .type "list", dict := odict, data := .seq its nl, slots := oslots } := Heap.get?_push_of_some _ hol
        have t1 := F.sub_list_set
        have t2 := F.sub_list_frozenset
        have t3 : (Value.type "list" == Value.type "dict") = false := by decide
        have L1 : (s.heap.push (eSet w)).IsList l its := ⟨_, g1, rfl, nl, rfl⟩
        unfold Builtin.«set.__init__» noKeywords Builtin.Frozenset.updateFrom
        generalize hPI : pyIter = PI
        wp_walk
        subst hPI
        refine wpAny_pyIter_list L1 ?_
        refine wpAny_bind (wpAny_runValue ?_)
        have lt : l < s.heap.objs.size := Heap.lt_size hol
        have h3 : A.in1.in1.in1.handled = none := by simp [hh]
        have n1 : l ≠ (s.heap.push (eSet w)).objs.size := by
          rw [Heap.size_push]; exact Nat.ne_of_lt (Nat.lt_succ_of_lt lt)
        have n2 : s.heap.objs.size ∉ [(s.heap.push (eSet w)).objs.size, l] := by
          rw [Heap.size_push]
          intro z
          rcases List.mem_cons.mp z with z | z
          · exact Nat.ne_of_lt (Nat.lt_succ_self _) z
          · rcases List.mem_cons.mp z with z | z
            · exact Nat.ne_of_lt lt z.symm
            · cases z
        have val : ∀ (i : Nat) (v : Value), its[i]? = some v → ∃ k t, ns[i]? = some k ∧ v = .int k t := fun i v hv => by
          have hi : i < ns.length := by rw [← len]; exact (Array.getElem?_eq_some_iff.mp hv).1
          obtain ⟨t, e⟩ := PyProof.Rows.IntsAre.int_at hit i v (by rw [Array.getElem?_toList]; exact hv)
          rw [List.getD_eq_getElem?_getD, List.getElem?_eq_getElem hi, Option.getD_some] at e
          exact ⟨ns[i], t, List.getElem?_eq_getElem hi, e⟩
        refine set_update_ints ((Walks.list h3 _ l n1 its).toS) s.heap.objs.size n2 ns len hb val (its.size - 0) 0 _ (by omega) (Nat.zero_le _) ⟨⟨_, Heap.get?_push_size _ rfl, rfl, rfl⟩, (L1.push _)⟩ ?start ?done
        case start => exact ⟨0, Nat.le_refl 0, setR_new_at (Heap.get?_push_of_some _ g0)⟩
        case done =>
          intro s' c' hm hc' hS'
          obtain ⟨h', g2, d', tk', os'⟩ := s'
          cases (show g2 = s.gens from hm.gens)
          cases (show d' = s.drawn from hm.drawn)
          cases (show os' = s.os from hm.os)
          show wpAny _ _ _ _ _ _
          refine wpAny_pure ?_
          show wpAny _ _ (ret Value.none) _ _ _
          rw [len] at hc'
          refine wpAny_pure ⟨rfl, h', tk', c', rfl, hS', hc', fun b o e => ?_⟩
          have lb : b < s.heap.objs.size := Heap.lt_size e
          refine hm.heap b o (fun z => ?_) (Heap.get?_push_of_some _ (Heap.get?_push_of_some _ e))
          rcases List.mem_cons.mp z with z | z
          · exact Nat.ne_of_lt lb z
          · rcases List.mem_cons.mp z with z | z
            · rw [Heap.size_push] at z; exact Nat.ne_of_lt (Nat.lt_succ_of_lt lb) z
            · cases z
      · cases r₂ with
        | error e => exact hr₂
        | ok fl₂ =>
          cases fl₂ with
          | ret r =>
            obtain ⟨rfl, h', tk, c', rfl, g3, g4, g5⟩ := hr₂
            repeat (any_goals (first | assumption | wp_step))
            exact k h' _ c' g3 g4 g5
          | _ => exact hr₂.elim
    | _ => exact hr.elim
end
section
variable {X : Cx}
omit [TabC] in
/-- a new set of the ints of a list -/
def rSetOfL (K : PySem.W.Frag) (w : World) : List V → Hp → VK → Prop := fun xs H Q => ∃ (l : Addr) (ns : List Int), xs = [.ref l] ∧ (SqL K H l (ns.map V.int) ∨ SqT K H l (ns.map V.int)) ∧ ns.length ≤ 1000 ∧
  ∀ (p : Addr) (c : Nat), H p = none → (∃ l : List Int, l.Nodup ∧ (∀ k, k ∈ l ↔ k ∈ ns) ∧ l.length = c) → Q (.ref p) (upd H p (SetO w p (fun j => decide (j ∈ ns)) c))
omit [TabC] in
theorem cr_setOfL (hc : X.calm = true) : CallR X (.type "set") (rSetOfL X.K X.w) := by
  intro pins s σ H vs us Q I r h
  obtain ⟨l, ns, rfl, hs, hn, q⟩ := h
  rw [Vals.ref1 r]
  have hb : ns.length + 1 < scanBound := by
    have : (1002 : Nat) ≤ scanBound := by decide
    omega
  have fin : ∀ (h' : Heap) (tk c : Nat), SetR X.w h' s.heap.objs.size (fun j => decide (j ∈ ns)) c → c ≤ ns.length → (∀ b o, s.heap.get? b = some o → h'.get? b = some o) → EP X pins σ Q (.ref s.heap.objs.size) { s with heap := h', toks := tk } := by
    intro h' tk c R hc k
    exact ⟨.ref s.heap.objs.size, _, I.laid (t' := tk) (o := SetO X.w s.heap.objs.size (fun j => decide (j ∈ ns)) c) k (Nat.le_refl _) (setO_new R), rfl, q _ c (I.hok.fresh (Nat.le_refl _)) (by
      obtain ⟨o, es, ep, t, _, _, _, _, nd, mem, _, _, sz, _⟩ := R
      exact ⟨es.toList.map keyOf, nd, fun k => by rw [← mem k, decide_eq_true_eq], by rw [List.length_map, Array.length_toList]; exact sz⟩)⟩
  rcases hs with hs | hs
  · obtain ⟨its, rv, pl, hz⟩ := I.list hs
    exact call_set_lstI ns (I.ok.hd hc) pl.isList (ints_of_vals rv) hb fin
  · obtain ⟨its, rv, pl, hz⟩ := I.tuple hs
    exact call_set_tupI ns (I.ok.hd hc) pl (ints_of_vals rv) hb fin
end
end DL
namespace DL
open PySem L2
variable [TabC]
section
variable {X : Cx}
end
end DL
namespace DL
open PySem L2
variable [TabC]
omit [TabC] in
def insS (x : Int) : List Int → List Int
  | [] => [x]
  | y :: r => if x < y then x :: y :: r else if x = y then y :: r else y :: insS x r
omit [TabC] in
def srt (ns : List Int) : List Int := ns.foldr insS []
omit [TabC] in
theorem mem_insS {x k : Int} : ∀ {l : List Int}, k ∈ insS x l ↔ k = x ∨ k ∈ l
  | [] => by simp [insS]
  | y :: r => by
    unfold insS
    split
    · simp
    · split
      · rename_i h; subst h; simp
      · simp only [List.mem_cons, mem_insS (l := r)]
        constructor <;> (intro h; rcases h with h | h | h <;> simp [h])
omit [TabC] in
theorem mem_srt {k : Int} : ∀ {ns : List Int}, k ∈ srt ns ↔ k ∈ ns
  | [] => by simp [srt]
  | x :: r => by
    show k ∈ insS x (srt r) ↔ _
    rw [mem_insS, mem_srt (ns := r), List.mem_cons]
omit [TabC] in
theorem insS_sorted {x : Int} : ∀ {l : List Int}, l.Pairwise (· < ·) → (insS x l).Pairwise (· < ·)
  | [], _ => by simp [insS]
  | y :: r, h => by
    unfold insS
    have h1 := List.pairwise_cons.mp h
    split
    · rename_i q
      refine List.pairwise_cons.mpr ⟨fun z hz => ?_, h⟩
      rcases List.mem_cons.mp hz with e | e
      · rw [e]; exact q
      · exact Int.lt_trans q (h1.1 z e)
    · split
      · exact h
      · refine List.pairwise_cons.mpr ⟨fun z hz => ?_, insS_sorted h1.2⟩
        rcases mem_insS.mp hz with e | e
        · rw [e]; omega
        · exact h1.1 z e
omit [TabC] in
theorem srt_sorted : ∀ ns : List Int, (srt ns).Pairwise (· < ·)
  | [] => List.Pairwise.nil
  | x :: r => insS_sorted (srt_sorted r)
omit [TabC] in
theorem sorted_nodup {l : List Int} (h : l.Pairwise (· < ·)) : l.Nodup := h.imp fun h e => by omega
omit [TabC] in
theorem sorted_ext {l m : List Int} (hl : l.Pairwise (· < ·)) (hm : m.Pairwise (· < ·)) (h : ∀ k, k ∈ l ↔ k ∈ m) : l = m :=
  List.Perm.eq_of_pairwise (fun a b _ _ h1 h2 => by omega) hl hm ((List.perm_ext_iff_of_nodup (sorted_nodup hl) (sorted_nodup hm)).mpr h)
omit [TabC] in
theorem srt_len {l ns : List Int} (nd : l.Nodup) (h : ∀ k, k ∈ l ↔ k ∈ ns) : l.length = (srt ns).length :=
  ((List.perm_ext_iff_of_nodup nd (sorted_nodup (srt_sorted ns))).mpr fun k => (h k).trans mem_srt.symm).length_eq
omit [TabC] in
def sosF : List D → Option D
  | [d] => (match d with
    | .lst ds => some ds
    | .tup ds => some ds
    | _ => none).bind fun ds => (ints? ds).bind fun ns => if decide (ns.length ≤ 1000) && decide ((srt ns).length < 64) then some (.lst ((srt ns).map D.int)) else none
  | _ => none
section
variable {X : Cx} {e : Expr} {p p2 pos pos2 : Pos} {te : TE} {m : EM}
omit [TabC] in
theorem bt_sorted' : bootBuiltins "sorted" = some (.builtin "sorted") := by decide +kernel
omit [TabC] in
theorem bt_set' : bootBuiltins "set" = some (.type "set") := by decide +kernel
theorem df_sos (hm : X.mg "sorted" = none) (hm2 : X.mg "set" = none) (he : DE X e te m) (hc : X.calm = true := by rfl) (hg : Gl X "sorted" := by rfl) (hg2 : Gl X "set" := by rfl)
    (na : starEach [e] X.env = (false, eval e X.env) :: starEach [] X.env := by rfl)
    (nr : starEach [.Call (.Name "set" p2) [e] [] pos2] X.env = (false, eval (.Call (.Name "set" p2) [e] [] pos2) X.env) :: starEach [] X.env := by rfl)
    (hp : (backTo pos2 (starEach [] X.env)).any (·.1) = false := by rfl) (hp2 : (backTo pos (starEach [] X.env)).any (·.1) = false := by rfl) :
    DF X (.Call (.Name "sorted" p) [.Call (.Name "set" p2) [e] [] pos2] [] pos) (tCB (rSortedSet X.w) (tCons (tCB (rSetOfL X.K X.w) (tCons te tNil)) tNil)) (eCallV sosF (aCons m aNil)) := by
  refine ⟨pe_callB (cr_sortedSet hc) hg hm bt_sorted' (pa_cons (pe_callTy (cr_setOfL hc) hg2 hm2 bt_set' (pa_cons he.pe pa_nil na) (by decide) (by decide) na hp) pa_nil nr) (by decide) (by decide) nr hp2, fun Γ σ H ρ d ρ' Q s h k => ?_⟩
  unfold eCallV aCons at h
  cases e1 : m ρ with
  | none => rw [e1] at h; cases h
  | some q =>
  obtain ⟨d1, ρ1⟩ := q
  rw [e1] at h
  simp only [Option.bind_some, aNil, Option.map_some, vals] at h
  cases e2 : sosF [d1] with
  | none => rw [e2] at h; cases h
  | some z =>
  rw [e2] at h
  cases h
  refine he.q Γ σ H ρ d1 ρ' _ s e1 fun v H1 a1 r1 => ?_
  have key : ∃ (l : Addr) (ns : List Int), v = .ref l ∧ (SqL X.K H1 l (ns.map V.int) ∨ SqT X.K H1 l (ns.map V.int)) ∧ ns.length ≤ 1000 ∧ (srt ns).length < 64 ∧ d = .lst ((srt ns).map D.int) := by
    cases d1 with
    | lst ds =>
      obtain ⟨l, vs, rfl, fa, la, ra⟩ := r1
      simp only [sosF, Option.bind_some] at e2
      cases e3 : ints? ds with
      | none => rw [e3] at e2; cases e2
      | some ns =>
        rw [e3] at e2
        obtain ⟨h1, h2⟩ := ints_vals ra e3
        subst h1
        simp only [Option.bind_some] at e2
        split at e2
        · rename_i l2; cases e2
          rw [Bool.and_eq_true] at l2
          exact ⟨l, ns, rfl, .inl fa.sq, of_decide_eq_true l2.1, of_decide_eq_true l2.2, rfl⟩
        · cases e2
    | tup ds =>
      obtain ⟨l, vs, rfl, fa, la, ra⟩ := r1
      simp only [sosF, Option.bind_some] at e2
      cases e3 : ints? ds with
      | none => rw [e3] at e2; cases e2
      | some ns =>
        rw [e3] at e2
        obtain ⟨h1, h2⟩ := ints_vals ra e3
        subst h1
        simp only [Option.bind_some] at e2
        split at e2
        · rename_i l2; cases e2
          rw [Bool.and_eq_true] at l2
          exact ⟨l, ns, rfl, .inr fa.sq, of_decide_eq_true l2.1, of_decide_eq_true l2.2, rfl⟩
        · cases e2
    | _ => simp [sosF] at e2
  obtain ⟨l, ns, rfl, hs, hn, h64, rfl⟩ := key
  refine ⟨l, ns, rfl, hs, hn, fun p c hp0 hc' => ?_⟩
  obtain ⟨ll, nd, mem, lc⟩ := hc'
  have c64 : c < 64 := by rw [← lc, srt_len nd mem]; exact h64
  refine ⟨p, _, c, rfl, upd_same, c64, fun ns' q hs' hm' hl' hq => ?_⟩
  have en : ns' = srt ns := sorted_ext hs' (srt_sorted ns) fun k => by rw [hm' k, mem_srt, decide_eq_true_eq]
  subst en
  have qp : q ≠ p := fun z => by rw [z, upd_same] at hq; cases hq
  have hq1 : H1 q = none := by rwa [upd_ne qp] at hq
  have ow3 : Ow X.G (upd (upd H1 p (SetO X.w p (fun j => decide (j ∈ ns)) c)) q (.lst ((srt ns).map V.int))) (q :: Γ.w σ ρ') (.lst ((srt ns).map D.int)) q :=
    ⟨_, upd_same, by rw [List.length_map]; exact Nat.le_trans (Nat.le_of_lt h64) (by decide), rp_ints _⟩
  exact fresh_end a1 hq1 ((fm_new hp0).trans (fm_new hq)) ow3 k
end
end DL
namespace DL
open PySem L2
variable [TabC]
section
variable {X : Cx} {a b c d : Expr} {pos : Pos} {m mb mc md : EM} {ta tb tc td : TE} {op op' op2 : CmpOp} {r r' r2 : R2} {f g h : D → D → Option D}
end
end DL
namespace DL
open PySem L2
variable [TabC]
section
variable {X : Cx}
end
end DL
namespace DL
open PySem L2
variable [TabC]
omit [TabC] in
def OVs (G : Gc) (H : Hp) (W : List Addr) : List Bool → List D → List V → List Addr → Prop
  | [], ds, vs, A => ds = [] ∧ vs = [] ∧ A = []
  | false :: fl, ds, vs, A => ∃ d ds' v vs', ds = d :: ds' ∧ vs = v :: vs' ∧ Rp G H W d v ∧ OVs G H W fl ds' vs' A
  | true :: fl, ds, vs, A => ∃ d ds' a vs' A', ds = d :: ds' ∧ vs = .ref a :: vs' ∧ A = a :: A' ∧ Ow G H W d a ∧ OVs G H W fl ds' vs' A'
theorem OVs.mo {G : Gc} {H H1 : Hp} {W W1 : List Addr} (m : Mo W W1 H H1) : ∀ {fl : List Bool} {ds : List D} {vs : List V} {A : List Addr}, (∀ a ∈ A, ∀ x, H a = some x → isTb x = false → H1 a = some x) → OVs G H W fl ds vs A → OVs G H1 W1 fl ds vs A
  | [], _, _, _, _, h => h
  | false :: fl, _, _, _, k, ⟨d, ds', v, vs', e1, e2, r, o⟩ => ⟨d, ds', v, vs', e1, e2, Rp.mo m _ _ r, OVs.mo m k o⟩
  | true :: fl, _, _, _, k, ⟨d, ds', a, vs', A', e1, e2, e3, r, o⟩ => ⟨d, ds', a, vs', A', e1, e2, e3, r.mo m (fun x e nt => k a (by rw [e3]; simp) x e nt), OVs.mo m (fun b hb => k b (by rw [e3]; exact List.mem_cons_of_mem _ hb)) o⟩
omit [TabC] in
theorem OVs.len {G : Gc} {H : Hp} {W : List Addr} : ∀ {fl : List Bool} {ds : List D} {vs : List V} {A : List Addr}, OVs G H W fl ds vs A → vs.length = fl.length
  | [], _, _, _, ⟨_, e, _⟩ => by rw [e]; rfl
  | false :: fl, _, _, _, ⟨d, ds', v, vs', e1, e2, r, o⟩ => by rw [e2, List.length_cons, List.length_cons, OVs.len o]
  | true :: fl, _, _, _, ⟨d, ds', a, vs', A', e1, e2, e3, r, o⟩ => by rw [e2, List.length_cons, List.length_cons, OVs.len o]
structure DAo (X : Cx) (es : List Expr) (fl : List Bool) (t : TA) (m : AM) : Prop where
  pe : PA X es t
  q : ∀ (Γ : Gam) (σ : L2.St) (H : Hp) (ρ : Env) (ds : List D) (ρ' : Env) (Q : List V → Hp → Prop), Sr Γ X.G H σ ρ → m ρ = some (ds.map .val, ρ') →
    (∀ vs H' A, Sr ⟨A ++ Γ.U, Γ.π⟩ X.G H' σ ρ' → Fm (Γ.mu σ ρ) H H' → (∀ a ∈ ownO σ ρ', a ∈ ownO σ ρ) → Tr H H' → (∀ a ∈ A, H a = none) → A.Nodup → OVs X.G H' (ownO σ ρ' ++ (A ++ Γ.U)) fl ds vs A → Q vs H') → t σ H Q
section
variable {X : Cx} {e : Expr} {es : List Expr} {fl : List Bool} {te : TE} {t : TA} {m : EM} {am : AM}
end
omit [TabC] in
def tgsN : List Nat → TGs
  | [] => L2.gNil
  | i :: is => L2.gCons (gName i) (tgsN is)
omit [TabC] in
structure DN (X : Cx) (ts : List Expr) (is : List Nat) : Prop where
  p : PGs X ts (tgsN is)
end DL
namespace DL
open PySem L2 PySem.Spec PyProof.Rows
variable [TabC]
end DL
namespace DL
open PySem L2 PySem.Spec PyProof.Rows PpSet
variable [TabC]
section
variable {X : Cx}
omit [TabC] in
/-- an iterator's places are free still -/
theorem places {fp : List Addr} {s3 : Shared} {H3 : Hp} {scope : Scope} {ce : PySem.Env} {σ' : L2.St} {H' : Hp} {s' : Shared} (I' : Inv (X.blk s3 H3 scope ce fp) [] σ' H' s') (hn : ∀ b ∈ fp, H' b = none) :
    ∀ b ∈ fp, FpOk (X.blk s3 H3 scope ce fp) [] H' b := fun b hb =>
  ⟨hn b hb, (I'.ok.exf b hb).1, I'.ok.exfs b hb, .inl hb, fun x c e => (I'.ok.exf b hb).2 x c e, fun p hp => by cases hp⟩
end
end DL
namespace DL
open PySem L2 PySem.Spec PyProof.Rows
variable [TabC]
omit [TabC] in
def scL : D → Option D
  | .lst ds => if ds.all scalD then some (.lst ds) else none
  | _ => none
omit [TabC] in
theorem scL_e {a b : D} (h : scL a = some b) : ∃ ds, a = .lst ds ∧ b = .lst ds ∧ ds.all scalD = true := by
  unfold scL at h
  split at h
  · split at h
    · rename_i ds q; cases h; exact ⟨ds, rfl, rfl, q⟩
    · cases h
  · cases h
section
variable {X : Cx} {e : Expr} {y : Str} {py spos : Pos} {te : TE} {m : EM}
end
end DL
namespace DL
open PySem L2
variable [TabC]
omit [TabC] in
def keyK : D → Option Key
  | .int i => some (.inl i)
  | .str s => some (.inr s)
  | _ => none
omit [TabC] in
def putD {κ : Type} [DecidableEq κ] (kvs : List (κ × D)) (k : κ) (v : D) : List (κ × D) := if (kvs.any fun kv => decide (kv.1 = k)) = true then kvs.map (fun kv => if kv.1 = k then (kv.1, v) else kv) else kvs ++ [(k, v)]
omit [TabC] in
abbrev inl (k : List Int) : List Key := k.map Sum.inl
omit [TabC] in
theorem inl_inj {k l : List Int} (h : inl k = inl l) : k = l := by
  induction k generalizing l with
  | nil => cases l with
    | nil => rfl
    | cons => cases h
  | cons a k ih => cases l with
    | nil => cases h
    | cons b l =>
      simp only [inl, List.map_cons, List.cons.injEq, Sum.inl.injEq] at h
      rw [h.1, ih h.2]
omit [TabC] in
theorem inl_iff {k l : List Int} : inl k = inl l ↔ k = l := ⟨inl_inj, fun h => by rw [h]⟩
section
variable {G : Gc} {H : Hp} {W : List Addr}
omit [TabC] in
theorem RpT.length : ∀ {kvs : List (List Int × D)} {vs : List (List Key × V)}, RpT G H W kvs vs → vs.length = kvs.length
  | [], _, h => by rw [show _ = [] from h]; rfl
  | (k, d) :: kvs, _, ⟨x, xs, e, r, q⟩ => by rw [e, List.length_cons, List.length_cons, RpT.length q]
omit [TabC] in
theorem RpK.length : ∀ {kvs : List (Key × D)} {vs : List (Key × V)}, RpK G H W kvs vs → vs.length = kvs.length
  | [], _, h => by rw [show _ = [] from h]; rfl
  | (k, d) :: kvs, _, ⟨x, xs, e, r, q⟩ => by rw [e, List.length_cons, List.length_cons, RpK.length q]
omit [TabC] in
theorem RpT.app : ∀ {kvs kvs' : List (List Int × D)} {vs vs' : List (List Key × V)}, RpT G H W kvs vs → RpT G H W kvs' vs' → RpT G H W (kvs ++ kvs') (vs ++ vs')
  | [], _, _, _, h, q => by rw [show _ = [] from h]; exact q
  | (k, d) :: kvs, _, _, _, ⟨x, xs, e, r, q⟩, q' => ⟨x, xs ++ _, by rw [e]; rfl, r, RpT.app q q'⟩
omit [TabC] in
theorem RpK.app : ∀ {kvs kvs' : List (Key × D)} {vs vs' : List (Key × V)}, RpK G H W kvs vs → RpK G H W kvs' vs' → RpK G H W (kvs ++ kvs') (vs ++ vs')
  | [], _, _, _, h, q => by rw [show _ = [] from h]; exact q
  | (k, d) :: kvs, _, _, _, ⟨x, xs, e, r, q⟩, q' => ⟨x, xs ++ _, by rw [e]; rfl, r, RpK.app q q'⟩
omit [TabC] in
theorem RpT.any (k : List Int) : ∀ {kvs : List (List Int × D)} {vs : List (List Key × V)}, RpT G H W kvs vs → (vs.any fun kv => decide (kv.1 = inl k)) = kvs.any fun kv => decide (kv.1 = k)
  | [], _, h => by rw [show _ = [] from h]; rfl
  | (l, d) :: kvs, _, ⟨x, xs, e, r, q⟩ => by
    subst e
    rw [List.any_cons, List.any_cons, RpT.any k q]
    congr 1
    exact decide_eq_decide.mpr inl_iff
omit [TabC] in
theorem RpK.any (k : Key) : ∀ {kvs : List (Key × D)} {vs : List (Key × V)}, RpK G H W kvs vs → (vs.any fun kv => decide (kv.1 = k)) = kvs.any fun kv => decide (kv.1 = k)
  | [], _, h => by rw [show _ = [] from h]; rfl
  | (l, d) :: kvs, _, ⟨x, xs, e, r, q⟩ => by
    subst e
    rw [List.any_cons, List.any_cons, RpK.any k q]
omit [TabC] in
theorem RpT.map (k : List Int) {y : D} {v : V} (ry : Rp G H W y v) : ∀ {kvs : List (List Int × D)} {vs : List (List Key × V)}, RpT G H W kvs vs → RpT G H W (kvs.map fun kv => if kv.1 = k then (kv.1, y) else kv) (vs.map fun kv => if kv.1 = inl k then (kv.1, v) else kv)
  | [], _, h => by rw [show _ = [] from h]; exact rfl
  | (l, d) :: kvs, _, ⟨x, xs, e, r, q⟩ => by
    subst e
    by_cases z : l = k
    · have z2 : inl l = inl k := by rw [z]
      rw [List.map_cons, List.map_cons, if_pos z, if_pos z2]
      exact ⟨v, _, rfl, ry, RpT.map k ry q⟩
    · have z2 : ¬ inl l = inl k := fun y => z (inl_inj y)
      rw [List.map_cons, List.map_cons, if_neg z, if_neg z2]
      exact ⟨x, _, rfl, r, RpT.map k ry q⟩
omit [TabC] in
theorem RpK.map (k : Key) {y : D} {v : V} (ry : Rp G H W y v) : ∀ {kvs : List (Key × D)} {vs : List (Key × V)}, RpK G H W kvs vs → RpK G H W (kvs.map fun kv => if kv.1 = k then (kv.1, y) else kv) (vs.map fun kv => if kv.1 = k then (kv.1, v) else kv)
  | [], _, h => by rw [show _ = [] from h]; exact rfl
  | (l, d) :: kvs, _, ⟨x, xs, e, r, q⟩ => by
    subst e
    by_cases z : l = k
    · rw [List.map_cons, List.map_cons, if_pos z, if_pos z]
      exact ⟨v, _, rfl, ry, RpK.map k ry q⟩
    · rw [List.map_cons, List.map_cons, if_neg z, if_neg z]
      exact ⟨x, _, rfl, r, RpK.map k ry q⟩
omit [TabC] in
theorem RpT.put {kvs : List (List Int × D)} {vs : List (List Key × V)} (q : RpT G H W kvs vs) (k : List Int) {y : D} {v : V} (ry : Rp G H W y v) : RpT G H W (putD kvs k y) (putK vs (inl k) v) := by
  unfold putD putK
  rw [q.any]
  split
  · exact q.map k ry
  · exact q.app ⟨v, [], rfl, ry, rfl⟩
omit [TabC] in
theorem RpK.put {kvs : List (Key × D)} {vs : List (Key × V)} (q : RpK G H W kvs vs) (k : Key) {y : D} {v : V} (ry : Rp G H W y v) : RpK G H W (putD kvs k y) (putK vs k v) := by
  unfold putD putK
  rw [q.any]
  split
  · exact q.map k ry
  · exact q.app ⟨v, [], rfl, ry, rfl⟩
end
section
variable {X : Cx} {a b e oi : Expr} {te te1 te2 ti : TE} {ma mb m mi : EM} {pos : Pos}
end
end DL
namespace DL
open PySem L2 PySem.Spec PyProof.Rows
variable [TabC]
section
variable {X : Cx} {a b e oi k v : Expr} {te te1 te2 ti tk tv : TE} {ma mb m mi mk mv : EM} {pos tpos p : Pos}
end
end DL
namespace DL
open PySem L2
variable [TabC]
omit [TabC] in
def tupD (k : List Int) : D := .tup (k.map .int)
section
variable {X : Cx} {G : Gc} {H : Hp} {W : List Addr}
end
end DL
namespace DL
open PySem L2
end DL
namespace DL
open PySem L2
variable [TabC]
omit [TabC] in
def NRel (G : Gc) (H : Hp) (W : List Addr) : List (D × Bool) → List V → List Addr → Prop
  | [], vs, A => vs = [] ∧ A = []
  | (d, false) :: ps, vs, A => ∃ v ws, vs = v :: ws ∧ Rp G H W d v ∧ NRel G H W ps ws A
  | (d, true) :: ps, vs, A => ∃ a ws B, vs = .ref a :: ws ∧ A = a :: B ∧ Ow G H W d a ∧ NRel G H W ps ws B
omit [TabC] in
abbrev NM := Env → Option (List (D × Bool) × Env)
section
variable {G : Gc} {H H' H1 H2 : Hp} {W W' : List Addr} {Γ : Gam} {σ σ' : L2.St} {ρ ρ' : Env}
theorem NRel.mo (m : Mo W W' H H') : ∀ {ps : List (D × Bool)} {vs : List V} {A : List Addr}, (∀ a ∈ A, ∀ x, H a = some x → isTb x = false → H' a = some x) → NRel G H W ps vs A → NRel G H' W' ps vs A
  | [], vs, A, _, h => h
  | (d, false) :: ps, _, A, k, ⟨v, ws, e, r, q⟩ => ⟨v, ws, e, Rp.mo m _ _ r, NRel.mo m k q⟩
  | (d, true) :: ps, _, _, k, ⟨a, ws, B, e, eA, ow, q⟩ => by
    subst eA
    exact ⟨a, ws, B, e, rfl, ow.mo m (fun x e nt => k a (List.mem_cons_self ..) x e nt), NRel.mo m (fun b hb => k b (List.mem_cons_of_mem _ hb)) q⟩
theorem NRel.vals (s : ∀ b ∈ W', b ∈ W) : ∀ {ps : List (D × Bool)} {vs : List V} {A : List Addr}, (∀ a ∈ A, a ∉ W') → NRel G H W ps vs A → RpAll G H W' (ps.map (·.1)) vs
  | [], vs, A, _, h => h.1
  | (d, false) :: ps, _, A, k, ⟨v, ws, e, r, q⟩ => ⟨v, ws, e, Rp.mo ⟨Fm.refl _ _, fun b z => .inl (s b z)⟩ _ _ r, NRel.vals s k q⟩
  | (d, true) :: ps, _, _, k, ⟨a, ws, B, e, eA, ow, q⟩ => by
    subst eA
    exact ⟨_, ws, e, ow.rp (k a (List.mem_cons_self ..)) s, NRel.vals s (fun b hb => k b (List.mem_cons_of_mem _ hb)) q⟩
omit [TabC] in
theorem NRel.at : ∀ {ps : List (D × Bool)} {vs : List V} {A : List Addr} {i : Nat} {d : D}, NRel G H W ps vs A → ps[i]? = some (d, true) → ∃ a, vs[i]? = some (.ref a) ∧ a ∈ A ∧ Ow G H W d a
  | [], _, _, _, _, _, e => by simp at e
  | (d0, false) :: ps, _, A, 0, d, _, e => by simp at e
  | (d0, false) :: ps, _, A, i + 1, d, ⟨v, ws, ev, r, q⟩, e => by
    subst ev
    obtain ⟨a, h1, h2, h3⟩ := NRel.at (i := i) q (by simpa using e)
    exact ⟨a, by simpa using h1, h2, h3⟩
  | (d0, true) :: ps, _, _, 0, d, ⟨a, ws, B, ev, eA, ow, q⟩, e => by
    subst ev; subst eA
    simp at e
    subst e
    exact ⟨a, rfl, List.mem_cons_self .., ow⟩
  | (d0, true) :: ps, _, _, i + 1, d, ⟨a0, ws, B, ev, eA, ow, q⟩, e => by
    subst ev; subst eA
    obtain ⟨a, h1, h2, h3⟩ := NRel.at (i := i) q (by simpa using e)
    exact ⟨a, by simpa using h1, List.mem_cons_of_mem _ h2, h3⟩
theorem NRel.set (m : Mo W W' H H') {a : Addr} {d' : D} (f : ∀ b, b ≠ a → ∀ x, H b = some x → isTb x = false → H' b = some x) (ow' : Ow G H' W' d' a) : ∀ {ps : List (D × Bool)} {vs : List V} {A : List Addr} {i : Nat} {d : D}, A.Nodup → NRel G H W ps vs A → ps[i]? = some (d, true) → vs[i]? = some (.ref a) → NRel G H' W' (ps.set i (d', true)) vs A
  | [], _, _, _, _, _, _, e, _ => by simp at e
  | (d0, false) :: ps, _, A, 0, d, _, _, e, _ => by simp at e
  | (d0, false) :: ps, _, A, i + 1, d, nd, ⟨v, ws, ev, r, q⟩, e, e2 => by
    subst ev
    exact ⟨v, ws, rfl, Rp.mo m _ _ r, NRel.set m f ow' (i := i) nd q (by simpa using e) (by simpa using e2)⟩
  | (d0, true) :: ps, _, _, 0, d, nd, ⟨b, ws, B, ev, eA, ow, q⟩, e, e2 => by
    subst ev; subst eA
    simp at e2
    subst e2
    refine ⟨b, ws, B, rfl, rfl, ow', NRel.mo m (fun c hc => f c fun z => ?_) q⟩
    exact (List.nodup_cons.mp nd).1 (z ▸ hc)
  | (d0, true) :: ps, _, _, i + 1, d, nd, ⟨b, ws, B, ev, eA, ow, q⟩, e, e2 => by
    subst ev; subst eA
    have e2 : ws[i]? = some (.ref a) := by simpa using e2
    have e : ps[i]? = some (d, true) := by simpa using e
    obtain ⟨a2, h1, h2, _⟩ := NRel.at q e
    rw [e2] at h1
    cases h1
    refine ⟨b, ws, B, rfl, rfl, ow.mo m (fun x e nt => f b (fun z => ?_) x e nt), NRel.set m f ow' (i := i) (List.nodup_cons.mp nd).2 q e e2⟩
    exact (List.nodup_cons.mp nd).1 (z ▸ h2)
end
structure DNs (X : Cx) (es : List Expr) (t : TA) (m : NM) : Prop where
  pe : PA X es t
  q : ∀ (Γ : Gam) (σ : L2.St) (H : Hp) (ρ : Env) (ps : List (D × Bool)) (ρ' : Env) (Q : List V → Hp → Prop), Sr Γ X.G H σ ρ → m ρ = some (ps, ρ') →
    (∀ vs A H', A.Nodup → (∀ a ∈ A, H a = none) → Sr ⟨A ++ Γ.U, Γ.π⟩ X.G H' σ ρ' → NRel X.G H' (ownO σ ρ' ++ (A ++ Γ.U)) ps vs A → Fm (Γ.mu σ ρ) H H' → (∀ b ∈ ownO σ ρ', b ∈ ownO σ ρ) → Tr H H' → Q vs H') → t σ H Q
omit [TabC] in
def nNil : NM := fun ρ => some ([], ρ)
omit [TabC] in
def nCons (f : Bool) (m : EM) (r : NM) : NM := fun ρ => (m ρ).bind fun p => (r p.2).map fun q => ((p.1, f) :: q.1, q.2)
section
variable {X : Cx} {e : Expr} {es : List Expr} {te : TE} {at1 : TA} {m : EM} {nm : NM}
end
structure NO (X : Cx) (x : Nat) (sts : List Stmt) (t : TS) (m : List (D × Bool) → SM) : Prop where
  pe : PSs X sts t
  q : ∀ (Γ : Gam) (σ : L2.St) (H : Hp) (ρ : Env) (ps : List (D × Bool)) (o : Out) (vs : List V) (A : List Addr) (p : Addr) (E : Ends),
    Sr ⟨p :: (A ++ Γ.U), Γ.π⟩ X.G H σ ρ → (∀ q ∈ Γ.π, q.2 ∈ Γ.U) → σ[x]? = some (some (.ref p)) → H p = some (.lst vs) → (p :: A).Nodup → (∀ a ∈ p :: A, a ∉ Γ.π.map (·.2)) → NRel X.G H (ownO σ ρ ++ (p :: (A ++ Γ.U))) ps vs A → m ps ρ = some o →
    (∀ ρ' H', Sr Γ X.G H' σ ρ' → Fm (Γ.mu σ ρ ++ A) H H' → (∀ b ∈ ownO σ ρ', b ∈ ownO σ ρ) → Tr H H' → Fin Γ X.G σ ρ' H' E o) → t E σ H
omit [TabC] in
def noEnd (mr : SM) : List (D × Bool) → SM := fun _ => mr
section
variable {X : Cx} {e oi : Expr} {es : List Expr} {sts : List Stmt} {p pi apos cpos pos : Pos} {am : AM} {at1 : TA} {nx name : Str} {id : String} {r : V → List V → Hp → VK → Prop} {f : D → List D → Option (D × D)} {tr : TS} {mr : List (D × Bool) → SM} {m0 : SM}
end
section
variable {X : Cx} {c : Expr} {es : List Expr} {body rest sts : List Stmt} {px lpos pos ipos : Pos} {nm : NM} {at1 : TA} {tc : TT} {mc : TM} {tb t2 trs : TS} {mb : SM} {mo : List (D × Bool) → SM} {nx : Str}
end
end DL
namespace DL
open PySem L2
variable [TabC]
end DL
namespace DL
open PySem L2
variable [TabC]
omit [TabC] in
/-- a pair of key and value -/
def kvE (ek ev : EM) : EM := fun ρ => (ek ρ).bind fun p => (ev p.2).bind fun q => (keyK p.1).map fun _ => (.tup [p.1, q.1], q.2)
section
variable {J : It} {n : Nat} {G : Hp → Prop} {Y : Nat → Hp → V → Hp → Prop}
end
section
variable {X : Cx} {kx vx tg iter : Expr} {ifs : List Expr} {scope : Scope} {own : List (Str × Nat)} {pos : Pos} {wi : TI} {g : TG} {tt : TT} {tk te : TE} {is : List Nat} {it : IM} {gm : GM} {tm : TM} {ek el : EM}
end
end DL
namespace DL
open PySem L2
variable [TabC]
omit [TabC] in
def isDct : D → Bool
  | .dT _ => true
  | .dK _ => true
  | _ => false
section
variable {X : Cx} {e oi o yi : Expr} {ti tY to : TE} {mi my mo : EM} {apos cpos p : Pos} {nx : Str}
end
section
variable {X : Cx} {oi : Expr} {ti : TE} {mi : EM} {p pos : Pos} {nx : Str}
end
section
variable {X : Cx}
end
end DL
namespace DL
open PySem PySem.Spec PyProof.Rows L2
variable [TabC]
omit [TabC] in
def keysT (kvs : List (List Int × D)) : List D := kvs.map fun kv => tupD kv.1
omit [TabC] in
def iKeysD (m : EM) : IM := fun ρ => (m ρ).bind fun p => match p.1 with
  | .dT kvs => if kvs.length ≤ 1000000 ∧ (kvs.all fun kv => decide (kv.1.length ≤ 1000000)) = true then some (keysT kvs, p.2) else none
  | _ => none
section
variable {X : Cx} {tg e : Expr} {te : TE} {m : EM} {G : Gc} {H : Hp} {W : List Addr}
end
end DL
namespace DL
open PySem PySem.W PyProof.Rows L2
variable [TabC]
end DL
namespace DL
open PySem PySem.Spec PyProof.Rows L2
variable [TabC]
section
variable {prog : Program} {w : World} {A : Around} {E : Value → Shared → Prop} {s : Shared} {l : Addr} {its : List Value} {ns : List Int} {Q : Value → Shared → Prop}
end
end DL
namespace DL
open PySem L2
variable [TabC]
omit [TabC] in
def gTS (r : List D → Env → Option Env) : GM := fun d ρ => match d with
  | .tup ds => r ds ρ
  | .lst ds => r ds ρ
  | _ => none
section
variable {X : Cx} {pos : Pos} {es : List Expr} {is : List Nat} {gs : List D → Env → Option Env} {tgs : TGs}
end
end DL
namespace DL
open PySem PySem.W PyProof.Rows L2
variable [TabC]
end DL
namespace DL
open PySem L2
variable [TabC]
omit [TabC] in
def putFD (f : Str) (d : D) : List (Str × D) → List (Str × D)
  | [] => [(f, d)]
  | (g, x) :: r => if g = f then (g, d) :: r else (g, x) :: putFD f d r
omit [TabC] in
structure AtF (K : PySem.W.Frag) (mg : Str → Option Value) (C f : Str) : Prop where
  ex : ∃ Ca : Addr, mg C = some (.ref Ca) ∧ Cls K Ca ∧ NoAttr K Ca f
omit [TabC] in
def caOf (mg : Str → Option Value) (C : Str) : Addr := match mg C with
  | some (.ref a) => a
  | _ => 0
structure FnM (P : Program) (w : World) (K : PySem.W.Frag) (mg : Str → Option Value) (base : Heap) (C m : Str) (k : Nat) (ps : List Str) (fn : FnSem) : Prop where
  ex : ∃ (f : Addr) (fd : FuncData), mg C = some (.ref (caOf mg C)) ∧ Cls K (caOf mg C) ∧ Meth K (caOf mg C) m f ∧ Binds K fd ps [] ∧ FnOk P w K mg base CX0 k f fd ps (spF ⟨K, mg⟩ fn)
structure FnI (P : Program) (w : World) (K : PySem.W.Frag) (mg : Str → Option Value) (base : Heap) (C : Str) (k : Nat) (ps : List Str) (fn : FnSem) : Prop where
  ex : ∃ (f : Addr) (fd : FuncData), mg C = some (.ref (caOf mg C)) ∧ Mk K (caOf mg C) f ∧ Binds K fd ps [] ∧ FnOk P w K mg base CX0 k f fd ps (spF ⟨K, mg⟩ fn)
section
variable {G : Gc} {H : Hp} {W : List Addr}
omit [TabC] in
theorem RpF.len : ∀ {fs : List (Str × D)} {vs : List (Str × V)}, RpF G H W fs vs → vs.length = fs.length
  | [], _, h => by rw [show _ = [] from h]; rfl
  | (k, d) :: fs, _, ⟨x, xs, e, _, q⟩ => by rw [e, List.length_cons, List.length_cons, RpF.len q]
omit [TabC] in
theorem RpF.get {f : Str} {d : D} : ∀ {fs : List (Str × D)} {vs : List (Str × V)}, RpF G H W fs vs → fs.lookup f = some d → ∃ v, vs.lookup f = some v ∧ Rp G H W d v
  | [], _, _, l => by cases l
  | (k, x) :: fs, _, ⟨y, ys, e, r, q⟩, l => by
    subst e
    rw [List.lookup_cons] at l ⊢
    cases c : f == k with
    | true => rw [c] at l; cases l; exact ⟨y, rfl, r⟩
    | false => rw [c] at l; exact RpF.get q l
omit [TabC] in
theorem RpF.none {f : Str} : ∀ {fs : List (Str × D)} {vs : List (Str × V)}, RpF G H W fs vs → fs.lookup f = none → vs.lookup f = none
  | [], _, h, _ => by rw [show _ = [] from h]; rfl
  | (k, x) :: fs, _, ⟨y, ys, e, r, q⟩, l => by
    subst e
    rw [List.lookup_cons] at l ⊢
    cases c : f == k with
    | true => rw [c] at l; cases l
    | false => rw [c] at l; exact RpF.none q l
omit [TabC] in
theorem RpF.put {f : Str} {d : D} {v : V} (r : Rp G H W d v) : ∀ {fs : List (Str × D)} {vs : List (Str × V)}, RpF G H W fs vs → RpF G H W (putFD f d fs) (putF f v vs)
  | [], _, h => by rw [show _ = [] from h]; exact ⟨v, [], rfl, r, rfl⟩
  | (k, x) :: fs, _, ⟨y, ys, e, ry, q⟩ => by
    subst e
    unfold putFD putF
    by_cases c : k = f
    · rw [if_pos c, if_pos c]; exact ⟨v, ys, rfl, r, q⟩
    · rw [if_neg c, if_neg c]; exact ⟨y, _, rfl, ry, RpF.put r q⟩
end
section
variable {X : Cx} {e o : Expr} {es : List Expr} {pos apos p tpos : Pos} {m mo : EM} {te to : TE} {am : AM} {at1 : TA} {C f mt : Str} {k : Nat} {ps : List Str} {fn : FnSem}
structure DGH (X : Cx) (tg : Expr) (t : TG) (g : GM) : Prop where
  pe : PG X tg t
  q : ∀ (Γ : Gam) (σ : L2.St) (H : Hp) (ρ : Env) (d : D) (v : V) (ρ' : Env) (Q : L2.St → Hp → Prop), Sr Γ X.G H σ ρ → Rp X.G H (Γ.w σ ρ) d v → g d ρ = some ρ' →
    (∀ H', Po Γ X.G σ ρ H ρ' H' → Q σ H') → t v σ H Q
structure DGHs (X : Cx) (ts : List Expr) (t : TGs) (g : List D → Env → Option Env) : Prop where
  pe : PGs X ts t
  q : ∀ (Γ : Gam) (σ : L2.St) (H : Hp) (ρ : Env) (ds : List D) (vs : List V) (ρ' : Env) (Q : L2.St → Hp → Prop), Sr Γ X.G H σ ρ → RpAll X.G H (Γ.w σ ρ) ds vs → g ds ρ = some ρ' →
    (∀ H', Po Γ X.G σ ρ H ρ' H' → Q σ H') → t vs σ H Q
variable {tg : Expr} {tgs : List Expr} {t1 : TG} {ts : TGs} {g1 : GM} {gs : List D → Env → Option Env}
omit [TabC] in
def eMake (C : Str) (fn : FnSem) (a : AM) : EM := fun ρ => (a ρ).bind fun p => (vals p.1).bind fun ds => (fn (.p (.obj C []) :: ds.map .v)).bind fun q => match q with
  | (.non, .p d :: _) => some (d, p.2)
  | _ => none
end
end DL
namespace DL
open PySem PySem.W PySem.Calls PyProof.Rows
section
variable {prog : Program} {w : World} {A : Around} {E : Value → Shared → Prop} {s : Shared} {a kS : Addr} {b : Bool} {vs : List Value} {keys : Array Value} {e e1 : Nat} {P : PySem.Fin → Shared → Prop} {kz : List PyData} {f : Value} {J : List Value → Shared → Prop}
end
end DL
namespace DL
open PySem L2
variable [TabC]
omit [TabC] in
mutual
def pyD : D → Option PyData
  | .non => some .none
  | .bl b => some (.bool b)
  | .int i => some (.int i)
  | .str s => some (.str s)
  | .lst ds => (pyDs ds).map .list
  | .tup ds => (pyDs ds).map .tuple
  | _ => none
def pyDs : List D → Option (List PyData)
  | [] => some []
  | d :: ds => (pyD d).bind fun p => (pyDs ds).map fun q => p :: q
end
section
variable {P : Program} {w : World} {G : Gc} {H : Hp} {h : Heap} {W : List Addr}
omit [TabC] in
mutual
theorem reads_of (ok : HOk P w H h) : ∀ (d : D) (v : V) (u : Value) (p : PyData), Rp G H W d v → RelV v u → pyD d = some p → ∃ as, Reads h u p as
  | .non, v, u, p, r, e, hp => by
    simp only [Rp] at r; subst r
    simp only [pyD, Option.some.injEq] at hp; subst hp
    obtain rfl : u = Value.none := e
    exact ⟨_, .none⟩
  | .bl b, v, u, p, r, e, hp => by
    simp only [Rp] at r; subst r
    simp only [pyD, Option.some.injEq] at hp; subst hp
    obtain rfl : u = Value.bool b := e
    exact ⟨_, .bool b⟩
  | .int i, v, u, p, r, e, hp => by
    simp only [Rp] at r; subst r
    simp only [pyD, Option.some.injEq] at hp; subst hp
    obtain ⟨t, rfl⟩ : ∃ t, u = Value.int i t := e
    exact ⟨_, .int i t⟩
  | .str s, v, u, p, r, e, hp => by
    simp only [Rp] at r; subst r
    simp only [pyD, Option.some.injEq] at hp; subst hp
    obtain ⟨t, rfl⟩ : ∃ t, u = Value.str s t := e
    exact ⟨_, .str s t⟩
  | .lst ds, v, u, p, r, e, hp => by
    simp only [Rp] at r
    obtain ⟨a, vs, rfl, f, l, rs⟩ := r
    obtain rfl : u = Value.ref a := e
    simp only [pyD, Option.map_eq_some_iff] at hp
    obtain ⟨q, hq, rfl⟩ := hp
    obtain ⟨_, its, n, rv, hg⟩ := f.2.ok ok
    obtain ⟨as, R⟩ := reads_all ok ds vs its q rs rv hq
    exact ⟨_, .list hg rfl rfl (by simpa using R)⟩
  | .tup ds, v, u, p, r, e, hp => by
    simp only [Rp] at r
    obtain ⟨a, vs, rfl, f, l, rs⟩ := r
    obtain rfl : u = Value.ref a := e
    simp only [pyD, Option.map_eq_some_iff] at hp
    obtain ⟨q, hq, rfl⟩ := hp
    obtain ⟨_, its, rv, o, hg, hc, n, hd⟩ := ok _ _ f
    obtain ⟨as, R⟩ := reads_all ok ds vs its q rs rv hq
    exact ⟨_, .tuple hg hc hd (by simpa using R)⟩
  | .dT _, v, u, p, r, e, hp => by simp [pyD] at hp
  | .dK _, v, u, p, r, e, hp => by simp [pyD] at hp
  | .obj _ _, v, u, p, r, e, hp => by simp [pyD] at hp
  | .scr _, v, u, p, r, e, hp => by simp [pyD] at hp
theorem reads_all (ok : HOk P w H h) : ∀ (ds : List D) (vs : List V) (us : List Value) (ps : List PyData), RpAll G H W ds vs → Vals vs us → pyDs ds = some ps → ∃ as, ReadsAll h us ps as
  | [], vs, us, ps, r, e, hp => by
    simp only [RpAll] at r; subst r
    simp only [pyDs, Option.some.injEq] at hp; subst hp
    cases e
    exact ⟨_, .nil⟩
  | d :: ds, vs, us, ps, r, e, hp => by
    simp only [RpAll] at r
    obtain ⟨x, xs, rfl, r1, r2⟩ := r
    simp only [pyDs, Option.bind_eq_some_iff, Option.map_eq_some_iff] at hp
    obtain ⟨p, hp, q, hq, rfl⟩ := hp
    cases e with
    | cons e1 e2 =>
      obtain ⟨as, R1⟩ := reads_of ok d x _ p r1 e1 hp
      obtain ⟨bs, R2⟩ := reads_all ok ds xs _ q r2 e2 hq
      exact ⟨_, .cons R1 R2⟩
end
end
section
variable {X : Cx} {k : Nat}
end
end DL
namespace DL
open PySem PySem.Spec PySem.W PySem.Calls PyProof.Rows L2
variable [TabC]
section
variable {X : Cx} {pins : List (Addr × Obj)} {σ : L2.St} {H : Hp} {s : Shared}
omit [TabC] in
/-- the heap behind a lambda's making: as it was, or with one code object more, told in the table at P -/
structure LamH (H : Hp) (P cc : Addr) (q : Str) (H1 : Hp) : Prop where
  tab : LamX.TabS H1 P q
  cod : H1 cc = some (LamX.CodeO cc q)
  how : H1 = H ∨ ∃ ps ps', H P = some (.tbl ps) ∧ H cc = none ∧ H1 = upd (upd H P (.tbl ps')) cc (LamX.CodeO cc q)
omit [TabC] in
/-- what a def that makes lambdas asks of the tables -/
structure TabX (K : PySem.W.Frag) (mg : Str → Option Value) (base : Heap) (x : Str) : Prop where
  tb : LamX.TabB base mg (He.cT K (x, none)).1 (He.cT K (x, none)).2
  mem : ((He.cT K (x, none)).2, x ++ ".<locals>." ++ "<lambda>") ∈ TabC.T
  uq : ∀ p ∈ TabC.T, p.1 = (He.cT K (x, none)).2 → p.2 = x ++ ".<locals>." ++ "<lambda>"
theorem LamH.fm {P cc : Addr} {q : Str} {H1 : Hp} (l : LamH H P cc q H1) (uq : ∀ p ∈ TabC.T, p.1 = P → p.2 = q) : Fm [] H H1 := by
  rcases l.how with e | ⟨ps, ps', hP, n0, e⟩
  · rw [e]; exact Fm.refl _ _
  · have nP : P ≠ cc := ne_of_none hP n0
    have old : ∀ b x, b ≠ P → H b = some x → H1 b = some x := fun b x nb eb => by
      rw [e, upd_ne (ne_of_none eb n0), upd_ne nb]; exact eb
    refine ⟨fun b x _ nt eb => old b x (fun z => by rw [z, hP] at eb; cases eb; cases nt) eb, fun T p hp => ?_, fun b qs eb => ?_⟩
    · by_cases z : p.1 = P
      · rw [uq p hp z, z]; exact l.tab
      · obtain ⟨qs, h1, h2, h3⟩ := T p hp
        refine ⟨qs, old _ _ z h1, h2, fun pos cv hcv => ?_⟩
        obtain ⟨c0, e1, e2⟩ := h3 pos cv hcv
        refine ⟨c0, e1, old _ _ (fun z => ?_) e2⟩
        rw [z, hP] at e2
        exact LamX.codeO_ne ps (Option.some.inj e2).symm
    · by_cases z : b = P
      · rw [z, e, upd_ne nP, upd_same]; exact ⟨_, rfl⟩
      · exact ⟨qs, old _ _ z eb⟩
end
end DL
namespace DL
open PySem PySem.Spec PySem.W PySem.Calls PyProof.Rows L2
variable [TabC]
section
variable {X : Cx} {pins : List (Addr × Obj)} {σ : L2.St} {H : Hp} {s : Shared}
end
end DL
namespace DL
open PySem PySem.Spec PySem.W PySem.Calls PyProof.Rows L2
variable [TabC]
omit [TabC] in
/-- keys that were told -/
def KAt (G : Gc) (W : List Addr) (H : Hp) (v : V) (k : PyData) : Prop := ∃ z, Rp G H W z v ∧ pyD z = some k
omit [TabC] in
def KAll (G : Gc) (W : List Addr) (H : Hp) : List V → List PyData → Prop
  | [], ks => ks = []
  | v :: vs, ks => ∃ k r, ks = k :: r ∧ KAt G W H v k ∧ KAll G W H vs r
theorem KAll.fm {G : Gc} {W : List Addr} {H H' : Hp} (f : Fm [] H H') : ∀ {vs : List V} {ks : List PyData}, KAll G W H vs ks → KAll G W H' vs ks
  | [], _, h => h
  | v :: vs, _, ⟨k, r, e, ⟨z, h1, h2⟩, h⟩ => ⟨k, r, e, ⟨z, Rp.mo ⟨f.mono fun _ z => absurd z (by simp), fun _ z => .inl z⟩ _ _ h1, h2⟩, KAll.fm f h⟩
omit [TabC] in
theorem KAll.reads {P : Program} {w : World} {G : Gc} {W : List Addr} {H : Hp} {h : Heap} (ok : HOk P w H h) : ∀ {vs : List V} {us : List Value} {ks : List PyData}, Vals vs us → KAll G W H vs ks → EachIs (fun v k => ∃ as, Reads h v k as) us ks
  | _, _, _, .nil, t => by rw [show _ = [] from t]; exact .nil
  | _, _, _, .cons a b, ⟨k, r, e, ⟨z, h1, h2⟩, t⟩ => by
    rw [e]
    exact .cons (reads_of ok z _ _ k h1 a h2) (KAll.reads ok b t)
section
variable {X : Cx} {e : Expr} {te : TE} {m : EM} {params : Arguments} {body : Expr} {scope : Scope} {lpos kpos p pos : Pos} {N fr : List Str} {px x : Str} {js : List Nat} {tb : TE} {kb : EM}
end
end DL
namespace DL
open PySem PySem.Spec PySem.W PyProof.Rows L2
variable [TabC]
section
variable {P : Program} {w : World} {K : PySem.W.Frag} {mg : Str → Option Value} {base : Heap} {x qual : Str} {params : Arguments} {body : List Stmt} {scope : Scope} {kws : List (Str × V)} {fd : FuncData}
end
section
variable {X : Cx} {e : Expr} {te : TE} {m : EM} {params : Arguments} {body : Expr} {scope : Scope} {lpos kpos p pos : Pos} {N fr : List Str} {px x : Str} {tb : TE} {kb : EM}
end
end DL
namespace DL
open PySem PySem.Spec PySem.W PyProof.Rows L2
@[reducible] def tcOf (K : PySem.W.Frag) (L : List Str) : TabC := ⟨L.map fun x => ((He.cT K (x, none)).2, x ++ ".<locals>." ++ "<lambda>")⟩
end DL
namespace DL
open PySem PySem.Spec PyProof.Rows L2
variable [TabC]
omit [TabC] in
/-- no repr is under way -/
abbrev Still (A : Around) : Prop := A.guards = some []
omit [TabC] in
/-- a def's promise, where no repr is under way -/
structure FnG (P : Program) (w : World) (K : PySem.W.Frag) (mg : Str → Option Value) (base : Heap) (k : Nat) (f : Addr) (fd : FuncData) (ps : List Str) (sp : Sp) : Prop where
  len : ∀ vs H Q E, sp vs H Q E → vs.length = ps.length
  run : ∀ (A : Around) (outer : List PySem.Env) (s : Shared) (H : Hp) (args : Args) (us : List Value) (vs : List V) (Q : VK) (E : XK), Still A → Room k A → Env0 P w K mg base A outer s H → BindsTo s fd args (ps.zip us) → Vals vs us → sp vs H Q E →
    codeAny (model P w) A (.call (.ref f) args) (CR CX0 outer P w H s Q E) s
omit [TabC] in
theorem FnG.mono {P : Program} {w : World} {K : PySem.W.Frag} {mg : Str → Option Value} {base : Heap} {j k : Nat} {f : Addr} {fd : FuncData} {ps : List Str} {sp : Sp} (F : FnG P w K mg base j f fd ps sp) (h : j ≤ k) : FnG P w K mg base k f fd ps sp :=
  ⟨F.len, fun A outer s H args us vs Q E hg hr => F.run A outer s H args us vs Q E hg (hr.mono h)⟩
section
variable {P : Program} {w : World} {K : PySem.W.Frag} {mg : Str → Option Value} {base : Heap} {x qual : Str} {params : Arguments} {body : List Stmt} {scope : Scope} {kws : List (Str × V)} {f : Addr} {fd : FuncData}
omit [TabC] in
/-- how a parameter may be held -/
theorem par_kind {N ps : List Str} {n : Nat} {us : List Value} (S : FnScope N ps scope) : ∀ y ∈ ps.zip us, scope.names.lookup y.1 = some .local ∨ (scope.names.lookup y.1 = some .cell ∧ ((cellsFrom n scope.names []).lookup y.1).isSome = true) := by
  rintro ⟨m, v⟩ hy
  refine (S.par m (List.of_mem_zip hy).1).imp id fun q => ⟨q, ?_⟩
  exact PySem.W.cellsFrom_some _ _ _ (.inl q)
omit [TabC] in
/-- a body's end is the call's end -/
theorem body_end {N : List Str} {cdv : Value} {A : Around} {outer : List PySem.Env} {s s' : Shared} {H : Hp} {Q : VK} {E : XK} {σ' : L2.St} {H' : Hp} {v : V} {u : Value} (J : Inv (cxOf CX0 P w K mg base N qual scope f cdv A outer s H E) [] σ' H' s') (rv : RelV v u) (q : Q v H') : CE outer P w H s Q u s' :=
  ⟨v, H', J.os, J.bare, J.base, J.hok, rv, q⟩
omit [TabC] in
/-- a def's promise by its body -/
theorem FnG.of {N ps : List Str} {k : Nat} {sp : Sp} (F : FunD K x qual params body scope [] kws f fd) (S : FnScope N ps scope) (len : ∀ vs H Q E, sp vs H Q E → vs.length = ps.length)
    (hb : ∀ (cdv : Value) (A : Around) (outer : List PySem.Env) (s : Shared) (H : Hp) (vs : List V) (Q : VK) (E : XK), Still A → Room k (A.deeper (envOfC qual scope s.heap.objs.size f cdv)) → sp vs H Q E →
      ∃ t, PSs (cxOf CX0 P w K mg base N qual scope f cdv A outer s H E) body t ∧ t { nx := fun _ H' => Q .non H', rt := Q } (L2.start N vs) H) : FnG P w K mg base (k + 1) f fd ps sp := by
  obtain ⟨oc, od, dV, kV, doc, pm, an, cdv, ct, osl, rfl, lk, hcd, _, _⟩ := F.ex
  constructor
  · exact len
  intro A outer s H args us vs Q E hg hr e0 bt rv hsp
  have old := fun b o e => (e0.bs b o e).1
  have inK := e0.mod.kin.keeps old
  apply codeAny_call_function hr.depth (inK _ _ lk) rfl S.co S.gen rfl (PySem.W.codeRec_of inK hcd) (bt _ _ _ _ _)
  apply wpAny_newFunctionEnv_cells S.kind (par_kind S)
  rintro env rfl s1 c
  refine ⟨(e0.mod.nolimit.keeps old).keeps c.toInCall.keep, codeAny_func ?_⟩
  have ⟨t, dt, q⟩ := hb cdv A outer s H vs Q E hg (hr.deeper _) hsp
  apply wpAny_mono (dt.run [] s1 _ H _ (inv_start S hr.hd e0 (len _ _ _ _ hsp) rv c) q) _ fun _ _ z => z
  rintro (_ | _ | _ | u) s2 z
  · obtain ⟨_, _, J, q⟩ := z
    exact body_end (v := V.non) (u := Value.none) J rfl q
  · exact z.choose_spec.choose_spec.2.elim
  · exact z.choose_spec.choose_spec.2.elim
  · obtain ⟨_, _, _, J, r, q⟩ := z
    exact body_end J r q
theorem fn_body {N ps : List Str} {m : SM} {t : TS} {cdv : Value} {A : Around} {outer : List PySem.Env} {s : Shared} {H : Hp} {E E' : XK} {vs : List V} {Q : VK} (S : FnScope N ps scope)
    (ht : DSs (cxOf CX0 P w K mg base N qual scope f cdv A outer s H E).nox body t m) (h : spF ⟨K, mg⟩ (mkFn ps.length (N.length - ps.length) m) vs H Q E') :
    t { nx := fun _ H' => Q .non H', rt := Q } (L2.start N vs) H := by
  obtain ⟨W, ss, d, ss', a, nd, th, e, q⟩ := h
  unfold mkFn at e
  split at e
  · rename_i l
    have hpl : ps.length ≤ N.length := by have := congrArg List.length S.pre; rw [List.length_take] at this; omega
    obtain ⟨sr, eo⟩ := entry_sr (N := N) a nd th (by omega)
    rw [← l] at e
    cases e1 : m (ss ++ List.replicate (N.length - ss.length) .e) with
    | none => rw [e1] at e; cases e
    | some o =>
      rw [e1] at e
      refine ht.q _ _ H _ o _ sr e1 ?_
      have done : ∀ {ρ' : Env} {σ' : L2.St} {H' : Hp} {d' : D} {v : V}, So ⟨W, pinsOf 0 ss vs⟩ ⟨K, mg⟩ (L2.start N vs) (ss ++ List.replicate (N.length - ss.length) .e) H σ' ρ' H' → some (d', fin ρ' 0 ss) = some (d, ss') → Rp ⟨K, mg⟩ H' (Gam.w ⟨W, pinsOf 0 ss vs⟩ σ' ρ') d' v → Q v H' := fun {ρ' σ' H' d' v} b eq rv => by
        cases eq
        have fm : Fm (pad ss vs) H H' := by
          have := b.fm
          unfold Gam.mu at this
          rw [eo] at this
          rw [← pins_pad (i := 0)]
          exact this
        have mo : Mo W W H H' := ⟨fm.mono fun c z => by
          rw [← pins_pad (i := 0)] at z
          obtain ⟨p, hp, e⟩ := List.mem_map.mp z
          exact e ▸ (pins_w a p hp).1, fun _ z => .inl z⟩
        exact q v H' fm b.tr (fin_ok b.sr rfl mo (fun h1 h2 => pins_uniq h1 h2) (fun _ z => z) a) (Rp.mo ⟨Fm.refl _ _, fun c z => .inl (List.mem_append_right _ z)⟩ _ _ rv)
      cases o with
      | nx ρ' => exact fun σ' H' b => done b e rfl
      | rt d' ρ' => exact fun v σ' H' b r => done b e r
      | bk ρ' => cases e
      | ct ρ' => cases e
      | rf d' ρ' => exact fun a σ' H' b n na nu ow => done b e (ow.rp (fun z => (List.mem_append.mp z).elim na nu) fun c z => List.mem_cons_of_mem _ z)
  · cases e
/-- a def keeps what its body denotes -/
theorem fn_okG {N ps : List Str} {k : Nat} {m : SM} (F : FunD K x qual params body scope [] kws f fd) (S : FnScope N ps scope)
    (hb : ∀ (cdv : Value) (A : Around) (outer : List PySem.Env) (s : Shared) (H : Hp) (E : XK), Still A → Room k (A.deeper (envOfC qual scope s.heap.objs.size f cdv)) → ∃ t, DSs (cxOf CX0 P w K mg base N qual scope f cdv A outer s H E).nox body t m) :
    FnG P w K mg base (k + 1) f fd ps (spF ⟨K, mg⟩ (mkFn ps.length (N.length - ps.length) m)) := by
  refine FnG.of F S (fun vs H Q E h => ?_) fun cdv A outer s H vs Q E hg hr h => ?_
  · obtain ⟨W, ss, d, ss', a, _, _, e, _⟩ := h
    unfold mkFn at e
    split at e
    · rename_i l; rw [a.length, l]
    · cases e
  · obtain ⟨t, ht⟩ := hb cdv A outer s H E hg hr
    exact ⟨t, ht.pe.nox, fn_body S ht h⟩
/-- a def behind the top -/
structure FnDG (P : Program) (w : World) (K : PySem.W.Frag) (mg : Str → Option Value) (base : Heap) (x : Str) (k : Nat) (ps : List Str) (fn : FnSem) : Prop where
  ex : ∃ (f : Addr) (fd : FuncData), mg x = some (.ref f) ∧ PySem.W.keepIn K (.ref f) = true ∧ Binds K fd ps [] ∧ FnG P w K mg base k f fd ps (spF ⟨K, mg⟩ fn)
end
end DL
namespace DL
open PySem PySem.Spec PyProof.Rows L2
variable [TabC]
section
variable {X : Cx} {k : Nat} {x : Str} {p pos : Pos} {e : Expr} {es : List Expr} {ps : List Str} {fn : FnSem} {at1 : TA} {am : AM}
omit [TabC] in
theorem pe_callG {f : Addr} {fd : FuncData} {sp : Sp} (F : FnG X.prog X.w X.K X.mg X.base k f fd ps sp) (hs : Still X.A) (hr : Room k X.A) (hg : Gl X x) (hm : X.mg x = some (.ref f)) (hk : PySem.W.keepIn X.K (.ref f) = true) (hb : Binds X.K fd ps [])
    (ha : PA X (e :: es) at1) (hdb : (x == ("__debug__" : Str)) = false) (he : starEach (e :: es) X.env = (false, eval e X.env) :: starEach es X.env) (hpl : (backTo pos (starEach es X.env)).any (·.1) = false) :
    PE X (.Call (.Name x p) (e :: es) [] pos) (tCall sp [] E0 at1) := by
  constructor
  intro pins s σ H Q I h
  apply wpAny_Call_Name_kw (ld_glob I hg hm _ hdb)
  apply PySem.W.callWith_K (h₀ := X.base) I.ok.mod.kin hk (thn (ha.run pos pins s σ H _ I h) _) he hpl
  rintro us s1 ⟨vs, H1, J, r, q⟩
  refine ⟨J.kIn, wpAny_call ?_⟩
  rw [List.append_nil] at q
  have hl : (us ++ []).length = ps.length := by rw [List.append_nil, ← r.length]; exact F.len _ _ _ _ q
  have bt := hb s1 us J.kIn hl
  rw [List.append_nil] at bt
  apply codeAny_mono (F.run X.A X.stack s1 H1 ⟨us, []⟩ us vs Q E0 hs hr J.env0 bt r q)
  rintro (er | fl) s2 z
  · exact (pass0 pins σ H1 s1 er s2 J z)
  · cases fl with
    | ret u => exact J.after z
    | next => exact z.elim
    | brk => exact z.elim
    | cont => exact z.elim
theorem de_callTG {te : TE} {me : EM} (F : FnDG X.prog X.w X.K X.mg X.base x k ps fn) (hs : Still X.A) (hr : Room k X.A) (hd : DF X e te me) (hg : Gl X x := by rfl) (hdb : (x == ("__debug__" : Str)) = false := by decide)
    (he : starEach [e] X.env = (false, eval e X.env) :: starEach [] X.env := by rfl) (hpl : (backTo pos (starEach [] X.env)).any (·.1) = false := by rfl) : DE X (.Call (.Name x p) [e] [] pos) (tCall (spF X.G fn) [] E0 (tCons te tNil)) (eCallT fn me) := by
  obtain ⟨f, fd, h1, h2, h3, h4⟩ := F.ex
  refine ⟨pe_callG h4 hs hr hg h1 h2 h3 (da_cons hd.de da_nil he).pe hdb he hpl, fun Γ σ H ρ d ρ' Q s h kk => ?_⟩
  unfold eCallT at h
  cases e1 : me ρ with
  | none => rw [e1] at h; cases h
  | some p1 =>
  rw [e1] at h
  simp only [Option.bind_some] at h
  cases e3 : fn [.p p1.1] with
  | none => rw [e3] at h; cases h
  | some z =>
  rw [e3] at h
  cases h
  refine hd.q Γ σ H ρ p1.1 p1.2 _ s e1 fun a H1 n sr ow fm sub tr => ?_
  show spF X.G fn ([V.ref a] ++ []) H1 Q E0
  rw [List.append_nil]
  have aW : a ∈ ownO σ p1.2 ++ a :: Γ.U := List.mem_append_right _ List.mem_cons_self
  refine ⟨ownO σ p1.2 ++ a :: Γ.U, [.p p1.1], z.1, z.2, ⟨a, [], rfl, aW, ow, rfl⟩, by simp [pad], ⟨sr.w_th, sr.tb⟩, e3, fun v H2 f2 t2 as' rv => ?_⟩
  replace f2 : Fm [a] H1 H2 := f2
  have ap : a ∉ Γ.π.map (·.2) := fun z => by
    obtain ⟨p, hp, e⟩ := List.mem_map.mp z
    exact s.th a (e ▸ (s.pin p hp).1) n
  have ne : H2 a ≠ none := t2 a ow.ne0
  have sr2 := sr.wr1 List.mem_cons_self ap f2 ne
  have sl := sr2.less (U' := Γ.U) (fun b z => List.mem_cons_of_mem _ z) (fun p hp => (s.pin p hp).1)
  have fm2 : Fm (Γ.mu σ ρ) H H2 := fm.seq f2 fun b x nb nt eb => by
    have e1 := fm b x nb eb nt
    exact f2 b x (fun z => by rw [List.mem_singleton.mp z, n] at eb; cases eb) e1 nt
  refine kk v H2 ⟨sl, fm2, sub, tr.trans t2⟩ (Rp.mo ⟨Fm.refl _ _, fun b z => .inl ?_⟩ _ _ rv)
  rcases List.mem_append.mp z with z | z
  · exact List.mem_append_left _ z
  · exact List.mem_append_right _ (List.mem_cons_of_mem _ z)
omit [TabC] in
theorem bt_repr : bootBuiltins "repr" = some (.builtin "repr") := by decide +kernel
end
section
variable {P : Program} {w : World} {K : PySem.W.Frag} {mg mb : Str → Option Value} {k : Nat} {fa a : Addr} {fd : FuncData} {x : Str} {sp : Sp} {s : Shared} {vs : List Value} {ns : List Int}
omit [TabC] in
/-- the script, known to the object, where it is none of the module's own -/
def scrH (K : PySem.W.Frag) (a : Addr) (vs : List Value) (ns : List Int) : Hp := fun b => if b = a ∧ K.lookup a = none then some (.frz { cls := .type "list", data := .seq vs.toArray } (.lst (ns.map V.int))) else none
omit [TabC] in
theorem scrH_some {b : Addr} {u : HO} (h : scrH K a vs ns b = some u) : b = a ∧ K.lookup a = none ∧ u = .frz { cls := .type "list", data := .seq vs.toArray } (.lst (ns.map V.int)) := by
  unfold scrH at h
  split at h
  · rename_i c; exact ⟨c.1, c.2, (Option.some.inj h).symm⟩
  · cases h
omit [TabC] in
/-- the law's promise holds when it is called at the top -/
theorem law_still (KX : K.In s.heap) (hns : s.heap.Ns mainGlobals mg) (hb : s.heap.Ns builtinsNs mb) (hbb : ∀ x : Str, x ≠ "__name__" → mb x = bootBuiltins x) (hlim : s.heap.NoLimit) (hg : s.gens = #[])
    (ha : s.heap.get? a = some { cls := .type "list", data := .seq vs.toArray }) (hi : IntsAre vs ns) (hl : ns.length ≤ sizeLine) (hr : Room k callerA)
    (F : ∀ base : Heap, K.In base → base.Ns mainGlobals mg → FnG P w K mg base k fa fd [x] sp) (hbind : ∀ (s : Shared) (u : Value), BindsTo s fd ⟨[u], []⟩ [(x, u)])
    (hsp : ∀ H : Hp, Only H → SqL K H a (ns.map V.int) → sp [.ref a] H (fun v _ => v = .bl true) fun _ _ _ => False) :
    codeAny (model P w) callerA (.call (.ref fa) ⟨[.ref a], []⟩) (fun r s' => r = .ok (.ret (.bool true)) ∧ OldK s.heap s'.heap ∧ s'.os = s.os ∧ AllBare s'.gens) s := by
  have rv := vals_ints hi
  have only : Only (scrH K a vs ns) := fun b => by
    cases h : scrH K a vs ns b with
    | none => exact .inl rfl
    | some u => exact .inr ⟨_, _, congrArg some (scrH_some h).2.2⟩
  have sql : SqL K (scrH K a vs ns) a (ns.map V.int) := by
    cases hk : K.lookup a with
    | none => exact .inl (.inr ⟨{ cls := .type "list", data := .seq vs.toArray }, if_pos ⟨rfl, hk⟩⟩)
    | some o =>
      have e := KX a o hk
      rw [ha] at e
      cases e
      exact .inr ⟨_, vs.toArray, _, hk, rfl, rfl, rfl, by rw [List.size_toArray, hi.length]; exact hl, by simpa using rv⟩
  have hok : HOk P w (scrH K a vs ns) s.heap := fun b u h => by
    obtain ⟨rfl, _, rfl⟩ := scrH_some h
    exact ⟨ha, by rw [List.length_map]; exact hl, vs, _, rv, ha⟩
  -- what is neither the script nor tracked stands in the base
  have inb : ∀ {b : Addr} {o : Obj}, s.heap.get? b = some o → (b = a → K.lookup a = none → False) → (hidT s.heap (scrH K a vs ns)).get? b = some o := fun e h => hidT_get e (by
    unfold scrH
    rw [if_neg fun z => h z.1 z.2])
  have nsb : ∀ {b : Addr} {m : Str → Option Value}, s.heap.Ns b m → (hidT s.heap (scrH K a vs ns)).Ns b m := by
    rintro b m ⟨o, es, ep, e, d, r⟩
    refine ⟨o, es, ep, inb e fun z _ => ?_, d, r⟩
    rw [z, ha] at e
    cases e
    exact nomatch (show Data.seq vs.toArray _ = Data.dict es ep from d)
  have kb : K.In (hidT s.heap (scrH K a vs ns)) := fun b o e => inb (KX b o e) fun z n => by
    rw [z, n] at e; cases e
  obtain ⟨mc, l1, l2⟩ := hlim
  have e0 : Env0 P w K mg (hidT s.heap (scrH K a vs ns)) callerA [] s (scrH K a vs ns) :=
    { frames := rfl, mod := ⟨kb, nsb hns, ⟨mb, nsb hb, hbb⟩, ⟨mc, nsb l1, l2⟩⟩, bs := fun b o e => of_hidT e, bsz := Nat.le_of_eq (hidT_size _ _), funs := trivial, frf := fun b z => absurd z (List.not_mem_nil), hok := hok, bare := .of_eq hg }
  apply codeAny_mono ((F _ kb (nsb hns)).run callerA [] s _ ⟨[.ref a], []⟩ [.ref a] [.ref a] _ _ rfl hr e0 (hbind s (.ref a)) (.cons rfl .nil) (hsp _ only sql))
  rintro (er | fl) s2 z
  · exact z.elim
  cases fl with
  | next => exact z.elim
  | brk => exact z.elim
  | cont => exact z.elim
  | ret u =>
    obtain ⟨v, H2, os, bare, un, hok2, r2, q⟩ := z
    obtain rfl : v = .bl true := q
    obtain rfl : u = Value.bool true := r2
    refine ⟨rfl, OldK.of_keep fun b o e => ?_, os, bare⟩
    cases h : scrH K a vs ns b with
    | none => exact un.keep b o e h (fun z => absurd z (List.not_mem_nil)) (by simp)
    | some u =>
      obtain ⟨rfl, _, rfl⟩ := scrH_some h
      obtain ⟨e2, _⟩ := hok2 _ _ (un.frzs _ _ _ h)
      rw [ha] at e
      cases e
      exact e2
end
end DL
namespace DL
open PySem PySem.Spec PySem.W PyProof.Rows L2
variable [TabC]
omit [TabC] in
/-- the walk of a law whose promise is kept where no repr is under way -/
theorem walk_still {l : OpenLaw} {n k : Nat} {q : Program} {loose : List Str} {XP : (Str → Option Value) → Heap → Prop} {YP : World → Heap → Prop} {d : DefRec} {x : Str}
    (hn : l.most = some n) (hn2 : n ≤ sizeLine) (hdf : d.params.defaults = []) (hr : Room k callerA)
    (F : ∀ (w : World) (mg : Str → Option Value) (fa : Addr) (h : Heap), YP w h → h.Ns mainGlobals mg → mg d.name = some (.ref fa) →
      ∃ (K : PySem.W.Frag) (fd : FuncData) (sp : Sp), K.In h ∧ (∀ (s : Shared) (u : Value), BindsTo s fd ⟨[u], []⟩ [(x, u)]) ∧
        (∀ (H : Hp) (a : Addr) (ns : List Int), ns.length ≤ n → Only H → SqL K H a (ns.map V.int) → sp [.ref a] H (fun v _ => v = .bl true) fun _ _ _ => False) ∧
        ∀ base : Heap, K.In base → base.Ns mainGlobals mg → FnG l.prog w K mg base k fa fd [x] sp) :
    WalkO q loose XP YP l.row.toRowW d [] (fun f vs => PySem.call f vs) := by
  apply Att.attach_call hn hdf
  intro w s0 s1 mg mb fa o pm cd doc a vs ns G Y ho hd hcd hmg hobj hints hlen hg
  have ⟨K, fd, sp, KX, hb, hsp, hF⟩ := F w mg fa _ Y G.T.g hmg
  exact law_still KX G.T.g G.T.b G.T.builtins G.T.nolimit hg hobj hints (Nat.le_trans hlen hn2) hr hF hb fun H hO hS => hsp H a ns hlen hO hS
end DL
namespace DL
open PySem PySem.Spec PySem.W PyProof.Rows L2 LamX
variable [TabC]
section
variable {P : Program} {w : World} {K : PySem.W.Frag} {mg mb : Str → Option Value} {k : Nat} {fa a : Addr} {fd : FuncData} {x : Str} {sp : Sp} {s : Shared} {vs : List Value} {ns : List Int} {ts : List Addr}
end
end DL
namespace DL
open PySem
variable [TabC]
omit [TabC] in
def kSeq (m2 : SM) : Out → Option Out
  | .nx ρ => m2 ρ
  | o => some o
omit [TabC] in
@[simp] theorem sSeq_ap (m1 m2 : SM) (ρ : Env) : sSeq m1 m2 ρ = (m1 ρ).bind (kSeq m2) := by
  show ((m1 ρ).bind _) = _
  congr 1
omit [TabC] in
@[simp] theorem kSeq_nx (m : SM) (ρ : Env) : kSeq m (.nx ρ) = m ρ := rfl
omit [TabC] in
@[simp] theorem kSeq_rt (m : SM) (ρ : Env) (d : D) : kSeq m (.rt d ρ) = some (.rt d ρ) := rfl
omit [TabC] in
@[simp] theorem kSeq_rf (m : SM) (ρ : Env) (d : D) : kSeq m (.rf d ρ) = some (.rf d ρ) := rfl
omit [TabC] in
@[simp] theorem kSeq_bk (m : SM) (ρ : Env) : kSeq m (.bk ρ) = some (.bk ρ) := rfl
omit [TabC] in
@[simp] theorem kSeq_ct (m : SM) (ρ : Env) : kSeq m (.ct ρ) = some (.ct ρ) := rfl
omit [TabC] in
@[simp] theorem sSkip_ap (ρ : Env) : sSkip ρ = some (.nx ρ) := rfl
omit [TabC] in
@[simp] theorem sRetN_ap (ρ : Env) : sRetN ρ = some (.rt .non ρ) := rfl
omit [TabC] in
def kRet (p : D × Env) : Option Out := some (.rt p.1 p.2)
omit [TabC] in
@[simp] theorem sRet_ap (m : EM) (ρ : Env) : sRet m ρ = (m ρ).bind kRet := rfl
omit [TabC] in
@[simp] theorem kRet_ap (d : D) (ρ : Env) : kRet (d, ρ) = some (.rt d ρ) := rfl
omit [TabC] in
def kRetF (p : D × Env) : Option Out := some (.rf p.1 p.2)
omit [TabC] in
@[simp] theorem sRetF_ap (m : EM) (ρ : Env) : sRetF m ρ = (m ρ).bind kRetF := rfl
omit [TabC] in
@[simp] theorem kRetF_ap (d : D) (ρ : Env) : kRetF (d, ρ) = some (.rf d ρ) := rfl
omit [TabC] in
def kDrop (p : D × Env) : Option Out := some (.nx p.2)
omit [TabC] in
@[simp] theorem sDrop_ap (m : EM) (ρ : Env) : sDrop m ρ = (m ρ).bind kDrop := rfl
omit [TabC] in
@[simp] theorem kDrop_ap (d : D) (ρ : Env) : kDrop (d, ρ) = some (.nx ρ) := rfl
omit [TabC] in
def kIf (a b : SM) (p : Bool × Env) : Option Out := if p.1 = true then a p.2 else b p.2
omit [TabC] in
@[simp] theorem sIf_ap (c : TM) (a b : SM) (ρ : Env) : sIf c a b ρ = (c ρ).bind (kIf a b) := rfl
omit [TabC] in
@[simp] theorem kIf_t (a b : SM) (ρ : Env) : kIf a b (true, ρ) = a ρ := rfl
omit [TabC] in
@[simp] theorem kIf_f (a b : SM) (ρ : Env) : kIf a b (false, ρ) = b ρ := rfl
omit [TabC] in
def nxO (r : Option Env) : Option Out := r.bind fun ρ => some (.nx ρ)
omit [TabC] in
@[simp] theorem nxO_some (ρ : Env) : nxO (some ρ) = some (.nx ρ) := rfl
omit [TabC] in
def kSet (i : Nat) (p : D × Env) : Option Out := nxO (putV i p.1 p.2)
omit [TabC] in
@[simp] theorem sSet_ap (i : Nat) (m : EM) (ρ : Env) : sSet i m ρ = (m ρ).bind (kSet i) := rfl
omit [TabC] in
@[simp] theorem kSet_ap (i : Nat) (d : D) (ρ : Env) : kSet i (d, ρ) = nxO (putV i d ρ) := rfl
omit [TabC] in
def kSetO (i : Nat) (p : D × Env) : Option Out := nxO (putO i p.1 p.2)
omit [TabC] in
@[simp] theorem sSetO_ap (i : Nat) (m : EM) (ρ : Env) : sSetO i m ρ = (m ρ).bind (kSetO i) := rfl
omit [TabC] in
@[simp] theorem kSetO_ap (i : Nat) (d : D) (ρ : Env) : kSetO i (d, ρ) = nxO (putO i d ρ) := rfl
omit [TabC] in
def kAsg (g : GM) (p : D × Env) : Option Out := nxO (g p.1 p.2)
omit [TabC] in
@[simp] theorem sAsg_ap (m : EM) (g : GM) (ρ : Env) : sAsg m g ρ = (m ρ).bind (kAsg g) := rfl
omit [TabC] in
@[simp] theorem kAsg_ap (g : GM) (d : D) (ρ : Env) : kAsg g (d, ρ) = nxO (g d ρ) := rfl
omit [TabC] in
def kPar2 (i j : Nat) (ρ : Env) : List D → Option Out
  | [x, y] => nxO ((putV i x ρ).bind (putV j y))
  | _ => none
omit [TabC] in
def kPar (i j : Nat) (p : List Arg × Env) : Option Out := (vals p.1).bind (kPar2 i j p.2)
omit [TabC] in
@[simp] theorem sPar_ap (i j : Nat) (a : AM) (ρ : Env) : sPar i j a ρ = (a ρ).bind (kPar i j) := by
  unfold sPar; congr 1; funext p; unfold kPar; congr 1; funext ds
  match ds with
  | [x, y] =>
    show ((putV i x p.2).bind fun ρ1 => (putV j y ρ1).bind fun ρ2 => some (Out.nx ρ2)) = nxO ((putV i x p.2).bind (putV j y))
    cases putV i x p.2 <;> rfl
  | [] => rfl
  | [_] => rfl
  | _ :: _ :: _ :: _ => rfl
omit [TabC] in
@[simp] theorem kPar_ap (i j : Nat) (x y : D) (ρ : Env) : kPar i j ([.val x, .val y], ρ) = nxO ((putV i x ρ).bind (putV j y)) := rfl
omit [TabC] in
def kStore3 (x : Nat) (ρ : Env) (r : Option D) : Option Out := r.bind fun d' => some (.nx (setO x d' ρ))
omit [TabC] in
@[simp] theorem kStore3_some (x : Nat) (ρ : Env) (d : D) : kStore3 x ρ (some d) = some (.nx (setO x d ρ)) := rfl
omit [TabC] in
def kStore2 (x : Nat) (f : D → D → D → Option D) (v : D) (q : D × Env) : Option Out := (stO q.2 x).bind fun d => kStore3 x q.2 (f d q.1 v)
omit [TabC] in
def kStore (x : Nat) (f : D → D → D → Option D) (mi : EM) (p : D × Env) : Option Out := (stO p.2 x).bind fun _ => (mi p.2).bind (kStore2 x f p.1)
omit [TabC] in
@[simp] theorem sStore_ap (T : String) (x : Nat) (f : D → D → D → Option D) (mi me : EM) (ρ : Env) : sStore T x f mi me ρ = (me ρ).bind (kStore x f mi) := rfl
omit [TabC] in
@[simp] theorem kStore_ap (x : Nat) (f : D → D → D → Option D) (mi : EM) (v : D) (ρ : Env) : kStore x f mi (v, ρ) = (stO ρ x).bind fun _ => (mi ρ).bind (kStore2 x f v) := rfl
omit [TabC] in
@[simp] theorem kStore2_ap (x : Nat) (f : D → D → D → Option D) (v i : D) (ρ : Env) : kStore2 x f v (i, ρ) = (stO ρ x).bind fun d => kStore3 x ρ (f d i v) := rfl
omit [TabC] in
@[simp] theorem eC_ap (d : D) (ρ : Env) : eC d ρ = some (d, ρ) := rfl
omit [TabC] in
def kVar (i : Nat) (ρ : Env) : Option Sl → Option (D × Env)
  | some (.v d) => some (d, ρ)
  | some (.o d) => some (d, ρ.set i (.v d))
  | _ => none
omit [TabC] in
@[simp] theorem eVar_ap (i : Nat) (ρ : Env) : eVar i ρ = kVar i ρ ρ[i]? := by unfold eVar kVar; split <;> simp_all
omit [TabC] in
@[simp] theorem kVar_v (i : Nat) (ρ : Env) (d : D) : kVar i ρ (some (.v d)) = some (d, ρ) := rfl
omit [TabC] in
@[simp] theorem kVar_o (i : Nat) (ρ : Env) (d : D) : kVar i ρ (some (.o d)) = some (d, ρ.set i (.v d)) := rfl
omit [TabC] in
def pr (ρ : Env) (r : Option D) : Option (D × Env) := r.map fun z => (z, ρ)
omit [TabC] in
@[simp] theorem pr_some (ρ : Env) (d : D) : pr ρ (some d) = some (d, ρ) := rfl
omit [TabC] in
def kOp1 (f : D → Option D) (p : D × Env) : Option (D × Env) := pr p.2 (f p.1)
omit [TabC] in
@[simp] theorem eOp1_ap (f : D → Option D) (a : EM) (ρ : Env) : eOp1 f a ρ = (a ρ).bind (kOp1 f) := rfl
omit [TabC] in
@[simp] theorem kOp1_ap (f : D → Option D) (d : D) (ρ : Env) : kOp1 f (d, ρ) = pr ρ (f d) := rfl
omit [TabC] in
def kOp2b (f : D → D → Option D) (x : D) (q : D × Env) : Option (D × Env) := pr q.2 (f x q.1)
omit [TabC] in
def kOp2 (f : D → D → Option D) (b : EM) (p : D × Env) : Option (D × Env) := (b p.2).bind (kOp2b f p.1)
omit [TabC] in
@[simp] theorem eOp2_ap (f : D → D → Option D) (a b : EM) (ρ : Env) : eOp2 f a b ρ = (a ρ).bind (kOp2 f b) := rfl
omit [TabC] in
@[simp] theorem kOp2_ap (f : D → D → Option D) (b : EM) (x : D) (ρ : Env) : kOp2 f b (x, ρ) = (b ρ).bind (kOp2b f x) := rfl
omit [TabC] in
@[simp] theorem kOp2b_ap (f : D → D → Option D) (x y : D) (ρ : Env) : kOp2b f x (y, ρ) = pr ρ (f x y) := rfl
omit [TabC] in
def kIfE (a b : EM) (p : Bool × Env) : Option (D × Env) := if p.1 = true then a p.2 else b p.2
omit [TabC] in
@[simp] theorem eIf_ap (c : TM) (a b : EM) (ρ : Env) : eIf c a b ρ = (c ρ).bind (kIfE a b) := rfl
omit [TabC] in
@[simp] theorem kIfE_t (a b : EM) (ρ : Env) : kIfE a b (true, ρ) = a ρ := rfl
omit [TabC] in
@[simp] theorem kIfE_f (a b : EM) (ρ : Env) : kIfE a b (false, ρ) = b ρ := rfl
omit [TabC] in
def kAnd (b : EM) : D × Env → Option (D × Env)
  | (.bl true, ρ) => b ρ
  | (.bl false, ρ) => some (.bl false, ρ)
  | _ => none
omit [TabC] in
@[simp] theorem eAnd_ap (a b : EM) (ρ : Env) : eAnd a b ρ = (a ρ).bind (kAnd b) := by
  unfold eAnd; congr 1; funext p; obtain ⟨d, r⟩ := p; cases d <;> try rfl
  rename_i b; cases b <;> rfl
omit [TabC] in
@[simp] theorem kAnd_t (b : EM) (ρ : Env) : kAnd b (.bl true, ρ) = b ρ := rfl
omit [TabC] in
@[simp] theorem kAnd_f (b : EM) (ρ : Env) : kAnd b (.bl false, ρ) = some (.bl false, ρ) := rfl
omit [TabC] in
def kOr (b : EM) : D × Env → Option (D × Env)
  | (.bl true, ρ) => some (.bl true, ρ)
  | (.bl false, ρ) => b ρ
  | _ => none
omit [TabC] in
@[simp] theorem eOr_ap (a b : EM) (ρ : Env) : eOr a b ρ = (a ρ).bind (kOr b) := by
  unfold eOr; congr 1; funext p; obtain ⟨d, r⟩ := p; cases d <;> try rfl
  rename_i b; cases b <;> rfl
omit [TabC] in
@[simp] theorem kOr_t (b : EM) (ρ : Env) : kOr b (.bl true, ρ) = some (.bl true, ρ) := rfl
omit [TabC] in
@[simp] theorem kOr_f (b : EM) (ρ : Env) : kOr b (.bl false, ρ) = b ρ := rfl
omit [TabC] in
def kNot : D × Env → Option (D × Env)
  | (.bl b, ρ) => some (.bl (!b), ρ)
  | _ => none
omit [TabC] in
@[simp] theorem eNot_ap (a : EM) (ρ : Env) : eNot a ρ = (a ρ).bind kNot := by
  unfold eNot; congr 1; funext p; obtain ⟨d, r⟩ := p; cases d <;> rfl
omit [TabC] in
@[simp] theorem kNot_ap (b : Bool) (ρ : Env) : kNot (.bl b, ρ) = some (.bl (!b), ρ) := rfl
omit [TabC] in
def kB : D × Env → Option (Bool × Env)
  | (.bl b, ρ) => some (b, ρ)
  | _ => none
omit [TabC] in
@[simp] theorem tB_ap (a : EM) (ρ : Env) : tB a ρ = (a ρ).bind kB := by
  unfold tB; congr 1; funext p; obtain ⟨d, r⟩ := p; cases d <;> rfl
omit [TabC] in
@[simp] theorem kB_ap (b : Bool) (ρ : Env) : kB (.bl b, ρ) = some (b, ρ) := rfl
omit [TabC] in
def kTAnd (b : TM) (p : Bool × Env) : Option (Bool × Env) := if p.1 = true then b p.2 else some (false, p.2)
omit [TabC] in
@[simp] theorem tAnd_ap (a b : TM) (ρ : Env) : tAnd a b ρ = (a ρ).bind (kTAnd b) := rfl
omit [TabC] in
@[simp] theorem kTAnd_t (b : TM) (ρ : Env) : kTAnd b (true, ρ) = b ρ := rfl
omit [TabC] in
@[simp] theorem kTAnd_f (b : TM) (ρ : Env) : kTAnd b (false, ρ) = some (false, ρ) := rfl
omit [TabC] in
def kTOr (b : TM) (p : Bool × Env) : Option (Bool × Env) := if p.1 = true then some (true, p.2) else b p.2
omit [TabC] in
@[simp] theorem tOr_ap (a b : TM) (ρ : Env) : tOr a b ρ = (a ρ).bind (kTOr b) := rfl
omit [TabC] in
@[simp] theorem kTOr_t (b : TM) (ρ : Env) : kTOr b (true, ρ) = some (true, ρ) := rfl
omit [TabC] in
@[simp] theorem kTOr_f (b : TM) (ρ : Env) : kTOr b (false, ρ) = b ρ := rfl
omit [TabC] in
def kTNot (p : Bool × Env) : Bool × Env := (!p.1, p.2)
omit [TabC] in
@[simp] theorem tNot_ap (a : TM) (ρ : Env) : tNot a ρ = (a ρ).map kTNot := rfl
omit [TabC] in
@[simp] theorem kTNot_ap (b : Bool) (ρ : Env) : kTNot (b, ρ) = (!b, ρ) := rfl
omit [TabC] in
@[simp] theorem tTrue_ap (ρ : Env) : tTrue ρ = some (true, ρ) := rfl
omit [TabC] in
@[simp] theorem aNil_ap (ρ : Env) : aNil ρ = some ([], ρ) := rfl
omit [TabC] in
def kCons2 (d : D) (q : List Arg × Env) : List Arg × Env := (.val d :: q.1, q.2)
omit [TabC] in
def kCons (r : AM) (p : D × Env) : Option (List Arg × Env) := (r p.2).map (kCons2 p.1)
omit [TabC] in
@[simp] theorem aCons_ap (a : EM) (r : AM) (ρ : Env) : aCons a r ρ = (a ρ).bind (kCons r) := rfl
omit [TabC] in
@[simp] theorem kCons_ap (r : AM) (d : D) (ρ : Env) : kCons r (d, ρ) = (r ρ).map (kCons2 d) := rfl
omit [TabC] in
@[simp] theorem kCons2_ap (d : D) (l : List Arg) (ρ : Env) : kCons2 d (l, ρ) = (.val d :: l, ρ) := rfl
omit [TabC] in
def kSl2 (i : Nat) (q : List Arg × Env) : List Arg × Env := (.slot i :: q.1, q.2)
omit [TabC] in
@[simp] theorem kSl2_ap (i : Nat) (l : List Arg) (ρ : Env) : kSl2 i (l, ρ) = (.slot i :: l, ρ) := rfl
omit [TabC] in
def kSl (i : Nat) (r : AM) (ρ : Env) : Option Sl → Option (List Arg × Env)
  | some (.o _) => (r ρ).map (kSl2 i)
  | some (.p _) => (r ρ).map (kSl2 i)
  | _ => none
omit [TabC] in
@[simp] theorem aSl_ap (i : Nat) (r : AM) (ρ : Env) : aSl i r ρ = kSl i r ρ ρ[i]? := by unfold aSl kSl; split <;> simp_all [aSlot, kSl2] <;> rfl
omit [TabC] in
@[simp] theorem kSl_o (i : Nat) (r : AM) (ρ : Env) (d : D) : kSl i r ρ (some (.o d)) = (r ρ).map (kSl2 i) := rfl
omit [TabC] in
@[simp] theorem kSl_p (i : Nat) (r : AM) (ρ : Env) (d : D) : kSl i r ρ (some (.p d)) = (r ρ).map (kSl2 i) := rfl
omit [TabC] in
def kCallV (f : List D → Option D) (p : List Arg × Env) : Option (D × Env) := (vals p.1).bind fun ds => pr p.2 (f ds)
omit [TabC] in
@[simp] theorem eCallV_ap (f : List D → Option D) (a : AM) (ρ : Env) : eCallV f a ρ = (a ρ).bind (kCallV f) := rfl
omit [TabC] in
@[simp] theorem kCallV_ap (f : List D → Option D) (l : List Arg) (ρ : Env) : kCallV f (l, ρ) = (vals l).bind fun ds => pr ρ (f ds) := rfl
omit [TabC] in
@[simp] theorem vals_nil : vals [] = some [] := rfl
omit [TabC] in
@[simp] theorem vals_cons (d : D) (r : List Arg) : vals (.val d :: r) = (vals r).map (d :: ·) := rfl
omit [TabC] in
def kCall2 (as : List Arg) (ρ : Env) (q : D × List Sl) : Option (D × Env) := (wbk as q.2 ρ).map fun ρ2 => (q.1, ρ2)
omit [TabC] in
def kCall (fn : FnSem) (p : List Arg × Env) : Option (D × Env) := if (slotsOf p.1).Nodup then (argS p.2 p.1).bind fun ss => (fn ss).bind (kCall2 p.1 p.2) else none
omit [TabC] in
theorem callS_eq (fn : FnSem) (as : List Arg) (ρ : Env) : callS fn as ρ = kCall fn (as, ρ) := by
  unfold callS kCall
  by_cases h : (slotsOf as).Nodup
  · rw [if_pos (decide_eq_true h), if_pos h]; rfl
  · rw [if_neg (by simpa using h), if_neg h]
omit [TabC] in
@[simp] theorem eCall_ap (fn : FnSem) (a : AM) (ρ : Env) : eCall fn a ρ = (a ρ).bind (kCall fn) := by
  unfold eCall; congr 1; funext p; exact callS_eq fn p.1 p.2
omit [TabC] in
@[simp] theorem kCall2_ap (as : List Arg) (ρ : Env) (d : D) (ss : List Sl) : kCall2 as ρ (d, ss) = (wbk as ss ρ).map fun ρ2 => (d, ρ2) := rfl
omit [TabC] in
def kCallK3 (perm : List Nat) (n m : Nat) (fn : FnSem) (as : List Arg) (q : List Arg × Env) : Option (D × Env) := if decide (as.length = n) && decide (q.1.length = m) && perm.all (fun i => decide (i < n + m)) then callS fn (permA perm (as ++ q.1)) q.2 else none
omit [TabC] in
def kCallK (perm : List Nat) (n m : Nat) (fn : FnSem) (b : AM) (p : List Arg × Env) : Option (D × Env) := (b p.2).bind (kCallK3 perm n m fn p.1)
omit [TabC] in
@[simp] theorem eCallK_ap (perm : List Nat) (n m : Nat) (fn : FnSem) (a b : AM) (ρ : Env) : eCallK perm n m fn a b ρ = (a ρ).bind (kCallK perm n m fn b) := rfl
omit [TabC] in
@[simp] theorem kCallK_ap (perm : List Nat) (n m : Nat) (fn : FnSem) (b : AM) (as : List Arg) (ρ : Env) : kCallK perm n m fn b (as, ρ) = (b ρ).bind (kCallK3 perm n m fn as) := rfl
omit [TabC] in
theorem kCallK3_ap (perm : List Nat) (n m : Nat) (fn : FnSem) (as bs : List Arg) (ρ : Env) (h : (decide (as.length = n) && decide (bs.length = m) && perm.all (fun i => decide (i < n + m))) = true) : kCallK3 perm n m fn as (bs, ρ) = kCall fn (permA perm (as ++ bs), ρ) := by
  show (if _ then callS fn (permA perm (as ++ bs)) ρ else none) = _
  rw [if_pos h, callS_eq]
omit [TabC] in
def kCallF (fn : FnSem) (p : List Arg × Env) : Option (D × Env) := (vals p.1).bind fun ds => (fn (ds.map .v)).map fun q => (q.1, p.2)
omit [TabC] in
@[simp] theorem eCallF_ap (fn : FnSem) (a : AM) (ρ : Env) : eCallF fn a ρ = (a ρ).bind (kCallF fn) := rfl
omit [TabC] in
@[simp] theorem kCallF_ap (fn : FnSem) (as : List Arg) (ρ : Env) : kCallF fn (as, ρ) = (vals as).bind fun ds => (fn (ds.map .v)).map fun q => (q.1, ρ) := rfl
omit [TabC] in
def kCallT (fn : FnSem) (p : D × Env) : Option (D × Env) := (fn [.p p.1]).map fun q => (q.1, p.2)
omit [TabC] in
@[simp] theorem eCallT_ap (fn : FnSem) (m : EM) (ρ : Env) : eCallT fn m ρ = (m ρ).bind (kCallT fn) := rfl
omit [TabC] in
@[simp] theorem kCallT_ap (fn : FnSem) (d : D) (ρ : Env) : kCallT fn (d, ρ) = (fn [.p d]).map fun q => (q.1, ρ) := rfl
omit [TabC] in
def kIxO2 (x : Nat) (p : D × Env) : Option (D × Env) := (stO p.2 x).bind fun d => pr p.2 (ixD d p.1)
omit [TabC] in
@[simp] theorem eIxO_ap (x : Nat) (mi : EM) (ρ : Env) : eIxO x mi ρ = (stO ρ x).bind fun _ => (mi ρ).bind (kIxO2 x) := rfl
omit [TabC] in
@[simp] theorem kIxO2_ap (x : Nat) (d : D) (ρ : Env) : kIxO2 x (d, ρ) = (stO ρ x).bind fun d0 => pr ρ (ixD d0 d) := rfl
omit [TabC] in
def kSeqI : D × Env → Option (List D × Env)
  | (.lst ds, ρ) => some (ds, ρ)
  | (.tup ds, ρ) => some (ds, ρ)
  | _ => none
omit [TabC] in
@[simp] theorem iSeq_ap (m : EM) (ρ : Env) : iSeq m ρ = (m ρ).bind kSeqI := by
  unfold iSeq; congr 1; funext p; obtain ⟨d, r⟩ := p; cases d <;> rfl
omit [TabC] in
@[simp] theorem kSeqI_l (ds : List D) (ρ : Env) : kSeqI (.lst ds, ρ) = some (ds, ρ) := rfl
omit [TabC] in
@[simp] theorem kSeqI_t (ds : List D) (ρ : Env) : kSeqI (.tup ds, ρ) = some (ds, ρ) := rfl
omit [TabC] in
def kArg (f : List Arg → Option (List D)) (p : List Arg × Env) : Option (List D × Env) := (f p.1).map fun ds => (ds, p.2)
omit [TabC] in
@[simp] theorem iArg_ap (f : List Arg → Option (List D)) (m : AM) (ρ : Env) : iArg f m ρ = (m ρ).bind (kArg f) := rfl
omit [TabC] in
@[simp] theorem kArg_ap (f : List Arg → Option (List D)) (l : List Arg) (ρ : Env) : kArg f (l, ρ) = (f l).map fun ds => (ds, ρ) := rfl
omit [TabC] in
def kComp3 (ρ : Env) (vs : List Nat) (q : List D × Env) : D × Env := (.lst q.1, rstE ρ q.2 vs)
omit [TabC] in
def kComp (vs : List Nat) (g : GM) (tt : TM) (el : EM) (p : List D × Env) : Option (D × Env) := (wipeC vs p.2).bind fun ρw => (compL vs g tt el p.1 ρw).map (kComp3 p.2 vs)
omit [TabC] in
@[simp] theorem eComp_ap (vs : List Nat) (it : IM) (g : GM) (tt : TM) (el : EM) (ρ : Env) : eComp vs it g tt el ρ = (it ρ).bind (kComp vs g tt el) := rfl
omit [TabC] in
@[simp] theorem kComp_ap (vs : List Nat) (g : GM) (tt : TM) (el : EM) (ds : List D) (ρ : Env) : kComp vs g tt el (ds, ρ) = (wipeC vs ρ).bind fun ρw => (compL vs g tt el ds ρw).map (kComp3 ρ vs) := rfl
omit [TabC] in
@[simp] theorem kComp3_ap (ρ : Env) (vs : List Nat) (zs : List D) (ρ2 : Env) : kComp3 ρ vs (zs, ρ2) = (.lst zs, rstE ρ ρ2 vs) := rfl
omit [TabC] in
def kFor (g : GM) (b : SM) (p : List D × Env) : Option Out := forL g b p.1 p.2
omit [TabC] in
@[simp] theorem sFor_ap (it : IM) (g : GM) (b : SM) (ρ : Env) : sFor it g b ρ = (it ρ).bind (kFor g b) := rfl
omit [TabC] in
@[simp] theorem kFor_ap (g : GM) (b : SM) (ds : List D) (ρ : Env) : kFor g b (ds, ρ) = forL g b ds ρ := rfl
omit [TabC] in
@[simp] theorem gV_ap (i : Nat) (d : D) (ρ : Env) : gV i d ρ = putV i d ρ := rfl
omit [TabC] in
@[simp] theorem gT_t (gs : List D → Env → Option Env) (ds : List D) (ρ : Env) : gT gs (.tup ds) ρ = gs ds ρ := rfl
omit [TabC] in
@[simp] theorem gCons_ap (g : GM) (gs : List D → Env → Option Env) (d : D) (ds : List D) (ρ : Env) : gCons g gs (d :: ds) ρ = (g d ρ).bind (gs ds) := rfl
omit [TabC] in
@[simp] theorem gNil_ap (ρ : Env) : gNil [] ρ = some ρ := rfl
omit [TabC] in
/-- one turn -/
theorem compT_1 {vs : List Nat} {g : GM} {tt : TM} {el : EM} {d z : D} {ρ ρ1 ρ2 ρ3 ρ4 : Env} (h1 : g d ρ = some ρ1) (h2 : tt ρ1 = some (true, ρ2)) (h3 : el ρ2 = some (z, ρ3)) (h4 : wipeC vs ρ3 = some ρ4) : compT vs g tt el d ρ = some ([z], ρ4) := by
  unfold compT
  simp only [h1, h2, h3, h4, Option.bind_some, if_true, Option.map_some]
omit [TabC] in
theorem compT_0 {vs : List Nat} {g : GM} {tt : TM} {el : EM} {d : D} {ρ ρ1 ρ2 ρ4 : Env} (h1 : g d ρ = some ρ1) (h2 : tt ρ1 = some (false, ρ2)) (h4 : wipeC vs ρ2 = some ρ4) : compT vs g tt el d ρ = some ([], ρ4) := by
  unfold compT
  simp only [h1, h2, h4, Option.bind_some, Option.map_some]
  rfl
end DL
set_option exponentiation.threshold 10000
namespace DL
open PySem
variable [TabC]
omit [TabC] in
theorem small_ok {i j : Int} (h : -(2 ^ 64) < j) (h2 : j < 2 ^ 64) : mulOk i j = true := by
  unfold mulOk; rw [Bool.or_eq_true]; exact .inr (by rw [Bool.and_eq_true]; exact ⟨decide_eq_true h, decide_eq_true h2⟩)
omit [TabC] in
theorem small_ok' {i j : Int} (h : -(2 ^ 64) < i) (h2 : i < 2 ^ 64) : mulOk i j = true := by
  unfold mulOk; rw [Bool.or_eq_true]; exact .inl (by rw [Bool.and_eq_true]; exact ⟨decide_eq_true h, decide_eq_true h2⟩)
omit [TabC] in
theorem mulI_r {i j : Int} (h : -(2 ^ 64) < j) (h2 : j < 2 ^ 64) : mulI (.int i) (.int j) = some (.int (i * j)) := by
  show (if mulOk i j = true then _ else none) = _
  rw [if_pos (small_ok h h2)]
omit [TabC] in
theorem mulI_l {i j : Int} (h : -(2 ^ 64) < i) (h2 : i < 2 ^ 64) : mulI (.int i) (.int j) = some (.int (i * j)) := by
  show (if mulOk i j = true then _ else none) = _
  rw [if_pos (small_ok' h h2)]
omit [TabC] in
theorem log_ok {s : Int} (h : s.natAbs < 2 ^ 8999) : s.natAbs.log2 < 9000 := by
  by_cases e : s.natAbs = 0
  · rw [e]; decide
  · have := (Nat.log2_lt e (k := 9000)).mpr (Nat.lt_of_lt_of_le h (Nat.pow_le_pow_right (by decide) (by decide)))
    exact this
omit [TabC] in
mutual
theorem eqv_self : ∀ (n : Nat) (d : D), okD n d = true → PyData.eqv (py d) (py d) = true
  | _, .non, _ => rfl
  | _, .bl b, _ => by simp [py, PyData.eqv]
  | _, .int b, _ => by simp [py, PyData.eqv]
  | _, .str b, _ => by simp [py, PyData.eqv]
  | n + 1, .lst xs, h => by
    rw [py, PyData.eqv]; exact eqvs_self n xs (by simpa [okD] using h)
  | n + 1, .tup xs, h => by
    rw [py, PyData.eqv]; exact eqvs_self n xs (by simpa [okD] using h)
  | 0, .lst _, h => by simp [okD] at h
  | 0, .tup _, h => by simp [okD] at h
  | n, .dT _, h => by cases n <;> simp [okD] at h
  | n, .dK _, h => by cases n <;> simp [okD] at h
  | n, .obj _ _, h => by cases n <;> simp [okD] at h
  | n, .scr _, h => by cases n <;> simp [okD] at h
theorem eqvs_self : ∀ (n : Nat) (d : List D), okDs n d = true → PyData.eqvAll (pys d) (pys d) = true
  | _, [], _ => rfl
  | n, x :: xs, h => by
    have h' : okD n x = true ∧ okDs n xs = true := by simpa [okDs] using h
    rw [pys, PyData.eqvAll, eqv_self n x h'.1, eqvs_self n xs h'.2]; rfl
end
omit [TabC] in
mutual
theorem okD_up : ∀ {n m : Nat} (d : D), n ≤ m → okD n d = true → okD m d = true
  | _, _, .non, _, _ => by simp [okD]
  | _, _, .bl b, _, _ => by simp [okD]
  | _, _, .int b, _, _ => by simp [okD]
  | _, _, .str b, _, _ => by simp [okD]
  | n + 1, m + 1, .lst xs, l, h => by
    rw [okD] at h ⊢; exact okDs_up xs (by omega) h
  | n + 1, m + 1, .tup xs, l, h => by
    rw [okD] at h ⊢; exact okDs_up xs (by omega) h
  | n + 1, 0, .lst xs, l, h => absurd l (by omega)
  | n + 1, 0, .tup xs, l, h => absurd l (by omega)
  | 0, _, .lst _, _, h => by simp [okD] at h
  | 0, _, .tup _, _, h => by simp [okD] at h
  | n, _, .dT _, _, h => by cases n <;> simp [okD] at h
  | n, _, .dK _, _, h => by cases n <;> simp [okD] at h
  | n, _, .obj _ _, _, h => by cases n <;> simp [okD] at h
  | n, _, .scr _, _, h => by cases n <;> simp [okD] at h
theorem okDs_up : ∀ {n m : Nat} (d : List D), n ≤ m → okDs n d = true → okDs m d = true
  | _, _, [], _, _ => by simp [okDs]
  | n, m, x :: xs, l, h => by
    have h' : okD n x = true ∧ okDs n xs = true := by simpa [okDs] using h
    rw [okDs, okD_up x l h'.1, okDs_up xs l h'.2]; rfl
end
omit [TabC] in
theorem okDs_all {n : Nat} : ∀ {ds : List D}, okDs n ds = true ↔ ∀ d ∈ ds, okD n d = true
  | [] => by simp [okDs]
  | x :: xs => by simp [okDs, okDs_all (ds := xs)]
omit [TabC] in
theorem eqD_self {x : D} {n : Nat} (h : okD n x = true) (l : n ≤ 60) : eqD x x = some (.bl true) := by
  unfold eqD
  rw [okD_up x l h]
  show some (D.bl (PyData.eqv (py x) (py x))) = _
  rw [eqv_self n x h]
omit [TabC] in
@[simp] theorem eqD_int (i j : Int) : eqD (.int i) (.int j) = some (.bl (decide (i = j))) := by
  unfold eqD
  simp only [okD, Bool.and_self, if_true]
  show some (D.bl (PyData.eqv (.int i) (.int j))) = _
  rw [PyData.eqv]; congr 2
omit [TabC] in
@[simp] theorem eqD_bl (i j : Bool) : eqD (.bl i) (.bl j) = some (.bl (decide (i = j))) := by
  cases i <;> cases j <;> rfl
omit [TabC] in
@[simp] theorem neD_bl (i j : Bool) : neD (.bl i) (.bl j) = some (.bl (decide (i ≠ j))) := by
  cases i <;> cases j <;> rfl
omit [TabC] in
@[simp] theorem neD_int (i j : Int) : neD (.int i) (.int j) = some (.bl (decide (i ≠ j))) := by
  unfold neD
  simp only [okD, Bool.and_self, if_true]
  show some (D.bl (!PyData.eqv (.int i) (.int j))) = _
  rw [PyData.eqv]; congr 2
  by_cases h : i = j <;> simp [h]
omit [TabC] in
theorem bools_one (l : List D) : bools? (l.flatMap fun _ => [.bl true]) = some (l.map fun _ => true) := by
  induction l with
  | nil => rfl
  | cons x l ih => show (bools? (l.flatMap fun _ => [.bl true])).map _ = _; rw [ih]; rfl
omit [TabC] in
theorem allF_one (l : List D) : allF [.lst (l.flatMap fun _ => [.bl true])] = some (.bl true) := by
  show (bools? _).map _ = _
  rw [bools_one]
  simp
end DL
namespace DL
open PySem
variable [TabC]
omit [TabC] in
theorem rngD_len (n : Nat) : (rngD 0 n).length = n := rngD_length 0 n
omit [TabC] in
theorem rng1_ok {j : Int} (h0 : 0 ≤ j) (h1 : j ≤ 1000000) : rng1 [.val (.int j)] = some (rngD 0 j.toNat) := by
  have a : ok62 j = true := by unfold ok62; rw [Bool.and_eq_true]; exact ⟨decide_eq_true (by omega), decide_eq_true (by omega)⟩
  have b : lim j.toNat = true := decide_eq_true (by omega)
  show (if (ok62 j && lim j.toNat) = true then _ else none) = _
  rw [a, b]; rfl
omit [TabC] in
theorem rngD_eq (n : Nat) : rngD 0 n = (List.range n).map fun (i : Nat) => D.int (i : Int) := by
  unfold rngD; congr 1; funext i; simp
omit [TabC] in
theorem rngD_get {n j : Nat} {d : D} (h : (rngD 0 n)[j]? = some d) : j < n ∧ d = .int (j : Int) := by
  rw [rngD_eq, List.getElem?_map] at h
  by_cases l : j < n
  · rw [List.getElem?_range l] at h; cases h; exact ⟨l, rfl⟩
  · rw [List.getElem?_eq_none (by simpa using Nat.not_lt.mp l)] at h; cases h
omit [TabC] in
theorem atI_nat {α : Type} (xs : List α) (i : Nat) : L2.atI xs (i : Int) = xs[i]? := by
  unfold L2.atI L2.ixN
  rw [if_pos (by omega)]
  by_cases h : i < xs.length
  · rw [if_pos (by omega)]; simp
  · rw [if_neg (by omega), List.getElem?_eq_none (by omega)]; rfl
omit [TabC] in
theorem ix_lst (xs : List D) (i : Nat) : ixD (.lst xs) (.int (i : Int)) = xs[i]? := atI_nat xs i
omit [TabC] in
theorem ix_tup (xs : List D) (i : Nat) : ixD (.tup xs) (.int (i : Int)) = xs[i]? := atI_nat xs i
omit [TabC] in
@[simp] theorem ix_lst0 (xs : List D) : ixD (.lst xs) (.int 0) = xs[0]? := atI_nat xs 0
omit [TabC] in
@[simp] theorem ix_tup0 (xs : List D) : ixD (.tup xs) (.int 0) = xs[0]? := atI_nat xs 0
omit [TabC] in
@[simp] theorem ix_lst1 (xs : List D) : ixD (.lst xs) (.int 1) = xs[1]? := atI_nat xs 1
omit [TabC] in
@[simp] theorem ix_tup1 (xs : List D) : ixD (.tup xs) (.int 1) = xs[1]? := atI_nat xs 1
omit [TabC] in
@[simp] theorem ix_lst2 (xs : List D) : ixD (.lst xs) (.int 2) = xs[2]? := atI_nat xs 2
omit [TabC] in
@[simp] theorem ix_tup2 (xs : List D) : ixD (.tup xs) (.int 2) = xs[2]? := atI_nat xs 2
omit [TabC] in
@[simp] theorem addD_int (i j : Int) : addD (.int i) (.int j) = some (.int (i + j)) := rfl
omit [TabC] in
@[simp] theorem subD_int (i j : Int) : subD (.int i) (.int j) = some (.int (i - j)) := rfl
omit [TabC] in
@[simp] theorem ltD_int (i j : Int) : ltD (.int i) (.int j) = some (.bl (decide (i < j))) := rfl
omit [TabC] in
@[simp] theorem leD_int (i j : Int) : leD (.int i) (.int j) = some (.bl (decide (i ≤ j))) := rfl
omit [TabC] in
@[simp] theorem gtD_int (i j : Int) : gtD (.int i) (.int j) = some (.bl (decide (j < i))) := rfl
omit [TabC] in
@[simp] theorem geD_int (i j : Int) : geD (.int i) (.int j) = some (.bl (decide (j ≤ i))) := rfl
omit [TabC] in
@[simp] theorem negD_int (i : Int) : negD (.int i) = some (.int (-i)) := rfl
end DL
namespace DL
open PySem
variable [TabC]
omit [TabC] in
def np : Sl → Prop
  | .p _ => False
  | _ => True
omit [TabC] in
def pl : Sl → Prop
  | .p _ => False
  | .o _ => False
  | _ => True
omit [TabC] in
@[simp] theorem np_e : np .e := trivial
omit [TabC] in
@[simp] theorem np_v (d : D) : np (.v d) := trivial
omit [TabC] in
@[simp] theorem np_o (d : D) : np (.o d) := trivial
omit [TabC] in
@[simp] theorem pl_e : pl .e := trivial
omit [TabC] in
@[simp] theorem pl_v (d : D) : pl (.v d) := trivial
omit [TabC] in
theorem pl.np {s : Sl} (h : pl s) : np s := by cases s <;> trivial
omit [TabC] in
@[simp] theorem stO_v {ρ : Env} {i : Nat} {d : D} (h : ρ[i]? = some (.o d)) : stO ρ i = some d := by unfold stO; rw [h]
omit [TabC] in
def kBor (ρ : Env) (p : D × Env) : Option (D × Env) := if scalD p.1 then some (p.1, ρ) else none
omit [TabC] in
@[simp] theorem eBor_ap (m : EM) (ρ : Env) : eBor m ρ = (m (ρ.map vwS)).bind (kBor ρ) := rfl
omit [TabC] in
@[simp] theorem kBor_bl (ρ ρ' : Env) (b : Bool) : kBor ρ (.bl b, ρ') = some (.bl b, ρ) := rfl
omit [TabC] in
@[simp] theorem kBor_int (ρ ρ' : Env) (b : Int) : kBor ρ (.int b, ρ') = some (.int b, ρ) := rfl
omit [TabC] in
@[simp] theorem kBor_non (ρ ρ' : Env) : kBor ρ (.non, ρ') = some (.non, ρ) := rfl
omit [TabC] in
@[simp] theorem tBor_ap (m : TM) (ρ : Env) : tBor m ρ = (m (ρ.map vwS)).map fun p => (p.1, ρ) := rfl
omit [TabC] in
@[simp] theorem vwS_o (d : D) : vwS (.o d) = .v d := rfl
omit [TabC] in
@[simp] theorem vwS_v (d : D) : vwS (.v d) = .v d := rfl
omit [TabC] in
@[simp] theorem vwS_e : vwS .e = .e := rfl
omit [TabC] in
@[simp] theorem vwS_p (d : D) : vwS (.p d) = .e := rfl
omit [TabC] in
def kMut2 (i : Nat) (f : D → List D → Option (D × D)) (p : List Arg × Env) : Option (D × Env) := (vals p.1).bind fun ds => (stO p.2 i).bind fun d => (f d ds).map fun z => (z.1, setO i z.2 p.2)
omit [TabC] in
theorem eMut_ap {T : String} {i : Nat} {f : D → List D → Option (D × D)} {a : AM} {ρ : Env} {d : D} (h : stO ρ i = some d) (hk : isK T d = true) : eMut T i f a ρ = (a ρ).bind (kMut2 i f) := by
  unfold eMut; rw [h]
  show (if isK T d = true then _ else none) = _
  rw [if_pos hk]; rfl
omit [TabC] in
@[simp] theorem kMut2_ap (i : Nat) (f : D → List D → Option (D × D)) (l : List Arg) (ρ : Env) : kMut2 i f (l, ρ) = (vals l).bind fun ds => (stO ρ i).bind fun d => (f d ds).map fun z => (z.1, setO i z.2 ρ) := rfl
omit [TabC] in
def kMthV2 (f : D → List D → Option D) (d : D) (p : List Arg × Env) : Option (D × Env) := (vals p.1).bind fun ds => pr p.2 (f d ds)
omit [TabC] in
@[simp] theorem kMthV2_ap (f : D → List D → Option D) (d : D) (l : List Arg) (ρ : Env) : kMthV2 f d (l, ρ) = (vals l).bind fun ds => pr ρ (f d ds) := rfl
omit [TabC] in
def kMthV (T : String) (f : D → List D → Option D) (a : AM) (p : D × Env) : Option (D × Env) := if isT T p.1 then (a p.2).bind (kMthV2 f p.1) else none
omit [TabC] in
@[simp] theorem eMthV_ap (T : String) (f : D → List D → Option D) (m : EM) (a : AM) (ρ : Env) : eMthV T f m a ρ = (m ρ).bind (kMthV T f a) := rfl
omit [TabC] in
@[simp] theorem kMthV_l (f : D → List D → Option D) (a : AM) (ds : List D) (ρ : Env) : kMthV "list" f a (.lst ds, ρ) = (a ρ).bind (kMthV2 f (.lst ds)) := rfl
omit [TabC] in
theorem okD_lst {n : Nat} {ds : List D} : okD (n + 1) (.lst ds) = okDs n ds := by rw [okD]
omit [TabC] in
theorem okD_tup {n : Nat} {ds : List D} : okD (n + 1) (.tup ds) = okDs n ds := by rw [okD]
omit [TabC] in
@[simp] theorem okD_int {n : Nat} {i : Int} : okD n (.int i) = true := by cases n <;> rfl
omit [TabC] in
@[simp] theorem okD_bl {n : Nat} {i : Bool} : okD n (.bl i) = true := by cases n <;> rfl
omit [TabC] in
@[simp] theorem okD_non {n : Nat} : okD n .non = true := by cases n <;> rfl
omit [TabC] in
theorem ints_map : ∀ xs : List Int, ints? (xs.map .int) = some xs
  | [] => rfl
  | x :: xs => by show (ints? (xs.map .int)).map _ = _; rw [ints_map xs]; rfl
end DL
namespace DL
open PySem
inductive Pk where
  | z | x | y | v (d : D) | o (d : D) | p (d : D)
def Pk.Is : Pk → Sl → Prop
  | .z, _ => True
  | .x, s => pl s
  | .y, s => np s
  | .v d, s => s = .v d
  | .o d, s => s = .o d
  | .p d, s => s = .p d
def Mt : List Pk → Env → Prop
  | [], [] => True
  | k :: P, s :: ρ => k.Is s ∧ Mt P ρ
  | _, _ => False
/-- what may be forgotten of a slot -/
def Pk.Le : Pk → Pk → Prop
  | _, .z => True
  | .x, .x => True
  | .v _, .x => True
  | .x, .y => True
  | .y, .y => True
  | .v _, .y => True
  | .o _, .y => True
  | .v d, .v e => d = e
  | .o d, .o e => d = e
  | .p d, .p e => d = e
  | _, _ => False
def Wk : List Pk → List Pk → Prop
  | [], [] => True
  | k :: P, l :: Q => k.Le l ∧ Wk P Q
  | _, _ => False
theorem Pk.Le.is {k l : Pk} {s : Sl} (h : k.Le l) (m : k.Is s) : l.Is s := by
  cases k <;> cases l <;> simp only [Pk.Le] at h <;> simp only [Pk.Is] at m ⊢ <;> first | trivial | (subst h; exact m) | (subst m; trivial) | exact m | exact m.np | exact h.elim
theorem Mt.wk : ∀ {P Q : List Pk} {ρ : Env}, Mt P ρ → Wk P Q → Mt Q ρ
  | [], [], [], _, _ => trivial
  | k :: P, l :: Q, s :: ρ, ⟨h1, h2⟩, ⟨w1, w2⟩ => ⟨w1.is h1, Mt.wk h2 w2⟩
  | [], [], _ :: _, h, _ => h.elim
  | _ :: _, _ :: _, [], h, _ => h.elim
  | [], _ :: _, _, _, h => h.elim
  | _ :: _, [], _, _, h => h.elim
theorem Mt.get : ∀ {P : List Pk} {ρ : Env} {i : Nat} {k : Pk}, Mt P ρ → P[i]? = some k → ∃ s, ρ[i]? = some s ∧ k.Is s
  | [], [], i, k, _, h => by simp at h
  | k' :: P, s :: ρ, 0, k, ⟨h1, _⟩, h => by cases h; exact ⟨s, rfl, h1⟩
  | k' :: P, s :: ρ, i + 1, k, ⟨_, h2⟩, h => by
    obtain ⟨s', e, q⟩ := Mt.get (i := i) (k := k) h2 (by simpa using h)
    exact ⟨s', by simpa using e, q⟩
  | [], _ :: _, _, _, h, _ => h.elim
  | _ :: _, [], _, _, h, _ => h.elim
theorem Mt.set : ∀ {P : List Pk} {ρ : Env} {i : Nat} {k : Pk} {s : Sl}, Mt P ρ → k.Is s → Mt (P.set i k) (ρ.set i s)
  | [], [], i, k, s, _, h => by simp [Mt]
  | k' :: P, s' :: ρ, 0, k, s, ⟨_, h2⟩, h => ⟨h, h2⟩
  | k' :: P, s' :: ρ, i + 1, k, s, ⟨h1, h2⟩, h => ⟨h1, Mt.set h2 h⟩
  | [], _ :: _, _, _, _, h, _ => h.elim
  | _ :: _, [], _, _, _, h, _ => h.elim
theorem Mt.getD {P : List Pk} {ρ : Env} {i : Nat} {d : D} (h : Mt P ρ) (e : P[i]? = some (.p d)) : ρ.getD i .e = .p d := by
  obtain ⟨s, e1, e2⟩ := h.get e
  cases e2
  simp [e1]
def vwP : Pk → Pk
  | .o d => .v d
  | .v d => .v d
  | .p _ => .x
  | .x => .x
  | .y => .x
  | .z => .x
theorem Mt.vw : ∀ {P : List Pk} {ρ : Env}, Mt P ρ → Mt (P.map vwP) (ρ.map vwS)
  | [], [], _ => trivial
  | k :: P, s :: ρ, ⟨h1, h2⟩ => by
    refine ⟨?_, Mt.vw h2⟩
    cases k <;> simp only [Pk.Is, vwP] at h1 ⊢
    · cases s <;> trivial
    · cases s <;> first | trivial | exact h1.elim
    · cases s <;> first | trivial | exact h1.elim
    all_goals subst h1; first | rfl | trivial
  | [], _ :: _, h => h.elim
  | _ :: _, [], h => h.elim
def XE (P : List Pk) (m : EM) (d : D) (P' : List Pk) : Prop := ∀ ρ, Mt P ρ → ∃ ρ', m ρ = some (d, ρ') ∧ Mt P' ρ'
def XT (P : List Pk) (m : TM) (d : Bool) (P' : List Pk) : Prop := ∀ ρ, Mt P ρ → ∃ ρ', m ρ = some (d, ρ') ∧ Mt P' ρ'
def XA (P : List Pk) (m : AM) (d : List Arg) (P' : List Pk) : Prop := ∀ ρ, Mt P ρ → ∃ ρ', m ρ = some (d, ρ') ∧ Mt P' ρ'
def XI (P : List Pk) (m : IM) (d : List D) (P' : List Pk) : Prop := ∀ ρ, Mt P ρ → ∃ ρ', m ρ = some (d, ρ') ∧ Mt P' ρ'
def XO (P : List Pk) (m : OM) (d : Option Int) (P' : List Pk) : Prop := ∀ ρ, Mt P ρ → ∃ ρ', m ρ = some (d, ρ') ∧ Mt P' ρ'
def XG (P : List Pk) (g : GM) (d : D) (P' : List Pk) : Prop := ∀ ρ, Mt P ρ → ∃ ρ', g d ρ = some ρ' ∧ Mt P' ρ'
def XGs (P : List Pk) (g : List D → Env → Option Env) (d : List D) (P' : List Pk) : Prop := ∀ ρ, Mt P ρ → ∃ ρ', g d ρ = some ρ' ∧ Mt P' ρ'
def WS (P : List Pk) (m : SM) (Q : Out → Prop) : Prop := ∀ ρ, Mt P ρ → ∃ o, m ρ = some o ∧ Q o
def NxQ (P : List Pk) (o : Out) : Prop := ∃ ρ, o = .nx ρ ∧ Mt P ρ
theorem bd {α β : Type} {x : Option α} {f : α → Option β} {r : β} (h : x.bind f = some r) : ∃ a, x = some a ∧ f a = some r := by
  cases x with
  | none => cases h
  | some a => exact ⟨a, rfl, h⟩
def asB : D → Option Bool
  | .bl b => some b
  | _ => none
def asI : D → Option Int
  | .int i => some i
  | _ => none
def notD : D → Option D
  | .bl b => some (.bl (!b))
  | _ => none
def scG (d : D) : Option D := if scalD d then some d else none
def unL : D → Option (List D)
  | .lst ds => some ds
  | .tup ds => some ds
  | _ => none
def un1 : D → Option D
  | .tup [a] => some a
  | _ => none
def un2 : D → Option (D × D)
  | .tup [a, b] => some (a, b)
  | _ => none
def un3 : D → Option (D × D × D)
  | .tup [a, b, c] => some (a, b, c)
  | _ => none
def un4 : D → Option (D × D × D × D)
  | .tup [a, b, c, d] => some (a, b, c, d)
  | _ => none
def un5 : D → Option (D × D × D × D × D)
  | .tup [a, b, c, d, e] => some (a, b, c, d, e)
  | _ => none
@[simp] theorem asB_bl (b : Bool) : asB (.bl b) = some b := rfl
@[simp] theorem asI_int (b : Int) : asI (.int b) = some b := rfl
@[simp] theorem notD_bl (b : Bool) : notD (.bl b) = some (.bl (!b)) := rfl
@[simp] theorem scG_bl (b : Bool) : scG (.bl b) = some (.bl b) := rfl
@[simp] theorem scG_int (b : Int) : scG (.int b) = some (.int b) := rfl
@[simp] theorem scG_str (b : Str) : scG (.str b) = some (.str b) := rfl
@[simp] theorem scG_non : scG .non = some .non := rfl
@[simp] theorem unL_l (ds : List D) : unL (.lst ds) = some ds := rfl
@[simp] theorem unL_t (ds : List D) : unL (.tup ds) = some ds := rfl
@[simp] theorem un1_t (a : D) : un1 (.tup [a]) = some a := rfl
@[simp] theorem un2_t (a b : D) : un2 (.tup [a, b]) = some (a, b) := rfl
@[simp] theorem un3_t (a b c : D) : un3 (.tup [a, b, c]) = some (a, b, c) := rfl
@[simp] theorem un4_t (a b c d : D) : un4 (.tup [a, b, c, d]) = some (a, b, c, d) := rfl
@[simp] theorem un5_t (a b c d e : D) : un5 (.tup [a, b, c, d, e]) = some (a, b, c, d, e) := rfl
theorem un2_e {d a b : D} (h : un2 d = some (a, b)) : d = .tup [a, b] := by
  unfold un2 at h; split at h <;> cases h; rfl
theorem asB_e {d : D} {b : Bool} (h : asB d = some b) : d = .bl b := by cases d <;> cases h; rfl
section
variable {P P1 P2 P3 P' : List Pk} {m ma mb mc : EM} {d a b c e : D} {tm tma tmb : TM} {am : AM} {as bs : List Arg} {ds : List D} {Q : Out → Prop} {i j l : Nat} {k : Bool}
theorem XE.cst : XE P (eC d) d P := fun ρ h => ⟨ρ, rfl, h⟩
theorem XE.var (h : P[i]? = some (.v d)) : XE P (eVar i) d P := fun ρ m => by
  obtain ⟨s, e, q⟩ := m.get h
  cases q
  exact ⟨ρ, by simp [e], m⟩
theorem XE.varO (h : P[i]? = some (.o d)) : XE P (eVar i) d (P.set i (.v d)) := fun ρ m => by
  obtain ⟨s, e, q⟩ := m.get h
  cases q
  exact ⟨ρ.set i (.v d), by simp [e], m.set rfl⟩
theorem XE.op1 {f : D → Option D} (h : XE P ma a P1) (e : f a = some b) : XE P (eOp1 f ma) b P1 := fun ρ m => by
  obtain ⟨ρ1, h1, m1⟩ := h ρ m
  exact ⟨ρ1, by simp [h1, e], m1⟩
theorem XE.op2 {f : D → D → Option D} (h : XE P ma a P1) (g : XE P1 mb b P2) (e : f a b = some c) : XE P (eOp2 f ma mb) c P2 := fun ρ m => by
  obtain ⟨ρ1, h1, m1⟩ := h ρ m
  obtain ⟨ρ2, h2, m2⟩ := g ρ1 m1
  exact ⟨ρ2, by simp [h1, h2, e], m2⟩
theorem XE.not (h : XE P ma a P1) (e : notD a = some b) : XE P (eNot ma) b P1 := fun ρ m => by
  obtain ⟨ρ1, h1, m1⟩ := h ρ m
  refine ⟨ρ1, ?_, m1⟩
  cases a <;> cases e
  simp [h1]
theorem XE.andT (h : XE P ma a P1) (e : asB a = some true) (g : XE P1 mb b P2) : XE P (eAnd ma mb) b P2 := fun ρ m => by
  obtain ⟨ρ1, h1, m1⟩ := h ρ m
  obtain ⟨ρ2, h2, m2⟩ := g ρ1 m1
  cases asB_e e
  exact ⟨ρ2, by simp [h1, h2], m2⟩
theorem XE.andF (h : XE P ma a P1) (e : asB a = some false) : XE P (eAnd ma mb) (.bl false) P1 := fun ρ m => by
  obtain ⟨ρ1, h1, m1⟩ := h ρ m
  cases asB_e e
  exact ⟨ρ1, by simp [h1], m1⟩
theorem XE.orF (h : XE P ma a P1) (e : asB a = some false) (g : XE P1 mb b P2) : XE P (eOr ma mb) b P2 := fun ρ m => by
  obtain ⟨ρ1, h1, m1⟩ := h ρ m
  obtain ⟨ρ2, h2, m2⟩ := g ρ1 m1
  cases asB_e e
  exact ⟨ρ2, by simp [h1, h2], m2⟩
theorem XE.orT (h : XE P ma a P1) (e : asB a = some true) : XE P (eOr ma mb) (.bl true) P1 := fun ρ m => by
  obtain ⟨ρ1, h1, m1⟩ := h ρ m
  cases asB_e e
  exact ⟨ρ1, by simp [h1], m1⟩
theorem XE.ifT (h : XT P tm true P1) (g : XE P1 ma a P2) : XE P (eIf tm ma mb) a P2 := fun ρ m => by
  obtain ⟨ρ1, h1, m1⟩ := h ρ m
  obtain ⟨ρ2, h2, m2⟩ := g ρ1 m1
  exact ⟨ρ2, by simp [h1, h2], m2⟩
theorem XE.ifF (h : XT P tm false P1) (g : XE P1 mb a P2) : XE P (eIf tm ma mb) a P2 := fun ρ m => by
  obtain ⟨ρ1, h1, m1⟩ := h ρ m
  obtain ⟨ρ2, h2, m2⟩ := g ρ1 m1
  exact ⟨ρ2, by simp [h1, h2], m2⟩
theorem XT.bb (h : XE P ma a P1) (e : asB a = some k) : XT P (tB ma) k P1 := fun ρ m => by
  obtain ⟨ρ1, h1, m1⟩ := h ρ m
  cases asB_e e
  exact ⟨ρ1, by simp [h1], m1⟩
theorem XT.not (h : XT P tm k P1) : XT P (tNot tm) (!k) P1 := fun ρ m => by
  obtain ⟨ρ1, h1, m1⟩ := h ρ m
  exact ⟨ρ1, by simp [h1], m1⟩
theorem XT.andT (h : XT P tma true P1) (g : XT P1 tmb k P2) : XT P (tAnd tma tmb) k P2 := fun ρ m => by
  obtain ⟨ρ1, h1, m1⟩ := h ρ m
  obtain ⟨ρ2, h2, m2⟩ := g ρ1 m1
  exact ⟨ρ2, by simp [h1, h2], m2⟩
theorem XT.andF (h : XT P tma false P1) : XT P (tAnd tma tmb) false P1 := fun ρ m => by
  obtain ⟨ρ1, h1, m1⟩ := h ρ m
  exact ⟨ρ1, by simp [h1], m1⟩
theorem XT.orF (h : XT P tma false P1) (g : XT P1 tmb k P2) : XT P (tOr tma tmb) k P2 := fun ρ m => by
  obtain ⟨ρ1, h1, m1⟩ := h ρ m
  obtain ⟨ρ2, h2, m2⟩ := g ρ1 m1
  exact ⟨ρ2, by simp [h1, h2], m2⟩
theorem XT.orT (h : XT P tma true P1) : XT P (tOr tma tmb) true P1 := fun ρ m => by
  obtain ⟨ρ1, h1, m1⟩ := h ρ m
  exact ⟨ρ1, by simp [h1], m1⟩
theorem XT.tt : XT P tTrue true P := fun ρ m => ⟨ρ, rfl, m⟩
theorem XA.nil : XA P aNil [] P := fun ρ m => ⟨ρ, rfl, m⟩
theorem XA.cons (h : XE P ma a P1) (g : XA P1 am as P2) : XA P (aCons ma am) (.val a :: as) P2 := fun ρ m => by
  obtain ⟨ρ1, h1, m1⟩ := h ρ m
  obtain ⟨ρ2, h2, m2⟩ := g ρ1 m1
  exact ⟨ρ2, by simp [h1, h2], m2⟩
def isSlot : Option Pk → Bool
  | some (.o _) => true
  | some (.p _) => true
  | _ => false
theorem XA.sl (h : isSlot P[i]? = true) (g : XA P am as P2) : XA P (aSl i am) (.slot i :: as) P2 := fun ρ m => by
  obtain ⟨ρ2, h2, m2⟩ := g ρ m
  refine ⟨ρ2, ?_, m2⟩
  cases e : P[i]? with
  | none => rw [e] at h; cases h
  | some k =>
    rw [e] at h
    obtain ⟨s, es, q⟩ := m.get e
    cases k with
    | o d => cases q; simp [es, h2]
    | p d => cases q; simp [es, h2]
    | _ => cases h
theorem XE.callV {f : List D → Option D} (h : XA P am as P1) (hv : vals as = some ds) (e : f ds = some a) : XE P (eCallV f am) a P1 := fun ρ m => by
  obtain ⟨ρ1, h1, m1⟩ := h ρ m
  exact ⟨ρ1, by simp [h1, hv, e], m1⟩
def argP (P : List Pk) : List Arg → Option (List Sl)
  | [] => some []
  | .val d :: r => (argP P r).map (.v d :: ·)
  | .slot i :: r => match P[i]? with
    | some (.o d) => (argP P r).map (.p d :: ·)
    | some (.p d) => (argP P r).map (.p d :: ·)
    | _ => none
def setP (i : Nat) (d : D) (P : List Pk) : List Pk := match P[i]? with
  | some (.o _) => P.set i (.o d)
  | some (.p _) => P.set i (.p d)
  | _ => P
def wbkP : List Arg → List Sl → List Pk → Option (List Pk)
  | [], [], P => some P
  | .val _ :: r, _ :: ss, P => wbkP r ss P
  | .slot i :: r, .p d :: ss, P => wbkP r ss (setP i d P)
  | _, _, _ => none
theorem argP_ok {ρ : Env} (m : Mt P ρ) : ∀ {as : List Arg} {ss : List Sl}, argP P as = some ss → argS ρ as = some ss
  | [], _, h => h
  | .val d :: r, ss, h => by
    unfold argP at h; unfold argS
    cases e : argP P r with
    | none => rw [e] at h; cases h
    | some l => rw [e] at h; rw [argP_ok m e]; exact h
  | .slot i :: r, ss, h => by
    unfold argP at h; unfold argS
    cases e : argP P r with
    | none => rw [e] at h; split at h <;> cases h
    | some l =>
      rw [e] at h
      cases q : P[i]? with
      | none => rw [q] at h; cases h
      | some k =>
        obtain ⟨s, es, z⟩ := m.get q
        rw [q] at h
        cases k with
        | o d => cases z; rw [es, argP_ok m e]; exact h
        | p d => cases z; rw [es, argP_ok m e]; exact h
        | _ => cases h
theorem setP_ok {ρ : Env} {i : Nat} {d : D} (m : Mt P ρ) (h : isSlot P[i]? = true) : Mt (setP i d P) (setO i d ρ) := by
  unfold setP setO
  cases e : P[i]? with
  | none => rw [e] at h; cases h
  | some k =>
    rw [e] at h
    obtain ⟨s, es, q⟩ := m.get e
    cases k with
    | o d => cases q; rw [es]; exact m.set rfl
    | p d => cases q; rw [es]; exact m.set rfl
    | _ => cases h
theorem setP_slot {i j : Nat} {d : D} (h : isSlot P[j]? = true) : isSlot (setP i d P)[j]? = true := by
  unfold setP
  have key : ∀ k : Pk, isSlot (some k) = true → isSlot ((P.set i k)[j]?) = true := fun k hk => by
    rw [List.getElem?_set]
    by_cases q : i = j
    · subst q
      rw [if_pos rfl]
      by_cases r : i < P.length
      · rw [if_pos r]; exact hk
      · rw [List.getElem?_eq_none (by omega)] at h; cases h
    · rw [if_neg q]; exact h
  split
  · exact key _ rfl
  · exact key _ rfl
  · exact h
theorem wbkP_ok : ∀ {as : List Arg} {ss : List Sl} {P : List Pk} {ρ : Env}, (∀ i, Arg.slot i ∈ as → isSlot P[i]? = true) → Mt P ρ → wbkP as ss P = some P1 → ∃ ρ1, wbk as ss ρ = some ρ1 ∧ Mt P1 ρ1
  | [], [], P, ρ, _, m, h => by cases h; exact ⟨ρ, rfl, m⟩
  | [], _ :: _, _, _, _, _, h => by cases h
  | .val _ :: r, [], _, _, _, _, h => by cases h
  | .slot _ :: r, [], _, _, _, _, h => by cases h
  | .val d :: r, s :: ss, P, ρ, hs, m, h => wbkP_ok (as := r) (ss := ss) (fun i hi => hs i (List.mem_cons_of_mem _ hi)) m h
  | .slot i :: r, s :: ss, P, ρ, hs, m, h => by
    cases s with
    | p d => exact wbkP_ok (as := r) (ss := ss) (P := setP i d P) (ρ := setO i d ρ) (fun j hj => setP_slot (hs j (List.mem_cons_of_mem _ hj))) (setP_ok m (hs i List.mem_cons_self)) h
    | _ => cases h
theorem argP_slot : ∀ {as : List Arg} {ss : List Sl}, argP P as = some ss → ∀ i, Arg.slot i ∈ as → isSlot P[i]? = true
  | [], _, _, i, h => by cases h
  | .val d :: r, ss, h, i, hi => by
    unfold argP at h
    cases e : argP P r with
    | none => rw [e] at h; cases h
    | some l =>
      rcases List.mem_cons.mp hi with q | q
      · cases q
      · exact argP_slot e i q
  | .slot j :: r, ss, h, i, hi => by
    unfold argP at h
    cases e : argP P r with
    | none => rw [e] at h; split at h <;> cases h
    | some l =>
      rcases List.mem_cons.mp hi with q | q
      · cases q
        split at h
        · rename_i x e; rw [e]; rfl
        · rename_i x e; rw [e]; rfl
        · cases h
      · exact argP_slot e i q
theorem XE.kcall {fn : FnSem} {ss ss' : List Sl} (hn : (slotsOf as).Nodup) (ha : argP P as = some ss) (hf : fn ss = some (d, ss')) (hw : wbkP as ss' P = some P1) : ∀ ρ, Mt P ρ → ∃ ρ', kCall fn (as, ρ) = some (d, ρ') ∧ Mt P1 ρ' := fun ρ m => by
  obtain ⟨ρ1, h1, m1⟩ := wbkP_ok (argP_slot ha) m hw
  refine ⟨ρ1, ?_, m1⟩
  unfold kCall
  rw [if_pos hn]
  simp [argP_ok m ha, hf, h1]
theorem XE.call {fn : FnSem} {ss ss' : List Sl} (h : XA P am as P1) (hn : (slotsOf as).Nodup) (ha : argP P1 as = some ss) (hf : fn ss = some (d, ss')) (hw : wbkP as ss' P1 = some P2) : XE P (eCall fn am) d P2 := fun ρ m => by
  obtain ⟨ρ1, h1, m1⟩ := h ρ m
  obtain ⟨ρ2, h2, m2⟩ := XE.kcall hn ha hf hw ρ1 m1
  exact ⟨ρ2, by simp [h1, h2], m2⟩
theorem XE.callK {perm : List Nat} {n n' : Nat} {fn : FnSem} {bm : AM} {cs : List Arg} {ss ss' : List Sl} (h : XA P am as P1) (h' : XA P1 bm bs P2) (hp : (decide (as.length = n) && decide (bs.length = n') && perm.all (fun i => decide (i < n + n'))) = true) (hc : permA perm (as ++ bs) = cs)
    (hn : (slotsOf cs).Nodup) (ha : argP P2 cs = some ss) (hf : fn ss = some (d, ss')) (hw : wbkP cs ss' P2 = some P3) : XE P (eCallK perm n n' fn am bm) d P3 := fun ρ m => by
  obtain ⟨ρ1, h1, m1⟩ := h ρ m
  obtain ⟨ρ2, h2, m2⟩ := h' ρ1 m1
  subst hc
  obtain ⟨ρ3, h3, m3⟩ := XE.kcall hn ha hf hw ρ2 m2
  exact ⟨ρ3, by simp [h1, h2, kCallK3_ap _ _ _ _ _ _ _ hp, h3], m3⟩
theorem XE.callF {fn : FnSem} {ss' : List Sl} (h : XA P am as P1) (hv : vals as = some ds) (hf : fn (ds.map .v) = some (d, ss')) : XE P (eCallF fn am) d P1 := fun ρ m => by
  obtain ⟨ρ1, h1, m1⟩ := h ρ m
  exact ⟨ρ1, by simp [h1, hv, hf], m1⟩
theorem XE.callT {fn : FnSem} {ss' : List Sl} (h : XE P ma a P1) (hf : fn [.p a] = some (d, ss')) : XE P (eCallT fn ma) d P1 := fun ρ m => by
  obtain ⟨ρ1, h1, m1⟩ := h ρ m
  exact ⟨ρ1, by simp [h1, hf], m1⟩
def curP : Option Pk → Option D
  | some (.o d) => some d
  | some (.p d) => some d
  | _ => none
theorem curP_ok {ρ : Env} (m : Mt P ρ) (h : curP P[i]? = some d) : stO ρ i = some d := by
  unfold stO
  cases e : P[i]? with
  | none => rw [e] at h; cases h
  | some k =>
    rw [e] at h
    obtain ⟨s, es, q⟩ := m.get e
    cases k <;> cases h <;> (cases q; rw [es])
theorem curP_slot (h : curP P[i]? = some d) : isSlot P[i]? = true := by
  cases e : P[i]? with
  | none => rw [e] at h; cases h
  | some k => rw [e] at h; cases k <;> first | rfl | cases h
theorem XE.mut {T : String} {f : D → List D → Option (D × D)} {d0 d1 d2 : D} (h0 : curP P[i]? = some d0) (hk : isK T d0 = true) (h : XA P am as P1) (hv : vals as = some ds) (h1 : curP P1[i]? = some d1) (e : f d1 ds = some (a, d2)) (hw : setP i d2 P1 = P2) : XE P (eMut T i f am) a P2 := fun ρ m => by
  obtain ⟨ρ1, q1, m1⟩ := h ρ m
  subst hw
  refine ⟨setO i d2 ρ1, ?_, setP_ok m1 (curP_slot h1)⟩
  rw [eMut_ap (curP_ok m h0) hk]
  simp [q1, hv, curP_ok m1 h1, e]
theorem XE.ixO {d0 d1 : D} (h0 : curP P[i]? = some d0) (h : XE P ma a P1) (h1 : curP P1[i]? = some d1) (e : ixD d1 a = some b) : XE P (eIxO i ma) b P1 := fun ρ m => by
  obtain ⟨ρ1, q1, m1⟩ := h ρ m
  exact ⟨ρ1, by simp [curP_ok m h0, q1, curP_ok m1 h1, e], m1⟩
theorem XO.no : XO P oNo none P := fun ρ m => ⟨ρ, rfl, m⟩
theorem XO.some {n : Int} (h : XE P ma a P1) (e : asI a = some n) : XO P (oSome ma) (some n) P1 := fun ρ m => by
  obtain ⟨ρ1, q1, m1⟩ := h ρ m
  refine ⟨ρ1, ?_, m1⟩
  cases a <;> cases e
  simp [oSome, q1]
theorem XE.slice {lo hi : OM} {n n' : Option Int} (h : XE P ma a P1) (h1 : XO P1 lo n P2) (h2 : XO P2 hi n' P3) (e : sliceD a n n' = some b) : XE P (eSlice ma lo hi) b P3 := fun ρ m => by
  obtain ⟨ρ1, q1, m1⟩ := h ρ m
  obtain ⟨ρ2, q2, m2⟩ := h1 ρ1 m1
  obtain ⟨ρ3, q3, m3⟩ := h2 ρ2 m2
  exact ⟨ρ3, by simp [eSlice, q1, q2, q3, e], m3⟩
theorem XI.seq (h : XE P ma a P1) (e : unL a = some ds) : XI P (iSeq ma) ds P1 := fun ρ m => by
  obtain ⟨ρ1, q1, m1⟩ := h ρ m
  refine ⟨ρ1, ?_, m1⟩
  cases a <;> cases e <;> simp [q1]
theorem XI.arg {f : List Arg → Option (List D)} (h : XA P am as P1) (e : f as = some ds) : XI P (iArg f am) ds P1 := fun ρ m => by
  obtain ⟨ρ1, q1, m1⟩ := h ρ m
  exact ⟨ρ1, by simp [q1, e], m1⟩
def canV : Option Pk → Bool
  | some .x => true
  | some .y => true
  | some (.v _) => true
  | some (.o _) => true
  | _ => false
theorem putV_ok {ρ : Env} (m : Mt P ρ) (h : canV P[i]? = true) : putV i d ρ = some (ρ.set i (.v d)) := by
  unfold putV
  cases e : P[i]? with
  | none => rw [e] at h; cases h
  | some k =>
    rw [e] at h
    obtain ⟨s, es, q⟩ := m.get e
    rw [es]
    cases k <;> first | (cases h; done) | (cases s <;> first | rfl | exact q.elim | cases q)
theorem putO_ok {ρ : Env} (m : Mt P ρ) (h : canV P[i]? = true) : putO i d ρ = some (ρ.set i (.o d)) := by
  unfold putO
  cases e : P[i]? with
  | none => rw [e] at h; cases h
  | some k =>
    rw [e] at h
    obtain ⟨s, es, q⟩ := m.get e
    rw [es]
    cases k <;> first | (cases h; done) | (cases s <;> first | rfl | exact q.elim | cases q)
theorem XG.v (h : canV P[i]? = true) : XG P (gV i) d (P.set i (.v d)) := fun ρ m => ⟨_, putV_ok m h, m.set rfl⟩
theorem XGs.nil : XGs P gNil [] P := fun ρ m => ⟨ρ, rfl, m⟩
theorem XGs.cons {g : GM} {gs : List D → Env → Option Env} (h : XG P g d P1) (h' : XGs P1 gs ds P2) : XGs P (gCons g gs) (d :: ds) P2 := fun ρ m => by
  obtain ⟨ρ1, q1, m1⟩ := h ρ m
  obtain ⟨ρ2, q2, m2⟩ := h' ρ1 m1
  exact ⟨ρ2, by simp [q1, q2], m2⟩
theorem XG.t {gs : List D → Env → Option Env} (h : XGs P gs ds P1) (e : d = .tup ds) : XG P (gT gs) d P1 := fun ρ m => by
  obtain ⟨ρ1, q1, m1⟩ := h ρ m
  subst e
  exact ⟨ρ1, by simp [q1], m1⟩
end
end DL
namespace DL
open PySem
section
variable {P P1 P2 P3 P' Pw : List Pk} {m ma mb mc : EM} {d a b c e : D} {tm tma tmb : TM} {am : AM} {as bs : List Arg} {ds : List D} {Q : Out → Prop} {i j l : Nat} {k : Bool} {s s1 s2 s3 : SM} {g : GM}
theorem WS.seq (h : WS P s1 (NxQ P1)) (h2 : WS P1 s2 Q) : WS P (sSeq s1 s2) Q := fun ρ m => by
  obtain ⟨o, e, ρ1, rfl, m1⟩ := h ρ m
  obtain ⟨o2, e2, q⟩ := h2 ρ1 m1
  exact ⟨o2, by simp [e, e2], q⟩
theorem WS.assoc (h : WS P (sSeq s1 (sSeq s2 s3)) Q) : WS P (sSeq (sSeq s1 s2) s3) Q := fun ρ m => by
  obtain ⟨o, e, q⟩ := h ρ m
  refine ⟨o, ?_, q⟩
  rw [sSeq_ap] at e ⊢
  rw [sSeq_ap]
  cases e1 : s1 ρ with
  | none => rw [e1] at e; cases e
  | some o1 =>
    rw [e1] at e
    cases o1 with
    | nx ρ1 => simpa using e
    | _ => simpa using e
theorem WS.tail (h : WS P (sSeq s sSkip) Q) : WS P s Q := fun ρ m => by
  obtain ⟨o, e, q⟩ := h ρ m
  refine ⟨o, ?_, q⟩
  rw [sSeq_ap] at e
  cases e1 : s ρ with
  | none => rw [e1] at e; cases e
  | some o1 => rw [e1] at e; cases o1 <;> exact e
theorem WS.skip (h : ∀ ρ, Mt P ρ → Q (.nx ρ)) : WS P sSkip Q := fun ρ m => ⟨_, rfl, h ρ m⟩
theorem WS.skipS (h : WS P s Q) : WS P (sSeq sSkip s) Q := fun ρ m => by
  obtain ⟨o, e, q⟩ := h ρ m
  exact ⟨o, by simp [e], q⟩
theorem NxQ.wk (w : Wk P P1) : ∀ ρ, Mt P ρ → NxQ P1 (.nx ρ) := fun ρ m => ⟨ρ, rfl, m.wk w⟩
theorem WS.set (h : XE P ma a P1) (c : canV P1[i]? = true) : WS P (sSet i ma) (NxQ (P1.set i (.v a))) := fun ρ m => by
  obtain ⟨ρ1, q1, m1⟩ := h ρ m
  exact ⟨.nx (ρ1.set i (.v a)), by simp [q1, putV_ok m1 c], _, rfl, m1.set rfl⟩
theorem WS.own (h : XE P ma a P1) (c : canV P1[i]? = true) : WS P (sSetO i ma) (NxQ (P1.set i (.o a))) := fun ρ m => by
  obtain ⟨ρ1, q1, m1⟩ := h ρ m
  exact ⟨.nx (ρ1.set i (.o a)), by simp [q1, putO_ok m1 c], _, rfl, m1.set rfl⟩
theorem WS.drop (h : XE P ma a P1) : WS P (sDrop ma) (NxQ P1) := fun ρ m => by
  obtain ⟨ρ1, q1, m1⟩ := h ρ m
  exact ⟨.nx ρ1, by simp [q1], _, rfl, m1⟩
theorem WS.asg (h : XE P ma a P1) (g' : XG P1 g a P2) : WS P (sAsg ma g) (NxQ P2) := fun ρ m => by
  obtain ⟨ρ1, q1, m1⟩ := h ρ m
  obtain ⟨ρ2, q2, m2⟩ := g' ρ1 m1
  exact ⟨.nx ρ2, by simp [q1, q2], _, rfl, m2⟩
theorem canV_set {d : D} (h : canV P[j]? = true) : canV (P.set i (.v d))[j]? = true := by
  rw [List.getElem?_set]
  by_cases q : i = j
  · subst q
    rw [if_pos rfl]
    by_cases r : i < P.length
    · rw [if_pos r]; rfl
    · rw [List.getElem?_eq_none (by omega)] at h; cases h
  · rw [if_neg q]; exact h
theorem WS.par {x y : D} (h : XA P am [.val x, .val y] P1) (c1 : canV P1[i]? = true) (c2 : canV P1[j]? = true) : WS P (sPar i j am) (NxQ ((P1.set i (.v x)).set j (.v y))) := fun ρ m => by
  obtain ⟨ρ1, q1, m1⟩ := h ρ m
  have m2 : Mt (P1.set i (.v x)) (ρ1.set i (.v x)) := m1.set rfl
  refine ⟨.nx ((ρ1.set i (.v x)).set j (.v y)), ?_, _, rfl, m2.set rfl⟩
  simp [q1, putV_ok m1 c1, putV_ok m2 (canV_set c2)]
theorem WS.store {T : String} {f : D → D → D → Option D} {mi : EM} {d0 d1 : D} (h : XE P ma a P1) (h0 : curP P1[i]? = some d0) (hi : XE P1 mi b P2) (h1 : curP P2[i]? = some d1) (e : f d1 b a = some c) (hw : setP i c P2 = P3) : WS P (sStore T i f mi ma) (NxQ P3) := fun ρ m => by
  obtain ⟨ρ1, q1, m1⟩ := h ρ m
  obtain ⟨ρ2, q2, m2⟩ := hi ρ1 m1
  subst hw
  exact ⟨.nx (setO i c ρ2), by simp [q1, curP_ok m1 h0, q2, curP_ok m2 h1, e], _, rfl, setP_ok m2 (curP_slot h1)⟩
theorem WS.ret (h : XE P ma a P1) (q : ∀ ρ, Mt P1 ρ → Q (.rt a ρ)) : WS P (sRet ma) Q := fun ρ m => by
  obtain ⟨ρ1, q1, m1⟩ := h ρ m
  exact ⟨.rt a ρ1, by simp [q1], q ρ1 m1⟩
theorem WS.retF (h : XE P ma a P1) (q : ∀ ρ, Mt P1 ρ → Q (.rf a ρ)) : WS P (sRetF ma) Q := fun ρ m => by
  obtain ⟨ρ1, q1, m1⟩ := h ρ m
  exact ⟨.rf a ρ1, by simp [q1], q ρ1 m1⟩
theorem WS.bk (q : ∀ ρ, Mt P ρ → Q (.bk ρ)) : WS P (fun ρ => some (.bk ρ)) Q := fun ρ m => ⟨_, rfl, q ρ m⟩
theorem WS.ct (q : ∀ ρ, Mt P ρ → Q (.ct ρ)) : WS P (fun ρ => some (.ct ρ)) Q := fun ρ m => ⟨_, rfl, q ρ m⟩
theorem WS.if_ (h : XT P tm k P1) (h1 : k = true → WS P1 s1 Q) (h2 : k = false → WS P1 s2 Q) : WS P (sIf tm s1 s2) Q := fun ρ m => by
  obtain ⟨ρ1, q1, m1⟩ := h ρ m
  cases k with
  | true =>
    obtain ⟨o, e, q⟩ := h1 rfl ρ1 m1
    exact ⟨o, by simp [q1, e], q⟩
  | false =>
    obtain ⟨o, e, q⟩ := h2 rfl ρ1 m1
    exact ⟨o, by simp [q1, e], q⟩
theorem WS.ifS (h : XT P tm k P1) (h1 : k = true → WS P1 (sSeq s1 s3) Q) (h2 : k = false → WS P1 (sSeq s2 s3) Q) : WS P (sSeq (sIf tm s1 s2) s3) Q := fun ρ m => by
  obtain ⟨ρ1, q1, m1⟩ := h ρ m
  cases k with
  | true =>
    obtain ⟨o, e, q⟩ := h1 rfl ρ1 m1
    rw [sSeq_ap] at e
    exact ⟨o, by simp [q1, e], q⟩
  | false =>
    obtain ⟨o, e, q⟩ := h2 rfl ρ1 m1
    rw [sSeq_ap] at e
    exact ⟨o, by simp [q1, e], q⟩
def outF (ss : List Sl) : Out → Option (D × List Sl)
  | .rt d ρ => some (d, fin ρ 0 ss)
  | .nx ρ => some (.non, fin ρ 0 ss)
  | .rf d ρ => some (d, fin ρ 0 ss)
  | _ => none
theorem mkFn_of {n k : Nat} {ss : List Sl} {r : D × List Sl} (hl : ss.length = n) (hm : Mt P (ss ++ List.replicate k .e)) (h : WS P s (fun o => outF ss o = some r)) : mkFn n k s ss = some r := by
  obtain ⟨o, e, q⟩ := h _ hm
  unfold mkFn
  rw [if_pos hl, e]
  cases o <;> exact q
def outFF (ss : List Sl) : Out → Option (D × List Sl)
  | .rf d ρ => some (d, fin ρ 0 ss)
  | _ => none
theorem mkFnF_of {n k : Nat} {ss : List Sl} {r : D × List Sl} (hl : ss.length = n) (hm : Mt P (ss ++ List.replicate k .e)) (h : WS P s (fun o => outFF ss o = some r)) : mkFnF n k s ss = some r := by
  obtain ⟨o, e, q⟩ := h _ hm
  unfold mkFnF
  rw [if_pos hl, e]
  cases o <;> exact q
inductive Fl (R τ : Type) where
  | nx (t : τ) | bk (t : τ) | rt (r : R)
end
section
variable {R τ : Type}
def fldN (f : D → τ → Option τ) : List D → τ → Option τ
  | [], t => some t
  | d :: ds, t => (f d t).bind fun t => fldN f ds t
def fldR (f : D → τ → Option (Fl R τ)) : List D → τ → Option (Fl R τ)
  | [], t => some (.nx t)
  | d :: ds, t => (f d t).bind fun r => match r with
    | .nx t => fldR f ds t
    | .bk t => some (.nx t)
    | .rt r => some (.rt r)
variable {P P1 P2 Pw : List Pk} {it : IM} {g : GM} {b s2 : SM} {ds zs : List D} {Q : Out → Prop} {Pt : τ → List Pk} {t0 t1 : τ} {rq : R → Out → Prop} {tm : TM}
def WB (P : List Pk) (g : GM) (b : SM) (d : D) (Q : Out → Prop) : Prop := ∀ ρ, Mt P ρ → ∃ ρ1 o, g d ρ = some ρ1 ∧ b ρ1 = some o ∧ Q o
theorem WB.mk {d : D} (h : XG P g d P1) (w : WS P1 b Q) : WB P g b d Q := fun ρ m => by
  obtain ⟨ρ1, e1, m1⟩ := h ρ m
  obtain ⟨o, e2, q⟩ := w ρ1 m1
  exact ⟨ρ1, o, e1, e2, q⟩
def LpN (P : List Pk) (o : Out) : Prop := ∃ ρ, (o = .nx ρ ∨ o = .ct ρ) ∧ Mt P ρ
def isRt : Out → Prop
  | .rt _ _ => True
  | .rf _ _ => True
  | _ => False
def LpR (Pt : τ → List Pk) (rq : R → Out → Prop) : Fl R τ → Out → Prop
  | .nx t, o => LpN (Pt t) o
  | .bk t, o => ∃ ρ, o = .bk ρ ∧ Mt (Pt t) ρ
  | .rt r, o => isRt o ∧ rq r o
def AfR (Pt : τ → List Pk) (rq : R → Out → Prop) : Fl R τ → Out → Prop
  | .nx t, o => NxQ (Pt t) o
  | .bk t, o => NxQ (Pt t) o
  | .rt r, o => isRt o ∧ rq r o
theorem LpN.nx (w : Wk P P1) : ∀ ρ, Mt P ρ → LpN P1 (.nx ρ) := fun ρ m => ⟨ρ, .inl rfl, m.wk w⟩
theorem LpN.ct (w : Wk P P1) : ∀ ρ, Mt P ρ → LpN P1 (.ct ρ) := fun ρ m => ⟨ρ, .inr rfl, m.wk w⟩
theorem forN_ok {f : D → τ → Option τ} (hb : ∀ d t t', f d t = some t' → WB (Pt t) g b d (LpN (Pt t'))) : ∀ {ds : List D} {t t1 : τ} {ρ : Env}, fldN f ds t = some t1 → Mt (Pt t) ρ → ∃ ρ1, forL g b ds ρ = some (.nx ρ1) ∧ Mt (Pt t1) ρ1
  | [], t, t1, ρ, h, m => by cases h; exact ⟨ρ, rfl, m⟩
  | d :: ds, t, t1, ρ, h, m => by
    obtain ⟨t', e, h⟩ := bd h
    obtain ⟨ρ1, o, e1, e2, ρ2, ho, m2⟩ := hb d t t' e ρ m
    obtain ⟨ρ3, e3, m3⟩ := forN_ok hb h m2
    refine ⟨ρ3, ?_, m3⟩
    unfold forL
    rcases ho with rfl | rfl <;> simp [e1, e2, e3]
theorem WS.forN {f : D → τ → Option τ} (hI : XI P it ds P1) (Pt : τ → List Pk) (h0 : Wk P1 (Pt t0)) (hm : fldN f ds t0 = some t1) (hb : ∀ d t t', f d t = some t' → WB (Pt t) g b d (LpN (Pt t'))) : WS P (sFor it g b) (NxQ (Pt t1)) := fun ρ m => by
  obtain ⟨ρ1, e1, m1⟩ := hI ρ m
  obtain ⟨ρ2, e2, m2⟩ := forN_ok hb hm (m1.wk h0)
  exact ⟨.nx ρ2, by simp [e1, e2], _, rfl, m2⟩
theorem forR_ok {f : D → τ → Option (Fl R τ)} (hb : ∀ d t r, f d t = some r → WB (Pt t) g b d (LpR Pt rq r)) : ∀ {ds : List D} {t : τ} {r : Fl R τ} {ρ : Env}, fldR f ds t = some r → Mt (Pt t) ρ → ∃ o, forL g b ds ρ = some o ∧ AfR Pt rq r o
  | [], t, r, ρ, h, m => by cases h; exact ⟨.nx ρ, rfl, ρ, rfl, m⟩
  | d :: ds, t, r, ρ, h, m => by
    obtain ⟨r', e, h⟩ := bd h
    obtain ⟨ρ1, o, e1, e2, ho⟩ := hb d t r' e ρ m
    unfold forL
    simp only [e1, e2, Option.bind_some]
    cases r' with
    | nx t' =>
      obtain ⟨ρ2, ho, m2⟩ := ho
      obtain ⟨o3, e3, q3⟩ := forR_ok hb h m2
      refine ⟨o3, ?_, q3⟩
      rcases ho with rfl | rfl <;> exact e3
    | bk t' =>
      obtain ⟨ρ2, rfl, m2⟩ := ho
      cases h
      exact ⟨.nx ρ2, rfl, ρ2, rfl, m2⟩
    | rt r' =>
      cases h
      refine ⟨o, ?_, ho⟩
      obtain ⟨ho, _⟩ := ho
      cases o <;> first | exact ho.elim | rfl
theorem WS.forR {f : D → τ → Option (Fl R τ)} {r : Fl R τ} (hI : XI P it ds P1) (Pt : τ → List Pk) (rq : R → Out → Prop) (h0 : Wk P1 (Pt t0)) (hm : fldR f ds t0 = some r) (hb : ∀ d t r, f d t = some r → WB (Pt t) g b d (LpR Pt rq r)) : WS P (sFor it g b) (AfR Pt rq r) := fun ρ m => by
  obtain ⟨ρ1, e1, m1⟩ := hI ρ m
  obtain ⟨o, e2, q⟩ := forR_ok hb hm (m1.wk h0)
  exact ⟨o, by simp [e1, e2], q⟩
/-- a loop ended by a return, what follows is not reached -/
theorem WS.rtS {s : SM} {q : Out → Prop} (h : WS P s (fun o => isRt o ∧ q o)) (hq : ∀ o, isRt o → q o → Q o) : WS P (sSeq s s2) Q := fun ρ m => by
  obtain ⟨o, e, hr, z⟩ := h ρ m
  refine ⟨o, ?_, hq o hr z⟩
  cases o <;> first | exact hr.elim | simp [e]
def cmpP (f : D → Option (List D)) : List D → Option (List D)
  | [] => some []
  | d :: ds => (f d).bind fun z => (cmpP f ds).bind fun r => some (z ++ r)
def cmpS (f : D → τ → Option (List D × τ)) : List D → τ → Option (List D × τ)
  | [], t => some ([], t)
  | d :: ds, t => (f d t).bind fun p => (cmpS f ds p.2).bind fun q => some (p.1 ++ q.1, q.2)
def plP : Option Pk → Bool
  | some .x => true
  | some (.v _) => true
  | none => true
  | _ => false
def wipX (P : List Pk) : List Nat → List Pk
  | [] => P
  | v :: r => (wipX P r).set v .x
def wipP (vs : List Nat) (P : List Pk) : Option (List Pk) := if vs.all fun i => plP P[i]? then some (wipX P vs) else none
def rstP (P1 P : List Pk) : List Nat → List Pk
  | [] => P
  | v :: r => match P1[v]? with
    | some s => (rstP P1 P r).set v s
    | none => rstP P1 P r
theorem wipX_ok {P : List Pk} {ρ : Env} (m : Mt P ρ) : ∀ vs : List Nat, Mt (wipX P vs) (wipeE ρ vs)
  | [] => m
  | v :: r => (wipX_ok m r).set trivial
theorem Mt.len : ∀ {P : List Pk} {ρ : Env}, Mt P ρ → ρ.length = P.length
  | [], [], _ => rfl
  | _ :: _, _ :: _, h => congrArg (· + 1) (Mt.len h.2)
  | [], _ :: _, h => h.elim
  | _ :: _, [], h => h.elim
theorem wipP_ok {vs : List Nat} {ρ : Env} (m : Mt P ρ) (h : wipP vs P = some Pw) : ∃ ρ', wipeC vs ρ = some ρ' ∧ Mt Pw ρ' := by
  unfold wipP at h
  split at h
  · rename_i ha
    cases h
    refine ⟨wipeE ρ vs, ?_, wipX_ok m vs⟩
    unfold wipeC
    rw [if_pos]
    unfold noOwn
    rw [List.all_eq_true] at ha ⊢
    intro i hi
    have := ha i hi
    cases e : P[i]? with
    | none =>
      have hl := List.getElem?_eq_none_iff.mp e
      rw [List.getElem?_eq_none (by rw [m.len]; exact hl)]
    | some k =>
      obtain ⟨s, es, q⟩ := m.get e
      rw [es]
      rw [e] at this
      cases k with
      | x => cases s <;> first | rfl | exact q.elim
      | v d => cases q; rfl
      | _ => exact absurd this (by simp [plP])
  · cases h
theorem rstP_ok {ρ1 ρ2 : Env} (m1 : Mt P1 ρ1) (m2 : Mt P2 ρ2) : ∀ vs : List Nat, Mt (rstP P1 P2 vs) (rstE ρ1 ρ2 vs)
  | [] => m2
  | v :: r => by
    unfold rstP rstE
    cases e : P1[v]? with
    | none =>
      have hl := List.getElem?_eq_none_iff.mp e
      rw [List.getElem?_eq_none (by rw [m1.len]; exact hl)]
      exact rstP_ok m1 m2 r
    | some k =>
      obtain ⟨s, es, q⟩ := m1.get e
      rw [es]
      exact (rstP_ok m1 m2 r).set q
def XC (P : List Pk) (vs : List Nat) (g : GM) (tt : TM) (el : EM) (d : D) (z : List D) (P' : List Pk) : Prop := ∀ ρ, Mt P ρ → ∃ ρ', compT vs g tt el d ρ = some (z, ρ') ∧ Mt P' ρ'
variable {P3 P4 P5 : List Pk} {vs : List Nat} {tt : TM} {el : EM} {d z : D}
theorem XC.one (h : XG P g d P1) (ht : XT P1 tt true P2) (he : XE P2 el z P3) (hw : wipP vs P3 = some P4) (w : Wk P4 P5) : XC P vs g tt el d [z] P5 := fun ρ m => by
  obtain ⟨ρ1, e1, m1⟩ := h ρ m
  obtain ⟨ρ2, e2, m2⟩ := ht ρ1 m1
  obtain ⟨ρ3, e3, m3⟩ := he ρ2 m2
  obtain ⟨ρ4, e4, m4⟩ := wipP_ok m3 hw
  exact ⟨ρ4, compT_1 e1 e2 e3 e4, m4.wk w⟩
theorem XC.zero (h : XG P g d P1) (ht : XT P1 tt false P2) (hw : wipP vs P2 = some P4) (w : Wk P4 P5) : XC P vs g tt el d [] P5 := fun ρ m => by
  obtain ⟨ρ1, e1, m1⟩ := h ρ m
  obtain ⟨ρ2, e2, m2⟩ := ht ρ1 m1
  obtain ⟨ρ4, e4, m4⟩ := wipP_ok m2 hw
  exact ⟨ρ4, compT_0 e1 e2 e4, m4.wk w⟩
theorem cmpS_ok {f : D → τ → Option (List D × τ)} (hb : ∀ d t z t', f d t = some (z, t') → XC (Pt t) vs g tt el d z (Pt t')) : ∀ {ds : List D} {t t1 : τ} {zs : List D} {ρ : Env}, cmpS f ds t = some (zs, t1) → Mt (Pt t) ρ → ∃ ρ1, compL vs g tt el ds ρ = some (zs, ρ1) ∧ Mt (Pt t1) ρ1
  | [], t, t1, zs, ρ, h, m => by cases h; exact ⟨ρ, rfl, m⟩
  | d :: ds, t, t1, zs, ρ, h, m => by
    obtain ⟨⟨z, t'⟩, e, h⟩ := bd h
    obtain ⟨⟨r, t2⟩, e2, h⟩ := bd h
    cases h
    obtain ⟨ρ1, q1, m1⟩ := hb d t z t' e ρ m
    obtain ⟨ρ2, q2, m2⟩ := cmpS_ok hb e2 m1
    refine ⟨ρ2, ?_, m2⟩
    unfold compL
    simp [q1, q2]
theorem XE.compS {f : D → τ → Option (List D × τ)} (hI : XI P it ds P1) (hw : wipP vs P1 = some Pw) (Pt : τ → List Pk) (h0 : Wk Pw (Pt t0)) (hm : cmpS f ds t0 = some (zs, t1)) (hb : ∀ d t z t', f d t = some (z, t') → XC (Pt t) vs g tt el d z (Pt t')) (hr : rstP P1 (Pt t1) vs = P2) : XE P (eComp vs it g tt el) (.lst zs) P2 := fun ρ m => by
  obtain ⟨ρ1, e1, m1⟩ := hI ρ m
  obtain ⟨ρw, e2, m2⟩ := wipP_ok m1 hw
  obtain ⟨ρ3, e3, m3⟩ := cmpS_ok hb hm (m2.wk h0)
  subst hr
  exact ⟨rstE ρ1 ρ3 vs, by simp [e1, e2, e3], rstP_ok m1 m3 vs⟩
theorem cmpP_S {f : D → Option (List D)} : ∀ {ds zs : List D}, cmpP f ds = some zs → cmpS (τ := Unit) (fun d _ => (f d).bind fun z => some (z, ())) ds () = some (zs, ())
  | [], zs, h => by cases h; rfl
  | d :: ds, zs, h => by
    obtain ⟨z, e, h⟩ := bd h
    obtain ⟨r, e2, h⟩ := bd h
    cases h
    unfold cmpS
    simp [e, cmpP_S e2]
theorem XE.comp {f : D → Option (List D)} (hI : XI P it ds P1) (hw : wipP vs P1 = some Pw) (hm : cmpP f ds = some zs) (hb : ∀ d z, f d = some z → XC Pw vs g tt el d z Pw) (hr : rstP P1 Pw vs = P2) : XE P (eComp vs it g tt el) (.lst zs) P2 := fun ρ m => by
  obtain ⟨ρ1, e1, m1⟩ := hI ρ m
  obtain ⟨ρw, e2, m2⟩ := wipP_ok m1 hw
  obtain ⟨ρ3, e3, m3⟩ := cmpS_ok (Pt := fun _ : Unit => Pw) (fun d t z t' h => by
    obtain ⟨z', e, h⟩ := bd h
    cases h
    exact hb d _ e) (cmpP_S hm) m2
  subst hr
  exact ⟨rstE ρ1 ρ3 vs, by simp [e1, e2, e3], rstP_ok m1 m3 vs⟩
end
end DL
namespace DL
open PySem
section
variable {α β γ δ ε ζ η θ κ : Type} {r : κ}
def bd2 (x : Option (α × β)) (f : α → β → Option κ) : Option κ := x.bind fun q => f q.1 q.2
def bd3 (x : Option (α × β × γ)) (f : α → β → γ → Option κ) : Option κ := x.bind fun q => f q.1 q.2.1 q.2.2
def bd4 (x : Option (α × β × γ × δ)) (f : α → β → γ → δ → Option κ) : Option κ := x.bind fun q => f q.1 q.2.1 q.2.2.1 q.2.2.2
def bd5 (x : Option (α × β × γ × δ × ε)) (f : α → β → γ → δ → ε → Option κ) : Option κ := x.bind fun q => f q.1 q.2.1 q.2.2.1 q.2.2.2.1 q.2.2.2.2
def bd6 (x : Option (α × β × γ × δ × ε × ζ)) (f : α → β → γ → δ → ε → ζ → Option κ) : Option κ := x.bind fun q => f q.1 q.2.1 q.2.2.1 q.2.2.2.1 q.2.2.2.2.1 q.2.2.2.2.2
def bd7 (x : Option (α × β × γ × δ × ε × ζ × η)) (f : α → β → γ → δ → ε → ζ → η → Option κ) : Option κ := x.bind fun q => f q.1 q.2.1 q.2.2.1 q.2.2.2.1 q.2.2.2.2.1 q.2.2.2.2.2.1 q.2.2.2.2.2.2
def bd8 (x : Option (α × β × γ × δ × ε × ζ × η × θ)) (f : α → β → γ → δ → ε → ζ → η → θ → Option κ) : Option κ := x.bind fun q => f q.1 q.2.1 q.2.2.1 q.2.2.2.1 q.2.2.2.2.1 q.2.2.2.2.2.1 q.2.2.2.2.2.2.1 q.2.2.2.2.2.2.2
@[simp] theorem bd2_some (a : α) (b : β) (f : α → β → Option κ) : bd2 (some (a, b)) f = f a b := rfl
@[simp] theorem bd3_some (a : α) (b : β) (c : γ) (f : α → β → γ → Option κ) : bd3 (some (a, b, c)) f = f a b c := rfl
@[simp] theorem bd4_some (a : α) (b : β) (c : γ) (d : δ) (f : α → β → γ → δ → Option κ) : bd4 (some (a, b, c, d)) f = f a b c d := rfl
@[simp] theorem bd5_some (a : α) (b : β) (c : γ) (d : δ) (e : ε) (f : α → β → γ → δ → ε → Option κ) : bd5 (some (a, b, c, d, e)) f = f a b c d e := rfl
@[simp] theorem bd6_some (a : α) (b : β) (c : γ) (d : δ) (e : ε) (z : ζ) (f : α → β → γ → δ → ε → ζ → Option κ) : bd6 (some (a, b, c, d, e, z)) f = f a b c d e z := rfl
@[simp] theorem bd7_some (a : α) (b : β) (c : γ) (d : δ) (e : ε) (z : ζ) (y : η) (f : α → β → γ → δ → ε → ζ → η → Option κ) : bd7 (some (a, b, c, d, e, z, y)) f = f a b c d e z y := rfl
@[simp] theorem bd8_some (a : α) (b : β) (c : γ) (d : δ) (e : ε) (z : ζ) (y : η) (w : θ) (f : α → β → γ → δ → ε → ζ → η → θ → Option κ) : bd8 (some (a, b, c, d, e, z, y, w)) f = f a b c d e z y w := rfl
theorem bd2_e {x : Option (α × β)} {f : α → β → Option κ} (h : bd2 x f = some r) : ∃ a b, x = some (a, b) ∧ f a b = some r := by
  obtain ⟨⟨a, b⟩, e, h⟩ := bd h; exact ⟨_, _, e, h⟩
def un_2 (f : α → β → κ) (s : α × β) : κ := f s.1 s.2
def un_3 (f : α → β → γ → κ) (s : α × β × γ) : κ := f s.1 s.2.1 s.2.2
def un_4 (f : α → β → γ → δ → κ) (s : α × β × γ × δ) : κ := f s.1 s.2.1 s.2.2.1 s.2.2.2
def un_5 (f : α → β → γ → δ → ε → κ) (s : α × β × γ × δ × ε) : κ := f s.1 s.2.1 s.2.2.1 s.2.2.2.1 s.2.2.2.2
def un_6 (f : α → β → γ → δ → ε → ζ → κ) (s : α × β × γ × δ × ε × ζ) : κ := f s.1 s.2.1 s.2.2.1 s.2.2.2.1 s.2.2.2.2.1 s.2.2.2.2.2
def un_7 (f : α → β → γ → δ → ε → ζ → η → κ) (s : α × β × γ × δ × ε × ζ × η) : κ := f s.1 s.2.1 s.2.2.1 s.2.2.2.1 s.2.2.2.2.1 s.2.2.2.2.2.1 s.2.2.2.2.2.2
@[simp] theorem un_2_mk (f : α → β → κ) (a : α) (b : β) : un_2 f (a, b) = f a b := rfl
@[simp] theorem un_3_mk (f : α → β → γ → κ) (a : α) (b : β) (c : γ) : un_3 f (a, b, c) = f a b c := rfl
@[simp] theorem un_4_mk (f : α → β → γ → δ → κ) (a : α) (b : β) (c : γ) (d : δ) : un_4 f (a, b, c, d) = f a b c d := rfl
@[simp] theorem un_5_mk (f : α → β → γ → δ → ε → κ) (a : α) (b : β) (c : γ) (d : δ) (e : ε) : un_5 f (a, b, c, d, e) = f a b c d e := rfl
@[simp] theorem un_6_mk (f : α → β → γ → δ → ε → ζ → κ) (a : α) (b : β) (c : γ) (d : δ) (e : ε) (z : ζ) : un_6 f (a, b, c, d, e, z) = f a b c d e z := rfl
@[simp] theorem un_7_mk (f : α → β → γ → δ → ε → ζ → η → κ) (a : α) (b : β) (c : γ) (d : δ) (e : ε) (z : ζ) (y : η) : un_7 f (a, b, c, d, e, z, y) = f a b c d e z y := rfl
def flK {R τ : Type} (r : Fl R τ) (f : R → Option κ) (g : τ → Option κ) : Option κ := match r with
  | .rt x => f x
  | .nx t => g t
  | .bk _ => none
@[simp] theorem flK_rt {R τ : Type} (x : R) (f : R → Option κ) (g : τ → Option κ) : flK (.rt x) f g = f x := rfl
@[simp] theorem flK_nx {R τ : Type} (x : τ) (f : R → Option κ) (g : τ → Option κ) : flK (.nx x) f g = g x := rfl
end
section
variable {P P1 P2 P3 P' Pw : List Pk} {m ma mb mc : EM} {d a b c e : D} {tm tma tmb : TM} {k k' : Bool} {Q : Out → Prop} {s2 : SM}
theorem XE.if_ (h : XT P tm k P1) (h1 : k = true → XE P1 ma a P2) (h2 : k = false → XE P1 mb a P2) : XE P (eIf tm ma mb) a P2 := by
  cases k with
  | true => exact XE.ifT h (h1 rfl)
  | false => exact XE.ifF h (h2 rfl)
theorem XE.and_ (h : XE P ma a P1) (e : asB a = some k) (h1 : k = true → XE P1 mb b P2) (h2 : k = false → b = .bl false ∧ P2 = P1) : XE P (eAnd ma mb) b P2 := by
  cases k with
  | true => exact XE.andT h e (h1 rfl)
  | false => obtain ⟨rfl, rfl⟩ := h2 rfl; exact XE.andF h e
theorem XE.or_ (h : XE P ma a P1) (e : asB a = some k) (h1 : k = true → b = .bl true ∧ P2 = P1) (h2 : k = false → XE P1 mb b P2) : XE P (eOr ma mb) b P2 := by
  cases k with
  | false => exact XE.orF h e (h2 rfl)
  | true => obtain ⟨rfl, rfl⟩ := h1 rfl; exact XE.orT h e
theorem XT.and_ (h : XT P tma k P1) (h1 : k = true → XT P1 tmb k' P2) (h2 : k = false → k' = false ∧ P2 = P1) : XT P (tAnd tma tmb) k' P2 := by
  cases k with
  | true => exact XT.andT h (h1 rfl)
  | false => obtain ⟨rfl, rfl⟩ := h2 rfl; exact XT.andF h
theorem XT.or_ (h : XT P tma k P1) (h1 : k = true → k' = true ∧ P2 = P1) (h2 : k = false → XT P1 tmb k' P2) : XT P (tOr tma tmb) k' P2 := by
  cases k with
  | false => exact XT.orF h (h2 rfl)
  | true => obtain ⟨rfl, rfl⟩ := h1 rfl; exact XT.orT h
theorem WS.retS (h : XE P ma a P1) (q : ∀ ρ, Mt P1 ρ → Q (.rt a ρ)) : WS P (sSeq (sRet ma) s2) Q := fun ρ m => by
  obtain ⟨ρ1, q1, m1⟩ := h ρ m
  exact ⟨.rt a ρ1, by simp [q1], q ρ1 m1⟩
theorem XC.if_ {vs : List Nat} {g : GM} {tt : TM} {el : EM} {P5 : List Pk} {z : List D} (h : XG P g d P1) (ht : XT P1 tt k P2) (h1 : k = true → ∃ x P3 P4, XE P2 el x P3 ∧ wipP vs P3 = some P4 ∧ Wk P4 P5 ∧ z = [x]) (h2 : k = false → ∃ P4, wipP vs P2 = some P4 ∧ Wk P4 P5 ∧ z = []) : XC P vs g tt el d z P5 := by
  cases k with
  | true => obtain ⟨x, P3, P4, he, hw, w, rfl⟩ := h1 rfl; exact XC.one h ht he hw w
  | false => obtain ⟨P4, hw, w, rfl⟩ := h2 rfl; exact XC.zero h ht hw w
end
end DL
namespace DL
open PySem
def isKG (T : String) (d : D) : Option Unit := if isK T d then some () else none
def isTG (T : String) (d : D) : Option Unit := if isT T d then some () else none
theorem isKG_e {T : String} {d : D} {u : Unit} (h : isKG T d = some u) : isK T d = true := by
  unfold isKG at h; split at h
  · assumption
  · cases h
@[simp] theorem isKG_l (xs : List D) : isKG "list" (.lst xs) = some () := rfl
@[simp] theorem isTG_l (xs : List D) : isTG "list" (.lst xs) = some () := rfl
end DL
namespace DL
open PySem
theorem mkLst_0 : mkLst [] = some (.lst []) := if_pos (by simp only [List.length_cons, List.length_nil]; decide)
theorem mkTup_0 : mkTup [] = some (.tup []) := if_pos (by simp only [List.length_cons, List.length_nil]; decide)
theorem mkLst_1 (a : D) : mkLst [a] = some (.lst [a]) := if_pos (by simp only [List.length_cons, List.length_nil]; decide)
theorem mkTup_1 (a : D) : mkTup [a] = some (.tup [a]) := if_pos (by simp only [List.length_cons, List.length_nil]; decide)
theorem mkLst_2 (a b : D) : mkLst [a, b] = some (.lst [a, b]) := if_pos (by simp only [List.length_cons, List.length_nil]; decide)
theorem mkTup_2 (a b : D) : mkTup [a, b] = some (.tup [a, b]) := if_pos (by simp only [List.length_cons, List.length_nil]; decide)
theorem mkLst_3 (a b c : D) : mkLst [a, b, c] = some (.lst [a, b, c]) := if_pos (by simp only [List.length_cons, List.length_nil]; decide)
theorem mkTup_3 (a b c : D) : mkTup [a, b, c] = some (.tup [a, b, c]) := if_pos (by simp only [List.length_cons, List.length_nil]; decide)
theorem mkLst_4 (a b c d : D) : mkLst [a, b, c, d] = some (.lst [a, b, c, d]) := if_pos (by simp only [List.length_cons, List.length_nil]; decide)
theorem mkTup_4 (a b c d : D) : mkTup [a, b, c, d] = some (.tup [a, b, c, d]) := if_pos (by simp only [List.length_cons, List.length_nil]; decide)
theorem mkLst_5 (a b c d e : D) : mkLst [a, b, c, d, e] = some (.lst [a, b, c, d, e]) := if_pos (by simp only [List.length_cons, List.length_nil]; decide)
theorem mkTup_5 (a b c d e : D) : mkTup [a, b, c, d, e] = some (.tup [a, b, c, d, e]) := if_pos (by simp only [List.length_cons, List.length_nil]; decide)
theorem mkLst_6 (a b c d e f : D) : mkLst [a, b, c, d, e, f] = some (.lst [a, b, c, d, e, f]) := if_pos (by simp only [List.length_cons, List.length_nil]; decide)
theorem mkTup_6 (a b c d e f : D) : mkTup [a, b, c, d, e, f] = some (.tup [a, b, c, d, e, f]) := if_pos (by simp only [List.length_cons, List.length_nil]; decide)
theorem mkLst_7 (a b c d e f g : D) : mkLst [a, b, c, d, e, f, g] = some (.lst [a, b, c, d, e, f, g]) := if_pos (by simp only [List.length_cons, List.length_nil]; decide)
theorem mkTup_7 (a b c d e f g : D) : mkTup [a, b, c, d, e, f, g] = some (.tup [a, b, c, d, e, f, g]) := if_pos (by simp only [List.length_cons, List.length_nil]; decide)
theorem mkLst_8 (a b c d e f g h : D) : mkLst [a, b, c, d, e, f, g, h] = some (.lst [a, b, c, d, e, f, g, h]) := if_pos (by simp only [List.length_cons, List.length_nil]; decide)
theorem mkTup_8 (a b c d e f g h : D) : mkTup [a, b, c, d, e, f, g, h] = some (.tup [a, b, c, d, e, f, g, h]) := if_pos (by simp only [List.length_cons, List.length_nil]; decide)
theorem mkLst_9 (a b c d e f g h i : D) : mkLst [a, b, c, d, e, f, g, h, i] = some (.lst [a, b, c, d, e, f, g, h, i]) := if_pos (by simp only [List.length_cons, List.length_nil]; decide)
theorem mkTup_9 (a b c d e f g h i : D) : mkTup [a, b, c, d, e, f, g, h, i] = some (.tup [a, b, c, d, e, f, g, h, i]) := if_pos (by simp only [List.length_cons, List.length_nil]; decide)
theorem mkLst_10 (a b c d e f g h i j : D) : mkLst [a, b, c, d, e, f, g, h, i, j] = some (.lst [a, b, c, d, e, f, g, h, i, j]) := if_pos (by simp only [List.length_cons, List.length_nil]; decide)
theorem mkTup_10 (a b c d e f g h i j : D) : mkTup [a, b, c, d, e, f, g, h, i, j] = some (.tup [a, b, c, d, e, f, g, h, i, j]) := if_pos (by simp only [List.length_cons, List.length_nil]; decide)
theorem mkLst_11 (a b c d e f g h i j k : D) : mkLst [a, b, c, d, e, f, g, h, i, j, k] = some (.lst [a, b, c, d, e, f, g, h, i, j, k]) := if_pos (by simp only [List.length_cons, List.length_nil]; decide)
theorem mkTup_11 (a b c d e f g h i j k : D) : mkTup [a, b, c, d, e, f, g, h, i, j, k] = some (.tup [a, b, c, d, e, f, g, h, i, j, k]) := if_pos (by simp only [List.length_cons, List.length_nil]; decide)
theorem mkLst_12 (a b c d e f g h i j k l : D) : mkLst [a, b, c, d, e, f, g, h, i, j, k, l] = some (.lst [a, b, c, d, e, f, g, h, i, j, k, l]) := if_pos (by simp only [List.length_cons, List.length_nil]; decide)
theorem mkTup_12 (a b c d e f g h i j k l : D) : mkTup [a, b, c, d, e, f, g, h, i, j, k, l] = some (.tup [a, b, c, d, e, f, g, h, i, j, k, l]) := if_pos (by simp only [List.length_cons, List.length_nil]; decide)
theorem mkLst_13 (a b c d e f g h i j k l m : D) : mkLst [a, b, c, d, e, f, g, h, i, j, k, l, m] = some (.lst [a, b, c, d, e, f, g, h, i, j, k, l, m]) := if_pos (by simp only [List.length_cons, List.length_nil]; decide)
theorem mkTup_13 (a b c d e f g h i j k l m : D) : mkTup [a, b, c, d, e, f, g, h, i, j, k, l, m] = some (.tup [a, b, c, d, e, f, g, h, i, j, k, l, m]) := if_pos (by simp only [List.length_cons, List.length_nil]; decide)
theorem mkLst_14 (a b c d e f g h i j k l m n : D) : mkLst [a, b, c, d, e, f, g, h, i, j, k, l, m, n] = some (.lst [a, b, c, d, e, f, g, h, i, j, k, l, m, n]) := if_pos (by simp only [List.length_cons, List.length_nil]; decide)
theorem mkTup_14 (a b c d e f g h i j k l m n : D) : mkTup [a, b, c, d, e, f, g, h, i, j, k, l, m, n] = some (.tup [a, b, c, d, e, f, g, h, i, j, k, l, m, n]) := if_pos (by simp only [List.length_cons, List.length_nil]; decide)
theorem mkLst_15 (a b c d e f g h i j k l m n o : D) : mkLst [a, b, c, d, e, f, g, h, i, j, k, l, m, n, o] = some (.lst [a, b, c, d, e, f, g, h, i, j, k, l, m, n, o]) := if_pos (by simp only [List.length_cons, List.length_nil]; decide)
theorem mkTup_15 (a b c d e f g h i j k l m n o : D) : mkTup [a, b, c, d, e, f, g, h, i, j, k, l, m, n, o] = some (.tup [a, b, c, d, e, f, g, h, i, j, k, l, m, n, o]) := if_pos (by simp only [List.length_cons, List.length_nil]; decide)
theorem mkLst_16 (a b c d e f g h i j k l m n o p : D) : mkLst [a, b, c, d, e, f, g, h, i, j, k, l, m, n, o, p] = some (.lst [a, b, c, d, e, f, g, h, i, j, k, l, m, n, o, p]) := if_pos (by simp only [List.length_cons, List.length_nil]; decide)
theorem mkTup_16 (a b c d e f g h i j k l m n o p : D) : mkTup [a, b, c, d, e, f, g, h, i, j, k, l, m, n, o, p] = some (.tup [a, b, c, d, e, f, g, h, i, j, k, l, m, n, o, p]) := if_pos (by simp only [List.length_cons, List.length_nil]; decide)
end DL
namespace DL
open PySem
theorem cmpP_ix {f : D → Option (List D)} (g : Nat → List D) : ∀ {ds : List D} (k : Nat), (∀ i d, ds[i]? = some d → f d = some (g (k + i))) → cmpP f ds = some ((List.range' k ds.length).flatMap g)
  | [], k, _ => rfl
  | d :: ds, k, h => by
    have h0 := h 0 d rfl
    have ih := cmpP_ix (f := f) g (ds := ds) (k + 1) fun i x hx => by
      have := h (i + 1) x (by simpa using hx)
      rwa [show k + (i + 1) = k + 1 + i by omega] at this
    unfold cmpP
    rw [h0, Option.bind_some, ih, Option.bind_some]
    rfl
theorem cmpP_all {f : D → Option (List D)} {g : Nat → List D} {ds : List D} (h : ∀ i d, ds[i]? = some d → f d = some (g i)) : cmpP f ds = some ((List.range ds.length).flatMap g) := by
  rw [List.range_eq_range']
  exact cmpP_ix g 0 fun i d e => by rw [Nat.zero_add]; exact h i d e
theorem flatMap_if {α β : Type} (p : α → Bool) (z : α → β) : ∀ l : List α, (l.flatMap fun i => if p i then [z i] else []) = (l.filter p).map z
  | [] => rfl
  | a :: l => by
    rw [List.flatMap_cons, flatMap_if p z l]
    cases e : p a <;> simp [e]
theorem flatMap_one {α β : Type} (z : α → β) : ∀ l : List α, (l.flatMap fun i => [z i]) = l.map z
  | [] => rfl
  | a :: l => by rw [List.flatMap_cons, flatMap_one z l]; rfl
theorem rngD_at {n i : Nat} {d : D} (h : (rngD 0 n)[i]? = some d) : i < n ∧ d = .int (i : Int) := rngD_get h
theorem cmpP_rngM {f : D → Option (List D)} {n : Nat} (z : Nat → D) (h : ∀ i, i < n → f (.int (i : Int)) = some [z i]) : cmpP f (rngD 0 n) = some ((List.range n).map z) := by
  rw [cmpP_all (g := fun i => [z i]) fun i d e => by obtain ⟨hi, rfl⟩ := rngD_at e; exact h i hi, rngD_len, flatMap_one]
theorem cmpP_lst {α : Type} {f : D → Option (List D)} {e : α → D} {xs : List α} (p : α → Bool) (z : α → D) (h : ∀ x ∈ xs, f (e x) = if p x = true then some [z x] else some []) : cmpP f (xs.map e) = some ((xs.filter p).map z) := by
  rw [← flatMap_if]
  induction xs with
  | nil => rfl
  | cons a l ih =>
    rw [List.map_cons]
    unfold cmpP
    rw [h a List.mem_cons_self, ih fun x hx => h x (List.mem_cons_of_mem _ hx)]
    rw [List.flatMap_cons]
    split <;> rfl
theorem cmpP_lstM {α : Type} {f : D → Option (List D)} {e : α → D} {xs : List α} (z : α → D) (h : ∀ x ∈ xs, f (e x) = some [z x]) : cmpP f (xs.map e) = some (xs.map z) := by
  have := cmpP_lst (f := f) (e := e) (xs := xs) (fun _ => true) z (fun x hx => by rw [h x hx, if_pos rfl])
  rw [this, List.filter_eq_self.mpr fun _ _ => rfl]
theorem cmpS_inv {τ : Type} {f : D → τ → Option (List D × τ)} (I : Nat → τ → Prop) (Z : Nat → List D → Prop) : ∀ {ds : List D} {k : Nat} {t : τ}, I k t → (∀ i d, ds[i]? = some d → ∀ t, I (k + i) t → ∃ z t', f d t = some (z, t') ∧ I (k + i + 1) t' ∧ Z (k + i) z) →
    ∃ (zss : List (List D)) (t' : τ), cmpS f ds t = some (zss.flatten, t') ∧ I (k + ds.length) t' ∧ zss.length = ds.length ∧ ∀ i z, zss[i]? = some z → Z (k + i) z
  | [], k, t, i, _ => ⟨[], t, rfl, i, rfl, fun i z h => by simp at h⟩
  | d :: ds, k, t, i, h => by
    obtain ⟨z, t1, e1, i1, z1⟩ := h 0 d rfl t i
    obtain ⟨zss, t2, e2, i2, l2, q2⟩ := cmpS_inv I Z (ds := ds) (k := k + 1) i1 fun i x hx t ht => by
      have := h (i + 1) x (by simpa using hx) t (by rw [show k + (i + 1) = k + 1 + i by omega]; exact ht)
      rwa [show k + (i + 1) = k + 1 + i by omega] at this
    refine ⟨z :: zss, t2, ?_, by rw [List.length_cons, show k + (ds.length + 1) = k + 1 + ds.length by omega]; exact i2, by simp [l2], fun i z' e => ?_⟩
    · unfold cmpS
      rw [e1, Option.bind_some, e2]
      rfl
    · cases i with
      | zero => cases e; exact z1
      | succ i =>
        have := q2 i z' (by simpa using e)
        rwa [show k + (i + 1) = k + 1 + i by omega]
/-- one thing a turn -/
theorem cmpS_one {τ α : Type} {f : D → τ → Option (List D × τ)} (e : α → D) (I : Nat → τ → Prop) (Z : Nat → α → Prop) {ds : List D} {t : τ} (h0 : I 0 t) (h : ∀ i d, ds[i]? = some d → ∀ t, I i t → ∃ z t', f d t = some ([e z], t') ∧ I (i + 1) t' ∧ Z i z) :
    ∃ (zs : List α) (t' : τ), cmpS f ds t = some (zs.map e, t') ∧ I ds.length t' ∧ zs.length = ds.length ∧ ∀ i (hi : i < zs.length), Z i zs[i] := by
  obtain ⟨zss, t', e1, i1, l1, q1⟩ := cmpS_inv I (fun i z => ∃ x, z = [e x] ∧ Z i x) (ds := ds) (k := 0) h0 fun i d hd t ht => by
    obtain ⟨z, t', e1, i1, z1⟩ := h i d hd t (by rwa [Nat.zero_add] at ht)
    refine ⟨[e z], t', e1, by rwa [Nat.zero_add], z, rfl, by rwa [Nat.zero_add]⟩
  have key : ∀ (zss : List (List D)) (k : Nat), (∀ i z, zss[i]? = some z → ∃ x, z = [e x] ∧ Z (k + i) x) → ∃ zs : List α, zss.flatten = zs.map e ∧ zs.length = zss.length ∧ ∀ i (hi : i < zs.length), Z (k + i) zs[i] := by
    intro zss
    induction zss with
    | nil => exact fun k _ => ⟨[], rfl, rfl, fun i hi => absurd hi (by simp)⟩
    | cons z zss ih =>
      intro k hz
      obtain ⟨x, rfl, zx⟩ := hz 0 z rfl
      obtain ⟨zs, e2, l2, q2⟩ := ih (k + 1) fun i z hi => by
        have := hz (i + 1) z (by simpa using hi)
        rwa [show k + (i + 1) = k + 1 + i by omega] at this
      refine ⟨x :: zs, by simp [e2], by simp [l2], fun i hi => ?_⟩
      cases i with
      | zero => exact zx
      | succ i =>
        have := q2 i (by simpa using hi)
        rw [show k + (i + 1) = k + 1 + i by omega]
        exact this
  obtain ⟨zs, e2, l2, q2⟩ := key zss 0 q1
  refine ⟨zs, t', by rw [e1, e2], by rwa [Nat.zero_add] at i1, by rw [l2, l1], fun i hi => by have := q2 i hi; rwa [Nat.zero_add] at this⟩
theorem fldN_inv {τ : Type} {f : D → τ → Option τ} (I : Nat → τ → Prop) : ∀ {ds : List D} {k : Nat} {t : τ}, I k t → (∀ i d, ds[i]? = some d → ∀ t, I (k + i) t → ∃ t', f d t = some t' ∧ I (k + i + 1) t') → ∃ t', fldN f ds t = some t' ∧ I (k + ds.length) t'
  | [], k, t, i, _ => ⟨t, rfl, i⟩
  | d :: ds, k, t, i, h => by
    obtain ⟨t1, e1, i1⟩ := h 0 d rfl t i
    obtain ⟨t2, e2, i2⟩ := fldN_inv I (ds := ds) (k := k + 1) i1 fun i x hx t ht => by
      have := h (i + 1) x (by simpa using hx) t (by rw [show k + (i + 1) = k + 1 + i by omega]; exact ht)
      rwa [show k + (i + 1) = k + 1 + i by omega] at this
    refine ⟨t2, ?_, by rw [List.length_cons, show k + (ds.length + 1) = k + 1 + ds.length by omega]; exact i2⟩
    unfold fldN
    rw [e1]
    exact e2
theorem fldN_of {τ : Type} {f : D → τ → Option τ} (I : Nat → τ → Prop) {ds : List D} {t : τ} (h0 : I 0 t) (h : ∀ i d, ds[i]? = some d → ∀ t, I i t → ∃ t', f d t = some t' ∧ I (i + 1) t') : ∃ t', fldN f ds t = some t' ∧ I ds.length t' := by
  obtain ⟨t', e, i⟩ := fldN_inv I (ds := ds) (k := 0) h0 fun i d hd t ht => by
    rw [Nat.zero_add] at ht ⊢
    exact h i d hd t ht
  exact ⟨t', e, by rwa [Nat.zero_add] at i⟩
def SqD (d : D) (ds : List D) : Prop := d = .lst ds ∨ d = .tup ds
theorem SqD.l (ds : List D) : SqD (.lst ds) ds := .inl rfl
theorem SqD.t (ds : List D) : SqD (.tup ds) ds := .inr rfl
theorem SqD.len {d : D} {ds : List D} (h : SqD d ds) : lenF [d] = some (.int ds.length) := by rcases h with rfl | rfl <;> rfl
theorem SqD.un {d : D} {ds : List D} (h : SqD d ds) : unL d = some ds := by rcases h with rfl | rfl <;> rfl
theorem SqD.ix {d : D} {ds : List D} (h : SqD d ds) (i : Nat) : ixD d (.int (i : Int)) = ds[i]? := by rcases h with rfl | rfl; exact ix_lst _ _; exact ix_tup _ _
theorem SqD.lst {d : D} {ds : List D} (h : SqD d ds) : listF [d] = some (.lst ds) := by rcases h with rfl | rfl <;> rfl
theorem SqD.tup {d : D} {ds : List D} (h : SqD d ds) : tupF [d] = some (.tup ds) := by rcases h with rfl | rfl <;> rfl
theorem SqD.slice {d : D} {ds : List D} (h : SqD d ds) {lo hi : Option Int} : ∃ r, sliceD d lo hi = some r ∧ SqD r (cutD ds lo hi) := by rcases h with rfl | rfl; exact ⟨_, rfl, .inl rfl⟩; exact ⟨_, rfl, .inr rfl⟩
/-- a sea, of lists or of tuples -/
def SeaD (d : D) (a c : Int) (xs : List Int) : Prop := ∃ X, SqD d [.int a, .int c, X] ∧ SqD X (xs.map .int)
theorem SeaD.t (a c : Int) (xs : List Int) : SeaD (.tup [.int a, .int c, .tup (xs.map .int)]) a c xs := ⟨_, .inr rfl, .inr rfl⟩
theorem SeaD.i0 {d : D} {a c : Int} {xs : List Int} (h : SeaD d a c xs) : ixD d (.int 0) = some (.int a) := by obtain ⟨X, h1, h2⟩ := h; exact h1.ix 0
theorem SeaD.i1 {d : D} {a c : Int} {xs : List Int} (h : SeaD d a c xs) : ixD d (.int 1) = some (.int c) := by obtain ⟨X, h1, h2⟩ := h; exact h1.ix 1
theorem SeaD.i2 {d : D} {a c : Int} {xs : List Int} (h : SeaD d a c xs) : ∃ X, ixD d (.int 2) = some X ∧ SqD X (xs.map .int) := by obtain ⟨X, h1, h2⟩ := h; exact ⟨X, h1.ix 2, h2⟩
theorem lim_ok {n : Nat} (h : n ≤ 1000000) : lim n = true := decide_eq_true h
theorem append_ok {xs : List D} {y : D} (h : xs.length < 1000000) : appendM (.lst xs) [y] = some (.non, .lst (xs ++ [y])) := if_pos (lim_ok h)
theorem addD_lst {xs ys : List D} (h : xs.length + ys.length ≤ 1000000) : addD (.lst xs) (.lst ys) = some (.lst (xs ++ ys)) := if_pos (lim_ok h)
theorem bools_map {α : Type} (f : α → Bool) : ∀ l : List α, bools? (l.map fun x => .bl (f x)) = some (l.map f)
  | [] => rfl
  | a :: l => by rw [List.map_cons]; unfold bools?; rw [bools_map f l]; rfl
theorem allF_map {α : Type} (f : α → Bool) (l : List α) : allF [.lst (l.map fun x => .bl (f x))] = some (.bl (l.all f)) := by
  show (bools? _).map _ = _
  rw [bools_map]; simp [List.all_map]
end DL
namespace DL
open PySem
section
variable {P P1 P2 P3 P4 P' Pw : List Pk} {m ma mb mc : EM} {d a b c e : D} {Q : Out → Prop} {i j l : Nat} {k : Bool}
theorem canV_setK {k : Pk} (hk : canV (some k) = true) (h : canV P[j]? = true) : canV (P.set i k)[j]? = true := by
  rw [List.getElem?_set]
  by_cases q : i = j
  · subst q
    rw [if_pos rfl]
    by_cases r : i < P.length
    · rw [if_pos r]; exact hk
    · rw [List.getElem?_eq_none (by omega)] at h; cases h
  · rw [if_neg q]; exact h
theorem WS.parov (h : XE P ma a P1) (g : XE P1 mb b P2) (c1 : canV P2[i]? = true) (c2 : canV P2[j]? = true) : WS P (sParOV i j ma mb) (NxQ ((P2.set i (.o a)).set j (.v b))) := fun ρ m => by
  obtain ⟨ρ1, q1, m1⟩ := h ρ m
  obtain ⟨ρ2, q2, m2⟩ := g ρ1 m1
  have m3 : Mt (P2.set i (.o a)) (ρ2.set i (.o a)) := m2.set rfl
  refine ⟨.nx ((ρ2.set i (.o a)).set j (.v b)), ?_, _, rfl, m3.set rfl⟩
  simp [sParOV, q1, q2, putO_ok m2 c1, putV_ok m3 (canV_setK rfl c2)]
end
end DL
namespace DL
open PySem
def nD (l : List Nat) : List D := l.map fun (i : Nat) => D.int (i : Int)
theorem okDs_nD {n : Nat} (l : List Nat) : okDs n (nD l) = true := by
  rw [okDs_all]; intro d hd; obtain ⟨i, _, rfl⟩ := List.mem_map.mp hd; exact okD_int
theorem okD_nL {n : Nat} (l : List Nat) : okD (n + 1) (.lst (nD l)) = true := by rw [okD_lst]; exact okDs_nD l
theorem nD_ints (l : List Nat) : nD l = (l.map fun (i : Nat) => (i : Int)).map D.int := by unfold nD; rw [List.map_map]; rfl
/-- what stands as a standing of n ships -/
def IsSt (n : Nat) (l : List Nat) : Prop := ∃ p : Nat → Bool, l = (List.range n).filter p
theorem IsSt.mk {n : Nat} (p : Nat → Bool) : IsSt n ((List.range n).filter p) := ⟨p, rfl⟩
theorem IsSt.lt {n : Nat} {l : List Nat} (h : IsSt n l) {i : Nat} (hi : i ∈ l) : i < n := by
  obtain ⟨p, rfl⟩ := h
  exact List.mem_range.mp (List.mem_filter.mp hi).1
theorem IsSt.eq {n : Nat} {l : List Nat} (h : IsSt n l) : l = (List.range n).filter fun i => l.contains i := by
  obtain ⟨p, rfl⟩ := h
  refine List.filter_congr fun i hi => ?_
  cases e : p i with
  | true => exact (List.contains_iff_mem.mpr (List.mem_filter.mpr ⟨hi, e⟩)).symm
  | false =>
    cases q : ((List.range n).filter p).contains i with
    | false => rfl
    | true => rw [(List.mem_filter.mp (List.contains_iff_mem.mp q)).2] at e; cases e
theorem IsSt.len {n : Nat} {l : List Nat} (h : IsSt n l) : l.length ≤ n := by
  obtain ⟨p, rfl⟩ := h
  have := List.length_filter_le p (List.range n)
  rwa [List.length_range] at this
theorem rng_n (n : Nat) (h : n ≤ 1000000) : rng1 [.val (.int (n : Int))] = some (rngD 0 n) := by rw [rng1_ok (by omega) (by omega)]; rfl
theorem trg_n (n : Nat) (h : n ≤ 1000000) : trgF [.int (n : Int)] = some (.tup (nD (List.range n))) := by
  have e : okRg 0 (n : Int) = true := by
    unfold okRg ok62
    simp only [Bool.and_eq_true, decide_eq_true_eq]
    refine ⟨⟨⟨by omega, by omega⟩, by omega, by omega⟩, lim_ok (by omega)⟩
  have e2 : rgD 0 (n : Int) = nD (List.range n) := by
    unfold rgD rngD nD
    rw [show ((n : Int) - 0).toNat = n by omega]
    exact List.map_congr_left fun i _ => by rw [Int.zero_add]
  show (if okRg 0 (n : Int) = true then some (D.tup (rgD 0 (n : Int))) else none) = _
  rw [if_pos e, e2]
/-- what is taken by draws: some of them -/
theorem cmpS_sel {τ : Type} {f : D → τ → Option (List D × τ)} {n : Nat} {t : τ} (I : Nat → τ → Prop) (h0 : I 0 t) (h : ∀ i, i < n → ∀ t, I i t → ∃ (c : Bool) (t' : τ), f (.int (i : Int)) t = some (if c = true then [.int (i : Int)] else [], t') ∧ I (i + 1) t') :
    ∃ (p : Nat → Bool) (t' : τ), cmpS f (rngD 0 n) t = some (nD ((List.range n).filter p), t') ∧ I n t' := by
  obtain ⟨zss, t', e1, i1, l1, q1⟩ := cmpS_inv (f := f) I (fun i z => ∃ c : Bool, z = if c = true then [D.int (i : Int)] else []) (ds := rngD 0 n) (k := 0) h0 fun i d hd t ht => by
    obtain ⟨hi, rfl⟩ := rngD_at hd
    rw [Nat.zero_add] at ht ⊢
    obtain ⟨c, t', e, i'⟩ := h i hi t ht
    exact ⟨_, t', e, i', c, rfl⟩
  rw [rngD_len, Nat.zero_add] at i1
  rw [rngD_len] at l1
  have key : ∀ (zss : List (List D)) (k : Nat), (∀ i z, zss[i]? = some z → ∃ c : Bool, z = if c = true then [D.int ((k + i : Nat) : Int)] else []) → ∃ p : Nat → Bool, zss.flatten = nD ((List.range' k zss.length).filter p) := by
    intro zss
    induction zss with
    | nil => exact fun k _ => ⟨fun _ => false, rfl⟩
    | cons z zss ih =>
      intro k hz
      obtain ⟨c, rfl⟩ := hz 0 z rfl
      obtain ⟨p, e⟩ := ih (k + 1) fun i z hi => by
        have := hz (i + 1) z (by simpa using hi)
        rwa [show k + (i + 1) = k + 1 + i by omega] at this
      refine ⟨fun i => if i = k then c else p i, ?_⟩
      rw [List.flatten_cons, e, List.length_cons, List.range'_succ, List.filter_cons]
      have e2 : (List.range' (k + 1) zss.length).filter (fun i => if i = k then c else p i) = (List.range' (k + 1) zss.length).filter p := List.filter_congr fun i hi => by
        have := (List.mem_range'.mp hi)
        obtain ⟨j, _, rfl⟩ := this
        rw [if_neg (by omega)]
      rw [e2]
      cases c <;> simp [nD]
  obtain ⟨p, e⟩ := key zss 0 fun i z hi => by
    obtain ⟨c, rfl⟩ := q1 i z hi
    exact ⟨c, by rw [Nat.zero_add]⟩
  rw [l1, ← List.range_eq_range'] at e
  exact ⟨p, t', by rw [e1, e], i1⟩
end DL
namespace DL
open PySem
theorem ints_nD (l : List Nat) : ints? (nD l) = some (l.map fun (i : Nat) => (i : Int)) := by rw [nD_ints, ints_map]
theorem cut_take {xs : List D} (k : Nat) : cutD xs none (some (k : Int)) = xs.take k := by
  unfold cutD HT.sIx
  simp only [List.drop_zero, Nat.sub_zero]
  rw [if_neg (by omega), Int.toNat_natCast]
  by_cases h : k ≤ xs.length
  · rw [Nat.min_eq_left h]
  · rw [Nat.min_eq_right (by omega), List.take_of_length_le (by omega), List.take_of_length_le (by omega)]
end DL
namespace DL
open PySem
theorem len_t (ds : List D) : lenF [.tup ds] = some (.int (ds.length : Int)) := rfl
theorem fldR_nx {R τ : Type} {f : D → τ → Option (Fl R τ)} {d : D} {ds : List D} {t t' : τ} (h : f d t = some (.nx t')) : fldR f (d :: ds) t = fldR f ds t' := by
  simp [fldR, h]
theorem sel_lt (n : Nat) (p : Nat → Bool) : ((List.range n).filter p).Pairwise (· < ·) := List.Pairwise.filter _ List.pairwise_lt_range
end DL
namespace DL
open PySem
theorem eqv_int (i j : Int) : PyData.eqv (py (.int i)) (py (.int j)) = decide (i = j) := by
  show PyData.eqv (.int i) (.int j) = _
  rw [PyData.eqv]; rfl
theorem eqvAll_n : ∀ l m : List Nat, PyData.eqvAll (pys (nD l)) (pys (nD m)) = decide (l = m)
  | [], [] => rfl
  | [], y :: m => by show PyData.eqvAll (pys []) (pys (.int (y : Int) :: nD m)) = _; rw [pys, pys, PyData.eqvAll]; rfl
  | x :: l, [] => by show PyData.eqvAll (pys (.int (x : Int) :: nD l)) (pys []) = _; rw [pys, pys, PyData.eqvAll]; rfl
  | x :: l, y :: m => by
    show PyData.eqvAll (pys (.int (x : Int) :: nD l)) (pys (.int (y : Int) :: nD m)) = _
    rw [pys, pys, PyData.eqvAll, eqv_int, eqvAll_n l m, ← Bool.decide_and]
    exact decide_eq_decide.mpr (by rw [List.cons.injEq, Int.natCast_inj])
end DL
namespace DL
open PySem
section
variable {P P1 P2 P3 P4 P' Pw : List Pk} {m ma mb mc md : EM} {d a b c e : D} {Q : Out → Prop} {i j l : Nat} {k : Bool}
end
end DL
namespace DL
open PySem
end DL
namespace DL
open PySem
end DL
namespace DL
open PySem
theorem Mt.length : ∀ {P : List Pk} {ρ : Env}, Mt P ρ → ρ.length = P.length
  | [], [], _ => rfl
  | _ :: P, _ :: ρ, h => by rw [List.length_cons, List.length_cons, Mt.length h.2]
  | [], _ :: _, h => h.elim
  | _ :: _, [], h => h.elim
end DL
namespace DL
open PySem
theorem st_sorted {n : Nat} {l : List Nat} (h : IsSt n l) : l.Pairwise (· < ·) := by
  obtain ⟨p, rfl⟩ := h; exact sel_lt n p
theorem nat_ext {l m : List Nat} (hl : l.Pairwise (· < ·)) (hm : m.Pairwise (· < ·)) (h : ∀ k, k ∈ l ↔ k ∈ m) : l = m :=
  List.Perm.eq_of_pairwise (fun a b _ _ h1 h2 => by omega) hl hm ((List.perm_ext_iff_of_nodup (hl.imp fun h e => by omega) (hm.imp fun h e => by omega)).mpr h)
theorem IsSt.of {n : Nat} {l : List Nat} (h : l.Pairwise (· < ·)) (hl : ∀ i ∈ l, i < n) : IsSt n l :=
  ⟨fun i => l.contains i, nat_ext h (sel_lt n _) fun k => by
    rw [List.mem_filter, List.mem_range, List.contains_eq_mem, decide_eq_true_eq]
    exact ⟨fun z => ⟨hl k z, z⟩, fun z => z.2⟩⟩
theorem IsSt.take {n : Nat} {l : List Nat} (h : IsSt n l) (k : Nat) : IsSt n (l.take k) :=
  .of ((st_sorted h).sublist (List.take_sublist _ _)) fun i hi => h.lt (List.mem_of_mem_take hi)
theorem eqv_nl (l m : List Nat) : PyData.eqv (py (.lst (nD l))) (py (.lst (nD m))) = decide (l = m) := by
  rw [py, py, PyData.eqv, eqvAll_n]
theorem eqD_nl (l m : List Nat) : eqD (.lst (nD l)) (.lst (nD m)) = some (.bl (decide (l = m))) := by
  have e : eqD (.lst (nD l)) (.lst (nD m)) = if okD 60 (.lst (nD l)) && okD 60 (.lst (nD m)) then some (.bl (PyData.eqv (py (.lst (nD l))) (py (.lst (nD m))))) else none := rfl
  rw [e, okD_nL, okD_nL, eqv_nl]; rfl
theorem neD_self {x : D} {n : Nat} (h : okD n x = true) (l : n ≤ 60) : neD x x = some (.bl false) := by
  unfold neD
  rw [okD_up x l h]
  show some (D.bl (!PyData.eqv (py x) (py x))) = _
  rw [eqv_self n x h]; rfl
theorem cast_lt {l : List Nat} (h : l.Pairwise (· < ·)) : (l.map fun (i : Nat) => (i : Int)).Pairwise (· < ·) := List.pairwise_map.mpr (h.imp fun z => by omega)
theorem srt_n {n : Nat} {l : List Nat} (h : ∀ i ∈ l, i < n) : srt (l.map fun (i : Nat) => (i : Int)) = ((List.range n).filter fun i => l.contains i).map fun (i : Nat) => (i : Int) := by
  refine sorted_ext (srt_sorted _) (cast_lt (sel_lt n _)) fun k => ?_
  rw [mem_srt]
  simp only [List.mem_map, List.mem_filter, List.mem_range, List.contains_eq_mem, decide_eq_true_eq]
  constructor
  · rintro ⟨i, hi, rfl⟩; exact ⟨i, ⟨h i hi, hi⟩, rfl⟩
  · rintro ⟨i, ⟨_, hi⟩, rfl⟩; exact ⟨i, hi, rfl⟩
theorem sos_n {n : Nat} {l : List Nat} (h : ∀ i ∈ l, i < n) (hn : n < 64) (hl : l.length ≤ 1000) : sosF [.lst (nD l)] = some (.lst (nD ((List.range n).filter fun i => l.contains i))) := by
  have e := srt_n h
  have len : (srt (l.map fun (i : Nat) => (i : Int))).length < 64 := by
    rw [e, List.length_map]
    have := List.length_filter_le (fun i => l.contains i) (List.range n)
    rw [List.length_range] at this; omega
  simp only [sosF, Option.bind_some, ints_nD, List.length_map]
  rw [decide_eq_true hl, decide_eq_true len, e, ← nD_ints]
  rfl
theorem zip_n : ∀ l m : List Nat, zipF (nD l) (nD m) = (l.zip m).map fun p => D.tup [.int (p.1 : Int), .int (p.2 : Int)]
  | [], _ => rfl
  | _ :: _, [] => rfl
  | x :: l, y :: m => by
    show D.tup [.int (x : Int), .int (y : Int)] :: zipF (nD l) (nD m) = _
    rw [zip_n l m]; rfl
theorem neigh : ∀ {l : List Nat}, l.Pairwise (· < ·) → ∀ p ∈ l.zip l.tail, p.1 < p.2
  | [], _, p, hp => by cases hp
  | [_], _, p, hp => by cases hp
  | x :: y :: r, h, p, hp => by
    rcases List.mem_cons.mp (show p ∈ (x, y) :: (y :: r).zip (y :: r).tail from hp) with e | e
    · rw [e]; exact (List.pairwise_cons.mp h).1 y (List.mem_cons_self ..)
    · exact neigh (List.pairwise_cons.mp h).2 p e
theorem cut_drop1 {xs : List D} : cutD xs (some 1) none = xs.tail := by
  unfold cutD
  cases xs with
  | nil => rfl
  | cons x r =>
    have e1 : HT.sIx (x :: r).length 0 (some 1) = 1 := by
      simp [HT.sIx]
    have e2 : HT.sIx (x :: r).length (x :: r).length none = (x :: r).length := by
      simp [HT.sIx]
    rw [e1, e2]
    simp
theorem nD_tail (l : List Nat) : (nD l).tail = nD l.tail := by cases l <;> rfl
theorem slice_takeT {xs : List D} (k : Nat) : sliceD (.tup xs) none (some (k : Int)) = some (.tup (xs.take k)) := by
  show some (D.tup (cutD xs none (some (k : Int)))) = _
  rw [cut_take]
end DL
namespace RM
theorem nb {i v : Nat} (h : ¬i = v) : (i == v) = false := beq_eq_false_iff_ne.mpr h
def cn (n : Nat) (p : Nat → Bool) : Nat := (List.range n).countP p
theorem cn_succ (n : Nat) (p : Nat → Bool) : cn (n + 1) p = cn n p + if p n then 1 else 0 := by
  unfold cn; rw [List.range_succ, List.countP_append]; simp [List.countP_cons]
theorem cn_zero (p : Nat → Bool) : cn 0 p = 0 := rfl
theorem cn_congr {n : Nat} {p q : Nat → Bool} (h : ∀ i, i < n → p i = q i) : cn n p = cn n q := by
  induction n with
  | zero => rfl
  | succ n ih => rw [cn_succ, cn_succ, ih fun i hi => h i (by omega), h n (by omega)]
theorem cn_le {n : Nat} {p : Nat → Bool} : cn n p ≤ n := by
  induction n with
  | zero => exact Nat.le_refl _
  | succ n ih => rw [cn_succ]; split <;> omega
theorem cn_lt {n : Nat} {p q : Nat → Bool} (c : cn n p < cn n q) : ∃ i, i < n ∧ q i = true ∧ p i = false := by
  induction n with
  | zero => rw [cn_zero, cn_zero] at c; omega
  | succ n ih =>
    rw [cn_succ, cn_succ] at c
    by_cases h : cn n p < cn n q
    · obtain ⟨i, hi, e⟩ := ih h; exact ⟨i, by omega, e⟩
    · cases e : q n with
      | false => rw [e] at c; simp at c; split at c <;> omega
      | true =>
        cases e2 : p n with
        | false => exact ⟨n, by omega, e, e2⟩
        | true => rw [e, e2] at c; simp at c; omega
theorem cn_pos {n : Nat} {p : Nat → Bool} (c : 0 < cn n p) : ∃ i, i < n ∧ p i = true := by
  have : cn n (fun _ => false) < cn n p := by
    have : cn n (fun _ => false) = 0 := by
      unfold cn; rw [List.countP_eq_zero]; intro _ _ h; cases h
    omega
  obtain ⟨i, hi, e, _⟩ := cn_lt this
  exact ⟨i, hi, e⟩
theorem pos_cn {n : Nat} {p : Nat → Bool} {i : Nat} (hi : i < n) (h : p i = true) : 0 < cn n p := by
  unfold cn; exact List.countP_pos_iff.mpr ⟨i, List.mem_range.mpr hi, h⟩
/-- one more -/
def ins (p : Nat → Bool) (v : Nat) : Nat → Bool := fun i => p i || i == v
def del (p : Nat → Bool) (v : Nat) : Nat → Bool := fun i => p i && i != v
theorem cn_ins {n : Nat} {p : Nat → Bool} {v : Nat} (hv : v < n) (h : p v = false) : cn n (ins p v) = cn n p + 1 := by
  induction n with
  | zero => omega
  | succ n ih =>
    rw [cn_succ, cn_succ]
    by_cases e : v = n
    · subst e
      have : cn v (ins p v) = cn v p := cn_congr fun i hi => by simp [ins]; omega
      rw [this, h]; simp [ins]
    · rw [ih (by omega)]
      have : ins p v n = p n := by simp [ins]; omega
      rw [this]; omega
theorem cn_del {n : Nat} {p : Nat → Bool} {v : Nat} (hv : v < n) (h : p v = true) : cn n (del p v) + 1 = cn n p := by
  have h2 : del p v v = false := by simp [del]
  have := cn_ins hv h2
  rw [← this]
  exact cn_congr fun i _ => by
    simp only [ins, del]
    by_cases e : i = v
    · subst e; simp [h]
    · simp [nb e, bne]
structure Sea where
  n : Nat
  x : Nat → Int
  M : Nat → Int
  T : Nat
  hT : T < n
  up : ∀ s, s < T → M s ≤ M (s + 1)
  dn : ∀ s, T ≤ s → s + 1 < n → M (s + 1) ≤ M s
variable {Z : Sea}
abbrev Sea.c (Z : Sea) (p : Nat → Bool) : Nat := cn Z.n p
/-- who may go at a step -/
def Sea.G (Z : Sea) (s : Nat) : Nat → Bool := fun v => decide (Z.x v ≤ Z.M s)
theorem dn_le : ∀ {s t : Nat}, Z.T ≤ s → s ≤ t → t < Z.n → Z.M t ≤ Z.M s := by
  intro s t hs h ht
  induction t with
  | zero => have : s = 0 := by omega
            rw [this]; exact Int.le_refl _
  | succ t ih =>
    by_cases e : s = t + 1
    · rw [e]; exact Int.le_refl _
    · exact Int.le_trans (Z.dn t (by omega) ht) (ih (by omega) (by omega))
theorem G_dn {s t : Nat} (hs : Z.T ≤ s) (h : s ≤ t) (ht : t < Z.n) {v : Nat} (g : Z.G t v = true) : Z.G s v = true := by
  unfold Sea.G at g ⊢; exact decide_eq_true (Int.le_trans (of_decide_eq_true g) (dn_le hs h ht))
/-- one crossing -/
def Sea.Mv (Z : Sea) (p q : Nat → Bool) : Prop := ∃ v, v < Z.n ∧ Z.G (Z.c (del p v)) v = true ∧ ∀ i, i < Z.n → q i = if i = v then !p i else p i
inductive Sea.R (Z : Sea) : (Nat → Bool) → (Nat → Bool) → Prop where
  | refl {p q : Nat → Bool} : (∀ i, i < Z.n → p i = q i) → R Z p q
  | tail {p q r : Nat → Bool} : R Z p q → Z.Mv q r → R Z p r
theorem R.self {p : Nat → Bool} : Z.R p p := .refl fun _ _ => rfl
theorem mv_congr {p p' q q' : Nat → Bool} (m : Z.Mv p q) (h : ∀ i, i < Z.n → p i = p' i) (h' : ∀ i, i < Z.n → q i = q' i) : Z.Mv p' q' := by
  obtain ⟨v, hv, g, e⟩ := m
  refine ⟨v, hv, ?_, fun i hi => by rw [← h' i hi, ← h i hi]; exact e i hi⟩
  have : Z.c (del p' v) = Z.c (del p v) := cn_congr fun i hi => by simp only [del]; rw [h i hi]
  rw [this]; exact g
theorem mv_symm {p q : Nat → Bool} (m : Z.Mv p q) : Z.Mv q p := by
  obtain ⟨v, hv, g, e⟩ := m
  refine ⟨v, hv, ?_, fun i hi => by rw [e i hi]; by_cases h : i = v <;> simp [h]⟩
  have : Z.c (del q v) = Z.c (del p v) := cn_congr fun i hi => by
    simp only [del]; rw [e i hi]
    by_cases h : i = v
    · simp [h]
    · simp [h]
  rw [this]; exact g
theorem R.congr_right {p q q' : Nat → Bool} (h : Z.R p q) (e : ∀ i, i < Z.n → q i = q' i) : Z.R p q' := by
  cases h with
  | refl h => exact .refl fun i hi => (h i hi).trans (e i hi)
  | tail h m => exact .tail h (mv_congr m (fun _ _ => rfl) e)
theorem R.trans {p q r : Nat → Bool} (h : Z.R p q) (h2 : Z.R q r) : Z.R p r := by
  induction h2 with
  | refl e => exact R.congr_right h e
  | tail _ m ih => exact .tail ih m
theorem R.one {p q : Nat → Bool} (m : Z.Mv p q) : Z.R p q := .tail R.self m
theorem R.symm {p q : Nat → Bool} (h : Z.R p q) : Z.R q p := by
  induction h with
  | refl e => exact .refl fun i hi => (e i hi).symm
  | tail _ m ih => exact R.trans (R.one (mv_symm m)) ih
theorem mv_del {p : Nat → Bool} {v : Nat} (hv : v < Z.n) (h : p v = true) (g : Z.G (Z.c p - 1) v = true) : Z.Mv p (del p v) := by
  refine ⟨v, hv, ?_, fun i _ => by simp only [del]; by_cases e : i = v <;> simp [e, h]⟩
  have := cn_del hv h
  rw [show Z.c (del p v) = Z.c p - 1 by unfold Sea.c; omega]; exact g
/-- at a step too few more may go -/
def stL (Z : Sea) (p : Nat → Bool) (s : Nat) : Bool := decide (Z.c (fun i => Z.G s i && !p i) ≤ s - Z.c p)
/-- at a step too few may go back -/
def stH (Z : Sea) (p : Nat → Bool) (s : Nat) : Bool := decide (Z.c (fun i => p i && Z.G s i) < Z.c p - s)
structure Low (Z : Sea) (p : Nat → Bool) (s : Nat) : Prop where
  a : Z.c p ≤ s
  b : s ≤ Z.T
  c : stL Z p s = true
  d : ∀ t, Z.c p ≤ t → t < s → stL Z p t = false
structure High (Z : Sea) (p : Nat → Bool) (s : Nat) : Prop where
  a : Z.T ≤ s
  b : s < Z.c p
  c : stH Z p s = true
  d : ∀ t, s < t → t < Z.c p → stH Z p t = false
def Open (Z : Sea) (p : Nat → Bool) : Prop := (∀ t, Z.c p ≤ t → t ≤ Z.T → stL Z p t = false) ∧ (∀ t, Z.T ≤ t → t < Z.c p → stH Z p t = false)
def full (Z : Sea) (p : Nat → Bool) (s : Nat) : Nat → Bool := fun i => p i || Z.G s i
def left (Z : Sea) (p : Nat → Bool) (s : Nat) : Nat → Bool := fun i => p i && !Z.G s i
theorem ins_and {n : Nat} {g p : Nat → Bool} {v : Nat} (hv : v < n) (gv : g v = true) (h : p v = false) : cn n (fun i => (ins p v) i && g i) = cn n (fun i => p i && g i) + 1 := by
  have := cn_ins (n := n) (p := fun i => p i && g i) hv (by simp [h])
  rw [← this]
  exact cn_congr fun i _ => by
    simp only [ins]
    by_cases e : i = v
    · subst e; simp [gv]
    · simp [nb e]
section
variable {p : Nat → Bool} {v : Nat} (hv : v < Z.n) (h : p v = false) (g : Z.G (Z.c p) v = true)
include hv h g
theorem stH_ins {s : Nat} (hs : s < Z.c p) (hT : Z.T ≤ s) : stH Z (ins p v) s = stH Z p s := by
  unfold stH
  have hn : Z.c p < Z.n := by
    have := cn_ins hv h
    have h2 := @cn_le Z.n (ins p v)
    unfold Sea.c; omega
  have e1 := ins_and (n := Z.n) (g := Z.G s) (p := p) hv (G_dn hT (by omega) hn g) h
  have e2 := cn_ins hv h
  unfold Sea.c at *
  exact decide_eq_decide.mpr (by omega)
theorem stH_self : stH Z (ins p v) (Z.c p) = false := by
  unfold stH
  refine decide_eq_false ?_
  have := pos_cn (n := Z.n) (p := fun i => ins p v i && Z.G (Z.c p) i) hv (by simp [ins, g])
  have e2 := cn_ins hv h
  unfold Sea.c at *
  omega
theorem high_ins {s : Nat} : High Z p s ↔ High Z (ins p v) s := by
  have e2 := cn_ins hv h
  have s0 := stH_self hv h g
  constructor
  · rintro ⟨a, b, c, d⟩
    refine ⟨a, by unfold Sea.c at *; omega, ?_, fun t h1 h2 => ?_⟩
    · rw [stH_ins hv h g b a]; exact c
    · by_cases e : t = Z.c p
      · rw [e]; exact s0
      · rw [stH_ins hv h g (by unfold Sea.c at *; omega) (by omega)]; exact d t h1 (by unfold Sea.c at *; omega)
  · rintro ⟨a, b, c, d⟩
    have ne : s ≠ Z.c p := fun e => by rw [e, s0] at c; cases c
    have lt : s < Z.c p := by unfold Sea.c at *; omega
    refine ⟨a, lt, ?_, fun t h1 h2 => ?_⟩
    · rw [← stH_ins hv h g lt a]; exact c
    · rw [← stH_ins hv h g h2 (by omega)]; exact d t h1 (by unfold Sea.c at *; omega)
theorem left_ins {s : Nat} (l : High Z p s) : ∀ i, left Z p s i = left Z (ins p v) s i := fun i => by
  have hn : Z.c p < Z.n := by
    have := cn_ins hv h
    have h2 := @cn_le Z.n (ins p v)
    unfold Sea.c; omega
  have gv := G_dn l.a (by have := l.b; omega) hn g
  simp only [left, ins]
  by_cases e : i = v
  · subst e; simp [gv]
  · simp [nb e]
end
end RM
namespace RM
variable {Z : Sea} {p q : Nat → Bool}
theorem ins_del {p : Nat → Bool} {v : Nat} (h : p v = true) : ins (del p v) v = p := funext fun i => by
  simp only [ins, del]
  by_cases e : i = v
  · subst e; simp [h]
  · simp [nb e, bne]
theorem del_self {p : Nat → Bool} {v : Nat} : del p v v = false := by simp [del]
theorem empty {s : Nat} : ∀ (k : Nat) (p : Nat → Bool), Z.c p - (s + 1) = k → High Z p s → Z.R p (left Z p s) := by
  intro k
  induction k with
  | zero =>
    intro p e l
    have c := of_decide_eq_true l.c
    have b := l.b
    refine .refl fun i hi => ?_
    simp only [left]
    cases hg : Z.G s i with
    | false => simp
    | true =>
      cases hp : p i with
      | false => rfl
      | true =>
        have := pos_cn (n := Z.n) (p := fun i => p i && Z.G s i) hi (by simp [hg, hp])
        unfold Sea.c at *
        omega
  | succ k ih =>
    intro p e l
    have d := of_decide_eq_false (l.d (Z.c p - 1) (by omega) (by omega))
    obtain ⟨v, hv, gv⟩ := cn_pos (n := Z.n) (p := fun i => p i && Z.G (Z.c p - 1) i) (by unfold Sea.c at *; omega)
    rw [Bool.and_eq_true] at gv
    have e2 := cn_del hv gv.1
    have g : Z.G (Z.c (del p v)) v = true := by rw [show Z.c (del p v) = Z.c p - 1 by unfold Sea.c; omega]; exact gv.2
    have l2 : High Z (del p v) s := (high_ins hv del_self g).mpr (by rw [ins_del gv.1]; exact l)
    have r := ih (del p v) (by unfold Sea.c at *; omega) l2
    refine R.trans (R.one (mv_del hv gv.1 gv.2)) (R.congr_right r fun i _ => ?_)
    have := left_ins hv del_self g l2 i
    rw [ins_del gv.1] at this
    exact this
/-- what all that come to one another have alike -/
def KeyEq (Z : Sea) (p q : Nat → Bool) : Prop :=
  (∃ s, Low Z p s ∧ Low Z q s ∧ ∀ i, i < Z.n → full Z p s i = full Z q s i) ∨ (∃ s, High Z p s ∧ High Z q s ∧ ∀ i, i < Z.n → left Z p s i = left Z q s i) ∨
  (Open Z p ∧ Open Z q ∧ ∀ i, i < Z.n → left Z p Z.T i = left Z q Z.T i)
section
variable (h : ∀ i, i < Z.n → p i = q i)
include h
end
theorem KeyEq.symm (h : KeyEq Z p q) : KeyEq Z q p := by
  rcases h with ⟨s, a, b, e⟩ | ⟨s, a, b, e⟩ | ⟨a, b, e⟩
  · exact .inl ⟨s, b, a, fun i hi => (e i hi).symm⟩
  · exact .inr (.inl ⟨s, b, a, fun i hi => (e i hi).symm⟩)
  · exact .inr (.inr ⟨b, a, fun i hi => (e i hi).symm⟩)
theorem Low.uniq {s t : Nat} (a : Low Z p s) (b : Low Z p t) : s = t := by
  rcases Nat.lt_trichotomy s t with h | h | h
  · have := b.d s a.a h; rw [a.c] at this; cases this
  · exact h
  · have := a.d t b.a h; rw [b.c] at this; cases this
theorem High.uniq {s t : Nat} (a : High Z p s) (b : High Z p t) : s = t := by
  rcases Nat.lt_trichotomy s t with h | h | h
  · have := a.d t h b.b; rw [b.c] at this; cases this
  · exact h
  · have := b.d s h a.b; rw [a.c] at this; cases this
theorem Low.not_high {s t : Nat} (a : Low Z p s) (b : High Z p t) : False := by have := a.a; have := a.b; have := b.a; have := b.b; omega
theorem Low.not_open {s : Nat} (a : Low Z p s) (b : Open Z p) : False := by have := b.1 s a.a a.b; rw [a.c] at this; cases this
theorem High.not_open {s : Nat} (a : High Z p s) (b : Open Z p) : False := by have := b.2 s a.a a.b; rw [a.c] at this; cases this
theorem KeyEq.trans {r : Nat → Bool} (h : KeyEq Z p q) (h2 : KeyEq Z q r) : KeyEq Z p r := by
  rcases h with ⟨s, a, b, e⟩ | ⟨s, a, b, e⟩ | ⟨a, b, e⟩ <;> rcases h2 with ⟨s', a', b', e'⟩ | ⟨s', a', b', e'⟩ | ⟨a', b', e'⟩
  · cases b.uniq a'; exact .inl ⟨s, a, b', fun i hi => (e i hi).trans (e' i hi)⟩
  · exact (b.not_high a').elim
  · exact (b.not_open a').elim
  · exact (a'.not_high b).elim
  · cases b.uniq a'; exact .inr (.inl ⟨s, a, b', fun i hi => (e i hi).trans (e' i hi)⟩)
  · exact (b.not_open a').elim
  · exact (a'.not_open b).elim
  · exact (a'.not_open b).elim
  · exact .inr (.inr ⟨a, b', fun i hi => (e i hi).trans (e' i hi)⟩)
end RM
namespace RM
variable {Z : Sea} {p q : Nat → Bool}
/-- enough may go at each step for to go down from the one number to the other -/
def En (Z : Sea) (m s : Nat) : Prop := ∀ t, m ≤ t → t < s → t + 1 ≤ Z.c (Z.G t) + m
theorem En.mono {m m' s : Nat} (h : En Z m s) (l : m ≤ m') : En Z m' s := fun t a b => by have := h t (by omega) b; omega
end RM
namespace RM
def Sea.turn (Z : Sea) : Sea where
  n := Z.n
  x := Z.x
  M := fun s => Z.M (Z.n - 1 - s)
  T := Z.n - 1 - Z.T
  hT := by have := Z.hT; omega
  up := fun s h => by
    have hT := Z.hT
    have := Z.dn (Z.n - 1 - (s + 1)) (by omega) (by omega)
    rw [show Z.n - 1 - (s + 1) + 1 = Z.n - 1 - s by omega] at this
    exact this
  dn := fun s h1 h2 => by
    have hT := Z.hT
    have := Z.up (Z.n - 1 - (s + 1)) (by omega)
    rw [show Z.n - 1 - (s + 1) + 1 = Z.n - 1 - s by omega] at this
    exact this
variable {Z : Sea} {p q : Nat → Bool}
/-- enough may go at each step for to go up from the one number to the other -/
def Eu (Z : Sea) (l m : Nat) : Prop := ∀ t, l ≤ t → t < m → m ≤ Z.c (Z.G t) + t
theorem Eu.mono {l m m' : Nat} (h : Eu Z l m) (h2 : m' ≤ m) : Eu Z l m' := fun t a b => by have := h t a (by omega); omega
def IsLeast (Z : Sea) (p : Nat → Bool) (m : Nat) : Prop := (∃ q, Z.R p q ∧ Z.c q = m) ∧ ∀ q, Z.R p q → m ≤ Z.c q
def IsMost (Z : Sea) (p : Nat → Bool) (m : Nat) : Prop := (∃ q, Z.R p q ∧ Z.c q = m) ∧ ∀ q, Z.R p q → Z.c q ≤ m
theorem IsLeast.uniq {m m' : Nat} (a : IsLeast Z p m) (b : IsLeast Z p m') : m = m' := by
  obtain ⟨⟨q, r, e⟩, l⟩ := a
  obtain ⟨⟨q', r', e'⟩, l'⟩ := b
  have := l q' r'
  have := l' q r
  omega
theorem IsMost.uniq {m m' : Nat} (a : IsMost Z p m) (b : IsMost Z p m') : m = m' := by
  obtain ⟨⟨q, r, e⟩, l⟩ := a
  obtain ⟨⟨q', r', e'⟩, l'⟩ := b
  have := l q' r'
  have := l' q r
  omega
end RM
namespace RM
variable {Z Z' : Sea} {p q : Nat → Bool}
end RM
namespace DL
open PySem
end DL
namespace DL
open PySem
variable {P P1 : List Pk} {ma : EM} {a b : D} {i : Nat}
@[simp] theorem isKG_dT (xs : List (List Int × D)) : isKG "dict" (.dT xs) = some () := rfl
@[simp] theorem isKG_dK (xs : List (L2.Key × D)) : isKG "dict" (.dK xs) = some () := rfl
end DL
namespace DL
open PySem
def XN (P : List Pk) (m : NM) (d : List (D × Bool)) (P' : List Pk) : Prop := ∀ ρ, Mt P ρ → ∃ ρ', m ρ = some (d, ρ') ∧ Mt P' ρ'
def WO (P : List Pk) (ps : List (D × Bool)) (mo : List (D × Bool) → SM) (Q : Out → Prop) : Prop := ∀ ρ, Mt P ρ → ∃ o, mo ps ρ = some o ∧ Q o
section
variable {P P1 P2 P3 : List Pk} {m me : EM} {nm : NM} {ps : List (D × Bool)} {d : D} {ds : List D} {z : D × D} {b k : Bool} {am : AM} {as : List Arg} {mc : TM} {mo : List (D × Bool) → SM} {Q : Out → Prop} {i x : Nat} {m0 : SM} {f : D → List D → Option (D × D)}
theorem XN.nil : XN P nNil [] P := fun ρ h => ⟨ρ, rfl, h⟩
theorem XN.cons (h : XE P m d P1) (g : XN P1 nm ps P2) : XN P (nCons b m nm) ((d, b) :: ps) P2 := fun ρ mt => by
  obtain ⟨ρ1, h1, m1⟩ := h ρ mt
  obtain ⟨ρ2, h2, m2⟩ := g ρ1 m1
  exact ⟨ρ2, by unfold nCons; rw [h1]; simp only [Option.bind_some]; rw [h2]; rfl, m2⟩
theorem WO.fin (h : WS P m0 Q) : WO P ps (noEnd m0) Q := h
end
end DL
namespace DL
open PySem
section
variable {P P1 P2 P3 Pw : List Pk} {ma mb mo ek ev el : EM} {a b c d z x v : D} {i : Nat} {it : IM} {g : GM} {tt : TM} {ds zs : List D} {vs : List Nat} {k : L2.Key}
theorem XE.kv (h : XE P ek x P1) (h2 : XE P1 ev v P2) (e : keyK x = some k) : XE P (kvE ek ev) (.tup [x, v]) P2 := fun ρ m => by
  obtain ⟨ρ1, e1, m1⟩ := h ρ m
  obtain ⟨ρ2, e2, m2⟩ := h2 ρ1 m1
  exact ⟨ρ2, by simp only [kvE, e1, Option.bind_some, e2, e, Option.map_some], m2⟩
def isDctG (d : D) : Option Unit := if isDct d = true then some () else none
@[simp] theorem isDctG_dT (xs : List (List Int × D)) : isDctG (.dT xs) = some () := rfl
@[simp] theorem isDctG_dK (xs : List (L2.Key × D)) : isDctG (.dK xs) = some () := rfl
end
end DL
namespace DL
open PySem
def unS3 : D → Option (D × D × D)
  | .tup [a, b, c] => some (a, b, c)
  | .lst [a, b, c] => some (a, b, c)
  | _ => none
@[simp] theorem unS3_t (a b c : D) : unS3 (.tup [a, b, c]) = some (a, b, c) := rfl
@[simp] theorem unS3_l (a b c : D) : unS3 (.lst [a, b, c]) = some (a, b, c) := rfl
theorem XG.ts {P P' : List Pk} {r : List D → Env → Option Env} {d a b c : D} (h : XGs P r [a, b, c] P') (e : d = .tup [a, b, c] ∨ d = .lst [a, b, c]) : XG P (gTS r) d P' := fun ρ m => by
  rcases e with rfl | rfl <;> exact h ρ m
end DL
namespace DL
open PySem
def keysG : D → Option (List D)
  | .dT kvs => if kvs.length ≤ 1000000 ∧ (kvs.all fun kv => decide (kv.1.length ≤ 1000000)) = true then some (keysT kvs) else none
  | _ => none
theorem XI.keys {P P1 : List Pk} {ma : EM} {a : D} {ds : List D} (h : XE P ma a P1) (e : keysG a = some ds) : XI P (iKeysD ma) ds P1 := fun ρ m => by
  obtain ⟨ρ1, q1, m1⟩ := h ρ m
  refine ⟨ρ1, ?_, m1⟩
  unfold iKeysD
  rw [q1, Option.bind_some]
  cases a with
  | dT kvs =>
    unfold keysG at e
    simp only at e ⊢
    split at e
    · rename_i hc
      rw [if_pos hc]; cases e; rfl
    · cases e
  | _ => cases e
end DL
namespace DL
open PySem L2
/-- of depth k at most, of weight m at most -/
def Tl (k m : Nat) (d : D) : Prop := ∃ p, pyD d = some p ∧ p.showable = true ∧ p.hasDict = false ∧ p.depth ≤ k ∧ p.leavesShort 13 = true ∧ p.weight ≤ m
theorem log2_lt {n : Nat} (h : n < 10 ^ 13) : n.log2 < 44 := by
  by_cases z : n = 0
  · subst z; decide
  · rw [Nat.log2_lt z]; omega
theorem Tl.mono {k m k' m' : Nat} {d : D} (h : Tl k m d) (a : k ≤ k') (b : m ≤ m') : Tl k' m' d := by
  obtain ⟨p, a1, a2, a3, a4, a5, a6⟩ := h
  exact ⟨p, a1, a2, a3, by omega, a5, by omega⟩
end DL
namespace DL
open PySem
section
variable {P P1 P2 P3 : List Pk} {ma mo : EM} {am : AM} {a b d d0 d1 z : D} {ds : List D} {as : List Arg} {i : Nat} {C f m : Str}
/-- the object that was made -/
def newG : D × D → Option D
  | (.non, d) => some d
  | _ => none
theorem newG_e {r : D × D} (h : newG r = some d) : r = (.non, d) := by
  obtain ⟨x, y⟩ := r
  cases x <;> cases h
  rfl
theorem XE.make {fn : FnSem} {rest : List Sl} {r : D × D} (h : XA P am as P1) (hv : vals as = some ds) (hf : fn (.p (.obj C []) :: ds.map .v) = some (r.1, .p r.2 :: rest)) (e : newG r = some d) : XE P (eMake C fn am) d P1 := fun ρ m => by
  obtain ⟨ρ1, h1, m1⟩ := h ρ m
  refine ⟨ρ1, ?_, m1⟩
  have := newG_e e
  subst this
  unfold eMake
  rw [h1, Option.bind_some]
  simp only [hv, Option.bind_some, hf]
end
end DL
namespace DL
open PySem L2
variable [TabC]
omit [TabC] in
def slv (σ : L2.St) (l : List (Nat × V)) : L2.St := l.foldl (fun s p => s.set p.1 (some p.2)) σ
omit [TabC] in
abbrev AlM := Env → Option (List D)
omit [TabC] in
def alEnd (me : EM) : AlM := fun ρ => (me (ρ.map vwS)).bind fun p => (scL p.1).bind fun d => match d with
  | .lst ds => some ds
  | _ => none
omit [TabC] in
def alSet (i : Nat) (me : EM) (r : AlM) : AlM := fun ρ => (me (ρ.map vwS)).bind fun p => (putV i p.1 (ρ.map vwS)).bind r
/-- what comes behind: the list that is put to the end is new -/
def AlK (G : Gc) (σ : L2.St) (H : Hp) (ks : List Nat) (a : Addr) (ys : List D) (Q : L2.St → Hp → Prop) : Prop :=
  ∀ (l : List (Nat × V)) (H' : Hp) (b : Addr), l.map (·.1) = ks → Fm [] H H' → H b = none → (∃ vs, H' b = some (.lst vs) ∧ ys.length ≤ sizeLine ∧ ∀ W, RpAll G H' W ys vs) → TabsG H' → rExtendR (.ref a) [.ref b] H' fun _ H'' => Q (slv σ l) H''
structure DAl (X : Cx) (k : Nat) (ks : List Nat) (st : List Stmt) (t : TS) (m : AlM) : Prop where
  pe : PSs X st t
  q : ∀ (Γ : Gam) (σ : L2.St) (H : Hp) (ρ : Env) (ys : List D) (E : Ends) (a : Addr), Sr Γ X.G H σ ρ → m ρ = some ys → σ[k]? = some (some (.ref a)) → (∃ vs, H a = some (.lst vs)) → AlK X.G σ H ks a ys E.nx → t E σ H
section
variable {X : Cx} {e a b c : Expr} {es : List Expr} {te te1 te2 : TE} {m me : EM} {mc : TM} {tc : TT} {st : Stmt} {sts : List Stmt} {t : TS} {r : AlM} {k i j : Nat} {ks : List Nat} {x y xa xb name : Str} {p pos py pa pb apos cpos spos : Pos}
end
section
variable {X : Cx} {e : Expr} {lo hi : Option Expr} {pos p2 : Pos} {m : EM} {te : TE} {ml mh : OM} {tl th : TO}
end
section
variable {X : Cx}
end
end DL
namespace DL
open PySem
def XL (P : List Pk) (r : AlM) (ys : List D) : Prop := ∀ ρ, Mt P ρ → r ρ = some ys
section
variable {P P1 P2 P3 : List Pk} {m me : EM} {mc : TM} {a b y side z u a' b' : D} {ys : List D} {c : Bool} {r : AlM} {i j k n : Nat} {ks : List Nat} {lo hi : Option Int} {ml mh : OM}
theorem XL.end (h : XE (P.map vwP) me a P1) (e : scL a = some y) (e2 : unL y = some ys) : XL P (alEnd me) ys := fun ρ mt => by
  obtain ⟨ρ1, h1, _⟩ := h _ mt.vw
  unfold alEnd
  rw [h1, Option.bind_some, e, Option.bind_some]
  obtain ⟨ds, q1, rfl, _⟩ := scL_e e
  cases e2
  rfl
theorem XL.set (h : XE (P.map vwP) me a P1) (c : canV (P.map vwP)[n]? = true) (g : XL ((P.map vwP).set n (.v a)) r ys) : XL P (alSet n me r) ys := fun ρ mt => by
  obtain ⟨ρ1, h1, _⟩ := h _ mt.vw
  unfold alSet
  rw [h1, Option.bind_some, putV_ok mt.vw c, Option.bind_some]
  exact g _ (mt.vw.set rfl)
end
end DL
namespace DL
open PySem PySem.Spec PyProof.Rows L2
variable [TabC]
omit [TabC] in
theorem tm_one (a : Addr) (xs : Array Value) (m : Nat) (dc : Option Addr) (ss : Array (Option Value)) (k : Int) (t : Tok) (g0 : (decide (k < -(2 ^ 63)) || decide (k ≥ 2 ^ 63)) = false) (g1 : (xs.isEmpty || k == 1) = true) :
    Meets (Builtin.«tuple.__mul__» ⟨[.ref a, .int k t], []⟩) (fun _ R s => s.heap.get? a = some { cls := .type "tuple", dict := dc, data := .seq xs m, slots := ss } ∧ R (.ok (.ret (.ref a))) { s with heap := s.heap, toks := s.toks }) :=
  .of_wp fun _ _ _ _ s h => by
    obtain ⟨hp, g, d, tk, os⟩ := s
    obtain ⟨ha, h⟩ := h
    have fi := AutoSeq1.idx_int
    wp_walk using wpAny_loadPart' ha
    repeat (first
      | (refine wpAny_ite_false (decide_eq_false (by rw [g0]; decide)) ?_; wp_walk using wpAny_loadPart' ha)
      | (refine wpAny_ite_true (decide_eq_true (by rw [g1])) ?_; wp_walk using wpAny_loadPart' ha))
    exact ⟨_, rfl, h⟩
omit [TabC] in
theorem tm_none (a : Addr) (xs : Array Value) (m : Nat) (dc : Option Addr) (ss : Array (Option Value)) (k : Int) (t : Tok) (g0 : (decide (k < -(2 ^ 63)) || decide (k ≥ 2 ^ 63)) = false) (g1 : (xs.isEmpty || k == 1) = false) (g2 : (decide (k ≤ 0) || xs.isEmpty) = true) :
    Meets (Builtin.«tuple.__mul__» ⟨[.ref a, .int k t], []⟩) (fun _ R s => s.heap.get? a = some { cls := .type "tuple", dict := dc, data := .seq xs m, slots := ss } ∧ R (.ok (.ret (Value.ref s.heap.objs.size))) { s with heap := s.heap.push { cls := Value.type "tuple", data := Data.seq #[] }, toks := s.toks }) :=
  .of_wp fun _ _ _ _ s h => by
    obtain ⟨hp, g, d, tk, os⟩ := s
    obtain ⟨ha, h⟩ := h
    have fi := AutoSeq1.idx_int
    wp_walk using wpAny_loadPart' ha
    repeat (first
      | (refine wpAny_ite_false (decide_eq_false (by rw [g0]; decide)) ?_; wp_walk using wpAny_loadPart' ha)
      | (refine wpAny_ite_false (decide_eq_false (by rw [g1]; decide)) ?_; wp_walk using wpAny_loadPart' ha)
      | (refine wpAny_ite_true (decide_eq_true (by rw [g2])) ?_; wp_walk using wpAny_loadPart' ha))
    exact ⟨_, rfl, h⟩
omit [TabC] in
def rTim (K : PySem.W.Frag) : R2 := fun x y H Q => ∃ a k vs, x = .ref a ∧ y = .int k ∧ SqT K H a vs ∧ vs ≠ [] ∧ 0 ≤ k ∧ k ≤ 1000 ∧ vs.length ≤ 1000 ∧ (k = 1 → Q x H) ∧ ∀ p, H p = none → Q (.ref p) (upd H p (.tup (List.replicate k.toNat vs).flatten))
section
variable {X : Cx}
omit [TabC] in
theorem op_tim : OpR X (binaryOp .Mult) (rTim X.K) := by
  intro pins s σ H x y v u Q I rx ry h
  obtain ⟨a, k, vs, rfl, rfl, hT, hne, k0, k1, hz, q1, q⟩ := h
  by_cases k2 : 2 ≤ k
  · exact op_repT pins s σ H _ _ v u Q I rx ry ⟨a, k, vs, rfl, rfl, hT, hne, k2, k1, hz, q⟩
  cases rx
  obtain ⟨t, rfl⟩ := ry
  obtain ⟨ws, r, ⟨⟨cl, dc, dt, ss⟩, ho, e1, m, e2⟩, _⟩ := I.tuple hT
  simp only at e1 e2
  subst e1 e2
  have lw : ws.length = vs.length := r.length.symm
  have em : ws.toArray.isEmpty = false := by
    cases ws with
    | nil => exact (hne (List.eq_nil_of_length_eq_zero lw.symm)).elim
    | cons _ _ => rfl
  have g0 : (decide (k < -(2 ^ 63)) || decide (k ≥ 2 ^ 63)) = false := by rw [decide_eq_false (by omega), decide_eq_false (by omega)]; rfl
  have ty := fun s' => typeIs_int s' k t
  by_cases k1' : k = 1
  · have g1 : (ws.toArray.isEmpty || k == 1) = true := by rw [k1']; simp
    refine wpAny_binaryOp_repeat_ref (T := "tuple") (U := "int") (by decide) ⟨_, ho, rfl⟩ ty noFill_tuple_mul F.fills_int_mul F.slot_int_rmul repeat_tuple F.slot_int_index.lookup ?_
    refine call_meets F.slot_int_rmul (ty s) F.entry_int_rmul (F.args_int_rmul_2 _ _) (int_rmul_tuple k t a ws.toArray m dc ss) ⟨ho, rfl, ⟨_, ho, rfl⟩, ?_⟩
    refine call_meets F.slot_tuple_mul ⟨_, ho, rfl⟩ F.entry_tuple_mul (F.args_tuple_mul_2 _ _) (tm_one a ws.toArray m dc ss k t g0 g1) ⟨ho, ?_⟩
    exact ⟨.ref a, H, I, rfl, q1 k1'⟩
  · have z : k = 0 := by omega
    subst z
    have g1 : (ws.toArray.isEmpty || (0 : Int) == 1) = false := by rw [em]; rfl
    refine wpAny_binaryOp_repeat_ref (T := "tuple") (U := "int") (by decide) ⟨_, ho, rfl⟩ ty noFill_tuple_mul F.fills_int_mul F.slot_int_rmul repeat_tuple F.slot_int_index.lookup ?_
    refine call_meets F.slot_int_rmul (ty s) F.entry_int_rmul (F.args_int_rmul_2 _ _) (int_rmul_tuple 0 t a ws.toArray m dc ss) ⟨ho, rfl, ⟨_, ho, rfl⟩, ?_⟩
    refine call_meets F.slot_tuple_mul ⟨_, ho, rfl⟩ F.entry_tuple_mul (F.args_tuple_mul_2 _ _) (tm_none a ws.toArray m dc ss 0 t g0 g1 (by rfl)) ⟨ho, ?_⟩
    refine ⟨.ref s.heap.objs.size, _, I.laid (t' := s.toks) (o := .tup []) (fun b ob q => Heap.get?_push_of_some _ q) (Nat.le_refl _) ?_, rfl, q _ (I.hok.fresh (Nat.le_refl _))⟩
    exact ⟨Nat.zero_le _, [], .nil, IsTup.new _ _⟩
end
omit [TabC] in
def timD : D → D → Option D
  | .tup xs, .int k => if decide (0 ≤ k) && decide (k ≤ 1000) && decide (xs.length ≤ 1000) && decide (xs ≠ []) then some (.tup (repL k xs)) else none
  | _, _ => none
variable {X : Cx}
theorem od_tim : OpD X.G (rTim X.K) timD := by
  intro H W x y dx dy z Q th rx ry e q
  match dx, dy, e with
  | .tup ds, .int k, e =>
    simp only [timD] at e
    split at e
    · rename_i l
      cases e
      simp only [Bool.and_eq_true, decide_eq_true_eq] at l
      obtain ⟨⟨⟨k0, k1⟩, hl⟩, hn⟩ := l
      obtain ⟨a, vs, rfl, f, ls, ra⟩ := rx
      have le := ra.length
      have rl : (repL k ds).length ≤ sizeLine := by
        unfold repL
        rw [PyProof.Rows.lm_len_rep_flat, sizeLine_eq]
        have := Nat.mul_le_mul (show k.toNat ≤ 1000 by omega) hl
        omega
      refine ⟨a, k, vs, rfl, ry, f.sq, fun h => hn ?_, k0, k1, by rw [le]; exact hl, fun h => ?_, fun p n => q _ _ (fm_new n) ?_⟩
      · rw [h] at le; exact List.eq_nil_of_length_eq_zero le.symm
      · subst h
        refine q _ H (Fm.refl _ _) ⟨a, vs, rfl, f, rl, ?_⟩
        have : repL 1 ds = ds := by unfold repL; simp
        rw [this]; exact ra
      · exact ⟨p, _, rfl, upd_same, rl, RpAll.mo (new_mo (G := X.G) n) _ _ (ra.rep k.toNat)⟩
    · cases e
end DL
namespace DL
open PySem PySem.Spec PyProof.Rows L2
variable [TabC]
section
variable {prog : Program} {w : World} {A : Around} {E : Value → Shared → Prop} {s : Shared}
end
section
variable {X : Cx}
end
section
variable {X : Cx} {e : Expr} {te : TE} {m : EM} {pos : Pos}
end
end DL
namespace DL
open PySem L2
variable [TabC]
section
variable {X : Cx} {pos q1 q2 q3 q4 : Pos} {j1 j2 j3 j4 : Nat}
end
end DL
namespace DL
open PySem L2
variable [TabC]
section
variable {X : Cx}
end
section
variable {X : Cx} {o oi yi : Expr} {to ti tY : TE} {mo mi my : EM} {apos cpos : Pos}
end
end DL
namespace DL
open PySem
def unS2 : D → Option (D × D)
  | .tup [a, b] => some (a, b)
  | .lst [a, b] => some (a, b)
  | _ => none
@[simp] theorem unS2_t (a b : D) : unS2 (.tup [a, b]) = some (a, b) := rfl
@[simp] theorem unS2_l (a b : D) : unS2 (.lst [a, b]) = some (a, b) := rfl
section
variable {P P1 P2 P3 : List Pk} {mo ma my : EM} {d a b z : D}
end
end DL
namespace DL
open PySem PyProof.Rows L2
variable [TabC]
section
variable {X : Cx} {o e f : Expr} {apos cpos : Pos} {td ty tx : TE}
end
section
variable {X : Cx} {e oi o yi : Expr} {ti tY to : TE} {mi my mo : EM} {apos cpos p : Pos} {nx : Str}
end
end DL
namespace PySem.W
open PySem PySem.Calls PyProof.Rows PySem.SeqAt
section
variable {A : Around} {s : Shared}
theorem call_tuple_lt {prog : Program} {w : World} {E : Value → Shared → Prop} {Q : Value → Shared → Prop} {l b : Addr} {items items2 : Array Value} {e r : Nat → Bool} (hl : s.heap.IsTuple l items) (hb : s.heap.IsTuple b items2)
    (he : ∀ j (h1 : j < items.size) (h2 : j < items2.size), EqAt A.in1 s items[j] items2[j] (e j)) (hr : ∀ j (h1 : j < items.size) (h2 : j < items2.size), e j = false → RcLt A.in1 s items[j] items2[j] (r j))
    (h : Q (.bool (firstLt e r (decide (items.size < items2.size)) (List.range (min items.size items2.size)))) s) : wpAny (model prog w) A (call (.builtin "tuple.__lt__") [.ref l, .ref b]) Q E s := by
  obtain ⟨⟨cls, dd, data, sl⟩, ho, hc, n, hd⟩ := id hl
  obtain ⟨⟨cls2, dd2, data2, sl2⟩, ho2, hc2, n2, hd2⟩ := id hb
  simp only at hc hd hc2 hd2
  subst hc hd hc2 hd2
  exact call_meets F.slot_tuple_lt ⟨_, ho, rfl⟩ F.entry_tuple_lt (F.args_tuple_lt_2 _ _) (tuple_ltAt l b items items2 n n2 dd dd2 sl sl2 e r) ⟨ho, ho2, he, hr, h⟩
end
section
variable {prog : Program} {w : World} {A : Around} {E : Value → Shared → Prop} {s : Shared}
theorem oneLt_tuples {f : Bool} {xs ys : List PyData} {a b : Value} {as bs : List Addr} {Q : Bool → Shared → Prop} (ra : Reads s.heap a (.tuple xs) as) (rb : Reads s.heap b (.tuple ys) bs) (h : alike (.tuple xs) (.tuple ys) = true)
    (hu : A.units + min (PyData.tuple xs).depth (PyData.tuple ys).depth < cLine) (hq : Q (dataLt (.tuple xs) (.tuple ys)) s) : wpAny (model prog w) A (oneLt' f a b) Q E s := by
  cases f with
  | false => exact oneLt_alike (f := false) (fun z => nomatch z) ra rb h (fun z => nomatch z) hu hq
  | true =>
    have hal : alikeAll xs ys = true := by simpa [alike] using h
    cases ra with
    | @tuple l o vs n _ as₁ h1 h2 h3 h4 =>
      cases rb with
      | @tuple l' o' vs' n' _ bs₁ k1 k2 k3 k4 =>
        have n1 : vs.size = xs.length := by simpa using ReadsAll.length _ _ _ h4
        have n2 : vs'.size = ys.length := by simpa using ReadsAll.length _ _ _ k4
        rw [dataLt_tuple, ← firstLt_toks xs ys hal, ← n1, ← n2] at hq
        rw [oneLt'_eq]
        simp only [if_true]
        refine wpAny_bind (wpAny_cRoomFor (room_here hu) ?_)
        refine wpAny_bind (wpAny_callSpecialIfBound?_slot (T := "tuple") ⟨_, h1, h2⟩ F.slot_tuple_lt (call_tuple_lt (e := pairEq xs ys) (r := fun j => dataLt (xs.getD j .none) (ys.getD j .none)) ⟨_, h1, h2, _, h3⟩ ⟨_, k1, k2, _, k3⟩ (fun j j1 j2 => ?_) (fun j j1 j2 hj => ?_) ?_))
        · have := eqAt_alikeAll xs ys A.in1 s vs.toList vs'.toList _ _ h4 k4 hal (room_in hu) j (by simpa using j1) (by simpa using j2)
          simpa using this
        · have := rcLt_alikeAll xs ys A.in1 s vs.toList vs'.toList _ _ h4 k4 hal (room_in hu) j (by simpa using j1) (by simpa using j2) hj
          simpa using this
        · exact wpAny_truthy_bool hq
end
def nonE : PyData → Bool
  | .tuple (_ :: _) => true
  | _ => false
section
variable {M : Model} {A : Around} {E : Value → Shared → Prop} {s : Shared}
theorem firsts_any : ∀ {vs : List Value} {ds : List PyData}, EachIs (fun v d => ∃ as, Reads s.heap v d as) vs ds → (∀ d, d ∈ ds → ∃ xs, d = .tuple xs) →
    ∃ os : List (Option Value), EachIs (fun (o : Option Value) d => o.isSome = nonE d) os ds ∧ ∀ {Q : List (Option Value) → Shared → Prop}, Q os s → wpAny M A (vs.mapM firstOfTuple') Q E s
  | _, _, .nil, _ => ⟨[], .nil, fun h => by rw [List.mapM_nil]; exact wpAny_pure h⟩
  | _, _, .cons (b := d) ⟨as, r⟩ t, ht => by
    obtain ⟨os, h1, h2⟩ := firsts_any t fun d hd => ht d (List.mem_cons_of_mem _ hd)
    obtain ⟨xs, rfl⟩ := ht d (List.mem_cons_self ..)
    cases r with
    | @tuple a o vs n _ _ ho hc hd hr =>
      refine ⟨vs[0]? :: os, .cons ?_ h1, fun {Q} h => ?_⟩
      · cases xs with
        | nil =>
          have : vs.toList = [] := by cases q : vs.toList with
            | nil => rfl
            | cons v r => rw [q] at hr; cases hr
          rw [← Array.getElem?_toList, this]; rfl
        | cons x xr =>
          cases q : vs.toList with
          | nil => rw [q] at hr; cases hr
          | cons v r => rw [← Array.getElem?_toList, q]; rfl
      · rw [List.mapM_cons]
        refine wpAny_bind ?_
        rw [kas_first_eq]
        refine wpAny_bind (Looks.here (show Looks M s.heap (typeOf (.ref a)) o.cls from (Looks.ld ho).andThen .now) ?_)
        rw [hc, if_neg (by first | decide | simp)]
        refine wpAny_bind (listItems_at ho hd (wpAny_pure ?_))
        exact wpAny_bind (h2 (Q := fun bs s' => wpAny M A (pure (vs[0]? :: bs)) Q E s') (wpAny_pure h))
end
section
variable {prog : Program} {w : World} {A : Around} {s : Shared}
/-- tuples, maybe empty ones, can be sorted -/
theorem SortsAt.tuples {vs : List Value} {ds : List PyData} (e : EachIs (fun v d => ∃ as, Reads s.heap v d as) vs ds) (hal : AllAlike ds) (ht : ∀ d, d ∈ ds → ∃ xs, d = .tuple xs) (hu : ∀ d, d ∈ ds → A.units + d.depth < cLine) : SortsAt prog w A s (dataKind s.heap ds) vs := by
  by_cases hne : ∀ d, d ∈ ds → nonE d = true
  · refine SortsAt.data e hal (.inl fun d hd => ?_) hu
    obtain ⟨xs, rfl⟩ := ht d hd
    have := hne _ hd
    cases xs with
    | nil => cases this
    | cons x r => exact ⟨x, r, rfl⟩
  · have lt : ∀ kd : SortKind, (∀ x y, ∃ f, keyLt' kd x y = oneLt' f x y) → H.LtAt prog w A s (dataKind s.heap ds) kd := by
      intro kd hk E x y a b Q ha hb hq
      obtain ⟨d, as, hd, ra, rfl⟩ := dataKind_inv ha
      obtain ⟨d', as', hd', rb, rfl⟩ := dataKind_inv hb
      have hdd := hal d hd d' hd'
      have room : A.units + min d.depth d'.depth < cLine := Nat.lt_of_le_of_lt (Nat.add_le_add_left (Nat.min_le_left _ _) _) (hu d hd)
      obtain ⟨xs, rfl⟩ := ht d hd
      obtain ⟨ys, rfl⟩ := ht d' hd'
      obtain ⟨f, ef⟩ := hk x y
      rw [ef]
      exact oneLt_tuples ra rb hdd room hq
    refine ⟨fun v hv => ?_, ?_⟩
    · obtain ⟨d, hd, as, r⟩ := e.left v hv
      exact ⟨_, dataKind_some hal hd r⟩
    · cases ds with
      | nil => exact absurd (fun d hd => absurd hd (by simp)) hne
      | cons d₀ ds₀ =>
        have na : ∀ os : List (Option Value), EachIs (fun (o : Option Value) d => o.isSome = nonE d) os (d₀ :: ds₀) → ¬ ((os.toArray.all fun x => x.isSome) = true) := fun os h z => hne fun d hd => by
          have z : os.all (fun x => x.isSome) = true := by simpa using z
          have key : ∀ {os : List (Option Value)} {ds : List PyData}, EachIs (fun (o : Option Value) d => o.isSome = nonE d) os ds → os.all (fun x => x.isSome) = true → ∀ d ∈ ds, nonE d = true := by
            intro os ds h
            induction h with
            | nil => intro _ d hd; cases hd
            | cons h1 t ih =>
              intro z d hd
              rw [List.all_cons, Bool.and_eq_true] at z
              rcases List.mem_cons.mp hd with rfl | hd
              · rw [← h1]; exact z.1
              · exact ih z.2 d hd
          exact key h z d hd
        refine ⟨if nonE d₀ = true then general' else oneType', ?_, fun h2 E Q hq => ?_⟩
        · split
          · exact lt _ fun x y => ⟨false, rfl⟩
          · exact lt _ fun x y => ⟨true, rfl⟩
        · obtain ⟨os, h1, h3⟩ := firsts_any (M := model prog w) (A := A) (E := E) e ht
          have nal := na os h1
          rw [kat_kind_eq, List.mapM_toArray, map_eq_pure_bind]
          refine wpAny_bind (wpAny_bind (h3 (wpAny_pure ?_)))
          rw [if_neg nal]
          cases h1 with
          | @cons o _ os' _ ho t =>
            have e0 : (((o :: os').toArray[0]?).bind id).isSome = nonE d₀ := by simpa using ho
            by_cases q : nonE d₀ = true
            · rw [if_pos q] at hq
              rw [if_pos (by rw [e0]; exact q)]
              exact wpAny_pure hq
            · rw [if_neg q] at hq
              rw [if_neg (by rw [e0]; exact q)]
              rw [oneTypeOnly'_eq, List.mapM_toArray, map_eq_pure_bind]
              refine wpAny_bind (wpAny_bind (wpAny_bind (kas_mapM (r := Value.type "tuple") _ (fun v hv Q' hq => ?_) (wpAny_pure ?_))))
              · obtain ⟨d, hd, as, r⟩ := e.left v hv
                obtain ⟨xs, rfl⟩ := ht d hd
                exact (show Looks (model prog w) s.heap (typeOf v) (Value.type "tuple") from looks_reads r).here hq
              · obtain ⟨v₁, rest, rfl⟩ : ∃ v₁ rest, vs = v₁ :: rest := by
                  cases e with
                  | cons h t => exact ⟨_, _, rfl⟩
                have hall : ((List.map (fun _ => Value.type "tuple") (v₁ :: rest)).toArray.all fun x => x == Value.type "tuple") = true := by
                  simp only [List.all_toArray, List.all_map, List.all_eq_true]
                  intro _ _
                  rfl
                have h0 : (List.map (fun _ => Value.type "tuple") (v₁ :: rest)).toArray[0]? = some (Value.type "tuple") := by simp
                rw [h0]
                simp only [hall, if_true]
                exact wpAny_pure (wpAny_pure hq)
end
section
variable {prog : Program} {w : World} {A : Around} {E : Value → Shared → Prop} {s : Shared} {T : String} {r d : Addr} {n : Nat} {P : Nat → Value → Prop} {OK : Heap → Prop}
end
end PySem.W
namespace DL
open PySem PySem.Spec PySem.W PySem.Calls PyProof.Rows L2
variable [TabC]
section
variable {X : Cx}
end
end DL
namespace DL
open PySem
section
variable {P P1 P2 P3 : List Pk} {ma mb mo my : EM} {a b c d z : D} {i : Nat}
end
end DL
namespace DL
open PySem PyProof.Rows L2
variable [TabC]
section
variable {X : Cx} {e f : Expr} {apos cpos p : Pos} {ty tx : TE} {nx : Str} {kvs : List (Str × Int)}
end
section
variable {X : Cx} {oi yi : Expr} {ti tY : TE} {mi my : EM} {apos cpos p : Pos} {nx : Str} {kvs : List (Str × Int)}
end
section
variable {X : Cx} {pos q1 q2 q3 q4 q5 q6 : Pos} {j1 j2 j3 j4 j5 j6 : Nat}
end
section
end
end DL
namespace DL
open PySem
section
variable {P P1 P2 : List Pk} {mi my : EM} {a b z : D} {kvs : List (Str × Int)}
end
end DL
namespace DL
open PySem PyProof.Rows L2
variable [TabC]
section
variable {X : Cx} {e : Expr} {pos : Pos} {te : TE} {me : EM}
end
end DL
namespace DL
open PySem
end DL
namespace DL
open PySem PyProof.Rows L2
theorem XE.wk {P Q R : List Pk} {m : EM} {d : D} (h : XE P m d Q) (w : Wk Q R) : XE P m d R := fun ρ hm =>
  let ⟨ρ', e, q⟩ := h ρ hm
  ⟨ρ', e, q.wk w⟩
end DL
namespace DL
open PySem PyProof.Rows L2
variable [TabC]
section
variable {X : Cx} {k : Nat}
end
end DL
namespace DL
open PySem PyProof.Rows L2
variable [TabC]
omit [TabC] in
def strF : List D → Option D
  | [.bl b] => some (.str (if b then "True" else "False"))
  | [.int i] => if i.natAbs.log2 < 1920 then some (.str (toString i)) else none
  | [.str x] => some (.str x)
  | _ => none
section
variable {X : Cx}
omit [TabC] in
def rStr : List V → Hp → VK → Prop := fun xs H Q => (∃ b, xs = [.bl b] ∧ Q (.str (if b then "True" else "False")) H) ∨
  (∃ i, xs = [.int i] ∧ i.natAbs.log2 < 1920 ∧ Q (.str (toString i)) H) ∨ ∃ x, xs = [.str x] ∧ Q (.str x) H
omit [TabC] in
theorem call_str1 : CallR X (.type "str") rStr := by
  intro pins s σ H xs us Q I r h
  rcases h with ⟨b, rfl, q⟩ | ⟨i, rfl, hz, q⟩ | ⟨x, rfl, q⟩
  · obtain ⟨u, rfl, e⟩ := vals1 r
    cases (show u = Value.bool b from e)
    exact PySem.P.str_of_bool ⟨.str _, H, I.tok _, ⟨_, by cases b <;> rfl⟩, q⟩
  · obtain ⟨u, rfl, t, rfl⟩ := vals1 r
    exact PySem.P.str_of_int hz ⟨.str _, H, I.tok _, ⟨_, rfl⟩, q⟩
  · obtain ⟨u, rfl, t, rfl⟩ := vals1 r
    exact PySem.P.str_of_str ⟨.str x, H, I, ⟨t, rfl⟩, q⟩
theorem cd_str : CallD X.G rStr strF := by
  intro H W xs ds z Q th r e q
  match ds, e with
  | [.int i], e =>
    obtain ⟨x, rfl, rfl⟩ := one_of r
    have e : (if i.natAbs.log2 < 1920 then some (D.str (toString i)) else none) = some z := e
    split at e
    · rename_i hz
      cases e
      exact .inr (.inl ⟨i, rfl, hz, q _ H (Fm.refl _ _) rfl⟩)
    · cases e
  | [.bl i], e =>
    cases e
    obtain ⟨x, rfl, rfl⟩ := one_of r
    exact .inl ⟨i, rfl, q _ H (Fm.refl _ _) rfl⟩
  | [.str i], e =>
    cases e
    obtain ⟨x, rfl, rfl⟩ := one_of r
    exact .inr (.inr ⟨i, rfl, q _ H (Fm.refl _ _) rfl⟩)
end
end DL
namespace DL
open PySem PyProof.Rows L2
variable [TabC]
omit [TabC] in
def b2z (b : Bool) : Int := if b = true then 1 else 0
omit [TabC] in
def addB : D → D → Option D
  | .int i, .int j => some (.int (i + j))
  | .bl b, .int j => some (.int (b2z b + j))
  | _, _ => none
omit [TabC] in
def subB : D → D → Option D
  | .int i, .int j => some (.int (i - j))
  | .int i, .bl b => some (.int (i - b2z b))
  | _, _ => none
omit [TabC] in
def rAddB : R2 := fun x y H Q => (∃ i j, x = .int i ∧ y = .int j ∧ Q (.int (i + j)) H) ∨ ∃ b j, x = .bl b ∧ y = .int j ∧ Q (.int (b2z b + j)) H
omit [TabC] in
def rSubB : R2 := fun x y H Q => (∃ i j, x = .int i ∧ y = .int j ∧ Q (.int (i - j)) H) ∨ ∃ i b, x = .int i ∧ y = .bl b ∧ Q (.int (i - b2z b)) H
section
variable {X : Cx}
omit [TabC] in
theorem op_addB : OpR X (binaryOp .Add) rAddB := by
  intro pins s σ H x y v u Q I rx ry h
  rcases h with h | ⟨b, j, rfl, rfl, q⟩
  · exact op_add pins s σ H x y v u Q I rx ry h
  · obtain ⟨t', rfl⟩ := ry
    cases (show v = Value.bool b from rx)
    exact IntBool.add_bool_int ⟨.int _, H, I.tok _, ⟨_, rfl⟩, q⟩
omit [TabC] in
theorem op_subB : OpR X (binaryOp .Sub) rSubB := by
  intro pins s σ H x y v u Q I rx ry h
  rcases h with h | ⟨i, b, rfl, rfl, q⟩
  · exact op_sub pins s σ H x y v u Q I rx ry h
  · obtain ⟨t', rfl⟩ := rx
    cases (show u = Value.bool b from ry)
    exact IntBool.sub_int_bool ⟨.int _, H, I.tok _, ⟨_, rfl⟩, q⟩
theorem od_addB : OpD X.G rAddB addB := by
  intro H W x y dx dy z Q th rx ry e q
  cases dx with
  | int i =>
    cases dy with
    | int j => cases e; exact .inl ⟨i, j, rx, ry, q _ H (Fm.refl _ _) rfl⟩
    | _ => cases e
  | bl b =>
    cases dy with
    | int j => cases e; exact .inr ⟨b, j, rx, ry, q _ H (Fm.refl _ _) rfl⟩
    | _ => cases e
  | _ => cases e
theorem od_subB : OpD X.G rSubB subB := by
  intro H W x y dx dy z Q th rx ry e q
  cases dx with
  | int i =>
    cases dy with
    | int j => cases e; exact .inl ⟨i, j, rx, ry, q _ H (Fm.refl _ _) rfl⟩
    | bl b => cases e; exact .inr ⟨i, b, rx, ry, q _ H (Fm.refl _ _) rfl⟩
    | _ => cases e
  | _ => cases e
end
omit [TabC] in
def tellable2 (p : PyData) : Bool := p.showable && !p.hasDict && decide (p.depth ≤ 60) && p.leavesShort 20 && decide (p.weight ≤ 2 ^ 19)
omit [TabC] in
def reprY : List D → Option D
  | [.non] => some (.str "None")
  | [.bl b] => some (.str (if b then "True" else "False"))
  | [.int i] => if i.natAbs.log2 < 1920 then some (.str (toString i)) else none
  | [.str x] => if (reprText x).length ≤ sizeLine then some (.str (reprText x)) else none
  | [.lst ds] => (pyDs ds).bind fun q => if tellable2 (.list q) = true then some (.str (PyData.shown (.list q))) else none
  | [.tup ds] => (pyDs ds).bind fun q => if tellable2 (.tuple q) = true then some (.str (PyData.shown (.tuple q))) else none
  | _ => none
section
variable {X : Cx} {k : Nat}
omit [TabC] in
def rReprY (G : Gc) : List V → Hp → VK → Prop := fun xs H Q => (∃ W d p a, xs = [.ref a] ∧ Rp G H W d (.ref a) ∧ pyD d = some p ∧ tellable2 p = true ∧ Q (.str p.shown) H) ∨ (xs = [.non] ∧ Q (.str "None") H) ∨ (∃ b, xs = [.bl b] ∧ Q (.str (if b then "True" else "False")) H) ∨
  (∃ i, xs = [.int i] ∧ i.natAbs.log2 < 1920 ∧ Q (.str (toString i)) H) ∨ ∃ x, xs = [.str x] ∧ (reprText x).length ≤ sizeLine ∧ Q (.str (reprText x)) H
omit [TabC] in
theorem call_reprY (hgd : X.A.guards = some []) (hr : Room k X.A) {G : Gc} : CallR X (.builtin "repr") (rReprY G) := by
  intro pins s σ H xs us Q I r h
  rcases h with ⟨W, d, p, a, rfl, rp, hp, tl, q⟩ | ⟨rfl, q⟩ | ⟨b, rfl, q⟩ | ⟨i, rfl, hz, q⟩ | ⟨x, rfl, hz, q⟩
  · obtain ⟨u, rfl, e⟩ := vals1 r
    obtain rfl : u = Value.ref a := e
    obtain ⟨as, R⟩ := reads_of I.hok d _ _ p rp rfl hp
    simp only [tellable2, Bool.and_eq_true, Bool.not_eq_true', decide_eq_true_eq] at tl
    obtain ⟨⟨⟨⟨t1, t2⟩, t3⟩, t4⟩, t5⟩ := tl
    have hu := hr.un
    have sh := PyData.shown_le 20 (by omega) p t4
    have hs : sizeLine = 16777216 := sizeLine_eq
    refine repr_of_reads' R t1 (PyData.noDict_hsm t2) hgd (by omega) (fun _ _ z => z) (fun h' u tk hk => ?_) (by omega)
    exact ⟨.str p.shown, H, I.kept hk, ⟨_, rfl⟩, q⟩
  · obtain ⟨u, rfl, e⟩ := vals1 r
    cases (show u = Value.none from e)
    exact PySem.P.repr_of_none ⟨.str _, H, I.tok _, ⟨_, rfl⟩, q⟩
  · obtain ⟨u, rfl, e⟩ := vals1 r
    cases (show u = Value.bool b from e)
    exact PySem.P.repr_of_bool ⟨.str _, H, I.tok _, ⟨_, by cases b <;> rfl⟩, q⟩
  · obtain ⟨u, rfl, t, rfl⟩ := vals1 r
    exact PySem.P.repr_of_int hz ⟨.str _, H, I.tok _, ⟨_, rfl⟩, q⟩
  · obtain ⟨u, rfl, t, rfl⟩ := vals1 r
    exact PySem.P.repr_of_str ⟨.str _, H, I.tok _, ⟨_, rfl⟩, q⟩ hz
theorem od_reprY {G : Gc} : CallD G (rReprY G) reprY := by
  intro H W vs ds d Q th r e k
  unfold reprY at e
  split at e
  · cases e
    obtain ⟨x, xs, rfl, r1, r2⟩ := r
    simp only [RpAll] at r2
    subst r2
    cases (show x = .non from r1)
    exact .inr (.inl ⟨rfl, k _ _ (Fm.refl _ _) rfl⟩)
  · cases e
    obtain ⟨x, xs, rfl, r1, r2⟩ := r
    simp only [RpAll] at r2
    subst r2
    rename_i b
    cases (show x = .bl b from r1)
    exact .inr (.inr (.inl ⟨b, rfl, k _ _ (Fm.refl _ _) rfl⟩))
  · split at e
    · cases e
      obtain ⟨x, xs, rfl, r1, r2⟩ := r
      simp only [RpAll] at r2
      subst r2
      rename_i i hz
      cases (show x = .int i from r1)
      exact .inr (.inr (.inr (.inl ⟨i, rfl, hz, k _ _ (Fm.refl _ _) rfl⟩)))
    · cases e
  · split at e
    · cases e
      obtain ⟨x, xs, rfl, r1, r2⟩ := r
      simp only [RpAll] at r2
      subst r2
      rename_i i hz
      cases (show x = .str i from r1)
      exact .inr (.inr (.inr (.inr ⟨i, rfl, hz, k _ _ (Fm.refl _ _) rfl⟩)))
    · cases e
  · rename_i l
    cases e1 : pyDs l with
    | none => rw [e1] at e; cases e
    | some q =>
      rw [e1, Option.bind_some] at e
      split at e
      · cases e
        rename_i tl
        obtain ⟨x, xs, rfl, r1, r2⟩ := r
        simp only [RpAll] at r2
        subst r2
        have r1' := r1
        simp only [Rp] at r1
        obtain ⟨a, ws, rfl, _⟩ := r1
        exact .inl ⟨W, .lst l, .list q, a, rfl, r1', by simp only [pyD, e1, Option.map_some], tl, k _ _ (Fm.refl _ _) rfl⟩
      · cases e
  · rename_i l
    cases e1 : pyDs l with
    | none => rw [e1] at e; cases e
    | some q =>
      rw [e1, Option.bind_some] at e
      split at e
      · cases e
        rename_i tl
        obtain ⟨x, xs, rfl, r1, r2⟩ := r
        simp only [RpAll] at r2
        subst r2
        have r1' := r1
        simp only [Rp] at r1
        obtain ⟨a, ws, rfl, _⟩ := r1
        exact .inl ⟨W, .tup l, .tuple q, a, rfl, r1', by simp only [pyD, e1, Option.map_some], tl, k _ _ (Fm.refl _ _) rfl⟩
      · cases e
  · cases e
end
end DL
namespace LW
open PySem PySem.Spec PyProof.Rows L2 DL
abbrev FnP (K : PySem.W.Frag) (x : Str) (st : Stmt) (f : Addr) (fd : FuncData) : Prop := FunD K x x (defArgs st) (defBody st) (defScope st) [] [] f fd
section
variable {P : Program} {w : World} {K : PySem.W.Frag} {mg : Str → Option Value} {base : Heap}
theorem sc_is_number : FnScope ["thing"] ["thing"] (defScope s_is_number) := ⟨rfl, rfl, rfl, by decide +kernel, rfl, by decide +kernel, by decide +kernel⟩
def b_is_number : SM := (sRet (eAnd (eOp1 (isiD "int") (eVar 0)) (eNot (eOp1 (isiD "bool") (eVar 0)))))
def f_is_number : FnSem := mkFn 1 0 b_is_number
theorem dv_is_number [TabC] (nb : Nb mg)  {cdv : Value} {A : Around} {outer : List PySem.Env} {s : Shared} {H : Hp} {E : XK} {f : Addr} (hr : Room 0 (A.deeper (PyProof.Rows.envOfC "is_number" (defScope s_is_number) s.heap.objs.size f cdv))) :
    ∃ t, DSs (cxOf CX0 P w K mg base ["thing"] "is_number" (defScope s_is_number) f cdv A outer s H E).nox (defBody s_is_number) t b_is_number := ⟨_,
    (dss_one (ds_ret (de_and (de_isi nb.isinstance nb.int bt_int kit_int (de_var 0)) (de_one (de_not (de_isi nb.isinstance nb.bool bt_bool kit_bool (de_var 0)))))))⟩
theorem ok_is_number [TabC] (nb : Nb mg)  {f : Addr} {fd : FuncData} (F : FnP K "is_number" s_is_number f fd) : FnOk P w K mg base CX0 1 f fd ["thing"] (spF ⟨K, mg⟩ f_is_number) :=
  fn_ok F sc_is_number fun cdv A outer s H E hr => dv_is_number nb  hr
theorem sc_is_count : FnScope ["thing"] ["thing"] (defScope s_is_count) := ⟨rfl, rfl, rfl, by decide +kernel, rfl, by decide +kernel, by decide +kernel⟩
def b_is_count : SM := (sRet (eAnd (eCall f_is_number (aCons (eVar 0) aNil)) (eOp2 geD (eVar 0) (eC (.int 0)))))
def f_is_count : FnSem := mkFn 1 0 b_is_count
theorem dv_is_count [TabC] (nb : Nb mg) (c_is_number : FnD P w K mg base "is_number" 1 ["thing"] f_is_number) {cdv : Value} {A : Around} {outer : List PySem.Env} {s : Shared} {H : Hp} {E : XK} {f : Addr} (hr : Room 1 (A.deeper (PyProof.Rows.envOfC "is_count" (defScope s_is_count) s.heap.objs.size f cdv))) :
    ∃ t, DSs (cxOf CX0 P w K mg base ["thing"] "is_count" (defScope s_is_count) f cdv A outer s H E).nox (defBody s_is_count) t b_is_count := ⟨_,
    (dss_one (ds_ret (de_and (de_call c_is_number (hr.mono (by omega)) (da_cons (de_var 0) da_nil)) (de_one (de_cmp op_ge od_ge (de_var 0) de_int (by first | rfl | exact nomark _))))))⟩
theorem ok_is_count [TabC] (nb : Nb mg) (c_is_number : FnD P w K mg base "is_number" 1 ["thing"] f_is_number) {f : Addr} {fd : FuncData} (F : FnP K "is_count" s_is_count f fd) : FnOk P w K mg base CX0 2 f fd ["thing"] (spF ⟨K, mg⟩ f_is_count) :=
  fn_ok F sc_is_count fun cdv A outer s H E hr => dv_is_count nb c_is_number hr
theorem sc_is_sea : FnScope ["thing", "draughts", "draught"] ["thing"] (defScope s_is_sea) := ⟨rfl, rfl, rfl, by decide +kernel, rfl, by decide +kernel, by decide +kernel⟩
def b_is_sea : SM := (sSeq (sIf (tOr (tNot (tB (eOp1 (isiD "tuple") (eVar 0)))) (tOr (tB (eOp2 neD (eCallV lenF (aCons (eVar 0) aNil)) (eC (.int 3)))) (tOr (tNot (tB (eCall f_is_count (aCons (eOp2 ixD (eVar 0) (eC (.int 0))) aNil)))) (tNot (tB (eCall f_is_count (aCons (eOp2 ixD (eVar 0) (eC (.int 1))) aNil))))))) (sRet (eC (.bl false))) sSkip)
  (sSeq (sSet 1 (eOp2 ixD (eVar 0) (eC (.int 2))))
  (sRet (eAnd (eOp1 (isiD "tuple") (eVar 1)) (eAnd (eOp2 gtD (eCallV lenF (aCons (eVar 1) aNil)) (eC (.int 0))) (eCallV allF (aCons (eComp [2] (iSeq (eVar 1)) (gV 2) tTrue (eCall f_is_count (aCons (eVar 2) aNil))) aNil)))))))
def f_is_sea : FnSem := mkFn 1 2 b_is_sea
theorem dv_is_sea [TabC] (nb : Nb mg) (c_is_count : FnD P w K mg base "is_count" 2 ["thing"] f_is_count) {cdv : Value} {A : Around} {outer : List PySem.Env} {s : Shared} {H : Hp} {E : XK} {f : Addr} (hr : Room 2 (A.deeper (PyProof.Rows.envOfC "is_sea" (defScope s_is_sea) s.heap.objs.size f cdv))) :
    ∃ t, DSs (cxOf CX0 P w K mg base ["thing", "draughts", "draught"] "is_sea" (defScope s_is_sea) f cdv A outer s H E).nox (defBody s_is_sea) t b_is_sea := ⟨_,
    (dss_cons (ds_if (DW.dt (dw_or (dt_not (dt_val (de_isi nb.isinstance nb.tuple bt_tuple kit_tuple (de_var 0)))) (dw_or (dt_cmp (op_neP hr.units) od_ne (de_callB cr_len cd_len nb.len bt_len (da_cons (de_var 0) da_nil)) de_int (by first | rfl | exact nomark _)) (dw_or (dt_not (dt_val (de_call c_is_count (hr.mono (by omega)) (da_cons (de_ix ix_seq od_ix (de_var 0) de_int) da_nil)))) (dw_or1 (dt_not (dt_val (de_call c_is_count (hr.mono (by omega)) (da_cons (de_ix ix_seq od_ix (de_var 0) de_int) da_nil))))))))) (dss_one (ds_ret de_bl)) dss_nil)
    (dss_cons (ds_set 1 sc_is_sea.nd (de_ix ix_seq od_ix (de_var 0) de_int))
    (dss_one (ds_ret (de_and (de_isi nb.isinstance nb.tuple bt_tuple kit_tuple (de_var 1)) (de_and (de_cmp op_gt od_gt (de_callB cr_len cd_len nb.len bt_len (da_cons (de_var 1) da_nil)) de_int (by first | rfl | exact nomark _)) (de_one (de_callB (cr_all rfl) cd_all nb.all bt_all (da_cons (DF.de (df_compX rfl sc_is_sea.nd (di_seq (de_var 1)) (blkOk_by (own := [("draught", 2)]) (by kernel_rfl)) (by exact fun _ _ _ _ _ => ⟨_, (dg_name 2 sc_is_sea.nd)⟩) (by exact fun _ _ _ _ _ => ⟨_, dts_nil⟩) (by exact fun _ _ _ _ _ => ⟨_, (de_call c_is_count (hr.mono (by omega)) (da_cons (de_var 2) da_nil))⟩))) da_nil)))))))))⟩
theorem ok_is_sea [TabC] (nb : Nb mg) (c_is_count : FnD P w K mg base "is_count" 2 ["thing"] f_is_count) {f : Addr} {fd : FuncData} (F : FnP K "is_sea" s_is_sea f fd) : FnOk P w K mg base CX0 3 f fd ["thing"] (spF ⟨K, mg⟩ f_is_sea) :=
  fn_ok F sc_is_sea fun cdv A outer s H E hr => dv_is_sea nb c_is_count hr
theorem sc_are_ships : FnScope ["many", "thing", "ship"] ["many", "thing"] (defScope s_are_ships) := ⟨rfl, rfl, rfl, by decide +kernel, rfl, by decide +kernel, by decide +kernel⟩
def b_are_ships : SM := (sRet (eCallV allF (aCons (eComp [2] (iSeq (eVar 1)) (gV 2) tTrue (eAnd (eCall f_is_count (aCons (eVar 2) aNil)) (eOp2 ltD (eVar 2) (eVar 0)))) aNil)))
def f_are_ships : FnSem := mkFn 2 1 b_are_ships
theorem dv_are_ships [TabC] (nb : Nb mg) (c_is_count : FnD P w K mg base "is_count" 2 ["thing"] f_is_count) {cdv : Value} {A : Around} {outer : List PySem.Env} {s : Shared} {H : Hp} {E : XK} {f : Addr} (hr : Room 2 (A.deeper (PyProof.Rows.envOfC "are_ships" (defScope s_are_ships) s.heap.objs.size f cdv))) :
    ∃ t, DSs (cxOf CX0 P w K mg base ["many", "thing", "ship"] "are_ships" (defScope s_are_ships) f cdv A outer s H E).nox (defBody s_are_ships) t b_are_ships := ⟨_,
    (dss_one (ds_ret (de_callB (cr_all rfl) cd_all nb.all bt_all (da_cons (DF.de (df_compX rfl sc_are_ships.nd (di_seq (de_var 1)) (blkOk_by (own := [("ship", 2)]) (by kernel_rfl)) (by exact fun _ _ _ _ _ => ⟨_, (dg_name 2 sc_are_ships.nd)⟩) (by exact fun _ _ _ _ _ => ⟨_, dts_nil⟩) (by exact fun _ _ _ _ _ => ⟨_, (de_and (de_call c_is_count (hr.mono (by omega)) (da_cons (de_var 2) da_nil)) (de_one (de_cmp op_lt od_lt (de_var 2) (de_var 0) (by first | rfl | exact nomark _))))⟩))) da_nil))))⟩
theorem ok_are_ships [TabC] (nb : Nb mg) (c_is_count : FnD P w K mg base "is_count" 2 ["thing"] f_is_count) {f : Addr} {fd : FuncData} (F : FnP K "are_ships" s_are_ships f fd) : FnOk P w K mg base CX0 3 f fd ["many", "thing"] (spF ⟨K, mg⟩ f_are_ships) :=
  fn_ok F sc_are_ships fun cdv A outer s H E hr => dv_are_ships nb c_is_count hr
theorem sc_is_standing : FnScope ["sea", "thing", "one", "other"] ["sea", "thing"] (defScope s_is_standing) := ⟨rfl, rfl, rfl, by decide +kernel, rfl, by decide +kernel, by decide +kernel⟩
def b_is_standing : SM := (sSeq (sIf (tOr (tNot (tB (eOp1 (isiD "tuple") (eVar 1)))) (tNot (tB (eCall f_are_ships (aCons (eCallV lenF (aCons (eOp2 ixD (eVar 0) (eC (.int 2))) aNil)) (aCons (eVar 1) aNil)))))) (sRet (eC (.bl false))) sSkip)
  (sRet (eCallV allF (aCons (eComp [2, 3] (iArg zipA (aCons (eVar 1) (aCons (eSlice (eVar 1) (oSome (eC (.int 1))) oNo) aNil))) (gT (gCons (gV 2) (gCons (gV 3) gNil))) tTrue (eOp2 ltD (eVar 2) (eVar 3))) aNil))))
def f_is_standing : FnSem := mkFn 2 2 b_is_standing
theorem dv_is_standing [TabC] (nb : Nb mg) (c_are_ships : FnD P w K mg base "are_ships" 3 ["many", "thing"] f_are_ships) {cdv : Value} {A : Around} {outer : List PySem.Env} {s : Shared} {H : Hp} {E : XK} {f : Addr} (hr : Room 3 (A.deeper (PyProof.Rows.envOfC "is_standing" (defScope s_is_standing) s.heap.objs.size f cdv))) :
    ∃ t, DSs (cxOf CX0 P w K mg base ["sea", "thing", "one", "other"] "is_standing" (defScope s_is_standing) f cdv A outer s H E).nox (defBody s_is_standing) t b_is_standing := ⟨_,
    (dss_cons (ds_if (DW.dt (dw_or (dt_not (dt_val (de_isi nb.isinstance nb.tuple bt_tuple kit_tuple (de_var 1)))) (dw_or1 (dt_not (dt_val (de_call c_are_ships (hr.mono (by omega)) (da_cons (de_callB cr_len cd_len nb.len bt_len (da_cons (de_ix ix_seq od_ix (de_var 0) de_int) da_nil)) (da_cons (de_var 1) da_nil)))))))) (dss_one (ds_ret de_bl)) dss_nil)
    (dss_one (ds_ret (de_callB (cr_all rfl) cd_all nb.all bt_all (da_cons (DF.de (df_compX rfl sc_is_standing.nd (di_zip nb.zip (da_cons (de_var 1) (da_cons (de_slice (de_var 1) (do_some de_int) do_none) da_nil))) (blkOk_by (own := [("one", 2), ("other", 3)]) (by kernel_rfl)) (by exact fun _ _ _ _ _ => ⟨_, (dg_tup rfl (dgs_cons (dg_name 2 sc_is_standing.nd) (dgs_cons (dg_name 3 sc_is_standing.nd) dgs_nil)) (gl_cons (gl_cons gl_nil)))⟩) (by exact fun _ _ _ _ _ => ⟨_, dts_nil⟩) (by exact fun _ _ _ _ _ => ⟨_, (de_cmp op_lt od_lt (de_var 2) (de_var 3) (by first | rfl | exact nomark _))⟩))) da_nil)))))⟩
theorem ok_is_standing [TabC] (nb : Nb mg) (c_are_ships : FnD P w K mg base "are_ships" 3 ["many", "thing"] f_are_ships) {f : Addr} {fd : FuncData} (F : FnP K "is_standing" s_is_standing f fd) : FnOk P w K mg base CX0 4 f fd ["sea", "thing"] (spF ⟨K, mg⟩ f_is_standing) :=
  fn_ok F sc_is_standing fun cdv A outer s H E hr => dv_is_standing nb c_are_ships hr
theorem sc_law_cell_at : FnScope ["_law_script", "_law_k"] ["_law_script", "_law_k"] (defScope s_law_cell_at) := ⟨rfl, rfl, rfl, by decide +kernel, rfl, by decide +kernel, by decide +kernel⟩
def b_law_cell_at : SM := (sSeq (sIf (tB (eOp2 ltD (eVar 1) (eCallV lenF (aCons (eVar 0) aNil)))) (sRet (eOp2 ixD (eVar 0) (eVar 1))) sSkip)
  (sRet (eC (.int 0))))
def f_law_cell_at : FnSem := mkFn 2 0 b_law_cell_at
theorem dv_law_cell_at [TabC] (nb : Nb mg)  {cdv : Value} {A : Around} {outer : List PySem.Env} {s : Shared} {H : Hp} {E : XK} {f : Addr} (hr : Room 0 (A.deeper (PyProof.Rows.envOfC "_law_cell_at" (defScope s_law_cell_at) s.heap.objs.size f cdv))) :
    ∃ t, DSs (cxOf CX0 P w K mg base ["_law_script", "_law_k"] "_law_cell_at" (defScope s_law_cell_at) f cdv A outer s H E).nox (defBody s_law_cell_at) t b_law_cell_at := ⟨_,
    (dss_cons (ds_if (dt_cmp op_lt od_lt (de_var 1) (de_callB cr_len cd_len nb.len bt_len (da_cons (de_var 0) da_nil)) (by first | rfl | exact nomark _)) (dss_one (ds_ret (de_ix ix_seq od_ix (de_var 0) (de_var 1)))) dss_nil)
    (dss_one (ds_ret de_int)))⟩
theorem ok_law_cell_at [TabC] (nb : Nb mg)  {f : Addr} {fd : FuncData} (F : FnP K "_law_cell_at" s_law_cell_at f fd) : FnOk P w K mg base CX0 1 f fd ["_law_script", "_law_k"] (spF ⟨K, mg⟩ f_law_cell_at) :=
  fn_ok F sc_law_cell_at fun cdv A outer s H E hr => dv_law_cell_at nb  hr
theorem sc_law_box : FnScope ["_law_script", "_law_k", "_law_core"] ["_law_script", "_law_k"] (defScope s_law_box) := ⟨rfl, rfl, rfl, by decide +kernel, rfl, by decide +kernel, by decide +kernel⟩
def b_law_box : SM := (sSeq (sSet 2 (eCall f_law_cell_at (aCons (eVar 0) (aCons (eVar 1) aNil))))
  (sRetF (eCallV mkLst (aCons (eOp2 mulI (eCallV absF (aCons (eVar 2) aNil)) (eCallV intF (aCons (eOp2 geD (eCallV absF (aCons (eVar 2) aNil)) (eOp2 powD (eC (.int 10)) (eC (.int 18)))) aNil))) (aCons (eOp2 addD (eOp2 addD (eOp2 modD (eVar 2) (eC (.int 2305843009213693951))) (eOp2 mulI (eC (.int 39373)) (eVar 1))) (eC (.int 17))) (aCons (eC (.int 0)) aNil))))))
def f_law_box : FnSem := mkFn 2 1 b_law_box
def fF_law_box : FnSem := mkFnF 2 1 b_law_box
theorem dv_law_box [TabC] (nb : Nb mg) (c_law_cell_at : FnD P w K mg base "_law_cell_at" 1 ["_law_script", "_law_k"] f_law_cell_at) {cdv : Value} {A : Around} {outer : List PySem.Env} {s : Shared} {H : Hp} {E : XK} {f : Addr} (hr : Room 1 (A.deeper (PyProof.Rows.envOfC "_law_box" (defScope s_law_box) s.heap.objs.size f cdv))) :
    ∃ t, DSs (cxOf CX0 P w K mg base ["_law_script", "_law_k", "_law_core"] "_law_box" (defScope s_law_box) f cdv A outer s H E).nox (defBody s_law_box) t b_law_box := ⟨_,
    (dss_cons (ds_set 2 sc_law_box.nd (de_call c_law_cell_at (hr.mono (by omega)) (da_cons (de_var 0) (da_cons (de_var 1) da_nil))))
    (dss_one (ds_retF (df_lst (da_cons (de_op op_mul od_mulI (de_callB call_abs cd_abs nb.abs bt_abs (da_cons (de_var 2) da_nil)) (de_callTy call_int1 cd_int nb.int bt_int (da_cons (de_cmp op_ge od_ge (de_callB call_abs cd_abs nb.abs bt_abs (da_cons (de_var 2) da_nil)) (de_op op_pow od_pow de_int de_int) (by first | rfl | exact nomark _)) da_nil))) (da_cons (de_op op_addA od_add (de_op op_addA od_add (de_op op_mod od_mod (de_var 2) de_int) (de_op op_mul od_mulI de_int (de_var 1))) de_int) (da_cons de_int da_nil)))))))⟩
theorem ok_law_box [TabC] (nb : Nb mg) (c_law_cell_at : FnD P w K mg base "_law_cell_at" 1 ["_law_script", "_law_k"] f_law_cell_at) {f : Addr} {fd : FuncData} (F : FnP K "_law_box" s_law_box f fd) : FnOk P w K mg base CX0 2 f fd ["_law_script", "_law_k"] (spF ⟨K, mg⟩ f_law_box) :=
  fn_ok F sc_law_box fun cdv A outer s H E hr => dv_law_box nb c_law_cell_at hr
theorem okF_law_box [TabC] (nb : Nb mg) (c_law_cell_at : FnD P w K mg base "_law_cell_at" 1 ["_law_script", "_law_k"] f_law_cell_at) {f : Addr} {fd : FuncData} (F : FnP K "_law_box" s_law_box f fd) : FnOk P w K mg base CX0 2 f fd ["_law_script", "_law_k"] (spFF ⟨K, mg⟩ fF_law_box) :=
  fn_okF F sc_law_box fun cdv A outer s H E hr => dv_law_box nb c_law_cell_at hr
theorem sc_law_take : FnScope ["_law_box_here", "_law_span", "_law_found", "_law_once", "_law_twice"] ["_law_box_here", "_law_span"] (defScope s_law_take) := ⟨rfl, rfl, rfl, by decide +kernel, rfl, by decide +kernel, by decide +kernel⟩
def b_law_take : SM := (sSeq (sIf (tB (eOp2 gtD (eIxO 0 (eC (.int 0))) (eC (.int 0)))) (sSeq (sSet 2 (eOp2 modD (eIxO 0 (eC (.int 0))) (eVar 1)))
  (sSeq (sStore "list" 0 setL (eC (.int 0)) (eOp2 divD (eIxO 0 (eC (.int 0))) (eVar 1)))
  (sRet (eVar 2)))) sSkip)
  (sSeq (sStore "list" 0 setL (eC (.int 2)) (eOp2 addD (eIxO 0 (eC (.int 2))) (eC (.int 1))))
  (sSeq (sSet 3 (eOp2 modD (eOp2 mulI (eOp2 addD (eIxO 0 (eC (.int 1))) (eOp2 mulI (eC (.int 48271)) (eIxO 0 (eC (.int 2))))) (eOp2 addD (eC (.int 39373)) (eIxO 0 (eC (.int 2))))) (eC (.int 2147483647))))
  (sSeq (sSet 4 (eOp2 modD (eOp2 mulI (eOp2 addD (eOp2 addD (eVar 3) (eIxO 0 (eC (.int 2)))) (eOp2 divD (eIxO 0 (eC (.int 1))) (eC (.int 1000003)))) (eOp2 addD (eOp2 modD (eVar 3) (eC (.int 40009))) (eC (.int 7)))) (eC (.int 2147483629))))
  (sRet (eOp2 modD (eOp2 divD (eOp2 modD (eOp2 addD (eOp2 mulI (eVar 4) (eC (.int 48271))) (eVar 3)) (eC (.int 2147483587))) (eC (.int 64))) (eVar 1)))))))
def f_law_take : FnSem := mkFn 2 3 b_law_take
theorem dv_law_take [TabC] (nb : Nb mg)  {cdv : Value} {A : Around} {outer : List PySem.Env} {s : Shared} {H : Hp} {E : XK} {f : Addr} (hr : Room 0 (A.deeper (PyProof.Rows.envOfC "_law_take" (defScope s_law_take) s.heap.objs.size f cdv))) :
    ∃ t, DSs (cxOf CX0 P w K mg base ["_law_box_here", "_law_span", "_law_found", "_law_once", "_law_twice"] "_law_take" (defScope s_law_take) f cdv A outer s H E).nox (defBody s_law_take) t b_law_take := ⟨_,
    (dss_cons (ds_if (dt_cmp op_gt od_gt (de_ixO 0 de_int) de_int (by first | rfl | exact nomark _)) (dss_cons (ds_set 2 sc_law_take.nd (de_op op_mod od_mod (de_ixO 0 de_int) (de_var 1)))
    (dss_cons (ds_store 0 (T := "list") (de_op op_fdivW od_div (de_ixO 0 de_int) (de_var 1)) de_int set_list sd_set)
    (dss_one (ds_ret (de_var 2))))) dss_nil)
    (dss_cons (ds_store 0 (T := "list") (de_op op_addA od_add (de_ixO 0 de_int) de_int) de_int set_list sd_set)
    (dss_cons (ds_set 3 sc_law_take.nd (de_op op_mod od_mod (de_op op_mul od_mulI (de_op op_addA od_add (de_ixO 0 de_int) (de_op op_mul od_mulI de_int (de_ixO 0 de_int))) (de_op op_addA od_add de_int (de_ixO 0 de_int))) de_int))
    (dss_cons (ds_set 4 sc_law_take.nd (de_op op_mod od_mod (de_op op_mul od_mulI (de_op op_addA od_add (de_op op_addA od_add (de_var 3) (de_ixO 0 de_int)) (de_op op_fdivW od_div (de_ixO 0 de_int) de_int)) (de_op op_addA od_add (de_op op_mod od_mod (de_var 3) de_int) de_int)) de_int))
    (dss_one (ds_ret (de_op op_mod od_mod (de_op op_fdivW od_div (de_op op_mod od_mod (de_op op_addA od_add (de_op op_mul od_mulI (de_var 4) de_int) (de_var 3)) de_int) de_int) (de_var 1))))))))⟩
theorem ok_law_take [TabC] (nb : Nb mg)  {f : Addr} {fd : FuncData} (F : FnP K "_law_take" s_law_take f fd) : FnOk P w K mg base CX0 1 f fd ["_law_box_here", "_law_span"] (spF ⟨K, mg⟩ f_law_take) :=
  fn_ok F sc_law_take fun cdv A outer s H E hr => dv_law_take nb  hr
theorem sc_law_of : FnScope ["_law_box_here", "_law_some"] ["_law_box_here", "_law_some"] (defScope s_law_of) := ⟨rfl, rfl, rfl, by decide +kernel, rfl, by decide +kernel, by decide +kernel⟩
def b_law_of : SM := (sRet (eOp2 ixD (eVar 1) (eCall f_law_take (aSl 0 (aCons (eCallV lenF (aCons (eVar 1) aNil)) aNil)))))
def f_law_of : FnSem := mkFn 2 0 b_law_of
theorem dv_law_of [TabC] (nb : Nb mg) (c_law_take : FnD P w K mg base "_law_take" 1 ["_law_box_here", "_law_span"] f_law_take) {cdv : Value} {A : Around} {outer : List PySem.Env} {s : Shared} {H : Hp} {E : XK} {f : Addr} (hr : Room 1 (A.deeper (PyProof.Rows.envOfC "_law_of" (defScope s_law_of) s.heap.objs.size f cdv))) :
    ∃ t, DSs (cxOf CX0 P w K mg base ["_law_box_here", "_law_some"] "_law_of" (defScope s_law_of) f cdv A outer s H E).nox (defBody s_law_of) t b_law_of := ⟨_,
    (dss_one (ds_ret (de_ix ix_seq od_ix (de_var 1) (de_call c_law_take (hr.mono (by omega)) (da_sl 0 (da_cons (de_callB cr_len cd_len nb.len bt_len (da_cons (de_var 1) da_nil)) da_nil))))))⟩
theorem ok_law_of [TabC] (nb : Nb mg) (c_law_take : FnD P w K mg base "_law_take" 1 ["_law_box_here", "_law_span"] f_law_take) {f : Addr} {fd : FuncData} (F : FnP K "_law_of" s_law_of f fd) : FnOk P w K mg base CX0 2 f fd ["_law_box_here", "_law_some"] (spF ⟨K, mg⟩ f_law_of) :=
  fn_ok F sc_law_of fun cdv A outer s H E hr => dv_law_of nb c_law_take hr
theorem sc_law_same : FnScope ["_law_found", "_law_due", "_law_a", "_law_b"] ["_law_found", "_law_due"] (defScope s_law_same) := ⟨rfl, rfl, rfl, by decide +kernel, rfl, by decide +kernel, by decide +kernel⟩
def b_law_same (self : FnSem) : SM := (sSeq (sIf (tB (eOp1 (isiD2 "list" "tuple") (eVar 1))) (sSeq (sIf (tOr (tB (eOp2 neD (eOp1 (isiD "list") (eVar 0)) (eOp1 (isiD "list") (eVar 1)))) (tB (eOp2 neD (eOp1 (isiD "tuple") (eVar 0)) (eOp1 (isiD "tuple") (eVar 1))))) (sRet (eC (.bl false))) sSkip)
  (sRet (eAnd (eOp2 eqD (eCallV lenF (aCons (eVar 0) aNil)) (eCallV lenF (aCons (eVar 1) aNil))) (eCallV allF (aCons (eComp [2, 3] (iArg zipA (aCons (eVar 0) (aCons (eVar 1) aNil))) (gT (gCons (gV 2) (gCons (gV 3) gNil))) tTrue (eCall self (aCons (eVar 2) (aCons (eVar 3) aNil)))) aNil))))) sSkip)
  (sSeq (sIf (tOr (tB (eOp2 isD (eVar 1) (eC .non))) (tB (eOp1 (isiD2 "bool" "str") (eVar 1)))) (sRet (eAnd (eOp2 eqD (eVar 0) (eVar 1)) (eAnd (eOp2 eqD (eOp1 (isiD "bool") (eVar 0)) (eOp1 (isiD "bool") (eVar 1))) (eOp2 eqD (eOp2 isD (eVar 0) (eC .non)) (eOp2 isD (eVar 1) (eC .non)))))) sSkip)
  (sRet (eAnd (eOp1 (isiD "int") (eVar 0)) (eAnd (eNot (eOp1 (isiD "bool") (eVar 0))) (eOp2 eqD (eVar 0) (eVar 1)))))))
def f_law_same_n : Nat → FnSem
  | 0 => fun _ => none
  | n + 1 => mkFn 2 2 (b_law_same (f_law_same_n n))
abbrev f_law_same : FnSem := f_law_same_n 8
theorem dv_law_same [TabC] (nb : Nb mg)  {n : Nat} {self : FnSem} (c_self : FnD P w K mg base "_law_same" (n + 0) ["_law_found", "_law_due"] self) {cdv : Value} {A : Around} {outer : List PySem.Env} {s : Shared} {H : Hp} {E : XK} {f : Addr} (hr : Room (n + 0) (A.deeper (PyProof.Rows.envOfC "_law_same" (defScope s_law_same) s.heap.objs.size f cdv))) :
    ∃ t, DSs (cxOf CX0 P w K mg base ["_law_found", "_law_due", "_law_a", "_law_b"] "_law_same" (defScope s_law_same) f cdv A outer s H E).nox (defBody s_law_same) t (b_law_same self) := ⟨_,
    (dss_cons (ds_if (dt_val (de_isiT nb.isinstance nb.list bt_list kit_list nb.tuple bt_tuple kit_tuple (de_var 1))) (dss_cons (ds_if (DW.dt (dw_or (dt_cmp (op_neP hr.units) od_ne (de_isi nb.isinstance nb.list bt_list kit_list (de_var 0)) (de_isi nb.isinstance nb.list bt_list kit_list (de_var 1)) (by first | rfl | exact nomark _)) (dw_or1 (dt_cmp (op_neP hr.units) od_ne (de_isi nb.isinstance nb.tuple bt_tuple kit_tuple (de_var 0)) (de_isi nb.isinstance nb.tuple bt_tuple kit_tuple (de_var 1)) (by first | rfl | exact nomark _))))) (dss_one (ds_ret de_bl)) dss_nil)
    (dss_one (ds_ret (de_and (de_cmp (op_eqP hr.units) od_eq (de_callB cr_len cd_len nb.len bt_len (da_cons (de_var 0) da_nil)) (de_callB cr_len cd_len nb.len bt_len (da_cons (de_var 1) da_nil)) (by first | rfl | exact nomark _)) (de_one (de_callB (cr_all rfl) cd_all nb.all bt_all (da_cons (DF.de (df_compX rfl sc_law_same.nd (di_zip nb.zip (da_cons (de_var 0) (da_cons (de_var 1) da_nil))) (blkOk_by (own := [("_law_a", 2), ("_law_b", 3)]) (by kernel_rfl)) (by exact fun _ _ _ _ _ => ⟨_, (dg_tup rfl (dgs_cons (dg_name 2 sc_law_same.nd) (dgs_cons (dg_name 3 sc_law_same.nd) dgs_nil)) (gl_cons (gl_cons gl_nil)))⟩) (by exact fun _ _ _ _ _ => ⟨_, dts_nil⟩) (by exact fun _ _ _ _ _ => ⟨_, (de_call c_self hr (da_cons (de_var 2) (da_cons (de_var 3) da_nil)))⟩))) da_nil))))))) dss_nil)
    (dss_cons (ds_if (DW.dt (dw_or (dt_cmp op_isA od_is (de_var 1) de_non (by first | rfl | exact nomark _)) (dw_or1 (dt_val (de_isiT nb.isinstance nb.bool bt_bool kit_bool nb.str bt_str kit_str (de_var 1)))))) (dss_one (ds_ret (de_and (de_cmp (op_eqP hr.units) od_eq (de_var 0) (de_var 1) (by first | rfl | exact nomark _)) (de_and (de_cmp (op_eqP hr.units) od_eq (de_isi nb.isinstance nb.bool bt_bool kit_bool (de_var 0)) (de_isi nb.isinstance nb.bool bt_bool kit_bool (de_var 1)) (by first | rfl | exact nomark _)) (de_one (de_cmp (op_eqP hr.units) od_eq (de_cmp op_isA od_is (de_var 0) de_non (by first | rfl | exact nomark _)) (de_cmp op_isA od_is (de_var 1) de_non (by first | rfl | exact nomark _)) (by first | rfl | exact nomark _))))))) dss_nil)
    (dss_one (ds_ret (de_and (de_isi nb.isinstance nb.int bt_int kit_int (de_var 0)) (de_and (de_not (de_isi nb.isinstance nb.bool bt_bool kit_bool (de_var 0))) (de_one (de_cmp (op_eqP hr.units) od_eq (de_var 0) (de_var 1) (by first | rfl | exact nomark _)))))))))⟩
theorem ok_law_same [TabC] (nb : Nb mg)  {f : Addr} {fd : FuncData} (F : FnP K "_law_same" s_law_same f fd) (g : mg "_law_same" = some (.ref f)) : ∀ n : Nat, FnOk P w K mg base CX0 (n + 0) f fd ["_law_found", "_law_due"] (spF ⟨K, mg⟩ (f_law_same_n n))
  | 0 => fn_none
  | n + 1 => by
    have := fn_ok (k := n + 0) F sc_law_same fun cdv A outer s H E hr => dv_law_same nb  (FunD.d F g (fun _ _ _ _ _ _ us hl => match us, hl with | [_, _], _ => rfl) (ok_law_same nb  F g n)) hr
    rw [show n + 1 + 0 = n + 0 + 1 by omega]
    exact this
theorem sc_law_sea : FnScope ["_law_box_here", "_law_most", "_law_count", "_law_far", "_law_wide", "_law_depths", "_law_draughts", "_law_side", "_law_whom"] ["_law_box_here", "_law_most"] (defScope s_law_sea) := ⟨rfl, rfl, rfl, by decide +kernel, rfl, by decide +kernel, by decide +kernel⟩
def b_law_sea : SM := (sSeq (sAsg (eCallV mkTup (aCons (eOp2 addD (eC (.int 1)) (eCall f_law_take (aSl 0 (aCons (eVar 1) aNil)))) (aCons (eCall f_law_of (aSl 0 (aCons (eCallV mkLst (aCons (eC (.int 0)) (aCons (eC (.int 0)) (aCons (eC (.int 0)) (aCons (eOp2 subD (eOp2 subD (eOp2 powD (eC (.int 10)) (eC (.int 12))) (eC (.int 200))) (eCall f_law_take (aSl 0 (aCons (eOp2 powD (eC (.int 10)) (eC (.int 6))) aNil)))) aNil))))) aNil))) aNil))) (gT (gCons (gV 2) (gCons (gV 3) gNil))))
  (sSeq (sSet 4 (eCall f_law_of (aSl 0 (aCons (eCallV mkLst (aCons (eC (.int 2)) (aCons (eOp2 addD (eVar 2) (eC (.int 2))) (aCons (eOp2 addD (eOp2 mulI (eC (.int 2)) (eVar 2)) (eC (.int 2))) aNil)))) aNil))))
  (sSeq (sSet 5 (eComp [7] (iArg rng1 (aCons (eC (.int 2)) aNil)) (gV 7) tTrue (eOp2 addD (eVar 3) (eOp2 mulI (eCall f_law_take (aSl 0 (aCons (eOp2 addD (eVar 2) (eC (.int 2))) aNil))) (eCall f_law_take (aSl 0 (aCons (eC (.int 2)) aNil)))))))
  (sSeq (sSet 6 (eComp [8] (iArg rng1 (aCons (eVar 2) aNil)) (gV 8) tTrue (eOp2 addD (eVar 3) (eCall f_law_take (aSl 0 (aCons (eVar 4) aNil))))))
  (sSeq (sIf (tB (eOp2 eqD (eCall f_law_take (aSl 0 (aCons (eC (.int 4)) aNil))) (eC (.int 0)))) (sSet 6 (eComp [8] (iArg rng1 (aCons (eVar 2) aNil)) (gV 8) tTrue (eIf (tB (eOp2 eqD (eCall f_law_take (aSl 0 (aCons (eC (.int 2)) aNil))) (eC (.int 0)))) (eOp2 ixD (eVar 6) (eVar 8)) (eOp2 ixD (eVar 6) (eC (.int 0)))))) sSkip)
  (sRet (eCallV mkTup (aCons (eOp2 ixD (eVar 5) (eC (.int 0))) (aCons (eOp2 ixD (eVar 5) (eC (.int 1))) (aCons (eCallV tupF (aCons (eVar 6) aNil)) aNil))))))))))
def f_law_sea : FnSem := mkFn 2 7 b_law_sea
theorem dv_law_sea [TabC] (nb : Nb mg) (c_law_of : FnD P w K mg base "_law_of" 2 ["_law_box_here", "_law_some"] f_law_of) (c_law_take : FnD P w K mg base "_law_take" 1 ["_law_box_here", "_law_span"] f_law_take) {cdv : Value} {A : Around} {outer : List PySem.Env} {s : Shared} {H : Hp} {E : XK} {f : Addr} (hr : Room 2 (A.deeper (PyProof.Rows.envOfC "_law_sea" (defScope s_law_sea) s.heap.objs.size f cdv))) :
    ∃ t, DSs (cxOf CX0 P w K mg base ["_law_box_here", "_law_most", "_law_count", "_law_far", "_law_wide", "_law_depths", "_law_draughts", "_law_side", "_law_whom"] "_law_sea" (defScope s_law_sea) f cdv A outer s H E).nox (defBody s_law_sea) t b_law_sea := ⟨_,
    (dss_cons (ds_asg (de_tup (da_cons (de_op op_addA od_add de_int (de_call c_law_take (hr.mono (by omega)) (da_sl 0 (da_cons (de_var 1) da_nil)))) (da_cons (de_call c_law_of (hr.mono (by omega)) (da_sl 0 (da_cons (de_lst (da_cons de_int (da_cons de_int (da_cons de_int (da_cons (de_op op_sub od_sub (de_op op_sub od_sub (de_op op_pow od_pow de_int de_int) de_int) (de_call c_law_take (hr.mono (by omega)) (da_sl 0 (da_cons (de_op op_pow od_pow de_int de_int) da_nil)))) da_nil))))) da_nil))) da_nil))) (dg_tup rfl (dgs_cons (dg_name 2 sc_law_sea.nd) (dgs_cons (dg_name 3 sc_law_sea.nd) dgs_nil)) (gl_cons (gl_cons gl_nil))))
    (dss_cons (ds_set 4 sc_law_sea.nd (de_call c_law_of (hr.mono (by omega)) (da_sl 0 (da_cons (de_lst (da_cons de_int (da_cons (de_op op_addA od_add (de_var 2) de_int) (da_cons (de_op op_addA od_add (de_op op_mul od_mulI de_int (de_var 2)) de_int) da_nil)))) da_nil))))
    (dss_cons (ds_setCompX 5 rfl sc_law_sea.nd (di_rng1 nb.range (da_cons de_int da_nil)) (blkOk_by (own := [("_law_side", 7)]) (by kernel_rfl)) (by exact fun _ _ _ _ _ => ⟨_, (dg_name 7 sc_law_sea.nd)⟩) (by exact fun _ _ _ _ _ => ⟨_, dts_nil⟩) (by exact fun _ _ _ _ _ => ⟨_, (de_op op_addA od_add (de_var 3) (de_op op_mul od_mulI (de_call c_law_take (hr.mono (by omega)) (da_sl 0 (da_cons (de_op op_addA od_add (de_var 2) de_int) da_nil))) (de_call c_law_take (hr.mono (by omega)) (da_sl 0 (da_cons de_int da_nil)))))⟩))
    (dss_cons (ds_set 6 sc_law_sea.nd (DF.de (df_compX rfl sc_law_sea.nd (di_rng1 nb.range (da_cons (de_var 2) da_nil)) (blkOk_by (own := [("_law_whom", 8)]) (by kernel_rfl)) (by exact fun _ _ _ _ _ => ⟨_, (dg_name 8 sc_law_sea.nd)⟩) (by exact fun _ _ _ _ _ => ⟨_, dts_nil⟩) (by exact fun _ _ _ _ _ => ⟨_, (de_op op_addA od_add (de_var 3) (de_call c_law_take (hr.mono (by omega)) (da_sl 0 (da_cons (de_var 4) da_nil))))⟩))))
    (dss_cons (ds_if (dt_cmp (op_eqP hr.units) od_eq (de_call c_law_take (hr.mono (by omega)) (da_sl 0 (da_cons de_int da_nil))) de_int (by first | rfl | exact nomark _)) (dss_one (ds_set 6 sc_law_sea.nd (DF.de (df_compX rfl sc_law_sea.nd (di_rng1 nb.range (da_cons (de_var 2) da_nil)) (blkOk_by (own := [("_law_whom", 8)]) (by kernel_rfl)) (by exact fun _ _ _ _ _ => ⟨_, (dg_name 8 sc_law_sea.nd)⟩) (by exact fun _ _ _ _ _ => ⟨_, dts_nil⟩) (by exact fun _ _ _ _ _ => ⟨_, (de_ifExp (dt_cmp (op_eqP hr.units) od_eq (de_call c_law_take (hr.mono (by omega)) (da_sl 0 (da_cons de_int da_nil))) de_int (by first | rfl | exact nomark _)) (de_ix ix_seq od_ix (de_var 6) (de_var 8)) (de_ix ix_seq od_ix (de_var 6) de_int))⟩))))) dss_nil)
    (dss_one (ds_ret (de_tup (da_cons (de_ix ix_seq od_ix (de_var 5) de_int) (da_cons (de_ix ix_seq od_ix (de_var 5) de_int) (da_cons (de_callTy call_tuple_of cd_tup nb.tuple bt_tuple (da_cons (de_var 6) da_nil)) da_nil)))))))))))⟩
theorem ok_law_sea [TabC] (nb : Nb mg) (c_law_of : FnD P w K mg base "_law_of" 2 ["_law_box_here", "_law_some"] f_law_of) (c_law_take : FnD P w K mg base "_law_take" 1 ["_law_box_here", "_law_span"] f_law_take) {f : Addr} {fd : FuncData} (F : FnP K "_law_sea" s_law_sea f fd) : FnOk P w K mg base CX0 3 f fd ["_law_box_here", "_law_most"] (spF ⟨K, mg⟩ f_law_sea) :=
  fn_ok F sc_law_sea fun cdv A outer s H E hr => dv_law_sea nb c_law_of c_law_take hr
theorem sc_law_lot : FnScope ["_law_box_here", "_law_count", "_law_odds", "_law_whom"] ["_law_box_here", "_law_count"] (defScope s_law_lot) := ⟨rfl, rfl, rfl, by decide +kernel, rfl, by decide +kernel, by decide +kernel⟩
def b_law_lot : SM := (sSeq (sSet 2 (eCall f_law_of (aSl 0 (aCons (eCallV mkLst (aCons (eC (.int 1)) (aCons (eC (.int 2)) (aCons (eC (.int 2)) (aCons (eC (.int 3)) (aCons (eC (.int 4)) aNil)))))) aNil))))
  (sSeq (sIf (tB (eOp2 eqD (eCall f_law_take (aSl 0 (aCons (eC (.int 8)) aNil))) (eC (.int 0)))) (sRet (eIf (tB (eOp2 eqD (eCall f_law_take (aSl 0 (aCons (eC (.int 2)) aNil))) (eC (.int 0)))) (eCallV trgF (aCons (eVar 1) aNil)) (eCallV mkTup aNil))) sSkip)
  (sRet (eCallV tupF (aCons (eComp [3] (iArg rng1 (aCons (eVar 1) aNil)) (gV 3) (tB (eOp2 eqD (eCall f_law_take (aSl 0 (aCons (eVar 2) aNil))) (eC (.int 0)))) (eVar 3)) aNil)))))
def f_law_lot : FnSem := mkFn 2 2 b_law_lot
theorem dv_law_lot [TabC] (nb : Nb mg) (c_law_of : FnD P w K mg base "_law_of" 2 ["_law_box_here", "_law_some"] f_law_of) (c_law_take : FnD P w K mg base "_law_take" 1 ["_law_box_here", "_law_span"] f_law_take) {cdv : Value} {A : Around} {outer : List PySem.Env} {s : Shared} {H : Hp} {E : XK} {f : Addr} (hr : Room 2 (A.deeper (PyProof.Rows.envOfC "_law_lot" (defScope s_law_lot) s.heap.objs.size f cdv))) :
    ∃ t, DSs (cxOf CX0 P w K mg base ["_law_box_here", "_law_count", "_law_odds", "_law_whom"] "_law_lot" (defScope s_law_lot) f cdv A outer s H E).nox (defBody s_law_lot) t b_law_lot := ⟨_,
    (dss_cons (ds_set 2 sc_law_lot.nd (de_call c_law_of (hr.mono (by omega)) (da_sl 0 (da_cons (de_lst (da_cons de_int (da_cons de_int (da_cons de_int (da_cons de_int (da_cons de_int da_nil)))))) da_nil))))
    (dss_cons (ds_if (dt_cmp (op_eqP hr.units) od_eq (de_call c_law_take (hr.mono (by omega)) (da_sl 0 (da_cons de_int da_nil))) de_int (by first | rfl | exact nomark _)) (dss_one (ds_ret (de_ifExp (dt_cmp (op_eqP hr.units) od_eq (de_call c_law_take (hr.mono (by omega)) (da_sl 0 (da_cons de_int da_nil))) de_int (by first | rfl | exact nomark _)) (de_trg1 nb.tuple nb.range (de_var 1)) (de_tup da_nil)))) dss_nil)
    (dss_one (ds_ret (de_callTy call_tuple_of cd_tup nb.tuple bt_tuple (da_cons (DF.de (df_compX rfl sc_law_lot.nd (di_rng1 nb.range (da_cons (de_var 1) da_nil)) (blkOk_by (own := [("_law_whom", 3)]) (by kernel_rfl)) (by exact fun _ _ _ _ _ => ⟨_, (dg_name 3 sc_law_lot.nd)⟩) (by exact fun _ _ _ _ _ => ⟨_, (dts_one (dt_cmp (op_eqP hr.units) od_eq (de_call c_law_take (hr.mono (by omega)) (da_sl 0 (da_cons (de_var 2) da_nil))) de_int (by first | rfl | exact nomark _)))⟩) (by exact fun _ _ _ _ _ => ⟨_, (de_var 3)⟩))) da_nil))))))⟩
theorem ok_law_lot [TabC] (nb : Nb mg) (c_law_of : FnD P w K mg base "_law_of" 2 ["_law_box_here", "_law_some"] f_law_of) (c_law_take : FnD P w K mg base "_law_take" 1 ["_law_box_here", "_law_span"] f_law_take) {f : Addr} {fd : FuncData} (F : FnP K "_law_lot" s_law_lot f fd) : FnOk P w K mg base CX0 3 f fd ["_law_box_here", "_law_count"] (spF ⟨K, mg⟩ f_law_lot) :=
  fn_ok F sc_law_lot fun cdv A outer s H E hr => dv_law_lot nb c_law_of c_law_take hr
theorem sc_law_is_count : FnScope ["_law_part"] ["_law_part"] (defScope s_law_is_count) := ⟨rfl, rfl, rfl, by decide +kernel, rfl, by decide +kernel, by decide +kernel⟩
def b_law_is_count : SM := (sRet (eAnd (eOp1 (isiD "int") (eVar 0)) (eAnd (eNot (eOp1 (isiD "bool") (eVar 0))) (eOp2 geD (eVar 0) (eC (.int 0))))))
def f_law_is_count : FnSem := mkFn 1 0 b_law_is_count
theorem dv_law_is_count [TabC] (nb : Nb mg)  {cdv : Value} {A : Around} {outer : List PySem.Env} {s : Shared} {H : Hp} {E : XK} {f : Addr} (hr : Room 0 (A.deeper (PyProof.Rows.envOfC "_law_is_count" (defScope s_law_is_count) s.heap.objs.size f cdv))) :
    ∃ t, DSs (cxOf CX0 P w K mg base ["_law_part"] "_law_is_count" (defScope s_law_is_count) f cdv A outer s H E).nox (defBody s_law_is_count) t b_law_is_count := ⟨_,
    (dss_one (ds_ret (de_and (de_isi nb.isinstance nb.int bt_int kit_int (de_var 0)) (de_and (de_not (de_isi nb.isinstance nb.bool bt_bool kit_bool (de_var 0))) (de_one (de_cmp op_ge od_ge (de_var 0) de_int (by first | rfl | exact nomark _)))))))⟩
theorem ok_law_is_count [TabC] (nb : Nb mg)  {f : Addr} {fd : FuncData} (F : FnP K "_law_is_count" s_law_is_count f fd) : FnOk P w K mg base CX0 1 f fd ["_law_part"] (spF ⟨K, mg⟩ f_law_is_count) :=
  fn_ok F sc_law_is_count fun cdv A outer s H E hr => dv_law_is_count nb  hr
theorem sc_law_sea_due : FnScope ["_law_matter", "_law_part"] ["_law_matter"] (defScope s_law_sea_due) := ⟨rfl, rfl, rfl, by decide +kernel, rfl, by decide +kernel, by decide +kernel⟩
def b_law_sea_due : SM := (sSeq (sIf (tOr (tNot (tB (eOp1 (isiD "tuple") (eVar 0)))) (tOr (tB (eOp2 neD (eCallV lenF (aCons (eVar 0) aNil)) (eC (.int 3)))) (tOr (tNot (tB (eOp1 (isiD "tuple") (eOp2 ixD (eVar 0) (eC (.int 2)))))) (tB (eOp2 eqD (eOp2 ixD (eVar 0) (eC (.int 2))) (eCallV mkTup aNil)))))) (sRet (eC (.bl false))) sSkip)
  (sRet (eCallV allF (aCons (eComp [1] (iSeq (eOp2 addD (eCallV listF (aCons (eSlice (eVar 0) oNo (oSome (eC (.int 2)))) aNil)) (eCallV listF (aCons (eOp2 ixD (eVar 0) (eC (.int 2))) aNil)))) (gV 1) tTrue (eCall f_law_is_count (aCons (eVar 1) aNil))) aNil))))
def f_law_sea_due : FnSem := mkFn 1 1 b_law_sea_due
theorem dv_law_sea_due [TabC] (nb : Nb mg) (c_law_is_count : FnD P w K mg base "_law_is_count" 1 ["_law_part"] f_law_is_count) {cdv : Value} {A : Around} {outer : List PySem.Env} {s : Shared} {H : Hp} {E : XK} {f : Addr} (hr : Room 1 (A.deeper (PyProof.Rows.envOfC "_law_sea_due" (defScope s_law_sea_due) s.heap.objs.size f cdv))) :
    ∃ t, DSs (cxOf CX0 P w K mg base ["_law_matter", "_law_part"] "_law_sea_due" (defScope s_law_sea_due) f cdv A outer s H E).nox (defBody s_law_sea_due) t b_law_sea_due := ⟨_,
    (dss_cons (ds_if (DW.dt (dw_or (dt_not (dt_val (de_isi nb.isinstance nb.tuple bt_tuple kit_tuple (de_var 0)))) (dw_or (dt_cmp (op_neP hr.units) od_ne (de_callB cr_len cd_len nb.len bt_len (da_cons (de_var 0) da_nil)) de_int (by first | rfl | exact nomark _)) (dw_or (dt_not (dt_val (de_isi nb.isinstance nb.tuple bt_tuple kit_tuple (de_ix ix_seq od_ix (de_var 0) de_int)))) (dw_or1 (dt_cmp (op_eqP hr.units) od_eq (de_ix ix_seq od_ix (de_var 0) de_int) (de_tup da_nil) (by first | rfl | exact nomark _))))))) (dss_one (ds_ret de_bl)) dss_nil)
    (dss_one (ds_ret (de_callB (cr_all rfl) cd_all nb.all bt_all (da_cons (DF.de (df_compX rfl sc_law_sea_due.nd (di_seq (de_op op_addA od_add (de_callTy call_list_of cd_list nb.list bt_list (da_cons (de_slice (de_var 0) do_none (do_some de_int)) da_nil)) (de_callTy call_list_of cd_list nb.list bt_list (da_cons (de_ix ix_seq od_ix (de_var 0) de_int) da_nil)))) (blkOk_by (own := [("_law_part", 1)]) (by kernel_rfl)) (by exact fun _ _ _ _ _ => ⟨_, (dg_name 1 sc_law_sea_due.nd)⟩) (by exact fun _ _ _ _ _ => ⟨_, dts_nil⟩) (by exact fun _ _ _ _ _ => ⟨_, (de_call c_law_is_count (hr.mono (by omega)) (da_cons (de_var 1) da_nil))⟩))) da_nil)))))⟩
theorem ok_law_sea_due [TabC] (nb : Nb mg) (c_law_is_count : FnD P w K mg base "_law_is_count" 1 ["_law_part"] f_law_is_count) {f : Addr} {fd : FuncData} (F : FnP K "_law_sea_due" s_law_sea_due f fd) : FnOk P w K mg base CX0 2 f fd ["_law_matter"] (spF ⟨K, mg⟩ f_law_sea_due) :=
  fn_ok F sc_law_sea_due fun cdv A outer s H E hr => dv_law_sea_due nb c_law_is_count hr
theorem sc_law_lot_due : FnScope ["_law_count", "_law_matter", "_law_part"] ["_law_count", "_law_matter"] (defScope s_law_lot_due) := ⟨rfl, rfl, rfl, by decide +kernel, rfl, by decide +kernel, by decide +kernel⟩
def b_law_lot_due : SM := (sSeq (sIf (tOr (tNot (tB (eOp1 (isiD "tuple") (eVar 1)))) (tNot (tB (eCallV allF (aCons (eComp [2] (iSeq (eVar 1)) (gV 2) tTrue (eAnd (eCall f_law_is_count (aCons (eVar 2) aNil)) (eOp2 ltD (eVar 2) (eVar 0)))) aNil))))) (sRet (eC (.bl false))) sSkip)
  (sRet (eOp2 eqD (eCallV listF (aCons (eVar 1) aNil)) (eCallV sosF (aCons (eVar 1) aNil)))))
def f_law_lot_due : FnSem := mkFn 2 1 b_law_lot_due
theorem dv_law_lot_due [TabC] (nb : Nb mg) (nx : NbX mg) (c_law_is_count : FnD P w K mg base "_law_is_count" 1 ["_law_part"] f_law_is_count) {cdv : Value} {A : Around} {outer : List PySem.Env} {s : Shared} {H : Hp} {E : XK} {f : Addr} (hr : Room 1 (A.deeper (PyProof.Rows.envOfC "_law_lot_due" (defScope s_law_lot_due) s.heap.objs.size f cdv))) :
    ∃ t, DSs (cxOf CX0 P w K mg base ["_law_count", "_law_matter", "_law_part"] "_law_lot_due" (defScope s_law_lot_due) f cdv A outer s H E).nox (defBody s_law_lot_due) t b_law_lot_due := ⟨_,
    (dss_cons (ds_if (DW.dt (dw_or (dt_not (dt_val (de_isi nb.isinstance nb.tuple bt_tuple kit_tuple (de_var 1)))) (dw_or1 (dt_not (dt_val (de_callB (cr_all rfl) cd_all nb.all bt_all (da_cons (DF.de (df_compX rfl sc_law_lot_due.nd (di_seq (de_var 1)) (blkOk_by (own := [("_law_part", 2)]) (by kernel_rfl)) (by exact fun _ _ _ _ _ => ⟨_, (dg_name 2 sc_law_lot_due.nd)⟩) (by exact fun _ _ _ _ _ => ⟨_, dts_nil⟩) (by exact fun _ _ _ _ _ => ⟨_, (de_and (de_call c_law_is_count (hr.mono (by omega)) (da_cons (de_var 2) da_nil)) (de_one (de_cmp op_lt od_lt (de_var 2) (de_var 0) (by first | rfl | exact nomark _))))⟩))) da_nil))))))) (dss_one (ds_ret de_bl)) dss_nil)
    (dss_one (ds_ret (de_cmp (op_eqP hr.units) od_eq (de_callTy call_list_of cd_list nb.list bt_list (da_cons (de_var 1) da_nil)) (DF.de (df_sos nb.sorted nx.set (de_var 1))) (by first | rfl | exact nomark _)))))⟩
theorem ok_law_lot_due [TabC] (nb : Nb mg) (nx : NbX mg) (c_law_is_count : FnD P w K mg base "_law_is_count" 1 ["_law_part"] f_law_is_count) {f : Addr} {fd : FuncData} (F : FnP K "_law_lot_due" s_law_lot_due f fd) : FnOk P w K mg base CX0 2 f fd ["_law_count", "_law_matter"] (spF ⟨K, mg⟩ f_law_lot_due) :=
  fn_ok F sc_law_lot_due fun cdv A outer s H E hr => dv_law_lot_due nb nx c_law_is_count hr
theorem sc_law_odd : FnScope ["_law_box_here", "_law_matter", "_law_some"] ["_law_box_here", "_law_matter"] (defScope s_law_odd) := ⟨rfl, rfl, rfl, by decide +kernel, rfl, by decide +kernel, by decide +kernel⟩
def b_law_odd : SM := (sSeq (sSet 2 (eCallV mkLst (aCons (eC .non) (aCons (eC (.bl true)) (aCons (eC (.bl false)) (aCons (eC (.int 0)) (aCons (eC (.int 1)) (aCons (eOp1 negD (eC (.int 1))) (aCons (eC (.int 7)) (aCons (eOp2 powD (eC (.int 10)) (eC (.int 13))) (aCons (eC (.str "")) (aCons (eC (.str "here")) (aCons (eCallV mkTup aNil) (aCons (eCallV mkLst aNil) (aCons (eCallV mkTup (aCons (eC (.int 0)) aNil)) (aCons (eCallV mkTup (aCons (eC (.int 1)) (aCons (eC (.int 0)) aNil))) (aCons (eCallV mkTup (aCons (eC (.int 0)) (aCons (eC (.int 0)) aNil))) (aCons (eCallV mkLst (aCons (eC (.int 0)) aNil)) (aCons (eCallV mkTup (aCons (eC (.int 0)) (aCons (eC (.int 1)) (aCons (eCallV mkTup aNil) aNil)))) aNil)))))))))))))))))))
  (sSeq (sIf (tB (eOp1 (isiD "int") (eVar 1))) (sSet 2 (eOp2 addD (eVar 2) (eCallV mkLst (aCons (eOp2 addB (eVar 1) (eC (.int 1))) (aCons (eOp2 subB (eC (.int 0)) (eVar 1)) (aCons (eCallV strF (aCons (eVar 1) aNil)) (aCons (eOp2 eqD (eVar 1) (eC (.int 1))) aNil))))))) sSkip)
  (sRet (eCall f_law_of (aSl 0 (aCons (eVar 2) aNil))))))
def f_law_odd : FnSem := mkFn 2 1 b_law_odd
theorem dv_law_odd [TabC] (nb : Nb mg) (c_law_of : FnD P w K mg base "_law_of" 2 ["_law_box_here", "_law_some"] f_law_of) {cdv : Value} {A : Around} {outer : List PySem.Env} {s : Shared} {H : Hp} {E : XK} {f : Addr} (hr : Room 2 (A.deeper (PyProof.Rows.envOfC "_law_odd" (defScope s_law_odd) s.heap.objs.size f cdv))) :
    ∃ t, DSs (cxOf CX0 P w K mg base ["_law_box_here", "_law_matter", "_law_some"] "_law_odd" (defScope s_law_odd) f cdv A outer s H E).nox (defBody s_law_odd) t b_law_odd := ⟨_,
    (dss_cons (ds_set 2 sc_law_odd.nd (de_lst (da_cons de_non (da_cons de_bl (da_cons de_bl (da_cons de_int (da_cons de_int (da_cons (de_un un_neg od_neg de_int) (da_cons de_int (da_cons (de_op op_pow od_pow de_int de_int) (da_cons de_str (da_cons de_str (da_cons (de_tup da_nil) (da_cons (de_lst da_nil) (da_cons (de_tup (da_cons de_int da_nil)) (da_cons (de_tup (da_cons de_int (da_cons de_int da_nil))) (da_cons (de_tup (da_cons de_int (da_cons de_int da_nil))) (da_cons (de_lst (da_cons de_int da_nil)) (da_cons (de_tup (da_cons de_int (da_cons de_int (da_cons (de_tup da_nil) da_nil)))) da_nil)))))))))))))))))))
    (dss_cons (ds_if (dt_val (de_isi nb.isinstance nb.int bt_int kit_int (de_var 1))) (dss_one (ds_set 2 sc_law_odd.nd (de_op op_addA od_add (de_var 2) (de_lst (da_cons (de_op op_addB od_addB (de_var 1) de_int) (da_cons (de_op op_subB od_subB de_int (de_var 1)) (da_cons (de_callTy call_str1 cd_str nb.str bt_str (da_cons (de_var 1) da_nil)) (da_cons (de_cmp (op_eqP hr.units) od_eq (de_var 1) de_int (by first | rfl | exact nomark _)) da_nil)))))))) dss_nil)
    (dss_one (ds_ret (de_call c_law_of (hr.mono (by omega)) (da_sl 0 (da_cons (de_var 2) da_nil)))))))⟩
theorem ok_law_odd [TabC] (nb : Nb mg) (c_law_of : FnD P w K mg base "_law_of" 2 ["_law_box_here", "_law_some"] f_law_of) {f : Addr} {fd : FuncData} (F : FnP K "_law_odd" s_law_odd f fd) : FnOk P w K mg base CX0 3 f fd ["_law_box_here", "_law_matter"] (spF ⟨K, mg⟩ f_law_odd) :=
  fn_ok F sc_law_odd fun cdv A outer s H E hr => dv_law_odd nb c_law_of hr
theorem sc_law_bent : FnScope ["_law_box_here", "_law_matter", "_law_deep", "_law_manner", "_law_some", "_law_at"] ["_law_box_here", "_law_matter", "_law_deep"] (defScope s_law_bent) := ⟨rfl, rfl, rfl, by decide +kernel, rfl, by decide +kernel, by decide +kernel⟩
def b_law_bent (self : FnSem) : SM := (sSeq (sSet 3 (eCall f_law_take (aSl 0 (aCons (eC (.int 8)) aNil))))
  (sSeq (sIf (tOr (tNot (tB (eOp1 (isiD2 "list" "tuple") (eVar 1)))) (tOr (tB (eOp2 eqD (eCallV lenF (aCons (eVar 1) aNil)) (eC (.int 0)))) (tOr (tB (eOp2 eqD (eVar 3) (eC (.int 0)))) (tB (eOp2 eqD (eVar 2) (eC (.int 0))))))) (sRet (eCall f_law_odd (aSl 0 (aCons (eVar 1) aNil)))) sSkip)
  (sSeq (sIf (tB (eOp2 eqD (eVar 3) (eC (.int 1)))) (sRet (eIf (tB (eOp1 (isiD "list") (eVar 1))) (eCallV tupF (aCons (eVar 1) aNil)) (eCallV listF (aCons (eVar 1) aNil)))) sSkip)
  (sSeq (sParOV 4 5 (eCallV listF (aCons (eVar 1) aNil)) (eCall f_law_take (aSl 0 (aCons (eCallV lenF (aCons (eVar 1) aNil)) aNil))))
  (sSeq (sIf (tB (eOp2 eqD (eVar 3) (eC (.int 2)))) (sSetO 4 (eOp2 addL (eSlice (eVar 4) oNo (oSome (eVar 5))) (eSlice (eVar 4) (oSome (eOp2 addD (eVar 5) (eC (.int 1)))) oNo))) (sIf (tB (eOp2 eqD (eVar 3) (eC (.int 3)))) (sSetO 4 (eOp2 addL (eSlice (eVar 4) oNo (oSome (eOp2 addD (eVar 5) (eC (.int 1))))) (eSlice (eVar 4) (oSome (eVar 5)) oNo))) (sIf (tB (eOp2 eqD (eVar 3) (eC (.int 4)))) (sSetO 4 (eOp2 addL (eOp2 addD (eSlice (eVar 4) oNo (oSome (eVar 5))) (eOp1 revD (eSlice (eVar 4) (oSome (eVar 5)) (oSome (eOp2 addD (eVar 5) (eC (.int 2))))))) (eSlice (eVar 4) (oSome (eOp2 addD (eVar 5) (eC (.int 2)))) oNo))) (sStore "list" 4 setL (eVar 5) (eCall self (aSl 0 (aCons (eIxO 4 (eVar 5)) (aCons (eOp2 subD (eVar 2) (eC (.int 1))) aNil))))))))
  (sRet (eIf (tB (eOp1 (isiD "list") (eVar 1))) (eVar 4) (eCallV tupF (aCons (eVar 4) aNil)))))))))
def f_law_bent_n : Nat → FnSem
  | 0 => fun _ => none
  | n + 1 => mkFn 3 3 (b_law_bent (f_law_bent_n n))
abbrev f_law_bent : FnSem := f_law_bent_n 8
theorem dv_law_bent [TabC] (nb : Nb mg) (c_law_odd : FnD P w K mg base "_law_odd" 3 ["_law_box_here", "_law_matter"] f_law_odd) (c_law_take : FnD P w K mg base "_law_take" 1 ["_law_box_here", "_law_span"] f_law_take) {n : Nat} {self : FnSem} (c_self : FnD P w K mg base "_law_bent" (n + 3) ["_law_box_here", "_law_matter", "_law_deep"] self) {cdv : Value} {A : Around} {outer : List PySem.Env} {s : Shared} {H : Hp} {E : XK} {f : Addr} (hr : Room (n + 3) (A.deeper (PyProof.Rows.envOfC "_law_bent" (defScope s_law_bent) s.heap.objs.size f cdv))) :
    ∃ t, DSs (cxOf CX0 P w K mg base ["_law_box_here", "_law_matter", "_law_deep", "_law_manner", "_law_some", "_law_at"] "_law_bent" (defScope s_law_bent) f cdv A outer s H E).nox (defBody s_law_bent) t (b_law_bent self) := ⟨_,
    (dss_cons (ds_set 3 sc_law_bent.nd (de_call c_law_take (hr.mono (by omega)) (da_sl 0 (da_cons de_int da_nil))))
    (dss_cons (ds_if (DW.dt (dw_or (dt_not (dt_val (de_isiT nb.isinstance nb.list bt_list kit_list nb.tuple bt_tuple kit_tuple (de_var 1)))) (dw_or (dt_cmp (op_eqP hr.units) od_eq (de_callB cr_len cd_len nb.len bt_len (da_cons (de_var 1) da_nil)) de_int (by first | rfl | exact nomark _)) (dw_or (dt_cmp (op_eqP hr.units) od_eq (de_var 3) de_int (by first | rfl | exact nomark _)) (dw_or1 (dt_cmp (op_eqP hr.units) od_eq (de_var 2) de_int (by first | rfl | exact nomark _))))))) (dss_one (ds_ret (de_call c_law_odd (hr.mono (by omega)) (da_sl 0 (da_cons (de_var 1) da_nil))))) dss_nil)
    (dss_cons (ds_if (dt_cmp (op_eqP hr.units) od_eq (de_var 3) de_int (by first | rfl | exact nomark _)) (dss_one (ds_ret (de_ifExp (dt_val (de_isi nb.isinstance nb.list bt_list kit_list (de_var 1))) (de_callTy call_tuple_of cd_tup nb.tuple bt_tuple (da_cons (de_var 1) da_nil)) (de_callTy call_list_of cd_list nb.list bt_list (da_cons (de_var 1) da_nil))))) dss_nil)
    (dss_cons (ds_parOV 4 5 rfl sc_law_bent.nd (df_callTy call_list_of cdf_list nb.list bt_list (da_cons (de_var 1) da_nil)) (de_call c_law_take (hr.mono (by omega)) (da_sl 0 (da_cons (de_callB cr_len cd_len nb.len bt_len (da_cons (de_var 1) da_nil)) da_nil))))
    (dss_cons (ds_if (dt_cmp (op_eqP hr.units) od_eq (de_var 3) de_int (by first | rfl | exact nomark _)) (dss_one (ds_setO 4 sc_law_bent.nd (df_op op_addA odf_add (de_slice (de_var 4) do_none (do_some (de_var 5))) (de_slice (de_var 4) (do_some (de_op op_addA od_add (de_var 5) de_int)) do_none)))) (dss_one (ds_if (dt_cmp (op_eqP hr.units) od_eq (de_var 3) de_int (by first | rfl | exact nomark _)) (dss_one (ds_setO 4 sc_law_bent.nd (df_op op_addA odf_add (de_slice (de_var 4) do_none (do_some (de_op op_addA od_add (de_var 5) de_int))) (de_slice (de_var 4) (do_some (de_var 5)) do_none)))) (dss_one (ds_if (dt_cmp (op_eqP hr.units) od_eq (de_var 3) de_int (by first | rfl | exact nomark _)) (dss_one (ds_setO 4 sc_law_bent.nd (df_op op_addA odf_add (de_op op_addA od_add (de_slice (de_var 4) do_none (do_some (de_var 5))) (de_revL (de_slice (de_var 4) (do_some (de_var 5)) (do_some (de_op op_addA od_add (de_var 5) de_int))))) (de_slice (de_var 4) (do_some (de_op op_addA od_add (de_var 5) de_int)) do_none)))) (dss_one (ds_store 4 (T := "list") (de_call c_self hr (da_sl 0 (da_cons (de_ixO 4 (de_var 5)) (da_cons (de_op op_sub od_sub (de_var 2) de_int) da_nil)))) (de_var 5) set_list sd_set)))))))
    (dss_one (ds_ret (de_ifExp (dt_val (de_isi nb.isinstance nb.list bt_list kit_list (de_var 1))) (de_var 4) (de_callTy call_tuple_of cd_tup nb.tuple bt_tuple (da_cons (de_var 4) da_nil))))))))))⟩
theorem ok_law_bent [TabC] (nb : Nb mg) (c_law_odd : FnD P w K mg base "_law_odd" 3 ["_law_box_here", "_law_matter"] f_law_odd) (c_law_take : FnD P w K mg base "_law_take" 1 ["_law_box_here", "_law_span"] f_law_take) {f : Addr} {fd : FuncData} (F : FnP K "_law_bent" s_law_bent f fd) (g : mg "_law_bent" = some (.ref f)) : ∀ n : Nat, FnOk P w K mg base CX0 (n + 3) f fd ["_law_box_here", "_law_matter", "_law_deep"] (spF ⟨K, mg⟩ (f_law_bent_n n))
  | 0 => fn_none
  | n + 1 => by
    have := fn_ok (k := n + 3) F sc_law_bent fun cdv A outer s H E hr => dv_law_bent nb c_law_odd c_law_take (FunD.d F g (fun _ _ _ _ _ _ us hl => match us, hl with | [_, _, _], _ => rfl) (ok_law_bent nb c_law_odd c_law_take F g n)) hr
    rw [show n + 1 + 3 = n + 3 + 1 by omega]
    exact this
theorem sc_law_right : FnScope ["_law_box_here", "_law_pool", "_law_count", "_law_lot_here", "_law_things", "_law_turn", "_law_bent_here", "_law_matter", "_law_kept", "_law_told"] ["_law_box_here"] (defScope s_law_right) := ⟨rfl, rfl, rfl, by decide +kernel, rfl, by decide +kernel, by decide +kernel⟩
def b_law_right_1 : SM := (sSeq (sSet 6 (eCall f_law_bent (aSl 0 (aCons (eCall f_law_of (aSl 0 (aCons (eCallV mkLst (aCons (eVar 1) (aCons (eVar 3) aNil))) aNil))) (aCons (eC (.int 3)) aNil)))))
  (sDrop (eMut "list" 4 appendM (aCons (eIf (tB (eOp2 eqD (eCall f_law_take (aSl 0 (aCons (eC (.int 3)) aNil))) (eC (.int 0)))) (eCall f_law_bent (aSl 0 (aCons (eVar 6) (aCons (eC (.int 3)) aNil)))) (eVar 6)) aNil))))
def b_law_right_2 : SM := (sSeq (sSet 8 (eCallV reprY (aCons (eVar 7) aNil)))
  (sSeq (sSet 9 (eCallV mkLst (aCons (eCall f_is_sea (aCons (eVar 7) aNil)) (aCons (eCall f_is_standing (aCons (eVar 1) (aCons (eVar 7) aNil))) aNil))))
  (sIf (tOr (tNot (tB (eCall f_law_same (aCons (eVar 9) (aCons (eCallV mkLst (aCons (eCall f_law_sea_due (aCons (eVar 7) aNil)) (aCons (eCall f_law_lot_due (aCons (eVar 2) (aCons (eVar 7) aNil))) aNil))) aNil))))) (tB (eOp2 neD (eCallV reprY (aCons (eVar 7) aNil)) (eVar 8)))) (sRet (eC (.bl false))) sSkip)))
def b_law_right : SM := (sSeq (sSet 1 (eCall f_law_sea (aSl 0 (aCons (eC (.int 6)) aNil))))
  (sSeq (sSet 2 (eCallV lenF (aCons (eOp2 ixD (eVar 1) (eC (.int 2))) aNil)))
  (sSeq (sSet 3 (eCall f_law_lot (aSl 0 (aCons (eVar 2) aNil))))
  (sSeq (sSetO 4 (eCallV mkLst (aCons (eVar 1) (aCons (eVar 3) (aCons (eCallV listF (aCons (eVar 1) aNil)) (aCons (eCallV listF (aCons (eVar 3) aNil)) (aCons (eC .non) (aCons (eCallV mkTup aNil) (aCons (eCallV mkLst aNil) (aCons (eC (.int 3)) (aCons (eC (.str "sea")) (aCons (eCallV mkTup (aCons (eVar 2) aNil)) (aCons (eCallV trgF (aCons (eVar 2) aNil)) aNil)))))))))))))
  (sSeq (sSetO 4 (eOp2 addL (eVar 4) (eCallV mkLst (aCons (eCallV mkTup (aCons (eC (.int 0)) (aCons (eC (.int 0)) (aCons (eOp2 timD (eCallV mkTup (aCons (eC (.int 0)) aNil)) (eC (.int 30))) aNil)))) (aCons (eCallV mkTup (aCons (eC (.int 0)) (aCons (eC (.int 2)) (aCons (eCallV mkTup aNil) aNil)))) (aCons (eCallV mkTup (aCons (eC (.int 0)) (aCons (eC (.int 0)) aNil))) (aCons (eCallV mkTup (aCons (eC (.int 0)) aNil)) (aCons (eCallV mkTup (aCons (eOp2 subD (eVar 2) (eC (.int 1))) (aCons (eOp2 subD (eVar 2) (eC (.int 1))) aNil))) aNil))))))))
  (sSeq (sFor (iArg rng1 (aCons (eC (.int 10)) aNil)) (gV 5) b_law_right_1)
  (sSeq (sFor (iSeq (eVar 4)) (gV 7) b_law_right_2)
  (sRet (eAnd (eOp2 isD (eCallK [0] 0 1 f_is_sea aNil (aCons (eVar 1) aNil)) (eC (.bl true))) (eOp2 isD (eCallK [1, 0] 0 2 f_is_standing aNil (aCons (eVar 3) (aCons (eVar 1) aNil))) (eC (.bl true))))))))))))
def f_law_right : FnSem := mkFn 1 9 b_law_right
theorem dv_law_right [TabC] (nb : Nb mg) (nx : NbX mg) (k_is_sea_0_thing : FnK P w K mg base "is_sea" 3 ["thing"] ["thing"] 0 [0] f_is_sea) (k_is_standing_0_thing_sea : FnK P w K mg base "is_standing" 4 ["sea", "thing"] ["thing", "sea"] 0 [1, 0] f_is_standing) (c_law_bent : FnD P w K mg base "_law_bent" 12 ["_law_box_here", "_law_matter", "_law_deep"] f_law_bent) (c_law_lot : FnD P w K mg base "_law_lot" 3 ["_law_box_here", "_law_count"] f_law_lot) (c_law_lot_due : FnD P w K mg base "_law_lot_due" 2 ["_law_count", "_law_matter"] f_law_lot_due) (c_law_of : FnD P w K mg base "_law_of" 2 ["_law_box_here", "_law_some"] f_law_of) (c_law_same : FnD P w K mg base "_law_same" 9 ["_law_found", "_law_due"] f_law_same) (c_law_sea : FnD P w K mg base "_law_sea" 3 ["_law_box_here", "_law_most"] f_law_sea) (c_law_sea_due : FnD P w K mg base "_law_sea_due" 2 ["_law_matter"] f_law_sea_due) (c_law_take : FnD P w K mg base "_law_take" 1 ["_law_box_here", "_law_span"] f_law_take) (c_is_sea : FnD P w K mg base "is_sea" 3 ["thing"] f_is_sea) (c_is_standing : FnD P w K mg base "is_standing" 4 ["sea", "thing"] f_is_standing) {cdv : Value} {A : Around} {outer : List PySem.Env} {s : Shared} {H : Hp} {E : XK} {f : Addr} (hg : Still A) (hr : Room 12 (A.deeper (PyProof.Rows.envOfC "_law_right" (defScope s_law_right) s.heap.objs.size f cdv))) :
    ∃ t, DSs (cxOf CX0 P w K mg base ["_law_box_here", "_law_pool", "_law_count", "_law_lot_here", "_law_things", "_law_turn", "_law_bent_here", "_law_matter", "_law_kept", "_law_told"] "_law_right" (defScope s_law_right) f cdv A outer s H E).nox (defBody s_law_right) t b_law_right := ⟨_,
    (dss_cons (ds_set 1 sc_law_right.nd (de_call c_law_sea (hr.mono (by omega)) (da_sl 0 (da_cons de_int da_nil))))
    (dss_cons (ds_set 2 sc_law_right.nd (de_callB cr_len cd_len nb.len bt_len (da_cons (de_ix ix_seq od_ix (de_var 1) de_int) da_nil)))
    (dss_cons (ds_set 3 sc_law_right.nd (de_call c_law_lot (hr.mono (by omega)) (da_sl 0 (da_cons (de_var 2) da_nil))))
    (dss_cons (ds_setO 4 sc_law_right.nd (df_lst (da_cons (de_var 1) (da_cons (de_var 3) (da_cons (de_callTy call_list_of cd_list nb.list bt_list (da_cons (de_var 1) da_nil)) (da_cons (de_callTy call_list_of cd_list nb.list bt_list (da_cons (de_var 3) da_nil)) (da_cons de_non (da_cons (de_tup da_nil) (da_cons (de_lst da_nil) (da_cons de_int (da_cons de_str (da_cons (de_tup (da_cons (de_var 2) da_nil)) (da_cons (de_trg1 nb.tuple nb.range (de_var 2)) da_nil)))))))))))))
    (dss_cons (ds_setO 4 sc_law_right.nd (df_op op_addA odf_add (de_var 4) (de_lst (da_cons (de_tup (da_cons de_int (da_cons de_int (da_cons (de_op op_tim od_tim (de_tup (da_cons de_int da_nil)) de_int) da_nil)))) (da_cons (de_tup (da_cons de_int (da_cons de_int (da_cons (de_tup da_nil) da_nil)))) (da_cons (de_tup (da_cons de_int (da_cons de_int da_nil))) (da_cons (de_tup (da_cons de_int da_nil)) (da_cons (de_tup (da_cons (de_op op_sub od_sub (de_var 2) de_int) (da_cons (de_op op_sub od_sub (de_var 2) de_int) da_nil))) da_nil))))))))
    (dss_cons (ds_for .never rfl (di_rng1 nb.range (da_cons de_int da_nil)) (dg_name 5 sc_law_right.nd) (dss_cons (ds_set 6 sc_law_right.nd (de_call c_law_bent (hr.mono (by omega)) (da_sl 0 (da_cons (de_call c_law_of (hr.mono (by omega)) (da_sl 0 (da_cons (de_lst (da_cons (de_var 1) (da_cons (de_var 3) da_nil))) da_nil))) (da_cons de_int da_nil)))))
    (dss_one (ds_drop (de_mth 4 PySem.F.plainAttrs_list PySem.F.slot_list_append PySem.F.type_list_append mt_append md_append (da_cons (de_ifExp (dt_cmp (op_eqP hr.units) od_eq (de_call c_law_take (hr.mono (by omega)) (da_sl 0 (da_cons de_int da_nil))) de_int (by first | rfl | exact nomark _)) (de_call c_law_bent (hr.mono (by omega)) (da_sl 0 (da_cons (de_var 6) (da_cons de_int da_nil)))) (de_var 6)) da_nil))))))
    (dss_cons (ds_for .never rfl (di_seq (de_var 4)) (dg_name 7 sc_law_right.nd) (dss_cons (ds_set 8 sc_law_right.nd (de_callB (call_reprY hg hr) od_reprY nx.repr bt_repr (da_cons (de_var 7) da_nil)))
    (dss_cons (ds_set 9 sc_law_right.nd (de_lst (da_cons (de_call c_is_sea (hr.mono (by omega)) (da_cons (de_var 7) da_nil)) (da_cons (de_call c_is_standing (hr.mono (by omega)) (da_cons (de_var 1) (da_cons (de_var 7) da_nil))) da_nil))))
    (dss_one (ds_if (DW.dt (dw_or (dt_not (dt_val (de_call c_law_same (hr.mono (by omega)) (da_cons (de_var 9) (da_cons (de_lst (da_cons (de_call c_law_sea_due (hr.mono (by omega)) (da_cons (de_var 7) da_nil)) (da_cons (de_call c_law_lot_due (hr.mono (by omega)) (da_cons (de_var 2) (da_cons (de_var 7) da_nil))) da_nil))) da_nil))))) (dw_or1 (dt_cmp (op_neP hr.units) od_ne (de_callB (call_reprY hg hr) od_reprY nx.repr bt_repr (da_cons (de_var 7) da_nil)) (de_var 8) (by first | rfl | exact nomark _))))) (dss_one (ds_ret de_bl)) dss_nil)))))
    (dss_one (ds_ret (de_and (de_cmp op_isA od_is (de_kw0 k_is_sea_0_thing (hr.mono (by omega)) (dk_cons (de_var 1) dk_nil)) de_bl (by first | rfl | exact nomark _)) (de_one (de_cmp op_isA od_is (de_kw0 k_is_standing_0_thing_sea (hr.mono (by omega)) (dk_cons (de_var 3) (dk_cons (de_var 1) dk_nil))) de_bl (by first | rfl | exact nomark _)))))))))))))⟩
theorem ok_law_right [TabC] (nb : Nb mg) (nx : NbX mg) (k_is_sea_0_thing : FnK P w K mg base "is_sea" 3 ["thing"] ["thing"] 0 [0] f_is_sea) (k_is_standing_0_thing_sea : FnK P w K mg base "is_standing" 4 ["sea", "thing"] ["thing", "sea"] 0 [1, 0] f_is_standing) (c_law_bent : FnD P w K mg base "_law_bent" 12 ["_law_box_here", "_law_matter", "_law_deep"] f_law_bent) (c_law_lot : FnD P w K mg base "_law_lot" 3 ["_law_box_here", "_law_count"] f_law_lot) (c_law_lot_due : FnD P w K mg base "_law_lot_due" 2 ["_law_count", "_law_matter"] f_law_lot_due) (c_law_of : FnD P w K mg base "_law_of" 2 ["_law_box_here", "_law_some"] f_law_of) (c_law_same : FnD P w K mg base "_law_same" 9 ["_law_found", "_law_due"] f_law_same) (c_law_sea : FnD P w K mg base "_law_sea" 3 ["_law_box_here", "_law_most"] f_law_sea) (c_law_sea_due : FnD P w K mg base "_law_sea_due" 2 ["_law_matter"] f_law_sea_due) (c_law_take : FnD P w K mg base "_law_take" 1 ["_law_box_here", "_law_span"] f_law_take) (c_is_sea : FnD P w K mg base "is_sea" 3 ["thing"] f_is_sea) (c_is_standing : FnD P w K mg base "is_standing" 4 ["sea", "thing"] f_is_standing) {f : Addr} {fd : FuncData} (F : FnP K "_law_right" s_law_right f fd) : FnG P w K mg base 13 f fd ["_law_box_here"] (spF ⟨K, mg⟩ f_law_right) :=
  fn_okG F sc_law_right fun cdv A outer s H E hg hr => dv_law_right nb nx k_is_sea_0_thing k_is_standing_0_thing_sea c_law_bent c_law_lot c_law_lot_due c_law_of c_law_same c_law_sea c_law_sea_due c_law_take c_is_sea c_is_standing hg hr
theorem sc_law : FnScope ["_law_script", "_law_k"] ["_law_script"] (defScope s_law) := ⟨rfl, rfl, rfl, by decide +kernel, rfl, by decide +kernel, by decide +kernel⟩
def b_law : SM := (sRet (eCallV allF (aCons (eComp [1] (iArg rng1 (aCons (eOp2 addD (eC (.int 1)) (eCallV minF (aCons (eC (.int 3)) (aCons (eCallV lenF (aCons (eVar 0) aNil)) aNil)))) aNil)) (gV 1) tTrue (eCallT f_law_right (eCallF fF_law_box (aCons (eVar 0) (aCons (eVar 1) aNil))))) aNil)))
def f_law : FnSem := mkFn 1 1 b_law
theorem dv_law [TabC] (nb : Nb mg) (cF_law_box : FnDF P w K mg base "_law_box" 2 ["_law_script", "_law_k"] fF_law_box) (c_law_right : FnDG P w K mg base "_law_right" 13 ["_law_box_here"] f_law_right) {cdv : Value} {A : Around} {outer : List PySem.Env} {s : Shared} {H : Hp} {E : XK} {f : Addr} (hg : Still A) (hr : Room 13 (A.deeper (PyProof.Rows.envOfC "law" (defScope s_law) s.heap.objs.size f cdv))) :
    ∃ t, DSs (cxOf CX0 P w K mg base ["_law_script", "_law_k"] "law" (defScope s_law) f cdv A outer s H E).nox (defBody s_law) t b_law := ⟨_,
    (dss_one (ds_ret (de_callB (cr_all rfl) cd_all nb.all bt_all (da_cons (DF.de (df_compX rfl sc_law.nd (di_rng1 nb.range (da_cons (de_op op_addA od_add de_int (de_callB (call_min2 rfl) cd_min nb.min bt_min (da_cons de_int (da_cons (de_callB cr_len cd_len nb.len bt_len (da_cons (de_var 0) da_nil)) da_nil)))) da_nil)) (blkOk_by (own := [("_law_k", 1)]) (by kernel_rfl)) (by exact fun _ _ _ _ _ => ⟨_, (dg_name 1 sc_law.nd)⟩) (by exact fun _ _ _ _ _ => ⟨_, dts_nil⟩) (by exact fun _ _ _ _ _ => ⟨_, (de_callTG c_law_right hg (hr.mono (by omega)) (de_callF cF_law_box (hr.mono (by omega)) (da_cons (de_var 0) (da_cons (de_var 1) da_nil))))⟩))) da_nil))))⟩
theorem ok_law [TabC] (nb : Nb mg) (cF_law_box : FnDF P w K mg base "_law_box" 2 ["_law_script", "_law_k"] fF_law_box) (c_law_right : FnDG P w K mg base "_law_right" 13 ["_law_box_here"] f_law_right) {f : Addr} {fd : FuncData} (F : FnP K "law" s_law f fd) : FnG P w K mg base 14 f fd ["_law_script"] (spF ⟨K, mg⟩ f_law) :=
  fn_okG F sc_law fun cdv A outer s H E hg hr => dv_law nb cF_law_box c_law_right hg hr
end
end LW
namespace LW
open PySem DL
noncomputable def m_is_number (thing1 : D) : Option (D) :=
  Option.bind ((isiD "int") thing1) fun t2 =>
  Option.bind (asB t2) fun c4 =>
  Option.bind (if c4 = true then (Option.bind ((isiD "bool") thing1) fun t6 =>
  Option.bind (notD t6) fun t8 =>
  some t8) else (some (D.bl false))) fun r10 =>
  some r10
theorem ms_is_number {thing1 : D} {r : D} (h : m_is_number thing1 = some r) : f_is_number [.v thing1] = some (r, [.v thing1]) := by
  unfold m_is_number at h
  refine mkFn_of (P := [.v thing1]) rfl ⟨rfl, trivial⟩ ?_
  unfold b_is_number
  obtain ⟨t2, e3, h⟩ := bd h
  obtain ⟨c4, e5, h⟩ := bd h
  obtain ⟨r10, e11, h⟩ := bd h
  refine WS.ret (show XE [.v thing1] (eAnd (eOp1 (isiD "int") (eVar 0)) (eNot (eOp1 (isiD "bool") (eVar 0)))) r10 [.v thing1] from (XE.and_ (XE.op1 (XE.var rfl) e3) e5 (fun hc => by rw [if_pos hc] at e11; obtain ⟨t6, e7, e11⟩ := bd e11; obtain ⟨t8, e9, e11⟩ := bd e11; have q := Option.some.inj e11; subst q; exact (XE.not (XE.op1 (XE.var rfl) e7) e9)) (fun hc => by rw [if_neg (Bool.eq_false_iff.mp hc)] at e11; have q := Option.some.inj e11; subst q; exact ⟨rfl, rfl⟩))) (fun ρ hρ => ?_)
  cases h; exact rfl
noncomputable def m_is_count (thing1 : D) : Option (D) :=
  Option.bind (m_is_number thing1) fun t2 =>
  Option.bind (asB t2) fun c4 =>
  Option.bind (if c4 = true then (Option.bind (geD thing1 (D.int 0)) fun t6 =>
  some t6) else (some (D.bl false))) fun r8 =>
  some r8
theorem ms_is_count {thing1 : D} {r : D} (h : m_is_count thing1 = some r) : f_is_count [.v thing1] = some (r, [.v thing1]) := by
  unfold m_is_count at h
  refine mkFn_of (P := [.v thing1]) rfl ⟨rfl, trivial⟩ ?_
  unfold b_is_count
  obtain ⟨t2, e3, h⟩ := bd h
  obtain ⟨c4, e5, h⟩ := bd h
  obtain ⟨r8, e9, h⟩ := bd h
  refine WS.ret (show XE [.v thing1] (eAnd (eCall f_is_number (aCons (eVar 0) aNil)) (eOp2 geD (eVar 0) (eC (.int 0)))) r8 [.v thing1] from (XE.and_ (XE.call (XA.cons (XE.var rfl) XA.nil) (show ([] : List Nat).Nodup by decide) rfl (ms_is_number e3) rfl) e5 (fun hc => by rw [if_pos hc] at e9; obtain ⟨t6, e7, e9⟩ := bd e9; have q := Option.some.inj e9; subst q; exact (XE.op2 (XE.var rfl) XE.cst e7)) (fun hc => by rw [if_neg (Bool.eq_false_iff.mp hc)] at e9; have q := Option.some.inj e9; subst q; exact ⟨rfl, rfl⟩))) (fun ρ hρ => ?_)
  cases h; exact rfl
noncomputable def m_is_sea (thing1 : D) : Option (D) :=
  Option.bind ((isiD "tuple") thing1) fun t2 =>
  Option.bind (asB t2) fun c4 =>
  Option.bind (if (!c4) = true then (some true) else (Option.bind (lenF [thing1]) fun t6 =>
  Option.bind (neD t6 (D.int 3)) fun t8 =>
  Option.bind (asB t8) fun c10 =>
  Option.bind (if c10 = true then (some true) else (Option.bind (ixD thing1 (D.int 0)) fun t12 =>
  Option.bind (m_is_count t12) fun t14 =>
  Option.bind (asB t14) fun c16 =>
  Option.bind (if (!c16) = true then (some true) else (Option.bind (ixD thing1 (D.int 1)) fun t18 =>
  Option.bind (m_is_count t18) fun t20 =>
  Option.bind (asB t20) fun c22 =>
  some (!c22))) fun c24 =>
  some c24)) fun c26 =>
  some c26)) fun c28 =>
  if c28 = true then (some (D.bl false)) else (Option.bind (ixD thing1 (D.int 2)) fun draughts30 =>
  Option.bind ((isiD "tuple") draughts30) fun t32 =>
  Option.bind (asB t32) fun c34 =>
  Option.bind (if c34 = true then (Option.bind (lenF [draughts30]) fun t36 =>
  Option.bind (gtD t36 (D.int 0)) fun t38 =>
  Option.bind (asB t38) fun c40 =>
  Option.bind (if c40 = true then (Option.bind (unL draughts30) fun ds42 =>
  Option.bind (cmpP (fun d44 => Option.bind (m_is_count d44) fun t45 =>
  some [t45]) ds42) fun t47 =>
  Option.bind (allF [(D.lst t47)]) fun t49 =>
  some t49) else (some (D.bl false))) fun t51 =>
  some t51) else (some (D.bl false))) fun r53 =>
  some r53)
theorem ms_is_sea {thing1 : D} {r : D} (h : m_is_sea thing1 = some r) : f_is_sea [.v thing1] = some (r, [.v thing1]) := by
  unfold m_is_sea at h
  refine mkFn_of (P := [.v thing1, .x, .x]) rfl ⟨rfl, trivial, trivial, trivial⟩ ?_
  unfold b_is_sea
  obtain ⟨t2, e3, h⟩ := bd h
  obtain ⟨c4, e5, h⟩ := bd h
  obtain ⟨c28, e29, h⟩ := bd h
  refine WS.ifS (show XT [.v thing1, .x, .x] (tOr (tNot (tB (eOp1 (isiD "tuple") (eVar 0)))) (tOr (tB (eOp2 neD (eCallV lenF (aCons (eVar 0) aNil)) (eC (.int 3)))) (tOr (tNot (tB (eCall f_is_count (aCons (eOp2 ixD (eVar 0) (eC (.int 0))) aNil)))) (tNot (tB (eCall f_is_count (aCons (eOp2 ixD (eVar 0) (eC (.int 1))) aNil))))))) c28 [.v thing1, .x, .x] from (XT.or_ (XT.not (XT.bb (XE.op1 (XE.var rfl) e3) e5)) (fun hc => by rw [if_pos hc] at e29; have q := Option.some.inj e29; subst q; exact ⟨rfl, rfl⟩) (fun hc => by rw [if_neg (Bool.eq_false_iff.mp hc)] at e29; obtain ⟨t6, e7, e29⟩ := bd e29; obtain ⟨t8, e9, e29⟩ := bd e29; obtain ⟨c10, e11, e29⟩ := bd e29; obtain ⟨c26, e27, e29⟩ := bd e29; have q := Option.some.inj e29; subst q; exact (show XT [.v thing1, .x, .x] (tOr (tB (eOp2 neD (eCallV lenF (aCons (eVar 0) aNil)) (eC (.int 3)))) (tOr (tNot (tB (eCall f_is_count (aCons (eOp2 ixD (eVar 0) (eC (.int 0))) aNil)))) (tNot (tB (eCall f_is_count (aCons (eOp2 ixD (eVar 0) (eC (.int 1))) aNil)))))) c26 [.v thing1, .x, .x] from (XT.or_ (XT.bb (XE.op2 (XE.callV (XA.cons (XE.var rfl) XA.nil) rfl e7) XE.cst e9) e11) (fun hc => by rw [if_pos hc] at e27; have q := Option.some.inj e27; subst q; exact ⟨rfl, rfl⟩) (fun hc => by rw [if_neg (Bool.eq_false_iff.mp hc)] at e27; obtain ⟨t12, e13, e27⟩ := bd e27; obtain ⟨t14, e15, e27⟩ := bd e27; obtain ⟨c16, e17, e27⟩ := bd e27; obtain ⟨c24, e25, e27⟩ := bd e27; have q := Option.some.inj e27; subst q; exact (show XT [.v thing1, .x, .x] (tOr (tNot (tB (eCall f_is_count (aCons (eOp2 ixD (eVar 0) (eC (.int 0))) aNil)))) (tNot (tB (eCall f_is_count (aCons (eOp2 ixD (eVar 0) (eC (.int 1))) aNil))))) c24 [.v thing1, .x, .x] from (XT.or_ (XT.not (XT.bb (XE.call (XA.cons (XE.op2 (XE.var rfl) XE.cst e13) XA.nil) (show ([] : List Nat).Nodup by decide) rfl (ms_is_count e15) rfl) e17)) (fun hc => by rw [if_pos hc] at e25; have q := Option.some.inj e25; subst q; exact ⟨rfl, rfl⟩) (fun hc => by rw [if_neg (Bool.eq_false_iff.mp hc)] at e25; obtain ⟨t18, e19, e25⟩ := bd e25; obtain ⟨t20, e21, e25⟩ := bd e25; obtain ⟨c22, e23, e25⟩ := bd e25; have q := Option.some.inj e25; subst q; exact (XT.not (XT.bb (XE.call (XA.cons (XE.op2 (XE.var rfl) XE.cst e19) XA.nil) (show ([] : List Nat).Nodup by decide) rfl (ms_is_count e21) rfl) e23))))))))))) (fun hc => ?_) (fun hc => ?_)
  · rw [if_pos hc] at h
    refine WS.retS XE.cst (fun ρ hρ => ?_)
    cases h; exact rfl
  · rw [if_neg (Bool.eq_false_iff.mp hc)] at h
    refine WS.skipS ?_
    obtain ⟨draughts30, e31, h⟩ := bd h
    refine WS.seq (P1 := [.v thing1, .v draughts30, .x]) (WS.set (XE.op2 (XE.var rfl) XE.cst e31) rfl) ?_
    obtain ⟨t32, e33, h⟩ := bd h
    obtain ⟨c34, e35, h⟩ := bd h
    obtain ⟨r53, e54, h⟩ := bd h
    refine WS.ret (show XE [.v thing1, .v draughts30, .x] (eAnd (eOp1 (isiD "tuple") (eVar 1)) (eAnd (eOp2 gtD (eCallV lenF (aCons (eVar 1) aNil)) (eC (.int 0))) (eCallV allF (aCons (eComp [2] (iSeq (eVar 1)) (gV 2) tTrue (eCall f_is_count (aCons (eVar 2) aNil))) aNil)))) r53 [.v thing1, .v draughts30, .x] from (XE.and_ (XE.op1 (XE.var rfl) e33) e35 (fun hc => by rw [if_pos hc] at e54; obtain ⟨t36, e37, e54⟩ := bd e54; obtain ⟨t38, e39, e54⟩ := bd e54; obtain ⟨c40, e41, e54⟩ := bd e54; obtain ⟨t51, e52, e54⟩ := bd e54; have q := Option.some.inj e54; subst q; exact (show XE [.v thing1, .v draughts30, .x] (eAnd (eOp2 gtD (eCallV lenF (aCons (eVar 1) aNil)) (eC (.int 0))) (eCallV allF (aCons (eComp [2] (iSeq (eVar 1)) (gV 2) tTrue (eCall f_is_count (aCons (eVar 2) aNil))) aNil))) t51 [.v thing1, .v draughts30, .x] from (XE.and_ (XE.op2 (XE.callV (XA.cons (XE.var rfl) XA.nil) rfl e37) XE.cst e39) e41 (fun hc => by rw [if_pos hc] at e52; obtain ⟨ds42, e43, e52⟩ := bd e52; obtain ⟨t47, e48, e52⟩ := bd e52; obtain ⟨t49, e50, e52⟩ := bd e52; have q := Option.some.inj e52; subst q; exact (XE.callV (XA.cons (XE.comp (P2 := [.v thing1, .v draughts30, .x]) (Pw := [.v thing1, .v draughts30, .x]) (XI.seq (XE.var rfl) e43) rfl e48 (by intro d44 z h; obtain ⟨t45, e46, h⟩ := bd h; cases h; exact XC.one (XG.v rfl) XT.tt (XE.call (XA.cons (XE.var rfl) XA.nil) (show ([] : List Nat).Nodup by decide) rfl (ms_is_count e46) rfl) rfl ⟨rfl, rfl, trivial, trivial⟩) rfl) XA.nil) rfl e50)) (fun hc => by rw [if_neg (Bool.eq_false_iff.mp hc)] at e52; have q := Option.some.inj e52; subst q; exact ⟨rfl, rfl⟩)))) (fun hc => by rw [if_neg (Bool.eq_false_iff.mp hc)] at e54; have q := Option.some.inj e54; subst q; exact ⟨rfl, rfl⟩))) (fun ρ hρ => ?_)
    cases h; exact rfl
noncomputable def m_are_ships (many1 : D) (thing2 : D) : Option (D) :=
  Option.bind (unL thing2) fun ds3 =>
  Option.bind (cmpP (fun d5 => Option.bind (m_is_count d5) fun t6 =>
  Option.bind (asB t6) fun c8 =>
  Option.bind (if c8 = true then (Option.bind (ltD d5 many1) fun t10 =>
  some t10) else (some (D.bl false))) fun t12 =>
  some [t12]) ds3) fun t14 =>
  Option.bind (allF [(D.lst t14)]) fun r16 =>
  some r16
theorem ms_are_ships {many1 : D} {thing2 : D} {r : D} (h : m_are_ships many1 thing2 = some r) : f_are_ships [.v many1, .v thing2] = some (r, [.v many1, .v thing2]) := by
  unfold m_are_ships at h
  refine mkFn_of (P := [.v many1, .v thing2, .x]) rfl ⟨rfl, rfl, trivial, trivial⟩ ?_
  unfold b_are_ships
  obtain ⟨ds3, e4, h⟩ := bd h
  obtain ⟨t14, e15, h⟩ := bd h
  obtain ⟨r16, e17, h⟩ := bd h
  refine WS.ret (XE.callV (XA.cons (XE.comp (P2 := [.v many1, .v thing2, .x]) (Pw := [.v many1, .v thing2, .x]) (XI.seq (XE.var rfl) e4) rfl e15 (by intro d5 z h; obtain ⟨t6, e7, h⟩ := bd h; obtain ⟨c8, e9, h⟩ := bd h; obtain ⟨t12, e13, h⟩ := bd h; cases h; exact XC.one (XG.v rfl) XT.tt (show XE [.v many1, .v thing2, .v d5] (eAnd (eCall f_is_count (aCons (eVar 2) aNil)) (eOp2 ltD (eVar 2) (eVar 0))) t12 [.v many1, .v thing2, .v d5] from (XE.and_ (XE.call (XA.cons (XE.var rfl) XA.nil) (show ([] : List Nat).Nodup by decide) rfl (ms_is_count e7) rfl) e9 (fun hc => by rw [if_pos hc] at e13; obtain ⟨t10, e11, e13⟩ := bd e13; have q := Option.some.inj e13; subst q; exact (XE.op2 (XE.var rfl) (XE.var rfl) e11)) (fun hc => by rw [if_neg (Bool.eq_false_iff.mp hc)] at e13; have q := Option.some.inj e13; subst q; exact ⟨rfl, rfl⟩))) rfl ⟨rfl, rfl, trivial, trivial⟩) rfl) XA.nil) rfl e17) (fun ρ hρ => ?_)
  cases h; exact rfl
noncomputable def m_is_standing (sea1 : D) (thing2 : D) : Option (D) :=
  Option.bind ((isiD "tuple") thing2) fun t3 =>
  Option.bind (asB t3) fun c5 =>
  Option.bind (if (!c5) = true then (some true) else (Option.bind (ixD sea1 (D.int 2)) fun t7 =>
  Option.bind (lenF [t7]) fun t9 =>
  Option.bind (m_are_ships t9 thing2) fun t11 =>
  Option.bind (asB t11) fun c13 =>
  some (!c13))) fun c15 =>
  if c15 = true then (some (D.bl false)) else (Option.bind (asI (D.int 1)) fun i17 =>
  Option.bind (sliceD thing2 (some i17) none) fun t19 =>
  Option.bind (zipA [.val thing2, .val t19]) fun ds21 =>
  Option.bind (cmpP (fun d23 => bd2 (un2 d23) fun one24 other25 =>
  Option.bind (ltD one24 other25) fun t27 =>
  some [t27]) ds21) fun t29 =>
  Option.bind (allF [(D.lst t29)]) fun r31 =>
  some r31)
theorem ms_is_standing {sea1 : D} {thing2 : D} {r : D} (h : m_is_standing sea1 thing2 = some r) : f_is_standing [.v sea1, .v thing2] = some (r, [.v sea1, .v thing2]) := by
  unfold m_is_standing at h
  refine mkFn_of (P := [.v sea1, .v thing2, .x, .x]) rfl ⟨rfl, rfl, trivial, trivial, trivial⟩ ?_
  unfold b_is_standing
  obtain ⟨t3, e4, h⟩ := bd h
  obtain ⟨c5, e6, h⟩ := bd h
  obtain ⟨c15, e16, h⟩ := bd h
  refine WS.ifS (show XT [.v sea1, .v thing2, .x, .x] (tOr (tNot (tB (eOp1 (isiD "tuple") (eVar 1)))) (tNot (tB (eCall f_are_ships (aCons (eCallV lenF (aCons (eOp2 ixD (eVar 0) (eC (.int 2))) aNil)) (aCons (eVar 1) aNil)))))) c15 [.v sea1, .v thing2, .x, .x] from (XT.or_ (XT.not (XT.bb (XE.op1 (XE.var rfl) e4) e6)) (fun hc => by rw [if_pos hc] at e16; have q := Option.some.inj e16; subst q; exact ⟨rfl, rfl⟩) (fun hc => by rw [if_neg (Bool.eq_false_iff.mp hc)] at e16; obtain ⟨t7, e8, e16⟩ := bd e16; obtain ⟨t9, e10, e16⟩ := bd e16; obtain ⟨t11, e12, e16⟩ := bd e16; obtain ⟨c13, e14, e16⟩ := bd e16; have q := Option.some.inj e16; subst q; exact (XT.not (XT.bb (XE.call (XA.cons (XE.callV (XA.cons (XE.op2 (XE.var rfl) XE.cst e8) XA.nil) rfl e10) (XA.cons (XE.var rfl) XA.nil)) (show ([] : List Nat).Nodup by decide) rfl (ms_are_ships e12) rfl) e14))))) (fun hc => ?_) (fun hc => ?_)
  · rw [if_pos hc] at h
    refine WS.retS XE.cst (fun ρ hρ => ?_)
    cases h; exact rfl
  · rw [if_neg (Bool.eq_false_iff.mp hc)] at h
    refine WS.skipS ?_
    obtain ⟨i17, e18, h⟩ := bd h
    obtain ⟨t19, e20, h⟩ := bd h
    obtain ⟨ds21, e22, h⟩ := bd h
    obtain ⟨t29, e30, h⟩ := bd h
    obtain ⟨r31, e32, h⟩ := bd h
    refine WS.ret (XE.callV (XA.cons (XE.comp (P2 := [.v sea1, .v thing2, .x, .x]) (Pw := [.v sea1, .v thing2, .x, .x]) (XI.arg (XA.cons (XE.var rfl) (XA.cons (XE.slice (XE.var rfl) (XO.some XE.cst e18) XO.no e20) XA.nil)) e22) rfl e30 (by intro d23 z h; obtain ⟨one24, other25, e26, h⟩ := bd2_e h; obtain ⟨t27, e28, h⟩ := bd h; cases h; exact XC.one (XG.t (XGs.cons (XG.v rfl) (XGs.cons (XG.v rfl) XGs.nil)) (un2_e e26)) XT.tt (XE.op2 (XE.var rfl) (XE.var rfl) e28) rfl ⟨rfl, rfl, trivial, trivial, trivial⟩) rfl) XA.nil) rfl e32) (fun ρ hρ => ?_)
    cases h; exact rfl
noncomputable def m_law_cell_at (script1 : D) (k2 : D) : Option (D) :=
  Option.bind (lenF [script1]) fun t3 =>
  Option.bind (ltD k2 t3) fun t5 =>
  Option.bind (asB t5) fun c7 =>
  if c7 = true then (Option.bind (ixD script1 k2) fun r9 =>
  some r9) else (some (D.int 0))
theorem ms_law_cell_at {script1 : D} {k2 : D} {r : D} (h : m_law_cell_at script1 k2 = some r) : f_law_cell_at [.v script1, .v k2] = some (r, [.v script1, .v k2]) := by
  unfold m_law_cell_at at h
  refine mkFn_of (P := [.v script1, .v k2]) rfl ⟨rfl, rfl, trivial⟩ ?_
  unfold b_law_cell_at
  obtain ⟨t3, e4, h⟩ := bd h
  obtain ⟨t5, e6, h⟩ := bd h
  obtain ⟨c7, e8, h⟩ := bd h
  refine WS.ifS (XT.bb (XE.op2 (XE.var rfl) (XE.callV (XA.cons (XE.var rfl) XA.nil) rfl e4) e6) e8) (fun hc => ?_) (fun hc => ?_)
  · rw [if_pos hc] at h
    obtain ⟨r9, e10, h⟩ := bd h
    refine WS.retS (XE.op2 (XE.var rfl) (XE.var rfl) e10) (fun ρ hρ => ?_)
    cases h; exact rfl
  · rw [if_neg (Bool.eq_false_iff.mp hc)] at h
    refine WS.skipS ?_
    refine WS.ret XE.cst (fun ρ hρ => ?_)
    cases h; exact rfl
noncomputable def m_law_box (script1 : D) (k2 : D) : Option (D) :=
  Option.bind (m_law_cell_at script1 k2) fun core3 =>
  Option.bind (absF [core3]) fun t5 =>
  Option.bind (absF [core3]) fun t7 =>
  Option.bind (powD (D.int 10) (D.int 18)) fun t9 =>
  Option.bind (geD t7 t9) fun t11 =>
  Option.bind (intF [t11]) fun t13 =>
  Option.bind (mulI t5 t13) fun t15 =>
  Option.bind (modD core3 (D.int 2305843009213693951)) fun t17 =>
  Option.bind (mulI (D.int 39373) k2) fun t19 =>
  Option.bind (addD t17 t19) fun t21 =>
  Option.bind (addD t21 (D.int 17)) fun t23 =>
  Option.bind (mkLst [t15, t23, (D.int 0)]) fun r25 =>
  some r25
theorem msF_law_box {script1 : D} {k2 : D} {r : D} (h : m_law_box script1 k2 = some r) : fF_law_box [.v script1, .v k2] = some (r, [.v script1, .v k2]) := by
  unfold m_law_box at h
  refine mkFnF_of (P := [.v script1, .v k2, .x]) rfl ⟨rfl, rfl, trivial, trivial⟩ ?_
  unfold b_law_box
  obtain ⟨core3, e4, h⟩ := bd h
  refine WS.seq (P1 := [.v script1, .v k2, .v core3]) (WS.set (XE.call (XA.cons (XE.var rfl) (XA.cons (XE.var rfl) XA.nil)) (show ([] : List Nat).Nodup by decide) rfl (ms_law_cell_at e4) rfl) rfl) ?_
  obtain ⟨t5, e6, h⟩ := bd h
  obtain ⟨t7, e8, h⟩ := bd h
  obtain ⟨t9, e10, h⟩ := bd h
  obtain ⟨t11, e12, h⟩ := bd h
  obtain ⟨t13, e14, h⟩ := bd h
  obtain ⟨t15, e16, h⟩ := bd h
  obtain ⟨t17, e18, h⟩ := bd h
  obtain ⟨t19, e20, h⟩ := bd h
  obtain ⟨t21, e22, h⟩ := bd h
  obtain ⟨t23, e24, h⟩ := bd h
  obtain ⟨r25, e26, h⟩ := bd h
  refine WS.retF (XE.callV (XA.cons (XE.op2 (XE.callV (XA.cons (XE.var rfl) XA.nil) rfl e6) (XE.callV (XA.cons (XE.op2 (XE.callV (XA.cons (XE.var rfl) XA.nil) rfl e8) (XE.op2 XE.cst XE.cst e10) e12) XA.nil) rfl e14) e16) (XA.cons (XE.op2 (XE.op2 (XE.op2 (XE.var rfl) XE.cst e18) (XE.op2 XE.cst (XE.var rfl) e20) e22) XE.cst e24) (XA.cons XE.cst XA.nil))) rfl e26) (fun ρ hρ => ?_)
  cases h; exact rfl
noncomputable def m_law_take (boxhere1 : D) (span2 : D) : Option (D × D) :=
  Option.bind (ixD boxhere1 (D.int 0)) fun t3 =>
  Option.bind (gtD t3 (D.int 0)) fun t5 =>
  Option.bind (asB t5) fun c7 =>
  if c7 = true then (Option.bind (ixD boxhere1 (D.int 0)) fun t9 =>
  Option.bind (modD t9 span2) fun found11 =>
  Option.bind (ixD boxhere1 (D.int 0)) fun t13 =>
  Option.bind (divD t13 span2) fun t15 =>
  Option.bind (setL boxhere1 (D.int 0) t15) fun boxhere17 =>
  some (found11, boxhere17)) else (Option.bind (ixD boxhere1 (D.int 2)) fun t19 =>
  Option.bind (addD t19 (D.int 1)) fun t21 =>
  Option.bind (setL boxhere1 (D.int 2) t21) fun boxhere23 =>
  Option.bind (ixD boxhere23 (D.int 1)) fun t25 =>
  Option.bind (ixD boxhere23 (D.int 2)) fun t27 =>
  Option.bind (mulI (D.int 48271) t27) fun t29 =>
  Option.bind (addD t25 t29) fun t31 =>
  Option.bind (ixD boxhere23 (D.int 2)) fun t33 =>
  Option.bind (addD (D.int 39373) t33) fun t35 =>
  Option.bind (mulI t31 t35) fun t37 =>
  Option.bind (modD t37 (D.int 2147483647)) fun once39 =>
  Option.bind (ixD boxhere23 (D.int 2)) fun t41 =>
  Option.bind (addD once39 t41) fun t43 =>
  Option.bind (ixD boxhere23 (D.int 1)) fun t45 =>
  Option.bind (divD t45 (D.int 1000003)) fun t47 =>
  Option.bind (addD t43 t47) fun t49 =>
  Option.bind (modD once39 (D.int 40009)) fun t51 =>
  Option.bind (addD t51 (D.int 7)) fun t53 =>
  Option.bind (mulI t49 t53) fun t55 =>
  Option.bind (modD t55 (D.int 2147483629)) fun twice57 =>
  Option.bind (mulI twice57 (D.int 48271)) fun t59 =>
  Option.bind (addD t59 once39) fun t61 =>
  Option.bind (modD t61 (D.int 2147483587)) fun t63 =>
  Option.bind (divD t63 (D.int 64)) fun t65 =>
  Option.bind (modD t65 span2) fun r67 =>
  some (r67, boxhere23))
theorem ms_law_take {boxhere1 : D} {span2 : D} {r : D × D} (h : m_law_take boxhere1 span2 = some r) : f_law_take [.p boxhere1, .v span2] = some (r.1, [.p (r.2), .v span2]) := by
  unfold m_law_take at h
  refine mkFn_of (P := [.p boxhere1, .v span2, .x, .x, .x]) rfl ⟨rfl, rfl, trivial, trivial, trivial, trivial⟩ ?_
  unfold b_law_take
  obtain ⟨t3, e4, h⟩ := bd h
  obtain ⟨t5, e6, h⟩ := bd h
  obtain ⟨c7, e8, h⟩ := bd h
  refine WS.ifS (XT.bb (XE.op2 (XE.ixO rfl XE.cst rfl e4) XE.cst e6) e8) (fun hc => ?_) (fun hc => ?_)
  · rw [if_pos hc] at h
    refine WS.assoc ?_
    obtain ⟨t9, e10, h⟩ := bd h
    obtain ⟨found11, e12, h⟩ := bd h
    refine WS.seq (P1 := [.p boxhere1, .v span2, .v found11, .x, .x]) (WS.set (XE.op2 (XE.ixO rfl XE.cst rfl e10) (XE.var rfl) e12) rfl) ?_
    refine WS.assoc ?_
    obtain ⟨t13, e14, h⟩ := bd h
    obtain ⟨t15, e16, h⟩ := bd h
    obtain ⟨boxhere17, e18, h⟩ := bd h
    refine WS.seq (P1 := [.p boxhere17, .v span2, .v found11, .x, .x]) (WS.store (XE.op2 (XE.ixO rfl XE.cst rfl e14) (XE.var rfl) e16) rfl XE.cst rfl e18 rfl) ?_
    refine WS.retS (XE.var rfl) (fun ρ hρ => ?_)
    cases h; exact (by simp only [outF, DL.fin, hρ.getD (i := 0) rfl])
  · rw [if_neg (Bool.eq_false_iff.mp hc)] at h
    refine WS.skipS ?_
    obtain ⟨t19, e20, h⟩ := bd h
    obtain ⟨t21, e22, h⟩ := bd h
    obtain ⟨boxhere23, e24, h⟩ := bd h
    refine WS.seq (P1 := [.p boxhere23, .v span2, .x, .x, .x]) (WS.store (XE.op2 (XE.ixO rfl XE.cst rfl e20) XE.cst e22) rfl XE.cst rfl e24 rfl) ?_
    obtain ⟨t25, e26, h⟩ := bd h
    obtain ⟨t27, e28, h⟩ := bd h
    obtain ⟨t29, e30, h⟩ := bd h
    obtain ⟨t31, e32, h⟩ := bd h
    obtain ⟨t33, e34, h⟩ := bd h
    obtain ⟨t35, e36, h⟩ := bd h
    obtain ⟨t37, e38, h⟩ := bd h
    obtain ⟨once39, e40, h⟩ := bd h
    refine WS.seq (P1 := [.p boxhere23, .v span2, .x, .v once39, .x]) (WS.set (XE.op2 (XE.op2 (XE.op2 (XE.ixO rfl XE.cst rfl e26) (XE.op2 XE.cst (XE.ixO rfl XE.cst rfl e28) e30) e32) (XE.op2 XE.cst (XE.ixO rfl XE.cst rfl e34) e36) e38) XE.cst e40) rfl) ?_
    obtain ⟨t41, e42, h⟩ := bd h
    obtain ⟨t43, e44, h⟩ := bd h
    obtain ⟨t45, e46, h⟩ := bd h
    obtain ⟨t47, e48, h⟩ := bd h
    obtain ⟨t49, e50, h⟩ := bd h
    obtain ⟨t51, e52, h⟩ := bd h
    obtain ⟨t53, e54, h⟩ := bd h
    obtain ⟨t55, e56, h⟩ := bd h
    obtain ⟨twice57, e58, h⟩ := bd h
    refine WS.seq (P1 := [.p boxhere23, .v span2, .x, .v once39, .v twice57]) (WS.set (XE.op2 (XE.op2 (XE.op2 (XE.op2 (XE.var rfl) (XE.ixO rfl XE.cst rfl e42) e44) (XE.op2 (XE.ixO rfl XE.cst rfl e46) XE.cst e48) e50) (XE.op2 (XE.op2 (XE.var rfl) XE.cst e52) XE.cst e54) e56) XE.cst e58) rfl) ?_
    obtain ⟨t59, e60, h⟩ := bd h
    obtain ⟨t61, e62, h⟩ := bd h
    obtain ⟨t63, e64, h⟩ := bd h
    obtain ⟨t65, e66, h⟩ := bd h
    obtain ⟨r67, e68, h⟩ := bd h
    refine WS.ret (XE.op2 (XE.op2 (XE.op2 (XE.op2 (XE.op2 (XE.var rfl) XE.cst e60) (XE.var rfl) e62) XE.cst e64) XE.cst e66) (XE.var rfl) e68) (fun ρ hρ => ?_)
    cases h; exact (by simp only [outF, DL.fin, hρ.getD (i := 0) rfl])
noncomputable def m_law_of (boxhere1 : D) (some2 : D) : Option (D × D) :=
  Option.bind (lenF [some2]) fun t3 =>
  bd2 (m_law_take boxhere1 t3) fun t5 boxhere6 =>
  Option.bind (ixD some2 t5) fun r8 =>
  some (r8, boxhere6)
theorem ms_law_of {boxhere1 : D} {some2 : D} {r : D × D} (h : m_law_of boxhere1 some2 = some r) : f_law_of [.p boxhere1, .v some2] = some (r.1, [.p (r.2), .v some2]) := by
  unfold m_law_of at h
  refine mkFn_of (P := [.p boxhere1, .v some2]) rfl ⟨rfl, rfl, trivial⟩ ?_
  unfold b_law_of
  obtain ⟨t3, e4, h⟩ := bd h
  obtain ⟨t5, boxhere6, e7, h⟩ := bd2_e h
  obtain ⟨r8, e9, h⟩ := bd h
  refine WS.ret (XE.op2 (XE.var rfl) (XE.call (XA.sl rfl (XA.cons (XE.callV (XA.cons (XE.var rfl) XA.nil) rfl e4) XA.nil)) (show ([0] : List Nat).Nodup by decide) rfl (ms_law_take e7) rfl) e9) (fun ρ hρ => ?_)
  cases h; exact (by simp only [outF, DL.fin, hρ.getD (i := 0) rfl])
noncomputable def m_law_same_n : Nat → D → D → Option (D)
  | 0, _, _ => none
  | n + 1, found1, due2 =>
  Option.bind ((isiD2 "list" "tuple") due2) fun t3 =>
  Option.bind (asB t3) fun c5 =>
  if c5 = true then (Option.bind ((isiD "list") found1) fun t7 =>
  Option.bind ((isiD "list") due2) fun t9 =>
  Option.bind (neD t7 t9) fun t11 =>
  Option.bind (asB t11) fun c13 =>
  Option.bind (if c13 = true then (some true) else (Option.bind ((isiD "tuple") found1) fun t15 =>
  Option.bind ((isiD "tuple") due2) fun t17 =>
  Option.bind (neD t15 t17) fun t19 =>
  Option.bind (asB t19) fun c21 =>
  some c21)) fun c23 =>
  if c23 = true then (some (D.bl false)) else (Option.bind (lenF [found1]) fun t25 =>
  Option.bind (lenF [due2]) fun t27 =>
  Option.bind (eqD t25 t27) fun t29 =>
  Option.bind (asB t29) fun c31 =>
  Option.bind (if c31 = true then (Option.bind (zipA [.val found1, .val due2]) fun ds33 =>
  Option.bind (cmpP (fun d35 => bd2 (un2 d35) fun a36 b37 =>
  Option.bind (m_law_same_n n a36 b37) fun t39 =>
  some [t39]) ds33) fun t41 =>
  Option.bind (allF [(D.lst t41)]) fun t43 =>
  some t43) else (some (D.bl false))) fun r45 =>
  some r45)) else (Option.bind (isD due2 D.non) fun t47 =>
  Option.bind (asB t47) fun c49 =>
  Option.bind (if c49 = true then (some true) else (Option.bind ((isiD2 "bool" "str") due2) fun t51 =>
  Option.bind (asB t51) fun c53 =>
  some c53)) fun c55 =>
  if c55 = true then (Option.bind (eqD found1 due2) fun t57 =>
  Option.bind (asB t57) fun c59 =>
  Option.bind (if c59 = true then (Option.bind ((isiD "bool") found1) fun t61 =>
  Option.bind ((isiD "bool") due2) fun t63 =>
  Option.bind (eqD t61 t63) fun t65 =>
  Option.bind (asB t65) fun c67 =>
  Option.bind (if c67 = true then (Option.bind (isD found1 D.non) fun t69 =>
  Option.bind (isD due2 D.non) fun t71 =>
  Option.bind (eqD t69 t71) fun t73 =>
  some t73) else (some (D.bl false))) fun t75 =>
  some t75) else (some (D.bl false))) fun r77 =>
  some r77) else (Option.bind ((isiD "int") found1) fun t79 =>
  Option.bind (asB t79) fun c81 =>
  Option.bind (if c81 = true then (Option.bind ((isiD "bool") found1) fun t83 =>
  Option.bind (notD t83) fun t85 =>
  Option.bind (asB t85) fun c87 =>
  Option.bind (if c87 = true then (Option.bind (eqD found1 due2) fun t89 =>
  some t89) else (some (D.bl false))) fun t91 =>
  some t91) else (some (D.bl false))) fun r93 =>
  some r93))
noncomputable abbrev m_law_same := m_law_same_n 8
theorem ms_law_same_n : ∀ {n : Nat} {found1 : D} {due2 : D} {r : D}, m_law_same_n n found1 due2 = some r → f_law_same_n n [.v found1, .v due2] = some (r, [.v found1, .v due2])
  | 0, _, _, _, h => by cases h
  | n + 1, found1, due2, r, h => by
    have ih := fun {found1 due2} {r} => @ms_law_same_n n found1 due2 r
    unfold m_law_same_n at h
    unfold f_law_same_n
    refine mkFn_of (P := [.v found1, .v due2, .x, .x]) rfl ⟨rfl, rfl, trivial, trivial, trivial⟩ ?_
    unfold b_law_same
    obtain ⟨t3, e4, h⟩ := bd h
    obtain ⟨c5, e6, h⟩ := bd h
    refine WS.ifS (XT.bb (XE.op1 (XE.var rfl) e4) e6) (fun hc => ?_) (fun hc => ?_)
    · rw [if_pos hc] at h
      refine WS.assoc ?_
      obtain ⟨t7, e8, h⟩ := bd h
      obtain ⟨t9, e10, h⟩ := bd h
      obtain ⟨t11, e12, h⟩ := bd h
      obtain ⟨c13, e14, h⟩ := bd h
      obtain ⟨c23, e24, h⟩ := bd h
      refine WS.ifS (show XT [.v found1, .v due2, .x, .x] (tOr (tB (eOp2 neD (eOp1 (isiD "list") (eVar 0)) (eOp1 (isiD "list") (eVar 1)))) (tB (eOp2 neD (eOp1 (isiD "tuple") (eVar 0)) (eOp1 (isiD "tuple") (eVar 1))))) c23 [.v found1, .v due2, .x, .x] from (XT.or_ (XT.bb (XE.op2 (XE.op1 (XE.var rfl) e8) (XE.op1 (XE.var rfl) e10) e12) e14) (fun hc => by rw [if_pos hc] at e24; have q := Option.some.inj e24; subst q; exact ⟨rfl, rfl⟩) (fun hc => by rw [if_neg (Bool.eq_false_iff.mp hc)] at e24; obtain ⟨t15, e16, e24⟩ := bd e24; obtain ⟨t17, e18, e24⟩ := bd e24; obtain ⟨t19, e20, e24⟩ := bd e24; obtain ⟨c21, e22, e24⟩ := bd e24; have q := Option.some.inj e24; subst q; exact (XT.bb (XE.op2 (XE.op1 (XE.var rfl) e16) (XE.op1 (XE.var rfl) e18) e20) e22)))) (fun hc => ?_) (fun hc => ?_)
      · rw [if_pos hc] at h
        refine WS.retS XE.cst (fun ρ hρ => ?_)
        cases h; exact rfl
      · rw [if_neg (Bool.eq_false_iff.mp hc)] at h
        refine WS.skipS ?_
        obtain ⟨t25, e26, h⟩ := bd h
        obtain ⟨t27, e28, h⟩ := bd h
        obtain ⟨t29, e30, h⟩ := bd h
        obtain ⟨c31, e32, h⟩ := bd h
        obtain ⟨r45, e46, h⟩ := bd h
        refine WS.retS (show XE [.v found1, .v due2, .x, .x] (eAnd (eOp2 eqD (eCallV lenF (aCons (eVar 0) aNil)) (eCallV lenF (aCons (eVar 1) aNil))) (eCallV allF (aCons (eComp [2, 3] (iArg zipA (aCons (eVar 0) (aCons (eVar 1) aNil))) (gT (gCons (gV 2) (gCons (gV 3) gNil))) tTrue (eCall (f_law_same_n n) (aCons (eVar 2) (aCons (eVar 3) aNil)))) aNil))) r45 [.v found1, .v due2, .x, .x] from (XE.and_ (XE.op2 (XE.callV (XA.cons (XE.var rfl) XA.nil) rfl e26) (XE.callV (XA.cons (XE.var rfl) XA.nil) rfl e28) e30) e32 (fun hc => by rw [if_pos hc] at e46; obtain ⟨ds33, e34, e46⟩ := bd e46; obtain ⟨t41, e42, e46⟩ := bd e46; obtain ⟨t43, e44, e46⟩ := bd e46; have q := Option.some.inj e46; subst q; exact (XE.callV (XA.cons (XE.comp (P2 := [.v found1, .v due2, .x, .x]) (Pw := [.v found1, .v due2, .x, .x]) (XI.arg (XA.cons (XE.var rfl) (XA.cons (XE.var rfl) XA.nil)) e34) rfl e42 (by intro d35 z h; obtain ⟨a36, b37, e38, h⟩ := bd2_e h; obtain ⟨t39, e40, h⟩ := bd h; cases h; exact XC.one (XG.t (XGs.cons (XG.v rfl) (XGs.cons (XG.v rfl) XGs.nil)) (un2_e e38)) XT.tt (XE.call (XA.cons (XE.var rfl) (XA.cons (XE.var rfl) XA.nil)) (show ([] : List Nat).Nodup by decide) rfl (ih e40) rfl) rfl ⟨rfl, rfl, trivial, trivial, trivial⟩) rfl) XA.nil) rfl e44)) (fun hc => by rw [if_neg (Bool.eq_false_iff.mp hc)] at e46; have q := Option.some.inj e46; subst q; exact ⟨rfl, rfl⟩))) (fun ρ hρ => ?_)
        cases h; exact rfl
    · rw [if_neg (Bool.eq_false_iff.mp hc)] at h
      refine WS.skipS ?_
      obtain ⟨t47, e48, h⟩ := bd h
      obtain ⟨c49, e50, h⟩ := bd h
      obtain ⟨c55, e56, h⟩ := bd h
      refine WS.ifS (show XT [.v found1, .v due2, .x, .x] (tOr (tB (eOp2 isD (eVar 1) (eC .non))) (tB (eOp1 (isiD2 "bool" "str") (eVar 1)))) c55 [.v found1, .v due2, .x, .x] from (XT.or_ (XT.bb (XE.op2 (XE.var rfl) XE.cst e48) e50) (fun hc => by rw [if_pos hc] at e56; have q := Option.some.inj e56; subst q; exact ⟨rfl, rfl⟩) (fun hc => by rw [if_neg (Bool.eq_false_iff.mp hc)] at e56; obtain ⟨t51, e52, e56⟩ := bd e56; obtain ⟨c53, e54, e56⟩ := bd e56; have q := Option.some.inj e56; subst q; exact (XT.bb (XE.op1 (XE.var rfl) e52) e54)))) (fun hc => ?_) (fun hc => ?_)
      · rw [if_pos hc] at h
        obtain ⟨t57, e58, h⟩ := bd h
        obtain ⟨c59, e60, h⟩ := bd h
        obtain ⟨r77, e78, h⟩ := bd h
        refine WS.retS (show XE [.v found1, .v due2, .x, .x] (eAnd (eOp2 eqD (eVar 0) (eVar 1)) (eAnd (eOp2 eqD (eOp1 (isiD "bool") (eVar 0)) (eOp1 (isiD "bool") (eVar 1))) (eOp2 eqD (eOp2 isD (eVar 0) (eC .non)) (eOp2 isD (eVar 1) (eC .non))))) r77 [.v found1, .v due2, .x, .x] from (XE.and_ (XE.op2 (XE.var rfl) (XE.var rfl) e58) e60 (fun hc => by rw [if_pos hc] at e78; obtain ⟨t61, e62, e78⟩ := bd e78; obtain ⟨t63, e64, e78⟩ := bd e78; obtain ⟨t65, e66, e78⟩ := bd e78; obtain ⟨c67, e68, e78⟩ := bd e78; obtain ⟨t75, e76, e78⟩ := bd e78; have q := Option.some.inj e78; subst q; exact (show XE [.v found1, .v due2, .x, .x] (eAnd (eOp2 eqD (eOp1 (isiD "bool") (eVar 0)) (eOp1 (isiD "bool") (eVar 1))) (eOp2 eqD (eOp2 isD (eVar 0) (eC .non)) (eOp2 isD (eVar 1) (eC .non)))) t75 [.v found1, .v due2, .x, .x] from (XE.and_ (XE.op2 (XE.op1 (XE.var rfl) e62) (XE.op1 (XE.var rfl) e64) e66) e68 (fun hc => by rw [if_pos hc] at e76; obtain ⟨t69, e70, e76⟩ := bd e76; obtain ⟨t71, e72, e76⟩ := bd e76; obtain ⟨t73, e74, e76⟩ := bd e76; have q := Option.some.inj e76; subst q; exact (XE.op2 (XE.op2 (XE.var rfl) XE.cst e70) (XE.op2 (XE.var rfl) XE.cst e72) e74)) (fun hc => by rw [if_neg (Bool.eq_false_iff.mp hc)] at e76; have q := Option.some.inj e76; subst q; exact ⟨rfl, rfl⟩)))) (fun hc => by rw [if_neg (Bool.eq_false_iff.mp hc)] at e78; have q := Option.some.inj e78; subst q; exact ⟨rfl, rfl⟩))) (fun ρ hρ => ?_)
        cases h; exact rfl
      · rw [if_neg (Bool.eq_false_iff.mp hc)] at h
        refine WS.skipS ?_
        obtain ⟨t79, e80, h⟩ := bd h
        obtain ⟨c81, e82, h⟩ := bd h
        obtain ⟨r93, e94, h⟩ := bd h
        refine WS.ret (show XE [.v found1, .v due2, .x, .x] (eAnd (eOp1 (isiD "int") (eVar 0)) (eAnd (eNot (eOp1 (isiD "bool") (eVar 0))) (eOp2 eqD (eVar 0) (eVar 1)))) r93 [.v found1, .v due2, .x, .x] from (XE.and_ (XE.op1 (XE.var rfl) e80) e82 (fun hc => by rw [if_pos hc] at e94; obtain ⟨t83, e84, e94⟩ := bd e94; obtain ⟨t85, e86, e94⟩ := bd e94; obtain ⟨c87, e88, e94⟩ := bd e94; obtain ⟨t91, e92, e94⟩ := bd e94; have q := Option.some.inj e94; subst q; exact (show XE [.v found1, .v due2, .x, .x] (eAnd (eNot (eOp1 (isiD "bool") (eVar 0))) (eOp2 eqD (eVar 0) (eVar 1))) t91 [.v found1, .v due2, .x, .x] from (XE.and_ (XE.not (XE.op1 (XE.var rfl) e84) e86) e88 (fun hc => by rw [if_pos hc] at e92; obtain ⟨t89, e90, e92⟩ := bd e92; have q := Option.some.inj e92; subst q; exact (XE.op2 (XE.var rfl) (XE.var rfl) e90)) (fun hc => by rw [if_neg (Bool.eq_false_iff.mp hc)] at e92; have q := Option.some.inj e92; subst q; exact ⟨rfl, rfl⟩)))) (fun hc => by rw [if_neg (Bool.eq_false_iff.mp hc)] at e94; have q := Option.some.inj e94; subst q; exact ⟨rfl, rfl⟩))) (fun ρ hρ => ?_)
        cases h; exact rfl
theorem ms_law_same {found1 : D} {due2 : D} {r : D} (h : m_law_same found1 due2 = some r) : f_law_same [.v found1, .v due2] = some (r, [.v found1, .v due2]) := ms_law_same_n h
noncomputable def m_law_sea (boxhere1 : D) (most2 : D) : Option (D × D) :=
  bd2 (m_law_take boxhere1 most2) fun t3 boxhere4 =>
  Option.bind (addD (D.int 1) t3) fun t6 =>
  Option.bind (powD (D.int 10) (D.int 12)) fun t8 =>
  Option.bind (subD t8 (D.int 200)) fun t10 =>
  Option.bind (powD (D.int 10) (D.int 6)) fun t12 =>
  bd2 (m_law_take boxhere4 t12) fun t14 boxhere15 =>
  Option.bind (subD t10 t14) fun t17 =>
  Option.bind (mkLst [(D.int 0), (D.int 0), (D.int 0), t17]) fun t19 =>
  bd2 (m_law_of boxhere15 t19) fun t21 boxhere22 =>
  Option.bind (mkTup [t6, t21]) fun r24 =>
  bd2 (un2 r24) fun count26 far27 =>
  Option.bind (addD count26 (D.int 2)) fun t29 =>
  Option.bind (mulI (D.int 2) count26) fun t31 =>
  Option.bind (addD t31 (D.int 2)) fun t33 =>
  Option.bind (mkLst [(D.int 2), t29, t33]) fun t35 =>
  bd2 (m_law_of boxhere22 t35) fun wide37 boxhere38 =>
  Option.bind (rng1 [.val (D.int 2)]) fun ds40 =>
  bd2 (cmpS (fun d42 => fun boxhere43 => Option.bind (addD count26 (D.int 2)) fun t44 =>
  bd2 (m_law_take boxhere43 t44) fun t46 boxhere47 =>
  bd2 (m_law_take boxhere47 (D.int 2)) fun t49 boxhere50 =>
  Option.bind (mulI t46 t49) fun t52 =>
  Option.bind (addD far27 t52) fun t54 =>
  some ([t54], boxhere50)) ds40 boxhere38) fun depths57 boxhere58 =>
  Option.bind (rng1 [.val count26]) fun ds60 =>
  bd2 (cmpS (fun d62 => fun boxhere63 => bd2 (m_law_take boxhere63 wide37) fun t64 boxhere65 =>
  Option.bind (addD far27 t64) fun t67 =>
  some ([t67], boxhere65)) ds60 boxhere58) fun draughts70 boxhere71 =>
  bd2 (m_law_take boxhere71 (D.int 4)) fun t73 boxhere74 =>
  Option.bind (eqD t73 (D.int 0)) fun t76 =>
  Option.bind (asB t76) fun c78 =>
  bd2 (if c78 = true then (Option.bind (rng1 [.val count26]) fun ds103 =>
  bd2 (cmpS (fun d105 => fun boxhere106 => bd2 (m_law_take boxhere106 (D.int 2)) fun t107 boxhere108 =>
  Option.bind (eqD t107 (D.int 0)) fun t110 =>
  Option.bind (asB t110) fun c112 =>
  Option.bind (if c112 = true then (Option.bind (ixD (D.lst draughts70) d105) fun t114 =>
  some t114) else (Option.bind (ixD (D.lst draughts70) (D.int 0)) fun t116 =>
  some t116)) fun t118 =>
  some ([t118], boxhere108)) ds103 boxhere74) fun draughts121 boxhere122 =>
  some (boxhere122, (D.lst draughts121))) else (some (boxhere74, (D.lst draughts70)))) fun boxhere101 draughts102 =>
  Option.bind (ixD (D.lst depths57) (D.int 0)) fun t125 =>
  Option.bind (ixD (D.lst depths57) (D.int 1)) fun t127 =>
  Option.bind (tupF [draughts102]) fun t129 =>
  Option.bind (mkTup [t125, t127, t129]) fun r131 =>
  some (r131, boxhere101)
theorem ms_law_sea {boxhere1 : D} {most2 : D} {r : D × D} (h : m_law_sea boxhere1 most2 = some r) : f_law_sea [.p boxhere1, .v most2] = some (r.1, [.p (r.2), .v most2]) := by
  unfold m_law_sea at h
  refine mkFn_of (P := [.p boxhere1, .v most2, .x, .x, .x, .x, .x, .x, .x]) rfl ⟨rfl, rfl, trivial, trivial, trivial, trivial, trivial, trivial, trivial, trivial⟩ ?_
  unfold b_law_sea
  obtain ⟨t3, boxhere4, e5, h⟩ := bd2_e h
  obtain ⟨t6, e7, h⟩ := bd h
  obtain ⟨t8, e9, h⟩ := bd h
  obtain ⟨t10, e11, h⟩ := bd h
  obtain ⟨t12, e13, h⟩ := bd h
  obtain ⟨t14, boxhere15, e16, h⟩ := bd2_e h
  obtain ⟨t17, e18, h⟩ := bd h
  obtain ⟨t19, e20, h⟩ := bd h
  obtain ⟨t21, boxhere22, e23, h⟩ := bd2_e h
  obtain ⟨r24, e25, h⟩ := bd h
  obtain ⟨count26, far27, e28, h⟩ := bd2_e h
  refine WS.seq (P1 := [.p boxhere22, .v most2, .v count26, .v far27, .x, .x, .x, .x, .x]) (WS.asg (XE.callV (XA.cons (XE.op2 XE.cst (XE.call (XA.sl rfl (XA.cons (XE.var rfl) XA.nil)) (show ([0] : List Nat).Nodup by decide) rfl (ms_law_take e5) rfl) e7) (XA.cons (XE.call (XA.sl rfl (XA.cons (XE.callV (XA.cons XE.cst (XA.cons XE.cst (XA.cons XE.cst (XA.cons (XE.op2 (XE.op2 (XE.op2 XE.cst XE.cst e9) XE.cst e11) (XE.call (XA.sl rfl (XA.cons (XE.op2 XE.cst XE.cst e13) XA.nil)) (show ([0] : List Nat).Nodup by decide) rfl (ms_law_take e16) rfl) e18) XA.nil)))) rfl e20) XA.nil)) (show ([0] : List Nat).Nodup by decide) rfl (ms_law_of e23) rfl) XA.nil)) rfl e25) (XG.t (XGs.cons (XG.v rfl) (XGs.cons (XG.v rfl) XGs.nil)) (un2_e e28))) ?_
  obtain ⟨t29, e30, h⟩ := bd h
  obtain ⟨t31, e32, h⟩ := bd h
  obtain ⟨t33, e34, h⟩ := bd h
  obtain ⟨t35, e36, h⟩ := bd h
  obtain ⟨wide37, boxhere38, e39, h⟩ := bd2_e h
  refine WS.seq (P1 := [.p boxhere38, .v most2, .v count26, .v far27, .v wide37, .x, .x, .x, .x]) (WS.set (XE.call (XA.sl rfl (XA.cons (XE.callV (XA.cons XE.cst (XA.cons (XE.op2 (XE.var rfl) XE.cst e30) (XA.cons (XE.op2 (XE.op2 XE.cst (XE.var rfl) e32) XE.cst e34) XA.nil))) rfl e36) XA.nil)) (show ([0] : List Nat).Nodup by decide) rfl (ms_law_of e39) rfl) rfl) ?_
  obtain ⟨ds40, e41, h⟩ := bd h
  obtain ⟨depths57, boxhere58, e59, h⟩ := bd2_e h
  refine WS.seq (P1 := [.p boxhere58, .v most2, .v count26, .v far27, .v wide37, .v (D.lst depths57), .x, .x, .x]) (WS.set (XE.compS (P2 := [.p boxhere58, .v most2, .v count26, .v far27, .v wide37, .x, .x, .x, .x]) (Pw := [.p boxhere38, .v most2, .v count26, .v far27, .v wide37, .x, .x, .x, .x]) (t0 := boxhere38) (t1 := boxhere58) (XI.arg (XA.cons XE.cst XA.nil) e41) rfl (fun s : D => [.p (s), .v most2, .v count26, .v far27, .v wide37, .x, .x, .x, .x]) ⟨rfl, rfl, rfl, rfl, rfl, trivial, trivial, trivial, trivial, trivial⟩ e59 (by rintro d42 boxhere43 z boxhere56 h; show XC [.p boxhere43, .v most2, .v count26, .v far27, .v wide37, .x, .x, .x, .x] _ _ _ _ _ _ [.p boxhere56, .v most2, .v count26, .v far27, .v wide37, .x, .x, .x, .x]; obtain ⟨t44, e45, h⟩ := bd h; obtain ⟨t46, boxhere47, e48, h⟩ := bd2_e h; obtain ⟨t49, boxhere50, e51, h⟩ := bd2_e h; obtain ⟨t52, e53, h⟩ := bd h; obtain ⟨t54, e55, h⟩ := bd h; obtain ⟨qa0, qb0⟩ := Prod.mk.inj (Option.some.inj h); subst qa0; subst qb0; exact XC.one (XG.v rfl) XT.tt (XE.op2 (XE.var rfl) (XE.op2 (XE.call (XA.sl rfl (XA.cons (XE.op2 (XE.var rfl) XE.cst e45) XA.nil)) (show ([0] : List Nat).Nodup by decide) rfl (ms_law_take e48) rfl) (XE.call (XA.sl rfl (XA.cons XE.cst XA.nil)) (show ([0] : List Nat).Nodup by decide) rfl (ms_law_take e51) rfl) e53) e55) rfl ⟨rfl, rfl, rfl, rfl, rfl, trivial, trivial, trivial, trivial, trivial⟩) rfl) rfl) ?_
  obtain ⟨ds60, e61, h⟩ := bd h
  obtain ⟨draughts70, boxhere71, e72, h⟩ := bd2_e h
  refine WS.seq (P1 := [.p boxhere71, .v most2, .v count26, .v far27, .v wide37, .v (D.lst depths57), .v (D.lst draughts70), .x, .x]) (WS.set (XE.compS (P2 := [.p boxhere71, .v most2, .v count26, .v far27, .v wide37, .v (D.lst depths57), .x, .x, .x]) (Pw := [.p boxhere58, .v most2, .v count26, .v far27, .v wide37, .v (D.lst depths57), .x, .x, .x]) (t0 := boxhere58) (t1 := boxhere71) (XI.arg (XA.cons (XE.var rfl) XA.nil) e61) rfl (fun s : D => [.p (s), .v most2, .v count26, .v far27, .v wide37, .v (D.lst depths57), .x, .x, .x]) ⟨rfl, rfl, rfl, rfl, rfl, rfl, trivial, trivial, trivial, trivial⟩ e72 (by rintro d62 boxhere63 z boxhere69 h; show XC [.p boxhere63, .v most2, .v count26, .v far27, .v wide37, .v (D.lst depths57), .x, .x, .x] _ _ _ _ _ _ [.p boxhere69, .v most2, .v count26, .v far27, .v wide37, .v (D.lst depths57), .x, .x, .x]; obtain ⟨t64, boxhere65, e66, h⟩ := bd2_e h; obtain ⟨t67, e68, h⟩ := bd h; obtain ⟨qa0, qb0⟩ := Prod.mk.inj (Option.some.inj h); subst qa0; subst qb0; exact XC.one (XG.v rfl) XT.tt (XE.op2 (XE.var rfl) (XE.call (XA.sl rfl (XA.cons (XE.var rfl) XA.nil)) (show ([0] : List Nat).Nodup by decide) rfl (ms_law_take e66) rfl) e68) rfl ⟨rfl, rfl, rfl, rfl, rfl, rfl, trivial, trivial, trivial, trivial⟩) rfl) rfl) ?_
  obtain ⟨t73, boxhere74, e75, h⟩ := bd2_e h
  obtain ⟨t76, e77, h⟩ := bd h
  obtain ⟨c78, e79, h⟩ := bd h
  obtain ⟨boxhere101, draughts102, e124, h⟩ := bd2_e h
  refine WS.seq (P1 := [.p boxhere101, .v most2, .v count26, .v far27, .v wide37, .v (D.lst depths57), .v draughts102, .x, .x]) (WS.if_ (XT.bb (XE.op2 (XE.call (XA.sl rfl (XA.cons XE.cst XA.nil)) (show ([0] : List Nat).Nodup by decide) rfl (ms_law_take e75) rfl) XE.cst e77) e79) (fun hc => ?_) (fun hc => ?_)) ?_
  · have h := e124
    clear e124
    rw [if_pos hc] at h
    obtain ⟨ds103, e104, h⟩ := bd h
    obtain ⟨draughts121, boxhere122, e123, h⟩ := bd2_e h
    refine WS.tail ?_
    refine WS.seq (P1 := [.p boxhere122, .v most2, .v count26, .v far27, .v wide37, .v (D.lst depths57), .v (D.lst draughts121), .x, .x]) (WS.set (XE.compS (P2 := [.p boxhere122, .v most2, .v count26, .v far27, .v wide37, .v (D.lst depths57), .v (D.lst draughts70), .x, .x]) (Pw := [.p boxhere74, .v most2, .v count26, .v far27, .v wide37, .v (D.lst depths57), .v (D.lst draughts70), .x, .x]) (t0 := boxhere74) (t1 := boxhere122) (XI.arg (XA.cons (XE.var rfl) XA.nil) e104) rfl (fun s : D => [.p (s), .v most2, .v count26, .v far27, .v wide37, .v (D.lst depths57), .v (D.lst draughts70), .x, .x]) ⟨rfl, rfl, rfl, rfl, rfl, rfl, rfl, trivial, trivial, trivial⟩ e123 (by rintro d105 boxhere106 z boxhere120 h; show XC [.p boxhere106, .v most2, .v count26, .v far27, .v wide37, .v (D.lst depths57), .v (D.lst draughts70), .x, .x] _ _ _ _ _ _ [.p boxhere120, .v most2, .v count26, .v far27, .v wide37, .v (D.lst depths57), .v (D.lst draughts70), .x, .x]; obtain ⟨t107, boxhere108, e109, h⟩ := bd2_e h; obtain ⟨t110, e111, h⟩ := bd h; obtain ⟨c112, e113, h⟩ := bd h; obtain ⟨t118, e119, h⟩ := bd h; obtain ⟨qa0, qb0⟩ := Prod.mk.inj (Option.some.inj h); subst qa0; subst qb0; exact XC.one (XG.v rfl) XT.tt (show XE [.p boxhere106, .v most2, .v count26, .v far27, .v wide37, .v (D.lst depths57), .v (D.lst draughts70), .x, .v d105] (eIf (tB (eOp2 eqD (eCall f_law_take (aSl 0 (aCons (eC (.int 2)) aNil))) (eC (.int 0)))) (eOp2 ixD (eVar 6) (eVar 8)) (eOp2 ixD (eVar 6) (eC (.int 0)))) t118 [.p boxhere108, .v most2, .v count26, .v far27, .v wide37, .v (D.lst depths57), .v (D.lst draughts70), .x, .v d105] from (XE.if_ (XT.bb (XE.op2 (XE.call (XA.sl rfl (XA.cons XE.cst XA.nil)) (show ([0] : List Nat).Nodup by decide) rfl (ms_law_take e109) rfl) XE.cst e111) e113) (fun hc => by rw [if_pos hc] at e119; obtain ⟨t114, e115, e119⟩ := bd e119; have q := Option.some.inj e119; subst q; exact (XE.op2 (XE.var rfl) (XE.var rfl) e115)) (fun hc => by rw [if_neg (Bool.eq_false_iff.mp hc)] at e119; obtain ⟨t116, e117, e119⟩ := bd e119; have q := Option.some.inj e119; subst q; exact (XE.op2 (XE.var rfl) XE.cst e117)))) rfl ⟨rfl, rfl, rfl, rfl, rfl, rfl, rfl, trivial, trivial, trivial⟩) rfl) rfl) ?_
    refine WS.skip (fun ρ hρ => ?_)
    cases h
    exact ⟨ρ, rfl, hρ.wk ⟨rfl, rfl, rfl, rfl, rfl, rfl, rfl, trivial, trivial, trivial⟩⟩
  · have h := e124
    rw [if_neg (Bool.eq_false_iff.mp hc)] at h
    refine WS.skip (fun ρ hρ => ?_)
    cases h
    exact ⟨ρ, rfl, hρ.wk ⟨rfl, rfl, rfl, rfl, rfl, rfl, rfl, trivial, trivial, trivial⟩⟩
  obtain ⟨t125, e126, h⟩ := bd h
  obtain ⟨t127, e128, h⟩ := bd h
  obtain ⟨t129, e130, h⟩ := bd h
  obtain ⟨r131, e132, h⟩ := bd h
  refine WS.ret (XE.callV (XA.cons (XE.op2 (XE.var rfl) XE.cst e126) (XA.cons (XE.op2 (XE.var rfl) XE.cst e128) (XA.cons (XE.callV (XA.cons (XE.var rfl) XA.nil) rfl e130) XA.nil))) rfl e132) (fun ρ hρ => ?_)
  cases h; exact (by simp only [outF, DL.fin, hρ.getD (i := 0) rfl])
noncomputable def m_law_lot (boxhere1 : D) (count2 : D) : Option (D × D) :=
  Option.bind (mkLst [(D.int 1), (D.int 2), (D.int 2), (D.int 3), (D.int 4)]) fun t3 =>
  bd2 (m_law_of boxhere1 t3) fun odds5 boxhere6 =>
  bd2 (m_law_take boxhere6 (D.int 8)) fun t8 boxhere9 =>
  Option.bind (eqD t8 (D.int 0)) fun t11 =>
  Option.bind (asB t11) fun c13 =>
  if c13 = true then (bd2 (m_law_take boxhere9 (D.int 2)) fun t15 boxhere16 =>
  Option.bind (eqD t15 (D.int 0)) fun t18 =>
  Option.bind (asB t18) fun c20 =>
  Option.bind (if c20 = true then (Option.bind (trgF [count2]) fun t22 =>
  some t22) else (Option.bind (mkTup []) fun t24 =>
  some t24)) fun r26 =>
  some (r26, boxhere16)) else (Option.bind (rng1 [.val count2]) fun ds28 =>
  bd2 (cmpS (fun d30 => fun boxhere31 => bd2 (m_law_take boxhere31 odds5) fun t32 boxhere33 =>
  Option.bind (eqD t32 (D.int 0)) fun t35 =>
  Option.bind (asB t35) fun c37 =>
  if c37 = true then (some ([d30], boxhere33)) else some ([], boxhere33)) ds28 boxhere9) fun t40 boxhere41 =>
  Option.bind (tupF [(D.lst t40)]) fun r43 =>
  some (r43, boxhere41))
theorem ms_law_lot {boxhere1 : D} {count2 : D} {r : D × D} (h : m_law_lot boxhere1 count2 = some r) : f_law_lot [.p boxhere1, .v count2] = some (r.1, [.p (r.2), .v count2]) := by
  unfold m_law_lot at h
  refine mkFn_of (P := [.p boxhere1, .v count2, .x, .x]) rfl ⟨rfl, rfl, trivial, trivial, trivial⟩ ?_
  unfold b_law_lot
  obtain ⟨t3, e4, h⟩ := bd h
  obtain ⟨odds5, boxhere6, e7, h⟩ := bd2_e h
  refine WS.seq (P1 := [.p boxhere6, .v count2, .v odds5, .x]) (WS.set (XE.call (XA.sl rfl (XA.cons (XE.callV (XA.cons XE.cst (XA.cons XE.cst (XA.cons XE.cst (XA.cons XE.cst (XA.cons XE.cst XA.nil))))) rfl e4) XA.nil)) (show ([0] : List Nat).Nodup by decide) rfl (ms_law_of e7) rfl) rfl) ?_
  obtain ⟨t8, boxhere9, e10, h⟩ := bd2_e h
  obtain ⟨t11, e12, h⟩ := bd h
  obtain ⟨c13, e14, h⟩ := bd h
  refine WS.ifS (XT.bb (XE.op2 (XE.call (XA.sl rfl (XA.cons XE.cst XA.nil)) (show ([0] : List Nat).Nodup by decide) rfl (ms_law_take e10) rfl) XE.cst e12) e14) (fun hc => ?_) (fun hc => ?_)
  · rw [if_pos hc] at h
    obtain ⟨t15, boxhere16, e17, h⟩ := bd2_e h
    obtain ⟨t18, e19, h⟩ := bd h
    obtain ⟨c20, e21, h⟩ := bd h
    obtain ⟨r26, e27, h⟩ := bd h
    refine WS.retS (show XE [.p boxhere9, .v count2, .v odds5, .x] (eIf (tB (eOp2 eqD (eCall f_law_take (aSl 0 (aCons (eC (.int 2)) aNil))) (eC (.int 0)))) (eCallV trgF (aCons (eVar 1) aNil)) (eCallV mkTup aNil)) r26 [.p boxhere16, .v count2, .v odds5, .x] from (XE.if_ (XT.bb (XE.op2 (XE.call (XA.sl rfl (XA.cons XE.cst XA.nil)) (show ([0] : List Nat).Nodup by decide) rfl (ms_law_take e17) rfl) XE.cst e19) e21) (fun hc => by rw [if_pos hc] at e27; obtain ⟨t22, e23, e27⟩ := bd e27; have q := Option.some.inj e27; subst q; exact (XE.callV (XA.cons (XE.var rfl) XA.nil) rfl e23)) (fun hc => by rw [if_neg (Bool.eq_false_iff.mp hc)] at e27; obtain ⟨t24, e25, e27⟩ := bd e27; have q := Option.some.inj e27; subst q; exact (XE.callV XA.nil rfl e25)))) (fun ρ hρ => ?_)
    cases h; exact (by simp only [outF, DL.fin, hρ.getD (i := 0) rfl])
  · rw [if_neg (Bool.eq_false_iff.mp hc)] at h
    refine WS.skipS ?_
    obtain ⟨ds28, e29, h⟩ := bd h
    obtain ⟨t40, boxhere41, e42, h⟩ := bd2_e h
    obtain ⟨r43, e44, h⟩ := bd h
    refine WS.ret (XE.callV (XA.cons (XE.compS (P2 := [.p boxhere41, .v count2, .v odds5, .x]) (Pw := [.p boxhere9, .v count2, .v odds5, .x]) (t0 := boxhere9) (t1 := boxhere41) (XI.arg (XA.cons (XE.var rfl) XA.nil) e29) rfl (fun s : D => [.p (s), .v count2, .v odds5, .x]) ⟨rfl, rfl, rfl, trivial, trivial⟩ e42 (by rintro d30 boxhere31 z boxhere39 h; show XC [.p boxhere31, .v count2, .v odds5, .x] _ _ _ _ _ _ [.p boxhere39, .v count2, .v odds5, .x]; obtain ⟨t32, boxhere33, e34, h⟩ := bd2_e h; obtain ⟨t35, e36, h⟩ := bd h; obtain ⟨c37, e38, h⟩ := bd h; exact XC.if_ (XG.v rfl) (XT.bb (XE.op2 (XE.call (XA.sl rfl (XA.cons (XE.var rfl) XA.nil)) (show ([0] : List Nat).Nodup by decide) rfl (ms_law_take e34) rfl) XE.cst e36) e38) (fun hc => by rw [if_pos hc] at h; obtain ⟨qa0, qb0⟩ := Prod.mk.inj (Option.some.inj h); subst qa0; subst qb0; exact ⟨_, _, _, (XE.var rfl), rfl, ⟨rfl, rfl, rfl, trivial, trivial⟩, rfl⟩) (fun hc => by rw [if_neg (Bool.eq_false_iff.mp hc)] at h; obtain ⟨qa0, qb0⟩ := Prod.mk.inj (Option.some.inj h); subst qa0; subst qb0; exact ⟨_, rfl, ⟨rfl, rfl, rfl, trivial, trivial⟩, rfl⟩)) rfl) XA.nil) rfl e44) (fun ρ hρ => ?_)
    cases h; exact (by simp only [outF, DL.fin, hρ.getD (i := 0) rfl])
noncomputable def m_law_is_count (part1 : D) : Option (D) :=
  Option.bind ((isiD "int") part1) fun t2 =>
  Option.bind (asB t2) fun c4 =>
  Option.bind (if c4 = true then (Option.bind ((isiD "bool") part1) fun t6 =>
  Option.bind (notD t6) fun t8 =>
  Option.bind (asB t8) fun c10 =>
  Option.bind (if c10 = true then (Option.bind (geD part1 (D.int 0)) fun t12 =>
  some t12) else (some (D.bl false))) fun t14 =>
  some t14) else (some (D.bl false))) fun r16 =>
  some r16
theorem ms_law_is_count {part1 : D} {r : D} (h : m_law_is_count part1 = some r) : f_law_is_count [.v part1] = some (r, [.v part1]) := by
  unfold m_law_is_count at h
  refine mkFn_of (P := [.v part1]) rfl ⟨rfl, trivial⟩ ?_
  unfold b_law_is_count
  obtain ⟨t2, e3, h⟩ := bd h
  obtain ⟨c4, e5, h⟩ := bd h
  obtain ⟨r16, e17, h⟩ := bd h
  refine WS.ret (show XE [.v part1] (eAnd (eOp1 (isiD "int") (eVar 0)) (eAnd (eNot (eOp1 (isiD "bool") (eVar 0))) (eOp2 geD (eVar 0) (eC (.int 0))))) r16 [.v part1] from (XE.and_ (XE.op1 (XE.var rfl) e3) e5 (fun hc => by rw [if_pos hc] at e17; obtain ⟨t6, e7, e17⟩ := bd e17; obtain ⟨t8, e9, e17⟩ := bd e17; obtain ⟨c10, e11, e17⟩ := bd e17; obtain ⟨t14, e15, e17⟩ := bd e17; have q := Option.some.inj e17; subst q; exact (show XE [.v part1] (eAnd (eNot (eOp1 (isiD "bool") (eVar 0))) (eOp2 geD (eVar 0) (eC (.int 0)))) t14 [.v part1] from (XE.and_ (XE.not (XE.op1 (XE.var rfl) e7) e9) e11 (fun hc => by rw [if_pos hc] at e15; obtain ⟨t12, e13, e15⟩ := bd e15; have q := Option.some.inj e15; subst q; exact (XE.op2 (XE.var rfl) XE.cst e13)) (fun hc => by rw [if_neg (Bool.eq_false_iff.mp hc)] at e15; have q := Option.some.inj e15; subst q; exact ⟨rfl, rfl⟩)))) (fun hc => by rw [if_neg (Bool.eq_false_iff.mp hc)] at e17; have q := Option.some.inj e17; subst q; exact ⟨rfl, rfl⟩))) (fun ρ hρ => ?_)
  cases h; exact rfl
noncomputable def m_law_sea_due (matter1 : D) : Option (D) :=
  Option.bind ((isiD "tuple") matter1) fun t2 =>
  Option.bind (asB t2) fun c4 =>
  Option.bind (if (!c4) = true then (some true) else (Option.bind (lenF [matter1]) fun t6 =>
  Option.bind (neD t6 (D.int 3)) fun t8 =>
  Option.bind (asB t8) fun c10 =>
  Option.bind (if c10 = true then (some true) else (Option.bind (ixD matter1 (D.int 2)) fun t12 =>
  Option.bind ((isiD "tuple") t12) fun t14 =>
  Option.bind (asB t14) fun c16 =>
  Option.bind (if (!c16) = true then (some true) else (Option.bind (ixD matter1 (D.int 2)) fun t18 =>
  Option.bind (mkTup []) fun t20 =>
  Option.bind (eqD t18 t20) fun t22 =>
  Option.bind (asB t22) fun c24 =>
  some c24)) fun c26 =>
  some c26)) fun c28 =>
  some c28)) fun c30 =>
  if c30 = true then (some (D.bl false)) else (Option.bind (asI (D.int 2)) fun i32 =>
  Option.bind (sliceD matter1 none (some i32)) fun t34 =>
  Option.bind (listF [t34]) fun t36 =>
  Option.bind (ixD matter1 (D.int 2)) fun t38 =>
  Option.bind (listF [t38]) fun t40 =>
  Option.bind (addD t36 t40) fun t42 =>
  Option.bind (unL t42) fun ds44 =>
  Option.bind (cmpP (fun d46 => Option.bind (m_law_is_count d46) fun t47 =>
  some [t47]) ds44) fun t49 =>
  Option.bind (allF [(D.lst t49)]) fun r51 =>
  some r51)
theorem ms_law_sea_due {matter1 : D} {r : D} (h : m_law_sea_due matter1 = some r) : f_law_sea_due [.v matter1] = some (r, [.v matter1]) := by
  unfold m_law_sea_due at h
  refine mkFn_of (P := [.v matter1, .x]) rfl ⟨rfl, trivial, trivial⟩ ?_
  unfold b_law_sea_due
  obtain ⟨t2, e3, h⟩ := bd h
  obtain ⟨c4, e5, h⟩ := bd h
  obtain ⟨c30, e31, h⟩ := bd h
  refine WS.ifS (show XT [.v matter1, .x] (tOr (tNot (tB (eOp1 (isiD "tuple") (eVar 0)))) (tOr (tB (eOp2 neD (eCallV lenF (aCons (eVar 0) aNil)) (eC (.int 3)))) (tOr (tNot (tB (eOp1 (isiD "tuple") (eOp2 ixD (eVar 0) (eC (.int 2)))))) (tB (eOp2 eqD (eOp2 ixD (eVar 0) (eC (.int 2))) (eCallV mkTup aNil)))))) c30 [.v matter1, .x] from (XT.or_ (XT.not (XT.bb (XE.op1 (XE.var rfl) e3) e5)) (fun hc => by rw [if_pos hc] at e31; have q := Option.some.inj e31; subst q; exact ⟨rfl, rfl⟩) (fun hc => by rw [if_neg (Bool.eq_false_iff.mp hc)] at e31; obtain ⟨t6, e7, e31⟩ := bd e31; obtain ⟨t8, e9, e31⟩ := bd e31; obtain ⟨c10, e11, e31⟩ := bd e31; obtain ⟨c28, e29, e31⟩ := bd e31; have q := Option.some.inj e31; subst q; exact (show XT [.v matter1, .x] (tOr (tB (eOp2 neD (eCallV lenF (aCons (eVar 0) aNil)) (eC (.int 3)))) (tOr (tNot (tB (eOp1 (isiD "tuple") (eOp2 ixD (eVar 0) (eC (.int 2)))))) (tB (eOp2 eqD (eOp2 ixD (eVar 0) (eC (.int 2))) (eCallV mkTup aNil))))) c28 [.v matter1, .x] from (XT.or_ (XT.bb (XE.op2 (XE.callV (XA.cons (XE.var rfl) XA.nil) rfl e7) XE.cst e9) e11) (fun hc => by rw [if_pos hc] at e29; have q := Option.some.inj e29; subst q; exact ⟨rfl, rfl⟩) (fun hc => by rw [if_neg (Bool.eq_false_iff.mp hc)] at e29; obtain ⟨t12, e13, e29⟩ := bd e29; obtain ⟨t14, e15, e29⟩ := bd e29; obtain ⟨c16, e17, e29⟩ := bd e29; obtain ⟨c26, e27, e29⟩ := bd e29; have q := Option.some.inj e29; subst q; exact (show XT [.v matter1, .x] (tOr (tNot (tB (eOp1 (isiD "tuple") (eOp2 ixD (eVar 0) (eC (.int 2)))))) (tB (eOp2 eqD (eOp2 ixD (eVar 0) (eC (.int 2))) (eCallV mkTup aNil)))) c26 [.v matter1, .x] from (XT.or_ (XT.not (XT.bb (XE.op1 (XE.op2 (XE.var rfl) XE.cst e13) e15) e17)) (fun hc => by rw [if_pos hc] at e27; have q := Option.some.inj e27; subst q; exact ⟨rfl, rfl⟩) (fun hc => by rw [if_neg (Bool.eq_false_iff.mp hc)] at e27; obtain ⟨t18, e19, e27⟩ := bd e27; obtain ⟨t20, e21, e27⟩ := bd e27; obtain ⟨t22, e23, e27⟩ := bd e27; obtain ⟨c24, e25, e27⟩ := bd e27; have q := Option.some.inj e27; subst q; exact (XT.bb (XE.op2 (XE.op2 (XE.var rfl) XE.cst e19) (XE.callV XA.nil rfl e21) e23) e25)))))))))) (fun hc => ?_) (fun hc => ?_)
  · rw [if_pos hc] at h
    refine WS.retS XE.cst (fun ρ hρ => ?_)
    cases h; exact rfl
  · rw [if_neg (Bool.eq_false_iff.mp hc)] at h
    refine WS.skipS ?_
    obtain ⟨i32, e33, h⟩ := bd h
    obtain ⟨t34, e35, h⟩ := bd h
    obtain ⟨t36, e37, h⟩ := bd h
    obtain ⟨t38, e39, h⟩ := bd h
    obtain ⟨t40, e41, h⟩ := bd h
    obtain ⟨t42, e43, h⟩ := bd h
    obtain ⟨ds44, e45, h⟩ := bd h
    obtain ⟨t49, e50, h⟩ := bd h
    obtain ⟨r51, e52, h⟩ := bd h
    refine WS.ret (XE.callV (XA.cons (XE.comp (P2 := [.v matter1, .x]) (Pw := [.v matter1, .x]) (XI.seq (XE.op2 (XE.callV (XA.cons (XE.slice (XE.var rfl) XO.no (XO.some XE.cst e33) e35) XA.nil) rfl e37) (XE.callV (XA.cons (XE.op2 (XE.var rfl) XE.cst e39) XA.nil) rfl e41) e43) e45) rfl e50 (by intro d46 z h; obtain ⟨t47, e48, h⟩ := bd h; cases h; exact XC.one (XG.v rfl) XT.tt (XE.call (XA.cons (XE.var rfl) XA.nil) (show ([] : List Nat).Nodup by decide) rfl (ms_law_is_count e48) rfl) rfl ⟨rfl, trivial, trivial⟩) rfl) XA.nil) rfl e52) (fun ρ hρ => ?_)
    cases h; exact rfl
noncomputable def m_law_lot_due (count1 : D) (matter2 : D) : Option (D) :=
  Option.bind ((isiD "tuple") matter2) fun t3 =>
  Option.bind (asB t3) fun c5 =>
  Option.bind (if (!c5) = true then (some true) else (Option.bind (unL matter2) fun ds7 =>
  Option.bind (cmpP (fun d9 => Option.bind (m_law_is_count d9) fun t10 =>
  Option.bind (asB t10) fun c12 =>
  Option.bind (if c12 = true then (Option.bind (ltD d9 count1) fun t14 =>
  some t14) else (some (D.bl false))) fun t16 =>
  some [t16]) ds7) fun t18 =>
  Option.bind (allF [(D.lst t18)]) fun t20 =>
  Option.bind (asB t20) fun c22 =>
  some (!c22))) fun c24 =>
  if c24 = true then (some (D.bl false)) else (Option.bind (listF [matter2]) fun t26 =>
  Option.bind (sosF [matter2]) fun t28 =>
  Option.bind (eqD t26 t28) fun r30 =>
  some r30)
theorem ms_law_lot_due {count1 : D} {matter2 : D} {r : D} (h : m_law_lot_due count1 matter2 = some r) : f_law_lot_due [.v count1, .v matter2] = some (r, [.v count1, .v matter2]) := by
  unfold m_law_lot_due at h
  refine mkFn_of (P := [.v count1, .v matter2, .x]) rfl ⟨rfl, rfl, trivial, trivial⟩ ?_
  unfold b_law_lot_due
  obtain ⟨t3, e4, h⟩ := bd h
  obtain ⟨c5, e6, h⟩ := bd h
  obtain ⟨c24, e25, h⟩ := bd h
  refine WS.ifS (show XT [.v count1, .v matter2, .x] (tOr (tNot (tB (eOp1 (isiD "tuple") (eVar 1)))) (tNot (tB (eCallV allF (aCons (eComp [2] (iSeq (eVar 1)) (gV 2) tTrue (eAnd (eCall f_law_is_count (aCons (eVar 2) aNil)) (eOp2 ltD (eVar 2) (eVar 0)))) aNil))))) c24 [.v count1, .v matter2, .x] from (XT.or_ (XT.not (XT.bb (XE.op1 (XE.var rfl) e4) e6)) (fun hc => by rw [if_pos hc] at e25; have q := Option.some.inj e25; subst q; exact ⟨rfl, rfl⟩) (fun hc => by rw [if_neg (Bool.eq_false_iff.mp hc)] at e25; obtain ⟨ds7, e8, e25⟩ := bd e25; obtain ⟨t18, e19, e25⟩ := bd e25; obtain ⟨t20, e21, e25⟩ := bd e25; obtain ⟨c22, e23, e25⟩ := bd e25; have q := Option.some.inj e25; subst q; exact (XT.not (XT.bb (XE.callV (XA.cons (XE.comp (P2 := [.v count1, .v matter2, .x]) (Pw := [.v count1, .v matter2, .x]) (XI.seq (XE.var rfl) e8) rfl e19 (by intro d9 z h; obtain ⟨t10, e11, h⟩ := bd h; obtain ⟨c12, e13, h⟩ := bd h; obtain ⟨t16, e17, h⟩ := bd h; cases h; exact XC.one (XG.v rfl) XT.tt (show XE [.v count1, .v matter2, .v d9] (eAnd (eCall f_law_is_count (aCons (eVar 2) aNil)) (eOp2 ltD (eVar 2) (eVar 0))) t16 [.v count1, .v matter2, .v d9] from (XE.and_ (XE.call (XA.cons (XE.var rfl) XA.nil) (show ([] : List Nat).Nodup by decide) rfl (ms_law_is_count e11) rfl) e13 (fun hc => by rw [if_pos hc] at e17; obtain ⟨t14, e15, e17⟩ := bd e17; have q := Option.some.inj e17; subst q; exact (XE.op2 (XE.var rfl) (XE.var rfl) e15)) (fun hc => by rw [if_neg (Bool.eq_false_iff.mp hc)] at e17; have q := Option.some.inj e17; subst q; exact ⟨rfl, rfl⟩))) rfl ⟨rfl, rfl, trivial, trivial⟩) rfl) XA.nil) rfl e21) e23))))) (fun hc => ?_) (fun hc => ?_)
  · rw [if_pos hc] at h
    refine WS.retS XE.cst (fun ρ hρ => ?_)
    cases h; exact rfl
  · rw [if_neg (Bool.eq_false_iff.mp hc)] at h
    refine WS.skipS ?_
    obtain ⟨t26, e27, h⟩ := bd h
    obtain ⟨t28, e29, h⟩ := bd h
    obtain ⟨r30, e31, h⟩ := bd h
    refine WS.ret (XE.op2 (XE.callV (XA.cons (XE.var rfl) XA.nil) rfl e27) (XE.callV (XA.cons (XE.var rfl) XA.nil) rfl e29) e31) (fun ρ hρ => ?_)
    cases h; exact rfl
noncomputable def m_law_odd (boxhere1 : D) (matter2 : D) : Option (D × D) :=
  Option.bind (negD (D.int 1)) fun t3 =>
  Option.bind (powD (D.int 10) (D.int 13)) fun t5 =>
  Option.bind (mkTup []) fun t7 =>
  Option.bind (mkLst []) fun t9 =>
  Option.bind (mkTup [(D.int 0)]) fun t11 =>
  Option.bind (mkTup [(D.int 1), (D.int 0)]) fun t13 =>
  Option.bind (mkTup [(D.int 0), (D.int 0)]) fun t15 =>
  Option.bind (mkLst [(D.int 0)]) fun t17 =>
  Option.bind (mkTup []) fun t19 =>
  Option.bind (mkTup [(D.int 0), (D.int 1), t19]) fun t21 =>
  Option.bind (mkLst [D.non, (D.bl true), (D.bl false), (D.int 0), (D.int 1), t3, (D.int 7), t5, (D.str ""), (D.str "here"), t7, t9, t11, t13, t15, t17, t21]) fun some23 =>
  Option.bind ((isiD "int") matter2) fun t25 =>
  Option.bind (asB t25) fun c27 =>
  Option.bind (if c27 = true then (Option.bind (addB matter2 (D.int 1)) fun t42 =>
  Option.bind (subB (D.int 0) matter2) fun t44 =>
  Option.bind (strF [matter2]) fun t46 =>
  Option.bind (eqD matter2 (D.int 1)) fun t48 =>
  Option.bind (mkLst [t42, t44, t46, t48]) fun t50 =>
  Option.bind (addD some23 t50) fun some52 =>
  some some52) else (some some23)) fun some41 =>
  bd2 (m_law_of boxhere1 some41) fun r55 boxhere56 =>
  some (r55, boxhere56)
theorem ms_law_odd {boxhere1 : D} {matter2 : D} {r : D × D} (h : m_law_odd boxhere1 matter2 = some r) : f_law_odd [.p boxhere1, .v matter2] = some (r.1, [.p (r.2), .v matter2]) := by
  unfold m_law_odd at h
  refine mkFn_of (P := [.p boxhere1, .v matter2, .x]) rfl ⟨rfl, rfl, trivial, trivial⟩ ?_
  unfold b_law_odd
  obtain ⟨t3, e4, h⟩ := bd h
  obtain ⟨t5, e6, h⟩ := bd h
  obtain ⟨t7, e8, h⟩ := bd h
  obtain ⟨t9, e10, h⟩ := bd h
  obtain ⟨t11, e12, h⟩ := bd h
  obtain ⟨t13, e14, h⟩ := bd h
  obtain ⟨t15, e16, h⟩ := bd h
  obtain ⟨t17, e18, h⟩ := bd h
  obtain ⟨t19, e20, h⟩ := bd h
  obtain ⟨t21, e22, h⟩ := bd h
  obtain ⟨some23, e24, h⟩ := bd h
  refine WS.seq (P1 := [.p boxhere1, .v matter2, .v some23]) (WS.set (XE.callV (XA.cons XE.cst (XA.cons XE.cst (XA.cons XE.cst (XA.cons XE.cst (XA.cons XE.cst (XA.cons (XE.op1 XE.cst e4) (XA.cons XE.cst (XA.cons (XE.op2 XE.cst XE.cst e6) (XA.cons XE.cst (XA.cons XE.cst (XA.cons (XE.callV XA.nil rfl e8) (XA.cons (XE.callV XA.nil rfl e10) (XA.cons (XE.callV (XA.cons XE.cst XA.nil) rfl e12) (XA.cons (XE.callV (XA.cons XE.cst (XA.cons XE.cst XA.nil)) rfl e14) (XA.cons (XE.callV (XA.cons XE.cst (XA.cons XE.cst XA.nil)) rfl e16) (XA.cons (XE.callV (XA.cons XE.cst XA.nil) rfl e18) (XA.cons (XE.callV (XA.cons XE.cst (XA.cons XE.cst (XA.cons (XE.callV XA.nil rfl e20) XA.nil))) rfl e22) XA.nil))))))))))))))))) rfl e24) rfl) ?_
  obtain ⟨t25, e26, h⟩ := bd h
  obtain ⟨c27, e28, h⟩ := bd h
  obtain ⟨some41, e54, h⟩ := bd h
  refine WS.seq (P1 := [.p boxhere1, .v matter2, .v some41]) (WS.if_ (XT.bb (XE.op1 (XE.var rfl) e26) e28) (fun hc => ?_) (fun hc => ?_)) ?_
  · have h := e54
    clear e54
    rw [if_pos hc] at h
    obtain ⟨t42, e43, h⟩ := bd h
    obtain ⟨t44, e45, h⟩ := bd h
    obtain ⟨t46, e47, h⟩ := bd h
    obtain ⟨t48, e49, h⟩ := bd h
    obtain ⟨t50, e51, h⟩ := bd h
    obtain ⟨some52, e53, h⟩ := bd h
    refine WS.tail ?_
    refine WS.seq (P1 := [.p boxhere1, .v matter2, .v some52]) (WS.set (XE.op2 (XE.var rfl) (XE.callV (XA.cons (XE.op2 (XE.var rfl) XE.cst e43) (XA.cons (XE.op2 XE.cst (XE.var rfl) e45) (XA.cons (XE.callV (XA.cons (XE.var rfl) XA.nil) rfl e47) (XA.cons (XE.op2 (XE.var rfl) XE.cst e49) XA.nil)))) rfl e51) e53) rfl) ?_
    refine WS.skip (fun ρ hρ => ?_)
    cases h
    exact ⟨ρ, rfl, hρ.wk ⟨rfl, rfl, rfl, trivial⟩⟩
  · have h := e54
    rw [if_neg (Bool.eq_false_iff.mp hc)] at h
    refine WS.skip (fun ρ hρ => ?_)
    cases h
    exact ⟨ρ, rfl, hρ.wk ⟨rfl, rfl, rfl, trivial⟩⟩
  obtain ⟨r55, boxhere56, e57, h⟩ := bd2_e h
  refine WS.ret (XE.call (XA.sl rfl (XA.cons (XE.var rfl) XA.nil)) (show ([0] : List Nat).Nodup by decide) rfl (ms_law_of e57) rfl) (fun ρ hρ => ?_)
  cases h; exact (by simp only [outF, DL.fin, hρ.getD (i := 0) rfl])
noncomputable def m_law_bent_n : Nat → D → D → D → Option (D × D)
  | 0, _, _, _ => none
  | n + 1, boxhere1, matter2, deep3 =>
  bd2 (m_law_take boxhere1 (D.int 8)) fun manner4 boxhere5 =>
  Option.bind ((isiD2 "list" "tuple") matter2) fun t7 =>
  Option.bind (asB t7) fun c9 =>
  Option.bind (if (!c9) = true then (some true) else (Option.bind (lenF [matter2]) fun t11 =>
  Option.bind (eqD t11 (D.int 0)) fun t13 =>
  Option.bind (asB t13) fun c15 =>
  Option.bind (if c15 = true then (some true) else (Option.bind (eqD manner4 (D.int 0)) fun t17 =>
  Option.bind (asB t17) fun c19 =>
  Option.bind (if c19 = true then (some true) else (Option.bind (eqD deep3 (D.int 0)) fun t21 =>
  Option.bind (asB t21) fun c23 =>
  some c23)) fun c25 =>
  some c25)) fun c27 =>
  some c27)) fun c29 =>
  if c29 = true then (bd2 (m_law_odd boxhere5 matter2) fun r31 boxhere32 =>
  some (r31, boxhere32)) else (Option.bind (eqD manner4 (D.int 1)) fun t34 =>
  Option.bind (asB t34) fun c36 =>
  if c36 = true then (Option.bind ((isiD "list") matter2) fun t38 =>
  Option.bind (asB t38) fun c40 =>
  Option.bind (if c40 = true then (Option.bind (tupF [matter2]) fun t42 =>
  some t42) else (Option.bind (listF [matter2]) fun t44 =>
  some t44)) fun r46 =>
  some (r46, boxhere5)) else (Option.bind (listF [matter2]) fun some48 =>
  Option.bind (lenF [matter2]) fun t50 =>
  bd2 (m_law_take boxhere5 t50) fun at52 boxhere53 =>
  Option.bind (eqD manner4 (D.int 2)) fun t55 =>
  Option.bind (asB t55) fun c57 =>
  bd2 (if c57 = true then (Option.bind (asI at52) fun i250 =>
  Option.bind (sliceD some48 none (some i250)) fun t252 =>
  Option.bind (addD at52 (D.int 1)) fun t254 =>
  Option.bind (asI t254) fun i256 =>
  Option.bind (sliceD some48 (some i256) none) fun t258 =>
  Option.bind (addL t252 t258) fun some260 =>
  some (boxhere53, some260)) else (Option.bind (eqD manner4 (D.int 3)) fun t262 =>
  Option.bind (asB t262) fun c264 =>
  bd2 (if c264 = true then (Option.bind (addD at52 (D.int 1)) fun t353 =>
  Option.bind (asI t353) fun i355 =>
  Option.bind (sliceD some48 none (some i355)) fun t357 =>
  Option.bind (asI at52) fun i359 =>
  Option.bind (sliceD some48 (some i359) none) fun t361 =>
  Option.bind (addL t357 t361) fun some363 =>
  some (boxhere53, some363)) else (Option.bind (eqD manner4 (D.int 4)) fun t365 =>
  Option.bind (asB t365) fun c367 =>
  bd2 (if c367 = true then (Option.bind (asI at52) fun i404 =>
  Option.bind (sliceD some48 none (some i404)) fun t406 =>
  Option.bind (asI at52) fun i408 =>
  Option.bind (addD at52 (D.int 2)) fun t410 =>
  Option.bind (asI t410) fun i412 =>
  Option.bind (sliceD some48 (some i408) (some i412)) fun t414 =>
  Option.bind (revD t414) fun t416 =>
  Option.bind (addD t406 t416) fun t418 =>
  Option.bind (addD at52 (D.int 2)) fun t420 =>
  Option.bind (asI t420) fun i422 =>
  Option.bind (sliceD some48 (some i422) none) fun t424 =>
  Option.bind (addL t418 t424) fun some426 =>
  some (boxhere53, some426)) else (Option.bind (ixD some48 at52) fun t428 =>
  Option.bind (subD deep3 (D.int 1)) fun t430 =>
  bd2 (m_law_bent_n n boxhere53 t428 t430) fun t432 boxhere433 =>
  Option.bind (setL some48 at52 t432) fun some435 =>
  some (boxhere433, some435))) fun boxhere402 some403 =>
  some (boxhere402, some403))) fun boxhere351 some352 =>
  some (boxhere351, some352))) fun boxhere248 some249 =>
  Option.bind ((isiD "list") matter2) fun t440 =>
  Option.bind (asB t440) fun c442 =>
  Option.bind (if c442 = true then (some some249) else (Option.bind (tupF [some249]) fun t444 =>
  some t444)) fun r446 =>
  some (r446, boxhere248)))
noncomputable abbrev m_law_bent := m_law_bent_n 8
theorem ms_law_bent_n : ∀ {n : Nat} {boxhere1 : D} {matter2 : D} {deep3 : D} {r : D × D}, m_law_bent_n n boxhere1 matter2 deep3 = some r → f_law_bent_n n [.p boxhere1, .v matter2, .v deep3] = some (r.1, [.p (r.2), .v matter2, .v deep3])
  | 0, _, _, _, _, h => by cases h
  | n + 1, boxhere1, matter2, deep3, r, h => by
    have ih := fun {boxhere1 matter2 deep3} {r} => @ms_law_bent_n n boxhere1 matter2 deep3 r
    unfold m_law_bent_n at h
    unfold f_law_bent_n
    refine mkFn_of (P := [.p boxhere1, .v matter2, .v deep3, .x, .y, .x]) rfl ⟨rfl, rfl, rfl, trivial, trivial, trivial, trivial⟩ ?_
    unfold b_law_bent
    obtain ⟨manner4, boxhere5, e6, h⟩ := bd2_e h
    refine WS.seq (P1 := [.p boxhere5, .v matter2, .v deep3, .v manner4, .y, .x]) (WS.set (XE.call (XA.sl rfl (XA.cons XE.cst XA.nil)) (show ([0] : List Nat).Nodup by decide) rfl (ms_law_take e6) rfl) rfl) ?_
    obtain ⟨t7, e8, h⟩ := bd h
    obtain ⟨c9, e10, h⟩ := bd h
    obtain ⟨c29, e30, h⟩ := bd h
    refine WS.ifS (show XT [.p boxhere5, .v matter2, .v deep3, .v manner4, .y, .x] (tOr (tNot (tB (eOp1 (isiD2 "list" "tuple") (eVar 1)))) (tOr (tB (eOp2 eqD (eCallV lenF (aCons (eVar 1) aNil)) (eC (.int 0)))) (tOr (tB (eOp2 eqD (eVar 3) (eC (.int 0)))) (tB (eOp2 eqD (eVar 2) (eC (.int 0))))))) c29 [.p boxhere5, .v matter2, .v deep3, .v manner4, .y, .x] from (XT.or_ (XT.not (XT.bb (XE.op1 (XE.var rfl) e8) e10)) (fun hc => by rw [if_pos hc] at e30; have q := Option.some.inj e30; subst q; exact ⟨rfl, rfl⟩) (fun hc => by rw [if_neg (Bool.eq_false_iff.mp hc)] at e30; obtain ⟨t11, e12, e30⟩ := bd e30; obtain ⟨t13, e14, e30⟩ := bd e30; obtain ⟨c15, e16, e30⟩ := bd e30; obtain ⟨c27, e28, e30⟩ := bd e30; have q := Option.some.inj e30; subst q; exact (show XT [.p boxhere5, .v matter2, .v deep3, .v manner4, .y, .x] (tOr (tB (eOp2 eqD (eCallV lenF (aCons (eVar 1) aNil)) (eC (.int 0)))) (tOr (tB (eOp2 eqD (eVar 3) (eC (.int 0)))) (tB (eOp2 eqD (eVar 2) (eC (.int 0)))))) c27 [.p boxhere5, .v matter2, .v deep3, .v manner4, .y, .x] from (XT.or_ (XT.bb (XE.op2 (XE.callV (XA.cons (XE.var rfl) XA.nil) rfl e12) XE.cst e14) e16) (fun hc => by rw [if_pos hc] at e28; have q := Option.some.inj e28; subst q; exact ⟨rfl, rfl⟩) (fun hc => by rw [if_neg (Bool.eq_false_iff.mp hc)] at e28; obtain ⟨t17, e18, e28⟩ := bd e28; obtain ⟨c19, e20, e28⟩ := bd e28; obtain ⟨c25, e26, e28⟩ := bd e28; have q := Option.some.inj e28; subst q; exact (show XT [.p boxhere5, .v matter2, .v deep3, .v manner4, .y, .x] (tOr (tB (eOp2 eqD (eVar 3) (eC (.int 0)))) (tB (eOp2 eqD (eVar 2) (eC (.int 0))))) c25 [.p boxhere5, .v matter2, .v deep3, .v manner4, .y, .x] from (XT.or_ (XT.bb (XE.op2 (XE.var rfl) XE.cst e18) e20) (fun hc => by rw [if_pos hc] at e26; have q := Option.some.inj e26; subst q; exact ⟨rfl, rfl⟩) (fun hc => by rw [if_neg (Bool.eq_false_iff.mp hc)] at e26; obtain ⟨t21, e22, e26⟩ := bd e26; obtain ⟨c23, e24, e26⟩ := bd e26; have q := Option.some.inj e26; subst q; exact (XT.bb (XE.op2 (XE.var rfl) XE.cst e22) e24)))))))))) (fun hc => ?_) (fun hc => ?_)
    · rw [if_pos hc] at h
      obtain ⟨r31, boxhere32, e33, h⟩ := bd2_e h
      refine WS.retS (XE.call (XA.sl rfl (XA.cons (XE.var rfl) XA.nil)) (show ([0] : List Nat).Nodup by decide) rfl (ms_law_odd e33) rfl) (fun ρ hρ => ?_)
      cases h; exact (by simp only [outF, DL.fin, hρ.getD (i := 0) rfl])
    · rw [if_neg (Bool.eq_false_iff.mp hc)] at h
      refine WS.skipS ?_
      obtain ⟨t34, e35, h⟩ := bd h
      obtain ⟨c36, e37, h⟩ := bd h
      refine WS.ifS (XT.bb (XE.op2 (XE.var rfl) XE.cst e35) e37) (fun hc => ?_) (fun hc => ?_)
      · rw [if_pos hc] at h
        obtain ⟨t38, e39, h⟩ := bd h
        obtain ⟨c40, e41, h⟩ := bd h
        obtain ⟨r46, e47, h⟩ := bd h
        refine WS.retS (show XE [.p boxhere5, .v matter2, .v deep3, .v manner4, .y, .x] (eIf (tB (eOp1 (isiD "list") (eVar 1))) (eCallV tupF (aCons (eVar 1) aNil)) (eCallV listF (aCons (eVar 1) aNil))) r46 [.p boxhere5, .v matter2, .v deep3, .v manner4, .y, .x] from (XE.if_ (XT.bb (XE.op1 (XE.var rfl) e39) e41) (fun hc => by rw [if_pos hc] at e47; obtain ⟨t42, e43, e47⟩ := bd e47; have q := Option.some.inj e47; subst q; exact (XE.callV (XA.cons (XE.var rfl) XA.nil) rfl e43)) (fun hc => by rw [if_neg (Bool.eq_false_iff.mp hc)] at e47; obtain ⟨t44, e45, e47⟩ := bd e47; have q := Option.some.inj e47; subst q; exact (XE.callV (XA.cons (XE.var rfl) XA.nil) rfl e45)))) (fun ρ hρ => ?_)
        cases h; exact (by simp only [outF, DL.fin, hρ.getD (i := 0) rfl])
      · rw [if_neg (Bool.eq_false_iff.mp hc)] at h
        refine WS.skipS ?_
        obtain ⟨some48, e49, h⟩ := bd h
        obtain ⟨t50, e51, h⟩ := bd h
        obtain ⟨at52, boxhere53, e54, h⟩ := bd2_e h
        refine WS.seq (P1 := [.p boxhere53, .v matter2, .v deep3, .v manner4, .o some48, .v at52]) (WS.parov (XE.callV (XA.cons (XE.var rfl) XA.nil) rfl e49) (XE.call (XA.sl rfl (XA.cons (XE.callV (XA.cons (XE.var rfl) XA.nil) rfl e51) XA.nil)) (show ([0] : List Nat).Nodup by decide) rfl (ms_law_take e54) rfl) rfl rfl) ?_
        obtain ⟨t55, e56, h⟩ := bd h
        obtain ⟨c57, e58, h⟩ := bd h
        obtain ⟨boxhere248, some249, e439, h⟩ := bd2_e h
        refine WS.seq (P1 := [.p boxhere248, .v matter2, .v deep3, .v manner4, .o some249, .v at52]) (WS.if_ (XT.bb (XE.op2 (XE.var rfl) XE.cst e56) e58) (fun hc => ?_) (fun hc => ?_)) ?_
        · have h := e439
          clear e439
          rw [if_pos hc] at h
          obtain ⟨i250, e251, h⟩ := bd h
          obtain ⟨t252, e253, h⟩ := bd h
          obtain ⟨t254, e255, h⟩ := bd h
          obtain ⟨i256, e257, h⟩ := bd h
          obtain ⟨t258, e259, h⟩ := bd h
          obtain ⟨some260, e261, h⟩ := bd h
          refine WS.tail ?_
          refine WS.seq (P1 := [.p boxhere53, .v matter2, .v deep3, .v manner4, .o some260, .v at52]) (WS.own (XE.op2 (XE.slice (XE.varO rfl) XO.no (XO.some (XE.var rfl) e251) e253) (XE.slice (XE.var rfl) (XO.some (XE.op2 (XE.var rfl) XE.cst e255) e257) XO.no e259) e261) rfl) ?_
          refine WS.skip (fun ρ hρ => ?_)
          cases h
          exact ⟨ρ, rfl, hρ.wk ⟨rfl, rfl, rfl, rfl, rfl, rfl, trivial⟩⟩
        · have h := e439
          rw [if_neg (Bool.eq_false_iff.mp hc)] at h
          obtain ⟨t262, e263, h⟩ := bd h
          obtain ⟨c264, e265, h⟩ := bd h
          obtain ⟨boxhere351, some352, e438, h⟩ := bd2_e h
          refine WS.tail ?_
          refine WS.seq (P1 := [.p boxhere351, .v matter2, .v deep3, .v manner4, .o some352, .v at52]) (WS.if_ (XT.bb (XE.op2 (XE.var rfl) XE.cst e263) e265) (fun hc => ?_) (fun hc => ?_)) ?_
          · have h := e438
            clear e438
            rw [if_pos hc] at h
            obtain ⟨t353, e354, h⟩ := bd h
            obtain ⟨i355, e356, h⟩ := bd h
            obtain ⟨t357, e358, h⟩ := bd h
            obtain ⟨i359, e360, h⟩ := bd h
            obtain ⟨t361, e362, h⟩ := bd h
            obtain ⟨some363, e364, h⟩ := bd h
            refine WS.tail ?_
            refine WS.seq (P1 := [.p boxhere53, .v matter2, .v deep3, .v manner4, .o some363, .v at52]) (WS.own (XE.op2 (XE.slice (XE.varO rfl) XO.no (XO.some (XE.op2 (XE.var rfl) XE.cst e354) e356) e358) (XE.slice (XE.var rfl) (XO.some (XE.var rfl) e360) XO.no e362) e364) rfl) ?_
            refine WS.skip (fun ρ hρ => ?_)
            cases h
            exact ⟨ρ, rfl, hρ.wk ⟨rfl, rfl, rfl, rfl, rfl, rfl, trivial⟩⟩
          · have h := e438
            rw [if_neg (Bool.eq_false_iff.mp hc)] at h
            obtain ⟨t365, e366, h⟩ := bd h
            obtain ⟨c367, e368, h⟩ := bd h
            obtain ⟨boxhere402, some403, e437, h⟩ := bd2_e h
            refine WS.tail ?_
            refine WS.seq (P1 := [.p boxhere402, .v matter2, .v deep3, .v manner4, .o some403, .v at52]) (WS.if_ (XT.bb (XE.op2 (XE.var rfl) XE.cst e366) e368) (fun hc => ?_) (fun hc => ?_)) ?_
            · have h := e437
              clear e437
              rw [if_pos hc] at h
              obtain ⟨i404, e405, h⟩ := bd h
              obtain ⟨t406, e407, h⟩ := bd h
              obtain ⟨i408, e409, h⟩ := bd h
              obtain ⟨t410, e411, h⟩ := bd h
              obtain ⟨i412, e413, h⟩ := bd h
              obtain ⟨t414, e415, h⟩ := bd h
              obtain ⟨t416, e417, h⟩ := bd h
              obtain ⟨t418, e419, h⟩ := bd h
              obtain ⟨t420, e421, h⟩ := bd h
              obtain ⟨i422, e423, h⟩ := bd h
              obtain ⟨t424, e425, h⟩ := bd h
              obtain ⟨some426, e427, h⟩ := bd h
              refine WS.tail ?_
              refine WS.seq (P1 := [.p boxhere53, .v matter2, .v deep3, .v manner4, .o some426, .v at52]) (WS.own (XE.op2 (XE.op2 (XE.slice (XE.varO rfl) XO.no (XO.some (XE.var rfl) e405) e407) (XE.op1 (XE.slice (XE.var rfl) (XO.some (XE.var rfl) e409) (XO.some (XE.op2 (XE.var rfl) XE.cst e411) e413) e415) e417) e419) (XE.slice (XE.var rfl) (XO.some (XE.op2 (XE.var rfl) XE.cst e421) e423) XO.no e425) e427) rfl) ?_
              refine WS.skip (fun ρ hρ => ?_)
              cases h
              exact ⟨ρ, rfl, hρ.wk ⟨rfl, rfl, rfl, rfl, rfl, rfl, trivial⟩⟩
            · have h := e437
              rw [if_neg (Bool.eq_false_iff.mp hc)] at h
              obtain ⟨t428, e429, h⟩ := bd h
              obtain ⟨t430, e431, h⟩ := bd h
              obtain ⟨t432, boxhere433, e434, h⟩ := bd2_e h
              obtain ⟨some435, e436, h⟩ := bd h
              refine WS.tail ?_
              refine WS.seq (P1 := [.p boxhere433, .v matter2, .v deep3, .v manner4, .o some435, .v at52]) (WS.store (XE.call (XA.sl rfl (XA.cons (XE.ixO rfl (XE.var rfl) rfl e429) (XA.cons (XE.op2 (XE.var rfl) XE.cst e431) XA.nil))) (show ([0] : List Nat).Nodup by decide) rfl (ih e434) rfl) rfl (XE.var rfl) rfl e436 rfl) ?_
              refine WS.skip (fun ρ hρ => ?_)
              cases h
              exact ⟨ρ, rfl, hρ.wk ⟨rfl, rfl, rfl, rfl, rfl, rfl, trivial⟩⟩
            refine WS.skip (fun ρ hρ => ?_)
            cases h
            exact ⟨ρ, rfl, hρ.wk ⟨rfl, rfl, rfl, rfl, rfl, rfl, trivial⟩⟩
          refine WS.skip (fun ρ hρ => ?_)
          cases h
          exact ⟨ρ, rfl, hρ.wk ⟨rfl, rfl, rfl, rfl, rfl, rfl, trivial⟩⟩
        obtain ⟨t440, e441, h⟩ := bd h
        obtain ⟨c442, e443, h⟩ := bd h
        obtain ⟨r446, e447, h⟩ := bd h
        refine WS.ret (show XE [.p boxhere248, .v matter2, .v deep3, .v manner4, .o some249, .v at52] (eIf (tB (eOp1 (isiD "list") (eVar 1))) (eVar 4) (eCallV tupF (aCons (eVar 4) aNil))) r446 [.p boxhere248, .v matter2, .v deep3, .v manner4, .v some249, .v at52] from (XE.if_ (XT.bb (XE.op1 (XE.var rfl) e441) e443) (fun hc => by rw [if_pos hc] at e447; have q := Option.some.inj e447; subst q; exact (XE.varO rfl)) (fun hc => by rw [if_neg (Bool.eq_false_iff.mp hc)] at e447; obtain ⟨t444, e445, e447⟩ := bd e447; have q := Option.some.inj e447; subst q; exact (XE.callV (XA.cons (XE.varO rfl) XA.nil) rfl e445)))) (fun ρ hρ => ?_)
        cases h; exact (by simp only [outF, DL.fin, hρ.getD (i := 0) rfl])
theorem ms_law_bent {boxhere1 : D} {matter2 : D} {deep3 : D} {r : D × D} (h : m_law_bent boxhere1 matter2 deep3 = some r) : f_law_bent [.p boxhere1, .v matter2, .v deep3] = some (r.1, [.p (r.2), .v matter2, .v deep3]) := ms_law_bent_n h
noncomputable def m_law_right_1 (pool2 : D) (lothere9 : D) : D → (D × D) → Option (D × D) := fun d56 => un_2 fun boxhere52 things53 => Option.bind (mkLst [pool2, lothere9]) fun t57 =>
  bd2 (m_law_of boxhere52 t57) fun t59 boxhere60 =>
  bd2 (m_law_bent boxhere60 t59 (D.int 3)) fun benthere62 boxhere63 =>
  bd2 (m_law_take boxhere63 (D.int 3)) fun t65 boxhere66 =>
  Option.bind (eqD t65 (D.int 0)) fun t68 =>
  Option.bind (asB t68) fun c70 =>
  bd2 (if c70 = true then (bd2 (m_law_bent boxhere66 benthere62 (D.int 3)) fun t72 boxhere73 =>
  some (t72, boxhere73)) else (some (benthere62, boxhere66))) fun t75 boxhere76 =>
  Option.bind (isKG "list" things53) fun u78 =>
  bd2 (appendM things53 [t75]) fun t80 things81 =>
  some (boxhere76, things81)
noncomputable def m_law_right_2 (pool2 : D) (count7 : D) (boxhere83 : D) : D → (Unit) → Option (Fl (D × D) (Unit)) := fun d88 => fun _ => Option.bind (reprY [d88]) fun kept89 =>
  Option.bind (m_is_sea d88) fun t91 =>
  Option.bind (m_is_standing pool2 d88) fun t93 =>
  Option.bind (mkLst [t91, t93]) fun told95 =>
  Option.bind (m_law_sea_due d88) fun t97 =>
  Option.bind (m_law_lot_due count7 d88) fun t99 =>
  Option.bind (mkLst [t97, t99]) fun t101 =>
  Option.bind (m_law_same told95 t101) fun t103 =>
  Option.bind (asB t103) fun c105 =>
  Option.bind (if (!c105) = true then (some true) else (Option.bind (reprY [d88]) fun t107 =>
  Option.bind (neD t107 kept89) fun t109 =>
  Option.bind (asB t109) fun c111 =>
  some c111)) fun c113 =>
  if c113 = true then (some (.rt ((D.bl false), boxhere83))) else (some (.nx ()))
noncomputable def m_law_right (boxhere1 : D) : Option (D × D) :=
  bd2 (m_law_sea boxhere1 (D.int 6)) fun pool2 boxhere3 =>
  Option.bind (ixD pool2 (D.int 2)) fun t5 =>
  Option.bind (lenF [t5]) fun count7 =>
  bd2 (m_law_lot boxhere3 count7) fun lothere9 boxhere10 =>
  Option.bind (listF [pool2]) fun t12 =>
  Option.bind (listF [lothere9]) fun t14 =>
  Option.bind (mkTup []) fun t16 =>
  Option.bind (mkLst []) fun t18 =>
  Option.bind (mkTup [count7]) fun t20 =>
  Option.bind (trgF [count7]) fun t22 =>
  Option.bind (mkLst [pool2, lothere9, t12, t14, D.non, t16, t18, (D.int 3), (D.str "sea"), t20, t22]) fun things24 =>
  Option.bind (mkTup [(D.int 0)]) fun t26 =>
  Option.bind (timD t26 (D.int 30)) fun t28 =>
  Option.bind (mkTup [(D.int 0), (D.int 0), t28]) fun t30 =>
  Option.bind (mkTup []) fun t32 =>
  Option.bind (mkTup [(D.int 0), (D.int 2), t32]) fun t34 =>
  Option.bind (mkTup [(D.int 0), (D.int 0)]) fun t36 =>
  Option.bind (mkTup [(D.int 0)]) fun t38 =>
  Option.bind (subD count7 (D.int 1)) fun t40 =>
  Option.bind (subD count7 (D.int 1)) fun t42 =>
  Option.bind (mkTup [t40, t42]) fun t44 =>
  Option.bind (mkLst [t30, t34, t36, t38, t44]) fun t46 =>
  Option.bind (addL things24 t46) fun things48 =>
  Option.bind (rng1 [.val (D.int 10)]) fun ds50 =>
  bd2 (fldN (m_law_right_1 pool2 lothere9) ds50 (boxhere10, things48)) fun boxhere83 things84 =>
  Option.bind (unL things84) fun ds86 =>
  Option.bind (fldR (m_law_right_2 pool2 count7 boxhere83) ds86 ()) fun r115 =>
  flK r115 some (fun _ => Option.bind (m_is_sea pool2) fun t117 =>
  Option.bind (isD t117 (D.bl true)) fun t119 =>
  Option.bind (asB t119) fun c121 =>
  Option.bind (if c121 = true then (Option.bind (m_is_standing pool2 lothere9) fun t123 =>
  Option.bind (isD t123 (D.bl true)) fun t125 =>
  some t125) else (some (D.bl false))) fun r127 =>
  some (r127, boxhere83))
theorem ms_law_right {boxhere1 : D} {r : D × D} (h : m_law_right boxhere1 = some r) : f_law_right [.p boxhere1] = some (r.1, [.p (r.2)]) := by
  unfold m_law_right at h
  refine mkFn_of (P := [.p boxhere1, .x, .x, .x, .y, .x, .x, .x, .x, .x]) rfl ⟨rfl, trivial, trivial, trivial, trivial, trivial, trivial, trivial, trivial, trivial, trivial⟩ ?_
  unfold b_law_right
  obtain ⟨pool2, boxhere3, e4, h⟩ := bd2_e h
  refine WS.seq (P1 := [.p boxhere3, .v pool2, .x, .x, .y, .x, .x, .x, .x, .x]) (WS.set (XE.call (XA.sl rfl (XA.cons XE.cst XA.nil)) (show ([0] : List Nat).Nodup by decide) rfl (ms_law_sea e4) rfl) rfl) ?_
  obtain ⟨t5, e6, h⟩ := bd h
  obtain ⟨count7, e8, h⟩ := bd h
  refine WS.seq (P1 := [.p boxhere3, .v pool2, .v count7, .x, .y, .x, .x, .x, .x, .x]) (WS.set (XE.callV (XA.cons (XE.op2 (XE.var rfl) XE.cst e6) XA.nil) rfl e8) rfl) ?_
  obtain ⟨lothere9, boxhere10, e11, h⟩ := bd2_e h
  refine WS.seq (P1 := [.p boxhere10, .v pool2, .v count7, .v lothere9, .y, .x, .x, .x, .x, .x]) (WS.set (XE.call (XA.sl rfl (XA.cons (XE.var rfl) XA.nil)) (show ([0] : List Nat).Nodup by decide) rfl (ms_law_lot e11) rfl) rfl) ?_
  obtain ⟨t12, e13, h⟩ := bd h
  obtain ⟨t14, e15, h⟩ := bd h
  obtain ⟨t16, e17, h⟩ := bd h
  obtain ⟨t18, e19, h⟩ := bd h
  obtain ⟨t20, e21, h⟩ := bd h
  obtain ⟨t22, e23, h⟩ := bd h
  obtain ⟨things24, e25, h⟩ := bd h
  refine WS.seq (P1 := [.p boxhere10, .v pool2, .v count7, .v lothere9, .o things24, .x, .x, .x, .x, .x]) (WS.own (XE.callV (XA.cons (XE.var rfl) (XA.cons (XE.var rfl) (XA.cons (XE.callV (XA.cons (XE.var rfl) XA.nil) rfl e13) (XA.cons (XE.callV (XA.cons (XE.var rfl) XA.nil) rfl e15) (XA.cons XE.cst (XA.cons (XE.callV XA.nil rfl e17) (XA.cons (XE.callV XA.nil rfl e19) (XA.cons XE.cst (XA.cons XE.cst (XA.cons (XE.callV (XA.cons (XE.var rfl) XA.nil) rfl e21) (XA.cons (XE.callV (XA.cons (XE.var rfl) XA.nil) rfl e23) XA.nil))))))))))) rfl e25) rfl) ?_
  obtain ⟨t26, e27, h⟩ := bd h
  obtain ⟨t28, e29, h⟩ := bd h
  obtain ⟨t30, e31, h⟩ := bd h
  obtain ⟨t32, e33, h⟩ := bd h
  obtain ⟨t34, e35, h⟩ := bd h
  obtain ⟨t36, e37, h⟩ := bd h
  obtain ⟨t38, e39, h⟩ := bd h
  obtain ⟨t40, e41, h⟩ := bd h
  obtain ⟨t42, e43, h⟩ := bd h
  obtain ⟨t44, e45, h⟩ := bd h
  obtain ⟨t46, e47, h⟩ := bd h
  obtain ⟨things48, e49, h⟩ := bd h
  refine WS.seq (P1 := [.p boxhere10, .v pool2, .v count7, .v lothere9, .o things48, .x, .x, .x, .x, .x]) (WS.own (XE.op2 (XE.varO rfl) (XE.callV (XA.cons (XE.callV (XA.cons XE.cst (XA.cons XE.cst (XA.cons (XE.op2 (XE.callV (XA.cons XE.cst XA.nil) rfl e27) XE.cst e29) XA.nil))) rfl e31) (XA.cons (XE.callV (XA.cons XE.cst (XA.cons XE.cst (XA.cons (XE.callV XA.nil rfl e33) XA.nil))) rfl e35) (XA.cons (XE.callV (XA.cons XE.cst (XA.cons XE.cst XA.nil)) rfl e37) (XA.cons (XE.callV (XA.cons XE.cst XA.nil) rfl e39) (XA.cons (XE.callV (XA.cons (XE.op2 (XE.var rfl) XE.cst e41) (XA.cons (XE.op2 (XE.var rfl) XE.cst e43) XA.nil)) rfl e45) XA.nil))))) rfl e47) e49) rfl) ?_
  obtain ⟨ds50, e51, h⟩ := bd h
  obtain ⟨boxhere83, things84, e85, h⟩ := bd2_e h
  refine WS.seq (P1 := [.p boxhere83, .v pool2, .v count7, .v lothere9, .o things84, .x, .x, .x, .x, .x]) (WS.forN (t0 := (boxhere10, things48)) (t1 := (boxhere83, things84)) (XI.arg (XA.cons XE.cst XA.nil) e51) (fun s : D × D => [.p (s.1), .v pool2, .v count7, .v lothere9, .o (s.2), .x, .x, .x, .x, .x]) ⟨rfl, rfl, rfl, rfl, rfl, trivial, trivial, trivial, trivial, trivial, trivial⟩ e85 ?_) ?_
  · rintro d56 ⟨boxhere52, things53⟩ ⟨boxhere54, things55⟩ h
    unfold m_law_right_1 at h
    rw [un_2_mk] at h
    show WB [.p boxhere52, .v pool2, .v count7, .v lothere9, .o things53, .x, .x, .x, .x, .x] _ _ _ (LpN [.p boxhere54, .v pool2, .v count7, .v lothere9, .o things55, .x, .x, .x, .x, .x])
    refine WB.mk (XG.v rfl) ?_
    unfold b_law_right_1
    obtain ⟨t57, e58, h⟩ := bd h
    obtain ⟨t59, boxhere60, e61, h⟩ := bd2_e h
    obtain ⟨benthere62, boxhere63, e64, h⟩ := bd2_e h
    refine WS.seq (P1 := [.p boxhere63, .v pool2, .v count7, .v lothere9, .o things53, .v d56, .v benthere62, .x, .x, .x]) (WS.set (XE.call (XA.sl rfl (XA.cons (XE.call (XA.sl rfl (XA.cons (XE.callV (XA.cons (XE.var rfl) (XA.cons (XE.var rfl) XA.nil)) rfl e58) XA.nil)) (show ([0] : List Nat).Nodup by decide) rfl (ms_law_of e61) rfl) (XA.cons XE.cst XA.nil))) (show ([0] : List Nat).Nodup by decide) rfl (ms_law_bent e64) rfl) rfl) ?_
    obtain ⟨t65, boxhere66, e67, h⟩ := bd2_e h
    obtain ⟨t68, e69, h⟩ := bd h
    obtain ⟨c70, e71, h⟩ := bd h
    obtain ⟨t75, boxhere76, e77, h⟩ := bd2_e h
    obtain ⟨u78, e79, h⟩ := bd h
    obtain ⟨t80, things81, e82, h⟩ := bd2_e h
    refine WS.tail ?_
    refine WS.seq (P1 := [.p boxhere76, .v pool2, .v count7, .v lothere9, .o things81, .v d56, .v benthere62, .x, .x, .x]) (WS.drop (XE.mut rfl (isKG_e e79) (XA.cons (show XE [.p boxhere63, .v pool2, .v count7, .v lothere9, .o things53, .v d56, .v benthere62, .x, .x, .x] (eIf (tB (eOp2 eqD (eCall f_law_take (aSl 0 (aCons (eC (.int 3)) aNil))) (eC (.int 0)))) (eCall f_law_bent (aSl 0 (aCons (eVar 6) (aCons (eC (.int 3)) aNil)))) (eVar 6)) t75 [.p boxhere76, .v pool2, .v count7, .v lothere9, .o things53, .v d56, .v benthere62, .x, .x, .x] from (XE.if_ (XT.bb (XE.op2 (XE.call (XA.sl rfl (XA.cons XE.cst XA.nil)) (show ([0] : List Nat).Nodup by decide) rfl (ms_law_take e67) rfl) XE.cst e69) e71) (fun hc => by rw [if_pos hc] at e77; obtain ⟨t72, boxhere73, e74, e77⟩ := bd2_e e77; obtain ⟨qa0, qb0⟩ := Prod.mk.inj (Option.some.inj e77); subst qa0; subst qb0; exact (XE.call (XA.sl rfl (XA.cons (XE.var rfl) (XA.cons XE.cst XA.nil))) (show ([0] : List Nat).Nodup by decide) rfl (ms_law_bent e74) rfl)) (fun hc => by rw [if_neg (Bool.eq_false_iff.mp hc)] at e77; obtain ⟨qa0, qb0⟩ := Prod.mk.inj (Option.some.inj e77); subst qa0; subst qb0; exact (XE.var rfl)))) XA.nil) rfl rfl e82 rfl)) ?_
    refine WS.skip (fun ρ hρ => ?_)
    cases h
    show LpN _ _
    exact ⟨ρ, .inl rfl, hρ.wk ⟨rfl, rfl, rfl, rfl, rfl, trivial, trivial, trivial, trivial, trivial, trivial⟩⟩
  obtain ⟨ds86, e87, h⟩ := bd h
  obtain ⟨r115, e116, h⟩ := bd h
  have hw := WS.forR (P := [.p boxhere83, .v pool2, .v count7, .v lothere9, .o things84, .x, .x, .x, .x, .x]) (it := (iSeq (eVar 4))) (g := (gV 7)) (b := b_law_right_2) (t0 := ()) (XI.seq (XE.varO rfl) e87) (fun s : Unit => [.p boxhere83, .v pool2, .v count7, .v lothere9, .v things84, .x, .x, .x, .x, .x]) (fun (x : D × D) o => outF [.p boxhere1] o = some (x.1, [.p (x.2)])) ⟨rfl, rfl, rfl, rfl, rfl, trivial, trivial, trivial, trivial, trivial, trivial⟩ e116 (by
    rintro d88 ⟨⟩ r h
    unfold m_law_right_2 at h
    show WB [.p boxhere83, .v pool2, .v count7, .v lothere9, .v things84, .x, .x, .x, .x, .x] _ _ _ (LpR _ _ _)
    refine WB.mk (XG.v rfl) ?_
    unfold b_law_right_2
    obtain ⟨kept89, e90, h⟩ := bd h
    refine WS.seq (P1 := [.p boxhere83, .v pool2, .v count7, .v lothere9, .v things84, .x, .x, .v d88, .v kept89, .x]) (WS.set (XE.callV (XA.cons (XE.var rfl) XA.nil) rfl e90) rfl) ?_
    obtain ⟨t91, e92, h⟩ := bd h
    obtain ⟨t93, e94, h⟩ := bd h
    obtain ⟨told95, e96, h⟩ := bd h
    refine WS.seq (P1 := [.p boxhere83, .v pool2, .v count7, .v lothere9, .v things84, .x, .x, .v d88, .v kept89, .v told95]) (WS.set (XE.callV (XA.cons (XE.call (XA.cons (XE.var rfl) XA.nil) (show ([] : List Nat).Nodup by decide) rfl (ms_is_sea e92) rfl) (XA.cons (XE.call (XA.cons (XE.var rfl) (XA.cons (XE.var rfl) XA.nil)) (show ([] : List Nat).Nodup by decide) rfl (ms_is_standing e94) rfl) XA.nil)) rfl e96) rfl) ?_
    obtain ⟨t97, e98, h⟩ := bd h
    obtain ⟨t99, e100, h⟩ := bd h
    obtain ⟨t101, e102, h⟩ := bd h
    obtain ⟨t103, e104, h⟩ := bd h
    obtain ⟨c105, e106, h⟩ := bd h
    obtain ⟨c113, e114, h⟩ := bd h
    refine WS.if_ (show XT [.p boxhere83, .v pool2, .v count7, .v lothere9, .v things84, .x, .x, .v d88, .v kept89, .v told95] (tOr (tNot (tB (eCall f_law_same (aCons (eVar 9) (aCons (eCallV mkLst (aCons (eCall f_law_sea_due (aCons (eVar 7) aNil)) (aCons (eCall f_law_lot_due (aCons (eVar 2) (aCons (eVar 7) aNil))) aNil))) aNil))))) (tB (eOp2 neD (eCallV reprY (aCons (eVar 7) aNil)) (eVar 8)))) c113 [.p boxhere83, .v pool2, .v count7, .v lothere9, .v things84, .x, .x, .v d88, .v kept89, .v told95] from (XT.or_ (XT.not (XT.bb (XE.call (XA.cons (XE.var rfl) (XA.cons (XE.callV (XA.cons (XE.call (XA.cons (XE.var rfl) XA.nil) (show ([] : List Nat).Nodup by decide) rfl (ms_law_sea_due e98) rfl) (XA.cons (XE.call (XA.cons (XE.var rfl) (XA.cons (XE.var rfl) XA.nil)) (show ([] : List Nat).Nodup by decide) rfl (ms_law_lot_due e100) rfl) XA.nil)) rfl e102) XA.nil)) (show ([] : List Nat).Nodup by decide) rfl (ms_law_same e104) rfl) e106)) (fun hc => by rw [if_pos hc] at e114; have q := Option.some.inj e114; subst q; exact ⟨rfl, rfl⟩) (fun hc => by rw [if_neg (Bool.eq_false_iff.mp hc)] at e114; obtain ⟨t107, e108, e114⟩ := bd e114; obtain ⟨t109, e110, e114⟩ := bd e114; obtain ⟨c111, e112, e114⟩ := bd e114; have q := Option.some.inj e114; subst q; exact (XT.bb (XE.op2 (XE.callV (XA.cons (XE.var rfl) XA.nil) rfl e108) (XE.var rfl) e110) e112)))) (fun hc => ?_) (fun hc => ?_)
    · rw [if_pos hc] at h
      refine WS.ret XE.cst (fun ρ hρ => ?_)
      cases h; exact ⟨trivial, (by simp only [outF, DL.fin, hρ.getD (i := 0) rfl])⟩
    · rw [if_neg (Bool.eq_false_iff.mp hc)] at h
      refine WS.skip (fun ρ hρ => ?_)
      cases h
      show LpN _ _
      exact ⟨ρ, .inl rfl, hρ.wk ⟨rfl, rfl, rfl, rfl, rfl, trivial, trivial, trivial, trivial, trivial, trivial⟩⟩)
  cases r115 with
  | bk t => cases h
  | rt x =>
    refine WS.rtS hw (fun o ho q => ?_)
    cases h; exact q
  | nx t =>
    rw [flK_nx] at h
    refine WS.seq (P1 := [.p boxhere83, .v pool2, .v count7, .v lothere9, .v things84, .x, .x, .x, .x, .x]) hw ?_
    obtain ⟨t117, e118, h⟩ := bd h
    obtain ⟨t119, e120, h⟩ := bd h
    obtain ⟨c121, e122, h⟩ := bd h
    obtain ⟨r127, e128, h⟩ := bd h
    refine WS.ret (show XE [.p boxhere83, .v pool2, .v count7, .v lothere9, .v things84, .x, .x, .x, .x, .x] (eAnd (eOp2 isD (eCallK [0] 0 1 f_is_sea aNil (aCons (eVar 1) aNil)) (eC (.bl true))) (eOp2 isD (eCallK [1, 0] 0 2 f_is_standing aNil (aCons (eVar 3) (aCons (eVar 1) aNil))) (eC (.bl true)))) r127 [.p boxhere83, .v pool2, .v count7, .v lothere9, .v things84, .x, .x, .x, .x, .x] from (XE.and_ (XE.op2 (XE.callK (perm := [0]) (n := 0) (n' := 1) XA.nil (XA.cons (XE.var rfl) XA.nil) rfl rfl (show ([] : List Nat).Nodup by decide) rfl (ms_is_sea e118) rfl) XE.cst e120) e122 (fun hc => by rw [if_pos hc] at e128; obtain ⟨t123, e124, e128⟩ := bd e128; obtain ⟨t125, e126, e128⟩ := bd e128; have q := Option.some.inj e128; subst q; exact (XE.op2 (XE.callK (perm := [1, 0]) (n := 0) (n' := 2) XA.nil (XA.cons (XE.var rfl) (XA.cons (XE.var rfl) XA.nil)) rfl rfl (show ([] : List Nat).Nodup by decide) rfl (ms_is_standing e124) rfl) XE.cst e126)) (fun hc => by rw [if_neg (Bool.eq_false_iff.mp hc)] at e128; have q := Option.some.inj e128; subst q; exact ⟨rfl, rfl⟩))) (fun ρ hρ => ?_)
    cases h; exact (by simp only [outF, DL.fin, hρ.getD (i := 0) rfl])
noncomputable def m_law (script1 : D) : Option (D) :=
  Option.bind (lenF [script1]) fun t2 =>
  Option.bind (minF [(D.int 3), t2]) fun t4 =>
  Option.bind (addD (D.int 1) t4) fun t6 =>
  Option.bind (rng1 [.val t6]) fun ds8 =>
  Option.bind (cmpP (fun d10 => Option.bind (m_law_box script1 d10) fun t11 =>
  bd2 (m_law_right t11) fun t13 u14 =>
  some [t13]) ds8) fun t16 =>
  Option.bind (allF [(D.lst t16)]) fun r18 =>
  some r18
theorem ms_law {script1 : D} {r : D} (h : m_law script1 = some r) : f_law [.v script1] = some (r, [.v script1]) := by
  unfold m_law at h
  refine mkFn_of (P := [.v script1, .x]) rfl ⟨rfl, trivial, trivial⟩ ?_
  unfold b_law
  obtain ⟨t2, e3, h⟩ := bd h
  obtain ⟨t4, e5, h⟩ := bd h
  obtain ⟨t6, e7, h⟩ := bd h
  obtain ⟨ds8, e9, h⟩ := bd h
  obtain ⟨t16, e17, h⟩ := bd h
  obtain ⟨r18, e19, h⟩ := bd h
  refine WS.ret (XE.callV (XA.cons (XE.comp (P2 := [.v script1, .x]) (Pw := [.v script1, .x]) (XI.arg (XA.cons (XE.op2 XE.cst (XE.callV (XA.cons XE.cst (XA.cons (XE.callV (XA.cons (XE.var rfl) XA.nil) rfl e3) XA.nil)) rfl e5) e7) XA.nil) e9) rfl e17 (by intro d10 z h; obtain ⟨t11, e12, h⟩ := bd h; obtain ⟨t13, u14, e15, h⟩ := bd2_e h; cases h; exact XC.one (XG.v rfl) XT.tt (XE.callT (XE.callF (XA.cons (XE.var rfl) (XA.cons (XE.var rfl) XA.nil)) rfl (msF_law_box e12)) (ms_law_right e15)) rfl ⟨rfl, trivial, trivial⟩) rfl) XA.nil) rfl e19) (fun ρ hρ => ?_)
  cases h; exact rfl
end LW
set_option exponentiation.threshold 10000
namespace LW
open PySem DL
def Box (n : Nat) (d : D) : Prop := ∃ a x c : Int, d = .lst [.int a, .int x, .int c] ∧ 0 ≤ c ∧ c ≤ n
theorem Box.mono {n m : Nat} {d : D} (h : Box n d) (l : n ≤ m) : Box m d := by
  obtain ⟨a, x, c, e, h0, h1⟩ := h
  exact ⟨a, x, c, e, h0, by omega⟩
theorem powD_18 : powD (.int 10) (.int 18) = some (.int 1000000000000000000) := by simp [powD]
theorem powD_12 : powD (.int 10) (.int 12) = some (.int 1000000000000) := by simp [powD]
theorem powD_6 : powD (.int 10) (.int 6) = some (.int 1000000) := by simp [powD]
theorem take_ok {n : Nat} {b : D} {s : Int} (hb : Box n b) (hn : n < 2 ^ 60) (hs : 1 ≤ s) (hs2 : s < 2 ^ 64) : ∃ r b', m_law_take b (.int s) = some (.int r, b') ∧ 0 ≤ r ∧ r < s ∧ Box (n + 1) b' := by
  obtain ⟨a, x, c, rfl, h0, h1⟩ := hb
  have hl : s.natAbs.log2 < 9000 := log_ok (Nat.lt_of_lt_of_le (show s.natAbs < 2 ^ 64 by omega) (Nat.pow_le_pow_right (by decide) (by decide)))
  have p : 0 < s := by omega
  have md : ∀ i j : Int, 0 < j → modD (.int i) (.int j) = some (.int (i % j)) := fun i j h => by simp [modD, h]
  have dv : ∀ i j : Int, 0 < j → j.natAbs.log2 < 9000 → divD (.int i) (.int j) = some (.int (i / j)) := fun i j h h2 => by simp [divD, h, h2]
  by_cases ha : 0 < a
  · refine ⟨a % s, .lst [.int (a / s), .int x, .int c], ?_, Int.emod_nonneg _ (by omega), Int.emod_lt_of_pos _ (by omega), a / s, x, c, rfl, h0, by omega⟩
    have s2 : ∀ y, setL (.lst [.int a, .int x, .int c]) (.int 0) y = some (.lst [y, .int x, .int c]) := fun y => by simp [setL, L2.ixN]
    have i0 : ∀ a x c : D, ixD (.lst [a, x, c]) (.int 0) = some a := fun _ _ _ => by simp
    simp -implicitDefEqProofs only [m_law_take, i0, Option.bind_some, gtD_int, asB_bl, decide_eq_true_eq]
    rw [if_pos ha]
    simp only [md _ _ p, dv _ _ p hl, Option.bind_some, s2]
  · have m1 : ∀ i : Int, mulI (.int i) (.int (39373 + (c + 1))) = some (.int (i * (39373 + (c + 1)))) := fun i => mulI_r (by omega) (by omega)
    have m2 : mulI (.int 48271) (.int (c + 1)) = some (.int (48271 * (c + 1))) := mulI_l (by omega) (by omega)
    have m3 : ∀ i j : Int, mulI (.int i) (.int (j % 40009 + 7)) = some (.int (i * (j % 40009 + 7))) := fun i j => mulI_r (by omega) (by omega)
    have m4 : ∀ i : Int, mulI (.int i) (.int 48271) = some (.int (i * 48271)) := fun i => mulI_r (by omega) (by omega)
    have l1 : (1000003 : Int).natAbs.log2 < 9000 := by decide
    have l2 : (64 : Int).natAbs.log2 < 9000 := by decide
    obtain ⟨o, ho⟩ : ∃ o, (x + 48271 * (c + 1)) * (39373 + (c + 1)) % 2147483647 = o := ⟨_, rfl⟩
    obtain ⟨t, ht⟩ : ∃ t, (o + (c + 1) + x / 1000003) * (o % 40009 + 7) % 2147483629 = t := ⟨_, rfl⟩
    have q : m_law_take (.lst [.int a, .int x, .int c]) (.int s) = some (.int ((t * 48271 + o) % 2147483587 / 64 % s), .lst [.int a, .int x, .int (c + 1)]) := by
      have s2 : setL (.lst [.int a, .int x, .int c]) (.int 2) (.int (c + 1)) = some (.lst [.int a, .int x, .int (c + 1)]) := by simp [setL, L2.ixN]
      have i0 : ∀ a x c : D, ixD (.lst [a, x, c]) (.int 0) = some a := fun _ _ _ => by simp
      have i1 : ∀ a x c : D, ixD (.lst [a, x, c]) (.int 1) = some x := fun _ _ _ => by simp
      have i2 : ∀ a x c : D, ixD (.lst [a, x, c]) (.int 2) = some c := fun _ _ _ => by simp
      simp -implicitDefEqProofs only [m_law_take, i0, i1, i2, Option.bind_some, gtD_int, asB_bl, decide_eq_true_eq]
      rw [if_neg ha]
      simp -implicitDefEqProofs only [addD_int, s2, Option.bind_some, i1, i2, m2, m1, md _ 2147483647 (by decide), ho, dv _ 1000003 (by decide) l1, md _ 40009 (by decide), m3, md _ 2147483629 (by decide), ht, m4, md _ 2147483587 (by decide), dv _ 64 (by decide) l2, md _ _ p]
    exact ⟨_, _, q, Int.emod_nonneg _ (by omega), Int.emod_lt_of_pos _ (by omega), a, x, c + 1, rfl, by omega, by omega⟩
theorem cell_ok (ns : List Int) (k : Nat) : ∃ c : Int, m_law_cell_at (.scr ns) (.int k) = some (.int c) := by
  by_cases h : k < ns.length
  · refine ⟨ns[k], ?_⟩
    simp [m_law_cell_at, lenF, ixD, L2.atI, L2.ixN, h]
  · refine ⟨0, ?_⟩
    simp [m_law_cell_at, lenF, ixD, L2.atI, L2.ixN, h]
theorem box_ok (ns : List Int) (k : Nat) (hk : k < 1000) : ∃ b, m_law_box (.scr ns) (.int k) = some b ∧ Box 0 b := by
  obtain ⟨c, h⟩ := cell_ok ns k
  have m1 : ∀ i : Int, ∀ t : Bool, mulI (.int i) (.int (if t then 1 else 0)) = some (.int (i * (if t then 1 else 0))) := fun i t => mulI_r (by cases t <;> decide) (by cases t <;> decide)
  have m2 : mulI (.int 39373) (.int k) = some (.int (39373 * k)) := mulI_l (by omega) (by omega)
  have i1 : ∀ t : Bool, intF [.bl t] = some (.int (if t then 1 else 0)) := fun _ => rfl
  have a1 : ∀ i : Int, absF [.int i] = some (.int (if i < 0 then -i else i)) := fun _ => rfl
  have g1 : ∀ i j : Int, geD (.int i) (.int j) = some (.bl (decide (j ≤ i))) := fun _ _ => rfl
  refine ⟨_, ?_, (if c < 0 then -c else c) * (if decide ((1000000000000000000 : Int) ≤ (if c < 0 then -c else c)) = true then 1 else 0), c % 2305843009213693951 + 39373 * k + 17, 0, rfl, Int.le_refl _, Int.le_refl _⟩
  simp -implicitDefEqProofs only [m_law_box, h, Option.bind_some, a1, powD_18, g1, i1, m1, m2, addD_int, modD]
  simp [m2, mkLst_3]
theorem of_ok {n : Nat} {b : D} {xs : List D} (hb : Box n b) (hn : n < 2 ^ 60) (h1 : xs ≠ []) (h2 : xs.length ≤ 1000000) : ∃ x b', m_law_of b (.lst xs) = some (x, b') ∧ x ∈ xs ∧ Box (n + 1) b' := by
  have hp : 0 < xs.length := List.length_pos_iff.mpr h1
  obtain ⟨r, b', h, r0, r1, hb'⟩ := take_ok (s := (xs.length : Int)) hb hn (by omega) (by omega)
  have hr : r.toNat < xs.length := by omega
  refine ⟨xs[r.toNat], b', ?_, List.getElem_mem _, hb'⟩
  have hi : L2.atI xs r = some xs[r.toNat] := by
    unfold L2.atI L2.ixN
    rw [if_pos r0, if_pos r1]
    simp
  simp [m_law_of, lenF, h, ixD, hi]
theorem sea_ok {n : Nat} {b : D} {m : Int} (hb : Box n b) (hn : n < 2 ^ 50) (h1 : 1 ≤ m) (h2 : m ≤ 1000) : ∃ (a c far : Int) (xs : List Int) (b' : D),
    m_law_sea b (.int m) = some (.tup [.int a, .int c, .tup (xs.map .int)], b') ∧ 1 ≤ xs.length ∧ (xs.length : Int) ≤ m ∧ 0 ≤ far ∧ far ≤ 10 ^ 12 ∧ far ≤ a ∧ a ≤ far + xs.length + 1 ∧ far ≤ c ∧ c ≤ far + xs.length + 1 ∧ (∀ x ∈ xs, far ≤ x ∧ x ≤ far + 2 * xs.length + 1) ∧ Box (n + 3000) b' := by
  obtain ⟨r1, b1, e1, r1a, r1b, hb1⟩ := take_ok (s := m) hb (by omega) (by omega) (by omega)
  obtain ⟨r2, b2, e2, r2a, r2b, hb2⟩ := take_ok (s := 1000000) hb1 (by omega) (by omega) (by omega)
  obtain ⟨xf, b3, e3, hxf, hb3⟩ := of_ok (xs := [.int 0, .int 0, .int 0, .int (999999999800 - r2)]) hb2 (by omega) (by simp) (by simp)
  obtain ⟨far, rfl, f0, f1⟩ : ∃ far : Int, xf = .int far ∧ 0 ≤ far ∧ far ≤ 999999999800 := by
    simp only [List.mem_cons, List.mem_nil_iff, or_false] at hxf
    rcases hxf with rfl | rfl | rfl | rfl <;> exact ⟨_, rfl, by omega, by omega⟩
  obtain ⟨cnt, hcnt⟩ : ∃ cnt : Int, 1 + r1 = cnt := ⟨_, rfl⟩
  obtain ⟨xw, b4, e4, hxw, hb4⟩ := of_ok (xs := [.int 2, .int (cnt + 2), .int (2 * cnt + 2)]) hb3 (by omega) (by simp) (by simp)
  obtain ⟨w, rfl, w0, w1⟩ : ∃ w : Int, xw = .int w ∧ 2 ≤ w ∧ w ≤ 2 * cnt + 2 := by
    simp only [List.mem_cons, List.mem_nil_iff, or_false] at hxw
    rcases hxw with rfl | rfl | rfl <;> exact ⟨_, rfl, by omega, by omega⟩
  have mc : mulI (.int 2) (.int cnt) = some (.int (2 * cnt)) := mulI_l (by omega) (by omega)
  have q1 : rng1 [.val (.int 2)] = some (rngD 0 2) := rng1_ok (j := 2) (by omega) (by omega)
  have q2 : rng1 [.val (.int cnt)] = some (rngD 0 cnt.toNat) := rng1_ok (by omega) (by omega)
  simp -implicitDefEqProofs only [Option.bind_some, bd2_some, bd3_some, bd4_some, bd5_some, bd6_some, un_2_mk, un_3_mk, un_4_mk, un_5_mk, un_6_mk, flK_rt, flK_nx, asB_bl, asI_int, notD_bl, scG_bl, scG_int, scG_non, scG_str, unL_l, unL_t, un1_t, un2_t, un3_t, un4_t, isKG_l, isTG_l, addD_int, subD_int, ltD_int, leD_int, gtD_int, geD_int, negD_int, eqD_int, neD_int, eqD_bl, neD_bl, mkLst_0, mkTup_0, mkLst_1, mkTup_1, mkLst_2, mkTup_2, mkLst_3, mkTup_3, mkLst_4, mkTup_4, mkLst_5, mkTup_5, mkLst_6, mkTup_6, mkLst_7, mkTup_7, mkLst_8, mkTup_8, mkLst_9, mkTup_9, mkLst_10, mkTup_10, mkLst_11, mkTup_11, mkLst_12, mkTup_12, mkLst_13, mkTup_13, mkLst_14, mkTup_14, mkLst_15, mkTup_15, mkLst_16, mkTup_16, m_law_sea, e1, hcnt, powD_12, powD_6, Int.reduceSub, e2, e3, mc, e4, q1, q2]
  -- the depths
  have s1 := cmpS_one (f := fun d42 => fun boxhere43 => Option.bind (some (D.int (cnt + 2))) fun t44 =>
    bd2 (m_law_take boxhere43 t44) fun t46 boxhere47 => bd2 (m_law_take boxhere47 (D.int 2)) fun t49 boxhere50 => Option.bind (mulI t46 t49) fun t52 => Option.bind (addD (D.int far) t52) fun t54 => some ([t54], boxhere50))
    D.int (I := fun k b => Box (n + 10 + 2 * k) b) (Z := fun _ x => far ≤ x ∧ x ≤ far + cnt + 1) (ds := rngD 0 2) (t := b4) (hb4.mono (by omega)) (by
      intro j d hd b' hb'
      obtain ⟨hj, rfl⟩ := rngD_at hd
      obtain ⟨t1, c1, g1, t1a, t1b, hc1⟩ := take_ok (s := cnt + 2) hb' (by omega) (by omega) (by omega)
      obtain ⟨t2, c2, g2, t2a, t2b, hc2⟩ := take_ok (s := 2) hc1 (by omega) (by omega) (by omega)
      have m1 : mulI (.int t1) (.int t2) = some (.int (t1 * t2)) := mulI_r (by omega) (by omega)
      refine ⟨far + t1 * t2, c2, by simp [g1, g2, m1], hc2.mono (by omega), ?_⟩
      have : t2 = 0 ∨ t2 = 1 := by omega
      rcases this with rfl | rfl <;> simp <;> omega)
  obtain ⟨ys, b5, e5, hb5, l5, q5⟩ := s1
  rw [rngD_len] at l5 hb5
  obtain ⟨y0, y1, rfl⟩ : ∃ y0 y1, ys = [y0, y1] := by
    match ys, l5 with
    | [a, b], _ => exact ⟨a, b, rfl⟩
  have q50 := q5 0 (by simp)
  have q51 := q5 1 (by simp)
  simp only [Option.bind_some] at e5
  simp -implicitDefEqProofs only [Option.bind_some, bd2_some, bd3_some, bd4_some, bd5_some, bd6_some, un_2_mk, un_3_mk, un_4_mk, un_5_mk, un_6_mk, flK_rt, flK_nx, asB_bl, asI_int, notD_bl, scG_bl, scG_int, scG_non, scG_str, unL_l, unL_t, un1_t, un2_t, un3_t, un4_t, isKG_l, isTG_l, addD_int, subD_int, ltD_int, leD_int, gtD_int, geD_int, negD_int, eqD_int, neD_int, eqD_bl, neD_bl, mkLst_0, mkTup_0, mkLst_1, mkTup_1, mkLst_2, mkTup_2, mkLst_3, mkTup_3, mkLst_4, mkTup_4, mkLst_5, mkTup_5, mkLst_6, mkTup_6, mkLst_7, mkTup_7, mkLst_8, mkTup_8, mkLst_9, mkTup_9, mkLst_10, mkTup_10, mkLst_11, mkTup_11, mkLst_12, mkTup_12, mkLst_13, mkTup_13, mkLst_14, mkTup_14, mkLst_15, mkTup_15, mkLst_16, mkTup_16, e5]
  -- the draughts
  have s2 := cmpS_one (f := fun d62 => fun boxhere63 => bd2 (m_law_take boxhere63 (D.int w)) fun t64 boxhere65 => Option.bind (addD (D.int far) t64) fun t67 => some ([t67], boxhere65))
    D.int (I := fun k b => Box (n + 20 + k) b) (Z := fun _ x => far ≤ x ∧ x ≤ far + 2 * cnt + 1) (ds := rngD 0 cnt.toNat) (t := b5) (hb5.mono (by omega)) (by
      intro j d hd b' hb'
      obtain ⟨hj, rfl⟩ := rngD_at hd
      obtain ⟨t1, c1, g1, t1a, t1b, hc1⟩ := take_ok (s := w) hb' (by omega) (by omega) (by omega)
      exact ⟨far + t1, c1, by simp [g1], hc1.mono (by omega), by omega, by omega⟩)
  obtain ⟨xs, b6, e6, hb6, l6, q6⟩ := s2
  rw [rngD_len] at l6 hb6
  simp -implicitDefEqProofs only [Option.bind_some, bd2_some, bd3_some, bd4_some, bd5_some, bd6_some, un_2_mk, un_3_mk, un_4_mk, un_5_mk, un_6_mk, flK_rt, flK_nx, asB_bl, asI_int, notD_bl, scG_bl, scG_int, scG_non, scG_str, unL_l, unL_t, un1_t, un2_t, un3_t, un4_t, isKG_l, isTG_l, addD_int, subD_int, ltD_int, leD_int, gtD_int, geD_int, negD_int, eqD_int, neD_int, eqD_bl, neD_bl, mkLst_0, mkTup_0, mkLst_1, mkTup_1, mkLst_2, mkTup_2, mkLst_3, mkTup_3, mkLst_4, mkTup_4, mkLst_5, mkTup_5, mkLst_6, mkTup_6, mkLst_7, mkTup_7, mkLst_8, mkTup_8, mkLst_9, mkTup_9, mkLst_10, mkTup_10, mkLst_11, mkTup_11, mkLst_12, mkTup_12, mkLst_13, mkTup_13, mkLst_14, mkTup_14, mkLst_15, mkTup_15, mkLst_16, mkTup_16, e6]
  obtain ⟨r7, b7, e7, r7a, r7b, hb7⟩ := take_ok (s := 4) hb6 (by omega) (by omega) (by omega)
  simp -implicitDefEqProofs only [Option.bind_some, bd2_some, bd3_some, bd4_some, bd5_some, bd6_some, un_2_mk, un_3_mk, un_4_mk, un_5_mk, un_6_mk, flK_rt, flK_nx, asB_bl, asI_int, notD_bl, scG_bl, scG_int, scG_non, scG_str, unL_l, unL_t, un1_t, un2_t, un3_t, un4_t, isKG_l, isTG_l, addD_int, subD_int, ltD_int, leD_int, gtD_int, geD_int, negD_int, eqD_int, neD_int, eqD_bl, neD_bl, mkLst_0, mkTup_0, mkLst_1, mkTup_1, mkLst_2, mkTup_2, mkLst_3, mkTup_3, mkLst_4, mkTup_4, mkLst_5, mkTup_5, mkLst_6, mkTup_6, mkLst_7, mkTup_7, mkLst_8, mkTup_8, mkLst_9, mkTup_9, mkLst_10, mkTup_10, mkLst_11, mkTup_11, mkLst_12, mkTup_12, mkLst_13, mkTup_13, mkLst_14, mkTup_14, mkLst_15, mkTup_15, mkLst_16, mkTup_16, e7]
  have q6' : ∀ x ∈ xs, far ≤ x ∧ x ≤ far + 2 * cnt + 1 := fun x hx => by
    obtain ⟨j, hj, e⟩ := List.getElem_of_mem hx
    have := q6 j hj
    rw [e] at this
    exact this
  by_cases h7 : r7 = 0
  · rw [if_pos (by simp [h7])]
    have hx0 : 0 < xs.length := by omega
    have s3 := cmpS_one (f := fun d105 => fun boxhere106 => bd2 (m_law_take boxhere106 (D.int 2)) fun t107 boxhere108 => Option.bind (eqD t107 (D.int 0)) fun t110 => Option.bind (asB t110) fun c112 =>
      Option.bind (if c112 = true then (Option.bind (ixD (D.lst (xs.map D.int)) d105) fun t114 => some t114) else (Option.bind (ixD (D.lst (xs.map D.int)) (D.int 0)) fun t116 => some t116)) fun t118 => some ([t118], boxhere108))
      D.int (I := fun k b => Box (n + 1500 + k) b) (Z := fun _ x => far ≤ x ∧ x ≤ far + 2 * cnt + 1) (ds := rngD 0 cnt.toNat) (t := b7) (hb7.mono (by omega)) (by
        intro j d hd b' hb'
        obtain ⟨hj, rfl⟩ := rngD_at hd
        obtain ⟨t1, c1, g1, t1a, t1b, hc1⟩ := take_ok (s := 2) hb' (by omega) (by omega) (by omega)
        have hjx : j < xs.length := by omega
        by_cases ht : t1 = 0
        · exact ⟨xs[j], c1, by simp [g1, ht, ix_lst, hjx], hc1.mono (by omega), q6' _ (List.getElem_mem _)⟩
        · exact ⟨xs[0], c1, by simp [g1, ht, hx0], hc1.mono (by omega), q6' _ (List.getElem_mem _)⟩)
    obtain ⟨zs, b8, e8, hb8, l8, q8⟩ := s3
    rw [rngD_len] at l8 hb8
    refine ⟨y0, y1, far, zs, b8, ?_, by omega, by omega, f0, by omega, q50.1, ?_, q51.1, ?_, fun x hx => ?_, hb8.mono (by omega)⟩
    · simp -implicitDefEqProofs only [Option.bind_some, bd2_some, bd3_some, bd4_some, bd5_some, bd6_some, un_2_mk, un_3_mk, un_4_mk, un_5_mk, un_6_mk, flK_rt, flK_nx, asB_bl, asI_int, notD_bl, scG_bl, scG_int, scG_non, scG_str, unL_l, unL_t, un1_t, un2_t, un3_t, un4_t, isKG_l, isTG_l, addD_int, subD_int, ltD_int, leD_int, gtD_int, geD_int, negD_int, eqD_int, neD_int, eqD_bl, neD_bl, mkLst_0, mkTup_0, mkLst_1, mkTup_1, mkLst_2, mkTup_2, mkLst_3, mkTup_3, mkLst_4, mkTup_4, mkLst_5, mkTup_5, mkLst_6, mkTup_6, mkLst_7, mkTup_7, mkLst_8, mkTup_8, mkLst_9, mkTup_9, mkLst_10, mkTup_10, mkLst_11, mkTup_11, mkLst_12, mkTup_12, mkLst_13, mkTup_13, mkLst_14, mkTup_14, mkLst_15, mkTup_15, mkLst_16, mkTup_16, q2, e8, tupF]; simp [mkTup_3]
    · have := q50.2; simp at this ⊢; omega
    · have := q51.2; simp at this ⊢; omega
    · obtain ⟨j, hj, e⟩ := List.getElem_of_mem hx
      have := q8 j hj
      rw [e] at this
      omega
  · rw [if_neg (by simp [h7])]
    refine ⟨y0, y1, far, xs, b7, ?_, by omega, by omega, f0, by omega, q50.1, ?_, q51.1, ?_, fun x hx => ?_, hb7.mono (by omega)⟩
    · simp [tupF, mkTup_3]
    · have := q50.2; simp at this ⊢; omega
    · have := q51.2; simp at this ⊢; omega
    · have := q6' x hx; omega
end LW
namespace LW
open PySem DL
def mk (a c : Int) (n : Nat) (s : Int) : Int := if c + n - 1 - s < a + s then c + n - 1 - s else a + s
variable {d : D} {a c : Int} {xs : List Int}
end LW
namespace LW
open PySem DL
variable {d s : D} {a c : Int} {xs : List Int} {S : List Nat}
end LW
namespace LW
open PySem DL
variable {d s s2 : D} {a c : Int} {xs : List Int} {S S2 : List Nat}
end LW
namespace LW
open PySem DL
variable {d s : D} {a c : Int} {xs : List Int} {S : List Nat}
section
variable {T : Nat} {hT : T < xs.length} {hm : ∀ t : Nat, t < xs.length → mk a c xs.length (t : Int) ≤ mk a c xs.length (T : Int)}
end
end LW
namespace LW
open PySem DL
variable {d s : D} {a c : Int} {xs : List Int} {S : List Nat}
section
variable {T : Nat} {hT : T < xs.length} {hm : ∀ t : Nat, t < xs.length → mk a c xs.length (t : Int) ≤ mk a c xs.length (T : Int)}
end
end LW
namespace LW
open PySem DL
variable {d s s2 : D} {a c : Int} {xs : List Int} {S S2 : List Nat}
theorem isi_int (i : Int) : isiD "int" (.int i) = some (.bl true) := rfl
theorem isi_intb (i : Int) : isiD "bool" (.int i) = some (.bl false) := rfl
theorem isi_tup (ds : List D) : isiD "tuple" (.tup ds) = some (.bl true) := rfl
theorem count_ok (i : Nat) : m_is_count (.int (i : Int)) = some (.bl true) := by
  simp -implicitDefEqProofs only [Option.bind_some, bd2_some, bd3_some, bd4_some, bd5_some, bd6_some, un_2_mk, un_3_mk, un_4_mk, un_5_mk, un_6_mk, flK_rt, flK_nx, asB_bl, asI_int, notD_bl, scG_bl, scG_int, scG_non, scG_str, unL_l, unL_t, un1_t, un2_t, un3_t, un4_t, isKG_l, isTG_l, addD_int, subD_int, ltD_int, leD_int, gtD_int, geD_int, negD_int, eqD_int, neD_int, eqD_bl, neD_bl, mkLst_0, mkTup_0, mkLst_1, mkTup_1, mkLst_2, mkTup_2, mkLst_3, mkTup_3, mkLst_4, mkTup_4, mkLst_5, mkTup_5, mkLst_6, mkTup_6, mkLst_7, mkTup_7, mkLst_8, mkTup_8, mkLst_9, mkTup_9, mkLst_10, mkTup_10, mkLst_11, mkTup_11, mkLst_12, mkTup_12, mkLst_13, mkTup_13, mkLst_14, mkTup_14, mkLst_15, mkTup_15, mkLst_16, mkTup_16, m_is_count, m_is_number, isi_int, isi_intb, if_true, Bool.not_false, show decide ((0 : Int) ≤ (i : Int)) = true from decide_eq_true (by omega)]
theorem ships_ok {n : Nat} (hs : SqD s (nD S)) (hS : ∀ i ∈ S, i < n) : m_are_ships (.int (n : Int)) s = some (.bl true) := by
  simp -implicitDefEqProofs only [Option.bind_some, bd2_some, bd3_some, bd4_some, bd5_some, bd6_some, un_2_mk, un_3_mk, un_4_mk, un_5_mk, un_6_mk, flK_rt, flK_nx, asB_bl, asI_int, notD_bl, scG_bl, scG_int, scG_non, scG_str, unL_l, unL_t, un1_t, un2_t, un3_t, un4_t, isKG_l, isTG_l, addD_int, subD_int, ltD_int, leD_int, gtD_int, geD_int, negD_int, eqD_int, neD_int, eqD_bl, neD_bl, mkLst_0, mkTup_0, mkLst_1, mkTup_1, mkLst_2, mkTup_2, mkLst_3, mkTup_3, mkLst_4, mkTup_4, mkLst_5, mkTup_5, mkLst_6, mkTup_6, mkLst_7, mkTup_7, mkLst_8, mkTup_8, mkLst_9, mkTup_9, mkLst_10, mkTup_10, mkLst_11, mkTup_11, mkLst_12, mkTup_12, mkLst_13, mkTup_13, mkLst_14, mkTup_14, mkLst_15, mkTup_15, mkLst_16, mkTup_16, m_are_ships, hs.un]
  rw [show nD S = S.map fun (i : Nat) => D.int (i : Int) from rfl, cmpP_lstM (e := fun (i : Nat) => D.int (i : Int)) (fun _ => .bl true) (by
    intro i hi
    have : decide ((i : Int) < (n : Int)) = true := decide_eq_true (by have := hS i hi; omega)
    simp -implicitDefEqProofs only [Option.bind_some, bd2_some, bd3_some, bd4_some, bd5_some, bd6_some, un_2_mk, un_3_mk, un_4_mk, un_5_mk, un_6_mk, flK_rt, flK_nx, asB_bl, asI_int, notD_bl, scG_bl, scG_int, scG_non, scG_str, unL_l, unL_t, un1_t, un2_t, un3_t, un4_t, isKG_l, isTG_l, addD_int, subD_int, ltD_int, leD_int, gtD_int, geD_int, negD_int, eqD_int, neD_int, eqD_bl, neD_bl, mkLst_0, mkTup_0, mkLst_1, mkTup_1, mkLst_2, mkTup_2, mkLst_3, mkTup_3, mkLst_4, mkTup_4, mkLst_5, mkTup_5, mkLst_6, mkTup_6, mkLst_7, mkTup_7, mkLst_8, mkTup_8, mkLst_9, mkTup_9, mkLst_10, mkTup_10, mkLst_11, mkTup_11, mkLst_12, mkTup_12, mkLst_13, mkTup_13, mkLst_14, mkTup_14, mkLst_15, mkTup_15, mkLst_16, mkTup_16, count_ok, if_true, this])]
  simp -implicitDefEqProofs only [Option.bind_some, bd2_some, bd3_some, bd4_some, bd5_some, bd6_some, un_2_mk, un_3_mk, un_4_mk, un_5_mk, un_6_mk, flK_rt, flK_nx, asB_bl, asI_int, notD_bl, scG_bl, scG_int, scG_non, scG_str, unL_l, unL_t, un1_t, un2_t, un3_t, un4_t, isKG_l, isTG_l, addD_int, subD_int, ltD_int, leD_int, gtD_int, geD_int, negD_int, eqD_int, neD_int, eqD_bl, neD_bl, mkLst_0, mkTup_0, mkLst_1, mkTup_1, mkLst_2, mkTup_2, mkLst_3, mkTup_3, mkLst_4, mkTup_4, mkLst_5, mkTup_5, mkLst_6, mkTup_6, mkLst_7, mkTup_7, mkLst_8, mkTup_8, mkLst_9, mkTup_9, mkLst_10, mkTup_10, mkLst_11, mkTup_11, mkLst_12, mkTup_12, mkLst_13, mkTup_13, mkLst_14, mkTup_14, mkLst_15, mkTup_15, mkLst_16, mkTup_16, allF_map (fun _ => true)]
  simp
theorem standing_ok (h : SeaD d a c xs) (hS : IsSt xs.length S) : m_is_standing d (.tup (nD S)) = some (.bl true) := by
  obtain ⟨X, hX, h2⟩ := h.i2
  have sl : sliceD (.tup (nD S)) (some 1) none = some (.tup (nD S.tail)) := by
    show some (D.tup (cutD (nD S) (some 1) none)) = _
    rw [cut_drop1, nD_tail]
  have zi : zipA [.val (.tup (nD S)), .val (.tup (nD S.tail))] = some ((S.zip S.tail).map fun p => D.tup [.int (p.1 : Int), .int (p.2 : Int)]) := by
    rw [← zip_n]; rfl
  simp -implicitDefEqProofs only [Option.bind_some, bd2_some, bd3_some, bd4_some, bd5_some, bd6_some, un_2_mk, un_3_mk, un_4_mk, un_5_mk, un_6_mk, flK_rt, flK_nx, asB_bl, asI_int, notD_bl, scG_bl, scG_int, scG_non, scG_str, unL_l, unL_t, un1_t, un2_t, un3_t, un4_t, isKG_l, isTG_l, addD_int, subD_int, ltD_int, leD_int, gtD_int, geD_int, negD_int, eqD_int, neD_int, eqD_bl, neD_bl, mkLst_0, mkTup_0, mkLst_1, mkTup_1, mkLst_2, mkTup_2, mkLst_3, mkTup_3, mkLst_4, mkTup_4, mkLst_5, mkTup_5, mkLst_6, mkTup_6, mkLst_7, mkTup_7, mkLst_8, mkTup_8, mkLst_9, mkTup_9, mkLst_10, mkTup_10, mkLst_11, mkTup_11, mkLst_12, mkTup_12, mkLst_13, mkTup_13, mkLst_14, mkTup_14, mkLst_15, mkTup_15, mkLst_16, mkTup_16, m_is_standing, isi_tup, Bool.not_true, Bool.false_eq_true, if_false, hX, h2.len, List.length_map, ships_ok (SqD.t (nD S)) (fun i hi => hS.lt hi), sl, zi]
  rw [cmpP_lstM (e := fun (p : Nat × Nat) => D.tup [.int (p.1 : Int), .int (p.2 : Int)]) (fun _ => .bl true) (by
    intro p hp
    have : decide ((p.1 : Int) < (p.2 : Int)) = true := decide_eq_true (by have := neigh (st_sorted hS) p hp; omega)
    simp -implicitDefEqProofs only [Option.bind_some, bd2_some, bd3_some, bd4_some, bd5_some, bd6_some, un_2_mk, un_3_mk, un_4_mk, un_5_mk, un_6_mk, flK_rt, flK_nx, asB_bl, asI_int, notD_bl, scG_bl, scG_int, scG_non, scG_str, unL_l, unL_t, un1_t, un2_t, un3_t, un4_t, isKG_l, isTG_l, addD_int, subD_int, ltD_int, leD_int, gtD_int, geD_int, negD_int, eqD_int, neD_int, eqD_bl, neD_bl, mkLst_0, mkTup_0, mkLst_1, mkTup_1, mkLst_2, mkTup_2, mkLst_3, mkTup_3, mkLst_4, mkTup_4, mkLst_5, mkTup_5, mkLst_6, mkTup_6, mkLst_7, mkTup_7, mkLst_8, mkTup_8, mkLst_9, mkTup_9, mkLst_10, mkTup_10, mkLst_11, mkTup_11, mkLst_12, mkTup_12, mkLst_13, mkTup_13, mkLst_14, mkTup_14, mkLst_15, mkTup_15, mkLst_16, mkTup_16, this])]
  simp -implicitDefEqProofs only [Option.bind_some, bd2_some, bd3_some, bd4_some, bd5_some, bd6_some, un_2_mk, un_3_mk, un_4_mk, un_5_mk, un_6_mk, flK_rt, flK_nx, asB_bl, asI_int, notD_bl, scG_bl, scG_int, scG_non, scG_str, unL_l, unL_t, un1_t, un2_t, un3_t, un4_t, isKG_l, isTG_l, addD_int, subD_int, ltD_int, leD_int, gtD_int, geD_int, negD_int, eqD_int, neD_int, eqD_bl, neD_bl, mkLst_0, mkTup_0, mkLst_1, mkTup_1, mkLst_2, mkTup_2, mkLst_3, mkTup_3, mkLst_4, mkTup_4, mkLst_5, mkTup_5, mkLst_6, mkTup_6, mkLst_7, mkTup_7, mkLst_8, mkTup_8, mkLst_9, mkTup_9, mkLst_10, mkTup_10, mkLst_11, mkTup_11, mkLst_12, mkTup_12, mkLst_13, mkTup_13, mkLst_14, mkTup_14, mkLst_15, mkTup_15, mkLst_16, mkTup_16, allF_map (fun _ => true)]
  simp
section
variable {T : Nat} {hT : T < xs.length} {hm : ∀ t : Nat, t < xs.length → mk a c xs.length (t : Int) ≤ mk a c xs.length (T : Int)}
end
end LW
namespace LW
open PySem DL
/-- any standing -/
theorem lot_ok {n k : Nat} {b : D} (hb : Box n b) (hn : n < 2 ^ 50) (hk : k ≤ 1000) : ∃ (S : List Nat) (b' : D), m_law_lot b (.int (k : Int)) = some (.tup (nD S), b') ∧ IsSt k S ∧ Box (n + 1010) b' := by
  obtain ⟨xo, b1, e1, ho, hb1⟩ := of_ok (xs := [.int 1, .int 2, .int 2, .int 3, .int 4]) hb (by omega) (by simp) (by simp)
  obtain ⟨o, rfl, o0, o1⟩ : ∃ o : Int, xo = .int o ∧ 1 ≤ o ∧ o ≤ 4 := by
    simp only [List.mem_cons, List.mem_nil_iff, or_false] at ho
    rcases ho with rfl | rfl | rfl | rfl | rfl <;> exact ⟨_, rfl, by omega, by omega⟩
  obtain ⟨r2, b2, e2, r2a, r2b, hb2⟩ := take_ok (s := 8) hb1 (by omega) (by omega) (by omega)
  by_cases h2 : r2 = 0
  · obtain ⟨r3, b3, e3, r3a, r3b, hb3⟩ := take_ok (s := 2) hb2 (by omega) (by omega) (by omega)
    by_cases h3 : r3 = 0
    · refine ⟨List.range k, b3, ?_, ⟨fun _ => true, by rw [List.filter_eq_self.mpr fun _ _ => rfl]⟩, hb3.mono (by omega)⟩
      simp -implicitDefEqProofs only [Option.bind_some, bd2_some, bd3_some, bd4_some, bd5_some, bd6_some, un_2_mk, un_3_mk, un_4_mk, un_5_mk, un_6_mk, flK_rt, flK_nx, asB_bl, asI_int, notD_bl, scG_bl, scG_int, scG_non, scG_str, unL_l, unL_t, un1_t, un2_t, un3_t, un4_t, isKG_l, isTG_l, addD_int, subD_int, ltD_int, leD_int, gtD_int, geD_int, negD_int, eqD_int, neD_int, eqD_bl, neD_bl, mkLst_0, mkTup_0, mkLst_1, mkTup_1, mkLst_2, mkTup_2, mkLst_3, mkTup_3, mkLst_4, mkTup_4, mkLst_5, mkTup_5, mkLst_6, mkTup_6, mkLst_7, mkTup_7, mkLst_8, mkTup_8, mkLst_9, mkTup_9, mkLst_10, mkTup_10, mkLst_11, mkTup_11, mkLst_12, mkTup_12, mkLst_13, mkTup_13, mkLst_14, mkTup_14, mkLst_15, mkTup_15, mkLst_16, mkTup_16, m_law_lot, e1, e2, h2, e3, h3, trg_n k (by omega), decide_true, if_true]
    · refine ⟨[], b3, ?_, ⟨fun _ => false, by rw [List.filter_eq_nil_iff.mpr fun _ _ => Bool.false_ne_true]⟩, hb3.mono (by omega)⟩
      simp -implicitDefEqProofs only [Option.bind_some, bd2_some, bd3_some, bd4_some, bd5_some, bd6_some, un_2_mk, un_3_mk, un_4_mk, un_5_mk, un_6_mk, flK_rt, flK_nx, asB_bl, asI_int, notD_bl, scG_bl, scG_int, scG_non, scG_str, unL_l, unL_t, un1_t, un2_t, un3_t, un4_t, isKG_l, isTG_l, addD_int, subD_int, ltD_int, leD_int, gtD_int, geD_int, negD_int, eqD_int, neD_int, eqD_bl, neD_bl, mkLst_0, mkTup_0, mkLst_1, mkTup_1, mkLst_2, mkTup_2, mkLst_3, mkTup_3, mkLst_4, mkTup_4, mkLst_5, mkTup_5, mkLst_6, mkTup_6, mkLst_7, mkTup_7, mkLst_8, mkTup_8, mkLst_9, mkTup_9, mkLst_10, mkTup_10, mkLst_11, mkTup_11, mkLst_12, mkTup_12, mkLst_13, mkTup_13, mkLst_14, mkTup_14, mkLst_15, mkTup_15, mkLst_16, mkTup_16, m_law_lot, e1, e2, h2, e3, h3, decide_true, decide_false, if_true, Bool.false_eq_true, if_false]
      rfl
  · obtain ⟨p, b3, e3, hb3⟩ := cmpS_sel (f := fun d30 => fun boxhere31 => bd2 (m_law_take boxhere31 (.int o)) fun t32 boxhere33 => Option.bind (eqD t32 (D.int 0)) fun t35 => Option.bind (asB t35) fun c37 => if c37 = true then (some ([d30], boxhere33)) else some ([], boxhere33))
      (n := k) (t := b2) (fun i b => Box (n + 2 + i) b) (hb2.mono (by omega)) (by
        intro i hi b hb
        obtain ⟨r, b', e, _, _, hb'⟩ := take_ok (s := o) hb (by omega) (by omega) (by omega)
        refine ⟨decide (r = 0), b', ?_, hb'.mono (by omega)⟩
        simp -implicitDefEqProofs only [Option.bind_some, bd2_some, bd3_some, bd4_some, bd5_some, bd6_some, un_2_mk, un_3_mk, un_4_mk, un_5_mk, un_6_mk, flK_rt, flK_nx, asB_bl, asI_int, notD_bl, scG_bl, scG_int, scG_non, scG_str, unL_l, unL_t, un1_t, un2_t, un3_t, un4_t, isKG_l, isTG_l, addD_int, subD_int, ltD_int, leD_int, gtD_int, geD_int, negD_int, eqD_int, neD_int, eqD_bl, neD_bl, mkLst_0, mkTup_0, mkLst_1, mkTup_1, mkLst_2, mkTup_2, mkLst_3, mkTup_3, mkLst_4, mkTup_4, mkLst_5, mkTup_5, mkLst_6, mkTup_6, mkLst_7, mkTup_7, mkLst_8, mkTup_8, mkLst_9, mkTup_9, mkLst_10, mkTup_10, mkLst_11, mkTup_11, mkLst_12, mkTup_12, mkLst_13, mkTup_13, mkLst_14, mkTup_14, mkLst_15, mkTup_15, mkLst_16, mkTup_16, e]
        split <;> rfl)
    refine ⟨_, b3, ?_, .mk p, hb3.mono (by omega)⟩
    simp -implicitDefEqProofs only [Option.bind_some, bd2_some, bd3_some, bd4_some, bd5_some, bd6_some, un_2_mk, un_3_mk, un_4_mk, un_5_mk, un_6_mk, flK_rt, flK_nx, asB_bl, asI_int, notD_bl, scG_bl, scG_int, scG_non, scG_str, unL_l, unL_t, un1_t, un2_t, un3_t, un4_t, isKG_l, isTG_l, addD_int, subD_int, ltD_int, leD_int, gtD_int, geD_int, negD_int, eqD_int, neD_int, eqD_bl, neD_bl, mkLst_0, mkTup_0, mkLst_1, mkTup_1, mkLst_2, mkTup_2, mkLst_3, mkTup_3, mkLst_4, mkTup_4, mkLst_5, mkTup_5, mkLst_6, mkTup_6, mkLst_7, mkTup_7, mkLst_8, mkTup_8, mkLst_9, mkTup_9, mkLst_10, mkTup_10, mkLst_11, mkTup_11, mkLst_12, mkTup_12, mkLst_13, mkTup_13, mkLst_14, mkTup_14, mkLst_15, mkTup_15, mkLst_16, mkTup_16, m_law_lot, e1, e2, h2, decide_false, Bool.false_eq_true, if_false, rng_n k (by omega)]
    rw [e3]
    rfl
end LW
namespace LW
open PySem DL
theorem same_ok : ∀ (k : Nat) (d : D) (n : Nat), okD k d = true → k ≤ 60 → k < n → m_law_same_n n d d = some (.bl true) := by
  intro k
  induction k with
  | zero =>
    intro d n h _ l
    obtain ⟨m, rfl⟩ : ∃ m, n = m + 1 := ⟨n - 1, by omega⟩
    have e := eqD_self h (by omega)
    cases d <;> first | (simp [okD] at h; done) | simp [m_law_same_n, isiD, isiD2, tyN, isiN, isD, isND, e]
  | succ k ih =>
    intro d n h hk l
    obtain ⟨m, rfl⟩ : ∃ m, n = m + 1 := ⟨n - 1, by omega⟩
    have e := eqD_self h (by omega)
    have key : ∀ ds : List D, okDs k ds = true → cmpP (fun d35 => bd2 (un2 d35) fun a36 b37 => Option.bind (m_law_same_n m a36 b37) fun t39 => some [t39]) (zipF ds ds) = some (ds.map fun _ => .bl true) := fun ds hs => by
      have hs := okDs_all.mp hs
      have : ∀ ds : List D, zipF ds ds = ds.map fun x => .tup [x, x] := fun ds => by induction ds with | nil => rfl | cons x l ih => simp [zipF, ih]
      rw [this]
      exact cmpP_lstM (fun _ => .bl true) fun x hx => by simp [ih x m (hs x hx) (by omega) (by omega)]
    have al : ∀ ds : List D, allF [.lst (ds.map fun _ => .bl true)] = some (.bl true) := fun ds => by rw [← flatMap_one]; exact allF_one ds
    cases d with
    | lst ds => simp [m_law_same_n, isiD, isiD2, tyN, isiN, lenF, zipA, key ds (by simpa [okD] using h), al]
    | tup ds => simp [m_law_same_n, isiD, isiD2, tyN, isiN, lenF, zipA, key ds (by simpa [okD] using h), al]
    | _ => first | (simp [okD] at h; done) | simp [m_law_same_n, isiD, isiD2, tyN, isiN, isD, isND, e]
theorem same_id {d : D} (h : okD 7 d = true) : m_law_same d d = some (.bl true) := same_ok 7 d 8 h (by omega) (by omega)
end LW
namespace LW
open PySem DL
variable {d s s1 s2 : D} {a c : Int} {xs : List Int} {S S0 S1 S2 : List Nat}
def gd (n : Nat) : D → Bool
  | .int i => decide (0 ≤ i) && decide (i < (n : Int))
  | _ => false
theorem gd_n {n : Nat} : ∀ {ds : List D}, ds.all (gd n) = true → ∃ w : List Nat, ds = nD w ∧ ∀ i ∈ w, i < n
  | [], _ => ⟨[], rfl, fun i hi => nomatch hi⟩
  | d :: ds, h => by
    rw [List.all_cons, Bool.and_eq_true] at h
    obtain ⟨w, rfl, hw⟩ := gd_n h.2
    cases d with
    | int i =>
      have h1 : (decide (0 ≤ i) && decide (i < (n : Int))) = true := h.1
      rw [Bool.and_eq_true, decide_eq_true_eq, decide_eq_true_eq] at h1
      refine ⟨i.toNat :: w, ?_, fun j hj => ?_⟩
      · show D.int i :: nD w = D.int ((i.toNat : Nat) : Int) :: nD w
        rw [Int.toNat_of_nonneg h1.1]
      · rcases List.mem_cons.mp hj with rfl | hj
        · omega
        · exact hw j hj
    | _ => exact nomatch h.1
theorem n_gd {n : Nat} {w : List Nat} (h : ∀ i ∈ w, i < n) : (nD w).all (gd n) = true := List.all_eq_true.mpr fun d hd => by
  obtain ⟨i, hi, rfl⟩ := List.mem_map.mp hd
  have := h i hi
  show (decide (0 ≤ (i : Int)) && decide ((i : Int) < (n : Int))) = true
  rw [decide_eq_true (by omega), decide_eq_true (by omega)]; rfl
/-- a number from 0 on -/
def cntB : D → Bool
  | .int i => decide (0 ≤ i)
  | _ => false
theorem count_any {k : Nat} {x : D} (h : okD k x = true) : m_is_count x = some (.bl (cntB x)) := by
  have ab : ∀ b, asB (.bl b) = some b := fun _ => rfl
  cases x with
  | int i =>
    have e1 : m_is_number (.int i) = some (.bl true) := rfl
    unfold m_is_count
    rw [e1, Option.bind_some, ab, Option.bind_some, if_pos rfl, show geD (.int i) (.int 0) = some (.bl (decide (0 ≤ i))) from rfl, Option.bind_some, Option.bind_some]
    rfl
  | non => rfl
  | bl b => rfl
  | str y => rfl
  | lst ds => rfl
  | tup ds => rfl
  | _ => cases k <;> simp [okD] at h
theorem ships_any {n k : Nat} {ds : List D} (h : okDs k ds = true) : m_are_ships (.int (n : Int)) (.tup ds) = some (.bl (ds.all (gd n))) := by
  have ab : ∀ b, asB (.bl b) = some b := fun _ => rfl
  have cm : cmpP (fun d5 => Option.bind (m_is_count d5) fun t6 => Option.bind (asB t6) fun c8 => Option.bind (if c8 = true then (Option.bind (ltD d5 (.int (n : Int))) fun t10 => some t10) else (some (D.bl false))) fun t12 => some [t12]) (ds.map id) = some (ds.map fun d => D.bl (gd n d)) :=
    cmpP_lstM (e := id) (fun d => D.bl (gd n d)) fun d hd => by
      have hk := okDs_all.mp h d hd
      show Option.bind (m_is_count d) _ = _
      rw [count_any hk, Option.bind_some, ab, Option.bind_some]
      cases d with
      | int i =>
        show Option.bind (if decide (0 ≤ i) = true then Option.bind (ltD (.int i) (.int (n : Int))) _ else _) _ = some [D.bl (decide (0 ≤ i) && decide (i < (n : Int)))]
        rw [show ltD (.int i) (.int (n : Int)) = some (.bl (decide (i < (n : Int)))) from rfl, Option.bind_some]
        cases decide (0 ≤ i) <;> rfl
      | _ => rfl
  rw [List.map_id] at cm
  unfold m_are_ships
  rw [show ∀ ds : List D, unL (.tup ds) = some ds from fun _ => rfl, Option.bind_some, cm, Option.bind_some, allF_map (gd n), Option.bind_some]
theorem adj_sorted : ∀ {w : List Nat}, (∀ p ∈ w.zip w.tail, p.1 < p.2) → w.Pairwise (· < ·)
  | [], _ => .nil
  | [x], _ => List.pairwise_singleton _ _
  | x :: y :: r, h => by
    have ih : (y :: r).Pairwise (· < ·) := adj_sorted fun p hp => h p (List.mem_cons_of_mem _ hp)
    have xy : x < y := h (x, y) List.mem_cons_self
    refine List.pairwise_cons.mpr ⟨fun z hz => ?_, ih⟩
    rcases List.mem_cons.mp hz with rfl | hz
    · exact xy
    · exact Nat.lt_trans xy ((List.pairwise_cons.mp ih).1 z hz)
/-- a thing that is a standing -/
def LotOf (n : Nat) (x : D) : Prop := ∃ F, IsSt n F ∧ x = .tup (nD F)
theorem nD_inj {w v : List Nat} (h : nD w = nD v) : w = v := (List.map_inj_right (fun x y e => by have := D.int.inj e; omega)).mp h
theorem lotof_gd {n : Nat} {ds : List D} (h : LotOf n (.tup ds)) : ds.all (gd n) = true := by
  obtain ⟨F, hF, e⟩ := h
  cases e
  exact n_gd fun i hi => hF.lt hi
theorem lcount_any {k : Nat} {x : D} (h : okD k x = true) : m_law_is_count x = some (.bl (cntB x)) := by
  have ab : ∀ b, asB (.bl b) = some b := fun _ => rfl
  cases x with
  | int i =>
    unfold m_law_is_count
    rw [isi_int, Option.bind_some, ab, Option.bind_some, if_pos rfl, isi_intb, Option.bind_some, show notD (.bl false) = some (.bl true) from rfl, Option.bind_some, ab, Option.bind_some, if_pos rfl, show geD (.int i) (.int 0) = some (.bl (decide (0 ≤ i))) from rfl, Option.bind_some, Option.bind_some, Option.bind_some]
    rfl
  | non => rfl
  | bl b => rfl
  | str y => rfl
  | lst ds => rfl
  | tup ds => rfl
  | _ => cases k <;> simp [okD] at h
theorem cmp_cnt {k : Nat} {f : D → Option D} (hf : ∀ x, okD k x = true → f x = some (.bl (cntB x))) {ds : List D} (h : ∀ x ∈ ds, okD k x = true) : cmpP (fun d => Option.bind (f d) fun t => some [t]) ds = some (ds.map fun x => D.bl (cntB x)) := by
  have := cmpP_lstM (f := fun d => Option.bind (f d) fun t => some [t]) (e := id) (xs := ds) (fun x => D.bl (cntB x)) fun x hx => by
    show Option.bind (f x) _ = _
    rw [hf x (h x hx), Option.bind_some]
  rwa [List.map_id] at this
theorem eq_nilT {ds : List D} (h : okDs 49 ds = true) : eqD (.tup ds) (.tup []) = some (.bl ds.isEmpty) := by
  have ok : okD 60 (.tup ds) = true := okD_up (n := 50) _ (by omega) h
  show (if okD 60 (.tup ds) && okD 60 (.tup []) then some (D.bl (PyData.eqv (py (.tup ds)) (py (.tup [])))) else none) = _
  rw [ok, show okD 60 (.tup []) = true from rfl, if_pos (by decide), py, py, PyData.eqv]
  cases ds with
  | nil => rfl
  | cons x r => rw [pys, pys, PyData.eqvAll]; rfl
def seaB : D → Bool
  | .tup [p, q, .tup r] => cntB p && (cntB q && (!r.isEmpty && r.all cntB))
  | _ => false
theorem issea_any {x : D} (h : okD 50 x = true) : m_is_sea x = some (.bl (seaB x)) := by
  have ab : ∀ b, asB (.bl b) = some b := fun _ => rfl
  have cnt : ∀ {k : Nat} {x : D}, okD k x = true → m_is_count x = some (.bl (cntB x)) := fun {k x} h => count_any h
  have no : ∀ {x : D}, isiD "tuple" x = some (.bl false) → m_is_sea x = some (.bl false) := fun {x} e => by
    unfold m_is_sea
    rw [e, Option.bind_some, ab, Option.bind_some, if_pos (by decide), Option.bind_some, if_pos rfl]
  cases x with
  | tup ds =>
    have hk : okDs 49 ds = true := h
    have badl : ds.length ≠ 3 → m_is_sea (.tup ds) = some (.bl false) := fun n => by
      have n3 : decide ((ds.length : Int) ≠ 3) = true := decide_eq_true (by omega)
      simp -implicitDefEqProofs only [Option.bind_some, bd2_some, bd3_some, bd4_some, bd5_some, bd6_some, un_2_mk, un_3_mk, un_4_mk, un_5_mk, un_6_mk, flK_rt, flK_nx, asB_bl, asI_int, notD_bl, scG_bl, scG_int, scG_non, scG_str, unL_l, unL_t, un1_t, un2_t, un3_t, un4_t, isKG_l, isTG_l, addD_int, subD_int, ltD_int, leD_int, gtD_int, geD_int, negD_int, eqD_int, neD_int, eqD_bl, neD_bl, mkLst_0, mkTup_0, mkLst_1, mkTup_1, mkLst_2, mkTup_2, mkLst_3, mkTup_3, mkLst_4, mkTup_4, mkLst_5, mkTup_5, mkLst_6, mkTup_6, mkLst_7, mkTup_7, mkLst_8, mkTup_8, mkLst_9, mkTup_9, mkLst_10, mkTup_10, mkLst_11, mkTup_11, mkLst_12, mkTup_12, mkLst_13, mkTup_13, mkLst_14, mkTup_14, mkLst_15, mkTup_15, mkLst_16, mkTup_16, m_is_sea, isi_tup, Bool.not_true, Bool.false_eq_true, if_false, len_t, n3, if_true]
    match ds, hk, badl with
    | [p, q, r], hk, _ =>
      have hm := okDs_all.mp hk
      have x0 : ixD (.tup [p, q, r]) (.int 0) = some p := by simp
      have x1 : ixD (.tup [p, q, r]) (.int 1) = some q := by simp
      have x2 : ixD (.tup [p, q, r]) (.int 2) = some r := by simp
      have b3 : decide ((3 : Int) ≠ 3) = false := rfl
      have l3 : lenF [.tup [p, q, r]] = some (.int 3) := rfl
      simp -implicitDefEqProofs only [Option.bind_some, bd2_some, bd3_some, bd4_some, bd5_some, bd6_some, un_2_mk, un_3_mk, un_4_mk, un_5_mk, un_6_mk, flK_rt, flK_nx, asB_bl, asI_int, notD_bl, scG_bl, scG_int, scG_non, scG_str, unL_l, unL_t, un1_t, un2_t, un3_t, un4_t, isKG_l, isTG_l, addD_int, subD_int, ltD_int, leD_int, gtD_int, geD_int, negD_int, eqD_int, neD_int, eqD_bl, neD_bl, mkLst_0, mkTup_0, mkLst_1, mkTup_1, mkLst_2, mkTup_2, mkLst_3, mkTup_3, mkLst_4, mkTup_4, mkLst_5, mkTup_5, mkLst_6, mkTup_6, mkLst_7, mkTup_7, mkLst_8, mkTup_8, mkLst_9, mkTup_9, mkLst_10, mkTup_10, mkLst_11, mkTup_11, mkLst_12, mkTup_12, mkLst_13, mkTup_13, mkLst_14, mkTup_14, mkLst_15, mkTup_15, mkLst_16, mkTup_16, m_is_sea, isi_tup, Bool.not_true, Bool.false_eq_true, if_false, l3, b3, x0, cnt (hm p (by simp))]
      have hr := hm r (by simp)
      cases cp : cntB p with
      | false => cases r <;> simp [seaB, cp]
      | true =>
        simp -implicitDefEqProofs only [Option.bind_some, bd2_some, bd3_some, bd4_some, bd5_some, bd6_some, un_2_mk, un_3_mk, un_4_mk, un_5_mk, un_6_mk, flK_rt, flK_nx, asB_bl, asI_int, notD_bl, scG_bl, scG_int, scG_non, scG_str, unL_l, unL_t, un1_t, un2_t, un3_t, un4_t, isKG_l, isTG_l, addD_int, subD_int, ltD_int, leD_int, gtD_int, geD_int, negD_int, eqD_int, neD_int, eqD_bl, neD_bl, mkLst_0, mkTup_0, mkLst_1, mkTup_1, mkLst_2, mkTup_2, mkLst_3, mkTup_3, mkLst_4, mkTup_4, mkLst_5, mkTup_5, mkLst_6, mkTup_6, mkLst_7, mkTup_7, mkLst_8, mkTup_8, mkLst_9, mkTup_9, mkLst_10, mkTup_10, mkLst_11, mkTup_11, mkLst_12, mkTup_12, mkLst_13, mkTup_13, mkLst_14, mkTup_14, mkLst_15, mkTup_15, mkLst_16, mkTup_16, Bool.not_true, Bool.false_eq_true, if_false, x1, cnt (hm q (by simp))]
        cases cq : cntB q with
        | false => cases r <;> simp [seaB, cp, cq]
        | true =>
          simp -implicitDefEqProofs only [Option.bind_some, bd2_some, bd3_some, bd4_some, bd5_some, bd6_some, un_2_mk, un_3_mk, un_4_mk, un_5_mk, un_6_mk, flK_rt, flK_nx, asB_bl, asI_int, notD_bl, scG_bl, scG_int, scG_non, scG_str, unL_l, unL_t, un1_t, un2_t, un3_t, un4_t, isKG_l, isTG_l, addD_int, subD_int, ltD_int, leD_int, gtD_int, geD_int, negD_int, eqD_int, neD_int, eqD_bl, neD_bl, mkLst_0, mkTup_0, mkLst_1, mkTup_1, mkLst_2, mkTup_2, mkLst_3, mkTup_3, mkLst_4, mkTup_4, mkLst_5, mkTup_5, mkLst_6, mkTup_6, mkLst_7, mkTup_7, mkLst_8, mkTup_8, mkLst_9, mkTup_9, mkLst_10, mkTup_10, mkLst_11, mkTup_11, mkLst_12, mkTup_12, mkLst_13, mkTup_13, mkLst_14, mkTup_14, mkLst_15, mkTup_15, mkLst_16, mkTup_16, Bool.not_true, Bool.false_eq_true, if_false, x2]
          cases r with
          | tup rs =>
            have hrs : okDs 48 rs = true := hr
            have cm := cmp_cnt (f := m_is_count) (k := 48) (fun x hx => cnt hx) (okDs_all.mp hrs)
            simp -implicitDefEqProofs only [Option.bind_some, bd2_some, bd3_some, bd4_some, bd5_some, bd6_some, un_2_mk, un_3_mk, un_4_mk, un_5_mk, un_6_mk, flK_rt, flK_nx, asB_bl, asI_int, notD_bl, scG_bl, scG_int, scG_non, scG_str, unL_l, unL_t, un1_t, un2_t, un3_t, un4_t, isKG_l, isTG_l, addD_int, subD_int, ltD_int, leD_int, gtD_int, geD_int, negD_int, eqD_int, neD_int, eqD_bl, neD_bl, mkLst_0, mkTup_0, mkLst_1, mkTup_1, mkLst_2, mkTup_2, mkLst_3, mkTup_3, mkLst_4, mkTup_4, mkLst_5, mkTup_5, mkLst_6, mkTup_6, mkLst_7, mkTup_7, mkLst_8, mkTup_8, mkLst_9, mkTup_9, mkLst_10, mkTup_10, mkLst_11, mkTup_11, mkLst_12, mkTup_12, mkLst_13, mkTup_13, mkLst_14, mkTup_14, mkLst_15, mkTup_15, mkLst_16, mkTup_16, isi_tup, if_true, len_t, show ∀ i : Int, gtD (.int i) (.int 0) = some (.bl (decide (i > 0))) from fun _ => rfl, show seaB (.tup [p, q, .tup rs]) = (cntB p && (cntB q && (!rs.isEmpty && rs.all cntB))) from rfl, cp, cq, Bool.true_and]
            cases rs with
            | nil => rfl
            | cons y rs =>
              have g0 : decide ((0 : Int) < ((y :: rs).length : Int)) = true := decide_eq_true (by rw [List.length_cons]; omega)
              simp -implicitDefEqProofs only [Option.bind_some, bd2_some, bd3_some, bd4_some, bd5_some, bd6_some, un_2_mk, un_3_mk, un_4_mk, un_5_mk, un_6_mk, flK_rt, flK_nx, asB_bl, asI_int, notD_bl, scG_bl, scG_int, scG_non, scG_str, unL_l, unL_t, un1_t, un2_t, un3_t, un4_t, isKG_l, isTG_l, addD_int, subD_int, ltD_int, leD_int, gtD_int, geD_int, negD_int, eqD_int, neD_int, eqD_bl, neD_bl, mkLst_0, mkTup_0, mkLst_1, mkTup_1, mkLst_2, mkTup_2, mkLst_3, mkTup_3, mkLst_4, mkTup_4, mkLst_5, mkTup_5, mkLst_6, mkTup_6, mkLst_7, mkTup_7, mkLst_8, mkTup_8, mkLst_9, mkTup_9, mkLst_10, mkTup_10, mkLst_11, mkTup_11, mkLst_12, mkTup_12, mkLst_13, mkTup_13, mkLst_14, mkTup_14, mkLst_15, mkTup_15, mkLst_16, mkTup_16, g0, if_true, cm, allF_map cntB]
              rfl
          | non => rfl
          | bl b => rfl
          | int i => rfl
          | str y => rfl
          | lst rs => rfl
          | _ => cases hr
    | [], _, badl => exact badl (by simp)
    | [_], _, badl => exact badl (by simp)
    | [_, _], _, badl => exact badl (by simp)
    | p :: q :: r :: u :: rs, _, badl => exact (badl (by simp)).trans (by cases r <;> rfl)
  | int i => exact no rfl
  | non => exact no rfl
  | bl b => exact no rfl
  | str y => exact no rfl
  | lst ds => exact no rfl
  | _ => cases h
theorem lsea_any {x : D} (h : okD 50 x = true) (hl : ∀ p q rs, x = .tup [p, q, .tup rs] → rs.length ≤ 100000) : m_law_sea_due x = some (.bl (seaB x)) := by
  have ab : ∀ b, asB (.bl b) = some b := fun _ => rfl
  have cnt : ∀ {k : Nat} {x : D}, okD k x = true → m_law_is_count x = some (.bl (cntB x)) := fun {k x} h => lcount_any h
  have no : ∀ {x : D}, isiD "tuple" x = some (.bl false) → m_law_sea_due x = some (.bl false) := fun {x} e => by
    unfold m_law_sea_due
    rw [e, Option.bind_some, ab, Option.bind_some, if_pos (by decide), Option.bind_some, if_pos rfl]
  cases x with
  | tup ds =>
    have hk : okDs 49 ds = true := h
    have badl : ds.length ≠ 3 → m_law_sea_due (.tup ds) = some (.bl false) := fun n => by
      have n3 : decide ((ds.length : Int) ≠ 3) = true := decide_eq_true (by omega)
      simp -implicitDefEqProofs only [Option.bind_some, bd2_some, bd3_some, bd4_some, bd5_some, bd6_some, un_2_mk, un_3_mk, un_4_mk, un_5_mk, un_6_mk, flK_rt, flK_nx, asB_bl, asI_int, notD_bl, scG_bl, scG_int, scG_non, scG_str, unL_l, unL_t, un1_t, un2_t, un3_t, un4_t, isKG_l, isTG_l, addD_int, subD_int, ltD_int, leD_int, gtD_int, geD_int, negD_int, eqD_int, neD_int, eqD_bl, neD_bl, mkLst_0, mkTup_0, mkLst_1, mkTup_1, mkLst_2, mkTup_2, mkLst_3, mkTup_3, mkLst_4, mkTup_4, mkLst_5, mkTup_5, mkLst_6, mkTup_6, mkLst_7, mkTup_7, mkLst_8, mkTup_8, mkLst_9, mkTup_9, mkLst_10, mkTup_10, mkLst_11, mkTup_11, mkLst_12, mkTup_12, mkLst_13, mkTup_13, mkLst_14, mkTup_14, mkLst_15, mkTup_15, mkLst_16, mkTup_16, m_law_sea_due, isi_tup, Bool.not_true, Bool.false_eq_true, if_false, len_t, n3, if_true]
    match ds, hk, badl, hl with
    | [p, q, r], hk, _, hl =>
      have hm := okDs_all.mp hk
      have x2 : ixD (.tup [p, q, r]) (.int 2) = some r := by simp
      have b3 : decide ((3 : Int) ≠ 3) = false := rfl
      have l3 : lenF [.tup [p, q, r]] = some (.int 3) := rfl
      have hr := hm r (by simp)
      simp -implicitDefEqProofs only [Option.bind_some, bd2_some, bd3_some, bd4_some, bd5_some, bd6_some, un_2_mk, un_3_mk, un_4_mk, un_5_mk, un_6_mk, flK_rt, flK_nx, asB_bl, asI_int, notD_bl, scG_bl, scG_int, scG_non, scG_str, unL_l, unL_t, un1_t, un2_t, un3_t, un4_t, isKG_l, isTG_l, addD_int, subD_int, ltD_int, leD_int, gtD_int, geD_int, negD_int, eqD_int, neD_int, eqD_bl, neD_bl, mkLst_0, mkTup_0, mkLst_1, mkTup_1, mkLst_2, mkTup_2, mkLst_3, mkTup_3, mkLst_4, mkTup_4, mkLst_5, mkTup_5, mkLst_6, mkTup_6, mkLst_7, mkTup_7, mkLst_8, mkTup_8, mkLst_9, mkTup_9, mkLst_10, mkTup_10, mkLst_11, mkTup_11, mkLst_12, mkTup_12, mkLst_13, mkTup_13, mkLst_14, mkTup_14, mkLst_15, mkTup_15, mkLst_16, mkTup_16, m_law_sea_due, isi_tup, Bool.not_true, Bool.false_eq_true, if_false, l3, b3, x2]
      cases r with
      | tup rs =>
        have hrs : okDs 48 rs = true := hr
        have hrs' : okDs 49 rs = true := okDs_up rs (by omega) hrs
        have sl : sliceD (.tup [p, q, .tup rs]) none (some 2) = some (.tup [p, q]) := by
          rw [show (2 : Int) = ((2 : Nat) : Int) from rfl, slice_takeT]; rfl
        have t0 : mkTup [] = some (.tup []) := rfl
        have lf : ∀ ds, listF [.tup ds] = some (.lst ds) := fun _ => rfl
        simp -implicitDefEqProofs only [Option.bind_some, bd2_some, bd3_some, bd4_some, bd5_some, bd6_some, un_2_mk, un_3_mk, un_4_mk, un_5_mk, un_6_mk, flK_rt, flK_nx, asB_bl, asI_int, notD_bl, scG_bl, scG_int, scG_non, scG_str, unL_l, unL_t, un1_t, un2_t, un3_t, un4_t, isKG_l, isTG_l, addD_int, subD_int, ltD_int, leD_int, gtD_int, geD_int, negD_int, eqD_int, neD_int, eqD_bl, neD_bl, mkLst_0, mkTup_0, mkLst_1, mkTup_1, mkLst_2, mkTup_2, mkLst_3, mkTup_3, mkLst_4, mkTup_4, mkLst_5, mkTup_5, mkLst_6, mkTup_6, mkLst_7, mkTup_7, mkLst_8, mkTup_8, mkLst_9, mkTup_9, mkLst_10, mkTup_10, mkLst_11, mkTup_11, mkLst_12, mkTup_12, mkLst_13, mkTup_13, mkLst_14, mkTup_14, mkLst_15, mkTup_15, mkLst_16, mkTup_16, isi_tup, Bool.not_true, Bool.false_eq_true, if_false, t0, eq_nilT hrs']
        cases rs with
        | nil => simp [seaB]
        | cons y rs =>
          have lr : [p, q].length + (y :: rs).length ≤ 1000000 → addD (.lst [p, q]) (.lst (y :: rs)) = some (.lst ([p, q] ++ (y :: rs))) := fun h => addD_lst h
          have cm := cmp_cnt (f := m_law_is_count) (k := 49) (ds := [p, q] ++ (y :: rs)) (fun x hx => cnt hx) (fun x hx => by
            rcases List.mem_append.mp hx with z | z
            · exact hm x (by simp only [List.mem_cons, List.mem_nil_iff, or_false] at z ⊢; rcases z with rfl | rfl <;> simp)
            · exact okDs_all.mp hrs' x z)
          have big : [p, q].length + (y :: rs).length ≤ 1000000 := by
            have := hl p q (y :: rs) rfl
            rw [List.length_cons, List.length_cons, List.length_nil]; omega
          simp -implicitDefEqProofs only [Option.bind_some, bd2_some, bd3_some, bd4_some, bd5_some, bd6_some, un_2_mk, un_3_mk, un_4_mk, un_5_mk, un_6_mk, flK_rt, flK_nx, asB_bl, asI_int, notD_bl, scG_bl, scG_int, scG_non, scG_str, unL_l, unL_t, un1_t, un2_t, un3_t, un4_t, isKG_l, isTG_l, addD_int, subD_int, ltD_int, leD_int, gtD_int, geD_int, negD_int, eqD_int, neD_int, eqD_bl, neD_bl, mkLst_0, mkTup_0, mkLst_1, mkTup_1, mkLst_2, mkTup_2, mkLst_3, mkTup_3, mkLst_4, mkTup_4, mkLst_5, mkTup_5, mkLst_6, mkTup_6, mkLst_7, mkTup_7, mkLst_8, mkTup_8, mkLst_9, mkTup_9, mkLst_10, mkTup_10, mkLst_11, mkTup_11, mkLst_12, mkTup_12, mkLst_13, mkTup_13, mkLst_14, mkTup_14, mkLst_15, mkTup_15, mkLst_16, mkTup_16, List.isEmpty_cons, Bool.false_eq_true, if_false, sl, lf, lr big, cm, allF_map cntB]
          simp [seaB, Bool.and_assoc]
      | non => rfl
      | bl b => rfl
      | int i => rfl
      | str y => rfl
      | lst rs => rfl
      | _ => cases hr
    | [], _, badl, _ => exact badl (by simp)
    | [_], _, badl, _ => exact badl (by simp)
    | [_, _], _, badl, _ => exact badl (by simp)
    | p :: q :: r :: u :: rs, _, badl, _ => exact (badl (by simp)).trans (by cases r <;> rfl)
  | int i => exact no rfl
  | non => exact no rfl
  | bl b => exact no rfl
  | str y => exact no rfl
  | lst ds => exact no rfl
  | _ => cases h
open Classical in
theorem islot_any {n : Nat} {x : D} (hn : n < 64) (h : okD 50 x = true) (hl : ∀ w, x = .tup (nD w) → w.length ≤ 1000) : m_law_lot_due (.int (n : Int)) x = some (.bl (decide (LotOf n x))) := by
  have ab : ∀ b, asB (.bl b) = some b := fun _ => rfl
  have no : ∀ {x : D}, isiD "tuple" x = some (.bl false) → (∀ ds, x ≠ .tup ds) → m_law_lot_due (.int (n : Int)) x = some (.bl (decide (LotOf n x))) := fun {x} e ne => by
    rw [decide_eq_false fun ⟨F, _, e⟩ => ne _ e]
    unfold m_law_lot_due
    rw [e, Option.bind_some, ab, Option.bind_some, if_pos (by decide), Option.bind_some, if_pos rfl]
  cases x with
  | tup ds =>
    have hk : okDs 49 ds = true := h
    have cm : cmpP (fun d9 => Option.bind (m_law_is_count d9) fun t10 => Option.bind (asB t10) fun c12 => Option.bind (if c12 = true then (Option.bind (ltD d9 (.int (n : Int))) fun t14 => some t14) else (some (D.bl false))) fun t16 => some [t16]) (ds.map id) = some (ds.map fun d => D.bl (gd n d)) :=
      cmpP_lstM (e := id) (fun d => D.bl (gd n d)) fun d hd => by
        show Option.bind (m_law_is_count d) _ = _
        rw [lcount_any (okDs_all.mp hk d hd), Option.bind_some, ab, Option.bind_some]
        cases d with
        | int i =>
          show Option.bind (if decide (0 ≤ i) = true then Option.bind (ltD (.int i) (.int (n : Int))) _ else _) _ = some [D.bl (decide (0 ≤ i) && decide (i < (n : Int)))]
          rw [show ltD (.int i) (.int (n : Int)) = some (.bl (decide (i < (n : Int)))) from rfl, Option.bind_some]
          cases decide (0 ≤ i) <;> rfl
        | _ => rfl
    rw [List.map_id] at cm
    unfold m_law_lot_due
    rw [isi_tup, Option.bind_some, ab, Option.bind_some, if_neg (by decide), show ∀ ds : List D, unL (.tup ds) = some ds from fun _ => rfl, Option.bind_some, cm, Option.bind_some, allF_map (gd n), Option.bind_some, ab, Option.bind_some, Option.bind_some]
    cases ga : ds.all (gd n) with
    | false =>
      rw [if_pos (by decide), decide_eq_false fun z => by rw [lotof_gd z] at ga; cases ga]
    | true =>
      obtain ⟨w, rfl, hw⟩ := gd_n ga
      have hl' := hl _ rfl
      have so : sosF [.tup (nD w)] = some (.lst (nD ((List.range n).filter fun i => w.contains i))) := (show sosF [.tup (nD w)] = sosF [.lst (nD w)] from rfl).trans (sos_n hw hn (by omega))
      rw [if_neg (by decide), (SqD.t (nD w)).lst, Option.bind_some, so, Option.bind_some, eqD_nl, Option.bind_some]
      refine congrArg (fun b => some (D.bl b)) (decide_eq_decide.mpr ⟨fun e => ⟨w, ?_, rfl⟩, fun ⟨F, hF, e⟩ => ?_⟩)
      · rw [e]; exact IsSt.mk _
      · cases nD_inj (D.tup.inj e)
        exact hF.eq
  | int i => exact no rfl (nofun)
  | non => exact no rfl (nofun)
  | bl b => exact no rfl (nofun)
  | str y => exact no rfl (nofun)
  | lst ds => exact no rfl (nofun)
  | _ => cases h
open Classical in
theorem isstand_any {x : D} (h : SeaD d a c xs) (hk : okD 50 x = true) : m_is_standing d x = some (.bl (decide (LotOf xs.length x))) := by
  have ab : ∀ b, asB (.bl b) = some b := fun _ => rfl
  have no : ∀ {x : D}, isiD "tuple" x = some (.bl false) → (∀ ds, x ≠ .tup ds) → m_is_standing d x = some (.bl (decide (LotOf xs.length x))) := fun {x} e ne => by
    rw [decide_eq_false fun ⟨F, _, e⟩ => ne _ e]
    unfold m_is_standing
    rw [e, Option.bind_some, ab, Option.bind_some, if_pos (by decide), Option.bind_some, if_pos rfl]
  cases x with
  | tup ds =>
    have hk' : okDs 49 ds = true := hk
    obtain ⟨X, hX, h2⟩ := h.i2
    have hxl : lenF [X] = some (.int (xs.length : Int)) := by rw [h2.len, List.length_map]
    unfold m_is_standing
    rw [isi_tup, Option.bind_some, ab, Option.bind_some, if_neg (by decide), hX, Option.bind_some, hxl, Option.bind_some, ships_any hk', Option.bind_some, ab, Option.bind_some, Option.bind_some]
    cases ga : ds.all (gd xs.length) with
    | false =>
      rw [if_pos (by decide), decide_eq_false fun z => by rw [lotof_gd z] at ga; cases ga]
    | true =>
      obtain ⟨w, rfl, hw⟩ := gd_n ga
      have sl : sliceD (.tup (nD w)) (some 1) none = some (.tup (nD w.tail)) := by
        show some (D.tup (cutD (nD w) (some 1) none)) = _
        rw [cut_drop1, nD_tail]
      have zi : zipA [.val (.tup (nD w)), .val (.tup (nD w.tail))] = some ((w.zip w.tail).map fun p => D.tup [.int (p.1 : Int), .int (p.2 : Int)]) := by
        rw [← zip_n]; rfl
      have cm : cmpP (fun d23 => bd2 (un2 d23) fun one24 other25 => Option.bind (ltD one24 other25) fun t27 => some [t27]) ((w.zip w.tail).map fun p => D.tup [.int (p.1 : Int), .int (p.2 : Int)]) = some ((w.zip w.tail).map fun p => D.bl (decide ((p.1 : Int) < (p.2 : Int)))) :=
        cmpP_lstM (e := fun (p : Nat × Nat) => D.tup [.int (p.1 : Int), .int (p.2 : Int)]) (fun p => D.bl (decide ((p.1 : Int) < (p.2 : Int)))) fun p _ => rfl
      rw [if_neg (by decide), show asI (.int 1) = some 1 from rfl, Option.bind_some, sl, Option.bind_some, zi, Option.bind_some, cm, Option.bind_some, allF_map (fun p : Nat × Nat => decide ((p.1 : Int) < (p.2 : Int))), Option.bind_some]
      refine congrArg (fun b => some (D.bl b)) ?_
      rw [Bool.eq_iff_iff, decide_eq_true_eq, List.all_eq_true]
      constructor
      · intro z
        refine ⟨w, IsSt.of (adj_sorted fun p hp => ?_) hw, rfl⟩
        have := of_decide_eq_true (z p hp)
        omega
      · rintro ⟨F, hF, e⟩
        cases nD_inj (D.tup.inj e)
        intro p hp
        have := neigh (st_sorted hF) p hp
        exact decide_eq_true (by omega)
  | int i => exact no rfl (nofun)
  | non => exact no rfl (nofun)
  | bl b => exact no rfl (nofun)
  | str y => exact no rfl (nofun)
  | lst ds => exact no rfl (nofun)
  | _ => cases hk
end LW
namespace LW
open PySem DL
variable {d s s1 s2 : D} {a c : Int} {xs : List Int} {S S0 S1 S2 : List Nat}
mutual
def wt : D → Nat
  | .int _ => 48
  | .str _ => 20
  | .lst ds => wts ds
  | .tup ds => wts ds
  | _ => 0
def wts : List D → Nat
  | [] => 0
  | x :: r => wt x + 1 + wts r
end
theorem wts_app : ∀ a b : List D, wts (a ++ b) = wts a + wts b
  | [], b => by rw [List.nil_append, wts, Nat.zero_add]
  | x :: a, b => by rw [List.cons_append, wts, wts, wts_app a b]; omega
theorem wts_rev : ∀ a : List D, wts a.reverse = wts a
  | [] => rfl
  | x :: a => by rw [List.reverse_cons, wts_app, wts_rev a, wts, wts, wts]; omega
theorem wts_len : ∀ a : List D, a.length ≤ wts a
  | [] => Nat.le_refl _
  | x :: a => by have := wts_len a; rw [wts, List.length_cons]; omega
theorem wts_nD : ∀ w : List Nat, wts (nD w) = 49 * w.length
  | [] => rfl
  | x :: w => by
    show wts (.int (x : Int) :: nD w) = _
    rw [wts, wts_nD w, wt, List.length_cons]; omega
theorem wt_in : ∀ {l : List D} {x : D}, x ∈ l → wt x + 1 ≤ wts l
  | y :: l, x, h => by
    rw [wts]
    rcases List.mem_cons.mp h with rfl | h
    · omega
    · have := wt_in h; omega
theorem wts_set : ∀ (l : List D) (i : Nat) (y : D), wts (l.set i y) ≤ wts l + wt y
  | [], i, y => by rw [List.set_nil]; omega
  | x :: l, 0, y => by rw [List.set_cons_zero, wts, wts]; omega
  | x :: l, i + 1, y => by have := wts_set l i y; rw [List.set_cons_succ, wts, wts]; omega
/-- a text of so few signs -/
def Sh (x : Str) : Prop := x.cps.size ≤ 20 ∧ (x.cps.toList.all fun c => decide (c < 16 ^ 8)) = true
/-- a thing of depth k at most, of numbers to b -/
def Gd (b : Nat) : Nat → D → Prop
  | _, .non => True
  | _, .bl _ => True
  | _, .int i => i.natAbs ≤ b
  | _, .str x => Sh x
  | k + 1, .lst ds => ∀ x ∈ ds, Gd b k x
  | k + 1, .tup ds => ∀ x ∈ ds, Gd b k x
  | _, _ => False
variable {b b' : Nat}
theorem Gd.up : ∀ {k : Nat} {d : D}, Gd b k d → b ≤ b' → Gd b' (k + 1) d
  | 0, .non, _, _ => trivial
  | _ + 1, .non, _, _ => trivial
  | 0, .bl _, _, _ => trivial
  | _ + 1, .bl _, _, _ => trivial
  | 0, .int i, h, l => Nat.le_trans (show i.natAbs ≤ b from h) l
  | _ + 1, .int i, h, l => Nat.le_trans (show i.natAbs ≤ b from h) l
  | 0, .str _, h, _ => h
  | _ + 1, .str _, h, _ => h
  | k + 1, .lst ds, h, l => fun x hx => Gd.up (h x hx) l
  | k + 1, .tup ds, h, l => fun x hx => Gd.up (h x hx) l
theorem Gd.same : ∀ {k : Nat} {d : D}, Gd b k d → b ≤ b' → Gd b' k d
  | 0, .non, _, _ => trivial
  | _ + 1, .non, _, _ => trivial
  | 0, .bl _, _, _ => trivial
  | _ + 1, .bl _, _, _ => trivial
  | 0, .int i, h, l => Nat.le_trans (show i.natAbs ≤ b from h) l
  | _ + 1, .int i, h, l => Nat.le_trans (show i.natAbs ≤ b from h) l
  | 0, .str _, h, _ => h
  | _ + 1, .str _, h, _ => h
  | k + 1, .lst ds, h, l => fun x hx => Gd.same (h x hx) l
  | k + 1, .tup ds, h, l => fun x hx => Gd.same (h x hx) l
theorem Gd.mono {k m : Nat} {d : D} (h : Gd b k d) (l : k ≤ m) (l' : b ≤ b') : Gd b' m d := by
  obtain ⟨j, rfl⟩ : ∃ j, m = k + j := ⟨m - k, by omega⟩
  clear l
  induction j with
  | zero => exact h.same l'
  | succ j ih => exact ih.up (Nat.le_refl _)
theorem Gd.ok : ∀ {k : Nat} {d : D}, Gd b k d → okD k d = true
  | 0, .non, _ => rfl
  | _ + 1, .non, _ => rfl
  | 0, .bl _, _ => rfl
  | _ + 1, .bl _, _ => rfl
  | 0, .int _, h => rfl
  | _ + 1, .int _, h => rfl
  | 0, .str _, h => rfl
  | _ + 1, .str _, h => rfl
  | k + 1, .lst ds, h => by rw [okD_lst]; exact okDs_all.mpr fun x hx => Gd.ok (h x hx)
  | k + 1, .tup ds, h => by rw [okD_tup]; exact okDs_all.mpr fun x hx => Gd.ok (h x hx)
def Tm (k m : Nat) (d : D) : Prop := ∃ p, pyD d = some p ∧ p.showable = true ∧ p.hasDict = false ∧ p.depth ≤ k ∧ p.leavesShort 20 = true ∧ p.weight ≤ m
def Tms (k m : Nat) (l : List D) : Prop := ∃ q, pyDs l = some q ∧ PyData.showableAll q = true ∧ PyData.hasDictAll q = false ∧ PyData.depthAll q ≤ k ∧ PyData.leavesShortAll 20 q = true ∧ PyData.weightAll q ≤ m
theorem tms_of {k : Nat} : ∀ {l : List D}, (∀ d ∈ l, Tm k (wt d) d) → Tms k (wts l) l
  | [], _ => ⟨[], rfl, rfl, rfl, Nat.zero_le _, rfl, Nat.zero_le _⟩
  | d :: l, h => by
    obtain ⟨p, a1, a2, a3, a4, a5, a6⟩ := h d List.mem_cons_self
    obtain ⟨q, b1, b2, b3, b4, b5, b6⟩ := tms_of fun x z => h x (List.mem_cons_of_mem _ z)
    refine ⟨p :: q, by simp only [pyDs, a1, b1, Option.bind_some, Option.map_some], by simp only [PyData.showableAll, a2, b2, Bool.and_self], by simp only [PyData.hasDictAll, a3, b3, Bool.or_self],
      by simp only [PyData.depthAll]; omega, by simp only [PyData.leavesShortAll, a5, b5, Bool.and_self], ?_⟩
    simp only [PyData.weightAll, wts]
    omega
theorem log2_lt {n : Nat} (h : n ≤ 10 ^ 14) : n.log2 < 47 := by
  by_cases z : n = 0
  · subst z; decide
  · rw [Nat.log2_lt z]; omega
theorem small_cps (s : String) : ((PySem.Str.ofString s).cps.toList.all fun c => decide (c < 16 ^ 8)) = true := by
  rw [List.all_eq_true]
  intro c hc
  have : ∃ ch : Char, c = ch.toNat := by
    rw [PySem.Str.ofString_eq_toList] at hc
    simp at hc
    obtain ⟨ch, _, e⟩ := hc
    exact ⟨ch, e.symm⟩
  obtain ⟨ch, rfl⟩ := this
  refine decide_eq_true ?_
  have := ch.val.toNat_lt
  show ch.val.toNat < _
  omega
theorem len_int {i : Int} (h : i.natAbs ≤ 10 ^ 14) : (PySem.Str.ofString (toString i)).length ≤ 20 := by
  cases i with
  | ofNat n =>
    exact Nat.le_trans (PyProof.Rows.toString_length_le (v := (n : Int)) (k := 15) (by omega) (by decide) (by have h : n ≤ 10 ^ 14 := h; omega)) (by omega)
  | negSucc n =>
    have h : n + 1 ≤ 10 ^ 14 := h
    have e := PyProof.Rows.toString_length_le (v := ((n + 1 : Nat) : Int)) (k := 15) (by omega) (by decide) (by omega)
    rw [PyProof.Rows.ofString_length] at e ⊢
    have : toString (Int.negSucc n) = "-" ++ toString ((n + 1 : Nat) : Int) := rfl
    rw [this, String.toList_append, List.length_append]
    have : ("-" : String).toList.length = 1 := rfl
    omega
theorem sh_int {i : Int} (h : i.natAbs ≤ 10 ^ 14) : Sh (PySem.Str.ofString (toString i)) := ⟨len_int h, small_cps _⟩
theorem Gd.tm (hb : b ≤ 10 ^ 14) : ∀ {k : Nat} {d : D}, Gd b k d → Tm k (wt d) d
  | 0, .non, _ => ⟨.none, rfl, rfl, rfl, Nat.zero_le _, rfl, Nat.zero_le _⟩
  | _ + 1, .non, _ => ⟨.none, rfl, rfl, rfl, Nat.zero_le _, rfl, Nat.zero_le _⟩
  | 0, .bl b, _ => ⟨.bool b, rfl, rfl, rfl, Nat.zero_le _, rfl, Nat.zero_le _⟩
  | _ + 1, .bl b, _ => ⟨.bool b, rfl, rfl, rfl, Nat.zero_le _, rfl, Nat.zero_le _⟩
  | 0, .int i, h => tm_int hb h
  | _ + 1, .int i, h => tm_int hb h
  | 0, .str x, h => tm_str h
  | _ + 1, .str x, h => tm_str h
  | k + 1, .lst ds, h => by
    obtain ⟨q, b1, b2, b3, b4, b5, b6⟩ := tms_of fun x hx => Gd.tm hb (h x hx)
    exact ⟨.list q, by simp only [pyD, b1, Option.map_some], by simp only [PyData.showable, b2], by simp only [PyData.hasDict, b3], by simp only [PyData.depth]; omega, by simp only [PyData.leavesShort, b5], by simp only [PyData.weight, wt]; omega⟩
  | k + 1, .tup ds, h => by
    obtain ⟨q, b1, b2, b3, b4, b5, b6⟩ := tms_of fun x hx => Gd.tm hb (h x hx)
    exact ⟨.tuple q, by simp only [pyD, b1, Option.map_some], by simp only [PyData.showable, b2], by simp only [PyData.hasDict, b3], by simp only [PyData.depth]; omega, by simp only [PyData.leavesShort, b5], by simp only [PyData.weight, wt]; omega⟩
where
  tm_int {k : Nat} {i : Int} (hb : b ≤ 10 ^ 14) (h : i.natAbs ≤ b) : Tm k 48 (.int i) := by
    have h : i.natAbs ≤ 10 ^ 14 := Nat.le_trans h hb
    have l := log2_lt h
    refine ⟨.int i, rfl, ?_, rfl, Nat.zero_le _, ?_, ?_⟩
    · simp only [PyData.showable, decide_eq_true_eq]; omega
    · simp only [PyData.leavesShort, decide_eq_true_eq, PyData.shown]
      exact decide_eq_true (len_int h)
    · simp only [PyData.weight]; split
      · omega
      · omega
  tm_str {k : Nat} {x : Str} (h : Sh x) : Tm k 20 (.str x) := ⟨.str x, rfl, rfl, rfl, Nat.zero_le _, h.2, h.1⟩
/-- it may be told -/
theorem rep_gd (hb : b ≤ 10 ^ 14) {k : Nat} {d : D} (h : Gd b k d) (hk : k ≤ 59) (hw : wt d ≤ 2 ^ 19) : ∃ s, reprY [d] = some (.str s) := by
  obtain ⟨p, a1, a2, a3, a4, a5, a6⟩ := h.tm hb
  have tl : tellable2 p = true := by
    simp only [tellable2, a2, a3, a5, Bool.not_false, Bool.and_true, Bool.true_and, Bool.and_eq_true, decide_eq_true_eq]
    exact ⟨by omega, by omega⟩
  cases d with
  | non => exact ⟨_, rfl⟩
  | bl b => cases b <;> exact ⟨_, rfl⟩
  | int i =>
    refine ⟨((toString i : String) : Str), ?_⟩
    have h : i.natAbs ≤ b := by cases k <;> exact h
    have l := log2_lt (Nat.le_trans h hb)
    show (if i.natAbs.log2 < 1920 then some (D.str (toString i)) else none) = _
    rw [if_pos (by omega)]
  | str x =>
    have sx : Sh x := by cases k <;> exact h
    have e : PyData.shown (.str x) = reprText x := by rw [PyData.shown]
    have sh := PyData.shown_le 20 (by omega) (.str x) sx.2
    have w : PyData.weight (.str x) ≤ 20 := sx.1
    rw [e] at sh
    refine ⟨reprText x, ?_⟩
    show (if (reprText x).length ≤ sizeLine then some (D.str (reprText x)) else none) = _
    rw [if_pos (by have hs : sizeLine = 16777216 := sizeLine_eq; omega)]
  | lst ds =>
    simp only [pyD, Option.map_eq_some_iff] at a1
    obtain ⟨q, hq, rfl⟩ := a1
    refine ⟨PyData.shown (.list q), ?_⟩
    show ((pyDs ds).bind fun q => if tellable2 (.list q) = true then some (D.str (PyData.shown (.list q))) else none) = _
    rw [hq, Option.bind_some, if_pos tl]
  | tup ds =>
    simp only [pyD, Option.map_eq_some_iff] at a1
    obtain ⟨q, hq, rfl⟩ := a1
    refine ⟨PyData.shown (.tuple q), ?_⟩
    show ((pyDs ds).bind fun q => if tellable2 (.tuple q) = true then some (D.str (PyData.shown (.tuple q))) else none) = _
    rw [hq, Option.bind_some, if_pos tl]
  | _ => cases k <;> exact h.elim
end LW
namespace LW
open PySem DL
variable {d s s1 s2 : D} {a c : Int} {xs : List Int} {S S0 S1 S2 : List Nat} {B : Nat}
theorem eqI (u v : Int) : eqD (.int u) (.int v) = some (.bl (decide (u = v))) := by
  have := eqv_int u v
  show some (D.bl (PyData.eqv (py (.int u)) (py (.int v)))) = _
  rw [this]
theorem wts_sub {l l' : List D} (h : l.Sublist l') : wts l ≤ wts l' := by
  induction h with
  | slnil => exact Nat.le_refl _
  | cons x _ ih => rw [wts]; omega
  | cons_cons x _ ih => rw [wts, wts]; omega
theorem cut_sub {ds : List D} {lo hi : Option Int} : (cutD ds lo hi).Sublist ds := by
  unfold cutD
  exact (List.take_sublist _ _).trans (List.drop_sublist _ _)
theorem set_at {ds : List D} {j : Nat} (h : j < ds.length) (hl : ds.length ≤ 1000000) (y : D) : setL (.lst ds) (.int (j : Int)) y = some (.lst (ds.set j y)) := by
  show (L2.ixN _ (j : Int)).map _ = _
  have e : L2.ixN ds.length (j : Int) = some j := by
    unfold L2.ixN; rw [if_pos (by omega), if_pos (by omega), Int.toNat_natCast]
  rw [e, Option.map_some]
def OddL : List D := [.non, .bl true, .bl false, .int 0, .int 1, .int (-1), .int 7, .int 10000000000000, .str "", .str "here", .tup [], .lst [], .tup [.int 0], .tup [.int 1, .int 0], .tup [.int 0, .int 0], .lst [.int 0], .tup [.int 0, .int 1, .tup []]]
theorem odd_in (hB : 10 ^ 13 ≤ B) : ∀ y ∈ OddL, Gd B 2 y ∧ wt y ≤ 100 := by
  intro y hy
  unfold OddL at hy
  have g0 : ∀ {k : Nat} {i : Int}, i.natAbs ≤ B → Gd B k (.int i) := fun {k i} h => by cases k <;> exact h
  have s1 : ∀ {k : Nat} {i : Int}, i.natAbs ≤ B → ∀ x ∈ [D.int i], Gd B k x := fun h x hx => by rw [List.mem_singleton.mp hx]; exact g0 h
  have s2 : ∀ {k : Nat} {i j : Int}, i.natAbs ≤ B → j.natAbs ≤ B → ∀ x ∈ [D.int i, .int j], Gd B k x := fun h h' x hx => by
    simp only [List.mem_cons, List.mem_nil_iff, or_false] at hx
    rcases hx with rfl | rfl
    · exact g0 h
    · exact g0 h'
  simp only [List.mem_cons, List.mem_nil_iff, or_false] at hy
  rcases hy with rfl | rfl | rfl | rfl | rfl | rfl | rfl | rfl | rfl | rfl | rfl | rfl | rfl | rfl | rfl | rfl | rfl
  · exact ⟨trivial, by decide⟩
  · exact ⟨trivial, by decide⟩
  · exact ⟨trivial, by decide⟩
  · exact ⟨g0 (by omega), by decide⟩
  · exact ⟨g0 (by omega), by decide⟩
  · exact ⟨g0 (by omega), by decide⟩
  · exact ⟨g0 (by omega), by decide⟩
  · exact ⟨g0 (by omega), by decide⟩
  · exact ⟨⟨by decide, by decide⟩, by decide⟩
  · exact ⟨⟨by decide, by decide⟩, by decide⟩
  · exact ⟨(nofun), by decide⟩
  · exact ⟨(nofun), by decide⟩
  · exact ⟨s1 (by omega), by decide⟩
  · exact ⟨s2 (by omega) (by omega), by decide⟩
  · exact ⟨s2 (by omega) (by omega), by decide⟩
  · exact ⟨s1 (by omega), by decide⟩
  · refine ⟨fun x hx => ?_, by decide⟩
    simp only [List.mem_cons, List.mem_nil_iff, or_false] at hx
    rcases hx with rfl | rfl | rfl
    · exact g0 (by omega)
    · exact g0 (by omega)
    · exact (nofun)
theorem odd_ok {n k : Nat} {b x : D} (hb : Box n b) (hn : n < 2 ^ 55) (hB : 10 ^ 13 ≤ B) (hB2 : B + 1 ≤ 10 ^ 14) (hx : Gd B k x) : ∃ y b', m_law_odd b x = some (y, b') ∧ Gd (B + 1) 2 y ∧ wt y ≤ 100 ∧ Box (n + 1) b' := by
  have ab : ∀ b, asB (.bl b) = some b := fun _ => rfl
  have pw : powD (.int 10) (.int 13) = some (.int 10000000000000) := by simp [powD]
  have n1 : negD (.int 1) = some (.int (-1)) := rfl
  have ml0 : mkLst [] = some (.lst []) := rfl
  have mt0 : mkTup [] = some (.tup []) := rfl
  have mt1 : ∀ x : D, mkTup [x] = some (.tup [x]) := fun _ => rfl
  have mt2 : ∀ x y : D, mkTup [x, y] = some (.tup [x, y]) := fun _ _ => rfl
  have mt3 : ∀ x y z : D, mkTup [x, y, z] = some (.tup [x, y, z]) := fun _ _ _ => rfl
  have ml1 : ∀ x : D, mkLst [x] = some (.lst [x]) := fun _ => rfl
  have ml4 : ∀ x y z u : D, mkLst [x, y, z, u] = some (.lst [x, y, z, u]) := fun _ _ _ _ => rfl
  have mlO : mkLst [.non, .bl true, .bl false, .int 0, .int 1, .int (-1), .int 7, .int 10000000000000, .str "", .str "here", .tup [], .lst [], .tup [.int 0], .tup [.int 1, .int 0], .tup [.int 0, .int 0], .lst [.int 0], .tup [.int 0, .int 1, .tup []]] = some (.lst OddL) := rfl
  have oi := odd_in hB
  have oi' : ∀ y ∈ OddL, Gd (B + 1) 2 y ∧ wt y ≤ 100 := fun y hy => ⟨(oi y hy).1.mono (by omega) (by omega), (oi y hy).2⟩
  have lO : OddL.length = 17 := rfl
  -- the four more of a number
  have more : ∀ ys : List D, ys.length = 4 → (∀ y ∈ ys, Gd (B + 1) 2 y ∧ wt y ≤ 100) → ∃ y b', m_law_of b (.lst (OddL ++ ys)) = some (y, b') ∧ Gd (B + 1) 2 y ∧ wt y ≤ 100 ∧ Box (n + 1) b' := fun ys l h => by
    obtain ⟨y, b', e, hy, hb'⟩ := of_ok (xs := OddL ++ ys) hb (by omega) (by intro z; have := congrArg List.length z; rw [List.length_append, lO] at this; simp at this) (by rw [List.length_append, lO]; omega)
    rcases List.mem_append.mp hy with z | z
    · exact ⟨y, b', e, (oi' y z).1, (oi' y z).2, hb'⟩
    · exact ⟨y, b', e, (h y z).1, (h y z).2, hb'⟩
  have none_ : isiD "int" x = some (.bl false) → ∃ y b', m_law_odd b x = some (y, b') ∧ Gd (B + 1) 2 y ∧ wt y ≤ 100 ∧ Box (n + 1) b' := fun e => by
    obtain ⟨y, b', e1, hy, hb'⟩ := of_ok (xs := OddL) hb (by omega) (by decide) (by rw [lO]; omega)
    refine ⟨y, b', ?_, (oi' y hy).1, (oi' y hy).2, hb'⟩
    unfold m_law_odd
    rw [n1, Option.bind_some, pw, Option.bind_some, mt0, Option.bind_some, ml0, Option.bind_some, mt1, Option.bind_some, mt2, Option.bind_some, mt2, Option.bind_some, ml1, Option.bind_some, Option.bind_some, mt3, Option.bind_some, mlO, Option.bind_some, e, Option.bind_some, ab, Option.bind_some, if_neg Bool.false_ne_true, Option.bind_some, e1, bd2_some]
  have num : ∀ (p q : Int) (z : Str) (e : Bool), isiD "int" x = some (.bl true) → addB x (.int 1) = some (.int p) → subB (.int 0) x = some (.int q) → strF [x] = some (.str z) → eqD x (.int 1) = some (.bl e) → p.natAbs ≤ B + 1 → q.natAbs ≤ B + 1 → Sh z → ∃ y b', m_law_odd b x = some (y, b') ∧ Gd (B + 1) 2 y ∧ wt y ≤ 100 ∧ Box (n + 1) b' := fun p q z e h1 h2 h3 h4 h5 hp hq hz => by
    obtain ⟨y, b', e1, g, w, hb'⟩ := more [.int p, .int q, .str z, .bl e] rfl fun y hy => by
      simp only [List.mem_cons, List.mem_nil_iff, or_false] at hy
      rcases hy with rfl | rfl | rfl | rfl
      · exact ⟨hp, by rw [wt]; omega⟩
      · exact ⟨hq, by rw [wt]; omega⟩
      · exact ⟨hz, by rw [wt]; omega⟩
      · exact ⟨trivial, by cases e <;> decide⟩
    refine ⟨y, b', ?_, g, w, hb'⟩
    unfold m_law_odd
    rw [n1, Option.bind_some, pw, Option.bind_some, mt0, Option.bind_some, ml0, Option.bind_some, mt1, Option.bind_some, mt2, Option.bind_some, mt2, Option.bind_some, ml1, Option.bind_some, Option.bind_some, mt3, Option.bind_some, mlO, Option.bind_some, h1, Option.bind_some, ab, Option.bind_some, if_pos rfl, h2, Option.bind_some, h3, Option.bind_some, h4, Option.bind_some, h5, Option.bind_some, ml4, Option.bind_some, addD_lst (by rw [lO]; simp), Option.bind_some, Option.bind_some, e1, bd2_some]
  cases x with
  | int i =>
    have hi : i.natAbs ≤ B := by cases k <;> exact hx
    have l := log2_lt (show i.natAbs ≤ 10 ^ 14 by omega)
    refine num (i + 1) (0 - i) (PySem.Str.ofString (toString i)) (decide (i = 1)) rfl rfl rfl ?_ (eqI i 1) (by omega) (by omega) (sh_int (by omega))
    show (if i.natAbs.log2 < 1920 then some (D.str (toString i)) else none) = _
    rw [if_pos (by omega)]
  | bl v =>
    cases v
    · exact num 1 0 "False" false rfl rfl rfl rfl rfl (by omega) (by omega) ⟨by decide, by decide⟩
    · exact num 2 (-1) "True" true rfl rfl rfl rfl rfl (by omega) (by omega) ⟨by decide, by decide⟩
  | non => exact none_ rfl
  | str y => exact none_ rfl
  | lst ds => exact none_ rfl
  | tup ds => exact none_ rfl
  | _ => cases k <;> exact hx.elim
/-- a list or a tuple of them -/
def mkS (l : Bool) (L : List D) : D := if l then .lst L else .tup L
theorem bent_ok (hB : 10 ^ 13 ≤ B) (hB2 : B + 1 ≤ 10 ^ 14) : ∀ (t fuel n m : Nat) (b x : D), t < fuel → n + 3 * t < 2 ^ 50 → m ≤ 100000 → t ≤ 10 → Box n b → Gd B (t + 2) x → wt x ≤ m →
    ∃ y b', m_law_bent_n fuel b x (.int (t : Int)) = some (y, b') ∧ Gd (B + 1) (t + 2) y ∧ wt y ≤ (t + 2) * m + 100 ∧ Box (n + 3 * (t + 1)) b' := by
  intro t
  induction t with
  | zero =>
    intro fuel n m b x hf hn hm _ hb hx hw
    obtain ⟨f, rfl⟩ : ∃ f, fuel = f + 1 := ⟨fuel - 1, by omega⟩
    have ab : ∀ b, asB (.bl b) = some b := fun _ => rfl
    obtain ⟨man, b1, e1, m0, m1, hb1⟩ := take_ok (s := 8) hb (by omega) (by omega) (by omega)
    obtain ⟨y, b2, e2, g, w, hb2⟩ := odd_ok hb1 (by omega) hB hB2 hx
    refine ⟨y, b2, ?_, g, by omega, hb2.mono (by omega)⟩
    have no : isiD2 "list" "tuple" x = some (.bl false) → m_law_bent_n (f + 1) b x (.int ((0 : Nat) : Int)) = some (y, b2) := fun e => by
      rw [m_law_bent_n, e1, bd2_some, e, Option.bind_some, ab, Option.bind_some, if_pos (by decide), Option.bind_some, if_pos rfl, e2, bd2_some]
    have yes : ∀ len : Nat, isiD2 "list" "tuple" x = some (.bl true) → lenF [x] = some (.int (len : Int)) → m_law_bent_n (f + 1) b x (.int ((0 : Nat) : Int)) = some (y, b2) := fun len e l => by
      rw [m_law_bent_n, e1, bd2_some, e, Option.bind_some, ab, Option.bind_some, if_neg (by decide), l, Option.bind_some, eqI, Option.bind_some, ab, Option.bind_some]
      cases decide ((len : Int) = 0) with
      | true => rw [if_pos rfl, Option.bind_some, Option.bind_some, if_pos rfl, e2, bd2_some]
      | false =>
        rw [if_neg Bool.false_ne_true, eqI, Option.bind_some, ab, Option.bind_some]
        cases decide (man = 0) with
        | true => rw [if_pos rfl, Option.bind_some, Option.bind_some, Option.bind_some, if_pos rfl, e2, bd2_some]
        | false => rw [if_neg Bool.false_ne_true, eqI, Option.bind_some, ab, decide_eq_true (show ((0 : Nat) : Int) = 0 from rfl), Option.bind_some, Option.bind_some, Option.bind_some, Option.bind_some, if_pos rfl, e2, bd2_some]
    cases x with
    | non => exact no rfl
    | bl v => exact no rfl
    | int i => exact no rfl
    | str z => exact no rfl
    | lst ds => exact yes ds.length rfl rfl
    | tup ds => exact yes ds.length rfl rfl
    | _ => exact hx.elim
  | succ t ih =>
    intro fuel n m b x hf hn hm ht hb hx hw
    obtain ⟨f, rfl⟩ : ∃ f, fuel = f + 1 := ⟨fuel - 1, by omega⟩
    have ab : ∀ b, asB (.bl b) = some b := fun _ => rfl
    obtain ⟨man, b1, e1, m0, m1, hb1⟩ := take_ok (s := 8) hb (by omega) (by omega) (by omega)
    -- an odd one
    have odd : ∃ y b', m_law_odd b1 x = some (y, b') ∧ Gd (B + 1) (t + 1 + 2) y ∧ wt y ≤ (t + 1 + 2) * m + 100 ∧ Box (n + 3 * (t + 1 + 1)) b' := by
      obtain ⟨y, b2, e2, g, w, hb2⟩ := odd_ok hb1 (by omega) hB hB2 hx
      exact ⟨y, b2, e2, g.mono (by omega) (Nat.le_refl _), by omega, hb2.mono (by omega)⟩
    have no : isiD2 "list" "tuple" x = some (.bl false) → ∃ y b', m_law_bent_n (f + 1) b x (.int ((t + 1 : Nat) : Int)) = some (y, b') ∧ Gd (B + 1) (t + 1 + 2) y ∧ wt y ≤ (t + 1 + 2) * m + 100 ∧ Box (n + 3 * (t + 1 + 1)) b' := fun e => by
      obtain ⟨y, b2, e2, g, w, hb2⟩ := odd
      refine ⟨y, b2, ?_, g, w, hb2⟩
      rw [m_law_bent_n, e1, bd2_some, e, Option.bind_some, ab, Option.bind_some, if_pos (by decide), Option.bind_some, if_pos rfl, e2, bd2_some]
    have yes : ∀ (l : Bool) (ds : List D), x = mkS l ds → isiD2 "list" "tuple" x = some (.bl true) → lenF [x] = some (.int (ds.length : Int)) → listF [x] = some (.lst ds) → tupF [x] = some (.tup ds) → isiD "list" x = some (.bl l) → (∀ y ∈ ds, Gd B (t + 2) y) → wts ds ≤ m →
        ∃ y b', m_law_bent_n (f + 1) b x (.int ((t + 1 : Nat) : Int)) = some (y, b') ∧ Gd (B + 1) (t + 1 + 2) y ∧ wt y ≤ (t + 1 + 2) * m + 100 ∧ Box (n + 3 * (t + 1 + 1)) b' := by
      intro l ds hxl e le lf tf il gds hwd
      have gS : ∀ (l : Bool) (L : List D), (∀ y ∈ L, Gd (B + 1) (t + 2) y) → Gd (B + 1) (t + 1 + 2) (mkS l L) := fun l L h => by cases l <;> exact h
      have wS : ∀ (l : Bool) (L : List D), wt (mkS l L) = wts L := fun l L => by cases l <;> rw [mkS] <;> simp [wt]
      have gds' : ∀ y ∈ ds, Gd (B + 1) (t + 2) y := fun y hy => (gds y hy).mono (Nat.le_refl _) (by omega)
      have dl : ds.length ≤ m := Nat.le_trans (wts_len ds) hwd
      by_cases h0 : ds.length = 0
      · obtain ⟨y, b2, e2, g, w, hb2⟩ := odd
        refine ⟨y, b2, ?_, g, w, hb2⟩
        rw [m_law_bent_n, e1, bd2_some, e, Option.bind_some, ab, Option.bind_some, if_neg (by decide), le, Option.bind_some, eqI, Option.bind_some, ab, decide_eq_true (by omega), Option.bind_some, if_pos rfl, Option.bind_some, Option.bind_some, if_pos rfl, e2, bd2_some]
      · by_cases h1 : man = 0
        · obtain ⟨y, b2, e2, g, w, hb2⟩ := odd
          refine ⟨y, b2, ?_, g, w, hb2⟩
          rw [m_law_bent_n, e1, bd2_some, e, Option.bind_some, ab, Option.bind_some, if_neg (by decide), le, Option.bind_some, eqI, Option.bind_some, ab, decide_eq_false (by omega), Option.bind_some, if_neg Bool.false_ne_true, eqI, Option.bind_some, ab, decide_eq_true h1, Option.bind_some, if_pos rfl, Option.bind_some, Option.bind_some, Option.bind_some, if_pos rfl, e2, bd2_some]
        · -- the head
          have t1 : decide (((t + 1 : Nat) : Int) = 0) = false := decide_eq_false (by omega)
          by_cases h2 : man = 1
          · refine ⟨mkS (!l) ds, b1, ?_, gS _ _ gds', ?_, hb1.mono (by omega)⟩
            · rw [m_law_bent_n, e1, bd2_some, e, Option.bind_some, ab, Option.bind_some, if_neg (by decide), le, Option.bind_some, eqI, Option.bind_some, ab, decide_eq_false (by omega), Option.bind_some, if_neg Bool.false_ne_true, eqI, Option.bind_some, ab, decide_eq_false h1, Option.bind_some, if_neg Bool.false_ne_true, eqI, Option.bind_some, ab, t1, Option.bind_some, Option.bind_some, Option.bind_some, Option.bind_some, if_neg Bool.false_ne_true, eqI, Option.bind_some, ab, decide_eq_true h2, Option.bind_some, if_pos rfl, il, Option.bind_some, ab, Option.bind_some]
              cases l with
              | true => rw [if_pos rfl, tf]; rfl
              | false => rw [if_neg Bool.false_ne_true, lf]; rfl
            · rw [wS]; have : m ≤ (t + 1 + 2) * m := Nat.le_mul_of_pos_left m (by omega); omega
          · obtain ⟨at_, b2, e2, a0, a1, hb2⟩ := take_ok (s := (ds.length : Int)) hb1 (by omega) (by omega) (by omega)
            obtain ⟨j, rfl⟩ : ∃ j : Nat, at_ = (j : Int) := ⟨at_.toNat, by omega⟩
            have hj : j < ds.length := by omega
            have ai : ∀ i : Int, asI (.int i) = some i := fun _ => rfl
            have adi : ∀ i j : Int, addD (.int i) (.int j) = some (.int (i + j)) := fun _ _ => rfl
            have sl : ∀ ds lo hi, sliceD (.lst ds) lo hi = some (.lst (cutD ds lo hi)) := fun _ _ _ => rfl
            have cl : ∀ lo hi, (cutD ds lo hi).length ≤ ds.length := fun lo hi => cut_sub.length_le
            have cw : ∀ lo hi, wts (cutD ds lo hi) ≤ m := fun lo hi => Nat.le_trans (wts_sub cut_sub) hwd
            have cg : ∀ lo hi, ∀ y ∈ cutD ds lo hi, Gd (B + 1) (t + 2) y := fun lo hi y hy => gds' y (cut_sub.subset hy)
            have al : ∀ A C : List D, A.length ≤ 400000 → C.length ≤ 400000 → addL (.lst A) (.lst C) = some (.lst (A ++ C)) := fun A C h1 h2 => if_pos (lim_ok (by omega))
            have ad : ∀ A C : List D, A.length ≤ 400000 → C.length ≤ 400000 → addD (.lst A) (.lst C) = some (.lst (A ++ C)) := fun A C h1 h2 => addD_lst (by omega)
            have app : ∀ A C : List D, (∀ x ∈ A, Gd (B + 1) (t + 2) x) → (∀ x ∈ C, Gd (B + 1) (t + 2) x) → ∀ x ∈ A ++ C, Gd (B + 1) (t + 2) x := fun A C h1 h2 x hx => by
              rcases List.mem_append.mp hx with z | z
              · exact h1 x z
              · exact h2 x z
            have rv : ∀ ds, revD (.lst ds) = some (.lst ds.reverse) := fun _ => rfl
            -- what stands at the end
            have tail : ∀ (b3 : D) (L : List D), (Option.bind (isiD "list" x) fun t440 => Option.bind (asB t440) fun c442 => Option.bind (if c442 = true then (some (D.lst L)) else (Option.bind (tupF [D.lst L]) fun t444 => some t444)) fun r446 => some (r446, b3)) = some (mkS l L, b3) := fun b3 L => by
              rw [il, Option.bind_some, ab, Option.bind_some]
              cases l <;> rfl
            have m3 : 3 * m ≤ (t + 1 + 2) * m := Nat.mul_le_mul_right m (by omega)
            by_cases h3 : man = 2
            · have A := al (cutD ds none (some (j : Int))) (cutD ds (some ((j : Int) + 1)) none) (by have := cl none (some (j : Int)); omega) (by have := cl (some ((j : Int) + 1)) none; omega)
              refine ⟨mkS l (cutD ds none (some (j : Int)) ++ cutD ds (some ((j : Int) + 1)) none), b2, ?_, gS _ _ (app _ _ (cg _ _) (cg _ _)), ?_, hb2.mono (by omega)⟩
              · rw [m_law_bent_n, e1, bd2_some, e, Option.bind_some, ab, Option.bind_some, if_neg (by decide), le, Option.bind_some, eqI, Option.bind_some, ab, decide_eq_false (by omega), Option.bind_some, if_neg Bool.false_ne_true, eqI, Option.bind_some, ab, decide_eq_false h1, Option.bind_some, if_neg Bool.false_ne_true, eqI, Option.bind_some, ab, t1, Option.bind_some, Option.bind_some, Option.bind_some, Option.bind_some, if_neg Bool.false_ne_true, eqI, Option.bind_some, ab, decide_eq_false h2, Option.bind_some, if_neg Bool.false_ne_true, lf, Option.bind_some, Option.bind_some, e2, bd2_some, eqI, Option.bind_some, ab, Option.bind_some, decide_eq_true h3, if_pos rfl, ai, Option.bind_some, sl, Option.bind_some, adi, Option.bind_some, ai, Option.bind_some, sl, Option.bind_some, A, Option.bind_some, bd2_some]
                exact tail _ _
              · rw [wS, wts_app]; have := cw none (some (j : Int)); have := cw (some ((j : Int) + 1)) none; omega
            · by_cases h4 : man = 3
              · have A := al (cutD ds none (some ((j : Int) + 1))) (cutD ds (some (j : Int)) none) (by have := cl none (some ((j : Int) + 1)); omega) (by have := cl (some (j : Int)) none; omega)
                refine ⟨mkS l (cutD ds none (some ((j : Int) + 1)) ++ cutD ds (some (j : Int)) none), b2, ?_, gS _ _ (app _ _ (cg _ _) (cg _ _)), ?_, hb2.mono (by omega)⟩
                · rw [m_law_bent_n, e1, bd2_some, e, Option.bind_some, ab, Option.bind_some, if_neg (by decide), le, Option.bind_some, eqI, Option.bind_some, ab, decide_eq_false (by omega), Option.bind_some, if_neg Bool.false_ne_true, eqI, Option.bind_some, ab, decide_eq_false h1, Option.bind_some, if_neg Bool.false_ne_true, eqI, Option.bind_some, ab, t1, Option.bind_some, Option.bind_some, Option.bind_some, Option.bind_some, if_neg Bool.false_ne_true, eqI, Option.bind_some, ab, decide_eq_false h2, Option.bind_some, if_neg Bool.false_ne_true, lf, Option.bind_some, Option.bind_some, e2, bd2_some, eqI, Option.bind_some, ab, Option.bind_some, decide_eq_false h3, if_neg Bool.false_ne_true, eqI, Option.bind_some, ab, Option.bind_some, decide_eq_true h4, if_pos rfl, adi, Option.bind_some, ai, Option.bind_some, sl, Option.bind_some, ai, Option.bind_some, sl, Option.bind_some, A, Option.bind_some, bd2_some, bd2_some]
                  exact tail _ _
                · rw [wS, wts_app]; have := cw none (some ((j : Int) + 1)); have := cw (some (j : Int)) none; omega
              · by_cases h5 : man = 4
                · have A := ad (cutD ds none (some (j : Int))) (cutD ds (some (j : Int)) (some ((j : Int) + 2))).reverse (by have := cl none (some (j : Int)); omega) (by rw [List.length_reverse]; have := cl (some (j : Int)) (some ((j : Int) + 2)); omega)
                  have A2 := al (cutD ds none (some (j : Int)) ++ (cutD ds (some (j : Int)) (some ((j : Int) + 2))).reverse) (cutD ds (some ((j : Int) + 2)) none) (by rw [List.length_append, List.length_reverse]; have := cl none (some (j : Int)); have := cl (some (j : Int)) (some ((j : Int) + 2)); omega) (by have := cl (some ((j : Int) + 2)) none; omega)
                  refine ⟨mkS l (cutD ds none (some (j : Int)) ++ (cutD ds (some (j : Int)) (some ((j : Int) + 2))).reverse ++ cutD ds (some ((j : Int) + 2)) none), b2, ?_, gS _ _ (app _ _ (app _ _ (cg _ _) (fun y hy => cg _ _ y (List.mem_reverse.mp hy))) (cg _ _)), ?_, hb2.mono (by omega)⟩
                  · rw [m_law_bent_n, e1, bd2_some, e, Option.bind_some, ab, Option.bind_some, if_neg (by decide), le, Option.bind_some, eqI, Option.bind_some, ab, decide_eq_false (by omega), Option.bind_some, if_neg Bool.false_ne_true, eqI, Option.bind_some, ab, decide_eq_false h1, Option.bind_some, if_neg Bool.false_ne_true, eqI, Option.bind_some, ab, t1, Option.bind_some, Option.bind_some, Option.bind_some, Option.bind_some, if_neg Bool.false_ne_true, eqI, Option.bind_some, ab, decide_eq_false h2, Option.bind_some, if_neg Bool.false_ne_true, lf, Option.bind_some, Option.bind_some, e2, bd2_some, eqI, Option.bind_some, ab, Option.bind_some, decide_eq_false h3, if_neg Bool.false_ne_true, eqI, Option.bind_some, ab, Option.bind_some, decide_eq_false h4, if_neg Bool.false_ne_true, eqI, Option.bind_some, ab, Option.bind_some, decide_eq_true h5, if_pos rfl, ai, Option.bind_some, sl, Option.bind_some, Option.bind_some, adi, Option.bind_some, ai, Option.bind_some, sl, Option.bind_some, rv, Option.bind_some, A, Option.bind_some, Option.bind_some, ai, Option.bind_some, sl, Option.bind_some, A2, Option.bind_some, bd2_some, bd2_some, bd2_some]
                    exact tail _ _
                  · rw [wS, wts_app, wts_app, wts_rev]; have := cw none (some (j : Int)); have := cw (some (j : Int)) (some ((j : Int) + 2)); have := cw (some ((j : Int) + 2)) none; omega
                · have hin := List.getElem_mem hj
                  have wj := wt_in hin
                  obtain ⟨y, b3, e3, g, w, hb3⟩ := ih f (n + 2) m b2 ds[j] (by omega) (by omega) hm (by omega) (hb2.mono (by omega)) (gds _ hin) (by omega)
                  have st := set_at hj (show ds.length ≤ 1000000 by omega) y
                  have ixj : ixD (.lst ds) (.int (j : Int)) = some ds[j] := by rw [ix_lst, List.getElem?_eq_getElem hj]
                  have sb : subD (.int ((t + 1 : Nat) : Int)) (.int 1) = some (.int (t : Int)) := by
                    rw [subD_int]; exact congrArg (fun z => some (D.int z)) (by omega)
                  refine ⟨mkS l (ds.set j y), b3, ?_, gS _ _ (fun z hz => ?_), ?_, hb3.mono (by omega)⟩
                  · rw [m_law_bent_n, e1, bd2_some, e, Option.bind_some, ab, Option.bind_some, if_neg (by decide), le, Option.bind_some, eqI, Option.bind_some, ab, decide_eq_false (by omega), Option.bind_some, if_neg Bool.false_ne_true, eqI, Option.bind_some, ab, decide_eq_false h1, Option.bind_some, if_neg Bool.false_ne_true, eqI, Option.bind_some, ab, t1, Option.bind_some, Option.bind_some, Option.bind_some, Option.bind_some, if_neg Bool.false_ne_true, eqI, Option.bind_some, ab, decide_eq_false h2, Option.bind_some, if_neg Bool.false_ne_true, lf, Option.bind_some, Option.bind_some, e2, bd2_some, eqI, Option.bind_some, ab, Option.bind_some, decide_eq_false h3, if_neg Bool.false_ne_true, eqI, Option.bind_some, ab, Option.bind_some, decide_eq_false h4, if_neg Bool.false_ne_true, eqI, Option.bind_some, ab, Option.bind_some, decide_eq_false h5, if_neg Bool.false_ne_true, ixj, Option.bind_some, sb, Option.bind_some, e3, bd2_some, st, Option.bind_some, bd2_some, bd2_some, bd2_some]
                    exact tail _ _
                  · rcases List.mem_or_eq_of_mem_set hz with q | rfl
                    · exact gds' z q
                    · exact g
                  · rw [wS]
                    have := wts_set ds j y
                    have e : (t + 1 + 2) * m = (t + 2) * m + m := by rw [show t + 1 + 2 = (t + 2) + 1 by omega, Nat.add_mul, Nat.one_mul]
                    omega
    cases x with
    | non => exact no rfl
    | bl v => exact no rfl
    | int i => exact no rfl
    | str z => exact no rfl
    | lst ds => exact yes true ds rfl rfl rfl rfl rfl rfl hx (by rw [wt] at hw; exact hw)
    | tup ds => exact yes false ds rfl rfl rfl rfl rfl rfl hx (by rw [wt] at hw; exact hw)
    | _ => exact hx.elim
end LW
namespace LW
open PySem DL
variable {d s s1 s2 : D} {a c : Int} {xs : List Int} {S S0 S1 S2 : List Nat} {B : Nat}
def seaT (a c : Int) (xs : List Int) : D := .tup [.int a, .int c, .tup (xs.map .int)]
theorem seaT2 : ixD (seaT a c xs) (.int 2) = some (.tup (xs.map .int)) := by unfold seaT; simp
/-- a thing that may be asked about -/
structure Th (x : D) : Prop where
  gd : Gd (10 ^ 13 + 5) 5 x
  wt : wt x ≤ 14000
theorem wts_ints : ∀ l : List Int, wts (l.map .int) = 49 * l.length
  | [] => rfl
  | x :: l => by rw [List.map_cons, wts, wts_ints l, wt, List.length_cons]; omega
theorem gd_ints {b k : Nat} {l : List Int} (h : ∀ x ∈ l, x.natAbs ≤ b) : ∀ y ∈ l.map D.int, Gd b k y := fun y hy => by
  obtain ⟨x, hx, rfl⟩ := List.mem_map.mp hy
  cases k <;> exact h x hx
theorem gd_nD {b k : Nat} {l : List Nat} (h : ∀ x ∈ l, x ≤ b) : ∀ y ∈ nD l, Gd b k y := fun y hy => by
  obtain ⟨x, hx, rfl⟩ := List.mem_map.mp hy
  have := h x hx
  cases k <;> exact (show ((x : Nat) : Int).natAbs ≤ b by omega)
open Classical in
theorem one_ok {bx x : D} (hl : xs.length ≤ 60) (h : Th x) : m_law_right_2 (seaT a c xs) (.int (xs.length : Int)) bx x () = some (.nx ()) := by
  have ab : ∀ b, asB (.bl b) = some b := fun _ => rfl
  have ok : okD 50 x = true := okD_up x (by omega) h.gd.ok
  have hd : SeaD (seaT a c xs) a c xs := SeaD.t a c xs
  have lenB : ∀ ds, x = .tup ds → wts ds ≤ 14000 := fun ds e => by have := h.wt; rw [e, wt] at this; exact this
  have e1 := issea_any ok
  have e2 := lsea_any ok (fun p q rs e => by
    have := lenB _ e
    have := wt_in (l := [p, q, .tup rs]) (x := .tup rs) (by simp)
    rw [wt] at this
    have := wts_len rs
    omega)
  have e3 := isstand_any hd ok
  have e4 := islot_any (n := xs.length) (by omega) ok (fun w e => by
    have := lenB _ e
    rw [wts_nD] at this
    omega)
  obtain ⟨s, es⟩ := rep_gd (by omega) h.gd (by omega) (by have := h.wt; omega)
  have ns : neD (.str s) (.str s) = some (.bl false) := neD_self (n := 1) rfl (by omega)
  have sm : ∀ u v : Bool, m_law_same (.lst [.bl u, .bl v]) (.lst [.bl u, .bl v]) = some (.bl true) := fun u v => same_id (by rw [okD_lst]; simp [okDs])
  unfold m_law_right_2
  rw [es, Option.bind_some, e1, Option.bind_some, e3, Option.bind_some, show ∀ u v : D, mkLst [u, v] = some (.lst [u, v]) from fun _ _ => rfl, Option.bind_some, e2, Option.bind_some, e4, Option.bind_some, show ∀ u v : D, mkLst [u, v] = some (.lst [u, v]) from fun _ _ => rfl, Option.bind_some, sm, Option.bind_some, ab, Option.bind_some, if_neg (by decide), Option.bind_some, ns, Option.bind_some, ab, Option.bind_some, Option.bind_some, if_neg Bool.false_ne_true]
theorem loop_ok {bx : D} (hl : xs.length ≤ 60) : ∀ L : List D, (∀ x ∈ L, Th x) → fldR (m_law_right_2 (seaT a c xs) (.int (xs.length : Int)) bx) L () = some (.nx ())
  | [], _ => rfl
  | x :: r, h => by
    rw [fldR_nx (one_ok hl (h x List.mem_cons_self))]
    exact loop_ok hl r fun y hy => h y (List.mem_cons_of_mem _ hy)
theorem right_ok {n : Nat} {b : D} (hb : Box n b) (hn : n < 2 ^ 30) : ∃ b', m_law_right b = some (.bl true, b') := by
  have ab : ∀ b, asB (.bl b) = some b := fun _ => rfl
  obtain ⟨a, c, far, xs, b1, e1, x1, x2, f0, f1, a0, a1, c0, c1, xx, hb1⟩ := sea_ok (m := 6) hb (by omega) (by omega) (by omega)
  have hl : xs.length ≤ 6 := by omega
  have hd : SeaD (seaT a c xs) a c xs := SeaD.t a c xs
  have e1 : m_law_sea b (.int 6) = some (seaT a c xs, b1) := e1
  obtain ⟨S, b2, e2, iS, hb2⟩ := lot_ok (k := xs.length) hb1 (by omega) (by omega)
  have Sl := iS.len
  have xb : ∀ x ∈ xs, x.natAbs ≤ 10 ^ 13 := fun x hx => by have := xx x hx; omega
  have Sb : ∀ i ∈ S, i ≤ 10 ^ 13 := fun i hi => by have := iS.lt hi; omega
  -- the sea and the standing
  have gi : ∀ {k : Nat} {i : Int}, i.natAbs ≤ 10 ^ 13 → Gd (10 ^ 13) k (.int i) := fun {k i} h => by cases k <;> exact h
  have gSea3 : ∀ y ∈ [D.int a, .int c, .tup (xs.map .int)], Gd (10 ^ 13) 1 y := fun y hy => by
    simp only [List.mem_cons, List.mem_nil_iff, or_false] at hy
    rcases hy with rfl | rfl | rfl
    · exact gi (by omega)
    · exact gi (by omega)
    · exact gd_ints xb
  have wSea3 : wts [D.int a, .int c, .tup (xs.map .int)] ≤ 420 := by
    rw [wts, wts, wts, wts, wt, wt, wt, wts_ints]; omega
  have gSea : Gd (10 ^ 13) 2 (seaT a c xs) := gSea3
  have wSea : wt (seaT a c xs) ≤ 420 := by unfold seaT; rw [wt]; exact wSea3
  have gLot : Gd (10 ^ 13) 2 (.tup (nD S)) := gd_nD (k := 1) Sb
  have wLot : wt (.tup (nD S)) ≤ 420 := by rw [wt, wts_nD]; omega
  have up : ∀ {k : Nat} {x : D}, Gd (10 ^ 13) k x → k ≤ 5 → wt x ≤ 14000 → Th x := fun g l w => ⟨g.mono l (by omega), w⟩
  have ship : ∀ {l : List Nat}, (∀ i ∈ l, i ≤ 100) → l.length ≤ 60 → Th (.tup (nD l)) := fun {l} h hl => up (k := 2) (gd_nD (k := 1) fun i hi => by have := h i hi; omega) (by omega) (by rw [wt, wts_nD]; omega)
  obtain ⟨things, hth⟩ : ∃ things : List D, [seaT a c xs, .tup (nD S), .lst [.int a, .int c, .tup (xs.map .int)], .lst (nD S), .non, .tup [], .lst [], .int 3, .str "sea", .tup [.int (xs.length : Int)], .tup (nD (List.range xs.length))] ++ [.tup [.int 0, .int 0, .tup (List.replicate 30 (.int 0))], .tup [.int 0, .int 2, .tup []], .tup [.int 0, .int 0], .tup [.int 0], .tup [.int ((xs.length : Int) - 1), .int ((xs.length : Int) - 1)]] = things := ⟨_, rfl⟩
  have l0 : things.length = 16 := by rw [← hth]; rfl
  have th0 : ∀ x ∈ things, Th x := fun x hx => by
    rw [← hth] at hx
    simp only [List.mem_append, List.mem_cons, List.mem_nil_iff, or_false] at hx
    rcases hx with (rfl | rfl | rfl | rfl | rfl | rfl | rfl | rfl | rfl | rfl | rfl) | (rfl | rfl | rfl | rfl | rfl)
    · exact up gSea (by omega) (by omega)
    · exact up gLot (by omega) (by omega)
    · exact up (k := 2) gSea3 (by omega) (by rw [wt]; omega)
    · exact up (k := 2) (gd_nD (k := 1) Sb) (by omega) (by rw [wt, wts_nD]; omega)
    · exact up (k := 0) trivial (by omega) (by decide)
    · exact ship (l := []) (nofun) (by simp)
    · exact up (k := 1) (nofun) (by omega) (by decide)
    · exact up (k := 0) (gi (by omega)) (by omega) (by decide)
    · exact up (k := 0) (⟨by decide, by decide⟩) (by omega) (by decide)
    · exact ship (l := [xs.length]) (fun i hi => by rw [List.mem_singleton.mp hi]; omega) (by simp)
    · exact ship (fun i hi => by have := List.mem_range.mp hi; omega) (by rw [List.length_range]; omega)
    · refine up (k := 2) (fun y hy => ?_) (by omega) (by decide)
      simp only [List.mem_cons, List.mem_nil_iff, or_false] at hy
      rcases hy with rfl | rfl | rfl
      · exact gi (by omega)
      · exact gi (by omega)
      · intro z hz
        rw [List.eq_of_mem_replicate hz]
        exact gi (by omega)
    · refine up (k := 2) (fun y hy => ?_) (by omega) (by decide)
      simp only [List.mem_cons, List.mem_nil_iff, or_false] at hy
      rcases hy with rfl | rfl | rfl
      · exact gi (by omega)
      · exact gi (by omega)
      · exact (nofun)
    · exact ship (l := [0, 0]) (fun i hi => by simp at hi; omega) (by simp)
    · exact ship (l := [0]) (fun i hi => by simp at hi; omega) (by simp)
    · refine up (k := 1) (fun y hy => ?_) (by omega) (by rw [wt, wts, wts, wts, wt]; omega)
      simp only [List.mem_cons, List.mem_nil_iff, or_false] at hy
      rcases hy with rfl | rfl
      · exact gi (by omega)
      · exact gi (by omega)
  obtain ⟨t, ef, b4, L, rfl, hb4, lL, hL⟩ := fldN_of (f := m_law_right_1 (seaT a c xs) (.tup (nD S))) (fun i t => ∃ (b' : D) (L : List D), t = (b', .lst L) ∧ Box (n + 5020 + 40 * i) b' ∧ L.length = 16 + i ∧ ∀ x ∈ L, Th x)
    (ds := rngD 0 10) (t := (b2, .lst things)) ⟨b2, things, rfl, hb2.mono (by omega), by omega, th0⟩ (by
    rintro i d hdd _ ⟨b', L, rfl, hb', lL, hL⟩
    obtain ⟨hi, rfl⟩ := rngD_at hdd
    obtain ⟨x, b5, e5, hx, hb5⟩ := of_ok (xs := [seaT a c xs, .tup (nD S)]) hb' (by omega) (by simp) (by simp)
    have hx' : Gd (10 ^ 13) 5 x ∧ wt x ≤ 420 := by
      simp only [List.mem_cons, List.mem_nil_iff, or_false] at hx
      rcases hx with rfl | rfl
      · exact ⟨gSea.mono (by omega) (Nat.le_refl _), wSea⟩
      · exact ⟨gLot.mono (by omega) (Nat.le_refl _), wLot⟩
    obtain ⟨y, b6, e6, gy, wy, hb6⟩ := bent_ok (B := 10 ^ 13) (by omega) (by omega) 3 8 _ 420 b5 x (by omega) (by omega) (by omega) (by omega) hb5 hx'.1 hx'.2
    obtain ⟨r, b7, e7, r0, r1, hb7⟩ := take_ok (s := 3) hb6 (by omega) (by omega) (by omega)
    have e6 : m_law_bent b5 x (.int 3) = some (y, b6) := e6
    have k2 : ∀ u v : D, mkLst [u, v] = some (.lst [u, v]) := fun _ _ => rfl
    have ik : isKG "list" (.lst L) = some () := rfl
    by_cases hr : r = 0
    · obtain ⟨z, b8, e8, gz, wz, hb8⟩ := bent_ok (B := 10 ^ 13 + 1) (by omega) (by omega) 3 8 _ 2200 b7 y (by omega) (by omega) (by omega) (by omega) hb7 gy (by omega)
      have e8 : m_law_bent b7 y (.int 3) = some (z, b8) := e8
      refine ⟨(b8, .lst (L ++ [z])), ?_, b8, _, rfl, hb8.mono (by omega), by rw [List.length_append, lL]; simp; omega, fun x hx => ?_⟩
      · unfold m_law_right_1
        rw [un_2_mk, k2, Option.bind_some, e5, bd2_some, e6, bd2_some, e7, bd2_some, eqI, Option.bind_some, ab, decide_eq_true hr, Option.bind_some, if_pos rfl, e8, bd2_some, bd2_some, ik, Option.bind_some, append_ok (by rw [lL]; omega), bd2_some]
      · rcases List.mem_append.mp hx with q | q
        · exact hL x q
        · rw [List.mem_singleton.mp q]
          exact ⟨gz.mono (by omega) (by omega), by omega⟩
    · refine ⟨(b7, .lst (L ++ [y])), ?_, b7, _, rfl, hb7.mono (by omega), by rw [List.length_append, lL]; simp; omega, fun x hx => ?_⟩
      · unfold m_law_right_1
        rw [un_2_mk, k2, Option.bind_some, e5, bd2_some, e6, bd2_some, e7, bd2_some, eqI, Option.bind_some, ab, decide_eq_false hr, Option.bind_some, if_neg Bool.false_ne_true, bd2_some, ik, Option.bind_some, append_ok (by rw [lL]; omega), bd2_some]
      · rcases List.mem_append.mp hx with q | q
        · exact hL x q
        · rw [List.mem_singleton.mp q]
          exact ⟨gy.mono (by omega) (by omega), by omega⟩)
  have lo := loop_ok (a := a) (c := c) (bx := b4) (show xs.length ≤ 60 by omega) L hL
  have rg : rng1 [.val (.int 10)] = some (rngD 0 10) := rng1_ok (j := 10) (by omega) (by omega)
  have s2_ : ixD (seaT a c xs) (.int 2) = some (.tup (xs.map .int)) := seaT2
  have lf : ∀ ds, listF [.tup ds] = some (.lst ds) := fun _ => rfl
  have lfs : listF [seaT a c xs] = some (.lst [.int a, .int c, .tup (xs.map .int)]) := rfl
  have tr : trgF [.int (xs.length : Int)] = some (.tup (nD (List.range xs.length))) := trg_n xs.length (by omega)
  have tm : timD (.tup [.int 0]) (.int 30) = some (.tup (List.replicate 30 (.int 0))) := by rfl
  have addth : addL (.lst [seaT a c xs, .tup (nD S), .lst [.int a, .int c, .tup (xs.map .int)], .lst (nD S), .non, .tup [], .lst [], .int 3, .str "sea", .tup [.int (xs.length : Int)], .tup (nD (List.range xs.length))]) (.lst [.tup [.int 0, .int 0, .tup (List.replicate 30 (.int 0))], .tup [.int 0, .int 2, .tup []], .tup [.int 0, .int 0], .tup [.int 0], .tup [.int ((xs.length : Int) - 1), .int ((xs.length : Int) - 1)]]) = some (.lst things) := by rw [← hth]; rfl
  have m11 : mkLst [seaT a c xs, .tup (nD S), .lst [.int a, .int c, .tup (xs.map .int)], .lst (nD S), .non, .tup [], .lst [], .int 3, .str "sea", .tup [.int (xs.length : Int)], .tup (nD (List.range xs.length))] = some (.lst [seaT a c xs, .tup (nD S), .lst [.int a, .int c, .tup (xs.map .int)], .lst (nD S), .non, .tup [], .lst [], .int 3, .str "sea", .tup [.int (xs.length : Int)], .tup (nD (List.range xs.length))]) := rfl
  have m5 : ∀ u v w x y : D, mkLst [u, v, w, x, y] = some (.lst [u, v, w, x, y]) := fun _ _ _ _ _ => rfl
  have t0 : mkTup [] = some (.tup []) := rfl
  have m0 : mkLst [] = some (.lst []) := rfl
  have t1 : ∀ u : D, mkTup [u] = some (.tup [u]) := fun _ => rfl
  have t2 : ∀ u v : D, mkTup [u, v] = some (.tup [u, v]) := fun _ _ => rfl
  have t3 : ∀ u v w : D, mkTup [u, v, w] = some (.tup [u, v, w]) := fun _ _ _ => rfl
  have seaOk : m_is_sea (seaT a c xs) = some (.bl true) := by
    rw [issea_any (okD_up (n := 2) _ (by omega) gSea.ok)]
    refine congrArg (fun b => some (D.bl b)) ?_
    show (cntB (.int a) && (cntB (.int c) && (!(xs.map D.int).isEmpty && (xs.map D.int).all cntB))) = true
    have h1 : cntB (.int a) = true := decide_eq_true (by omega)
    have h2 : cntB (.int c) = true := decide_eq_true (by omega)
    have h3 : (xs.map D.int).isEmpty = false := by
      rw [List.isEmpty_map]
      exact List.isEmpty_eq_false_iff.mpr fun e => by rw [e] at x1; simp at x1
    have h4 : (xs.map D.int).all cntB = true := List.all_eq_true.mpr fun y hy => by
      obtain ⟨x, hx, rfl⟩ := List.mem_map.mp hy
      have := xx x hx
      exact decide_eq_true (by omega)
    rw [h1, h2, h3, h4]; rfl
  have standOk : m_is_standing (seaT a c xs) (.tup (nD S)) = some (.bl true) := standing_ok hd iS
  have is1 : isD (.bl true) (.bl true) = some (.bl true) := rfl
  have sb : subD (.int (xs.length : Int)) (.int 1) = some (.int ((xs.length : Int) - 1)) := subD_int ..
  refine ⟨b4, ?_⟩
  unfold m_law_right
  rw [e1, bd2_some, s2_, Option.bind_some, len_t, Option.bind_some, List.length_map, e2, bd2_some, lfs, Option.bind_some, lf, Option.bind_some, t0, Option.bind_some, m0, Option.bind_some, t1, Option.bind_some, tr, Option.bind_some, m11, Option.bind_some, t1, Option.bind_some, tm, Option.bind_some, t3, Option.bind_some, Option.bind_some, t3, Option.bind_some, t2, Option.bind_some, Option.bind_some, sb, Option.bind_some, Option.bind_some, t2, Option.bind_some, m5, Option.bind_some, addth, Option.bind_some, rg, Option.bind_some, ef, bd2_some, show ∀ ds : List D, unL (.lst ds) = some ds from fun _ => rfl, Option.bind_some, lo, Option.bind_some, flK_nx, seaOk, Option.bind_some, is1, Option.bind_some, ab, Option.bind_some, if_pos rfl, standOk, Option.bind_some, is1, Option.bind_some, Option.bind_some]
end LW
namespace LW
open PySem DL
theorem law_ok (ns : List Int) (hn : ns.length ≤ 63) : m_law (.scr ns) = some (.bl true) := by
  have e1 : lenF [.scr ns] = some (.int ns.length) := rfl
  obtain ⟨j, hj, j0, j1⟩ : ∃ j : Int, minF [.int 3, .int ns.length] = some (.int j) ∧ 0 ≤ j ∧ j ≤ 3 := by
    refine ⟨_, rfl, ?_, ?_⟩ <;> split <;> omega
  have rg : rng1 [.val (.int (1 + j))] = some (rngD 0 (1 + j).toNat) := rng1_ok (by omega) (by omega)
  simp -implicitDefEqProofs only [Option.bind_some, bd2_some, bd3_some, bd4_some, bd5_some, bd6_some, un_2_mk, un_3_mk, un_4_mk, un_5_mk, un_6_mk, flK_rt, flK_nx, asB_bl, asI_int, notD_bl, scG_bl, scG_int, scG_non, scG_str, unL_l, unL_t, un1_t, un2_t, un3_t, un4_t, isKG_l, isTG_l, addD_int, subD_int, ltD_int, leD_int, gtD_int, geD_int, negD_int, eqD_int, neD_int, eqD_bl, neD_bl, mkLst_0, mkTup_0, mkLst_1, mkTup_1, mkLst_2, mkTup_2, mkLst_3, mkTup_3, mkLst_4, mkTup_4, mkLst_5, mkTup_5, mkLst_6, mkTup_6, mkLst_7, mkTup_7, mkLst_8, mkTup_8, mkLst_9, mkTup_9, mkLst_10, mkTup_10, mkLst_11, mkTup_11, mkLst_12, mkTup_12, mkLst_13, mkTup_13, mkLst_14, mkTup_14, mkLst_15, mkTup_15, mkLst_16, mkTup_16, m_law, e1, hj, rg]
  rw [cmpP_rngM (fun _ => .bl true) (by
    intro i hi
    obtain ⟨b, e, hb⟩ := box_ok ns i (by omega)
    obtain ⟨b', e'⟩ := right_ok hb (by omega)
    simp -implicitDefEqProofs only [Option.bind_some, bd2_some, bd3_some, bd4_some, bd5_some, bd6_some, un_2_mk, un_3_mk, un_4_mk, un_5_mk, un_6_mk, flK_rt, flK_nx, asB_bl, asI_int, notD_bl, scG_bl, scG_int, scG_non, scG_str, unL_l, unL_t, un1_t, un2_t, un3_t, un4_t, isKG_l, isTG_l, addD_int, subD_int, ltD_int, leD_int, gtD_int, geD_int, negD_int, eqD_int, neD_int, eqD_bl, neD_bl, mkLst_0, mkTup_0, mkLst_1, mkTup_1, mkLst_2, mkTup_2, mkLst_3, mkTup_3, mkLst_4, mkTup_4, mkLst_5, mkTup_5, mkLst_6, mkTup_6, mkLst_7, mkTup_7, mkLst_8, mkTup_8, mkLst_9, mkTup_9, mkLst_10, mkTup_10, mkLst_11, mkTup_11, mkLst_12, mkTup_12, mkLst_13, mkTup_13, mkLst_14, mkTup_14, mkLst_15, mkTup_15, mkLst_16, mkTup_16, e, e'])]
  have al : allF [.lst ((List.range (1 + j).toNat).map fun _ => .bl true)] = some (.bl true) := by rw [allF_map (fun _ => true)]; simp
  simp -implicitDefEqProofs only [Option.bind_some, bd2_some, bd3_some, bd4_some, bd5_some, bd6_some, un_2_mk, un_3_mk, un_4_mk, un_5_mk, un_6_mk, flK_rt, flK_nx, asB_bl, asI_int, notD_bl, scG_bl, scG_int, scG_non, scG_str, unL_l, unL_t, un1_t, un2_t, un3_t, un4_t, isKG_l, isTG_l, addD_int, subD_int, ltD_int, leD_int, gtD_int, geD_int, negD_int, eqD_int, neD_int, eqD_bl, neD_bl, mkLst_0, mkTup_0, mkLst_1, mkTup_1, mkLst_2, mkTup_2, mkLst_3, mkTup_3, mkLst_4, mkTup_4, mkLst_5, mkTup_5, mkLst_6, mkTup_6, mkLst_7, mkTup_7, mkLst_8, mkTup_8, mkLst_9, mkTup_9, mkLst_10, mkTup_10, mkLst_11, mkTup_11, mkLst_12, mkTup_12, mkLst_13, mkTup_13, mkLst_14, mkTup_14, mkLst_15, mkTup_15, mkLst_16, mkTup_16, al]
theorem plain (ns : List Int) (hn : ns.length ≤ 63) : ∃ ss, f_law [.v (.scr ns)] = some (.bl true, ss) := ⟨_, ms_law (law_ok ns hn)⟩
end LW
namespace LW
open PySem PySem.Spec PyProof.Rows L2 DL
theorem nb_of {K : PySem.W.Frag} {h : Heap} {mg : Str → Option Value} (X : K.In h) (G : h.Ns mainGlobals mg) (c : He.SaysD fa fn K) : Nb mg := ⟨He.free_ok X G (c.fact 19 (f := .free "len") rfl), He.free_ok X G (c.fact 20 (f := .free "range") rfl), He.free_ok X G (c.fact 21 (f := .free "all") rfl), He.free_ok X G (c.fact 22 (f := .free "any") rfl), He.free_ok X G (c.fact 23 (f := .free "min") rfl), He.free_ok X G (c.fact 24 (f := .free "max") rfl), He.free_ok X G (c.fact 25 (f := .free "abs") rfl), He.free_ok X G (c.fact 26 (f := .free "sum") rfl), He.free_ok X G (c.fact 27 (f := .free "int") rfl), He.free_ok X G (c.fact 28 (f := .free "bool") rfl), He.free_ok X G (c.fact 29 (f := .free "str") rfl), He.free_ok X G (c.fact 30 (f := .free "list") rfl), He.free_ok X G (c.fact 31 (f := .free "tuple") rfl), He.free_ok X G (c.fact 32 (f := .free "sorted") rfl), He.free_ok X G (c.fact 33 (f := .free "enumerate") rfl), He.free_ok X G (c.fact 34 (f := .free "zip") rfl), He.free_ok X G (c.fact 35 (f := .free "isinstance") rfl)⟩
theorem facts {P : Program} {w : World} {K : PySem.W.Frag} {h : Heap} {mg : Str → Option Value} {f : Addr} (X : K.In h) (G : h.Ns mainGlobals mg) (hfa : mg ("law" : Str) = some (.ref f)) (c : He.SaysD fa fn K) :
    ∃ fd : FuncData, (∀ (s : Shared) (v : Value), BindsTo s fd ⟨[v], []⟩ [("_law_script", v)]) ∧ ∀ base : Heap, K.In base → base.Ns mainGlobals mg → FnG P w K mg base 14 f fd ["_law_script"] (letI : TabC := ⟨[]⟩; spF ⟨K, mg⟩ f_law) := by
  have nb := nb_of X G c
  have nx : NbX mg := ⟨He.free_ok X G (c.fact 36 (f := .free "set") rfl), He.free_ok X G (c.fact 37 (f := .free "repr") rfl), He.free_ok X G (c.fact 38 (f := .free "dict") rfl)⟩
  obtain ⟨fd_is_number, F_is_number⟩ := c.def_ 0 (d := d_is_number) rfl
  have g_is_number := He.glo_ok X G (c.fact 0 (f := .glo "is_number") rfl)
  obtain ⟨fd_is_count, F_is_count⟩ := c.def_ 1 (d := d_is_count) rfl
  have g_is_count := He.glo_ok X G (c.fact 1 (f := .glo "is_count") rfl)
  obtain ⟨fd_is_sea, F_is_sea⟩ := c.def_ 2 (d := d_is_sea) rfl
  have g_is_sea := He.glo_ok X G (c.fact 2 (f := .glo "is_sea") rfl)
  obtain ⟨fd_are_ships, F_are_ships⟩ := c.def_ 3 (d := d_are_ships) rfl
  have g_are_ships := He.glo_ok X G (c.fact 3 (f := .glo "are_ships") rfl)
  obtain ⟨fd_is_standing, F_is_standing⟩ := c.def_ 4 (d := d_is_standing) rfl
  have g_is_standing := He.glo_ok X G (c.fact 4 (f := .glo "is_standing") rfl)
  obtain ⟨fd_law_cell_at, F_law_cell_at⟩ := c.def_ 5 (d := d_law_cell_at) rfl
  have g_law_cell_at := He.glo_ok X G (c.fact 5 (f := .glo "_law_cell_at") rfl)
  obtain ⟨fd_law_box, F_law_box⟩ := c.def_ 6 (d := d_law_box) rfl
  have g_law_box := He.glo_ok X G (c.fact 6 (f := .glo "_law_box") rfl)
  obtain ⟨fd_law_take, F_law_take⟩ := c.def_ 7 (d := d_law_take) rfl
  have g_law_take := He.glo_ok X G (c.fact 7 (f := .glo "_law_take") rfl)
  obtain ⟨fd_law_of, F_law_of⟩ := c.def_ 8 (d := d_law_of) rfl
  have g_law_of := He.glo_ok X G (c.fact 8 (f := .glo "_law_of") rfl)
  obtain ⟨fd_law_same, F_law_same⟩ := c.def_ 9 (d := d_law_same) rfl
  have g_law_same := He.glo_ok X G (c.fact 9 (f := .glo "_law_same") rfl)
  obtain ⟨fd_law_sea, F_law_sea⟩ := c.def_ 10 (d := d_law_sea) rfl
  have g_law_sea := He.glo_ok X G (c.fact 10 (f := .glo "_law_sea") rfl)
  obtain ⟨fd_law_lot, F_law_lot⟩ := c.def_ 11 (d := d_law_lot) rfl
  have g_law_lot := He.glo_ok X G (c.fact 11 (f := .glo "_law_lot") rfl)
  obtain ⟨fd_law_is_count, F_law_is_count⟩ := c.def_ 12 (d := d_law_is_count) rfl
  have g_law_is_count := He.glo_ok X G (c.fact 12 (f := .glo "_law_is_count") rfl)
  obtain ⟨fd_law_sea_due, F_law_sea_due⟩ := c.def_ 13 (d := d_law_sea_due) rfl
  have g_law_sea_due := He.glo_ok X G (c.fact 13 (f := .glo "_law_sea_due") rfl)
  obtain ⟨fd_law_lot_due, F_law_lot_due⟩ := c.def_ 14 (d := d_law_lot_due) rfl
  have g_law_lot_due := He.glo_ok X G (c.fact 14 (f := .glo "_law_lot_due") rfl)
  obtain ⟨fd_law_odd, F_law_odd⟩ := c.def_ 15 (d := d_law_odd) rfl
  have g_law_odd := He.glo_ok X G (c.fact 15 (f := .glo "_law_odd") rfl)
  obtain ⟨fd_law_bent, F_law_bent⟩ := c.def_ 16 (d := d_law_bent) rfl
  have g_law_bent := He.glo_ok X G (c.fact 16 (f := .glo "_law_bent") rfl)
  obtain ⟨fd_law_right, F_law_right⟩ := c.def_ 17 (d := d_law_right) rfl
  have g_law_right := He.glo_ok X G (c.fact 17 (f := .glo "_law_right") rfl)
  obtain ⟨fd_law, F_law⟩ := c.def_ 18 (d := d_law) rfl
  have g_law := He.glo_ok X G (c.fact 18 (f := .glo "law") rfl)
  cases hfa.symm.trans g_law
  refine ⟨fd_law, fun s v => FunD.bindsA (ps := ["_law_script"]) F_law (fun _ _ _ _ _ _ us hl => match us, hl with | [_], _ => rfl) s [v] rfl, fun base _ _ => ?_⟩
  letI : TabC := ⟨[]⟩
  have o_is_number : FnOk P w K mg base CX0 1 _ fd_is_number ["thing"] (spF ⟨K, mg⟩ f_is_number) := ok_is_number nb  F_is_number
  have c_is_number : FnD P w K mg base "is_number" 1 ["thing"] f_is_number := FunD.d F_is_number g_is_number (fun _ _ _ _ _ _ us hl => match us, hl with | [_], _ => rfl) o_is_number
  have o_is_count : FnOk P w K mg base CX0 2 _ fd_is_count ["thing"] (spF ⟨K, mg⟩ f_is_count) := ok_is_count nb c_is_number F_is_count
  have c_is_count : FnD P w K mg base "is_count" 2 ["thing"] f_is_count := FunD.d F_is_count g_is_count (fun _ _ _ _ _ _ us hl => match us, hl with | [_], _ => rfl) o_is_count
  have o_is_sea : FnOk P w K mg base CX0 3 _ fd_is_sea ["thing"] (spF ⟨K, mg⟩ f_is_sea) := ok_is_sea nb c_is_count F_is_sea
  have c_is_sea : FnD P w K mg base "is_sea" 3 ["thing"] f_is_sea := FunD.d F_is_sea g_is_sea (fun _ _ _ _ _ _ us hl => match us, hl with | [_], _ => rfl) o_is_sea
  have k_is_sea_0_thing : FnK P w K mg base "is_sea" 3 ["thing"] ["thing"] 0 [0] f_is_sea := FunD.k F_is_sea g_is_sea (fun _ _ _ _ _ _ us ws h1 h2 => match us, h1, ws, h2 with | [], _, [_], _ => rfl) o_is_sea
  have o_are_ships : FnOk P w K mg base CX0 3 _ fd_are_ships ["many", "thing"] (spF ⟨K, mg⟩ f_are_ships) := ok_are_ships nb c_is_count F_are_ships
  have c_are_ships : FnD P w K mg base "are_ships" 3 ["many", "thing"] f_are_ships := FunD.d F_are_ships g_are_ships (fun _ _ _ _ _ _ us hl => match us, hl with | [_, _], _ => rfl) o_are_ships
  have o_is_standing : FnOk P w K mg base CX0 4 _ fd_is_standing ["sea", "thing"] (spF ⟨K, mg⟩ f_is_standing) := ok_is_standing nb c_are_ships F_is_standing
  have c_is_standing : FnD P w K mg base "is_standing" 4 ["sea", "thing"] f_is_standing := FunD.d F_is_standing g_is_standing (fun _ _ _ _ _ _ us hl => match us, hl with | [_, _], _ => rfl) o_is_standing
  have k_is_standing_0_thing_sea : FnK P w K mg base "is_standing" 4 ["sea", "thing"] ["thing", "sea"] 0 [1, 0] f_is_standing := FunD.k F_is_standing g_is_standing (fun _ _ _ _ _ _ us ws h1 h2 => match us, h1, ws, h2 with | [], _, [_, _], _ => rfl) o_is_standing
  have o_law_cell_at : FnOk P w K mg base CX0 1 _ fd_law_cell_at ["_law_script", "_law_k"] (spF ⟨K, mg⟩ f_law_cell_at) := ok_law_cell_at nb  F_law_cell_at
  have c_law_cell_at : FnD P w K mg base "_law_cell_at" 1 ["_law_script", "_law_k"] f_law_cell_at := FunD.d F_law_cell_at g_law_cell_at (fun _ _ _ _ _ _ us hl => match us, hl with | [_, _], _ => rfl) o_law_cell_at
  have o_law_box : FnOk P w K mg base CX0 2 _ fd_law_box ["_law_script", "_law_k"] (spF ⟨K, mg⟩ f_law_box) := ok_law_box nb c_law_cell_at F_law_box
  have c_law_box : FnD P w K mg base "_law_box" 2 ["_law_script", "_law_k"] f_law_box := FunD.d F_law_box g_law_box (fun _ _ _ _ _ _ us hl => match us, hl with | [_, _], _ => rfl) o_law_box
  have cF_law_box : FnDF P w K mg base "_law_box" 2 ["_law_script", "_law_k"] fF_law_box := FunD.df F_law_box g_law_box (fun _ _ _ _ _ _ us hl => match us, hl with | [_, _], _ => rfl) (okF_law_box nb c_law_cell_at F_law_box)
  have o_law_take : FnOk P w K mg base CX0 1 _ fd_law_take ["_law_box_here", "_law_span"] (spF ⟨K, mg⟩ f_law_take) := ok_law_take nb  F_law_take
  have c_law_take : FnD P w K mg base "_law_take" 1 ["_law_box_here", "_law_span"] f_law_take := FunD.d F_law_take g_law_take (fun _ _ _ _ _ _ us hl => match us, hl with | [_, _], _ => rfl) o_law_take
  have o_law_of : FnOk P w K mg base CX0 2 _ fd_law_of ["_law_box_here", "_law_some"] (spF ⟨K, mg⟩ f_law_of) := ok_law_of nb c_law_take F_law_of
  have c_law_of : FnD P w K mg base "_law_of" 2 ["_law_box_here", "_law_some"] f_law_of := FunD.d F_law_of g_law_of (fun _ _ _ _ _ _ us hl => match us, hl with | [_, _], _ => rfl) o_law_of
  have c_law_same : FnD P w K mg base "_law_same" 9 ["_law_found", "_law_due"] f_law_same := (FunD.d F_law_same g_law_same (fun _ _ _ _ _ _ us hl => match us, hl with | [_, _], _ => rfl) (ok_law_same nb  F_law_same g_law_same 8)).mono (by decide)
  have o_law_sea : FnOk P w K mg base CX0 3 _ fd_law_sea ["_law_box_here", "_law_most"] (spF ⟨K, mg⟩ f_law_sea) := ok_law_sea nb c_law_of c_law_take F_law_sea
  have c_law_sea : FnD P w K mg base "_law_sea" 3 ["_law_box_here", "_law_most"] f_law_sea := FunD.d F_law_sea g_law_sea (fun _ _ _ _ _ _ us hl => match us, hl with | [_, _], _ => rfl) o_law_sea
  have o_law_lot : FnOk P w K mg base CX0 3 _ fd_law_lot ["_law_box_here", "_law_count"] (spF ⟨K, mg⟩ f_law_lot) := ok_law_lot nb c_law_of c_law_take F_law_lot
  have c_law_lot : FnD P w K mg base "_law_lot" 3 ["_law_box_here", "_law_count"] f_law_lot := FunD.d F_law_lot g_law_lot (fun _ _ _ _ _ _ us hl => match us, hl with | [_, _], _ => rfl) o_law_lot
  have o_law_is_count : FnOk P w K mg base CX0 1 _ fd_law_is_count ["_law_part"] (spF ⟨K, mg⟩ f_law_is_count) := ok_law_is_count nb  F_law_is_count
  have c_law_is_count : FnD P w K mg base "_law_is_count" 1 ["_law_part"] f_law_is_count := FunD.d F_law_is_count g_law_is_count (fun _ _ _ _ _ _ us hl => match us, hl with | [_], _ => rfl) o_law_is_count
  have o_law_sea_due : FnOk P w K mg base CX0 2 _ fd_law_sea_due ["_law_matter"] (spF ⟨K, mg⟩ f_law_sea_due) := ok_law_sea_due nb c_law_is_count F_law_sea_due
  have c_law_sea_due : FnD P w K mg base "_law_sea_due" 2 ["_law_matter"] f_law_sea_due := FunD.d F_law_sea_due g_law_sea_due (fun _ _ _ _ _ _ us hl => match us, hl with | [_], _ => rfl) o_law_sea_due
  have o_law_lot_due : FnOk P w K mg base CX0 2 _ fd_law_lot_due ["_law_count", "_law_matter"] (spF ⟨K, mg⟩ f_law_lot_due) := ok_law_lot_due nb nx c_law_is_count F_law_lot_due
  have c_law_lot_due : FnD P w K mg base "_law_lot_due" 2 ["_law_count", "_law_matter"] f_law_lot_due := FunD.d F_law_lot_due g_law_lot_due (fun _ _ _ _ _ _ us hl => match us, hl with | [_, _], _ => rfl) o_law_lot_due
  have o_law_odd : FnOk P w K mg base CX0 3 _ fd_law_odd ["_law_box_here", "_law_matter"] (spF ⟨K, mg⟩ f_law_odd) := ok_law_odd nb c_law_of F_law_odd
  have c_law_odd : FnD P w K mg base "_law_odd" 3 ["_law_box_here", "_law_matter"] f_law_odd := FunD.d F_law_odd g_law_odd (fun _ _ _ _ _ _ us hl => match us, hl with | [_, _], _ => rfl) o_law_odd
  have c_law_bent : FnD P w K mg base "_law_bent" 12 ["_law_box_here", "_law_matter", "_law_deep"] f_law_bent := (FunD.d F_law_bent g_law_bent (fun _ _ _ _ _ _ us hl => match us, hl with | [_, _, _], _ => rfl) (ok_law_bent nb c_law_odd c_law_take F_law_bent g_law_bent 8)).mono (by decide)
  have o_law_right : FnG P w K mg base 13 _ fd_law_right ["_law_box_here"] (spF ⟨K, mg⟩ f_law_right) := ok_law_right nb nx k_is_sea_0_thing k_is_standing_0_thing_sea c_law_bent c_law_lot c_law_lot_due c_law_of c_law_same c_law_sea c_law_sea_due c_law_take c_is_sea c_is_standing F_law_right
  have c_law_right : FnDG P w K mg base "_law_right" 13 ["_law_box_here"] f_law_right := ⟨_, fd_law_right, g_law_right, F_law_right.kp, F_law_right.bindsN (fun _ _ _ _ _ _ us hl => match us, hl with | [_], _ => rfl), o_law_right⟩
  exact ok_law nb cF_law_box c_law_right F_law
end LW
open PySem PySem.W PySem.Calls PyProof.Rows in
theorem PySem.Challenge.cw_shoalmates_k01_seas_and_standings_holds : PySem.Challenge.rw_shoalmates_k01_seas_and_standings.Holds := by
  w_on; o_law
  refine HandSHeadRun.head_any (r := OpenLaw.row PySem.Challenge.rw_shoalmates_k01_seas_and_standings) (q := view (OpenLaw.row PySem.Challenge.rw_shoalmates_k01_seas_and_standings).prog [21]) (H := LW.hk) (ob := LW.ob) (M := 4000) (loose := LW.others) (d := HandSHeadRun.topDef (OpenLaw.row PySem.Challenge.rw_shoalmates_k01_seas_and_standings).prog 21) (kwd := []) LW.ob_eq
    (by kernel_rfl) (fun s => by kernel_rfl) LW.run (by kernel_rfl) (by kernel_rfl) (by kernel_rfl) (by rfl) (by first | assumption | decide +kernel) (by decide +kernel) ⟨rfl, rfl, rfl, rfl, rfl, by decide +kernel⟩ ?hw ?hc
  case hw => w_witness2
  case hc =>
    refine DL.walk_still (l := PySem.Challenge.rw_shoalmates_k01_seas_and_standings) (n := 63) (k := 14) (x := "_law_script") rfl (by decide) (by kernel_rfl) ⟨rfl, by decide, by decide⟩ ?F
    intro w mg fa h Y G hmg0
    obtain ⟨K, KX, c⟩ := Y
    have hmg : mg ("law" : PySem.Str) = some (.ref fa) := by
      have e : (HandSHeadRun.topDef (OpenLaw.row PySem.Challenge.rw_shoalmates_k01_seas_and_standings).prog 21).name = ("law" : PySem.Str) := by kernel_rfl
      rw [← e]
      exact hmg0
    obtain ⟨fd, hb, hF⟩ := LW.facts (P := (PySem.Challenge.rw_shoalmates_k01_seas_and_standings).prog) (w := w) KX G hmg c
    letI : DL.TabC := ⟨[]⟩
    exact ⟨K, fd, _, KX, hb, fun H a ns hl _ hS => DL.sp_law hS hl (fun p hp => nomatch hp) (LW.plain ns hl), hF⟩
