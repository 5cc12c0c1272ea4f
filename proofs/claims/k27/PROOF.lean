import PyProof.Rows.All
import HandS.HeadHook4
import HandS.ForMost
import HandS.Walk
import HandS.Exc
import HandS.Zip
import HandS.Lambda
import KE.DataEq
import HandS.TupAny
import HandS.Wide
import HandS.Style
import HandS.IsInst
import HandS.SortInts
import HandS.Defaults
import KE.GoesEnum
import KE.GoesMore
import HandS.Deep
import HandS.Head2
import HandS.HeadHook2
import HandS.Conv
import HandS.Iter
import HandS.SetFor
import HandS.More
import HandS.Strs
import HandS.SortRule
import HandS.SetBool
import KE.KDictDisplayH
import HandS.TupLen
import HandS.DictComp
import HandS.Finally
import KE.KDictPairs
import PyProof.WalksMore
import PyProof.WalkInts
import PyProof.Rows.TupIter
import HandS.TryOnly
import KE.SortKeyHeap
import PyProof.ReprRoads
import PyProof.ReprLen
import HandS.Nested
import HandS.EndTab
import PyProof.Rows.StrJoinMade
import HandS.TupMul
import KE.KDictCopyH
import KE.SortData
import HandS.HeadEnd
import PyProof.CallFns
import PyProof.CallStr
import PyProof.Rows.IntBool
import PyProof.Rows.SumAny
import PyProof.SetRoads
import KE.DataMinMax
import KE.DataFind
import HandS.Sort
import KE.KDictWalk
import HandS.ExcOwn
import HandS.ExcInit
import HandS.ExcIs
import KE.KExcIs
import KE.KExcInit
import HandS.ExcField
import HandS.Text
import HandS.Codes
import HandS.Steps
import HandS.Flow
import HandS.Replace
import PyProof.StrCalls6
import PySem.Challenge.RW_shoalmates_k27_seas_and_standings_as_tex
import KE.IntTextText
import Wide.All
import OpenK.AllK
import Wide.FinOn
import KE.KStateDown
import Lean
import HandS.Base
import HandS.Call
import HandS.Ends
import HandS.Words
import HandS.WordsExc
import HandS.Head0
import HandS.Head1
import HandS.HeadHook1
import HandS.HeadHook3
set_option Elab.async false
set_option linter.all false
set_option maxRecDepth 100000
set_option maxHeartbeats 0
namespace He
open PySem PySem.Spec PyProof.Rows L2
noncomputable def clo (g : Addr → Option Obj) (n : Nat) : List Addr → Nat → List Addr → List Addr :=
  Nat.rec (motive := fun _ => List Addr → Nat → List Addr → List Addr) (fun _ _ acc => acc) (fun _ ih todo m acc => match todo with
    | [] => acc
    | a :: r => match Nat.beq (Nat.land (Nat.shiftRight m a) 1) 0 with
      | false => ih r m acc
      | true => match g a with
        | some o => ih (refsD o ++ r) (Nat.lor m (Nat.shiftLeft 1 a)) (a :: acc)
        | none => ih r (Nat.lor m (Nat.shiftLeft 1 a)) acc) n
noncomputable def alC (n : Nat) (g : Addr → Option Obj) : List Addr := (clo g n [mainGlobals] 0 []).reverse
section
variable {al : (Addr → Option Obj) → List Addr} {fa : List Fa} {fn : List DefD} {ts : List Tab} {tf : List Defn} {ex : PySem.W.Frag → Bool} {w : World}
def obsA (al : (Addr → Option Obj) → List Addr) (fa : List Fa) (fn : List DefD) (ts : List Tab) (tf : List Defn) (ex : PySem.W.Frag → Bool) (g : Addr → Option Obj) : AlX := (obsT fa fn ts (frT g (al g)), ex (frT g (al g)) && tabsB g tf (frT g (al g)))
theorem saysA_of {h : Heap} (e : obsA al fa fn ts tf ex h.get? = valX fn ts w) : SaysX fa fn ts tf ex w h (frT h.get? (al h.get?)) := by
  have e1 : obsT fa fn ts (frT h.get? (al h.get?)) = valT fn ts w := congrArg (fun z : AlX => z.1) e
  have e2 : (ex (frT h.get? (al h.get?)) && tabsB h.get? tf (frT h.get? (al h.get?))) = true := congrArg (fun z : AlX => z.2) e
  obtain ⟨h1, h2⟩ := ba e2
  have key : ∀ p ∈ tf, PySem.W.codeHdIn (frT h.get? (al h.get?)) (cT (frT h.get? (al h.get?)) p).1 (cT (frT h.get? (al h.get?)) p).2 = true ∧ ∃ o, h.get? (cT (frT h.get? (al h.get?)) p).2 = some o ∧ emptyTab o = true := fun p hp => by
    obtain ⟨h3, h4⟩ := ba (List.all_eq_true.mp h2 p hp)
    refine ⟨h3, ?_⟩
    cases q : h.get? (cT (frT h.get? (al h.get?)) p).2 with
    | none =>
      rw [q] at h4
      cases h4
    | some o =>
      rw [q] at h4
      exact ⟨o, rfl, h4⟩
  exact ⟨e1, h1, fun p hp => (key p hp).1, fun p hp => by
    obtain ⟨_, o, q, z⟩ := key p hp
    exact frT_none q z, fun p hp => by
    obtain ⟨_, o, q, z⟩ := key p hp
    rw [q, emptyTab_eq z]⟩
def hookA (al : (Addr → Option Obj) → List Addr) (fa : List Fa) (fn : List DefD) (ts : List Tab) (tf : List Defn) (ex : PySem.W.Frag → Bool) : PySem.W.Hook where
  α := AlX
  obs := fun s => obsA al fa fn ts tf ex s.heap.get?
  val := fun w => valX fn ts w
  says := fun w h => ∃ K : PySem.W.Frag, K.In h ∧ SaysX fa fn ts tf ex w h K
  of := fun _ _ e => ⟨_, frT_in, saysA_of e⟩
  keeps := fun _ _ _ ⟨K, hK, c⟩ k => ⟨K, PySem.W.Frag.In.keeps hK k, ⟨c.t, c.more, c.hd, c.out, fun p hp => k _ _ (c.empty p hp)⟩⟩
theorem obsA_eq {g : Addr → Option Obj} {s : Shared} (h : ∀ a, g a = s.heap.get? a) : obsA al fa fn ts tf ex g = (hookA al fa fn ts tf ex).obs s := by
  have e : g = s.heap.get? := funext h
  rw [e] <;> rfl
end
end He
inductive XBase where
  | ve | le | oe
namespace XBase
open PySem
def nm : XBase → String
  | .ve => "ValueError" | .le => "LookupError" | .oe => "OverflowError"
def nw : XBase → String
  | .ve => "ValueError.__new__" | .le => "LookupError.__new__" | .oe => "OverflowError.__new__"
def ini : XBase → String
  | .ve => "ValueError.__init__" | .le => "LookupError.__init__" | .oe => "OverflowError.__init__"
def mro : XBase → List Value
  | .ve => [.type "ValueError", .type "Exception", .type "BaseException", .type "object"]
  | .le => [.type "LookupError", .type "Exception", .type "BaseException", .type "object"]
  | .oe => [.type "OverflowError", .type "ArithmeticError", .type "Exception", .type "BaseException", .type "object"]
theorem facts : ∀ b : XBase, ExcBaseFacts b.nm b.nw b.ini b.mro
  | .ve => F.excBase_ValueError
  | .le => F.excBase_LookupError
  | .oe => F.excBase_OverflowError
theorem pass (self : Value) : ∀ b : XBase, refuseLoop self "__setattr__" b.mro = pure ()
  | .ve => F.store_ValueError.passes self
  | .le => F.store_LookupError.passes self
  | .oe => F.store_OverflowError.passes self
theorem obj : ∀ b : XBase, b.mro.contains (.type "object") = true
  | .ve => by decide +kernel
  | .le => by decide +kernel
  | .oe => by decide +kernel
theorem typ : ∀ b : XBase, typeOf (.type b.nm) = pure (.type "type")
  | .ve => by kernel_rfl
  | .le => by kernel_rfl
  | .oe => by kernel_rfl
theorem stub : ∀ b : XBase, Manifest.isStub b.nm = false
  | .ve => by decide +kernel
  | .le => by decide +kernel
  | .oe => by decide +kernel
theorem handed : ∀ b : XBase, PySem.W.handedIn (.builtin b.ini) = true
  | .ve => by decide +kernel
  | .le => by decide +kernel
  | .oe => by decide +kernel
end XBase
namespace DL
open PySem PySem.Spec PyProof.Rows L2
def oexB (K : PySem.W.Frag) (b : XBase) (C : Addr) : Bool := (match K.lookup C with
  | some ⟨.type "type", _, .cls cd, sl⟩ => (match cd.mro, sl.toList with
    | .ref C' :: bm, [_, _, _, _, some (.builtin n), _] => C' == C && n == b.nw && !cd.hasDel && cd.hasDict && bm == b.mro
    | _, _ => false)
  | _ => false) && decide (PySem.W.findIn K (.ref C) "__setattr__" = some (some (.builtin "object.__setattr__"))) && decide (PySem.W.subIn K (.ref C) (.type "BaseException") = some true) && decide (PySem.W.typeIn K (.ref C) = some (.type "type")) && PySem.W.keepIn K (.ref C)
def exkB (K : PySem.W.Frag) (C : Addr) : Bool := (PySem.W.clsIn K C).isSome && decide (PySem.W.findIn K (.ref C) "__getattribute__" = some (some (.builtin "BaseException.__getattribute__"))) && decide (PySem.W.findIn K (.ref C) "__getattr__" = some none) && decide (PySem.W.subIn K (.ref C) (.type "BaseException") = some true) &&
  decide (PySem.W.findIn K (.ref C) "__class__" = some (some (.builtin "object.__class__"))) && decide (PySem.W.specialIn K (.builtin "object.__class__") "__get__" = some (some (.builtin "getset_descriptor.__get__"))) && decide (PySem.W.takesIn K (.builtin "object.__class__") = some true) && decide (PySem.W.mroIn K C (.type "object") = some true) && PySem.W.hasDictIn K C
def iniB (K : PySem.W.Frag) (C : Addr) : Bool := decide (PySem.W.findIn K (.ref C) "__init__" = some (some (.ref (He.ma K C "__init__")))) && decide (PySem.W.typeIn K (.ref (He.ma K C "__init__")) = some (.type "function"))
def veiB (K : PySem.W.Frag) (b : XBase) : Bool := match PySem.W.findCls K (.type b.nm) (.type "type") "__init__" with
  | some (.val (.builtin s)) => s == b.ini
  | _ => false
def xkB (K : PySem.W.Frag) (tb : List (Str × List Str)) (own : List Str) (bl : List String) : Bool :=
  (tb.all fun p => own.contains p.1) && (own.all fun C => exkB K (He.ga K C)) &&
  (tb.all fun p => own.all fun T => decide (PySem.W.kitOne K (.ref (He.ga K p.1)) (.ref (He.ga K T)) = some (p.2.contains T))) &&
  (tb.all fun p => bl.all fun T => decide (PySem.W.kitOne K (.ref (He.ga K p.1)) (.type T) = some (p.2.contains (Str.ofString T)))) &&
  (own.all fun T => decide (PySem.W.kitOne K (.type "NoneType") (.ref (He.ga K T)) = some false)) && (bl.all fun T => decide (PySem.W.kitOne K (.type "NoneType") (.type T) = some false)) &&
  (tb.all fun p => own.all fun T => decide (PySem.W.exmOne K (.ref (He.ga K p.1)) (.ref (He.ga K T)) = some (p.2.contains T))) && (veiB K .ve && veiB K .le && veiB K .oe)
end DL
namespace LW
open PySem PySem.Spec PyProof.Rows L2 DL
def top (i : Nat) : Stmt := PySem.Challenge.pw_shoalmates_k27_seas_and_standings_as_tex.main.body.getD i (.Pass ⟨0, 0, 0, 0⟩)
abbrev s_number_in : Stmt := top 16
abbrev s_sea_text : Stmt := top 17
abbrev s_sea_in : Stmt := top 18
abbrev s_standing_text : Stmt := top 19
abbrev s_ships_in : Stmt := top 20
abbrev s_standing_in : Stmt := top 21
abbrev s_law_cell_at : Stmt := top 23
abbrev s_law_box : Stmt := top 24
abbrev s_law_take : Stmt := top 25
abbrev s_law_of : Stmt := top 26
abbrev s_law_same : Stmt := top 27
abbrev s_law_sea : Stmt := top 28
abbrev s_law_lot : Stmt := top 29
abbrev s_law_lists : Stmt := top 30
abbrev s_law_number_in : Stmt := top 31
abbrev s_law_ships_in : Stmt := top 32
abbrev s_law_bent_text : Stmt := top 33
abbrev s_law_read_sea : Stmt := top 34
abbrev s_law_read_lot : Stmt := top 35
abbrev s_law_told : Stmt := top 36
abbrev s_law_right : Stmt := top 37
abbrev s_law : Stmt := top 38
abbrev s_I_BadText : Stmt := inClass (top 3) 0
abbrev ownX : List Str := ["MayNot", "Apart", "BadText", "BadRow", "NoShip", "NoDeed", "Full"]
abbrev blX : List String := ["ValueError"]
abbrev tbX : List (Str × List Str) := [("MayNot", ["MayNot", "ValueError", "Exception", "BaseException"]), ("Apart", ["Apart", "ValueError", "Exception", "BaseException"]), ("BadText", ["BadText", "ValueError", "Exception", "BaseException"]), ("BadRow", ["BadRow", "ValueError", "Exception", "BaseException"]), ("NoShip", ["NoShip", "LookupError", "Exception", "BaseException"]), ("NoDeed", ["NoDeed", "LookupError", "Exception", "BaseException"]), ("Full", ["Full", "OverflowError", "ArithmeticError", "Exception", "BaseException"])]
def d_number_in : He.DefD := ⟨("number_in", none), "number_in", "number_in", defArgs s_number_in, defBody s_number_in, defScope s_number_in, [], []⟩
def d_sea_text : He.DefD := ⟨("sea_text", none), "sea_text", "sea_text", defArgs s_sea_text, defBody s_sea_text, defScope s_sea_text, [], []⟩
def d_sea_in : He.DefD := ⟨("sea_in", none), "sea_in", "sea_in", defArgs s_sea_in, defBody s_sea_in, defScope s_sea_in, [], []⟩
def d_standing_text : He.DefD := ⟨("standing_text", none), "standing_text", "standing_text", defArgs s_standing_text, defBody s_standing_text, defScope s_standing_text, [], []⟩
def d_ships_in : He.DefD := ⟨("ships_in", none), "ships_in", "ships_in", defArgs s_ships_in, defBody s_ships_in, defScope s_ships_in, [], []⟩
def d_standing_in : He.DefD := ⟨("standing_in", none), "standing_in", "standing_in", defArgs s_standing_in, defBody s_standing_in, defScope s_standing_in, [], []⟩
def d_law_cell_at : He.DefD := ⟨("_law_cell_at", none), "_law_cell_at", "_law_cell_at", defArgs s_law_cell_at, defBody s_law_cell_at, defScope s_law_cell_at, [], []⟩
def d_law_box : He.DefD := ⟨("_law_box", none), "_law_box", "_law_box", defArgs s_law_box, defBody s_law_box, defScope s_law_box, [], []⟩
def d_law_take : He.DefD := ⟨("_law_take", none), "_law_take", "_law_take", defArgs s_law_take, defBody s_law_take, defScope s_law_take, [], []⟩
def d_law_of : He.DefD := ⟨("_law_of", none), "_law_of", "_law_of", defArgs s_law_of, defBody s_law_of, defScope s_law_of, [], []⟩
def d_law_same : He.DefD := ⟨("_law_same", none), "_law_same", "_law_same", defArgs s_law_same, defBody s_law_same, defScope s_law_same, [], []⟩
def d_law_sea : He.DefD := ⟨("_law_sea", none), "_law_sea", "_law_sea", defArgs s_law_sea, defBody s_law_sea, defScope s_law_sea, [], []⟩
def d_law_lot : He.DefD := ⟨("_law_lot", none), "_law_lot", "_law_lot", defArgs s_law_lot, defBody s_law_lot, defScope s_law_lot, [], []⟩
def d_law_lists : He.DefD := ⟨("_law_lists", none), "_law_lists", "_law_lists", defArgs s_law_lists, defBody s_law_lists, defScope s_law_lists, [], []⟩
def d_law_number_in : He.DefD := ⟨("_law_number_in", none), "_law_number_in", "_law_number_in", defArgs s_law_number_in, defBody s_law_number_in, defScope s_law_number_in, [], []⟩
def d_law_ships_in : He.DefD := ⟨("_law_ships_in", none), "_law_ships_in", "_law_ships_in", defArgs s_law_ships_in, defBody s_law_ships_in, defScope s_law_ships_in, [], []⟩
def d_law_bent_text : He.DefD := ⟨("_law_bent_text", none), "_law_bent_text", "_law_bent_text", defArgs s_law_bent_text, defBody s_law_bent_text, defScope s_law_bent_text, [], []⟩
def d_law_read_sea : He.DefD := ⟨("_law_read_sea", none), "_law_read_sea", "_law_read_sea", defArgs s_law_read_sea, defBody s_law_read_sea, defScope s_law_read_sea, [], []⟩
def d_law_read_lot : He.DefD := ⟨("_law_read_lot", none), "_law_read_lot", "_law_read_lot", defArgs s_law_read_lot, defBody s_law_read_lot, defScope s_law_read_lot, [], []⟩
def d_law_told : He.DefD := ⟨("_law_told", none), "_law_told", "_law_told", defArgs s_law_told, defBody s_law_told, defScope s_law_told, [], []⟩
def d_law_right : He.DefD := ⟨("_law_right", none), "_law_right", "_law_right", defArgs s_law_right, defBody s_law_right, defScope s_law_right, [], []⟩
def d_law : He.DefD := ⟨("law", none), "law", "law", defArgs s_law, defBody s_law, defScope s_law, [], []⟩
def d_I_BadText : He.DefD := ⟨("BadText", some "__init__"), "__init__", "BadText.__init__", defArgs s_I_BadText, defBody s_I_BadText, defScope s_I_BadText, [], []⟩
def fn : List He.DefD := ([d_number_in, d_sea_text, d_sea_in, d_standing_text, d_ships_in, d_standing_in, d_law_cell_at, d_law_box, d_law_take, d_law_of, d_law_same, d_law_sea, d_law_lot, d_law_lists, d_law_number_in, d_law_ships_in, d_law_bent_text, d_law_read_sea, d_law_read_lot, d_law_told, d_law_right, d_law, d_I_BadText] : List He.DefD)
def fa : List He.Fa := ([.glo "number_in", .glo "sea_text", .glo "sea_in", .glo "standing_text", .glo "ships_in", .glo "standing_in", .glo "_law_cell_at", .glo "_law_box", .glo "_law_take", .glo "_law_of", .glo "_law_same", .glo "_law_sea", .glo "_law_lot", .glo "_law_lists", .glo "_law_number_in", .glo "_law_ships_in", .glo "_law_bent_text", .glo "_law_read_sea", .glo "_law_read_lot", .glo "_law_told", .glo "_law_right", .glo "law", .free "len", .free "range", .free "all", .free "any", .free "min", .free "max", .free "abs", .free "sum"] : List He.Fa) ++ ([.free "int", .free "bool", .free "str", .free "list", .free "tuple", .free "sorted", .free "enumerate", .free "zip", .free "isinstance", .str "FIGURES" "0123456789", .int "MOST_FIGURES" 13, .str "BLANK" " ", .str "COLON" ":", .int "AHEAD" 3, .int "DEPTHS" 2, .str "NONE" "-", .free "set", .free "repr", .free "dict", .glo "MayNot", .glo "Apart", .glo "BadText", .glo "BadRow", .glo "NoShip", .glo "NoDeed", .glo "Full", .free "ValueError"] : List He.Fa)
def xqB (K : PySem.W.Frag) : Bool := xkB K tbX ownX blX && oexB K .ve (He.ga K "BadText") && iniB K (He.ga K "BadText") && decide (PySem.W.findIn K (.ref (He.ga K "BadText")) "text" = some none) && decide (PySem.W.findIn K (.ref (He.ga K "BadText")) "text" = some none)
abbrev R : PySem.W.OpenRow := PySem.W.OpenLaw.row PySem.Challenge.rw_shoalmates_k27_seas_and_standings_as_tex
def tf : List He.Defn := []
def ln : List PySem.Str := []
def exk (K : PySem.W.Frag) : Bool := (decide (ln.map fun x => (He.cT K (x, none)).2).Nodup) && xqB K
def ts : List He.Tab := []
noncomputable abbrev hk : PySem.W.Hook := He.hookA (He.alC 20000) fa fn ts tf exk
noncomputable def ob (s : PySem.W.SharedT) : He.AlX := He.obsA (He.alC 20000) fa fn ts tf exk (HandSHeadRun.getT s)
theorem ob_eq (s : PySem.W.SharedT) : ob s = hk.obs s.abs := He.obsA_eq (HandSHeadRun.getT_eq s)
def others : List PySem.Str := (["MayNot", "Apart", "BadText", "BadRow", "NoShip", "NoDeed", "Full", "FIGURES", "MOST_FIGURES", "BLANK", "COLON", "NONE", "DEPTHS", "AHEAD", "number_in", "sea_text", "sea_in", "standing_text", "ships_in", "standing_in", "_law_cell_at", "_law_box", "_law_take", "_law_of", "_law_same", "_law_sea", "_law_lot", "_law_lists", "_law_number_in", "_law_ships_in"] : List PySem.Str) ++ (["_law_bent_text", "_law_read_sea", "_law_read_lot", "_law_told", "_law_right"] : List PySem.Str)
theorem run (w : World) : HandSHeadRun.RunEq R (PySem.W.view R.prog [38]) hk ob 4000 others w := by
  intro os
  kernel_rfl
end LW
namespace DL
open PySem L2
/-- data, with no address -/
inductive D where
  | non | bl (b : Bool) | int (i : Int) | str (s : Str)
  | lst (xs : List D) | tup (xs : List D)
  | dT (kvs : List (List Int × D)) | dK (kvs : List (Key × D))
  | obj (C : Str) (fs : List (Str × D))
  | scr (ns : List Int)
  | exn (C : Str) (fs : List (Str × D))
  | fT (kvs : List (List Int × D))
/-- a slot: empty, a value, an object of one's own that may be changed, one that was handed in and may be changed -/
inductive Sl where
  | e | v (d : D) | o (d : D) | p (d : D)
abbrev Env := List Sl
structure Gc where
  K : PySem.W.Frag
  mg : Str → Option Value
def StL (G : Gc) (a : Addr) (xs : List V) : Prop :=
  ∃ (o : Obj) (its : Array Value) (n : Nat), G.K.lookup a = some o ∧ o.cls = .type "list" ∧ o.dict = none ∧ o.data = .seq its n ∧ its.size ≤ sizeLine ∧ Vals xs its.toList
def FL (H : Hp) (W : List Addr) (a : Addr) (xs : List V) : Prop := a ∉ W ∧ Rd H a (.lst xs)
def FT (G : Gc) (H : Hp) (W : List Addr) (a : Addr) (xs : List V) : Prop := H a = some (.tup xs)
/-- an exception at a, of the class cls, its dict at d -/
def ExH (a : Addr) (cls : Value) (d : Option Addr) : HO := .ext fun h => ∃ oe vs, h.get? a = some oe ∧ Zc cls d oe ∧ oe.data = .fields vs
/-- an exception's dict -/
def XdH (H : Hp) (W : List Addr) : Option Addr → List (Str × V) → Prop
  | none, vs => vs = []
  | some dx, vs => dx ∉ W ∧ H dx = some (.xd vs)
mutual
def Rp (G : Gc) (H : Hp) (W : List Addr) : D → V → Prop
  | .non, v => v = .non
  | .bl b, v => v = .bl b
  | .int i, v => v = .int i
  | .str s, v => v = .str s
  | .lst ds, v => ∃ a vs, v = .ref a ∧ FL H W a vs ∧ ds.length ≤ sizeLine ∧ RpAll G H W ds vs
  | .tup ds, v => ∃ a vs, v = .ref a ∧ FT G H W a vs ∧ ds.length ≤ sizeLine ∧ RpAll G H W ds vs
  | .dT kvs, v => ∃ a vs, v = .ref a ∧ a ∉ W ∧ H a = some (.dT vs) ∧ kvs.length ≤ sizeLine ∧ RpT G H W kvs vs
  | .dK kvs, v => ∃ a vs, v = .ref a ∧ a ∉ W ∧ H a = some (.dK vs) ∧ kvs.length ≤ sizeLine ∧ RpK G H W kvs vs
  | .obj C fs, v => ∃ a Ca dx vs, v = .ref a ∧ a ∉ W ∧ H a = some (.ins Ca dx vs) ∧ G.mg C = some (.ref Ca) ∧ fs.length ≤ 900 ∧ RpF G H W fs vs
  | .scr ns, v => ∃ a, v = .ref a ∧ ((a ∉ W ∧ Rd H a (.lst (ns.map V.int))) ∨ StL G a (ns.map V.int)) ∧ ns.length ≤ sizeLine
  | .exn C fs, v => ∃ a Ca d vs, v = .ref a ∧ a ∉ W ∧ H a = some (ExH a (.ref Ca) d) ∧ G.mg C = some (.ref Ca) ∧ XdH H W d vs ∧ fs.length ≤ 900 ∧ RpF G H W fs vs
  | .fT kvs, v => ∃ a od vs, v = .ref a ∧ a ∉ W ∧ H a = some (.frz od (.dT vs)) ∧ kvs.length ≤ sizeLine ∧ RpT G H W kvs vs
def RpAll (G : Gc) (H : Hp) (W : List Addr) : List D → List V → Prop
  | [], vs => vs = []
  | d :: ds, vs => ∃ x xs, vs = x :: xs ∧ Rp G H W d x ∧ RpAll G H W ds xs
def RpT (G : Gc) (H : Hp) (W : List Addr) : List (List Int × D) → List (List Key × V) → Prop
  | [], vs => vs = []
  | (k, d) :: ds, vs => ∃ x xs, vs = (k.map Sum.inl, x) :: xs ∧ Rp G H W d x ∧ RpT G H W ds xs
def RpK (G : Gc) (H : Hp) (W : List Addr) : List (Key × D) → List (Key × V) → Prop
  | [], vs => vs = []
  | (k, d) :: ds, vs => ∃ x xs, vs = (k, x) :: xs ∧ Rp G H W d x ∧ RpK G H W ds xs
def RpF (G : Gc) (H : Hp) (W : List Addr) : List (Str × D) → List (Str × V) → Prop
  | [], vs => vs = []
  | (k, d) :: ds, vs => ∃ x xs, vs = (k, x) :: xs ∧ Rp G H W d x ∧ RpF G H W ds xs
end
/-- an object of one's own -/
def Ow (G : Gc) (H : Hp) (W : List Addr) : D → Addr → Prop
  | .lst ds, a => ∃ vs, H a = some (.lst vs) ∧ ds.length ≤ sizeLine ∧ RpAll G H W ds vs
  | .dT kvs, a => ∃ vs, H a = some (.dT vs) ∧ kvs.length ≤ sizeLine ∧ RpT G H W kvs vs
  | .dK kvs, a => ∃ vs, H a = some (.dK vs) ∧ kvs.length ≤ sizeLine ∧ RpK G H W kvs vs
  | .obj C fs, a => ∃ Ca dx vs, H a = some (.ins Ca dx vs) ∧ G.mg C = some (.ref Ca) ∧ fs.length ≤ 900 ∧ RpF G H W fs vs
  | _, _ => False
def isTp : HO → Bool
  | .tup _ => true
  | _ => false
def isTb : HO → Bool
  | .tbl _ => true
  | _ => false
def isEx : HO → Bool
  | .ext _ => true
  | _ => false
/-- the tables of code objects of those defs of the program that make lambdas, and the lambdas' names -/
class TabC where
  T : List (Addr × Str)
variable [TabC]
def TabsG (H : Hp) : Prop := LamX.Tabs TabC.T H
/-- what stands stays, but for W; tuples stay always; tables of code objects may grow -/
structure Fm (W : List Addr) (H H' : Hp) : Prop where
  k : ∀ b x, (b ∈ W → isTp x = true) → isTb x = false → H b = some x → H' b = some x
  tb : TabsG H → TabsG H'
  tk : ∀ b ps, H b = some (.tbl ps) → ∃ ps', H' b = some (.tbl ps')
instance {W : List Addr} {H H' : Hp} : CoeFun (Fm W H H') (fun _ => ∀ b x, (b ∈ W → isTp x = true) → H b = some x → (nt : isTb x = false := by rfl) → H' b = some x) := ⟨fun f b x n e nt => f.k b x n nt e⟩
omit [TabC] in
theorem tab_keep {H H' : Hp} {P : Addr} {q : Str} (t : LamX.TabS H P q) (k : ∀ b x, (isTb x = true ∨ ∃ q, x = LamX.CodeO b q) → H b = some x → H' b = some x) : LamX.TabS H' P q := by
  obtain ⟨ps, h1, h2, h3⟩ := t
  refine ⟨ps, k _ _ (.inl rfl) h1, h2, fun pos cv hc => ?_⟩
  obtain ⟨c, e1, e2⟩ := h3 pos cv hc
  exact ⟨c, e1, k _ _ (.inr ⟨_, rfl⟩) e2⟩
/-- nothing is changed but plain objects -/
theorem Fm.ofX {W : List Addr} {H H' : Hp} (k : ∀ b x, (b ∈ W → isTp x = true) → H b = some x → H' b = some x) (hW : ∀ b x, b ∈ W → H b = some x → isTb x = false ∧ ∀ q, x ≠ LamX.CodeO b q) : Fm W H H' :=
  ⟨fun b x n _ e => k b x n e, fun t p hp => tab_keep (t p hp) fun b x c e => k b x (fun z => by
    have h := hW b x z e
    rcases c with c | ⟨q, c⟩
    · rw [h.1] at c; cases c
    · exact (h.2 q c).elim) e, fun b ps e => ⟨ps, k b _ (fun z => by have := (hW b _ z e).1; cases this) e⟩⟩
theorem Fm.of {W : List Addr} {H H' : Hp} (k : ∀ b x, (b ∈ W → isTp x = true) → H b = some x → H' b = some x) (hW : ∀ b x, b ∈ W → H b = some x → isTb x = false ∧ isEx x = false) : Fm W H H' :=
  Fm.ofX k fun b x hb e => ⟨(hW b x hb e).1, fun q z => by have := (hW b x hb e).2; rw [z] at this; cases this⟩
theorem Fm.of0 {H H' : Hp} (k : ∀ b x, H b = some x → H' b = some x) : Fm [] H H' := Fm.of (fun b x _ e => k b x e) fun _ _ h => nomatch h
theorem Fm.out {W : List Addr} {H H' : Hp} (f : Fm W H H') {b : Addr} {x : HO} (n : b ∉ W) (e : H b = some x) (nt : isTb x = false := by rfl) : H' b = some x := f b x (fun z => (n z).elim) e nt
theorem Fm.refl (W : List Addr) (H : Hp) : Fm W H H := ⟨fun _ _ _ _ e => e, fun t => t, fun _ ps e => ⟨ps, e⟩⟩
theorem Fm.trans {W : List Addr} {H H1 H2 : Hp} (a : Fm W H H1) (b : Fm W H1 H2) : Fm W H H2 := ⟨fun c x n nt e => b.k c x n nt (a.k c x n nt e), fun t => b.tb (a.tb t), fun c ps e => have ⟨ps1, e1⟩ := a.tk c ps e; b.tk c ps1 e1⟩
theorem Fm.seq {A B W : List Addr} {H H1 H2 : Hp} (a : Fm A H H1) (b : Fm B H1 H2) (k : ∀ c x, (c ∈ W → isTp x = true) → isTb x = false → H c = some x → H2 c = some x) : Fm W H H2 := ⟨k, fun t => b.tb (a.tb t), fun c ps e => have ⟨ps1, e1⟩ := a.tk c ps e; b.tk c ps1 e1⟩
theorem Fm.mono {W W' : List Addr} {H H1 : Hp} (a : Fm W H H1) (h : ∀ b ∈ W, b ∈ W') : Fm W' H H1 := ⟨fun c x n nt e => a.k c x (fun z => n (h c z)) nt e, a.tb, a.tk⟩
theorem Fm.thw {W : List Addr} {H H1 : Hp} (f : Fm W H H1) {b : Addr} (n : b ∉ W) (h : H b ≠ none) : H1 b ≠ none := fun e => by
  cases q : H b with
  | none => exact h q
  | some x =>
    cases c : isTb x with
    | false => have := f.k b x (fun z => (n z).elim) c q; rw [e] at this; cases this
    | true =>
      cases x with
      | tbl ps => obtain ⟨ps', e'⟩ := f.tk b ps q; rw [e] at e'; cases e'
      | _ => cases c
theorem Fm.th {H H1 : Hp} (f : Fm [] H H1) {b : Addr} (h : H b ≠ none) : H1 b ≠ none := f.thw (by simp) h
theorem Fm.rd {W : List Addr} {H H1 : Hp} (f : Fm W H H1) {a : Addr} {u : HO} (n : a ∉ W) (h : Rd H a u) (nt : isTb u = false := by rfl) : Rd H1 a u := by
  rcases h with h | ⟨o, h⟩
  · exact .inl (f a _ (fun z => (n z).elim) h nt)
  · exact .inr ⟨o, f a _ (fun z => (n z).elim) h rfl⟩
omit [TabC] in
theorem Rd.ne0 {H : Hp} {a : Addr} {u : HO} (h : Rd H a u) : H a ≠ none := by
  rcases h with h | ⟨o, h⟩ <;> rw [h] <;> exact fun z => nomatch z
/-- the step by which all data stay -/
structure Mo (W W' : List Addr) (H H' : Hp) : Prop where
  fm : Fm W H H'
  nw : ∀ b ∈ W', b ∈ W ∨ H b = none
theorem Mo.refl (W : List Addr) (H : Hp) : Mo W W H H := ⟨Fm.refl W H, fun _ h => .inl h⟩
theorem Mo.rd {W W' : List Addr} {H H1 : Hp} (f : Mo W W' H H1) {a : Addr} {u : HO} (n : a ∉ W) (h : Rd H a u) (nt : isTb u = false := by rfl) : a ∉ W' ∧ Rd H1 a u :=
  ⟨fun z => (f.nw a z).elim n (fun e => Rd.ne0 h e), f.fm.rd n h nt⟩
theorem FL.mo {W W' : List Addr} {H H1 : Hp} {a : Addr} {xs : List V} (m : Mo W W' H H1) (h : FL H W a xs) : FL H1 W' a xs := m.rd h.1 h.2
theorem FT.mo {G : Gc} {W W' : List Addr} {H H1 : Hp} {a : Addr} {xs : List V} (m : Mo W W' H H1) (h : FT G H W a xs) : FT G H1 W' a xs := by
  exact m.fm _ _ (fun _ => rfl) h rfl
theorem XdH.mo {W W' : List Addr} {H H1 : Hp} (m : Mo W W' H H1) : ∀ {d : Option Addr} {vs : List (Str × V)}, XdH H W d vs → XdH H1 W' d vs
  | none, _, h => h
  | some _, _, ⟨n, f⟩ => ⟨(m.rd n (.inl f)).1, m.fm.out n f⟩
mutual
theorem Rp.mo {G : Gc} {W W' : List Addr} {H H1 : Hp} (m : Mo W W' H H1) : ∀ (d : D) (v : V), Rp G H W d v → Rp G H1 W' d v
  | .non, v, h => h
  | .bl b, v, h => h
  | .int i, v, h => h
  | .str s, v, h => h
  | .lst ds, v, ⟨a, vs, e, f, l, r⟩ => ⟨a, vs, e, f.mo m, l, RpAll.mo m ds vs r⟩
  | .tup ds, v, ⟨a, vs, e, f, l, r⟩ => ⟨a, vs, e, f.mo m, l, RpAll.mo m ds vs r⟩
  | .dT ds, v, ⟨a, vs, e, n, f, l, r⟩ => ⟨a, vs, e, (m.rd n (.inl f)).1, m.fm.out n f, l, RpT.mo m ds vs r⟩
  | .dK ds, v, ⟨a, vs, e, n, f, l, r⟩ => ⟨a, vs, e, (m.rd n (.inl f)).1, m.fm.out n f, l, RpK.mo m ds vs r⟩
  | .obj C ds, v, ⟨a, Ca, dx, vs, e, n, f, g, l, r⟩ => ⟨a, Ca, dx, vs, e, (m.rd n (.inl f)).1, m.fm.out n f, g, l, RpF.mo m ds vs r⟩
  | .scr ns, v, ⟨a, e, f, l⟩ => ⟨a, e, f.imp (fun f => m.rd f.1 f.2) id, l⟩
  | .exn C ds, v, ⟨a, Ca, d, vs, e, n, f, g, x, l, r⟩ => ⟨a, Ca, d, vs, e, (m.rd n (.inl f)).1, m.fm.out n f, g, x.mo m, l, RpF.mo m ds vs r⟩
  | .fT ds, v, ⟨a, od, vs, e, n, f, l, r⟩ => ⟨a, od, vs, e, (m.rd n (.inl f)).1, m.fm.out n f, l, RpT.mo m ds vs r⟩
theorem RpAll.mo {G : Gc} {W W' : List Addr} {H H1 : Hp} (m : Mo W W' H H1) : ∀ (ds : List D) (vs : List V), RpAll G H W ds vs → RpAll G H1 W' ds vs
  | [], vs, h => h
  | d :: ds, vs, ⟨x, xs, e, r, q⟩ => ⟨x, xs, e, Rp.mo m d x r, RpAll.mo m ds xs q⟩
theorem RpT.mo {G : Gc} {W W' : List Addr} {H H1 : Hp} (m : Mo W W' H H1) : ∀ (ds : List (List Int × D)) (vs : List (List Key × V)), RpT G H W ds vs → RpT G H1 W' ds vs
  | [], vs, h => h
  | (k, d) :: ds, vs, ⟨x, xs, e, r, q⟩ => ⟨x, xs, e, Rp.mo m d x r, RpT.mo m ds xs q⟩
theorem RpK.mo {G : Gc} {W W' : List Addr} {H H1 : Hp} (m : Mo W W' H H1) : ∀ (ds : List (Key × D)) (vs : List (Key × V)), RpK G H W ds vs → RpK G H1 W' ds vs
  | [], vs, h => h
  | (k, d) :: ds, vs, ⟨x, xs, e, r, q⟩ => ⟨x, xs, e, Rp.mo m d x r, RpK.mo m ds xs q⟩
theorem RpF.mo {G : Gc} {W W' : List Addr} {H H1 : Hp} (m : Mo W W' H H1) : ∀ (ds : List (Str × D)) (vs : List (Str × V)), RpF G H W ds vs → RpF G H1 W' ds vs
  | [], vs, h => h
  | (k, d) :: ds, vs, ⟨x, xs, e, r, q⟩ => ⟨x, xs, e, Rp.mo m d x r, RpF.mo m ds xs q⟩
end
omit [TabC] in
theorem Ow.ne0 {G : Gc} {H : Hp} {W : List Addr} {d : D} {a : Addr} (h : Ow G H W d a) : H a ≠ none := by
  cases d with
  | lst ds => obtain ⟨vs, e, _⟩ := h; rw [e]; exact fun z => nomatch z
  | dT ds => obtain ⟨vs, e, _⟩ := h; rw [e]; exact fun z => nomatch z
  | dK ds => obtain ⟨vs, e, _⟩ := h; rw [e]; exact fun z => nomatch z
  | obj C ds => obtain ⟨Ca, dx, vs, e, _⟩ := h; rw [e]; exact fun z => nomatch z
  | _ => exact h.elim
/-- an own object that was not touched -/
theorem Ow.mo {G : Gc} {H H' : Hp} {W W' : List Addr} {d : D} {a : Addr} (m : Mo W W' H H') (k : ∀ x, H a = some x → (nt : isTb x = false := by rfl) → H' a = some x) (h : Ow G H W d a) : Ow G H' W' d a := by
  cases d with
  | lst ds => obtain ⟨vs, e, l, r⟩ := h; exact ⟨vs, k _ e, l, RpAll.mo m _ _ r⟩
  | dT ds => obtain ⟨vs, e, l, r⟩ := h; exact ⟨vs, k _ e, l, RpT.mo m _ _ r⟩
  | dK ds => obtain ⟨vs, e, l, r⟩ := h; exact ⟨vs, k _ e, l, RpK.mo m _ _ r⟩
  | obj C ds => obtain ⟨Ca, dx, vs, e, g, l, r⟩ := h; exact ⟨Ca, dx, vs, k _ e, g, l, RpF.mo m _ _ r⟩
  | _ => exact h.elim
/-- an own object is a value from now on -/
theorem Ow.rp {G : Gc} {H : Hp} {W W' : List Addr} {d : D} {a : Addr} (n : a ∉ W') (s : ∀ b ∈ W', b ∈ W) (h : Ow G H W d a) : Rp G H W' d (.ref a) := by
  have m : Mo W W' H H := ⟨Fm.refl W H, fun b z => .inl (s b z)⟩
  cases d with
  | lst ds => obtain ⟨vs, e, l, r⟩ := h; exact ⟨a, vs, rfl, ⟨n, .inl e⟩, l, RpAll.mo m _ _ r⟩
  | dT ds => obtain ⟨vs, e, l, r⟩ := h; exact ⟨a, vs, rfl, n, e, l, RpT.mo m _ _ r⟩
  | dK ds => obtain ⟨vs, e, l, r⟩ := h; exact ⟨a, vs, rfl, n, e, l, RpK.mo m _ _ r⟩
  | obj C ds => obtain ⟨Ca, dx, vs, e, g, l, r⟩ := h; exact ⟨a, Ca, dx, vs, rfl, n, e, g, l, RpF.mo m _ _ r⟩
  | _ => exact h.elim
omit [TabC] in
structure Gam where
  U : List Addr
  π : List (Nat × Addr)
omit [TabC] in
def ownO : St → Env → List Addr
  | some (.ref a) :: σ, .o _ :: ρ => a :: ownO σ ρ
  | _ :: σ, _ :: ρ => ownO σ ρ
  | _, _ => []
omit [TabC] in
abbrev Gam.w (Γ : Gam) (σ : St) (ρ : Env) : List Addr := ownO σ ρ ++ Γ.U
omit [TabC] in
abbrev Gam.mu (Γ : Gam) (σ : St) (ρ : Env) : List Addr := ownO σ ρ ++ Γ.π.map (·.2)
omit [TabC] in
def SlR (G : Gc) (H : Hp) (W : List Addr) (π : List (Nat × Addr)) (i : Nat) : Option V → Sl → Prop
  | _, .e => True
  | x, .v d => ∃ v, x = some v ∧ Rp G H W d v
  | x, .o d => ∃ a, x = some (.ref a) ∧ Ow G H W d a
  | x, .p d => ∃ a, x = some (.ref a) ∧ (i, a) ∈ π ∧ Ow G H W d a
theorem TabsG.fm {H H' : Hp} {W : List Addr} (t : TabsG H) (f : Fm W H H') : TabsG H' := f.tb t
structure Sr (Γ : Gam) (G : Gc) (H : Hp) (σ : St) (ρ : Env) : Prop where
  len : σ.length = ρ.length
  nd : (ownO σ ρ).Nodup
  out : ∀ a ∈ ownO σ ρ, a ∉ Γ.U
  sl : ∀ (i : Nat) (s : Sl), ρ[i]? = some s → ∃ x, σ[i]? = some x ∧ SlR G H (Γ.w σ ρ) Γ.π i x s
  pin : ∀ p ∈ Γ.π, p.2 ∈ Γ.U ∧ ∃ d, ρ[p.1]? = some (.p d)
  pnd : (Γ.π.map (·.2)).Nodup
  th : ∀ a ∈ Γ.U, H a ≠ none
  tb : TabsG H
omit [TabC] in
theorem mem_ownO : ∀ {σ : St} {ρ : Env} {a : Addr}, a ∈ ownO σ ρ ↔ ∃ (i : Nat) (d : D), σ[i]? = some (some (.ref a)) ∧ ρ[i]? = some (.o d)
  | [], ρ, a => by
    constructor
    · intro h; simp [ownO] at h
    · rintro ⟨i, d, h, _⟩; simp at h
  | x :: σ, [], a => by
    constructor
    · intro h
      cases x with
      | none => simp [ownO] at h
      | some v => cases v <;> simp [ownO] at h
    · rintro ⟨i, d, _, h⟩; simp at h
  | x :: σ, s :: ρ, a => by
    have ih := mem_ownO (σ := σ) (ρ := ρ) (a := a)
    have key : a ∈ ownO (x :: σ) (s :: ρ) ↔ (∃ d, x = some (.ref a) ∧ s = .o d) ∨ a ∈ ownO σ ρ := by
      cases s with
      | o d =>
        cases x with
        | none => simp [ownO]
        | some v =>
          cases v with
          | ref b =>
            simp only [ownO, List.mem_cons]
            constructor
            · rintro (h | h)
              · exact .inl ⟨d, by rw [h], rfl⟩
              · exact .inr h
            · rintro (⟨_, h, _⟩ | h)
              · left
                injection h with h; injection h with h; exact h.symm
              · exact .inr h
          | _ => simp [ownO]
      | _ =>
        cases x with
        | none => simp [ownO]
        | some v => cases v <;> simp [ownO]
    rw [key, ih]
    constructor
    · rintro (⟨d, h1, h2⟩ | ⟨i, d, h1, h2⟩)
      · exact ⟨0, d, by simp [h1], by simp [h2]⟩
      · exact ⟨i + 1, d, by simpa using h1, by simpa using h2⟩
    · rintro ⟨i, d, h1, h2⟩
      cases i with
      | zero => exact .inl ⟨d, by simpa using h1, by simpa using h2⟩
      | succ i => exact .inr ⟨i, d, by simpa using h1, by simpa using h2⟩
omit [TabC] in
/-- two places of one own address are one -/
theorem ownO_inj : ∀ {σ : St} {ρ : Env}, (ownO σ ρ).Nodup → ∀ {i j : Nat} {a : Addr} {d d' : D}, σ[i]? = some (some (.ref a)) → ρ[i]? = some (.o d) → σ[j]? = some (some (.ref a)) → ρ[j]? = some (.o d') → i = j
  | [], _, _, i, _, _, _, _, h, _, _, _ => by simp at h
  | _ :: _, [], _, i, _, _, _, _, _, h, _, _ => by simp at h
  | x :: σ, s :: ρ, nd, i, j, a, d, d', h1, h2, h3, h4 => by
    have tl : (ownO σ ρ).Nodup := by
      cases s with
      | o d =>
        cases x with
        | none => simpa [ownO] using nd
        | some v =>
          cases v with
          | ref b => simp only [ownO, List.nodup_cons] at nd; exact nd.2
          | _ => simpa [ownO] using nd
      | _ =>
        cases x with
        | none => simpa [ownO] using nd
        | some v => cases v <;> simpa [ownO] using nd
    have hd : ∀ {j : Nat} {d' : D}, x = some (.ref a) → s = .o d → σ[j]? = some (some (.ref a)) → ρ[j]? = some (.o d') → False := by
      rintro j d' rfl rfl q1 q2
      simp only [ownO, List.nodup_cons] at nd
      exact nd.1 (mem_ownO.mpr ⟨j, d', q1, q2⟩)
    have hd' : ∀ {j : Nat} {d'' : D}, x = some (.ref a) → s = .o d'' → ∀ {d' : D}, σ[j]? = some (some (.ref a)) → ρ[j]? = some (.o d') → False := by
      rintro j d'' rfl rfl d' q1 q2
      simp only [ownO, List.nodup_cons] at nd
      exact nd.1 (mem_ownO.mpr ⟨j, d', q1, q2⟩)
    cases i with
    | zero =>
      cases j with
      | zero => rfl
      | succ j => exact (hd' (by simpa using h1) (by simpa using h2) (by simpa using h3) (by simpa using h4)).elim
    | succ i =>
      cases j with
      | zero => exact (hd' (by simpa using h3) (by simpa using h4) (by simpa using h1) (by simpa using h2)).elim
      | succ j => exact congrArg (· + 1) (ownO_inj tl (by simpa using h1) (by simpa using h2) (by simpa using h3) (by simpa using h4))
end DL
namespace DL
open PySem L2
variable [TabC]
omit [TabC] in
abbrev _root_.L2.Cx.G (X : Cx) : Gc := ⟨X.K, X.mg⟩
section
variable {Γ : Gam} {G : Gc} {H H' H1 H2 : Hp} {σ σ' σ1 σ2 : L2.St} {ρ ρ' ρ1 ρ2 : Env}
theorem Sr.mu_w (s : Sr Γ G H σ ρ) : ∀ b ∈ Γ.mu σ ρ, b ∈ Γ.w σ ρ := fun b h => by
  rcases List.mem_append.mp h with h | h
  · exact List.mem_append_left _ h
  · obtain ⟨p, hp, e⟩ := List.mem_map.mp h
    exact List.mem_append_right _ (e ▸ (s.pin p hp).1)
theorem Sr.own_th (s : Sr Γ G H σ ρ) : ∀ a ∈ ownO σ ρ, H a ≠ none := fun a h => by
  obtain ⟨i, d, h1, h2⟩ := mem_ownO.mp h
  obtain ⟨x, e, q⟩ := s.sl i _ h2
  rw [h1] at e
  cases e
  obtain ⟨b, e, q⟩ := q
  cases e
  exact q.ne0
theorem Sr.w_th (s : Sr Γ G H σ ρ) : ∀ a ∈ Γ.w σ ρ, H a ≠ none := fun a h => (List.mem_append.mp h).elim (s.own_th a) (s.th a)
omit [TabC] in
/-- what is known stays known -/
def Tr (H H' : Hp) : Prop := ∀ b, H b ≠ none → H' b ≠ none
omit [TabC] in
theorem Tr.refl (H : Hp) : Tr H H := fun _ z => z
omit [TabC] in
theorem Tr.trans (a : Tr H H1) (b : Tr H1 H2) : Tr H H2 := fun c z => b c (a c z)
theorem Tr.of (f : Fm [] H H') : Tr H H' := fun b z => f.th z
omit [TabC] in
theorem tr_upd {a : Addr} {o : HO} : Tr H (upd H a o) := fun b z e => by
  by_cases q : b = a
  · rw [q, upd_same] at e; cases e
  · rw [upd_ne q] at e; exact z e
omit [TabC] in
theorem Tr.back (t : Tr H H') {b : Addr} (n : H' b = none) : H b = none := by
  cases q : H b with
  | none => rfl
  | some x => exact absurd n (t b (by rw [q]; exact fun z => nomatch z))
/-- behind an expression -/
structure Po (Γ : Gam) (G : Gc) (σ : L2.St) (ρ : Env) (H : Hp) (ρ' : Env) (H' : Hp) : Prop where
  sr : Sr Γ G H' σ ρ'
  fm : Fm (Γ.mu σ ρ) H H'
  sub : ∀ a ∈ ownO σ ρ', a ∈ ownO σ ρ
  tr : Tr H H'
theorem Po.refl (s : Sr Γ G H σ ρ) : Po Γ G σ ρ H ρ H := ⟨s, Fm.refl _ _, fun _ h => h, Tr.refl _⟩
omit [TabC] in
theorem mu_sub (h : ∀ a ∈ ownO σ ρ', a ∈ ownO σ ρ) : ∀ b ∈ Γ.mu σ ρ', b ∈ Γ.mu σ ρ := fun b z => by
  rcases List.mem_append.mp z with z | z
  · exact List.mem_append_left _ (h b z)
  · exact List.mem_append_right _ z
theorem Po.trans (a : Po Γ G σ ρ H ρ1 H1) (b : Po Γ G σ ρ1 H1 ρ2 H2) : Po Γ G σ ρ H ρ2 H2 :=
  ⟨b.sr, a.fm.trans (b.fm.mono (mu_sub a.sub)), fun x z => a.sub x (b.sub x z), a.tr.trans b.tr⟩
theorem Po.mo (s : Sr Γ G H σ ρ) (a : Po Γ G σ ρ H ρ1 H1) : Mo (Γ.w σ ρ) (Γ.w σ ρ1) H H1 :=
  ⟨a.fm.mono s.mu_w, fun b z => .inl ((List.mem_append.mp z).elim (fun z => List.mem_append_left _ (a.sub b z)) fun z => List.mem_append_right _ z)⟩
/-- nothing that stood was touched -/
theorem Sr.keep (s : Sr Γ G H σ ρ) (f : Fm [] H H') : Sr Γ G H' σ ρ where
  len := s.len
  nd := s.nd
  out := s.out
  pin := s.pin
  pnd := s.pnd
  th := fun a h => f.th (s.th a h)
  tb := s.tb.fm f
  sl := fun i x h => by
    have m : Mo (Γ.w σ ρ) (Γ.w σ ρ) H H' := ⟨f.mono (fun _ z => absurd z (by simp)), fun _ z => .inl z⟩
    obtain ⟨y, e, q⟩ := s.sl i x h
    refine ⟨y, e, ?_⟩
    cases x with
    | e => trivial
    | v d => obtain ⟨v, e, r⟩ := q; exact ⟨v, e, Rp.mo m _ _ r⟩
    | o d => obtain ⟨a, e, r⟩ := q; exact ⟨a, e, r.mo m fun x z nt => f a x (by simp) z nt⟩
    | p d => obtain ⟨a, e, p, r⟩ := q; exact ⟨a, e, p, r.mo m fun x z nt => f a x (by simp) z nt⟩
theorem Sr.po (s : Sr Γ G H σ ρ) (f : Fm [] H H') : Po Γ G σ ρ H ρ H' := ⟨s.keep f, f.mono fun _ z => absurd z (by simp), fun _ h => h, Tr.of f⟩
theorem fm_new {p : Addr} {o : HO} (n : H p = none) : Fm [] H (upd H p o) := Fm.of0 fun b x e => by
  rw [upd_ne (ne_of_none e n)]
  exact e
/-- behind a statement -/
structure So (Γ : Gam) (G : Gc) (σ : L2.St) (ρ : Env) (H : Hp) (σ' : L2.St) (ρ' : Env) (H' : Hp) : Prop where
  sr : Sr Γ G H' σ' ρ'
  fm : Fm (Γ.mu σ ρ) H H'
  nw : ∀ a ∈ ownO σ' ρ', a ∈ ownO σ ρ ∨ H a = none
  tr : Tr H H'
theorem So.refl (s : Sr Γ G H σ ρ) : So Γ G σ ρ H σ ρ H := ⟨s, Fm.refl _ _, fun _ h => .inl h, Tr.refl _⟩
theorem Po.so (a : Po Γ G σ ρ H ρ1 H1) : So Γ G σ ρ H σ ρ1 H1 := ⟨a.sr, a.fm, fun x h => .inl (a.sub x h), a.tr⟩
theorem So.trans (a : So Γ G σ ρ H σ1 ρ1 H1) (b : So Γ G σ1 ρ1 H1 σ2 ρ2 H2) : So Γ G σ ρ H σ2 ρ2 H2 where
  sr := b.sr
  fm := ⟨fun c x n nt e => by
    refine b.fm c x (fun z => ?_) (a.fm c x n e nt) nt
    rcases List.mem_append.mp z with z | z
    · rcases a.nw c z with z | z
      · exact n (List.mem_append_left _ z)
      · rw [e] at z; cases z
    · exact n (List.mem_append_right _ z), fun t => b.fm.tb (a.fm.tb t), fun c ps e => have ⟨ps1, e1⟩ := a.fm.tk c ps e; b.fm.tk c ps1 e1⟩
  nw := fun c z => by
    rcases b.nw c z with z | z
    · exact a.nw c z
    · exact .inr (a.tr.back z)
  tr := a.tr.trans b.tr
theorem So.mo (s : Sr Γ G H σ ρ) (a : So Γ G σ ρ H σ1 ρ1 H1) : Mo (Γ.w σ ρ) (Γ.w σ1 ρ1) H H1 :=
  ⟨a.fm.mono s.mu_w, fun b z => (List.mem_append.mp z).elim (fun z => (a.nw b z).imp (fun z => List.mem_append_left _ z) id) fun z => .inl (List.mem_append_right _ z)⟩
end
omit [TabC] in
abbrev EM := Env → Option (D × Env)
omit [TabC] in
abbrev TM := Env → Option (Bool × Env)
omit [TabC] in
inductive Arg where
  | val (d : D) | slot (i : Nat)
omit [TabC] in
abbrev AM := Env → Option (List Arg × Env)
omit [TabC] in
inductive Out where
  | nx (ρ : Env) | rt (d : D) (ρ : Env) | bk (ρ : Env) | ct (ρ : Env) | rf (d : D) (ρ : Env)
omit [TabC] in
abbrev SM := Env → Option Out
structure DE (X : Cx) (e : Expr) (t : TE) (m : EM) : Prop where
  pe : PE X e t
  q : ∀ (Γ : Gam) (σ : L2.St) (H : Hp) (ρ : Env) (d : D) (ρ' : Env) (Q : VK), Sr Γ X.G H σ ρ → m ρ = some (d, ρ') →
    (∀ v H', Po Γ X.G σ ρ H ρ' H' → Rp X.G H' (Γ.w σ ρ') d v → Q v H') → t σ H Q
structure DT (X : Cx) (e : Expr) (t : TT) (m : TM) : Prop where
  pe : PT X e t
  q : ∀ (Γ : Gam) (σ : L2.St) (H : Hp) (ρ : Env) (d : Bool) (ρ' : Env) (Q : Bool → Hp → Prop), Sr Γ X.G H σ ρ → m ρ = some (d, ρ') →
    (∀ H', Po Γ X.G σ ρ H ρ' H' → Q d H') → t σ H Q
structure DW (X : Cx) (e : Expr) (t : TT) (m : TM) : Prop where
  pe : PW X e t
  q : ∀ (Γ : Gam) (σ : L2.St) (H : Hp) (ρ : Env) (d : Bool) (ρ' : Env) (Q : Bool → Hp → Prop), Sr Γ X.G H σ ρ → m ρ = some (d, ρ') →
    (∀ H', Po Γ X.G σ ρ H ρ' H' → Q d H') → t σ H Q
/-- the wanted end, by the outcome -/
def Fin (Γ : Gam) (G : Gc) (σ : L2.St) (ρ : Env) (H : Hp) (E : Ends) : Out → Prop
  | .nx ρ' => ∀ σ' H', So Γ G σ ρ H σ' ρ' H' → E.nx σ' H'
  | .rt d ρ' => ∀ v σ' H', So Γ G σ ρ H σ' ρ' H' → Rp G H' (Γ.w σ' ρ') d v → E.rt v H'
  | .bk ρ' => ∀ σ' H', So Γ G σ ρ H σ' ρ' H' → E.bk σ' H'
  | .ct ρ' => ∀ σ' H', So Γ G σ ρ H σ' ρ' H' → E.ct σ' H'
  | .rf d ρ' => ∀ a σ' H', So Γ G σ ρ H σ' ρ' H' → (a ∈ ownO σ ρ ∨ H a = none) → a ∉ ownO σ' ρ' → a ∉ Γ.U → Ow G H' (a :: Γ.w σ' ρ') d a → E.rt (.ref a) H'
structure DS (X : Cx) (st : Stmt) (t : TS) (m : SM) : Prop where
  pe : PS X st t
  q : ∀ (Γ : Gam) (σ : L2.St) (H : Hp) (ρ : Env) (o : Out) (E : Ends), Sr Γ X.G H σ ρ → m ρ = some o → Fin Γ X.G σ ρ H E o → t E σ H
structure DSs (X : Cx) (st : List Stmt) (t : TS) (m : SM) : Prop where
  pe : PSs X st t
  q : ∀ (Γ : Gam) (σ : L2.St) (H : Hp) (ρ : Env) (o : Out) (E : Ends), Sr Γ X.G H σ ρ → m ρ = some o → Fin Γ X.G σ ρ H E o → t E σ H
theorem Fin.from {Γ : Gam} {G : Gc} {σ σ1 : L2.St} {ρ ρ1 : Env} {H H1 : Hp} {E E' : Ends} {o : Out} (a : So Γ G σ ρ H σ1 ρ1 H1) (h : Fin Γ G σ ρ H E o)
    (hn : E'.nx = E.nx := by rfl) (hr : E'.rt = E.rt := by rfl) (hb : E'.bk = E.bk := by rfl) (hc : E'.ct = E.ct := by rfl) : Fin Γ G σ1 ρ1 H1 E' o := by
  cases o with
  | nx ρ' => intro σ' H' q; rw [hn]; exact h σ' H' (a.trans q)
  | rt d ρ' => intro v σ' H' q r; rw [hr]; exact h v σ' H' (a.trans q) r
  | bk ρ' => intro σ' H' q; rw [hb]; exact h σ' H' (a.trans q)
  | ct ρ' => intro σ' H' q; rw [hc]; exact h σ' H' (a.trans q)
  | rf d ρ' => intro b σ' H' q n; rw [hr]; exact h b σ' H' (a.trans q) (n.elim (fun z => a.nw b z) fun z => .inr (a.tr.back z))
omit [TabC] in
def sSkip : SM := fun ρ => some (.nx ρ)
omit [TabC] in
def sSeq (m1 m2 : SM) : SM := fun ρ => (m1 ρ).bind fun o => match o with
  | .nx ρ' => m2 ρ'
  | o => some o
omit [TabC] in
def sRet (m : EM) : SM := fun ρ => (m ρ).bind fun p => some (.rt p.1 p.2)
omit [TabC] in
def sRetN : SM := fun ρ => some (.rt .non ρ)
omit [TabC] in
def sNever : SM := fun _ => none
omit [TabC] in
def sIf (c : TM) (a b : SM) : SM := fun ρ => (c ρ).bind fun p => if p.1 = true then a p.2 else b p.2
omit [TabC] in
def sDrop (m : EM) : SM := fun ρ => (m ρ).bind fun p => some (.nx p.2)
omit [TabC] in
/-- a name is stored: not one that was handed in to be changed -/
def putV (i : Nat) (d : D) (ρ : Env) : Option Env := match ρ[i]? with
  | some (.p _) => none
  | some _ => some (ρ.set i (.v d))
  | none => none
omit [TabC] in
def sSet (i : Nat) (m : EM) : SM := fun ρ => (m ρ).bind fun p => (putV i p.1 p.2).bind fun ρ' => some (.nx ρ')
section
variable {X : Cx} {st : Stmt} {sts : List Stmt} {e c : Expr} {pos : Pos} {m m1 m2 : SM} {me : EM} {mc : TM} {t t1 t2 : TS} {te : TE} {tc : TT}
theorem dss_nil : DSs X [] tNext sSkip := ⟨pss_nil, fun Γ σ H ρ o E s h f => by
  cases h
  exact f σ H (So.refl s)⟩
theorem dss_cons (h1 : DS X st t1 m1) (h2 : DSs X sts t2 m2) : DSs X (st :: sts) (tSeq t1 t2) (sSeq m1 m2) := by
  obtain ⟨p1, q1⟩ := h1
  obtain ⟨p2, q2⟩ := h2
  refine ⟨pss_cons p1 p2, fun Γ σ H ρ o E s h f => ?_⟩
  show t1 { E with nx := t2 E } σ H
  unfold sSeq at h
  cases e1 : m1 ρ with
  | none => rw [e1] at h; cases h
  | some o1 =>
    rw [e1] at h
    refine q1 Γ σ H ρ o1 _ s e1 ?_
    cases o1 with
    | nx ρ1 =>
      intro σ1 H1 a
      exact q2 Γ σ1 H1 ρ1 o E a.sr h (f.from a)
    | rt d ρ1 => cases h; exact f
    | bk ρ1 => cases h; exact f
    | ct ρ1 => cases h; exact f
    | rf d ρ1 => cases h; exact f
theorem dss_one (h1 : DS X st t1 m1) : DSs X [st] t1 m1 := by
  obtain ⟨p1, q1⟩ := h1
  exact ⟨pss_one p1, q1⟩
theorem ds_never : DS X st tNever sNever := ⟨ps_never, fun _ _ _ _ _ _ _ h _ => nomatch h⟩
theorem ds_ret (he : DE X e te me) : DS X (.Return (some e) pos) (tRet te) (sRet me) := by
  obtain ⟨p, q⟩ := he
  refine ⟨ps_ret p, fun Γ σ H ρ o E s h f => ?_⟩
  unfold sRet at h
  cases e1 : me ρ with
  | none => rw [e1] at h; cases h
  | some r =>
    rw [e1] at h
    cases h
    exact q Γ σ H ρ r.1 r.2 _ s e1 fun v H' a r => f v σ H' a.so r
theorem ds_if {a b : List Stmt} (hc : DT X c tc mc) (ha : DSs X a t1 m1) (hb : DSs X b t2 m2) : DS X (.If c a b pos) (tIfS tc t1 t2) (sIf mc m1 m2) := by
  obtain ⟨pc, qc⟩ := hc
  obtain ⟨p1, q1⟩ := ha
  obtain ⟨p2, q2⟩ := hb
  refine ⟨ps_if pc p1 p2, fun Γ σ H ρ o E s h f => ?_⟩
  unfold sIf at h
  cases e1 : mc ρ with
  | none => rw [e1] at h; cases h
  | some r =>
    rw [e1] at h
    refine qc Γ σ H ρ r.1 r.2 _ s e1 fun H' a => ?_
    replace h : (if r.1 = true then m1 r.2 else m2 r.2) = some o := h
    split at h
    · rename_i hh; rw [hh]; exact q1 Γ σ H' r.2 o E a.sr h (f.from a.so)
    · rename_i hh
      rw [if_neg hh]
      exact q2 Γ σ H' r.2 o E a.sr h (f.from a.so)
omit [TabC] in
theorem ownO_set (σ : L2.St) (ρ : Env) (i : Nat) (x : Option V) (d : D) : ∀ a ∈ ownO (σ.set i x) (ρ.set i (.v d)), a ∈ ownO σ ρ := fun a h => by
  obtain ⟨j, d', h1, h2⟩ := mem_ownO.mp h
  by_cases e : j = i
  · subst e
    by_cases l : j < ρ.length
    · rw [List.getElem?_set_self l] at h2; cases h2
    · rw [List.getElem?_eq_none (by simpa using Nat.not_lt.mp l)] at h2; cases h2
  · rw [List.getElem?_set_ne (Ne.symm e)] at h1 h2
    exact mem_ownO.mpr ⟨j, d', h1, h2⟩
omit [TabC] in
theorem sub_nodup_own {σ : L2.St} {ρ : Env} (i : Nat) (x : Option V) (s : Sl) (hs : ∀ d, s ≠ .o d) : ∀ (σ : L2.St) (ρ : Env) (i : Nat), (ownO (σ.set i x) (ρ.set i s)).Sublist (ownO σ ρ)
  | [], ρ, i => by simp [ownO]
  | y :: σ, [], i => by cases i <;> simp [ownO]
  | y :: σ, r :: ρ, 0 => by
    have h1 : ownO (x :: σ) (s :: ρ) = ownO σ ρ := by
      cases s with
      | o d => exact absurd rfl (hs d)
      | _ =>
        cases x with
        | none => simp [ownO]
        | some v => cases v <;> simp [ownO]
    show (ownO (x :: σ) (s :: ρ)).Sublist _
    rw [h1]
    cases r with
    | o d =>
      cases y with
      | none => simp [ownO]
      | some v => cases v <;> simp [ownO]
    | _ =>
      cases y with
      | none => simp [ownO]
      | some v => cases v <;> simp [ownO]
  | y :: σ, r :: ρ, i + 1 => by
    have ih := sub_nodup_own (σ := σ) (ρ := ρ) i x s hs σ ρ i
    show (ownO (y :: σ.set i x) (r :: ρ.set i s)).Sublist (ownO (y :: σ) (r :: ρ))
    cases r with
    | o d =>
      cases y with
      | none => simpa [ownO] using ih
      | some v =>
        cases v with
        | ref a => simpa [ownO] using ih
        | _ => simpa [ownO] using ih
    | _ =>
      cases y with
      | none => simpa [ownO] using ih
      | some v => cases v <;> simpa [ownO] using ih
end
section
variable {Γ : Gam} {G : Gc} {H H' H1 H2 : Hp} {σ σ' σ1 σ2 : L2.St} {ρ ρ' ρ1 ρ2 : Env}
/-- a slot takes a value -/
theorem Sr.put {i : Nat} {d : D} {v : V} (s : Sr Γ G H σ ρ) (h : putV i d ρ = some ρ') (r : Rp G H (Γ.w σ ρ) d v) : So Γ G σ ρ H (σ.set i (some v)) ρ' H := by
  unfold putV at h
  have key : ∃ s0, ρ[i]? = some s0 ∧ (∀ d, s0 ≠ .p d) ∧ ρ' = ρ.set i (.v d) := by
    cases e : ρ[i]? with
    | none => rw [e] at h; cases h
    | some s0 =>
      rw [e] at h
      cases s0 with
      | p d => cases h
      | _ => cases h; exact ⟨_, rfl, (fun d z => by cases z), rfl⟩
  obtain ⟨s0, e0, np, rfl⟩ := key
  have sub := ownO_set σ ρ i (some v) d
  have il : i < ρ.length := (List.getElem?_eq_some_iff.mp e0).1
  have m : Mo (Γ.w σ ρ) (Γ.w (σ.set i (some v)) (ρ.set i (.v d))) H H := ⟨Fm.refl _ _, fun b z => .inl ((List.mem_append.mp z).elim (fun z => List.mem_append_left _ (sub b z)) fun z => List.mem_append_right _ z)⟩
  refine ⟨⟨by simpa using s.len, ?_, fun a h => s.out a (sub a h), fun j x hj => ?_, fun p hp => ?_, s.pnd, s.th, s.tb⟩, Fm.refl _ _, fun a h => .inl (sub a h), Tr.refl _⟩
  · exact s.nd.sublist (sub_nodup_own (σ := σ) (ρ := ρ) i _ _ (fun d z => by cases z) σ ρ i)
  · by_cases e : j = i
    · subst e
      rw [List.getElem?_set_self il] at hj
      cases hj
      exact ⟨some v, by rw [List.getElem?_set_self (by rw [s.len]; exact il)], v, rfl, Rp.mo m _ _ r⟩
    · rw [List.getElem?_set_ne (Ne.symm e)] at hj
      obtain ⟨y, e1, q⟩ := s.sl j x hj
      refine ⟨y, by rw [List.getElem?_set_ne (Ne.symm e)]; exact e1, ?_⟩
      cases x with
      | e => trivial
      | v d => obtain ⟨v, e, r⟩ := q; exact ⟨v, e, Rp.mo m _ _ r⟩
      | o d => obtain ⟨a, e, r⟩ := q; exact ⟨a, e, r.mo m fun x z _ => z⟩
      | p d => obtain ⟨a, e, p, r⟩ := q; exact ⟨a, e, p, r.mo m fun x z _ => z⟩
  · obtain ⟨h1, d', h2⟩ := s.pin p hp
    refine ⟨h1, d', ?_⟩
    have ne : i ≠ p.1 := fun z => by
      rw [← z, e0] at h2
      cases h2
      exact np _ rfl
    rw [List.getElem?_set_ne ne]
    exact h2
end
section
variable {X : Cx} {e : Expr} {pos pos' : Pos} {me : EM} {te : TE}
theorem ds_set (i : Nat) {x : Str} (hN : X.N.Nodup) (he : DE X e te me) (hi : X.N[i]? = some x := by rfl) (hx : Loc X.env.scope x := by first | exact Or.inl rfl | exact Or.inr rfl) (hs : swapsWith e (some (.Name x pos')) pos.line X.env = pure false := by rfl)
    (hf : X.fn x = true ∨ X.env.scope.names.lookup x = some .local := by first | exact .inl rfl | exact .inr rfl) : DS X (.Assign [.Name x pos'] e pos) (tAsg te (gName i)) (sSet i me) := by
  obtain ⟨p, q⟩ := he
  refine ⟨ps_set hN hi hx p hs hf, fun Γ σ H ρ o E s h f => ?_⟩
  unfold sSet at h
  cases e1 : me ρ with
  | none => rw [e1] at h; cases h
  | some r =>
    rw [e1] at h
    replace h : (putV i r.1 r.2).bind (fun ρ' => some (.nx ρ')) = some o := h
    cases e2 : putV i r.1 r.2 with
    | none => rw [e2] at h; cases h
    | some ρ2 =>
      rw [e2] at h
      cases h
      refine q Γ σ H ρ r.1 r.2 _ s e1 fun v H' a rr => ?_
      exact f _ H' (a.so.trans (a.sr.put e2 rr))
end
end DL
namespace DL
open PySem L2
variable [TabC]
omit [TabC] in
def eC (d : D) : EM := fun ρ => some (d, ρ)
omit [TabC] in
def eVar (i : Nat) : EM := fun ρ => match ρ[i]? with
  | some (.v d) => some (d, ρ)
  | some (.o d) => some (d, ρ.set i (.v d))
  | _ => none
omit [TabC] in
def eOp1 (f : D → Option D) (a : EM) : EM := fun ρ => (a ρ).bind fun p => (f p.1).map fun z => (z, p.2)
omit [TabC] in
def eOp2 (f : D → D → Option D) (a b : EM) : EM := fun ρ => (a ρ).bind fun p => (b p.2).bind fun q => (f p.1 q.1).map fun z => (z, q.2)
omit [TabC] in
def eIf (c : TM) (a b : EM) : EM := fun ρ => (c ρ).bind fun p => if p.1 = true then a p.2 else b p.2
omit [TabC] in
def eAnd (a b : EM) : EM := fun ρ => (a ρ).bind fun p => match p.1 with
  | .bl true => b p.2
  | .bl false => some (.bl false, p.2)
  | _ => none
omit [TabC] in
def eOr (a b : EM) : EM := fun ρ => (a ρ).bind fun p => match p.1 with
  | .bl true => some (.bl true, p.2)
  | .bl false => b p.2
  | _ => none
omit [TabC] in
def eNot (a : EM) : EM := fun ρ => (a ρ).bind fun p => match p.1 with
  | .bl b => some (.bl (!b), p.2)
  | _ => none
omit [TabC] in
def tB (a : EM) : TM := fun ρ => (a ρ).bind fun p => match p.1 with
  | .bl b => some (b, p.2)
  | _ => none
omit [TabC] in
def tAnd (a b : TM) : TM := fun ρ => (a ρ).bind fun p => if p.1 = true then b p.2 else some (false, p.2)
omit [TabC] in
def tOr (a b : TM) : TM := fun ρ => (a ρ).bind fun p => if p.1 = true then some (true, p.2) else b p.2
omit [TabC] in
def tNot (a : TM) : TM := fun ρ => (a ρ).map fun p => (!p.1, p.2)
omit [TabC] in
def aNil : AM := fun ρ => some ([], ρ)
omit [TabC] in
def aCons (a : EM) (r : AM) : AM := fun ρ => (a ρ).bind fun p => (r p.2).map fun q => (.val p.1 :: q.1, q.2)
omit [TabC] in
/-- an own object handed in to be changed -/
def aSlot (i : Nat) (r : AM) : AM := fun ρ => (r ρ).map fun q => (.slot i :: q.1, q.2)
omit [TabC] in
/-- all are values -/
def vals : List Arg → Option (List D)
  | [] => some []
  | .val d :: r => (vals r).map (d :: ·)
  | .slot _ :: _ => none
omit [TabC] in
def eCallV (f : List D → Option D) (a : AM) : EM := fun ρ => (a ρ).bind fun p => (vals p.1).bind fun ds => (f ds).map fun z => (z, p.2)
section
variable {Γ : Gam} {G : Gc} {H H' H1 H2 : Hp} {σ σ' : L2.St} {ρ ρ' ρ1 ρ2 : Env}
/-- an own object at a slot becomes a value -/
theorem Sr.freeze {i : Nat} {d : D} (s : Sr Γ G H σ ρ) (h : ρ[i]? = some (.o d)) : Po Γ G σ ρ H (ρ.set i (.v d)) H ∧ ∃ a, σ[i]? = some (some (.ref a)) ∧ Rp G H (Γ.w σ (ρ.set i (.v d))) d (.ref a) := by
  obtain ⟨x, ex, a, rfl, ow⟩ := s.sl i _ h
  have il : i < ρ.length := (List.getElem?_eq_some_iff.mp h).1
  have sub : ∀ b ∈ ownO σ (ρ.set i (.v d)), b ∈ ownO σ ρ := fun b hb => by
    have := ownO_set σ ρ i (some (.ref a)) d b
    rw [show σ.set i (some (.ref a)) = σ from ?_] at this
    · exact this hb
    · apply List.ext_getElem?
      intro j
      by_cases e : j = i
      · subst e
        rw [List.getElem?_set_self (List.getElem?_eq_some_iff.mp ex).1, ex]
      · rw [List.getElem?_set_ne (Ne.symm e)]
  have subw : ∀ b ∈ Γ.w σ (ρ.set i (.v d)), b ∈ Γ.w σ ρ := fun b z => (List.mem_append.mp z).elim (fun z => List.mem_append_left _ (sub b z)) fun z => List.mem_append_right _ z
  have na : a ∉ Γ.w σ (ρ.set i (.v d)) := fun z => by
    rcases List.mem_append.mp z with z | z
    · obtain ⟨j, d', h1, h2⟩ := mem_ownO.mp z
      by_cases e : j = i
      · subst e
        rw [List.getElem?_set_self il] at h2
        cases h2
      · rw [List.getElem?_set_ne (Ne.symm e)] at h2
        exact e (ownO_inj s.nd h1 h2 ex h)
    · exact s.out a (mem_ownO.mpr ⟨i, d, ex, h⟩) z
  have rr := ow.rp na subw
  have m : Mo (Γ.w σ ρ) (Γ.w σ (ρ.set i (.v d))) H H := ⟨Fm.refl _ _, fun b z => .inl (subw b z)⟩
  refine ⟨⟨⟨by simpa using s.len, ?_, fun a h => s.out a (sub a h), fun j x hj => ?_, fun p hp => ?_, s.pnd, s.th, s.tb⟩, Fm.refl _ _, sub, Tr.refl _⟩, a, ex, rr⟩
  · have q := sub_nodup_own (σ := σ) (ρ := ρ) i (some (.ref a)) (.v d) (fun d z => by cases z) σ ρ i
    rw [show σ.set i (some (.ref a)) = σ from ?_] at q
    · exact s.nd.sublist q
    · apply List.ext_getElem?
      intro j
      by_cases e : j = i
      · subst e
        rw [List.getElem?_set_self (List.getElem?_eq_some_iff.mp ex).1, ex]
      · rw [List.getElem?_set_ne (Ne.symm e)]
  · by_cases e : j = i
    · subst e
      rw [List.getElem?_set_self il] at hj
      cases hj
      exact ⟨_, ex, _, rfl, rr⟩
    · rw [List.getElem?_set_ne (Ne.symm e)] at hj
      obtain ⟨y, e1, q⟩ := s.sl j x hj
      refine ⟨y, e1, ?_⟩
      cases x with
      | e => trivial
      | v d => obtain ⟨v, e, r⟩ := q; exact ⟨v, e, Rp.mo m _ _ r⟩
      | o d => obtain ⟨a, e, r⟩ := q; exact ⟨a, e, r.mo m fun x z _ => z⟩
      | p d => obtain ⟨a, e, p, r⟩ := q; exact ⟨a, e, p, r.mo m fun x z _ => z⟩
  · obtain ⟨h1, d', h2⟩ := s.pin p hp
    refine ⟨h1, d', ?_⟩
    have ne : i ≠ p.1 := fun z => by
      rw [← z, h] at h2
      cases h2
    rw [List.getElem?_set_ne ne]
    exact h2
end
/-- what an operator on two values tells -/
def OpD (G : Gc) (r : R2) (f : D → D → Option D) : Prop := ∀ (H : Hp) (W : List Addr) (x y : V) (dx dy z : D) (Q : VK), (∀ a ∈ W, H a ≠ none) → Rp G H W dx x → Rp G H W dy y → f dx dy = some z →
  (∀ v H', Fm [] H H' → Rp G H' W z v → Q v H') → r x y H Q
def CallD (G : Gc) (r : List V → Hp → VK → Prop) (f : List D → Option D) : Prop := ∀ (H : Hp) (W : List Addr) (xs : List V) (ds : List D) (z : D) (Q : VK), (∀ a ∈ W, H a ≠ none) → RpAll G H W ds xs → f ds = some z →
  (∀ v H', Fm [] H H' → Rp G H' W z v → Q v H') → r xs H Q
omit [TabC] in
/-- what the arguments are: values, own objects at slots -/
def ArR (G : Gc) (H : Hp) (W : List Addr) (σ : L2.St) : List Arg → List V → Prop
  | [], vs => vs = []
  | .val d :: r, vs => ∃ x xs, vs = x :: xs ∧ Rp G H W d x ∧ ArR G H W σ r xs
  | .slot i :: r, vs => ∃ x xs, vs = x :: xs ∧ σ[i]? = some (some x) ∧ ArR G H W σ r xs
theorem ArR.mo {G : Gc} {W W' : List Addr} {H H1 : Hp} {σ : L2.St} (m : Mo W W' H H1) : ∀ (as : List Arg) (vs : List V), ArR G H W σ as vs → ArR G H1 W' σ as vs
  | [], _, h => h
  | .val d :: r, _, ⟨x, xs, e, q, k⟩ => ⟨x, xs, e, Rp.mo m _ _ q, ArR.mo m r xs k⟩
  | .slot i :: r, _, ⟨x, xs, e, q, k⟩ => ⟨x, xs, e, q, ArR.mo m r xs k⟩
omit [TabC] in
theorem ArR.vals {G : Gc} {W : List Addr} {H : Hp} {σ : L2.St} : ∀ {as : List Arg} {vs : List V} {ds : List D}, ArR G H W σ as vs → vals as = some ds → RpAll G H W ds vs
  | [], _, _, h, e => by cases e; exact h
  | .val d :: r, _, ds, ⟨x, xs, ex, q, k⟩, e => by
    unfold DL.vals at e
    cases e1 : DL.vals r with
    | none => rw [e1] at e; cases e
    | some ds' =>
      rw [e1] at e
      cases e
      exact ⟨x, xs, ex, q, ArR.vals k e1⟩
  | .slot i :: r, _, _, _, e => nomatch e
structure DA (X : Cx) (es : List Expr) (t : TA) (m : AM) : Prop where
  pe : PA X es t
  q : ∀ (Γ : Gam) (σ : L2.St) (H : Hp) (ρ : Env) (as : List Arg) (ρ' : Env) (Q : List V → Hp → Prop), Sr Γ X.G H σ ρ → m ρ = some (as, ρ') →
    (∀ vs H', Po Γ X.G σ ρ H ρ' H' → ArR X.G H' (Γ.w σ ρ') σ as vs → Q vs H') → t σ H Q
section
variable {X : Cx} {e a b c : Expr} {es rest : List Expr} {pos : Pos} {m ma mb : EM} {mc ma' mb' : TM} {am : AM} {te te1 te2 : TE} {tc tt1 tt2 : TT} {at1 : TA}
theorem de_var (i : Nat) {x : Str} (hN : X.N[i]? = some x := by rfl) (hv : Vis X.env.scope x := by first | exact Or.inl rfl | exact Or.inr (Or.inl rfl) | exact Or.inr (Or.inr rfl)) (hd : (x == ("__debug__" : Str)) = false := by decide)
    (hcd : (x == ("__classdict__" : Str)) = false := by decide) : DE X (.Name x pos) (tVar i) (eVar i) := by
  refine ⟨pe_var hN hv hd hcd, fun Γ σ H ρ d ρ' Q s h f => ?_⟩
  unfold eVar at h
  cases e : ρ[i]? with
  | none => rw [e] at h; cases h
  | some sl =>
    rw [e] at h
    cases sl with
    | v d0 =>
      cases h
      obtain ⟨x, ex, v, rfl, r⟩ := s.sl i _ e
      exact ⟨v, ex, f v H (Po.refl s) r⟩
    | o d0 =>
      cases h
      obtain ⟨po, a, ex, r⟩ := s.freeze e
      exact ⟨.ref a, ex, f _ H po r⟩
    | _ => cases h
theorem de_int {i j} : DE X (.Constant (.int i) j pos) (tC (.int i)) (eC (.int i)) := ⟨pe_int, fun Γ σ H ρ d ρ' Q s h f => by
  cases h
  exact f _ H (Po.refl s) rfl⟩
theorem de_bl {i j} : DE X (.Constant (.bool i) j pos) (tC (.bl i)) (eC (.bl i)) := ⟨pe_bl, fun Γ σ H ρ d ρ' Q s h f => by
  cases h
  exact f _ H (Po.refl s) rfl⟩
theorem de_non {j} : DE X (.Constant .none j pos) (tC .non) (eC .non) := ⟨pe_non, fun Γ σ H ρ d ρ' Q s h f => by
  cases h
  exact f _ H (Po.refl s) rfl⟩
theorem de_str {i j} : DE X (.Constant (.str i) j pos) (tC (.str i)) (eC (.str i)) := ⟨pe_str, fun Γ σ H ρ d ρ' Q s h f => by
  cases h
  exact f _ H (Po.refl s) rfl⟩
/-- the frame of the two operands -/
theorem op2 {te1 te2 : TE} {r : R2} {f : D → D → Option D} {G : Gc} (od : OpD G r f)
    (q1 : ∀ (Γ : Gam) (σ : L2.St) (H : Hp) (ρ : Env) (d : D) (ρ' : Env) (Q : VK), Sr Γ G H σ ρ → ma ρ = some (d, ρ') → (∀ v H', Po Γ G σ ρ H ρ' H' → Rp G H' (Γ.w σ ρ') d v → Q v H') → te1 σ H Q)
    (q2 : ∀ (Γ : Gam) (σ : L2.St) (H : Hp) (ρ : Env) (d : D) (ρ' : Env) (Q : VK), Sr Γ G H σ ρ → mb ρ = some (d, ρ') → (∀ v H', Po Γ G σ ρ H ρ' H' → Rp G H' (Γ.w σ ρ') d v → Q v H') → te2 σ H Q)
    (Γ : Gam) (σ : L2.St) (H : Hp) (ρ : Env) (d : D) (ρ' : Env) (Q : VK) (s : Sr Γ G H σ ρ) (h : eOp2 f ma mb ρ = some (d, ρ')) (k : ∀ v H', Po Γ G σ ρ H ρ' H' → Rp G H' (Γ.w σ ρ') d v → Q v H') : tOp r te1 te2 σ H Q := by
  unfold eOp2 at h
  cases e1 : ma ρ with
  | none => rw [e1] at h; cases h
  | some p =>
    rw [e1] at h
    replace h : ((mb p.2).bind fun q => (f p.1 q.1).map fun z => (z, q.2)) = some (d, ρ') := h
    cases e2 : mb p.2 with
    | none => rw [e2] at h; cases h
    | some q =>
      rw [e2] at h
      replace h : ((f p.1 q.1).map fun z => (z, q.2)) = some (d, ρ') := h
      cases e3 : f p.1 q.1 with
      | none => rw [e3] at h; cases h
      | some z =>
        rw [e3] at h
        cases h
        refine q1 Γ σ H ρ p.1 p.2 _ s e1 fun x H1 a1 r1 => ?_
        refine q2 Γ σ H1 p.2 q.1 q.2 _ a1.sr e2 fun y H2 a2 r2 => ?_
        exact od H2 (Γ.w σ q.2) x y p.1 q.1 d Q a2.sr.w_th (Rp.mo (a2.mo a1.sr) _ _ r1) r2 e3 fun v H3 f3 r3 => k v H3 ((a1.trans a2).trans (a2.sr.po f3)) r3
theorem de_op {op : Operator} {r : R2} {f : D → D → Option D} (ho : OpR X (binaryOp op) r) (od : OpD X.G r f) (ha : DE X a te1 ma) (hb : DE X b te2 mb) : DE X (.BinOp a op b pos) (tOp r te1 te2) (eOp2 f ma mb) := by
  obtain ⟨p1, q1⟩ := ha
  obtain ⟨p2, q2⟩ := hb
  exact ⟨pe_op ho p1 p2, op2 od q1 q2⟩
theorem de_cmp {op : CmpOp} {r : R2} {f : D → D → Option D} (ho : OpR X (compareOp op) r) (od : OpD X.G r f) (ha : DE X a te1 ma) (hb : DE X b te2 mb) (hm : behindInMarks op b = false) : DE X (.Compare a [op] [b] pos) (tOp r te1 te2) (eOp2 f ma mb) := by
  obtain ⟨p1, q1⟩ := ha
  obtain ⟨p2, q2⟩ := hb
  exact ⟨pe_cmpR ho p1 p2 hm, op2 od q1 q2⟩
theorem de_ix {r : R2} {f : D → D → Option D} (ho : IxR X r) (od : OpD X.G r f) (ha : DE X a te1 ma) (hb : DE X b te2 mb) (hs : PlainIx b := by exact fun _ _ => rfl) : DE X (.Subscript a b pos) (tOp r te1 te2) (eOp2 f ma mb) := by
  obtain ⟨p1, q1⟩ := ha
  obtain ⟨p2, q2⟩ := hb
  exact ⟨pe_ix ho p1 p2 hs, op2 od q1 q2⟩
theorem dt_val {e : Expr} (h : DE X e te m) (he : ∀ whole, isTrue e X.env whole = (do let v ← whole; standAt e.pos; holding [v] (truthy v)) := by intro _; rfl) : DT X e (L2.tB te) (tB m) := by
  obtain ⟨p1, q1⟩ := h
  refine ⟨pt_val p1 he, fun Γ σ H ρ d ρ' Q s h k => ?_⟩
  unfold DL.tB at h
  cases e1 : m ρ with
  | none => rw [e1] at h; cases h
  | some p =>
    rw [e1] at h
    obtain ⟨d0, ρ0⟩ := p
    cases d0 with
    | bl b0 =>
      cases h
      exact q1 Γ σ H ρ _ _ _ s e1 fun v H' a r => ⟨d, r, k H' a⟩
    | _ => cases h
theorem dt_cmp {op : CmpOp} {r : R2} {f : D → D → Option D} (ho : OpR X (compareOp op) r) (od : OpD X.G r f) (ha : DE X a te1 ma) (hb : DE X b te2 mb) (hm : behindInMarks op b = false) : DT X (.Compare a [op] [b] pos) (tTest (tOp r te1 te2)) (tB (eOp2 f ma mb)) := by
  obtain ⟨p1, q1⟩ := ha
  obtain ⟨p2, q2⟩ := hb
  refine ⟨pt_cmpR ho p1 p2 hm, fun Γ σ H ρ d ρ' Q s h k => ?_⟩
  unfold DL.tB at h
  cases e1 : eOp2 f ma mb ρ with
  | none => rw [e1] at h; cases h
  | some p =>
    rw [e1] at h
    obtain ⟨d0, ρ0⟩ := p
    cases d0 with
    | bl b0 =>
      cases h
      exact op2 od q1 q2 Γ σ H ρ _ _ _ s e1 fun v H' a r => ⟨d, r, k H' a⟩
    | _ => cases h
theorem DW.dt (h : DW X e tc mc) : DT X e tc mc := by
  obtain ⟨p1, q1⟩ := h
  exact ⟨p1.pt, q1⟩
theorem dw_and1 (h : DT X a tt1 ma') : DW X (.BoolOp .And [a] pos) tt1 ma' := by
  obtain ⟨p1, q1⟩ := h
  exact ⟨pw_and1 p1, q1⟩
theorem dw_or1 (h : DT X a tt1 ma') : DW X (.BoolOp .Or [a] pos) tt1 ma' := by
  obtain ⟨p1, q1⟩ := h
  exact ⟨pw_or1 p1, q1⟩
theorem dw_and (h : DT X a tt1 ma') (h2 : DW X (.BoolOp .And (b :: rest) pos) tt2 mb') : DW X (.BoolOp .And (a :: b :: rest) pos) (L2.tAnd tt1 tt2) (tAnd ma' mb') := by
  obtain ⟨p1, q1⟩ := h
  obtain ⟨p2, q2⟩ := h2
  refine ⟨pw_and p1 p2, fun Γ σ H ρ d ρ' Q s h k => ?_⟩
  unfold DL.tAnd at h
  cases e1 : ma' ρ with
  | none => rw [e1] at h; cases h
  | some p =>
    rw [e1] at h
    replace h : (if p.1 = true then mb' p.2 else some (false, p.2)) = some (d, ρ') := h
    refine q1 Γ σ H ρ p.1 p.2 _ s e1 fun H1 a1 => ?_
    split at h
    · rename_i z; rw [if_pos z]; exact q2 Γ σ H1 p.2 d ρ' _ a1.sr h fun H2 a2 => k H2 (a1.trans a2)
    · rename_i z; rw [if_neg z]; cases h; exact k H1 a1
theorem dw_or (h : DT X a tt1 ma') (h2 : DW X (.BoolOp .Or (b :: rest) pos) tt2 mb') : DW X (.BoolOp .Or (a :: b :: rest) pos) (L2.tOr tt1 tt2) (tOr ma' mb') := by
  obtain ⟨p1, q1⟩ := h
  obtain ⟨p2, q2⟩ := h2
  refine ⟨pw_or p1 p2, fun Γ σ H ρ d ρ' Q s h k => ?_⟩
  unfold DL.tOr at h
  cases e1 : ma' ρ with
  | none => rw [e1] at h; cases h
  | some p =>
    rw [e1] at h
    replace h : (if p.1 = true then some (true, p.2) else mb' p.2) = some (d, ρ') := h
    refine q1 Γ σ H ρ p.1 p.2 _ s e1 fun H1 a1 => ?_
    split at h
    · rename_i z; rw [if_pos z]; cases h; exact k H1 a1
    · rename_i z; rw [if_neg z]; exact q2 Γ σ H1 p.2 d ρ' _ a1.sr h fun H2 a2 => k H2 (a1.trans a2)
theorem dt_not (h : DT X a tt1 ma') : DT X (.UnaryOp .Not a pos) (L2.tNot tt1) (tNot ma') := by
  obtain ⟨p1, q1⟩ := h
  refine ⟨pt_not p1, fun Γ σ H ρ d ρ' Q s h k => ?_⟩
  unfold DL.tNot at h
  cases e1 : ma' ρ with
  | none => rw [e1] at h; cases h
  | some p =>
    rw [e1] at h
    cases h
    exact q1 Γ σ H ρ p.1 p.2 _ s e1 fun H1 a1 => k H1 a1
theorem de_one {op} (h : DE X a te m) : DE X (.BoolOp op [a] pos) te m := by
  obtain ⟨p1, q1⟩ := h
  exact ⟨pe_one p1, q1⟩
theorem de_and (h : DE X a te1 ma) (h2 : DE X (.BoolOp .And (b :: rest) pos) te2 mb) : DE X (.BoolOp .And (a :: b :: rest) pos) (tAndV te1 te2) (eAnd ma mb) := by
  obtain ⟨p1, q1⟩ := h
  obtain ⟨p2, q2⟩ := h2
  refine ⟨pe_and p1 p2, fun Γ σ H ρ d ρ' Q s h k => ?_⟩
  unfold eAnd at h
  cases e1 : ma ρ with
  | none => rw [e1] at h; cases h
  | some p =>
    rw [e1] at h
    obtain ⟨d0, ρ0⟩ := p
    cases d0 with
    | bl b0 =>
      refine q1 Γ σ H ρ _ _ _ s e1 fun v H1 a1 r1 => ⟨b0, r1, ?_⟩
      cases b0 with
      | true => exact q2 Γ σ H1 ρ0 d ρ' _ a1.sr h fun v H2 a2 r2 => k v H2 (a1.trans a2) r2
      | false => cases h; exact k _ H1 a1 rfl
    | _ => cases h
theorem de_or (h : DE X a te1 ma) (h2 : DE X (.BoolOp .Or (b :: rest) pos) te2 mb) : DE X (.BoolOp .Or (a :: b :: rest) pos) (tOrV te1 te2) (eOr ma mb) := by
  obtain ⟨p1, q1⟩ := h
  obtain ⟨p2, q2⟩ := h2
  refine ⟨pe_or p1 p2, fun Γ σ H ρ d ρ' Q s h k => ?_⟩
  unfold eOr at h
  cases e1 : ma ρ with
  | none => rw [e1] at h; cases h
  | some p =>
    rw [e1] at h
    obtain ⟨d0, ρ0⟩ := p
    cases d0 with
    | bl b0 =>
      refine q1 Γ σ H ρ _ _ _ s e1 fun v H1 a1 r1 => ⟨b0, r1, ?_⟩
      cases b0 with
      | true => cases h; exact k _ H1 a1 rfl
      | false => exact q2 Γ σ H1 ρ0 d ρ' _ a1.sr h fun v H2 a2 r2 => k v H2 (a1.trans a2) r2
    | _ => cases h
theorem de_not (h : DE X a te1 ma) : DE X (.UnaryOp .Not a pos) (tNotV te1) (eNot ma) := by
  obtain ⟨p1, q1⟩ := h
  refine ⟨pe_not p1, fun Γ σ H ρ d ρ' Q s h k => ?_⟩
  unfold eNot at h
  cases e1 : ma ρ with
  | none => rw [e1] at h; cases h
  | some p =>
    rw [e1] at h
    obtain ⟨d0, ρ0⟩ := p
    cases d0 with
    | bl b0 =>
      cases h
      exact q1 Γ σ H ρ _ _ _ s e1 fun v H1 a1 r1 => ⟨b0, r1, k _ H1 a1 rfl⟩
    | _ => cases h
theorem de_ifExp (hc : DT X c tc mc) (ha : DE X a te1 ma) (hb : DE X b te2 mb) : DE X (.IfExp c a b pos) (tIf tc te1 te2) (eIf mc ma mb) := by
  obtain ⟨p0, q0⟩ := hc
  obtain ⟨p1, q1⟩ := ha
  obtain ⟨p2, q2⟩ := hb
  refine ⟨pe_ifExp p0 p1 p2, fun Γ σ H ρ d ρ' Q s h k => ?_⟩
  unfold eIf at h
  cases e1 : mc ρ with
  | none => rw [e1] at h; cases h
  | some p =>
    rw [e1] at h
    replace h : (if p.1 = true then ma p.2 else mb p.2) = some (d, ρ') := h
    refine q0 Γ σ H ρ p.1 p.2 _ s e1 fun H1 a1 => ?_
    split at h
    · rename_i z; rw [if_pos z]; exact q1 Γ σ H1 p.2 d ρ' _ a1.sr h fun v H2 a2 => k v H2 (a1.trans a2)
    · rename_i z; rw [if_neg z]; exact q2 Γ σ H1 p.2 d ρ' _ a1.sr h fun v H2 a2 => k v H2 (a1.trans a2)
theorem da_nil : DA X [] tNil aNil := ⟨pa_nil, fun Γ σ H ρ as ρ' Q s h k => by
  cases h
  exact k [] H (Po.refl s) rfl⟩
theorem da_cons (ha : DE X e te m) (hr : DA X es at1 am) (hs : starEach (e :: es) X.env = (false, eval e X.env) :: starEach es X.env := by rfl) : DA X (e :: es) (tCons te at1) (aCons m am) := by
  obtain ⟨p1, q1⟩ := ha
  obtain ⟨p2, q2⟩ := hr
  refine ⟨pa_cons p1 p2 hs, fun Γ σ H ρ as ρ' Q s h k => ?_⟩
  unfold aCons at h
  cases e1 : m ρ with
  | none => rw [e1] at h; cases h
  | some p =>
    rw [e1] at h
    replace h : ((am p.2).map fun q => (.val p.1 :: q.1, q.2)) = some (as, ρ') := h
    cases e2 : am p.2 with
    | none => rw [e2] at h; cases h
    | some q =>
      rw [e2] at h
      cases h
      refine q1 Γ σ H ρ p.1 p.2 _ s e1 fun v H1 a1 r1 => ?_
      refine q2 Γ σ H1 p.2 q.1 q.2 _ a1.sr e2 fun vs H2 a2 r2 => ?_
      exact k _ H2 (a1.trans a2) ⟨v, vs, rfl, Rp.mo (a2.mo a1.sr) _ _ r1, r2⟩
theorem da_slot (i : Nat) {x : Str} {p : Pos} (hr : DA X es at1 am) (hN : X.N[i]? = some x := by rfl) (hv : Vis X.env.scope x := by first | exact Or.inl rfl | exact Or.inr (Or.inl rfl) | exact Or.inr (Or.inr rfl)) (hd : (x == ("__debug__" : Str)) = false := by decide)
    (hcd : (x == ("__classdict__" : Str)) = false := by decide) (hs : starEach (.Name x p :: es) X.env = (false, eval (.Name x p) X.env) :: starEach es X.env := by rfl) :
    DA X (.Name x p :: es) (tCons (tVar i) at1) (fun ρ => match ρ[i]? with | some (.o _) => aSlot i am ρ | some (.p _) => aSlot i am ρ | _ => none) := by
  obtain ⟨p2, q2⟩ := hr
  refine ⟨pa_cons (pe_var hN hv hd hcd) p2 hs, fun Γ σ H ρ as ρ' Q s h k => ?_⟩
  have key : ∃ sl a, ρ[i]? = some sl ∧ σ[i]? = some (some (.ref a)) ∧ aSlot i am ρ = some (as, ρ') := by
    cases e : ρ[i]? with
    | none => rw [e] at h; cases h
    | some sl =>
      rw [e] at h
      cases sl with
      | o d => obtain ⟨y, ey, a, rfl, _⟩ := s.sl i _ e; exact ⟨_, a, rfl, ey, h⟩
      | p d => obtain ⟨y, ey, a, rfl, _⟩ := s.sl i _ e; exact ⟨_, a, rfl, ey, h⟩
      | _ => cases h
  obtain ⟨sl, a, e1, e2, h⟩ := key
  unfold aSlot at h
  cases e3 : am ρ with
  | none => rw [e3] at h; cases h
  | some q =>
    rw [e3] at h
    cases h
    refine ⟨.ref a, e2, ?_⟩
    refine q2 Γ σ H ρ q.1 q.2 _ s e3 fun vs H2 a2 r2 => ?_
    exact k _ H2 a2 ⟨.ref a, vs, rfl, e2, r2⟩
theorem callv {t : TA} {r : List V → Hp → VK → Prop} {f : List D → Option D} {G : Gc} (od : CallD G r f)
    (q1 : ∀ (Γ : Gam) (σ : L2.St) (H : Hp) (ρ : Env) (as : List Arg) (ρ' : Env) (Q : List V → Hp → Prop), Sr Γ G H σ ρ → am ρ = some (as, ρ') → (∀ vs H', Po Γ G σ ρ H ρ' H' → ArR G H' (Γ.w σ ρ') σ as vs → Q vs H') → t σ H Q)
    (Γ : Gam) (σ : L2.St) (H : Hp) (ρ : Env) (d : D) (ρ' : Env) (Q : VK) (s : Sr Γ G H σ ρ) (h : eCallV f am ρ = some (d, ρ')) (k : ∀ v H', Po Γ G σ ρ H ρ' H' → Rp G H' (Γ.w σ ρ') d v → Q v H') : tCB r t σ H Q := by
  unfold eCallV at h
  cases e1 : am ρ with
  | none => rw [e1] at h; cases h
  | some p =>
    rw [e1] at h
    replace h : ((vals p.1).bind fun ds => (f ds).map fun z => (z, p.2)) = some (d, ρ') := h
    cases e2 : vals p.1 with
    | none => rw [e2] at h; cases h
    | some ds =>
      rw [e2] at h
      replace h : ((f ds).map fun z => (z, p.2)) = some (d, ρ') := h
      cases e3 : f ds with
      | none => rw [e3] at h; cases h
      | some z =>
        rw [e3] at h
        cases h
        refine q1 Γ σ H ρ p.1 p.2 _ s e1 fun vs H1 a1 r1 => ?_
        exact od H1 _ vs ds d Q a1.sr.w_th (r1.vals e2) e3 fun v H3 f3 r3 => k v H3 (a1.trans (a1.sr.po f3)) r3
theorem de_callB {x : Str} {p : Pos} {id : String} {r : List V → Hp → VK → Prop} {f : List D → Option D} (hc : CallR X (.builtin id) r) (od : CallD X.G r f) (hm : X.mg x = none) (hv : bootBuiltins x = some (.builtin id)) (ha : DA X (e :: es) at1 am) (hg : Gl X x := by rfl)
    (hn : x ≠ "__name__" := by decide) (hdb : (x == ("__debug__" : Str)) = false := by decide)
    (he : starEach (e :: es) X.env = (false, eval e X.env) :: starEach es X.env := by rfl) (hpl : (backTo pos (starEach es X.env)).any (·.1) = false := by rfl) : DE X (.Call (.Name x p) (e :: es) [] pos) (tCB r at1) (eCallV f am) := by
  obtain ⟨p1, q1⟩ := ha
  exact ⟨pe_callB hc hg hm hv p1 hn hdb he hpl, callv od q1⟩
theorem de_callTy {x : Str} {p : Pos} {T : String} {r : List V → Hp → VK → Prop} {f : List D → Option D} (hc : CallR X (.type T) r) (od : CallD X.G r f) (hm : X.mg x = none) (hv : bootBuiltins x = some (.type T)) (ha : DA X (e :: es) at1 am) (hg : Gl X x := by rfl)
    (hn : x ≠ "__name__" := by decide) (hdb : (x == ("__debug__" : Str)) = false := by decide)
    (he : starEach (e :: es) X.env = (false, eval e X.env) :: starEach es X.env := by rfl) (hpl : (backTo pos (starEach es X.env)).any (·.1) = false := by rfl) : DE X (.Call (.Name x p) (e :: es) [] pos) (tCB r at1) (eCallV f am) := by
  obtain ⟨p1, q1⟩ := ha
  exact ⟨pe_callTy hc hg hm hv p1 hn hdb he hpl, callv od q1⟩
omit [TabC] in
def mkTup (ds : List D) : Option D := if ds.length ≤ 1000000 then some (.tup ds) else none
omit [TabC] in
def mkLst (ds : List D) : Option D := if ds.length ≤ 1000000 then some (.lst ds) else none
omit [TabC] in
theorem RpAll.length {G : Gc} {H : Hp} {W : List Addr} : ∀ {ds : List D} {vs : List V}, RpAll G H W ds vs → vs.length = ds.length
  | [], _, h => by rw [show _ = [] from h]; rfl
  | d :: ds, _, ⟨x, xs, e, _, q⟩ => by rw [e, List.length_cons, List.length_cons, RpAll.length q]
omit [TabC] in
theorem line_of {n : Nat} (h : n ≤ 1000000) : n ≤ sizeLine := Nat.le_trans h (by decide)
theorem new_mo {G : Gc} {W : List Addr} {H : Hp} {p : Addr} {o : HO} (n : H p = none) : Mo W W H (upd H p o) := ⟨(fm_new n).mono fun _ z => absurd z (by simp), fun _ z => .inl z⟩
omit [TabC] in
theorem new_out {W : List Addr} {H : Hp} {p : Addr} (th : ∀ a ∈ W, H a ≠ none) (n : H p = none) : p ∉ W := fun z => th p z n
theorem de_tup {k} (ha : DA X es at1 am) : DE X (.Tuple es k pos) (tTup at1) (eCallV mkTup am) := by
  obtain ⟨p1, q1⟩ := ha
  refine ⟨pe_tup p1, fun Γ σ H ρ d ρ' Q s h kk => ?_⟩
  have := callv (r := fun xs H Q => xs.length ≤ sizeLine ∧ ∀ p, H p = none → Q (.ref p) (upd H p (.tup xs))) (G := X.G) (f := mkTup) (fun H W xs ds z Q th r e q => ?_) q1 Γ σ H ρ d ρ' Q s h kk
  · exact this
  · unfold mkTup at e
    split at e
    · cases e
      rename_i l
      refine ⟨by rw [r.length]; exact line_of l, fun p n => q _ _ (fm_new n) ?_⟩
      exact ⟨p, xs, rfl, upd_same, line_of l, RpAll.mo (new_mo (G := X.G) n) _ _ r⟩
    · cases e
theorem de_lst (ha : DA X es at1 am) : DE X (.List es pos) (tLst at1) (eCallV mkLst am) := by
  obtain ⟨p1, q1⟩ := ha
  refine ⟨pe_lst p1, fun Γ σ H ρ d ρ' Q s h kk => ?_⟩
  have := callv (r := fun xs H Q => xs.length ≤ sizeLine ∧ ∀ p, H p = none → Q (.ref p) (upd H p (.lst xs))) (G := X.G) (f := mkLst) (fun H W xs ds z Q th r e q => ?_) q1 Γ σ H ρ d ρ' Q s h kk
  · exact this
  · unfold mkLst at e
    split at e
    · cases e
      rename_i l
      refine ⟨by rw [r.length]; exact line_of l, fun p n => q _ _ (fm_new n) ?_⟩
      exact ⟨p, xs, rfl, ⟨new_out th n, .inl upd_same⟩, line_of l, RpAll.mo (new_mo (G := X.G) n) _ _ r⟩
    · cases e
end
end DL
namespace DL
open PySem L2
variable [TabC]
omit [TabC] in
def lim (n : Nat) : Bool := decide (n ≤ 1000000)
omit [TabC] in
theorem lim_line {n : Nat} (h : lim n = true) : n ≤ sizeLine := line_of (of_decide_eq_true h)
omit [TabC] in
def addD : D → D → Option D
  | .int i, .int j => some (.int (i + j))
  | .str a, .str b => if lim (a.length + b.length) then some (.str (a ++ b)) else none
  | .lst a, .lst b => if lim (a.length + b.length) then some (.lst (a ++ b)) else none
  | .tup a, .tup b => if lim (a.length + b.length) then some (.tup (a ++ b)) else none
  | _, _ => none
omit [TabC] in
def subD : D → D → Option D
  | .int i, .int j => some (.int (i - j))
  | _, _ => none
omit [TabC] in
def mulOk (i j : Int) : Bool := (decide (-(2 ^ 64) < i) && decide (i < 2 ^ 64)) || (decide (-(2 ^ 64) < j) && decide (j < 2 ^ 64))
omit [TabC] in
def repL (k : Int) (xs : List D) : List D := (List.replicate k.toNat xs).flatten
omit [TabC] in
def mulD : D → D → Option D
  | .int i, .int j => if mulOk i j then some (.int (i * j)) else none
  | .lst xs, .int k => if decide (-(2 ^ 63) ≤ k) && decide (k < 2 ^ 63) && lim (xs.length * k.toNat) then some (.lst (repL k xs)) else none
  | _, _ => none
omit [TabC] in
def divD : D → D → Option D
  | .int i, .int j => if decide (0 < j) && decide (j.natAbs.log2 < 9000) then some (.int (i / j)) else none
  | _, _ => none
omit [TabC] in
def modD : D → D → Option D
  | .int i, .int j => if decide (0 < j) then some (.int (i % j)) else none
  | _, _ => none
omit [TabC] in
def powD : D → D → Option D
  | .int i, .int j => if decide (0 ≤ j) && decide (j ≤ 1000000) && decide (i.natAbs < 2 ^ 64) then some (.int (i ^ j.toNat)) else none
  | _, _ => none
omit [TabC] in
def negD : D → Option D
  | .int i => some (.int (-i))
  | _ => none
omit [TabC] in
def ltD : D → D → Option D
  | .int i, .int j => some (.bl (decide (i < j)))
  | _, _ => none
omit [TabC] in
def leD : D → D → Option D
  | .int i, .int j => some (.bl (decide (i ≤ j)))
  | _, _ => none
omit [TabC] in
def gtD : D → D → Option D
  | .int i, .int j => some (.bl (decide (j < i)))
  | _, _ => none
omit [TabC] in
def geD : D → D → Option D
  | .int i, .int j => some (.bl (decide (j ≤ i)))
  | _, _ => none
omit [TabC] in
theorem FL.sq {K : PySem.W.Frag} {H : Hp} {W : List Addr} {a : Addr} {xs : List V} (h : FL H W a xs) : SqL K H a xs := .inl h.2
omit [TabC] in
theorem FT.sq {G : Gc} {H : Hp} {W : List Addr} {a : Addr} {xs : List V} (h : FT G H W a xs) : SqT G.K H a xs := .inl (.inl h)
omit [TabC] in
theorem RpAll.app {G : Gc} {H : Hp} {W : List Addr} : ∀ {ds es : List D} {vs ws : List V}, RpAll G H W ds vs → RpAll G H W es ws → RpAll G H W (ds ++ es) (vs ++ ws)
  | [], _, _, _, h, q => by cases (show _ = [] from h); exact q
  | d :: ds, _, _, _, ⟨x, xs, e, r, k⟩, q => ⟨x, xs ++ _, by rw [e]; rfl, r, RpAll.app k q⟩
omit [TabC] in
theorem RpAll.get {G : Gc} {H : Hp} {W : List Addr} : ∀ {ds : List D} {vs : List V} {i : Nat} {d : D}, RpAll G H W ds vs → ds[i]? = some d → ∃ v, vs[i]? = some v ∧ Rp G H W d v
  | [], _, _, _, _, h => by simp at h
  | d :: ds, _, 0, _, ⟨x, xs, e, r, k⟩, h => by
    cases h
    exact ⟨x, by rw [e]; rfl, r⟩
  | d :: ds, _, i + 1, _, ⟨x, xs, e, r, k⟩, h => by
    obtain ⟨v, h1, h2⟩ := RpAll.get (i := i) k h
    exact ⟨v, by rw [e]; exact h1, h2⟩
omit [TabC] in
theorem RpAll.drop {G : Gc} {H : Hp} {W : List Addr} : ∀ (n : Nat) {ds : List D} {vs : List V}, RpAll G H W ds vs → RpAll G H W (ds.drop n) (vs.drop n)
  | 0, _, _, h => h
  | n + 1, [], _, h => by cases (show _ = [] from h); exact rfl
  | n + 1, d :: ds, _, ⟨x, xs, e, r, k⟩ => by rw [e]; exact RpAll.drop n k
omit [TabC] in
theorem RpAll.take {G : Gc} {H : Hp} {W : List Addr} : ∀ (n : Nat) {ds : List D} {vs : List V}, RpAll G H W ds vs → RpAll G H W (ds.take n) (vs.take n)
  | 0, _, _, h => rfl
  | n + 1, [], _, h => by cases (show _ = [] from h); exact rfl
  | n + 1, d :: ds, _, ⟨x, xs, e, r, k⟩ => by rw [e]; exact ⟨x, _, rfl, r, RpAll.take n k⟩
omit [TabC] in
theorem RpAll.rev {G : Gc} {H : Hp} {W : List Addr} : ∀ {ds : List D} {vs : List V}, RpAll G H W ds vs → RpAll G H W ds.reverse vs.reverse
  | [], _, h => by cases (show _ = [] from h); exact rfl
  | d :: ds, _, ⟨x, xs, e, r, k⟩ => by
    rw [e, List.reverse_cons, List.reverse_cons]
    exact RpAll.app (RpAll.rev k) ⟨x, [], rfl, r, rfl⟩
omit [TabC] in
theorem RpAll.nil_iff {G : Gc} {H : Hp} {W : List Addr} {ds : List D} {vs : List V} (h : RpAll G H W ds vs) : vs = [] ↔ ds = [] := by
  have e := h.length
  constructor <;> rintro rfl
  · exact List.eq_nil_of_length_eq_zero e.symm
  · exact List.eq_nil_of_length_eq_zero e
section
variable {X : Cx}
omit [TabC] in
/-- two lists that are read -/
def rCatR : R2 := fun x y H Q => ∃ l b xs zs, x = .ref l ∧ y = .ref b ∧ Rd H l (.lst xs) ∧ Rd H b (.lst zs) ∧ xs.length + zs.length ≤ sizeLine ∧ ∀ p, H p = none → Q (.ref p) (upd H p (.lst (xs ++ zs)))
omit [TabC] in
theorem lstR {pins : List (Addr × Obj)} {σ : L2.St} {H : Hp} {s : Shared} {l : Addr} {xs : List V} (I : Inv X pins σ H s) (hH : Rd H l (.lst xs)) :
    xs.length ≤ sizeLine ∧ ∃ (its : List Value) (n : Nat), Vals xs its ∧ xs.length = its.length ∧ s.heap.get? l = some { cls := .type "list", data := .seq its.toArray n } := by
  obtain ⟨z, its, n, r, e⟩ := hH.ok I.hok
  exact ⟨z, its, n, r, r.length, e⟩
omit [TabC] in
theorem op_catR : OpR X (binaryOp .Add) rCatR := by
  intro pins s σ H x y v u Q I rx ry h
  obtain ⟨l, b, xs, zs, rfl, rfl, hH, hB, hz, q⟩ := h
  cases rx
  cases ry
  obtain ⟨z, its, n, r, hl, e⟩ := lstR I hH
  obtain ⟨z2, its2, n2, r2, hl2, e2⟩ := lstR I hB
  refine PySem.P.add_list e e2 ?_ (by rw [List.size_toArray, List.size_toArray]; omega)
  have ea : its.toArray ++ its2.toArray = (its ++ its2).toArray := by simp
  rw [ea]
  exact ⟨.ref _, _, I.lnew (t' := s.toks) (r.append r2) (by rw [List.length_append]; omega), rfl, q _ I.fresh⟩
omit [TabC] in
def rAddA (K : PySem.W.Frag) : R2 := fun x y H Q => (rI0 (fun i j => .int (i + j)) x y H Q) ∨ ((∃ i j, x = .str i ∧ y = .str j ∧ i.length + j.length ≤ sizeLine ∧ Q (.str (i ++ j)) H) ∨ (rCatR x y H Q ∨ rCatA K x y H Q))
omit [TabC] in
theorem op_addA : OpR X (binaryOp .Add) (rAddA X.K) := op_add.or (op_add_str.or (op_catR.or op_catA))
theorem od_add : OpD X.G (rAddA X.K) addD := by
  intro H W x y dx dy z Q th rx ry e q
  cases dx with
  | int i =>
    cases dy with
    | int j =>
      cases e
      exact .inl ⟨i, j, rx, ry, q _ H (Fm.refl _ _) rfl⟩
    | _ => cases e
  | str i =>
    cases dy with
    | str j =>
      simp only [addD] at e
      split at e
      · rename_i l
        cases e
        exact .inr (.inl ⟨i, j, rx, ry, lim_line l, q _ H (Fm.refl _ _) rfl⟩)
      · cases e
    | _ => cases e
  | lst as =>
    cases dy with
    | lst bs =>
      simp only [addD] at e
      split at e
      · rename_i l
        cases e
        obtain ⟨a, vs, rfl, fa, la, ra⟩ := rx
        obtain ⟨b, ws, rfl, fb, lb, rb⟩ := ry
        refine .inr (.inr (.inl ⟨a, b, vs, ws, rfl, rfl, fa.2, fb.2, by rw [ra.length, rb.length]; exact lim_line l, fun p n => q _ _ (fm_new n) ?_⟩))
        exact ⟨p, _, rfl, ⟨new_out th n, .inl upd_same⟩, by rw [List.length_append]; exact lim_line l, RpAll.mo (new_mo (G := X.G) n) _ _ (ra.app rb)⟩
      · cases e
    | _ => cases e
  | tup as =>
    cases dy with
    | tup bs =>
      simp only [addD] at e
      split at e
      · rename_i l
        cases e
        have rx0 := rx
        have ry0 := ry
        obtain ⟨a, vs, rfl, fa, la, ra⟩ := rx
        obtain ⟨b, ws, rfl, fb, lb, rb⟩ := ry
        refine .inr (.inr (.inr ⟨a, b, vs, ws, rfl, rfl, fa.sq, fb.sq, by rw [ra.length, rb.length]; exact lim_line l, fun n => ?_, fun n1 n2 => ?_, fun n1 n2 p n => q _ _ (fm_new n) ?_⟩))
        · have e1 : as = [] := ra.nil_iff.mp n
          subst e1
          exact q _ H (Fm.refl _ _) ry0
        · have e1 : bs = [] := rb.nil_iff.mp n2
          subst e1
          rw [List.append_nil] at q
          exact q _ H (Fm.refl _ _) rx0
        · exact ⟨p, _, rfl, upd_same, by rw [List.length_append]; exact lim_line l, RpAll.mo (new_mo (G := X.G) n) _ _ (ra.app rb)⟩
      · cases e
    | _ => cases e
  | _ => cases e
theorem od_sub : OpD X.G (rI0 fun i j => .int (i - j)) subD := by
  intro H W x y dx dy z Q th rx ry e q
  cases dx with
  | int i =>
    cases dy with
    | int j => cases e; exact ⟨i, j, rx, ry, q _ H (Fm.refl _ _) rfl⟩
    | _ => cases e
  | _ => cases e
omit [TabC] in
theorem cmul_of {i j : Int} (h : mulOk i j = true) : CMul i j := by
  unfold mulOk at h
  rw [Bool.or_eq_true, Bool.and_eq_true, Bool.and_eq_true] at h
  rcases h with ⟨h1, h2⟩ | ⟨h1, h2⟩
  · exact .inl ⟨of_decide_eq_true h1, of_decide_eq_true h2⟩
  · exact .inr ⟨of_decide_eq_true h1, of_decide_eq_true h2⟩
theorem od_mul : OpD X.G (rI CMul fun i j => .int (i * j)) (fun a b => match a, b with | .int i, .int j => mulD (.int i) (.int j) | _, _ => none) := by
  intro H W x y dx dy z Q th rx ry e q
  cases dx with
  | int i =>
    cases dy with
    | int j =>
      simp only [mulD] at e
      split at e
      · rename_i l
        cases e
        exact ⟨i, j, rx, ry, cmul_of l, q _ H (Fm.refl _ _) rfl⟩
      · cases e
    | _ => cases e
  | _ => cases e
theorem od_div : OpD X.G (rI CDivW fun i j => .int (i / j)) divD := by
  intro H W x y dx dy z Q th rx ry e q
  cases dx with
  | int i =>
    cases dy with
    | int j =>
      simp only [divD] at e
      split at e
      · rename_i l
        cases e
        rw [Bool.and_eq_true] at l
        exact ⟨i, j, rx, ry, ⟨of_decide_eq_true l.1, of_decide_eq_true l.2⟩, q _ H (Fm.refl _ _) rfl⟩
      · cases e
    | _ => cases e
  | _ => cases e
theorem od_mod : OpD X.G (rI (fun _ j => 0 < j) fun i j => .int (i % j)) modD := by
  intro H W x y dx dy z Q th rx ry e q
  cases dx with
  | int i =>
    cases dy with
    | int j =>
      simp only [modD] at e
      split at e
      · rename_i l
        cases e
        exact ⟨i, j, rx, ry, of_decide_eq_true l, q _ H (Fm.refl _ _) rfl⟩
      · cases e
    | _ => cases e
  | _ => cases e
theorem od_pow : OpD X.G (rI CPow fun i j => .int (i ^ j.toNat)) powD := by
  intro H W x y dx dy z Q th rx ry e q
  cases dx with
  | int i =>
    cases dy with
    | int j =>
      simp only [powD] at e
      split at e
      · rename_i l
        cases e
        rw [Bool.and_eq_true, Bool.and_eq_true] at l
        exact ⟨i, j, rx, ry, ⟨of_decide_eq_true l.1.1, of_decide_eq_true l.1.2, of_decide_eq_true l.2⟩, q _ H (Fm.refl _ _) rfl⟩
      · cases e
    | _ => cases e
  | _ => cases e
theorem od_cmp {p : Int → Int → Bool} : OpD X.G (rI0 fun i j => .bl (p i j)) (fun a b => match a, b with | .int i, .int j => some (.bl (p i j)) | _, _ => none) := by
  intro H W x y dx dy z Q th rx ry e q
  cases dx with
  | int i =>
    cases dy with
    | int j => cases e; exact ⟨i, j, rx, ry, q _ H (Fm.refl _ _) rfl⟩
    | _ => cases e
  | _ => cases e
theorem OpD.eq {G : Gc} {r : R2} {f g : D → D → Option D} (h : OpD G r f) (e : ∀ a b, g a b = f a b) : OpD G r g := fun H W x y dx dy z Q th rx ry he q => h H W x y dx dy z Q th rx ry ((e dx dy).symm.trans he) q
theorem od_lt : OpD X.G (rI0 fun i j => .bl (decide (i < j))) ltD := od_cmp.eq fun a b => by cases a <;> cases b <;> rfl
theorem od_le : OpD X.G (rI0 fun i j => .bl (decide (i ≤ j))) leD := od_cmp.eq fun a b => by cases a <;> cases b <;> rfl
theorem od_gt : OpD X.G (rI0 fun i j => .bl (decide (j < i))) gtD := od_cmp.eq fun a b => by cases a <;> cases b <;> rfl
theorem od_ge : OpD X.G (rI0 fun i j => .bl (decide (j ≤ i))) geD := od_cmp.eq fun a b => by cases a <;> cases b <;> rfl
end
omit [TabC] in
mutual
def py : D → PyData
  | .non => .none
  | .bl b => .bool b
  | .int i => .int i
  | .str s => .str s
  | .lst xs => .list (pys xs)
  | .tup xs => .tuple (pys xs)
  | _ => .none
def pys : List D → List PyData
  | [] => []
  | x :: xs => py x :: pys xs
end
omit [TabC] in
mutual
/-- plain data, so deep at most -/
def okD : Nat → D → Bool
  | _, .non => true
  | _, .bl _ => true
  | _, .int _ => true
  | _, .str _ => true
  | 0, _ => false
  | n + 1, .lst xs => okDs n xs
  | n + 1, .tup xs => okDs n xs
  | _, _ => false
def okDs : Nat → List D → Bool
  | _, [] => true
  | n, x :: xs => okD n x && okDs n xs
end
omit [TabC] in
def eqv (a b : D) : Bool := PyData.eqv (py a) (py b)
omit [TabC] in
def eqD (a b : D) : Option D := if okD 60 a && okD 60 b then some (.bl (eqv a b)) else none
omit [TabC] in
def neD (a b : D) : Option D := if okD 60 a && okD 60 b then some (.bl (!eqv a b)) else none
omit [TabC] in
def inL (neg : Bool) (x : D) (ds : List D) : Option D := if okD 60 x && okDs 60 ds then some (.bl ((ds.any fun y => eqv y x) != neg)) else none
omit [TabC] in
def inD (neg : Bool) : D → D → Option D
  | x, .lst ds => inL neg x ds
  | x, .tup ds => inL neg x ds
  | _, _ => none
omit [TabC] in
mutual
theorem py_plain : ∀ (n : Nat) (d : D), okD n d = true → (py d).plain = true ∧ (py d).depth ≤ n
  | _, .non, _ => ⟨rfl, by simp [py, PyData.depth]⟩
  | _, .bl _, _ => ⟨rfl, by simp [py, PyData.depth]⟩
  | _, .int _, _ => ⟨rfl, by simp [py, PyData.depth]⟩
  | _, .str _, _ => ⟨rfl, by simp [py, PyData.depth]⟩
  | 0, .lst _, h => by simp [okD] at h
  | 0, .tup _, h => by simp [okD] at h
  | 0, .dT _, h => by simp [okD] at h
  | 0, .dK _, h => by simp [okD] at h
  | 0, .obj _ _, h => by simp [okD] at h
  | 0, .scr _, h => by simp [okD] at h
  | 0, .exn _ _, h => by simp [okD] at h
  | 0, .fT _, h => by simp [okD] at h
  | n + 1, .lst xs, h => by
    have := pys_plain n xs (by simpa [okD] using h)
    exact ⟨by simpa [py, PyData.plain] using this.1, by simp only [py, PyData.depth]; omega⟩
  | n + 1, .tup xs, h => by
    have := pys_plain n xs (by simpa [okD] using h)
    exact ⟨by simpa [py, PyData.plain] using this.1, by simp only [py, PyData.depth]; omega⟩
  | n + 1, .dT _, h => by simp [okD] at h
  | n + 1, .dK _, h => by simp [okD] at h
  | n + 1, .obj _ _, h => by simp [okD] at h
  | n + 1, .scr _, h => by simp [okD] at h
  | n + 1, .exn _ _, h => by simp [okD] at h
  | n + 1, .fT _, h => by simp [okD] at h
theorem pys_plain : ∀ (n : Nat) (ds : List D), okDs n ds = true → PyData.plainAll (pys ds) = true ∧ PyData.depthAll (pys ds) ≤ n
  | _, [], _ => ⟨rfl, by simp [pys, PyData.depthAll]⟩
  | n, d :: ds, h => by
    rw [okDs, Bool.and_eq_true] at h
    have h1 := py_plain n d h.1
    have h2 := pys_plain n ds h.2
    refine ⟨by rw [pys, PyData.plainAll, h1.1, h2.1]; rfl, ?_⟩
    simp only [pys, PyData.depthAll]
    omega
end
omit [TabC] in
mutual
theorem Rp.dp {G : Gc} {H : Hp} {W : List Addr} : ∀ (n : Nat) (d : D) (v : V), okD n d = true → Rp G H W d v → Dp G.K H v (py d)
  | _, .non, _, _, h => by cases (show _ = V.non from h); exact .non
  | _, .bl _, _, _, h => by cases (show _ = V.bl _ from h); exact .bl _
  | _, .int _, _, _, h => by cases (show _ = V.int _ from h); exact .int _
  | _, .str _, _, _, h => by cases (show _ = V.str _ from h); exact .str _
  | 0, .lst _, _, h, _ => by simp [okD] at h
  | 0, .tup _, _, h, _ => by simp [okD] at h
  | 0, .dT _, _, h, _ => by simp [okD] at h
  | 0, .dK _, _, h, _ => by simp [okD] at h
  | 0, .obj _ _, _, h, _ => by simp [okD] at h
  | 0, .scr _, _, h, _ => by simp [okD] at h
  | 0, .exn _ _, _, h, _ => by simp [okD] at h
  | 0, .fT _, _, h, _ => by simp [okD] at h
  | n + 1, .lst ds, v, h, ⟨a, vs, e, f, l, r⟩ => by
    subst e
    exact .lst f.sq (RpAll.dp n ds vs (by simpa [okD] using h) r)
  | n + 1, .tup ds, v, h, ⟨a, vs, e, f, l, r⟩ => by
    subst e
    exact .tup f.sq (RpAll.dp n ds vs (by simpa [okD] using h) r)
  | n + 1, .dT _, _, h, _ => by simp [okD] at h
  | n + 1, .dK _, _, h, _ => by simp [okD] at h
  | n + 1, .obj _ _, _, h, _ => by simp [okD] at h
  | n + 1, .scr _, _, h, _ => by simp [okD] at h
  | n + 1, .exn _ _, _, h, _ => by simp [okD] at h
  | n + 1, .fT _, _, h, _ => by simp [okD] at h
theorem RpAll.dp {G : Gc} {H : Hp} {W : List Addr} : ∀ (n : Nat) (ds : List D) (vs : List V), okDs n ds = true → RpAll G H W ds vs → DpAll G.K H vs (pys ds)
  | _, [], _, _, h => by cases (show _ = [] from h); exact .nil
  | n, d :: ds, _, h, ⟨x, xs, e, r, q⟩ => by
    subst e
    rw [okDs, Bool.and_eq_true] at h
    exact .cons (Rp.dp n d x h.1 r) (RpAll.dp n ds xs h.2 q)
end
section
variable {X : Cx}
omit [TabC] in
def rEqP (K : PySem.W.Frag) : R2 := fun x y H Q => ∃ d e, Dp K H x d ∧ Dp K H y e ∧ d.plain = true ∧ e.plain = true ∧ d.depth ≤ 60 ∧ Q (.bl (PyData.eqv d e)) H
omit [TabC] in
def rNeP (K : PySem.W.Frag) : R2 := fun x y H Q => ∃ d e, Dp K H x d ∧ Dp K H y e ∧ d.plain = true ∧ e.plain = true ∧ d.depth ≤ 60 ∧ Q (.bl (!PyData.eqv d e)) H
omit [TabC] in
theorem op_eqP (hu : X.A.units + 64 < cLine) : OpR X (compareOp .Eq) (rEqP X.K) := by
  intro pins s σ H x y v u Q I rx ry h
  obtain ⟨d, e, hd, he, sd, se, dd, q⟩ := h
  obtain ⟨as, r1⟩ := Dp.reads I d x v hd rx
  obtain ⟨bs, r2⟩ := Dp.reads I e y u he ry
  exact SeqAt.eq_plain r1 r2 sd se (by omega) ⟨.bl _, H, I, rfl, q⟩
omit [TabC] in
theorem op_neP (hu : X.A.units + 64 < cLine) : OpR X (compareOp .NotEq) (rNeP X.K) := by
  intro pins s σ H x y v u Q I rx ry h
  obtain ⟨d, e, hd, he, sd, se, dd, q⟩ := h
  obtain ⟨as, r1⟩ := Dp.reads I d x v hd rx
  obtain ⟨bs, r2⟩ := Dp.reads I e y u he ry
  exact SeqAt.ne_plain r1 r2 sd se (by omega) ⟨.bl _, H, I, rfl, q⟩
theorem od_eq : OpD X.G (rEqP X.K) eqD := by
  intro H W x y dx dy z Q th rx ry e q
  unfold eqD at e
  split at e
  · rename_i l
    cases e
    rw [Bool.and_eq_true] at l
    have p1 := py_plain 60 dx l.1
    have p2 := py_plain 60 dy l.2
    exact ⟨_, _, Rp.dp 60 dx x l.1 rx, Rp.dp 60 dy y l.2 ry, p1.1, p2.1, p1.2, q _ H (Fm.refl _ _) rfl⟩
  · cases e
theorem od_ne : OpD X.G (rNeP X.K) neD := by
  intro H W x y dx dy z Q th rx ry e q
  unfold neD at e
  split at e
  · rename_i l
    cases e
    rw [Bool.and_eq_true] at l
    have p1 := py_plain 60 dx l.1
    have p2 := py_plain 60 dy l.2
    exact ⟨_, _, Rp.dp 60 dx x l.1 rx, Rp.dp 60 dy y l.2 ry, p1.1, p2.1, p1.2, q _ H (Fm.refl _ _) rfl⟩
  · cases e
omit [TabC] in
def rInP (K : PySem.W.Frag) (neg : Bool) : R2 := fun x y H Q => ∃ d ds, Dp K H x d ∧ (Dp K H y (.list ds) ∨ Dp K H y (.tuple ds)) ∧ d.plain = true ∧ PyData.plainAll ds = true ∧ d.depth ≤ 60 ∧
  Q (.bl ((ds.any fun z => PyData.eqv z d) != neg)) H
omit [TabC] in
theorem op_inP (hu : X.A.units + 64 < cLine) : OpR X (compareOp .In) (rInP X.K false) := by
  intro pins s σ H x y v u Q I rx ry h
  obtain ⟨d, ds, hd, he, sd, se, dd, q⟩ := h
  obtain ⟨as, r1⟩ := Dp.reads I d x v hd rx
  rw [Bool.bne_false] at q
  rcases he with he | he
  · obtain ⟨bs, r2⟩ := Dp.reads I _ y u he ry
    exact SeqAt.in_list_data r2 r1 se sd (by omega) ⟨.bl _, H, I, rfl, q⟩
  · obtain ⟨bs, r2⟩ := Dp.reads I _ y u he ry
    exact SeqAt.in_tuple_data r2 r1 se sd (by omega) ⟨.bl _, H, I, rfl, q⟩
omit [TabC] in
theorem any_pys (d : D) : ∀ ds : List D, (pys ds).any (fun z => PyData.eqv z (py d)) = ds.any fun y => eqv y d
  | [] => rfl
  | x :: xs => by rw [pys, List.any_cons, List.any_cons, any_pys d xs]; rfl
theorem od_in (neg : Bool) : OpD X.G (rInP X.K neg) (inD neg) := by
  intro H W x y dx dy z Q th rx ry e q
  have key : ∀ ds, inL neg dx ds = some z → (Dp X.K H y (.list (pys ds)) ∨ Dp X.K H y (.tuple (pys ds)) ∨ okDs 60 ds = false) → rInP X.K neg x y H Q := fun ds e2 h => by
    unfold inL at e2
    split at e2
    · rename_i l
      cases e2
      rw [Bool.and_eq_true] at l
      have p1 := py_plain 60 dx l.1
      have p2 := pys_plain 60 ds l.2
      refine ⟨_, pys ds, Rp.dp 60 dx x l.1 rx, ?_, p1.1, p2.1, p1.2, ?_⟩
      · rcases h with h | h | h
        · exact .inl h
        · exact .inr h
        · rw [l.2] at h; cases h
      · rw [any_pys]
        exact q _ H (Fm.refl _ _) rfl
    · cases e2
  cases dy with
  | lst ds =>
    cases hb : okDs 60 ds with
    | true => exact key ds e (.inl (Rp.dp 61 (.lst ds) y (by simpa [okD] using hb) ry))
    | false => exact key ds e (.inr (.inr hb))
  | tup ds =>
    cases hb : okDs 60 ds with
    | true => exact key ds e (.inr (.inl (Rp.dp 61 (.tup ds) y (by simpa [okD] using hb) ry)))
    | false => exact key ds e (.inr (.inr hb))
  | _ => cases e
end
omit [TabC] in
/-- is None -/
def isND : D → Bool
  | .non => true
  | _ => false
omit [TabC] in
theorem isN_rp {G : Gc} {H : Hp} {W : List Addr} {d : D} {v : V} (h : Rp G H W d v) : decide (v = .non) = isND d := by
  cases d with
  | non => cases (show v = .non from h); rfl
  | bl => cases (show v = .bl _ from h); rfl
  | int => cases (show v = .int _ from h); rfl
  | str => cases (show v = .str _ from h); rfl
  | lst => obtain ⟨a, vs, rfl, _⟩ := h; rfl
  | tup => obtain ⟨a, vs, rfl, _⟩ := h; rfl
  | dT => obtain ⟨a, vs, rfl, _⟩ := h; rfl
  | dK => obtain ⟨a, vs, rfl, _⟩ := h; rfl
  | obj => obtain ⟨a, Ca, dx, vs, rfl, _⟩ := h; rfl
  | scr => obtain ⟨a, rfl, _⟩ := h; rfl
  | exn => obtain ⟨a, Ca, d, vs, rfl, _⟩ := h; rfl
  | fT => obtain ⟨a, od, vs, rfl, _⟩ := h; rfl
omit [TabC] in
def isD : D → D → Option D
  | a, .non => some (.bl (isND a))
  | .bl a, .bl b => some (.bl (decide (a = b)))
  | _, _ => none
omit [TabC] in
def isnotD : D → D → Option D
  | a, .non => some (.bl (!isND a))
  | .bl a, .bl b => some (.bl (!decide (a = b)))
  | _, _ => none
section
variable {X : Cx}
omit [TabC] in
def rIsA : R2 := fun x y H Q => (y = .non ∧ Q (.bl (decide (x = .non))) H) ∨ rIsB x y H Q
omit [TabC] in
def rIsnotA : R2 := fun x y H Q => (y = .non ∧ Q (.bl (!decide (x = .non))) H) ∨ rNotB x y H Q
omit [TabC] in
theorem op_isA : OpR X (compareOp .Is) rIsA := op_isN.or op_isBl
omit [TabC] in
theorem op_isnotA : OpR X (compareOp .IsNot) rIsnotA := op_notN.or op_notBl
theorem od_is : OpD X.G rIsA isD := by
  intro H W x y dx dy z Q th rx ry e q
  cases dy with
  | non =>
    have e2 : z = .bl (isND dx) := by cases dx <;> (cases e; rfl)
    subst e2
    refine .inl ⟨ry, ?_⟩
    rw [isN_rp rx]
    exact q _ H (Fm.refl _ _) rfl
  | bl b =>
    cases dx with
    | bl a => cases e; exact .inr ⟨a, b, rx, ry, q _ H (Fm.refl _ _) rfl⟩
    | _ => cases e
  | _ => cases dx <;> cases e
theorem od_isnot : OpD X.G rIsnotA isnotD := by
  intro H W x y dx dy z Q th rx ry e q
  cases dy with
  | non =>
    have e2 : z = .bl (!isND dx) := by cases dx <;> (cases e; rfl)
    subst e2
    refine .inl ⟨ry, ?_⟩
    rw [isN_rp rx]
    exact q _ H (Fm.refl _ _) rfl
  | bl b =>
    cases dx with
    | bl a => cases e; exact .inr ⟨a, b, rx, ry, q _ H (Fm.refl _ _) rfl⟩
    | _ => cases e
  | _ => cases dx <;> cases e
omit [TabC] in
def ixD : D → D → Option D
  | .lst ds, .int i => atI ds i
  | .tup ds, .int i => atI ds i
  | .str z, .int i => if lim z.length then (atI z.cps.toList i).map fun c => .str ⟨#[c]⟩ else none
  | .scr ns, .int i => (atI ns i).map D.int
  | _, _ => none
omit [TabC] in
theorem atI_rp {G : Gc} {H : Hp} {W : List Addr} {ds : List D} {vs : List V} (r : RpAll G H W ds vs) {i : Int} {d : D} (h : atI ds i = some d) : ∃ v, atI vs i = some v ∧ Rp G H W d v := by
  unfold atI at h ⊢
  rw [r.length]
  cases e : ixN ds.length i with
  | none => rw [e] at h; cases h
  | some j =>
    rw [e] at h
    exact r.get h
omit [TabC] in
theorem scr_sq {G : Gc} {H : Hp} {W : List Addr} {ns : List Int} {x : V} (h : Rp G H W (.scr ns) x) : ∃ a, x = .ref a ∧ SqL G.K H a (ns.map V.int) := by
  obtain ⟨a, e, f, l⟩ := h
  exact ⟨a, e, f.imp (·.2) id⟩
omit [TabC] in
theorem atI_int {ns : List Int} {i : Int} {d : D} (h : (atI ns i).map D.int = some d) : ∃ n, atI (ns.map V.int) i = some (.int n) ∧ d = .int n := by
  unfold atI at h ⊢
  rw [List.length_map]
  cases e : ixN ns.length i with
  | none => rw [e] at h; cases h
  | some j =>
    rw [e] at h
    simp only [Option.bind_some] at h ⊢
    rw [List.getElem?_map]
    cases e2 : ns[j]? with
    | none => rw [e2] at h; cases h
    | some n => rw [e2] at h; cases h; exact ⟨n, rfl, rfl⟩
theorem od_ix : OpD X.G (rIx X.K) ixD := by
  intro H W x y dx dy z Q th rx ry e q
  cases dy with
  | int i =>
    cases dx with
    | lst ds =>
      obtain ⟨a, vs, rfl, fa, la, ra⟩ := rx
      obtain ⟨v, hv, rv⟩ := atI_rp ra e
      exact .inl ⟨a, vs, i, v, rfl, ry, fa.sq, hv, q v H (Fm.refl _ _) rv⟩
    | tup ds =>
      obtain ⟨a, vs, rfl, fa, la, ra⟩ := rx
      obtain ⟨v, hv, rv⟩ := atI_rp ra e
      exact .inr (.inl ⟨a, vs, i, v, rfl, ry, fa.sq, hv, q v H (Fm.refl _ _) rv⟩)
    | str s =>
      simp only [ixD] at e
      split at e
      · rename_i l
        cases e2 : atI s.cps.toList i with
        | none => rw [e2] at e; cases e
        | some c =>
          rw [e2] at e
          cases e
          exact .inr (.inr ⟨s, i, c, rx, ry, lim_line l, e2, q _ H (Fm.refl _ _) rfl⟩)
      · cases e
    | scr ns =>
      obtain ⟨a, rfl, sq⟩ := scr_sq rx
      obtain ⟨n, h1, rfl⟩ := atI_int e
      exact .inl ⟨a, _, i, _, rfl, ry, sq, h1, q _ H (Fm.refl _ _) rfl⟩
    | _ => cases e
  | _ => cases dx <;> cases e
end
omit [TabC] in
def ints? : List D → Option (List Int)
  | [] => some []
  | .int i :: r => (ints? r).map (i :: ·)
  | _ => none
omit [TabC] in
def bools? : List D → Option (List Bool)
  | [] => some []
  | .bl i :: r => (bools? r).map (i :: ·)
  | _ => none
omit [TabC] in
theorem ints_vals {G : Gc} {H : Hp} {W : List Addr} : ∀ {ds : List D} {vs : List V} {ns : List Int}, RpAll G H W ds vs → ints? ds = some ns → vs = ns.map V.int ∧ ds = ns.map D.int
  | [], _, _, r, e => by cases e; exact ⟨r, rfl⟩
  | .int i :: ds, _, _, ⟨x, xs, ex, r, k⟩, e => by
    unfold ints? at e
    cases e1 : ints? ds with
    | none => rw [e1] at e; cases e
    | some ms =>
      rw [e1] at e
      cases e
      obtain ⟨h1, h2⟩ := ints_vals k e1
      rw [ex, show x = .int i from r, h1, h2]
      exact ⟨rfl, rfl⟩
  | .non :: _, _, _, _, e => nomatch e
  | .bl _ :: _, _, _, _, e => nomatch e
  | .str _ :: _, _, _, _, e => nomatch e
  | .lst _ :: _, _, _, _, e => nomatch e
  | .tup _ :: _, _, _, _, e => nomatch e
  | .dT _ :: _, _, _, _, e => nomatch e
  | .dK _ :: _, _, _, _, e => nomatch e
  | .obj _ _ :: _, _, _, _, e => nomatch e
  | .scr _ :: _, _, _, _, e => nomatch e
  | .exn _ _ :: _, _, _, _, e => nomatch e
  | .fT _ :: _, _, _, _, e => nomatch e
omit [TabC] in
theorem bools_vals {G : Gc} {H : Hp} {W : List Addr} : ∀ {ds : List D} {vs : List V} {ns : List Bool}, RpAll G H W ds vs → bools? ds = some ns → vs = ns.map V.bl
  | [], _, _, r, e => by cases e; exact r
  | .bl i :: ds, _, _, ⟨x, xs, ex, r, k⟩, e => by
    unfold bools? at e
    cases e1 : bools? ds with
    | none => rw [e1] at e; cases e
    | some ms =>
      rw [e1] at e
      cases e
      rw [ex, show x = .bl i from r, bools_vals k e1]
      rfl
  | .non :: _, _, _, _, e => nomatch e
  | .int _ :: _, _, _, _, e => nomatch e
  | .str _ :: _, _, _, _, e => nomatch e
  | .lst _ :: _, _, _, _, e => nomatch e
  | .tup _ :: _, _, _, _, e => nomatch e
  | .dT _ :: _, _, _, _, e => nomatch e
  | .dK _ :: _, _, _, _, e => nomatch e
  | .obj _ _ :: _, _, _, _, e => nomatch e
  | .scr _ :: _, _, _, _, e => nomatch e
  | .exn _ _ :: _, _, _, _, e => nomatch e
  | .fT _ :: _, _, _, _, e => nomatch e
omit [TabC] in
theorem rp_ints {G : Gc} {H : Hp} {W : List Addr} : ∀ ns : List Int, RpAll G H W (ns.map D.int) (ns.map V.int)
  | [] => rfl
  | i :: ns => ⟨.int i, ns.map V.int, rfl, rfl, rp_ints ns⟩
omit [TabC] in
def lenF : List D → Option D
  | [.lst ds] => some (.int ds.length)
  | [.tup ds] => some (.int ds.length)
  | [.str z] => if lim z.length then some (.int z.length) else none
  | [.scr ns] => some (.int ns.length)
  | _ => none
omit [TabC] in
def absF : List D → Option D
  | [.int i] => some (.int (if i < 0 then -i else i))
  | _ => none
omit [TabC] in
def minF : List D → Option D
  | [.int i, .int j] => some (.int (if j < i then j else i))
  | _ => none
omit [TabC] in
def allF : List D → Option D
  | [.lst ds] => (bools? ds).map fun ns => .bl (ns.all id)
  | _ => none
omit [TabC] in
def anyF : List D → Option D
  | [.lst ds] => (bools? ds).map fun ns => .bl (ns.any id)
  | _ => none
omit [TabC] in
def listF : List D → Option D
  | [.lst ds] => some (.lst ds)
  | [.tup ds] => some (.lst ds)
  | _ => none
omit [TabC] in
def tupF : List D → Option D
  | [.lst ds] => some (.tup ds)
  | [.tup ds] => some (.tup ds)
  | _ => none
omit [TabC] in
def intF : List D → Option D
  | [.int i] => some (.int i)
  | [.bl k] => some (.int (if k then 1 else 0))
  | _ => none
omit [TabC] in
theorem one_of {G : Gc} {H : Hp} {W : List Addr} {d : D} {vs : List V} (r : RpAll G H W [d] vs) : ∃ x, vs = [x] ∧ Rp G H W d x := by
  obtain ⟨x, xs, e, h, k⟩ := r
  cases (show xs = [] from k)
  exact ⟨x, e, h⟩
omit [TabC] in
theorem two_of {G : Gc} {H : Hp} {W : List Addr} {d e : D} {vs : List V} (r : RpAll G H W [d, e] vs) : ∃ x y, vs = [x, y] ∧ Rp G H W d x ∧ Rp G H W e y := by
  obtain ⟨x, xs, ex, h, k⟩ := r
  obtain ⟨y, rfl, h2⟩ := one_of k
  exact ⟨x, y, ex, h, h2⟩
section
variable {X : Cx}
omit [TabC] in
abbrev rLenA (K : PySem.W.Frag) : List V → Hp → VK → Prop := fun xs H Q => (∃ p ys, xs = [.ref p] ∧ (SqL K H p ys ∨ SqT K H p ys) ∧ Q (.int ys.length) H) ∨ (∃ z, xs = [.str z] ∧ z.length ≤ sizeLine ∧ Q (.int z.length) H)
omit [TabC] in
theorem cr_len : CallR X (.builtin "len") (rLenA X.K) := call_len_seq.or call_len_str
theorem cd_len : CallD X.G (rLenA X.K) lenF := by
  intro H W xs ds z Q th r e q
  match ds, e with
  | [.lst ds], e =>
    cases e
    obtain ⟨x, rfl, a, vs, rfl, fa, la, ra⟩ := one_of r
    refine .inl ⟨a, vs, rfl, .inl fa.sq, ?_⟩
    rw [ra.length]
    exact q _ H (Fm.refl _ _) rfl
  | [.tup ds], e =>
    cases e
    obtain ⟨x, rfl, a, vs, rfl, fa, la, ra⟩ := one_of r
    refine .inl ⟨a, vs, rfl, .inr fa.sq, ?_⟩
    rw [ra.length]
    exact q _ H (Fm.refl _ _) rfl
  | [.str s], e =>
    simp only [lenF] at e
    split at e
    · rename_i l
      cases e
      obtain ⟨x, rfl, rfl⟩ := one_of r
      exact .inr ⟨s, rfl, lim_line l, q _ H (Fm.refl _ _) rfl⟩
    · cases e
  | [.scr ns], e =>
    cases e
    obtain ⟨x, rfl, rx⟩ := one_of r
    obtain ⟨a, rfl, sq⟩ := scr_sq rx
    refine .inl ⟨a, _, rfl, .inl sq, ?_⟩
    rw [List.length_map]
    exact q _ H (Fm.refl _ _) rfl
theorem cd_abs : CallD X.G (fun xs H Q => ∃ i, xs = [.int i] ∧ Q (.int (if i < 0 then -i else i)) H) absF := by
  intro H W xs ds z Q th r e q
  match ds, e with
  | [.int i], e =>
    cases e
    obtain ⟨x, rfl, rfl⟩ := one_of r
    exact ⟨i, rfl, q _ H (Fm.refl _ _) rfl⟩
theorem cd_min : CallD X.G (fun xs H Q => ∃ i j, xs = [.int i, .int j] ∧ Q (.int (if j < i then j else i)) H) minF := by
  intro H W xs ds z Q th r e q
  match ds, e with
  | [.int i, .int j], e =>
    cases e
    obtain ⟨x, y, rfl, rfl, rfl⟩ := two_of r
    exact ⟨i, j, rfl, q _ H (Fm.refl _ _) rfl⟩
omit [TabC] in
theorem lst_arg {G : Gc} {H : Hp} {W : List Addr} {ds : List D} {xs : List V} (r : RpAll G H W [.lst ds] xs) : ∃ a vs, xs = [.ref a] ∧ FL H W a vs ∧ ds.length ≤ sizeLine ∧ RpAll G H W ds vs := by
  obtain ⟨x, rfl, a, vs, rfl, fa, la, ra⟩ := one_of r
  exact ⟨a, vs, rfl, fa, la, ra⟩
theorem cd_all : CallD X.G (rAll X.K) allF := by
  intro H W xs ds z Q th r e q
  match ds, e with
  | [.lst ds], e =>
    obtain ⟨a, vs, rfl, fa, la, ra⟩ := lst_arg r
    simp only [allF] at e
    cases e1 : bools? ds with
    | none => rw [e1] at e; cases e
    | some ns =>
      rw [e1] at e
      cases e
      have h1 := bools_vals ra e1
      subst h1
      exact ⟨a, ns, rfl, fa.sq, q _ H (Fm.refl _ _) rfl⟩
theorem cd_any : CallD X.G (rAny X.K) anyF := by
  intro H W xs ds z Q th r e q
  match ds, e with
  | [.lst ds], e =>
    obtain ⟨a, vs, rfl, fa, la, ra⟩ := lst_arg r
    simp only [anyF] at e
    cases e1 : bools? ds with
    | none => rw [e1] at e; cases e
    | some ns =>
      rw [e1] at e
      cases e
      have h1 := bools_vals ra e1
      subst h1
      exact ⟨a, ns, rfl, fa.sq, q _ H (Fm.refl _ _) rfl⟩
theorem cd_list : CallD X.G (fun xs H Q => ∃ p ys, xs = [.ref p] ∧ (SqL X.K H p ys ∨ SqT X.K H p ys) ∧ ∀ l, H l = none → Q (.ref l) (upd H l (.lst ys))) listF := by
  intro H W xs ds z Q th r e q
  match ds, e with
  | [.lst ds], e =>
    cases e
    obtain ⟨x, rfl, a, vs, rfl, fa, la, ra⟩ := one_of r
    exact ⟨a, vs, rfl, .inl fa.sq, fun p n => q _ _ (fm_new n) ⟨p, _, rfl, ⟨new_out th n, .inl upd_same⟩, la, RpAll.mo (new_mo (G := X.G) n) _ _ ra⟩⟩
  | [.tup ds], e =>
    cases e
    obtain ⟨x, rfl, a, vs, rfl, fa, la, ra⟩ := one_of r
    exact ⟨a, vs, rfl, .inr fa.sq, fun p n => q _ _ (fm_new n) ⟨p, _, rfl, ⟨new_out th n, .inl upd_same⟩, la, RpAll.mo (new_mo (G := X.G) n) _ _ ra⟩⟩
theorem cd_tup : CallD X.G (fun xs H Q => ∃ p ys, xs = [.ref p] ∧ ((SqL X.K H p ys ∧ ∀ l, H l = none → Q (.ref l) (upd H l (.tup ys))) ∨ (SqT X.K H p ys ∧ Q (.ref p) H))) tupF := by
  intro H W xs ds z Q th r e q
  match ds, e with
  | [.lst ds], e =>
    cases e
    obtain ⟨x, rfl, a, vs, rfl, fa, la, ra⟩ := one_of r
    exact ⟨a, vs, rfl, .inl ⟨fa.sq, fun p n => q _ _ (fm_new n) ⟨p, _, rfl, upd_same, la, RpAll.mo (new_mo (G := X.G) n) _ _ ra⟩⟩⟩
  | [.tup ds], e =>
    cases e
    obtain ⟨x, rfl, rr⟩ := one_of r
    have rr0 := rr
    obtain ⟨a, vs, rfl, fa, la, ra⟩ := rr
    exact ⟨a, vs, rfl, .inr ⟨fa.sq, q _ H (Fm.refl _ _) rr0⟩⟩
theorem cd_int : CallD X.G (fun xs H Q => (∃ i, xs = [.int i] ∧ Q (.int i) H) ∨ ∃ k, xs = [.bl k] ∧ Q (.int (if k then 1 else 0)) H) intF := by
  intro H W xs ds z Q th r e q
  match ds, e with
  | [.int i], e =>
    cases e
    obtain ⟨x, rfl, rfl⟩ := one_of r
    exact .inl ⟨i, rfl, q _ H (Fm.refl _ _) rfl⟩
  | [.bl i], e =>
    cases e
    obtain ⟨x, rfl, rfl⟩ := one_of r
    exact .inr ⟨i, rfl, q _ H (Fm.refl _ _) rfl⟩
end
end DL
namespace DL
open PySem L2
variable [TabC]
omit [TabC] in
abbrev GM := D → Env → Option Env
omit [TabC] in
/-- alike but for some places -/
def Al (is : List Nat) (σ σ' : L2.St) : Prop := σ'.length = σ.length ∧ ∀ j, j ∉ is → σ'[j]? = σ[j]?
omit [TabC] in
theorem Al.refl (is : List Nat) (σ : L2.St) : Al is σ σ := ⟨rfl, fun _ _ => rfl⟩
omit [TabC] in
theorem Al.trans {is js : List Nat} {σ σ1 σ2 : L2.St} (a : Al is σ σ1) (b : Al js σ1 σ2) : Al (is ++ js) σ σ2 :=
  ⟨b.1.trans a.1, fun j n => (b.2 j fun z => n (List.mem_append_right _ z)).trans (a.2 j fun z => n (List.mem_append_left _ z))⟩
omit [TabC] in
theorem Al.wipe {is vs : List Nat} {σ σ1 : L2.St} (a : Al is σ σ1) (h : ∀ i ∈ is, i ∈ vs) : wipe σ1 vs = wipe σ vs := by
  apply List.ext_getElem?
  intro j
  by_cases m : j ∈ vs
  · have key : ∀ (vs : List Nat) (σ : L2.St), j ∈ vs → (L2.wipe σ vs)[j]? = if j < σ.length then some none else none := by
      intro vs
      induction vs with
      | nil => intro σ h; simp at h
      | cons v r ih =>
        intro σ hm
        show ((L2.wipe σ r).set v none)[j]? = _
        by_cases e : v = j
        · subst e
          by_cases l : v < σ.length
          · rw [if_pos l, List.getElem?_set_self (by rw [wipe_length]; exact l)]
          · rw [if_neg l, List.getElem?_eq_none (by rw [List.length_set, wipe_length]; exact Nat.not_lt.mp l)]
        · rw [List.getElem?_set_ne e]
          rcases List.mem_cons.mp hm with z | z
          · exact absurd z.symm e
          · exact ih σ z
    rw [key vs σ1 m, key vs σ m, a.1]
  · rw [wipe_out m, wipe_out m]
    exact a.2 j fun z => m (h j z)
structure DG (X : Cx) (tg : Expr) (t : TG) (is : List Nat) (g : GM) : Prop where
  pe : PG X tg t
  q : ∀ (Γ : Gam) (σ : L2.St) (H : Hp) (ρ : Env) (d : D) (v : V) (ρ' : Env) (Q : L2.St → Hp → Prop), Sr Γ X.G H σ ρ → Rp X.G H (Γ.w σ ρ) d v → g d ρ = some ρ' →
    (∀ σ', So Γ X.G σ ρ H σ' ρ' H → Al is σ σ' → Q σ' H) → t v σ H Q
structure DGs (X : Cx) (ts : List Expr) (t : TGs) (is : List Nat) (g : List D → Env → Option Env) : Prop where
  pe : PGs X ts t
  q : ∀ (Γ : Gam) (σ : L2.St) (H : Hp) (ρ : Env) (ds : List D) (vs : List V) (ρ' : Env) (Q : L2.St → Hp → Prop), Sr Γ X.G H σ ρ → RpAll X.G H (Γ.w σ ρ) ds vs → g ds ρ = some ρ' →
    (∀ σ', So Γ X.G σ ρ H σ' ρ' H → Al is σ σ' → Q σ' H) → t vs σ H Q
omit [TabC] in
def gV (i : Nat) : GM := fun d ρ => putV i d ρ
omit [TabC] in
def gNil : List D → Env → Option Env := fun ds ρ => match ds with
  | [] => some ρ
  | _ => none
omit [TabC] in
def gCons (g : GM) (r : List D → Env → Option Env) : List D → Env → Option Env := fun ds ρ => match ds with
  | d :: ds => (g d ρ).bind fun ρ' => r ds ρ'
  | [] => none
omit [TabC] in
def gT (r : List D → Env → Option Env) : GM := fun d ρ => match d with
  | .tup ds => r ds ρ
  | _ => none
section
variable {X : Cx} {pos : Pos} {e : Expr} {es : List Expr} {is js : List Nat} {g : GM} {gs : List D → Env → Option Env} {tg : TG} {tgs : TGs}
theorem dg_name (i : Nat) {x : Str} (hN : X.N.Nodup) (hi : X.N[i]? = some x := by rfl) (hx : Loc X.env.scope x := by first | exact Or.inl rfl | exact Or.inr rfl)
    (hf : X.fn x = true ∨ X.env.scope.names.lookup x = some .local := by first | exact .inl rfl | exact .inr rfl) : DG X (.Name x pos) (gName i) [i] (gV i) := by
  refine ⟨pg_name hN hi hx hf, fun Γ σ H ρ d v ρ' Q s r h k => ?_⟩
  exact k _ (s.put h r) ⟨by simp, fun j n => by rw [List.getElem?_set_ne (fun z => n (by simp [z]))]⟩
theorem dgs_nil : DGs X [] L2.gNil [] gNil := by
  refine ⟨pgs_nil, fun Γ σ H ρ ds vs ρ' Q s r h k => ?_⟩
  cases ds with
  | nil =>
    cases h
    exact ⟨r, k σ (So.refl s) (Al.refl _ _)⟩
  | cons d ds => cases h
theorem dgs_cons (h1 : DG X e tg is g) (h2 : DGs X es tgs js gs) (hs : (assignEach (e :: es) X.env).map (·.2) = assign e X.env :: (assignEach es X.env).map (·.2) := by rfl) : DGs X (e :: es) (L2.gCons tg tgs) (is ++ js) (gCons g gs) := by
  obtain ⟨p1, q1⟩ := h1
  obtain ⟨p2, q2⟩ := h2
  refine ⟨pgs_cons p1 p2 hs, fun Γ σ H ρ ds vs ρ' Q s r h k => ?_⟩
  cases ds with
  | nil => cases h
  | cons d ds =>
    obtain ⟨x, xs, e, r1, r2⟩ := r
    simp only [gCons] at h
    cases e1 : g d ρ with
    | none => rw [e1] at h; cases h
    | some ρ1 =>
      rw [e1] at h
      refine ⟨x, xs, e, q1 Γ σ H ρ d x ρ1 _ s r1 e1 fun σ1 a1 al1 => ?_⟩
      exact q2 Γ σ1 H ρ1 ds xs ρ' _ a1.sr (RpAll.mo (a1.mo s) _ _ r2) h fun σ2 a2 al2 => k σ2 (a1.trans a2) (al1.trans al2)
theorem dg_tup {k : Nat} {n : Nat} (hc : X.calm = true) (h : DGs X es tgs is gs) (hd : ∀ ds ρ ρ', gs ds ρ = some ρ' → ds.length = n)
    (hn : (assignEach es X.env).length = n := by rfl) (hst : (assignEach es X.env).findIdx? (·.1) = none := by rfl) : DG X (.Tuple es k pos) (gTup X.K n tgs) is (gT gs) := by
  obtain ⟨p1, q1⟩ := h
  refine ⟨pg_tup hc p1 hn hst, fun Γ σ H ρ d v ρ' Q s r h k => ?_⟩
  cases d with
  | tup ds =>
    obtain ⟨a, vs, rfl, fa, la, ra⟩ := r
    refine ⟨a, vs, rfl, fa.sq, ra.length.trans (hd ds ρ ρ' h), ?_⟩
    exact q1 Γ σ H ρ ds vs ρ' _ s ra h k
  | _ => cases h
end
structure WalkD (G : Gc) (W0 : List Addr) (H0 : Hp) (J : It) (ds : List D) : Prop where
  le : ds.length ≤ sizeLine
  go : ∀ (H : Hp) (i : Nat), Fm W0 H0 H → i < ds.length → J.go i H
  stop : ∀ (H : Hp), Fm W0 H0 H → J.stop ds.length H
  yld : ∀ (H : Hp) (i : Nat) (x : V) (H' : Hp), Fm W0 H0 H → J.yld i H x H' → i < ds.length → Fm [] H H' ∧ ∀ (W : List Addr) (d : D), ds[i]? = some d → (∀ b ∈ W, (b ∈ W0 ∨ H0 b = none) ∧ H b ≠ none) → Rp G H' W d x
omit [TabC] in
abbrev IM := Env → Option (List D × Env)
structure DI (X : Cx) (tg iter : Expr) (wi : TI) (m : IM) : Prop where
  pe : PI X tg iter wi
  q : ∀ (Γ : Gam) (σ : L2.St) (H : Hp) (ρ : Env) (ds : List D) (ρ' : Env) (R : It → Hp → Prop), Sr Γ X.G H σ ρ → m ρ = some (ds, ρ') →
    (∀ J H', Po Γ X.G σ ρ H ρ' H' → WalkD X.G (Γ.w σ ρ') H' J ds → R J H') → wi σ H R
omit [TabC] in
def rngD (lo : Int) (n : Nat) : List D := (List.range n).map fun (i : Nat) => D.int (lo + (i : Int))
omit [TabC] in
def ok62 (i : Int) : Bool := decide (-(2 ^ 62) ≤ i) && decide (i < 2 ^ 62)
omit [TabC] in
def rng1 : List Arg → Option (List D)
  | [.val (.int j)] => if ok62 j && lim j.toNat then some (rngD 0 j.toNat) else none
  | _ => none
omit [TabC] in
def iArg (f : List Arg → Option (List D)) (m : AM) : IM := fun ρ => (m ρ).bind fun p => (f p.1).map fun ds => (ds, p.2)
theorem fm_mo {W0 W : List Addr} {H0 H : Hp} (f : Fm W0 H0 H) (w : ∀ b ∈ W, (b ∈ W0 ∨ H0 b = none) ∧ H b ≠ none) : Mo W0 W H0 H := ⟨f, fun b z => (w b z).1⟩
theorem walkD_list {G : Gc} {W0 : List Addr} {H0 : Hp} {a : Addr} {vs : List V} {ds : List D} (le : ds.length ≤ sizeLine) (fa : FL H0 W0 a vs) (ra : RpAll G H0 W0 ds vs) : WalkD G W0 H0 (Itl G.K a) ds := by
  have sq : ∀ H, Fm W0 H0 H → SqL G.K H a vs := fun H f => .inl (f.rd fa.1 fa.2)
  have w := walk_list (K := G.K) (a := a) (xs := vs)
  rw [ra.length] at w
  refine ⟨le, fun H i f l => w.goes i H l (sq H f), fun H f => w.stops H (sq H f), fun H i x H' f y l => ?_⟩
  obtain ⟨e1, e2⟩ := w.yields i H x H' l (sq H f) y
  subst e1
  refine ⟨Fm.refl _ _, fun W d hd wb => ?_⟩
  obtain ⟨v, hv, rv⟩ := ra.get hd
  rw [e2] at hv
  cases hv
  exact Rp.mo (fm_mo f wb) _ _ rv
theorem walkD_tup {G : Gc} {W0 : List Addr} {H0 : Hp} {a : Addr} {vs : List V} {ds : List D} (le : ds.length ≤ sizeLine) (fa : FT G H0 W0 a vs) (ra : RpAll G H0 W0 ds vs) : WalkD G W0 H0 (Itt G.K a) ds := by
  have sq : ∀ H, Fm W0 H0 H → SqT G.K H a vs := fun H f => by
    exact .inl (.inl (f _ _ (fun _ => rfl) fa rfl))
  have w := walk_tup (K := G.K) (a := a) (xs := vs)
  rw [ra.length] at w
  refine ⟨le, fun H i f l => w.goes i H l (sq H f), fun H f => w.stops H (sq H f), fun H i x H' f y l => ?_⟩
  obtain ⟨e1, e2⟩ := w.yields i H x H' l (sq H f) y
  subst e1
  refine ⟨Fm.refl _ _, fun W d hd wb => ?_⟩
  obtain ⟨v, hv, rv⟩ := ra.get hd
  rw [e2] at hv
  cases hv
  exact Rp.mo (fm_mo f wb) _ _ rv
omit [TabC] in
theorem rngD_length (lo : Int) (n : Nat) : (rngD lo n).length = n := by simp [rngD]
theorem walkD_rng {G : Gc} {W0 : List Addr} {H0 : Hp} {lo : Int} {n : Nat} (hl : lim n = true) : WalkD G W0 H0 (Itr lo n) (rngD lo n) := by
  have w := walk_range (lo := lo) (n := n)
  refine ⟨by rw [rngD_length]; exact lim_line hl, fun H i f l => w.goes i H (by rwa [rngD_length] at l) trivial, fun H f => by rw [rngD_length]; exact w.stops H trivial, fun H i x H' f y l => ?_⟩
  rw [rngD_length] at l
  obtain ⟨e1, e2⟩ := w.yields i H x H' l trivial y
  subst e1
  refine ⟨Fm.refl _ _, fun W d hd wb => ?_⟩
  unfold rngD at hd
  rw [List.getElem?_map, List.getElem?_range l] at hd
  cases hd
  exact e2
section
variable {X : Cx} {tg e a b : Expr} {pos p : Pos} {m : EM} {am : AM} {te : TE} {at1 : TA}
omit [TabC] in
theorem iArg_some {f : List Arg → Option (List D)} {ρ ρ' : Env} {ds : List D} (h : iArg f am ρ = some (ds, ρ')) : ∃ as, am ρ = some (as, ρ') ∧ f as = some ds := by
  unfold iArg at h
  cases e1 : am ρ with
  | none => rw [e1] at h; cases h
  | some r =>
    rw [e1] at h
    replace h : ((f r.1).map fun ds => (ds, r.2)) = some (ds, ρ') := h
    cases e2 : f r.1 with
    | none => rw [e2] at h; cases h
    | some z =>
      rw [e2] at h
      cases h
      exact ⟨_, rfl, e2⟩
theorem di_rng1 (hm : X.mg "range" = none) (ha : DA X [a] at1 am) (hg : Gl X "range" := by rfl) (hs : starEach [a] X.env = [(false, eval a X.env)] := by rfl) : DI X tg (.Call (.Name "range" p) [a] [] pos) (iRng1 at1) (iArg rng1 am) := by
  obtain ⟨p, q⟩ := ha
  refine ⟨pi_range1 hg hm p hs, fun Γ σ H ρ ds ρ' R s h k => ?_⟩
  obtain ⟨as, e1, e2⟩ := iArg_some h
  refine q Γ σ H ρ _ _ _ s e1 fun vs H1 a1 r1 => ?_
  match as, e2, r1 with
  | [.val (.int j)], e2, r1 =>
    simp only [rng1] at e2
    split at e2
    · rename_i l
      cases e2
      unfold ok62 at l
      rw [Bool.and_eq_true, Bool.and_eq_true] at l
      obtain ⟨x, xs, rfl, rx, rr⟩ := r1
      cases (show xs = [] from rr)
      cases (show x = .int j from rx)
      exact ⟨j, rfl, of_decide_eq_true l.1.1, of_decide_eq_true l.1.2, k _ H1 a1 (walkD_rng l.2)⟩
    · cases e2
end
end DL
namespace DL
open PySem L2
variable [TabC]
omit [TabC] in
def nonO : Option Sl → Prop
  | some (.o _) => False
  | _ => True
omit [TabC] in
theorem ownO_cons_non {x : Option V} {s : Sl} (h : nonO (some s)) (σ : L2.St) (ρ : Env) : ownO (x :: σ) (s :: ρ) = ownO σ ρ := by
  cases s with
  | o d => exact h.elim
  | _ =>
    cases x with
    | none => rfl
    | some v => cases v <;> rfl
omit [TabC] in
theorem ownO_congr : ∀ {σ σ' : L2.St} {ρ ρ' : Env}, σ.length = σ'.length → ρ.length = ρ'.length → (∀ i : Nat, (σ[i]? = σ'[i]? ∧ ρ[i]? = ρ'[i]?) ∨ (nonO ρ[i]? ∧ nonO ρ'[i]?)) → ownO σ ρ = ownO σ' ρ'
  | [], [], ρ, ρ', _, _, _ => by simp [ownO]
  | x :: σ, x' :: σ', [], [], _, _, _ => by
    have e : ∀ (x : Option V) (σ : L2.St), ownO (x :: σ) [] = [] := fun x σ => by
      cases x with
      | none => rfl
      | some v => cases v <;> rfl
    rw [e, e]
  | x :: σ, x' :: σ', s :: ρ, s' :: ρ', h1, h2, h => by
    have ih := ownO_congr (σ := σ) (σ' := σ') (ρ := ρ) (ρ' := ρ') (by simpa using h1) (by simpa using h2) fun i => by simpa using h (i + 1)
    rcases h 0 with ⟨a, b⟩ | ⟨a, b⟩
    · have a' : x = x' := by simpa using a
      have b' : s = s' := by simpa using b
      subst a'
      subst b'
      cases s with
      | o d =>
        cases x with
        | none => exact ih
        | some v =>
          cases v with
          | ref q => exact congrArg (q :: ·) ih
          | _ => exact ih
      | _ => rw [ownO_cons_non (by trivial), ownO_cons_non (by trivial), ih]
    · rw [ownO_cons_non (by simpa using a), ownO_cons_non (by simpa using b), ih]
section
variable {Γ : Gam} {G : Gc} {H H' H1 H2 : Hp} {σ σ' σ1 σ2 : L2.St} {ρ ρ' ρ1 ρ2 : Env}
theorem SlR.mo {W W' : List Addr} {π : List (Nat × Addr)} {i : Nat} {x : Option V} {s : Sl} (m : Mo W W' H H') (k : ∀ a x, a ∈ W → H a = some x → H' a = some x ∨ ∀ d, s ≠ .o d ∧ s ≠ .p d) (q : SlR G H W π i x s) (w : ∀ a d, s = .o d ∨ s = .p d → x = some (.ref a) → a ∈ W) : SlR G H' W' π i x s := by
  cases s with
  | e => trivial
  | v d => obtain ⟨v, e, r⟩ := q; exact ⟨v, e, Rp.mo m _ _ r⟩
  | o d => obtain ⟨a, e, r⟩ := q; exact ⟨a, e, r.mo m fun x z _ => (k a x (w a d (.inl rfl) e) z).resolve_right fun h => (h d).1 rfl⟩
  | p d => obtain ⟨a, e, p, r⟩ := q; exact ⟨a, e, p, r.mo m fun x z _ => (k a x (w a d (.inr rfl) e) z).resolve_right fun h => (h d).2 rfl⟩
theorem Sr.ag (s : Sr Γ G H σ ρ) (h1 : σ'.length = σ.length) (h2 : ρ'.length = ρ.length) (hc : ∀ i : Nat, (σ[i]? = σ'[i]? ∧ ρ[i]? = ρ'[i]?) ∨ (nonO ρ[i]? ∧ nonO ρ'[i]?))
    (hs : ∀ (i : Nat) (t : Sl), ρ'[i]? = some t → (ρ[i]? = some t ∧ σ[i]? = σ'[i]?) ∨ ∃ x, σ'[i]? = some x ∧ SlR G H (Γ.w σ ρ) Γ.π i x t) (hp : ∀ p ∈ Γ.π, ρ'[p.1]? = ρ[p.1]?) :
    Sr Γ G H σ' ρ' ∧ ownO σ' ρ' = ownO σ ρ := by
  have eo : ownO σ' ρ' = ownO σ ρ := (ownO_congr h1.symm h2.symm hc).symm
  refine ⟨⟨by rw [h1, h2]; exact s.len, by rw [eo]; exact s.nd, by rw [eo]; exact s.out, fun i t ht => ?_, fun p hp' => ?_, s.pnd, s.th, s.tb⟩, eo⟩
  · show ∃ x, σ'[i]? = some x ∧ SlR G H (ownO σ' ρ' ++ Γ.U) Γ.π i x t
    rw [eo]
    rcases hs i t ht with ⟨a, b⟩ | h
    · rw [← b]; exact s.sl i t a
    · exact h
  · rw [hp p hp']
    exact s.pin p hp'
/-- less that is kept away from -/
theorem Sr.less {U' : List Addr} (s : Sr Γ G H σ ρ) (h : ∀ a ∈ U', a ∈ Γ.U) (hp : ∀ p ∈ Γ.π, p.2 ∈ U') : Sr ⟨U', Γ.π⟩ G H σ ρ := by
  refine ⟨s.len, s.nd, fun a ha z => s.out a ha (h a z), fun i t ht => ?_, fun p hp' => ⟨hp p hp', (s.pin p hp').2⟩, s.pnd, fun a ha => s.th a (h a ha), s.tb⟩
  obtain ⟨x, e, q⟩ := s.sl i t ht
  have m : Mo (Γ.w σ ρ) (ownO σ ρ ++ U') H H := ⟨Fm.refl _ _, fun b z => .inl ((List.mem_append.mp z).elim (fun z => List.mem_append_left _ z) fun z => List.mem_append_right _ (h b z))⟩
  refine ⟨x, e, ?_⟩
  cases t with
  | e => trivial
  | v d => obtain ⟨v, e, r⟩ := q; exact ⟨v, e, Rp.mo m _ _ r⟩
  | o d => obtain ⟨a, e, r⟩ := q; exact ⟨a, e, r.mo m fun x z _ => z⟩
  | p d => obtain ⟨a, e, p, r⟩ := q; exact ⟨a, e, p, r.mo m fun x z _ => z⟩
/-- a new object, kept away from -/
theorem Sr.more {a : Addr} {o : HO} (s : Sr Γ G H σ ρ) (n : H a = none) : Sr ⟨a :: Γ.U, Γ.π⟩ G (upd H a o) σ ρ := by
  have s' := s.keep (fm_new (o := o) n)
  refine ⟨s'.len, s'.nd, fun b hb z => ?_, fun i t ht => ?_, fun p hp => ⟨List.mem_cons_of_mem _ (s'.pin p hp).1, (s'.pin p hp).2⟩, s'.pnd, fun b hb => ?_, s'.tb⟩
  · rcases List.mem_cons.mp z with z | z
    · subst z; exact s.own_th b hb n
    · exact s'.out b hb z
  · obtain ⟨x, e, q⟩ := s.sl i t ht
    have m : Mo (Γ.w σ ρ) (ownO σ ρ ++ a :: Γ.U) H (upd H a o) := ⟨(fm_new n).mono fun _ z => absurd z (by simp), fun b z => by
      rcases List.mem_append.mp z with z | z
      · exact .inl (List.mem_append_left _ z)
      · rcases List.mem_cons.mp z with z | z
        · exact .inr (z ▸ n)
        · exact .inl (List.mem_append_right _ z)⟩
    have kk : ∀ b x, H b = some x → upd H a o b = some x := fun b x z => by rw [upd_ne (ne_of_none z n)]; exact z
    refine ⟨x, e, ?_⟩
    cases t with
    | e => trivial
    | v d => obtain ⟨v, e, r⟩ := q; exact ⟨v, e, Rp.mo m _ _ r⟩
    | o d => obtain ⟨a, e, r⟩ := q; exact ⟨a, e, r.mo m fun x z _ => kk _ _ z⟩
    | p d => obtain ⟨a, e, p, r⟩ := q; exact ⟨a, e, p, r.mo m fun x z _ => kk _ _ z⟩
  · rcases List.mem_cons.mp hb with z | z
    · subst z; rw [upd_same]; exact fun z => nomatch z
    · exact s'.th b z
theorem wr_fm {H : Hp} {a : Addr} {o u : HO} (hv : H a = some u) (hu : isTp u = false := by rfl) (hx : isTb u = false := by rfl) (hy : isEx u = false := by rfl) : Fm [a] H (upd H a o) := Fm.of (fun b x nb e => by rw [upd_ne (fun z : b = a => by subst z; rw [hv] at e; cases e; have := nb (by simp); rw [hu] at this; cases this)]; exact e) fun b x hb e => by
  rw [List.mem_singleton.mp hb, hv] at e
  cases e
  exact ⟨hx, hy⟩
/-- one that is kept away from is changed -/
theorem Sr.wrU {a : Addr} {o u : HO} (s : Sr Γ G H σ ρ) (ha : a ∈ Γ.U) (hp : a ∉ Γ.π.map (·.2)) (hv : H a = some u) (hu : isTp u = false := by rfl) (hx : isTb u = false := by rfl) (hy : isEx u = false := by rfl) : Sr Γ G (upd H a o) σ ρ := by
  have na : a ∉ ownO σ ρ := fun z => s.out a z ha
  have m : Mo (Γ.w σ ρ) (Γ.w σ ρ) H (upd H a o) := ⟨(wr_fm hv hu hx hy).mono fun b z => by rw [List.mem_singleton.mp z]; exact List.mem_append_right _ ha, fun b z => .inl z⟩
  refine ⟨s.len, s.nd, s.out, fun i t ht => ?_, s.pin, s.pnd, fun b hb => ?_, s.tb.fm m.fm⟩
  · obtain ⟨x, e, q⟩ := s.sl i t ht
    refine ⟨x, e, ?_⟩
    cases t with
    | e => trivial
    | v d => obtain ⟨v, e, r⟩ := q; exact ⟨v, e, Rp.mo m _ _ r⟩
    | o d =>
      obtain ⟨b, rfl, r⟩ := q
      have nb : b ≠ a := fun z => na (by rw [← z]; exact mem_ownO.mpr ⟨i, d, e, ht⟩)
      exact ⟨b, rfl, r.mo m fun x z _ => by rw [upd_ne nb]; exact z⟩
    | p d =>
      obtain ⟨b, rfl, p, r⟩ := q
      have nb : b ≠ a := fun z => hp (by rw [← z]; exact List.mem_map.mpr ⟨_, p, rfl⟩)
      exact ⟨b, rfl, p, r.mo m fun x z _ => by rw [upd_ne nb]; exact z⟩
  · by_cases e : b = a
    · rw [e, upd_same]; exact fun z => nomatch z
    · rw [upd_ne e]; exact s.th b hb
end
omit [TabC] in
def wipeE (ρ : Env) : List Nat → Env
  | [] => ρ
  | v :: r => (wipeE ρ r).set v .e
omit [TabC] in
def noOwn (vs : List Nat) (ρ : Env) : Bool := vs.all fun i => match ρ[i]? with
  | some (.o _) => false
  | some (.p _) => false
  | _ => true
omit [TabC] in
def wipeC (vs : List Nat) (ρ : Env) : Option Env := if noOwn vs ρ then some (wipeE ρ vs) else none
omit [TabC] in
/-- the places vs as they were in ρ1 -/
def rstE (ρ1 ρ : Env) : List Nat → Env
  | [] => ρ
  | v :: r => match ρ1[v]? with
    | some s => (rstE ρ1 ρ r).set v s
    | none => rstE ρ1 ρ r
omit [TabC] in
def compT (vs : List Nat) (g : GM) (tt : TM) (el : EM) (d : D) (ρ : Env) : Option (List D × Env) :=
  (g d ρ).bind fun ρ1 => (tt ρ1).bind fun p => if p.1 = true then (el p.2).bind fun q => (wipeC vs q.2).map fun ρ' => ([q.1], ρ') else (wipeC vs p.2).map fun ρ' => ([], ρ')
omit [TabC] in
def compL (vs : List Nat) (g : GM) (tt : TM) (el : EM) : List D → Env → Option (List D × Env)
  | [], ρ => some ([], ρ)
  | d :: ds, ρ => (compT vs g tt el d ρ).bind fun p => (compL vs g tt el ds p.2).map fun q => (p.1 ++ q.1, q.2)
omit [TabC] in
def eComp (vs : List Nat) (it : IM) (g : GM) (tt : TM) (el : EM) : EM := fun ρ => (it ρ).bind fun p => (wipeC vs p.2).bind fun ρw => (compL vs g tt el p.1 ρw).map fun q => (.lst q.1, rstE p.2 q.2 vs)
omit [TabC] in
def tTrue : TM := fun ρ => some (true, ρ)
structure DTs (X : Cx) (ifs : List Expr) (t : TT) (m : TM) : Prop where
  pe : PTs X ifs t
  q : ∀ (Γ : Gam) (σ : L2.St) (H : Hp) (ρ : Env) (d : Bool) (ρ' : Env) (Q : Bool → Hp → Prop), Sr Γ X.G H σ ρ → m ρ = some (d, ρ') →
    (∀ H', Po Γ X.G σ ρ H ρ' H' → Q d H') → t σ H Q
theorem dts_nil {X : Cx} : DTs X [] tYes tTrue := ⟨pts_nil, fun Γ σ H ρ d ρ' Q s h k => by
  cases h
  exact k H (Po.refl s)⟩
theorem dts_one {X : Cx} {c : Expr} {m : TM} {t : TT} (h : DT X c t m) : DTs X [c] t m := by
  obtain ⟨p, q⟩ := h
  exact ⟨pts_one p, q⟩
omit [TabC] in
theorem wipeE_length (ρ : Env) : ∀ vs : List Nat, (wipeE ρ vs).length = ρ.length
  | [] => rfl
  | v :: r => by rw [wipeE, List.length_set, wipeE_length ρ r]
omit [TabC] in
theorem wipeE_out {ρ : Env} {i : Nat} : ∀ {vs : List Nat}, i ∉ vs → (wipeE ρ vs)[i]? = ρ[i]?
  | [], _ => rfl
  | v :: r, h => by
    rw [wipeE, List.getElem?_set_ne (fun z => h (by rw [← z]; exact List.mem_cons_self))]
    exact wipeE_out fun z => h (List.mem_cons_of_mem _ z)
omit [TabC] in
theorem wipeE_in {ρ : Env} {i : Nat} : ∀ {vs : List Nat}, i ∈ vs → (wipeE ρ vs)[i]? = if i < ρ.length then some .e else none
  | v :: r, h => by
    rw [wipeE]
    by_cases e : v = i
    · subst e
      by_cases l : v < ρ.length
      · rw [if_pos l, List.getElem?_set_self (by rw [wipeE_length]; exact l)]
      · rw [if_neg l, List.getElem?_eq_none (by rw [List.length_set, wipeE_length]; exact Nat.not_lt.mp l)]
    · rw [List.getElem?_set_ne e]
      rcases List.mem_cons.mp h with z | z
      · exact absurd z.symm e
      · exact wipeE_in z
omit [TabC] in
theorem wipe_in {σ : L2.St} {i : Nat} : ∀ {vs : List Nat}, i ∈ vs → (wipe σ vs)[i]? = if i < σ.length then some none else none
  | v :: r, h => by
    show ((wipe σ r).set v none)[i]? = _
    by_cases e : v = i
    · subst e
      by_cases l : v < σ.length
      · rw [if_pos l, List.getElem?_set_self (by rw [wipe_length]; exact l)]
      · rw [if_neg l, List.getElem?_eq_none (by rw [List.length_set, wipe_length]; exact Nat.not_lt.mp l)]
    · rw [List.getElem?_set_ne e]
      rcases List.mem_cons.mp h with z | z
      · exact absurd z.symm e
      · exact wipe_in z
omit [TabC] in
theorem wipe_wipe (σ : L2.St) (vs : List Nat) : wipe (wipe σ vs) vs = wipe σ vs := by
  apply List.ext_getElem?
  intro j
  by_cases m : j ∈ vs
  · rw [wipe_in m, wipe_in m, wipe_length]
  · rw [wipe_out m]
omit [TabC] in
theorem rstE_length (ρ1 ρ : Env) : ∀ vs : List Nat, (rstE ρ1 ρ vs).length = ρ.length
  | [] => rfl
  | v :: r => by
    rw [rstE]
    split
    · rw [List.length_set, rstE_length ρ1 ρ r]
    · exact rstE_length ρ1 ρ r
omit [TabC] in
theorem rstE_out {ρ1 ρ : Env} {i : Nat} : ∀ {vs : List Nat}, i ∉ vs → (rstE ρ1 ρ vs)[i]? = ρ[i]?
  | [], _ => rfl
  | v :: r, h => by
    have ih := rstE_out (ρ1 := ρ1) (ρ := ρ) (i := i) (vs := r) fun z => h (List.mem_cons_of_mem _ z)
    rw [rstE]
    split
    · rw [List.getElem?_set_ne (fun z => h (by rw [← z]; exact List.mem_cons_self))]
      exact ih
    · exact ih
omit [TabC] in
theorem rstE_in {ρ1 ρ : Env} {i : Nat} (hl : ρ1.length = ρ.length) : ∀ {vs : List Nat}, i ∈ vs → (rstE ρ1 ρ vs)[i]? = ρ1[i]?
  | v :: r, h => by
    rw [rstE]
    by_cases e : v = i
    · subst e
      cases q : ρ1[v]? with
      | none =>
        show (rstE ρ1 ρ r)[v]? = none
        rw [List.getElem?_eq_none]
        rw [rstE_length, ← hl]
        exact List.getElem?_eq_none_iff.mp q
      | some s =>
        show ((rstE ρ1 ρ r).set v s)[v]? = some s
        rw [List.getElem?_set_self]
        rw [rstE_length, ← hl]
        exact (List.getElem?_eq_some_iff.mp q).1
    · have ih := rstE_in hl (vs := r) (i := i) ((List.mem_cons.mp h).resolve_left fun z => e z.symm)
      split
      · rw [List.getElem?_set_ne e]; exact ih
      · exact ih
omit [TabC] in
theorem noOwn_at {vs : List Nat} {ρ : Env} (h : noOwn vs ρ = true) {i : Nat} (hi : i ∈ vs) : (∀ d, ρ[i]? ≠ some (.o d)) ∧ ∀ d, ρ[i]? ≠ some (.p d) := by
  have := List.all_eq_true.mp h i hi
  constructor
  · intro d e
    rw [e] at this
    cases this
  · intro d e
    rw [e] at this
    cases this
omit [TabC] in
theorem nonO_of {o : Option Sl} (h : ∀ d, o ≠ some (.o d)) : nonO o := by
  cases o with
  | none => trivial
  | some s =>
    cases s with
    | o d => exact h d rfl
    | _ => trivial
section
variable {Γ : Gam} {G : Gc} {H H' H1 H2 : Hp} {σ σ' σ1 σ2 : L2.St} {ρ ρ' ρ1 ρ2 : Env} {vs : List Nat}
omit [TabC] in
theorem wipeC_some (h : wipeC vs ρ = some ρ') : noOwn vs ρ = true ∧ ρ' = wipeE ρ vs := by
  unfold wipeC at h
  split at h
  · rename_i l; cases h; exact ⟨l, rfl⟩
  · cases h
theorem Sr.wipe (s : Sr Γ G H σ ρ) (h : noOwn vs ρ = true) : Sr Γ G H (wipe σ vs) (wipeE ρ vs) ∧ ownO (L2.wipe σ vs) (wipeE ρ vs) = ownO σ ρ := by
  refine s.ag (wipe_length _ _) (wipeE_length _ _) (fun i => ?_) (fun i t ht => ?_) fun p hp => ?_
  · by_cases m : i ∈ vs
    · refine .inr ⟨nonO_of (noOwn_at h m).1, ?_⟩
      rw [wipeE_in m]
      split <;> trivial
    · exact .inl ⟨(wipe_out m).symm, (wipeE_out m).symm⟩
  · by_cases m : i ∈ vs
    · rw [wipeE_in m] at ht
      split at ht
      · rename_i l
        cases ht
        exact .inr ⟨none, by rw [wipe_in m, if_pos (by rw [s.len]; exact l)], trivial⟩
      · cases ht
    · rw [wipeE_out m] at ht
      exact .inl ⟨ht, (wipe_out m).symm⟩
  · have m : p.1 ∉ vs := fun z => by
      obtain ⟨_, d, e⟩ := s.pin p hp
      exact (noOwn_at h z).2 d e
    exact wipeE_out m
end
end DL
namespace DL
open PySem L2
variable [TabC]
omit [TabC] in
theorem compL_cons {vs : List Nat} {g : GM} {tt : TM} {el : EM} {d : D} {ds : List D} {ρ : Env} : compL vs g tt el (d :: ds) ρ = (compT vs g tt el d ρ).bind fun p => (compL vs g tt el ds p.2).map fun q => (p.1 ++ q.1, q.2) := rfl
omit [TabC] in
theorem noOwn_wipe {vs : List Nat} {ρ : Env} : noOwn vs (wipeE ρ vs) = true := by
  refine List.all_eq_true.mpr fun i hi => ?_
  rw [wipeE_in hi]
  split
  · rename_i d e
    split at e <;> cases e
  · rename_i d e
    split at e <;> cases e
  · rfl
omit [TabC] in
theorem compL_split {vs : List Nat} {g : GM} {tt : TM} {el : EM} {ds : List D} {i : Nat} {d : D} {ρ : Env} {zr : List D} {ρf : Env} (hd : ds[i]? = some d) (h : compL vs g tt el (ds.drop i) ρ = some (zr, ρf)) :
    ∃ z ρ' zr', compT vs g tt el d ρ = some (z, ρ') ∧ compL vs g tt el (ds.drop (i + 1)) ρ' = some (zr', ρf) ∧ zr = z ++ zr' := by
  have e : ds.drop i = d :: ds.drop (i + 1) := by
    obtain ⟨l, e⟩ := List.getElem?_eq_some_iff.mp hd
    rw [List.drop_eq_getElem_cons l, e]
  rw [e, compL_cons] at h
  cases e1 : compT vs g tt el d ρ with
  | none => rw [e1] at h; cases h
  | some p =>
    rw [e1] at h
    replace h : ((compL vs g tt el (ds.drop (i + 1)) p.2).map fun q => (p.1 ++ q.1, q.2)) = some (zr, ρf) := h
    cases e2 : compL vs g tt el (ds.drop (i + 1)) p.2 with
    | none => rw [e2] at h; cases h
    | some q =>
      rw [e2] at h
      cases h
      exact ⟨p.1, p.2, q.1, rfl, e2, rfl⟩
/-- a fresh object -/
structure DF (X : Cx) (e : Expr) (t : TE) (m : EM) : Prop where
  pe : PE X e t
  q : ∀ (Γ : Gam) (σ : L2.St) (H : Hp) (ρ : Env) (d : D) (ρ' : Env) (Q : VK), Sr Γ X.G H σ ρ → m ρ = some (d, ρ') →
    (∀ a H', H a = none → Sr ⟨a :: Γ.U, Γ.π⟩ X.G H' σ ρ' → Ow X.G H' (ownO σ ρ' ++ a :: Γ.U) d a → Fm (Γ.mu σ ρ) H H' → (∀ b ∈ ownO σ ρ', b ∈ ownO σ ρ) → Tr H H' → Q (.ref a) H') → t σ H Q
theorem DF.de {X : Cx} {e : Expr} {t : TE} {m : EM} (h : DF X e t m) : DE X e t m := by
  refine ⟨h.pe, fun Γ σ H ρ d ρ' Q s hm k => h.q Γ σ H ρ d ρ' Q s hm fun a H' n sr ow fm sub tr => ?_⟩
  have sl := sr.less (U' := Γ.U) (fun b z => List.mem_cons_of_mem _ z) (fun p hp => (s.pin p hp).1)
  refine k _ H' ⟨sl, fm, sub, tr⟩ (ow.rp (fun z => ?_) fun b z => ?_)
  · rcases List.mem_append.mp z with z | z
    · exact sr.out a z List.mem_cons_self
    · exact s.th a z n
  · rcases List.mem_append.mp z with z | z
    · exact List.mem_append_left _ z
    · exact List.mem_append_right _ (List.mem_cons_of_mem _ z)
section
variable {Γ : Gam} {G : Gc} {H H' H1 H2 : Hp} {σ σ' σ1 σ2 : L2.St} {ρ ρ' ρ1 ρ2 : Env} {vs : List Nat}
/-- behind a comprehension, the new list kept away from -/
theorem Sr.rst' {D0 : Addr} (s1 : Sr Γ G H1 σ ρ1) (h : noOwn vs ρ1 = true) (s : Sr ⟨D0 :: Γ.U, Γ.π⟩ G H (L2.wipe σ vs) ρ) (hn : noOwn vs ρ = true) (m : Mo (Γ.w σ ρ1) (ownO (L2.wipe σ vs) ρ ++ D0 :: Γ.U) H1 H) : Sr ⟨D0 :: Γ.U, Γ.π⟩ G H σ (rstE ρ1 ρ vs) ∧ ownO σ (rstE ρ1 ρ vs) = ownO (L2.wipe σ vs) ρ := by
  have hl : ρ1.length = ρ.length := by rw [← s1.len, ← s.len, wipe_length]
  refine s.ag (wipe_length _ _).symm (rstE_length _ _ _) (fun i => ?_) (fun i t ht => ?_) fun p hp => ?_
  · by_cases mm : i ∈ vs
    · refine .inr ⟨nonO_of (noOwn_at hn mm).1, ?_⟩
      rw [rstE_in hl mm]
      exact nonO_of (noOwn_at h mm).1
    · exact .inl ⟨wipe_out mm, (rstE_out mm).symm⟩
  · by_cases mm : i ∈ vs
    · rw [rstE_in hl mm] at ht
      obtain ⟨x, e, q⟩ := s1.sl i t ht
      refine .inr ⟨x, e, ?_⟩
      cases t with
      | e => trivial
      | v d => obtain ⟨v, e, r⟩ := q; exact ⟨v, e, Rp.mo m _ _ r⟩
      | o d => exact absurd ht ((noOwn_at h mm).1 d)
      | p d => exact absurd ht ((noOwn_at h mm).2 d)
    · rw [rstE_out mm] at ht
      exact .inl ⟨ht, wipe_out mm⟩
  · have mm : p.1 ∉ vs := fun z => by
      obtain ⟨_, d, e⟩ := s.pin p hp
      exact (noOwn_at hn z).2 d e
    exact rstE_out mm
end
section
variable {X : Cx} {elt tg iter : Expr} {ifs : List Expr} {scope : Scope} {own : List (Str × Nat)} {pos : Pos} {wi : TI} {g : TG} {tt : TT} {te : TE} {is : List Nat} {it : IM} {gm : GM} {tm : TM} {el : EM}
theorem comp_qF (hi : DI X tg iter wi it) (hsub : ∀ i ∈ is, i ∈ own.map (·.2))
    (hg : ∀ (Γ : Gam) (σ : L2.St) (H : Hp) (ρ : Env) (d : D) (v : V) (ρ' : Env) (Q : L2.St → Hp → Prop), Sr Γ X.G H σ ρ → Rp X.G H (Γ.w σ ρ) d v → gm d ρ = some ρ' → (∀ σ', So Γ X.G σ ρ H σ' ρ' H → Al is σ σ' → Q σ' H) → g v σ H Q)
    (ht : ∀ (Γ : Gam) (σ : L2.St) (H : Hp) (ρ : Env) (d : Bool) (ρ' : Env) (Q : Bool → Hp → Prop), Sr Γ X.G H σ ρ → tm ρ = some (d, ρ') → (∀ H', Po Γ X.G σ ρ H ρ' H' → Q d H') → tt σ H Q)
    (he : ∀ (Γ : Gam) (σ : L2.St) (H : Hp) (ρ : Env) (d : D) (ρ' : Env) (Q : VK), Sr Γ X.G H σ ρ → el ρ = some (d, ρ') → (∀ v H', Po Γ X.G σ ρ H ρ' H' → Rp X.G H' (Γ.w σ ρ') d v → Q v H') → te σ H Q)
    (Γ : Gam) (σ : L2.St) (H : Hp) (ρ : Env) (d : D) (ρ' : Env) (Q : VK) (s : Sr Γ X.G H σ ρ) (h : eComp (own.map (·.2)) it gm tm el ρ = some (d, ρ'))
    (k : ∀ a H', H a = none → Sr ⟨a :: Γ.U, Γ.π⟩ X.G H' σ ρ' → Ow X.G H' (ownO σ ρ' ++ a :: Γ.U) d a → Fm (Γ.mu σ ρ) H H' → (∀ b ∈ ownO σ ρ', b ∈ ownO σ ρ) → Tr H H' → Q (.ref a) H') : tLc wi g tt te (own.map (·.2)) σ H Q := by
  generalize hvs : own.map (·.2) = vs at *
  unfold eComp at h
  cases e1 : it ρ with
  | none => rw [e1] at h; cases h
  | some r =>
  rw [e1] at h
  obtain ⟨ds, ρ1⟩ := r
  replace h : ((wipeC vs ρ1).bind fun ρw => (compL vs gm tm el ds ρw).map fun q => (D.lst q.1, rstE ρ1 q.2 vs)) = some (d, ρ') := h
  cases e2 : wipeC vs ρ1 with
  | none => rw [e2] at h; cases h
  | some ρw =>
  rw [e2] at h
  replace h : ((compL vs gm tm el ds ρw).map fun q => (D.lst q.1, rstE ρ1 q.2 vs)) = some (d, ρ') := h
  cases e3 : compL vs gm tm el ds ρw with
  | none => rw [e3] at h; cases h
  | some r3 =>
  rw [e3] at h
  obtain ⟨zall, ρf⟩ := r3
  cases h
  obtain ⟨no1, rfl⟩ := wipeC_some e2
  refine hi.q Γ σ H ρ ds ρ1 _ s e1 fun J H1 a1 wd D0 hD => ?_
  have s1 := a1.sr
  obtain ⟨sw, ow⟩ := s1.wipe no1
  have sD := sw.more (o := .lst []) hD
  generalize hH2 : upd H1 D0 (.lst []) = H2 at sD ⊢
  have f12 : Fm [] H1 H2 := by rw [← hH2]; exact fm_new hD
  have nDown : ∀ ρi : Env, (∀ a ∈ ownO (wipe σ vs) ρi, a ∈ ownO (wipe σ vs) (wipeE ρ1 vs)) → D0 ∉ ownO (wipe σ vs) ρi := fun ρi sub z => sw.own_th D0 (sub D0 z) hD
  have nDpi : D0 ∉ Γ.π.map (·.2) := fun z => by
    obtain ⟨p, hp, e⟩ := List.mem_map.mp z
    exact sw.th p.2 (sw.pin p hp).1 (e ▸ hD)
  -- the frame from the loop's begin
  have fr : ∀ {H3 : Hp}, Fm (D0 :: Γ.mu (wipe σ vs) (wipeE ρ1 vs)) H2 H3 → Fm (Γ.w σ ρ1) H1 H3 := fun {H3} f => f12.seq f fun b x nb nt e => by
    refine f b x (fun z => ?_) (f12 b x (by simp) e nt) nt
    rcases List.mem_cons.mp z with z | z
    · rw [z, hD] at e; cases e
    · exact nb (by rw [show Γ.w σ ρ1 = Γ.w (wipe σ vs) (wipeE ρ1 vs) by show _ ++ _ = _ ++ _; rw [ow]]; exact sw.mu_w b z)
  let Pv : Nat → Hp → Prop := fun i H3 => ∃ (zs zr : List D) (ρi : Env) (acc : List V), compL vs gm tm el (ds.drop i) ρi = some (zr, ρf) ∧ zs ++ zr = zall ∧ H3 D0 = some (.lst acc) ∧ noOwn vs ρi = true ∧
    RpAll X.G H3 (ownO (wipe σ vs) ρi ++ D0 :: Γ.U) zs acc ∧ zs.length ≤ i ∧ Sr ⟨D0 :: Γ.U, Γ.π⟩ X.G H3 (wipe σ vs) ρi ∧ Fm (D0 :: Γ.mu (wipe σ vs) (wipeE ρ1 vs)) H2 H3 ∧ (∀ a ∈ ownO (wipe σ vs) ρi, a ∈ ownO (wipe σ vs) (wipeE ρ1 vs)) ∧ Tr H2 H3
  have ww : Walk J ds.length (fun H3 => Fm (Γ.w σ ρ1) H1 H3) (fun i H3 x H4 => J.yld i H3 x H4 ∧ Fm (Γ.w σ ρ1) H1 H3) := ⟨fun i H3 hi f => wd.go H3 i f hi, fun H3 f => wd.stop H3 f, fun i H3 x H4 hi f y => ⟨y, f⟩⟩
  have start : Pv 0 (upd H1 D0 (.lst [])) := by
    rw [hH2]
    refine ⟨[], zall, wipeE ρ1 vs, [], e3, rfl, by rw [← hH2]; exact upd_same, noOwn_wipe, rfl, Nat.zero_le _, sD, Fm.refl _ _, fun _ z => z, Tr.refl _⟩
  have res := lc_it ww (g := g) (tt := tt) (te := te) (vs := vs) (σ := σ) (H1 := H1) (D := D0) (Qd := fun H' => Q (.ref D0) H') Pv start
    (fun i H3 _ p => by obtain ⟨_, _, _, _, _, _, _, _, _, _, _, f, _, _⟩ := p; exact fr f) (fun i x H3 H4 hi p y => ?turn) (fun H3 p => ?done)
  · rw [← hH2]
    exact res
  case done =>
    obtain ⟨zs, zr, ρi, acc, c1, c2, c3, no, c4, c5, c6, c7, c8, c9⟩ := p
    rw [List.drop_length] at c1
    cases c1
    rw [List.append_nil] at c2
    subst c2
    have m0 : Mo (Γ.w σ ρ1) (ownO (wipe σ vs) ρf ++ D0 :: Γ.U) H1 H3 := ⟨fr c7, fun b z => by
      rcases List.mem_append.mp z with z | z
      · exact .inl (List.mem_append_left _ (ow ▸ c8 b z))
      · rcases List.mem_cons.mp z with z | z
        · exact .inr (z ▸ hD)
        · exact .inl (List.mem_append_right _ z)⟩
    obtain ⟨sf, of⟩ := s1.rst' no1 c6 no m0
    refine k D0 H3 (a1.tr.back hD) sf ?_ (a1.fm.trans ?_) (fun a z => ?_) (a1.tr.trans ((Tr.of f12).trans c9))
    · rw [of]
      exact ⟨acc, c3, Nat.le_trans c5 wd.le, c4⟩
    · refine Fm.mono (W := Γ.mu σ ρ1) (f12.seq c7 fun b x nb nt e => ?_) (mu_sub a1.sub)
      refine c7 b x (fun z => ?_) (f12 b x (by simp) e nt) nt
      rcases List.mem_cons.mp z with z | z
      · rw [z, hD] at e; cases e
      · exact nb (by
          rcases List.mem_append.mp z with z | z
          · exact List.mem_append_left _ (ow ▸ z)
          · exact List.mem_append_right _ z)
    · rw [of] at z
      exact a1.sub a (ow ▸ c8 a z)
  case turn =>
    obtain ⟨zs, zr, ρi, acc, c1, c2, c3, no, c4, c5, c6, c7, c8, c9⟩ := p
    obtain ⟨y, fy⟩ := y
    obtain ⟨f34, yr⟩ := wd.yld H3 i x H4 fy y hi
    have hdi : ds[i]? = some ds[i] := List.getElem?_eq_getElem hi
    obtain ⟨z1, ρn, zr', ct, cl, ez⟩ := compL_split hdi c1
    have s4 := c6.keep f34
    have rx : Rp X.G H4 (ownO (wipe σ vs) ρi ++ D0 :: Γ.U) ds[i] x := yr _ _ hdi fun b hb => by
      refine ⟨?_, c6.w_th b hb⟩
      rcases List.mem_append.mp hb with z | z
      · exact .inl (List.mem_append_left _ (ow ▸ c8 b z))
      · rcases List.mem_cons.mp z with z | z
        · exact .inr (z ▸ hD)
        · exact .inl (List.mem_append_right _ z)
    unfold compT at ct
    cases g1 : gm ds[i] ρi with
    | none => rw [g1] at ct; cases ct
    | some ρ2 =>
    rw [g1] at ct
    replace ct : ((tm ρ2).bind fun p => if p.1 = true then (el p.2).bind fun q => (wipeC vs q.2).map fun ρ' => ([q.1], ρ') else (wipeC vs p.2).map fun ρ' => ([], ρ')) = some (z1, ρn) := ct
    refine hg ⟨D0 :: Γ.U, Γ.π⟩ (wipe σ vs) H4 ρi _ x ρ2 _ s4 rx g1 fun σ2 b2 al => ?_
    have ewp : wipe σ2 vs = wipe σ vs := (al.wipe hsub).trans (wipe_wipe σ vs)
    refine ⟨ewp, ?_⟩
    cases t1 : tm ρ2 with
    | none => rw [t1] at ct; cases ct
    | some p =>
    rw [t1] at ct
    replace ct : (if p.1 = true then (el p.2).bind fun q => (wipeC vs q.2).map fun ρ' => ([q.1], ρ') else (wipeC vs p.2).map fun ρ' => ([], ρ')) = some (z1, ρn) := ct
    refine ht ⟨D0 :: Γ.U, Γ.π⟩ σ2 H4 ρ2 p.1 p.2 _ b2.sr t1 fun H5 b3 => ?_
    -- what the turn leaves
    have fin : ∀ {ρe : Env} {H6 : Hp}, So ⟨D0 :: Γ.U, Γ.π⟩ X.G (wipe σ vs) ρi H4 σ2 ρe H6 → (∀ a ∈ ownO σ2 ρe, a ∈ ownO σ2 ρ2) → noOwn vs ρe = true → H6 D0 = some (.lst acc) ∧ Mo (ownO (wipe σ vs) ρi ++ D0 :: Γ.U) (ownO σ2 ρe ++ D0 :: Γ.U) H3 H6 ∧
        Sr ⟨D0 :: Γ.U, Γ.π⟩ X.G H6 (wipe σ vs) (wipeE ρe vs) ∧ Fm (D0 :: Γ.mu (wipe σ vs) (wipeE ρ1 vs)) H2 H6 ∧ (ownO (wipe σ vs) (wipeE ρe vs) = ownO σ2 ρe) ∧ (∀ a ∈ ownO σ2 ρe, a ∈ ownO (wipe σ vs) ρi) ∧ Tr H2 H6 := fun {ρe H6} b sub no' => by
      obtain ⟨sx, ox⟩ := b.sr.wipe no'
      rw [ewp] at sx ox
      have sub2 : ∀ a ∈ ownO σ2 ρe, a ∈ ownO (wipe σ vs) ρi := fun a z => by
        rcases b2.nw a (sub a z) with q | q
        · exact q
        · -- a place that the target made would be new; the target makes none
          exact absurd q (b2.sr.own_th a (sub a z))
      refine ⟨b.fm D0 _ (fun z => ?_) (f34 D0 _ (by simp) c3 rfl) rfl, ⟨f34.seq b.fm fun c x nc nt e => b.fm c x (fun z => nc (s4.mu_w c z)) (f34 c x (by simp) e nt) nt, fun c z => .inl ?_⟩, sx, (c7.trans (f34.mono fun _ z => absurd z (by simp))).seq b.fm fun c x nc nt e => ?_, ox, sub2, (c9.trans (Tr.of f34)).trans b.tr⟩
      · rcases List.mem_append.mp z with z | z
        · exact (nDown ρi c8 z).elim
        · exact (nDpi z).elim
      · rcases List.mem_append.mp z with z | z
        · exact List.mem_append_left _ (sub2 c z)
        · exact List.mem_append_right _ z
      · refine b.fm c x (fun z => nc ?_) (f34 c x (by simp) (c7 c x nc e nt) nt) nt
        rcases List.mem_append.mp z with z | z
        · exact List.mem_cons_of_mem _ (List.mem_append_left _ (c8 c z))
        · exact List.mem_cons_of_mem _ (List.mem_append_right _ z)
    split at ct
    · rename_i pt
      rw [if_pos pt]
      cases l1 : el p.2 with
      | none => rw [l1] at ct; cases ct
      | some q =>
      rw [l1] at ct
      replace ct : ((wipeC vs q.2).map fun ρ' => ([q.1], ρ')) = some (z1, ρn) := ct
      cases w1 : wipeC vs q.2 with
      | none => rw [w1] at ct; cases ct
      | some ρ3 =>
      rw [w1] at ct
      cases ct
      obtain ⟨no3, rfl⟩ := wipeC_some w1
      refine he ⟨D0 :: Γ.U, Γ.π⟩ σ2 H5 p.2 q.1 q.2 _ b3.sr l1 fun v H6 b4 rv => ?_
      obtain ⟨k1, k2, k3, k4, k5, k6, k7⟩ := fin (b2.trans (b3.so.trans b4.so)) (fun a z => b3.sub a (b4.sub a z)) no3
      have s7 := k3.wrU (o := .lst (acc ++ [v])) (a := D0) List.mem_cons_self nDpi k1
      have rall := RpAll.mo k2 _ _ c4
      have al2 : acc.length = zs.length := c4.length
      refine ⟨acc, k1, by rw [al2]; exact Nat.lt_of_lt_of_le (Nat.lt_of_le_of_lt c5 hi) wd.le, ?_⟩
      have mD : Mo (ownO σ2 q.2 ++ D0 :: Γ.U) (ownO (wipe σ vs) (wipeE q.2 vs) ++ D0 :: Γ.U) H6 (upd H6 D0 (.lst (acc ++ [v]))) := ⟨(wr_fm k1).mono fun c z => by rw [List.mem_singleton.mp z]; exact List.mem_append_right _ List.mem_cons_self, fun c z => .inl (by rw [k5] at z; exact z)⟩
      refine ⟨zs ++ [q.1], zr', wipeE q.2 vs, acc ++ [v], cl, by rw [List.append_assoc, ← ez, c2], upd_same, noOwn_wipe, ?_, by rw [List.length_append]; simp; omega, s7, k4.seq (wr_fm k1) fun c x nc nt e => ?_, fun a z => ?_, k7.trans tr_upd⟩
      · exact RpAll.app (RpAll.mo mD _ _ rall) ⟨v, [], rfl, Rp.mo mD _ _ rv, rfl⟩
      · have k4' := k4 c x nc e nt
        rw [upd_ne (fun z : c = D0 => by subst z; rw [k1] at k4'; cases k4'; exact nomatch nc List.mem_cons_self)]
        exact k4'
      · rw [k5] at z
        exact c8 a (k6 a z)
    · rename_i pt
      rw [if_neg pt]
      cases w1 : wipeC vs p.2 with
      | none => rw [w1] at ct; cases ct
      | some ρ3 =>
      rw [w1] at ct
      cases ct
      obtain ⟨no3, rfl⟩ := wipeC_some w1
      obtain ⟨k1, k2, k3, k4, k5, k6, k7⟩ := fin (b2.trans b3.so) (fun a z => b3.sub a z) no3
      refine ⟨zs, zr', wipeE p.2 vs, acc, cl, by rw [← c2, ez]; rfl, k1, noOwn_wipe, ?_, Nat.le_succ_of_le c5, k3, k4, fun a z => ?_, k7⟩
      · rw [k5]
        exact RpAll.mo k2 _ _ c4
      · rw [k5] at z
        exact c8 a (k6 a z)
theorem df_comp (hc : X.calm = true) (hN : X.N.Nodup) (hi : DI X tg iter wi it) (ok : BlkOk X.N X.env.scope scope own)
    (hg : ∀ (s : Shared) (H : Hp) (C : Addr) (cl : List (Str × Addr)) (fp : List Addr), DG (X.blk s H scope (compEnvC scope cl C X.env) fp) tg g is gm)
    (ht : ∀ (s : Shared) (H : Hp) (C : Addr) (cl : List (Str × Addr)) (fp : List Addr), DTs (X.blk s H scope (compEnvC scope cl C X.env) fp) ifs tt tm)
    (he : ∀ (s : Shared) (H : Hp) (C : Addr) (cl : List (Str × Addr)) (fp : List Addr), DE (X.blk s H scope (compEnvC scope cl C X.env) fp) elt te el)
    (hsub : ∀ i ∈ is, i ∈ own.map (·.2) := by decide) (hs : ∀ x, foldedSetIterable iter X.env x = pure x := by intro _; rfl) :
    DF X (.ListComp elt [⟨tg, iter, ifs, 0⟩] scope pos) (tLc wi g tt te (own.map (·.2))) (eComp (own.map (·.2)) it gm tm el) :=
  ⟨pe_lc hc hN hi.pe ok (fun s H C cl fp => (hg s H C cl fp).pe) (fun s H C cl fp => (ht s H C cl fp).pe) (fun s H C cl fp => (he s H C cl fp).pe) hs,
    comp_qF hi hsub (hg X.s_0 (fun _ => none) 0 [] []).q (ht X.s_0 (fun _ => none) 0 [] []).q (he X.s_0 (fun _ => none) 0 [] []).q⟩
theorem ds_setComp (i : Nat) {y : Str} {py spos : Pos} (hc : X.calm = true) (hN : X.N.Nodup) (hi : DI X tg iter wi it) (ok : BlkOk X.N X.env.scope scope own)
    (hg : ∀ (s : Shared) (H : Hp) (C : Addr) (cl : List (Str × Addr)) (fp : List Addr), DG (X.blk s H scope (compEnvC scope cl C X.env) fp) tg g is gm)
    (ht : ∀ (s : Shared) (H : Hp) (C : Addr) (cl : List (Str × Addr)) (fp : List Addr), DTs (X.blk s H scope (compEnvC scope cl C X.env) fp) ifs tt tm)
    (he : ∀ (s : Shared) (H : Hp) (C : Addr) (cl : List (Str × Addr)) (fp : List Addr), DE (X.blk s H scope (compEnvC scope cl C X.env) fp) elt te el)
    (hy : X.N[i]? = some y := by rfl) (hyl : X.env.scope.names.lookup y = some .local := by rfl)
    (hsw : swapsWith (.ListComp elt [⟨tg, iter, ifs, 0⟩] scope pos) (some (.Name y py)) spos.line X.env = pure true := by exact sw_true rfl rfl rfl (by decide +kernel))
    (hsub : ∀ i ∈ is, i ∈ own.map (·.2) := by decide) (hs : ∀ x, foldedSetIterable iter X.env x = pure x := by intro _; rfl) :
    DS X (.Assign [.Name y py] (.ListComp elt [⟨tg, iter, ifs, 0⟩] scope pos) spos) (tAsg (tLc wi g tt te (own.map (·.2))) (gName i)) (sSet i (eComp (own.map (·.2)) it gm tm el)) := by
  refine ⟨ps_setLc hc hN hy hyl hsw hi.pe ok (fun s H C cl fp => (hg s H C cl fp).pe) (fun s H C cl fp => (ht s H C cl fp).pe) (fun s H C cl fp => (he s H C cl fp).pe) hs, fun Γ σ H ρ o E s h f => ?_⟩
  have hd := (df_comp (pos := pos) hc hN hi ok hg ht he hsub hs).de
  unfold sSet at h
  cases e1 : eComp (own.map (·.2)) it gm tm el ρ with
  | none => rw [e1] at h; cases h
  | some r =>
    rw [e1] at h
    replace h : (putV i r.1 r.2).bind (fun ρ' => some (.nx ρ')) = some o := h
    cases e2 : putV i r.1 r.2 with
    | none => rw [e2] at h; cases h
    | some ρ2 =>
      rw [e2] at h
      cases h
      refine hd.q Γ σ H ρ r.1 r.2 _ s e1 fun v H' a rr => ?_
      exact f _ H' (a.so.trans (a.sr.put e2 rr))
end
end DL
namespace DL
open PySem L2
variable [TabC]
omit [TabC] in
abbrev FnSem := List Sl → Option (D × List Sl)
omit [TabC] in
def argS (ρ : Env) : List Arg → Option (List Sl)
  | [] => some []
  | .val d :: r => (argS ρ r).map (.v d :: ·)
  | .slot i :: r => match ρ[i]? with
    | some (.o d) => (argS ρ r).map (.p d :: ·)
    | some (.p d) => (argS ρ r).map (.p d :: ·)
    | _ => none
omit [TabC] in
def slotsOf : List Arg → List Nat
  | [] => []
  | .val _ :: r => slotsOf r
  | .slot i :: r => i :: slotsOf r
omit [TabC] in
def setO (i : Nat) (d : D) (ρ : Env) : Env := match ρ[i]? with
  | some (.o _) => ρ.set i (.o d)
  | some (.p _) => ρ.set i (.p d)
  | _ => ρ
omit [TabC] in
def wbk : List Arg → List Sl → Env → Option Env
  | [], [], ρ => some ρ
  | .val _ :: r, _ :: ss, ρ => wbk r ss ρ
  | .slot i :: r, .p d :: ss, ρ => wbk r ss (setO i d ρ)
  | _, _, _ => none
omit [TabC] in
def callS (fn : FnSem) (as : List Arg) (ρ : Env) : Option (D × Env) := if decide (slotsOf as).Nodup then (argS ρ as).bind fun ss => (fn ss).bind fun q => (wbk as q.2 ρ).map fun ρ2 => (q.1, ρ2) else none
omit [TabC] in
def eCall (fn : FnSem) (a : AM) : EM := fun ρ => (a ρ).bind fun p => callS fn p.1 p.2
omit [TabC] in
def AsR (G : Gc) (H : Hp) (W : List Addr) : List Sl → List V → Prop
  | [], vs => vs = []
  | .v d :: r, vs => ∃ x xs, vs = x :: xs ∧ Rp G H W d x ∧ AsR G H W r xs
  | .p d :: r, vs => ∃ a xs, vs = .ref a :: xs ∧ a ∈ W ∧ Ow G H W d a ∧ AsR G H W r xs
  | _ :: _, _ => False
omit [TabC] in
def pad : List Sl → List V → List Addr
  | .p _ :: r, .ref a :: xs => a :: pad r xs
  | _ :: r, _ :: xs => pad r xs
  | _, _ => []
/-- what stands, and the tables -/
def Th (W : List Addr) (H : Hp) : Prop := (∀ a ∈ W, H a ≠ none) ∧ TabsG H
def spF (G : Gc) (fn : FnSem) : Sp := fun vs H Q _ => ∃ (W : List Addr) (ss : List Sl) (d : D) (ss' : List Sl), AsR G H W ss vs ∧ (pad ss vs).Nodup ∧ Th W H ∧ fn ss = some (d, ss') ∧
  ∀ v H', Fm (pad ss vs) H H' → Tr H H' → AsR G H' W ss' vs → Rp G H' W d v → Q v H'
omit [TabC] in
theorem AsR.length {G : Gc} {H : Hp} {W : List Addr} : ∀ {ss : List Sl} {vs : List V}, AsR G H W ss vs → vs.length = ss.length
  | [], _, h => by rw [show _ = [] from h]; rfl
  | .v d :: r, _, ⟨x, xs, e, _, q⟩ => by rw [e, List.length_cons, List.length_cons, AsR.length q]
  | .p d :: r, _, ⟨a, xs, e, _, _, q⟩ => by rw [e, List.length_cons, List.length_cons, AsR.length q]
  | .e :: _, _, h => h.elim
  | .o _ :: _, _, h => h.elim
omit [TabC] in
/-- the def of so many parameters and further names, by its body -/
def fin (ρ : Env) : Nat → List Sl → List Sl
  | _, [] => []
  | i, .p _ :: r => ρ.getD i .e :: fin ρ (i + 1) r
  | i, s :: r => s :: fin ρ (i + 1) r
omit [TabC] in
def mkFn (n k : Nat) (m : SM) : FnSem := fun ss => if ss.length = n then (m (ss ++ List.replicate k .e)).bind fun o => match o with
  | .rt d ρ => some (d, fin ρ 0 ss)
  | .nx ρ => some (.non, fin ρ 0 ss)
  | .rf d ρ => some (d, fin ρ 0 ss)
  | _ => none else none
omit [TabC] in
/-- one that hands back a fresh object -/
def mkFnF (n k : Nat) (m : SM) : FnSem := fun ss => if ss.length = n then (m (ss ++ List.replicate k .e)).bind fun o => match o with
  | .rf d ρ => some (d, fin ρ 0 ss)
  | _ => none else none
def spFF (G : Gc) (fn : FnSem) : Sp := fun vs H Q _ => ∃ (W : List Addr) (ss : List Sl) (d : D) (ss' : List Sl), AsR G H W ss vs ∧ (pad ss vs).Nodup ∧ Th W H ∧ fn ss = some (d, ss') ∧
  ∀ a H', H a = none → Fm (pad ss vs) H H' → Tr H H' → AsR G H' W ss' vs → Ow G H' (a :: W) d a → Q (.ref a) H'
omit [TabC] in
def pinsOf : Nat → List Sl → List V → List (Nat × Addr)
  | i, .p _ :: r, .ref a :: xs => (i, a) :: pinsOf (i + 1) r xs
  | i, _ :: r, _ :: xs => pinsOf (i + 1) r xs
  | _, _, _ => []
omit [TabC] in
theorem pins_pad : ∀ {ss : List Sl} {vs : List V} {i : Nat}, (pinsOf i ss vs).map (·.2) = pad ss vs
  | [], _, _ => by simp [pinsOf, pad]
  | s :: r, [], _ => by cases s <;> simp [pinsOf, pad]
  | s :: r, v :: xs, i => by
    have ih := pins_pad (ss := r) (vs := xs) (i := i + 1)
    cases s with
    | p d =>
      cases v with
      | ref a => simp [pinsOf, pad, ih]
      | _ => simpa [pinsOf, pad] using ih
    | _ => cases v <;> simpa [pinsOf, pad] using ih
omit [TabC] in
theorem pins_ge : ∀ {ss : List Sl} {vs : List V} {i : Nat} {p : Nat × Addr}, p ∈ pinsOf i ss vs → i ≤ p.1
  | [], _, _, _, h => by simp [pinsOf] at h
  | s :: r, [], _, _, h => by cases s <;> simp [pinsOf] at h
  | s :: r, v :: xs, i, p, h => by
    have ih : p ∈ pinsOf (i + 1) r xs → i ≤ p.1 := fun h => Nat.le_of_succ_le (pins_ge h)
    cases s with
    | p d =>
      cases v with
      | ref a =>
        simp only [pinsOf, List.mem_cons] at h
        rcases h with h | h
        · rw [h]; exact Nat.le_refl _
        · exact ih h
      | _ => exact ih (by simpa [pinsOf] using h)
    | _ => exact ih (by cases v <;> simpa [pinsOf] using h)
omit [TabC] in
theorem pins_uniq : ∀ {ss : List Sl} {vs : List V} {i : Nat} {j : Nat} {a b : Addr}, (j, a) ∈ pinsOf i ss vs → (j, b) ∈ pinsOf i ss vs → a = b
  | [], _, _, _, _, _, h, _ => by simp [pinsOf] at h
  | s :: r, [], _, _, _, _, h, _ => by cases s <;> simp [pinsOf] at h
  | s :: r, v :: xs, i, j, a, b, h, k => by
    have ih : (j, a) ∈ pinsOf (i + 1) r xs → (j, b) ∈ pinsOf (i + 1) r xs → a = b := fun h k => pins_uniq h k
    cases s with
    | p d =>
      cases v with
      | ref c =>
        simp only [pinsOf, List.mem_cons] at h k
        rcases h with h | h <;> rcases k with k | k
        · injection h with _ h; injection k with _ k; rw [h, k]
        · injection h with h _
          have := pins_ge k
          omega
        · injection k with k _
          have := pins_ge h
          omega
        · exact ih h k
      | _ => exact ih (by simpa [pinsOf] using h) (by simpa [pinsOf] using k)
    | _ => exact ih (by cases v <;> simpa [pinsOf] using h) (by cases v <;> simpa [pinsOf] using k)
omit [TabC] in
/-- what stands at the parameters' places -/
theorem pins_at {G : Gc} {H : Hp} {W : List Addr} : ∀ {ss : List Sl} {vs : List V} {i : Nat}, AsR G H W ss vs → ∀ (j : Nat) (s : Sl), ss[j]? = some s → ∃ v, vs[j]? = some v ∧ SlR G H W (pinsOf i ss vs) (i + j) (some v) s ∧ (∀ d, s ≠ .o d) ∧ s ≠ .e
  | [], _, _, _, j, _, h => by simp at h
  | .v d :: r, _, i, ⟨x, xs, e, rx, q⟩, 0, s, h => by
    cases h
    exact ⟨x, by rw [e]; rfl, ⟨x, rfl, rx⟩, (fun d z => nomatch z), fun z => nomatch z⟩
  | .v d :: r, _, i, ⟨x, xs, e, rx, q⟩, j + 1, s, h => by
    subst e
    obtain ⟨v, h1, h2, h3⟩ := pins_at (i := i + 1) q j s h
    refine ⟨v, h1, ?_, h3⟩
    rw [show i + (j + 1) = i + 1 + j by omega]
    have e2 : pinsOf i (.v d :: r) (x :: xs) = pinsOf (i + 1) r xs := by cases x <;> simp [pinsOf]
    rw [e2]
    exact h2
  | .p d :: r, _, i, ⟨a, xs, e, ha, ow, q⟩, 0, s, h => by
    cases h
    subst e
    exact ⟨.ref a, rfl, ⟨a, rfl, by simp [pinsOf], ow⟩, (fun d z => nomatch z), fun z => nomatch z⟩
  | .p d :: r, _, i, ⟨a, xs, e, ha, ow, q⟩, j + 1, s, h => by
    subst e
    obtain ⟨v, h1, h2, h3⟩ := pins_at (i := i + 1) q j s h
    refine ⟨v, h1, ?_, h3⟩
    rw [show i + (j + 1) = i + 1 + j by omega]
    cases s with
    | p d' =>
      obtain ⟨b, e1, e2, e3⟩ := h2
      exact ⟨b, e1, by simp [pinsOf, e2], e3⟩
    | e => trivial
    | v d' => exact h2
    | o d' => exact h2
  | .e :: _, _, _, h, _, _, _ => h.elim
  | .o _ :: _, _, _, h, _, _, _ => h.elim
omit [TabC] in
theorem pins_w {G : Gc} {H : Hp} {W : List Addr} : ∀ {ss : List Sl} {vs : List V} {i : Nat}, AsR G H W ss vs → ∀ p ∈ pinsOf i ss vs, p.2 ∈ W ∧ ∃ d, i ≤ p.1 ∧ ss[p.1 - i]? = some (.p d)
  | [], _, _, _, p, h => by simp [pinsOf] at h
  | .v d :: r, _, i, ⟨x, xs, e, rx, q⟩, p, h => by
    subst e
    have h' : p ∈ pinsOf (i + 1) r xs := by cases x <;> simpa [pinsOf] using h
    obtain ⟨h1, d', h2, h3⟩ := pins_w (i := i + 1) q p h'
    refine ⟨h1, d', by omega, ?_⟩
    rw [show p.1 - i = (p.1 - (i + 1)) + 1 by omega]
    exact h3
  | .p d :: r, _, i, ⟨a, xs, e, ha, ow, q⟩, p, h => by
    subst e
    simp only [pinsOf, List.mem_cons] at h
    rcases h with h | h
    · rw [h]
      exact ⟨ha, d, Nat.le_refl _, by simp⟩
    · obtain ⟨h1, d', h2, h3⟩ := pins_w (i := i + 1) q p h
      refine ⟨h1, d', by omega, ?_⟩
      rw [show p.1 - i = (p.1 - (i + 1)) + 1 by omega]
      exact h3
  | .e :: _, _, _, h, _, _ => h.elim
  | .o _ :: _, _, _, h, _, _ => h.elim
omit [TabC] in
theorem ownO_none : ∀ {σ : L2.St} {ρ : Env}, (∀ (i : Nat) d, ρ[i]? ≠ some (.o d)) → ownO σ ρ = [] := fun {σ ρ} h => by
  cases e : ownO σ ρ with
  | nil => rfl
  | cons a l =>
    obtain ⟨i, d, _, h2⟩ := mem_ownO.mp (show a ∈ ownO σ ρ by rw [e]; exact List.mem_cons_self)
    exact absurd h2 (h i d)
omit [TabC] in
theorem entry_at {ss : List Sl} {k : Nat} {i : Nat} {s : Sl} (h : (ss ++ List.replicate k Sl.e)[i]? = some s) : ss[i]? = some s ∨ s = .e := by
  by_cases l : i < ss.length
  · rw [List.getElem?_append_left l] at h
    exact .inl h
  · rw [List.getElem?_append_right (Nat.not_lt.mp l), List.getElem?_replicate] at h
    split at h
    · cases h; exact .inr rfl
    · cases h
/-- the entry -/
theorem entry_sr {G : Gc} {H : Hp} {W : List Addr} {ss : List Sl} {vs : List V} {N : List Str} (a : AsR G H W ss vs) (nd : (pad ss vs).Nodup) (th : Th W H) (hl : ss.length ≤ N.length) :
    Sr ⟨W, pinsOf 0 ss vs⟩ G H (L2.start N vs) (ss ++ List.replicate (N.length - ss.length) .e) ∧ ownO (L2.start N vs) (ss ++ List.replicate (N.length - ss.length) .e) = [] := by
  have al := a.length
  have no : ∀ (i : Nat) d, (ss ++ List.replicate (N.length - ss.length) Sl.e)[i]? ≠ some (.o d) := fun i d h => by
    rcases entry_at h with h | h
    · obtain ⟨v, _, _, h3, _⟩ := pins_at (i := 0) a i _ h
      exact h3 d rfl
    · cases h
  have eo := ownO_none (σ := L2.start N vs) no
  refine ⟨⟨?_, by rw [eo]; exact .nil, by rw [eo]; intro _ z; exact absurd z (by simp), fun i s h => ?_, fun p hp => ?_, by rw [pins_pad]; exact nd, th.1, th.2⟩, eo⟩
  · unfold L2.start
    simp only [List.length_append, List.length_map, List.length_replicate]
    omega
  · show ∃ x, _ ∧ SlR G H (ownO _ _ ++ W) _ i x s
    rw [eo]
    have il : i < N.length := by
      have := (List.getElem?_eq_some_iff.mp h).1
      simp only [List.length_append, List.length_replicate] at this
      omega
    rcases entry_at h with h | h
    · obtain ⟨v, h1, h2, _⟩ := pins_at (i := 0) a i s h
      refine ⟨some v, ?_, by rwa [Nat.zero_add] at h2⟩
      unfold L2.start
      have : i < vs.length := (List.getElem?_eq_some_iff.mp h1).1
      rw [List.getElem?_append_left (by simpa using this), List.getElem?_map, h1]
      rfl
    · subst h
      unfold L2.start
      have hz : i < (vs.map some ++ List.replicate (N.length - vs.length) none).length := by
        simp only [List.length_append, List.length_map, List.length_replicate]
        omega
      exact ⟨_, List.getElem?_eq_getElem hz, trivial⟩
  · obtain ⟨h1, d, _, h3⟩ := pins_w a p hp
    refine ⟨h1, d, ?_⟩
    rw [Nat.sub_zero] at h3
    rw [List.getElem?_append_left (List.getElem?_eq_some_iff.mp h3).1]
    exact h3
/-- the end -/
theorem fin_ok {Γ : Gam} {G : Gc} {H H' : Hp} {W : List Addr} {σ' : L2.St} {ρ' : Env} (s : Sr Γ G H' σ' ρ') (hU : Γ.U = W) (m : Mo W W H H') (un : ∀ {j : Nat} {a b : Addr}, (j, a) ∈ Γ.π → (j, b) ∈ Γ.π → a = b) :
    ∀ {ss : List Sl} {vs : List V} {i : Nat}, (∀ p ∈ pinsOf i ss vs, p ∈ Γ.π) → AsR G H W ss vs → AsR G H' W (fin ρ' i ss) vs
  | [], _, _, _, h => h
  | .v d :: r, _, i, hp, ⟨x, xs, e, rx, q⟩ => by
    subst e
    refine ⟨x, xs, rfl, Rp.mo m _ _ rx, fin_ok s hU m un (fun p hp' => hp p ?_) q⟩
    cases x <;> simpa [pinsOf] using hp'
  | .p d :: r, _, i, hp, ⟨a, xs, e, ha, ow, q⟩ => by
    subst e
    have hpi : (i, a) ∈ Γ.π := hp _ (by simp [pinsOf])
    obtain ⟨h1, d', h2⟩ := s.pin _ hpi
    obtain ⟨y, _, b, rfl, hb, ow'⟩ := s.sl i _ h2
    have eb : b = a := un hb hpi
    subst eb
    have e2 : fin ρ' i (.p d :: r) = .p d' :: fin ρ' (i + 1) r := by
      show ρ'.getD i .e :: _ = _
      rw [List.getD_eq_getElem?_getD, h2]
      rfl
    rw [e2]
    refine ⟨b, xs, rfl, ha, ?_, fin_ok s hU m un (fun p hp' => hp p (by simp [pinsOf, hp'])) q⟩
    exact ow'.mo ⟨Fm.refl _ _, fun c z => .inl (List.mem_append_right _ (hU ▸ z))⟩ fun x z _ => z
  | .e :: _, _, _, _, h => h.elim
  | .o _ :: _, _, _, _, h => h.elim
section
variable {P : Program} {w : World} {K : PySem.W.Frag} {mg : Str → Option Value} {base : Heap} {x qual : Str} {params : Arguments} {body : List Stmt} {scope : Scope} {kws : List (Str × V)} {f : Addr} {fd : FuncData}
omit [TabC] in
/-- a def's body, at its own code -/
theorem funD_okC {CX : CXT} {N ps : List Str} {k : Nat} {sp : Sp} (F : FunD K x qual params body scope [] kws f fd) (S : FnScope N ps scope) (len : ∀ vs H Q E, sp vs H Q E → vs.length = ps.length)
    (hbody : ∀ (A : Around) (outer : List PySem.Env) (s : Shared) (H : Hp) (vs : List V) (Q : VK) (E : XK), Room k (A.deeper (PyProof.Rows.envOfC qual scope s.heap.objs.size f fd.code)) → sp vs H Q E →
      ∃ t, PSs (cxOf CX P w K mg base N qual scope f fd.code A outer s H E) body t ∧ t { nx := fun _ H' => Q .non H', rt := Q } (L2.start N vs) H) : FnOk P w K mg base CX (k + 1) f fd ps sp := by
  obtain ⟨oc, od, dV, kV, doc, pm, an, cdv, ct, osl, rfl, lk, hc, _⟩ := F.ex
  exact fn_of lk hc S len fun A outer s H vs Q E hr h => hbody A outer s H vs Q E hr h
theorem fn_okC {N ps : List Str} {k : Nat} {m : SM} (F : FunD K x qual params body scope [] kws f fd) (S : FnScope N ps scope)
    (hb : ∀ (A : Around) (outer : List PySem.Env) (s : Shared) (H : Hp) (E : XK), Room k (A.deeper (PyProof.Rows.envOfC qual scope s.heap.objs.size f fd.code)) → ∃ t, DSs (cxOf CX0 P w K mg base N qual scope f fd.code A outer s H E).nox body t m) :
    FnOk P w K mg base CX0 (k + 1) f fd ps (spF ⟨K, mg⟩ (mkFn ps.length (N.length - ps.length) m)) := by
  refine funD_okC F S (fun vs H Q E h => ?_) fun A outer s H vs Q E hr h => ?_
  · obtain ⟨W, ss, d, ss', a, _, _, e, _⟩ := h
    unfold mkFn at e
    split at e
    · rename_i l; rw [a.length, l]
    · cases e
  · obtain ⟨t, ht⟩ := hb A outer s H E hr
    refine ⟨t, ht.pe.nox, ?_⟩
    obtain ⟨W, ss, d, ss', a, nd, th, e, q⟩ := h
    unfold mkFn at e
    split at e
    · rename_i l
      have hpl : ps.length ≤ N.length := by have := congrArg List.length S.pre; rw [List.length_take] at this; omega
      obtain ⟨sr, eo⟩ := entry_sr (N := N) a nd th (by omega)
      rw [← l] at e
      cases e1 : m (ss ++ List.replicate (N.length - ss.length) .e) with
      | none => rw [e1] at e; cases e
      | some o =>
        rw [e1] at e
        refine ht.q _ _ H _ o _ sr e1 ?_
        have done : ∀ {ρ' : Env} {σ' : L2.St} {H' : Hp} {d' : D} {v : V}, So ⟨W, pinsOf 0 ss vs⟩ ⟨K, mg⟩ (L2.start N vs) (ss ++ List.replicate (N.length - ss.length) .e) H σ' ρ' H' → some (d', fin ρ' 0 ss) = some (d, ss') → Rp ⟨K, mg⟩ H' (Gam.w ⟨W, pinsOf 0 ss vs⟩ σ' ρ') d' v → Q v H' := fun {ρ' σ' H' d' v} b eq rv => by
          cases eq
          have fm : Fm (pad ss vs) H H' := by
            have := b.fm
            unfold Gam.mu at this
            rw [eo] at this
            rw [← pins_pad (i := 0)]
            exact this
          have mo : Mo W W H H' := ⟨fm.mono fun c z => by
            rw [← pins_pad (i := 0)] at z
            obtain ⟨p, hp, e⟩ := List.mem_map.mp z
            exact e ▸ (pins_w a p hp).1, fun _ z => .inl z⟩
          exact q v H' fm b.tr (fin_ok b.sr rfl mo (fun h1 h2 => pins_uniq h1 h2) (fun _ z => z) a) (Rp.mo ⟨Fm.refl _ _, fun c z => .inl (List.mem_append_right _ z)⟩ _ _ rv)
        cases o with
        | nx ρ' => exact fun σ' H' b => done b e rfl
        | rt d' ρ' => exact fun v σ' H' b r => done b e r
        | bk ρ' => cases e
        | ct ρ' => cases e
        | rf d' ρ' => exact fun a σ' H' b n na nu ow => done b e (ow.rp (fun z => (List.mem_append.mp z).elim na nu) fun c z => List.mem_cons_of_mem _ z)
    · cases e
/-- a def keeps what its body denotes -/
theorem fn_ok {N ps : List Str} {k : Nat} {m : SM} (F : FunD K x qual params body scope [] kws f fd) (S : FnScope N ps scope)
    (hb : ∀ (cdv : Value) (A : Around) (outer : List PySem.Env) (s : Shared) (H : Hp) (E : XK), Room k (A.deeper (PyProof.Rows.envOfC qual scope s.heap.objs.size f cdv)) → ∃ t, DSs (cxOf CX0 P w K mg base N qual scope f cdv A outer s H E).nox body t m) :
    FnOk P w K mg base CX0 (k + 1) f fd ps (spF ⟨K, mg⟩ (mkFn ps.length (N.length - ps.length) m)) := fn_okC F S fun A outer s H E hr => hb _ A outer s H E hr
theorem fn_okF {N ps : List Str} {k : Nat} {m : SM} (F : FunD K x qual params body scope [] kws f fd) (S : FnScope N ps scope)
    (hb : ∀ (cdv : Value) (A : Around) (outer : List PySem.Env) (s : Shared) (H : Hp) (E : XK), Room k (A.deeper (PyProof.Rows.envOfC qual scope s.heap.objs.size f cdv)) → ∃ t, DSs (cxOf CX0 P w K mg base N qual scope f cdv A outer s H E).nox body t m) :
    FnOk P w K mg base CX0 (k + 1) f fd ps (spFF ⟨K, mg⟩ (mkFnF ps.length (N.length - ps.length) m)) := by
  refine F.ok S (fun vs H Q E h => ?_) fun cdv A outer s H vs Q E hr h => ?_
  · obtain ⟨W, ss, d, ss', a, _, _, e, _⟩ := h
    unfold mkFnF at e
    split at e
    · rename_i l; rw [a.length, l]
    · cases e
  · obtain ⟨t, ht⟩ := hb cdv A outer s H E hr
    refine ⟨t, ht.pe.nox, ?_⟩
    obtain ⟨W, ss, d, ss', a, nd, th, e, q⟩ := h
    unfold mkFnF at e
    split at e
    · rename_i l
      have hpl : ps.length ≤ N.length := by have := congrArg List.length S.pre; rw [List.length_take] at this; omega
      obtain ⟨sr, eo⟩ := entry_sr (N := N) a nd th (by omega)
      rw [← l] at e
      cases e1 : m (ss ++ List.replicate (N.length - ss.length) .e) with
      | none => rw [e1] at e; cases e
      | some o =>
        rw [e1] at e
        refine ht.q _ _ H _ o _ sr e1 ?_
        cases o with
        | rf d' ρ' =>
          cases e
          intro b σ' H' bb n na nu ow
          have fm : Fm (pad ss vs) H H' := by
            have := bb.fm
            unfold Gam.mu at this
            rw [eo] at this
            rw [← pins_pad (i := 0)]
            exact this
          have mo : Mo W W H H' := ⟨fm.mono fun c z => by
            rw [← pins_pad (i := 0)] at z
            obtain ⟨p, hp, e⟩ := List.mem_map.mp z
            exact e ▸ (pins_w a p hp).1, fun _ z => .inl z⟩
          have nn : H b = none := by
            rw [eo] at n
            exact n.resolve_left (by simp)
          exact q b H' nn fm bb.tr (fin_ok bb.sr rfl mo (fun h1 h2 => pins_uniq h1 h2) (fun _ z => z) a) (ow.mo ⟨Fm.refl _ _, fun c z => .inl (by
            rcases List.mem_cons.mp z with z | z
            · rw [z]; exact List.mem_cons_self
            · exact List.mem_cons_of_mem _ (List.mem_append_right _ z))⟩ fun _ z _ => z)
        | _ => cases e
    · cases e
end
/-- a def that stands behind the top and keeps what is denoted -/
structure FnD (P : Program) (w : World) (K : PySem.W.Frag) (mg : Str → Option Value) (base : Heap) (x : Str) (k : Nat) (ps : List Str) (fn : FnSem) : Prop where
  ex : ∃ (f : Addr) (fd : FuncData), mg x = some (.ref f) ∧ PySem.W.keepIn K (.ref f) = true ∧ Binds K fd ps [] ∧ FnOk P w K mg base CX0 k f fd ps (spF ⟨K, mg⟩ fn)
structure FnDF (P : Program) (w : World) (K : PySem.W.Frag) (mg : Str → Option Value) (base : Heap) (x : Str) (k : Nat) (ps : List Str) (fn : FnSem) : Prop where
  ex : ∃ (f : Addr) (fd : FuncData), mg x = some (.ref f) ∧ PySem.W.keepIn K (.ref f) = true ∧ Binds K fd ps [] ∧ FnOk P w K mg base CX0 k f fd ps (spFF ⟨K, mg⟩ fn)
omit [TabC] in
theorem setO_same {i : Nat} {d : D} {ρ : Env} {j : Nat} (h : j ≠ i) : (setO i d ρ)[j]? = ρ[j]? := by
  unfold setO
  split
  · exact List.getElem?_set_ne (Ne.symm h)
  · exact List.getElem?_set_ne (Ne.symm h)
  · rfl
omit [TabC] in
theorem setO_length {i : Nat} {d : D} {ρ : Env} : (setO i d ρ).length = ρ.length := by
  unfold setO
  split <;> simp
section
variable {Γ : Gam} {G : Gc} {H H' H1 H2 : Hp} {σ σ' σ1 σ2 : L2.St} {ρ ρ' ρ1 ρ2 : Env}
omit [TabC] in
theorem ownO_setO (i : Nat) (d : D) : ∀ (σ : L2.St) (ρ : Env), ownO σ (setO i d ρ) = ownO σ ρ := fun σ ρ => by
  have key : ∀ (σ : L2.St) (ρ : Env) (i : Nat) (d0 : D), ρ[i]? = some (.o d0) → ownO σ (ρ.set i (.o d)) = ownO σ ρ := by
    intro σ
    induction σ with
    | nil => intro ρ i d0 _; simp [ownO]
    | cons x σ ih =>
      intro ρ i d0 h
      cases ρ with
      | nil => simp at h
      | cons s ρ =>
        cases i with
        | zero =>
          cases h
          show ownO (x :: σ) (.o d :: ρ) = ownO (x :: σ) (.o d0 :: ρ)
          cases x with
          | none => rfl
          | some v => cases v <;> rfl
        | succ i =>
          have := ih ρ i d0 h
          show ownO (x :: σ) (s :: ρ.set i (.o d)) = ownO (x :: σ) (s :: ρ)
          cases s with
          | o d' =>
            cases x with
            | none => exact this
            | some v =>
              cases v with
              | ref a => exact congrArg (a :: ·) this
              | _ => exact this
          | _ => rw [ownO_cons_non (by trivial), ownO_cons_non (by trivial)]; exact this
  unfold setO
  split
  · rename_i d0 e; exact key σ ρ i d0 e
  · rename_i d0 e
    refine (ownO_congr rfl (by simp) fun j => ?_).symm
    by_cases q : j = i
    · subst q
      refine .inr ⟨by rw [e]; trivial, ?_⟩
      rw [List.getElem?_set_self (List.getElem?_eq_some_iff.mp e).1]
      trivial
    · exact .inl ⟨rfl, (List.getElem?_set_ne (Ne.symm q)).symm⟩
  · rfl
omit [TabC] in
/-- the address of an own or a handed-in object -/
def atSl (Γ : Gam) (σ : L2.St) (ρ : Env) (i : Nat) (a : Addr) : Prop := σ[i]? = some (some (.ref a)) ∧ ((∃ d, ρ[i]? = some (.o d)) ∨ ∃ d, ρ[i]? = some (.p d) ∧ (i, a) ∈ Γ.π)
theorem Sr.atSl (s : Sr Γ G H σ ρ) {i : Nat} (h : (∃ d, ρ[i]? = some (.o d)) ∨ ∃ d, ρ[i]? = some (.p d)) : ∃ a d, DL.atSl Γ σ ρ i a ∧ (ρ[i]? = some (.o d) ∨ ρ[i]? = some (.p d)) ∧ Ow G H (Γ.w σ ρ) d a ∧ a ∈ Γ.mu σ ρ := by
  rcases h with ⟨d, h⟩ | ⟨d, h⟩
  · obtain ⟨x, ex, a, rfl, ow⟩ := s.sl i _ h
    exact ⟨a, d, ⟨ex, .inl ⟨d, h⟩⟩, .inl h, ow, List.mem_append_left _ (mem_ownO.mpr ⟨i, d, ex, h⟩)⟩
  · obtain ⟨x, ex, a, rfl, hp, ow⟩ := s.sl i _ h
    exact ⟨a, d, ⟨ex, .inr ⟨d, h, hp⟩⟩, .inr h, ow, List.mem_append_right _ (List.mem_map.mpr ⟨_, hp, rfl⟩)⟩
/-- two places, one object: one place -/
theorem Sr.at_inj (s : Sr Γ G H σ ρ) {i j : Nat} {a : Addr} (h : DL.atSl Γ σ ρ i a) (h' : DL.atSl Γ σ ρ j a) : i = j := by
  obtain ⟨e, h⟩ := h
  obtain ⟨e', h'⟩ := h'
  rcases h with ⟨d, h⟩ | ⟨d, h, hp⟩ <;> rcases h' with ⟨d', h'⟩ | ⟨d', h', hp'⟩
  · exact ownO_inj s.nd e h e' h'
  · exact absurd (s.pin _ hp').1 (s.out a (mem_ownO.mpr ⟨i, d, e, h⟩))
  · exact absurd (s.pin _ hp).1 (s.out a (mem_ownO.mpr ⟨j, d', e', h'⟩))
  · have key : ∀ (l : List (Nat × Addr)), (l.map (·.2)).Nodup → (i, a) ∈ l → (j, a) ∈ l → i = j := by
      intro l
      induction l with
      | nil => intro _ h; simp at h
      | cons q r ih =>
        intro nd h1 h2
        rw [List.map_cons, List.nodup_cons] at nd
        rcases List.mem_cons.mp h1 with z | z <;> rcases List.mem_cons.mp h2 with z' | z'
        · rw [← z] at z'; injection z' with z' _; exact z'.symm
        · exact absurd (List.mem_map.mpr ⟨_, z', by rw [← z]⟩) nd.1
        · exact absurd (List.mem_map.mpr ⟨_, z, by rw [← z']⟩) nd.1
        · exact ih nd.2 z z'
    exact key _ s.pnd hp hp'
end
end DL
namespace DL
open PySem L2
variable [TabC]
section
variable {Γ : Gam} {G : Gc} {H H' H1 H2 : Hp} {σ σ' σ1 σ2 : L2.St} {ρ ρ' ρ1 ρ2 : Env}
theorem atSl_w (s : Sr Γ G H σ ρ) {i : Nat} {a : Addr} (h : atSl Γ σ ρ i a) : a ∈ Γ.mu σ ρ := by
  rcases h with ⟨e, ⟨d, h⟩ | ⟨d, h, hp⟩⟩
  · exact List.mem_append_left _ (mem_ownO.mpr ⟨i, d, e, h⟩)
  · exact List.mem_append_right _ (List.mem_map.mpr ⟨_, hp, rfl⟩)
/-- own objects are changed -/
theorem Sr.change {A : List Addr} (s : Sr Γ G H σ ρ) (f : Fm A H H') (hA : ∀ a ∈ A, a ∈ Γ.mu σ ρ) (th : ∀ a ∈ A, H' a ≠ none) (hl : ρ2.length = ρ.length) (ho : ownO σ ρ2 = ownO σ ρ)
    (hc : ∀ (i : Nat) (t : Sl), ρ2[i]? = some t → (ρ[i]? = some t ∧ ∀ a, DL.atSl Γ σ ρ i a → a ∉ A) ∨ ∃ a d d', DL.atSl Γ σ ρ i a ∧ Ow G H' (Γ.w σ ρ) d' a ∧ ((ρ[i]? = some (.o d) ∧ t = .o d') ∨ (ρ[i]? = some (.p d) ∧ t = .p d')))
    (hp : ∀ p ∈ Γ.π, ∃ d, ρ2[p.1]? = some (.p d)) : Po Γ G σ ρ H ρ2 H' := by
  have tr : Tr H H' := fun b z e => by
    by_cases q : b ∈ A
    · exact th b q e
    · exact f.thw q z e
  have m : Mo (Γ.w σ ρ) (Γ.w σ ρ) H H' := ⟨f.mono fun b z => s.mu_w b (hA b z), fun b z => .inl z⟩
  refine ⟨⟨by rw [hl]; exact s.len, by rw [ho]; exact s.nd, by rw [ho]; exact s.out, fun i t ht => ?_, fun p hp' => ⟨(s.pin p hp').1, hp p hp'⟩, s.pnd, fun a ha e => ?_, s.tb.fm f⟩, f.mono hA, (fun a z => by rw [ho] at z; exact z), tr⟩
  · show ∃ x, _ ∧ SlR G H' (ownO σ ρ2 ++ Γ.U) Γ.π i x t
    rw [ho]
    rcases hc i t ht with ⟨h1, h2⟩ | ⟨a, d, d', h1, h2, h3⟩
    · obtain ⟨x, e, q⟩ := s.sl i t h1
      refine ⟨x, e, ?_⟩
      cases t with
      | e => trivial
      | v d => obtain ⟨v, e, r⟩ := q; exact ⟨v, e, Rp.mo m _ _ r⟩
      | o d =>
        obtain ⟨b, rfl, r⟩ := q
        exact ⟨b, rfl, r.mo m fun x z nt => f.out (h2 b ⟨e, .inl ⟨d, h1⟩⟩) z nt⟩
      | p d =>
        obtain ⟨b, rfl, p, r⟩ := q
        exact ⟨b, rfl, p, r.mo m fun x z nt => f.out (h2 b ⟨e, .inr ⟨d, h1, p⟩⟩) z nt⟩
    · obtain ⟨e, h1⟩ := h1
      refine ⟨_, e, ?_⟩
      rcases h3 with ⟨h3, rfl⟩ | ⟨h3, rfl⟩
      · exact ⟨a, rfl, h2⟩
      · rcases h1 with ⟨d0, h1⟩ | ⟨d0, h1, hpi⟩
        · rw [h3] at h1; cases h1
        · exact ⟨a, rfl, hpi, h2⟩
  · by_cases q : a ∈ A
    · exact th a q e
    · exact f.thw q (s.th a ha) e
theorem argS_as (s : Sr Γ G H σ ρ) : ∀ {as : List Arg} {vs : List V} {ss : List Sl}, ArR G H (Γ.w σ ρ) σ as vs → argS ρ as = some ss → AsR G H (Γ.w σ ρ) ss vs ∧ (∀ a, a ∈ pad ss vs ↔ ∃ i ∈ slotsOf as, atSl Γ σ ρ i a) ∧ ∀ i ∈ slotsOf as, ∃ a, atSl Γ σ ρ i a
  | [], vs, ss, h, e => by
    cases e
    cases (show vs = [] from h)
    exact ⟨rfl, fun a => by simp [pad, slotsOf], fun i z => absurd z (by simp [slotsOf])⟩
  | .val d :: r, _, ss, ⟨x, xs, ex, rx, q⟩, e => by
    subst ex
    unfold argS at e
    cases e1 : argS ρ r with
    | none => rw [e1] at e; cases e
    | some s1 =>
      rw [e1] at e
      cases e
      obtain ⟨h1, h2, h3⟩ := argS_as s q e1
      refine ⟨⟨x, xs, rfl, rx, h1⟩, fun a => ?_, h3⟩
      have e2 : pad (.v d :: s1) (x :: xs) = pad s1 xs := by cases x <;> simp [pad]
      rw [e2]
      exact h2 a
  | .slot i :: r, _, ss, ⟨x, xs, ex, hx, q⟩, e => by
    subst ex
    unfold argS at e
    have key : ∃ d s1, ((ρ[i]? = some (.o d)) ∨ ρ[i]? = some (.p d)) ∧ argS ρ r = some s1 ∧ ss = .p d :: s1 := by
      cases e0 : ρ[i]? with
      | none => rw [e0] at e; cases e
      | some sl =>
        rw [e0] at e
        cases sl with
        | o d =>
          cases e1 : argS ρ r with
          | none => rw [e1] at e; cases e
          | some s1 => rw [e1] at e; cases e; exact ⟨d, s1, .inl rfl, rfl, rfl⟩
        | p d =>
          cases e1 : argS ρ r with
          | none => rw [e1] at e; cases e
          | some s1 => rw [e1] at e; cases e; exact ⟨d, s1, .inr rfl, rfl, rfl⟩
        | _ => cases e
    obtain ⟨d, s1, k1, k2, rfl⟩ := key
    obtain ⟨a, d', at', k3, ow, mu⟩ := s.atSl (i := i) (k1.imp (fun z => ⟨d, z⟩) fun z => ⟨d, z⟩)
    have ed : d' = d := by rcases k1 with k1 | k1 <;> rcases k3 with k3 | k3 <;> rw [k1] at k3 <;> cases k3 <;> rfl
    subst ed
    have ev : x = .ref a := by have := at'.1; rw [hx] at this; cases this; rfl
    subst ev
    obtain ⟨h1, h2, h3⟩ := argS_as s q k2
    refine ⟨⟨a, xs, rfl, s.mu_w a mu, ow, h1⟩, fun b => ?_, fun j hj => ?_⟩
    · simp only [pad, slotsOf, List.mem_cons]
      constructor
      · rintro (rfl | z)
        · exact ⟨i, .inl rfl, at'⟩
        · obtain ⟨j, hj, hb⟩ := (h2 b).mp z; exact ⟨j, .inr hj, hb⟩
      · rintro ⟨j, rfl | hj, hb⟩
        · left
          have := hb.1; rw [at'.1] at this; cases this; rfl
        · exact .inr ((h2 b).mpr ⟨j, hj, hb⟩)
    · rcases List.mem_cons.mp hj with z | z
      · subst z; exact ⟨a, at'⟩
      · exact h3 j z
theorem pad_nodup (s : Sr Γ G H σ ρ) : ∀ {as : List Arg} {vs : List V} {ss : List Sl}, ArR G H (Γ.w σ ρ) σ as vs → argS ρ as = some ss → (slotsOf as).Nodup → (pad ss vs).Nodup
  | [], vs, ss, h, e, _ => by cases e; simp [pad]
  | .val d :: r, _, ss, ⟨x, xs, ex, rx, q⟩, e, nd => by
    subst ex
    unfold argS at e
    cases e1 : argS ρ r with
    | none => rw [e1] at e; cases e
    | some s1 =>
      rw [e1] at e
      cases e
      have e2 : pad (.v d :: s1) (x :: xs) = pad s1 xs := by cases x <;> simp [pad]
      rw [e2]
      exact pad_nodup s q e1 nd
  | .slot i :: r, _, ss, ⟨x, xs, ex, hx, q⟩, e, nd => by
    subst ex
    have full := argS_as s (as := .slot i :: r) (vs := x :: xs) (ss := ss) ⟨x, xs, rfl, hx, q⟩ e
    unfold argS at e
    have key : ∃ d s1, argS ρ r = some s1 ∧ ss = .p d :: s1 := by
      cases e0 : ρ[i]? with
      | none => rw [e0] at e; cases e
      | some sl =>
        rw [e0] at e
        cases sl with
        | o d =>
          cases e1 : argS ρ r with
          | none => rw [e1] at e; cases e
          | some s1 => rw [e1] at e; cases e; exact ⟨d, s1, rfl, rfl⟩
        | p d =>
          cases e1 : argS ρ r with
          | none => rw [e1] at e; cases e
          | some s1 => rw [e1] at e; cases e; exact ⟨d, s1, rfl, rfl⟩
        | _ => cases e
    obtain ⟨d, s1, k2, rfl⟩ := key
    obtain ⟨a, hi⟩ := full.2.2 i List.mem_cons_self
    have ev : x = .ref a := by have := hi.1; rw [hx] at this; cases this; rfl
    subst ev
    have nd' := List.nodup_cons.mp nd
    simp only [pad]
    refine List.nodup_cons.mpr ⟨fun z => ?_, pad_nodup s q k2 nd'.2⟩
    obtain ⟨j, hj, hb⟩ := ((argS_as s q k2).2.1 a).mp z
    exact nd'.1 (s.at_inj hi hb ▸ hj)
omit [TabC] in
theorem wbk_spec {G : Gc} {W : List Addr} {σ : L2.St} : ∀ {as : List Arg} {ss' : List Sl} {vs : List V} {ρ1 ρ2 : Env}, ArR G H W σ as vs → AsR G H' W ss' vs → wbk as ss' ρ1 = some ρ2 → (slotsOf as).Nodup → (∀ i ∈ slotsOf as, ∃ d, ρ1[i]? = some (.o d) ∨ ρ1[i]? = some (.p d)) →
    ρ2.length = ρ1.length ∧ ownO σ ρ2 = ownO σ ρ1 ∧ ∀ i : Nat, (i ∉ slotsOf as ∧ ρ2[i]? = ρ1[i]?) ∨ (i ∈ slotsOf as ∧ ∃ a d d', σ[i]? = some (some (.ref a)) ∧ Ow G H' W d' a ∧ ((ρ1[i]? = some (.o d) ∧ ρ2[i]? = some (.o d')) ∨ (ρ1[i]? = some (.p d) ∧ ρ2[i]? = some (.p d'))))
  | [], [], _, _, _, _, _, e, _, _ => by
    cases e
    exact ⟨rfl, rfl, fun i => .inl ⟨by simp [slotsOf], rfl⟩⟩
  | [], _ :: _, _, _, _, _, _, e, _, _ => by cases e
  | .val d :: r, [], _, _, _, _, _, e, _, _ => by cases e
  | .slot i :: r, [], _, _, _, _, _, e, _, _ => by cases e
  | .val d :: r, s0 :: ss', _, ρ1, ρ2, ⟨x, xs, ex, _, q⟩, q', e, nd, ho => by
    subst ex
    have q2 : AsR G H' W ss' xs := by
      cases s0 with
      | v d => obtain ⟨_, _, e, _, q⟩ := q'; cases e; exact q
      | p d => obtain ⟨_, _, e, _, _, q⟩ := q'; cases e; exact q
      | e => exact q'.elim
      | o d => exact q'.elim
    exact wbk_spec (as := r) q q2 (by simpa [wbk] using e) nd ho
  | .slot i :: r, s0 :: ss', _, ρ1, ρ2, ⟨x, xs, ex, hx, q⟩, q', e, nd, ho => by
    subst ex
    cases s0 with
    | p d' =>
      obtain ⟨a, xs', e2, _, ow, q2⟩ := q'
      cases e2
      have e3 : wbk r ss' (setO i d' ρ1) = some ρ2 := by simpa [wbk] using e
      have nd' := List.nodup_cons.mp nd
      have ho' : ∀ j ∈ slotsOf r, ∃ d, (setO i d' ρ1)[j]? = some (.o d) ∨ (setO i d' ρ1)[j]? = some (.p d) := fun j hj => by
        have ne : j ≠ i := fun z => nd'.1 (z ▸ hj)
        rw [setO_same ne]
        exact ho j (List.mem_cons_of_mem _ hj)
      obtain ⟨h1, h2, h3⟩ := wbk_spec (as := r) q q2 e3 nd'.2 ho'
      refine ⟨h1.trans setO_length, h2.trans (ownO_setO i d' σ ρ1), fun j => ?_⟩
      by_cases ej : j = i
      · subst ej
        have nj : j ∉ slotsOf r := nd'.1
        rcases h3 j with ⟨_, h3⟩ | ⟨z, _⟩
        · refine .inr ⟨List.mem_cons_self, a, ?_⟩
          obtain ⟨d, hd⟩ := ho j List.mem_cons_self
          have jl : j < ρ1.length := by rcases hd with hd | hd <;> exact (List.getElem?_eq_some_iff.mp hd).1
          refine ⟨d, d', hx, ow, ?_⟩
          rcases hd with hd | hd
          · refine .inl ⟨hd, ?_⟩
            rw [h3]
            unfold setO
            rw [hd]
            exact List.getElem?_set_self jl
          · refine .inr ⟨hd, ?_⟩
            rw [h3]
            unfold setO
            rw [hd]
            exact List.getElem?_set_self jl
        · exact absurd z nj
      · rcases h3 j with ⟨n, h3⟩ | ⟨z, a', d0, d1, k1, k2, k3⟩
        · refine .inl ⟨fun z => (List.mem_cons.mp z).elim ej n, ?_⟩
          rw [h3, setO_same ej]
        · refine .inr ⟨List.mem_cons_of_mem _ z, a', d0, d1, k1, k2, ?_⟩
          rw [setO_same ej] at k3
          exact k3
    | v d => simp [wbk] at e
    | e => exact q'.elim
    | o d => exact q'.elim
end
section
variable {X : Cx} {e : Expr} {es : List Expr} {pos p : Pos} {am : AM} {at1 : TA} {x : Str} {k : Nat} {ps : List Str} {fn : FnSem}
theorem call_core {G : Gc} {Γ : Gam} {σ : L2.St} {H1 : Hp} {ρ1 : Env} {as : List Arg} {vs : List V} {d : D} {ρ' : Env} {Q : VK} {E : XK} (s1 : Sr Γ G H1 σ ρ1) (ar : ArR G H1 (Γ.w σ ρ1) σ as vs) (h : callS fn as ρ1 = some (d, ρ'))
    (kk : ∀ v H', Po Γ G σ ρ1 H1 ρ' H' → Rp G H' (Γ.w σ ρ') d v → Q v H') : spF G fn vs H1 Q E := by
  unfold callS at h
  split at h
  · rename_i nd
    have nd := of_decide_eq_true nd
    cases e2 : argS ρ1 as with
    | none => rw [e2] at h; cases h
    | some ss =>
    rw [e2] at h
    replace h : ((fn ss).bind fun q => (wbk as q.2 ρ1).map fun ρ2 => (q.1, ρ2)) = some (d, ρ') := h
    cases e3 : fn ss with
    | none => rw [e3] at h; cases h
    | some r3 =>
    rw [e3] at h
    obtain ⟨d3, ss'⟩ := r3
    replace h : ((wbk as ss' ρ1).map fun ρ2 => (d3, ρ2)) = some (d, ρ') := h
    cases e4 : wbk as ss' ρ1 with
    | none => rw [e4] at h; cases h
    | some ρ2 =>
    rw [e4] at h
    cases h
    obtain ⟨k1, k2, k3⟩ := argS_as s1 ar e2
    refine ⟨Γ.w σ ρ1, ss, d, ss', k1, pad_nodup s1 ar e2 nd, ⟨s1.w_th, s1.tb⟩, e3, fun v H2 fm _ as' rv => ?_⟩
    have hA : ∀ a ∈ pad ss vs, a ∈ Γ.mu σ ρ1 := fun a z => by
      obtain ⟨i, _, hi⟩ := (k2 a).mp z
      exact atSl_w s1 hi
    have ho : ∀ i ∈ slotsOf as, ∃ d, ρ1[i]? = some (.o d) ∨ ρ1[i]? = some (.p d) := fun i hi => by
      obtain ⟨a, _, h⟩ := k3 i hi
      rcases h with ⟨d, h⟩ | ⟨d, h, _⟩
      · exact ⟨d, .inl h⟩
      · exact ⟨d, .inr h⟩
    obtain ⟨w1, w2, w3⟩ := wbk_spec (H := H1) ar as' e4 nd ho
    have po := s1.change (ρ2 := ρ') fm hA (fun a z ez => by
      obtain ⟨i, hi, ha⟩ := (k2 a).mp z
      rcases w3 i with ⟨n, _⟩ | ⟨_, a', d0, d1, h1, h2, _⟩
      · exact n hi
      · have : a' = a := by have := ha.1; rw [h1] at this; cases this; rfl
        subst this
        exact h2.ne0 ez) w1 w2 (fun i t ht => by
      rcases w3 i with ⟨n, h1⟩ | ⟨z, a', d0, d1, h1, h2, h3⟩
      · refine .inl ⟨by rw [← h1]; exact ht, fun a ha z => ?_⟩
        obtain ⟨j, hj, hb⟩ := (k2 a).mp z
        exact n (s1.at_inj ha hb ▸ hj)
      · obtain ⟨b, hb⟩ := k3 i z
        have : a' = b := by have := hb.1; rw [h1] at this; cases this; rfl
        subst this
        refine .inr ⟨a', d0, d1, hb, h2, ?_⟩
        rcases h3 with ⟨h3, h4⟩ | ⟨h3, h4⟩
        · rw [ht] at h4; cases h4; exact .inl ⟨h3, rfl⟩
        · rw [ht] at h4; cases h4; exact .inr ⟨h3, rfl⟩) (fun q hq => by
      obtain ⟨_, d0, h0⟩ := s1.pin q hq
      rcases w3 q.1 with ⟨n, h1⟩ | ⟨z, a', d1, d2, h1, h2, h3⟩
      · exact ⟨d0, by rw [h1]; exact h0⟩
      · rcases h3 with ⟨h3, _⟩ | ⟨_, h4⟩
        · rw [h0] at h3; cases h3
        · exact ⟨d2, h4⟩)
    refine kk v H2 po ?_
    show Rp _ _ (ownO σ ρ' ++ Γ.U) _ _
    rw [w2]
    exact rv
  · cases h
theorem call_q (q1 : ∀ (Γ : Gam) (σ : L2.St) (H : Hp) (ρ : Env) (as : List Arg) (ρ' : Env) (Q : List V → Hp → Prop), Sr Γ X.G H σ ρ → am ρ = some (as, ρ') → (∀ vs H', Po Γ X.G σ ρ H ρ' H' → ArR X.G H' (Γ.w σ ρ') σ as vs → Q vs H') → at1 σ H Q)
    (Γ : Gam) (σ : L2.St) (H : Hp) (ρ : Env) (d : D) (ρ' : Env) (Q : VK) (s : Sr Γ X.G H σ ρ) (h : eCall fn am ρ = some (d, ρ')) (kk : ∀ v H', Po Γ X.G σ ρ H ρ' H' → Rp X.G H' (Γ.w σ ρ') d v → Q v H') : tCall (spF X.G fn) [] E0 at1 σ H Q := by
  unfold eCall at h
  cases e1 : am ρ with
  | none => rw [e1] at h; cases h
  | some r1 =>
  rw [e1] at h
  refine q1 Γ σ H ρ r1.1 r1.2 _ s e1 fun vs H1 a1 ar => ?_
  show spF X.G fn (vs ++ []) H1 Q E0
  rw [List.append_nil]
  exact call_core a1.sr ar h fun v H2 po rv => kk v H2 (a1.trans po) rv
theorem de_call (F : FnD X.prog X.w X.K X.mg X.base x k ps fn) (hr : Room k X.A) (ha : DA X (e :: es) at1 am) (hg : Gl X x := by rfl) (hdb : (x == ("__debug__" : Str)) = false := by decide)
    (he : starEach (e :: es) X.env = (false, eval e X.env) :: starEach es X.env := by rfl) (hpl : (backTo pos (starEach es X.env)).any (·.1) = false := by rfl) : DE X (.Call (.Name x p) (e :: es) [] pos) (tCall (spF X.G fn) [] E0 at1) (eCall fn am) := by
  obtain ⟨f, fd, h1, h2, h3, h4⟩ := F.ex
  exact ⟨pe_call h4 hr hg h1 h2 h3 .nil pass0 ha.pe hdb he hpl, call_q ha.q⟩
end
omit [TabC] in
def forL (g : GM) (b : SM) : List D → Env → Option Out
  | [], ρ => some (.nx ρ)
  | d :: ds, ρ => (g d ρ).bind fun ρ1 => (b ρ1).bind fun o => match o with
    | .nx ρ' => forL g b ds ρ'
    | .ct ρ' => forL g b ds ρ'
    | .bk ρ' => some (.nx ρ')
    | .rt d ρ' => some (.rt d ρ')
    | .rf d ρ' => some (.rf d ρ')
omit [TabC] in
def sFor (it : IM) (g : GM) (b : SM) : SM := fun ρ => (it ρ).bind fun p => forL g b p.1 p.2
section
variable {X : Cx} {tg iter c : Expr} {body : List Stmt} {pos : Pos} {wi : TI} {g : TG} {tb : TS} {tc : TT} {it : IM} {gm : GM} {b : SM} {is : List Nat} {mc : TM}
theorem ds_for (hp : PassesOwn (model X.prog X.w) X.A X.env X.xe) (hc : X.calm = true) (hi : DI X tg iter wi it) (hg : DG X tg g is gm) (hb : DSs X body tb b) (hs : ∀ x, foldedSetIterable iter X.env x = pure x := by intro _; rfl) :
    DS X (.For tg iter body [] pos) (tFor wi g tb) (sFor it gm b) := by
  refine ⟨ps_for hp hc hi.pe hg.pe hb.pe hs, fun Γ σ H ρ o E s h f => ?_⟩
  unfold sFor at h
  cases e1 : it ρ with
  | none => rw [e1] at h; cases h
  | some r =>
  rw [e1] at h
  obtain ⟨ds, ρ1⟩ := r
  replace h : forL gm b ds ρ1 = some o := h
  refine hi.q Γ σ H ρ ds ρ1 _ s e1 fun J H1 a1 wd => ?_
  -- W: what is still to be done gives o
  refine ⟨fun i m σ2 H2 => m = ds.length - i ∧ i ≤ ds.length ∧ ∃ ρ2, So Γ X.G σ ρ1 H1 σ2 ρ2 H2 ∧ forL gm b (ds.drop i) ρ2 = some o, ⟨ds.length, by simp, Nat.zero_le _, ρ1, So.refl a1.sr, h⟩, ?_⟩
  rintro i m σ2 H2 ⟨rfl, hi2, ρ2, a2, h2⟩
  have fm : Fm (Γ.w σ ρ1) H1 H2 := a2.fm.mono a1.sr.mu_w
  by_cases hlt : i < ds.length
  · refine .inr ⟨wd.go H2 i fm hlt, fun σ3 H3 => ∃ ρ3, So Γ X.G σ ρ1 H1 σ3 ρ3 H3 ∧ forL gm b (ds.drop (i + 1)) ρ3 = some o, fun σ3 H3 ⟨ρ3, a3, h3⟩ => ⟨ds.length - (i + 1), by omega, rfl, hlt, ρ3, a3, h3⟩, fun x H3 y => ?_⟩
    obtain ⟨f23, yr⟩ := wd.yld H2 i x H3 fm y hlt
    rw [List.drop_eq_getElem_cons hlt] at h2
    replace h2 : ((gm ds[i] ρ2).bind fun ρ1 => (b ρ1).bind fun o => match o with | .nx ρ' => forL gm b (ds.drop (i + 1)) ρ' | .ct ρ' => forL gm b (ds.drop (i + 1)) ρ' | .bk ρ' => some (.nx ρ') | .rt d ρ' => some (.rt d ρ') | .rf d ρ' => some (.rf d ρ')) = some o := h2
    have s3 := a2.sr.keep f23
    have p3 : So Γ X.G σ2 ρ2 H2 σ2 ρ2 H3 := (a2.sr.po f23).so
    have rx : Rp X.G H3 (Γ.w σ2 ρ2) ds[i] x := yr _ _ (List.getElem?_eq_getElem hlt) fun c hc => by
      refine ⟨?_, a2.sr.w_th c hc⟩
      rcases List.mem_append.mp hc with z | z
      · exact (a2.nw c z).imp (fun z => List.mem_append_left _ z) id
      · exact .inl (List.mem_append_right _ z)
    cases g1 : gm ds[i] ρ2 with
    | none => rw [g1] at h2; cases h2
    | some ρ3 =>
    rw [g1] at h2
    refine hg.q Γ σ2 H3 ρ2 _ x ρ3 _ s3 rx g1 fun σ3 a3 al => ?_
    simp only [Option.bind_some] at h2
    cases b1 : b ρ3 with
    | none => rw [b1] at h2; cases h2
    | some o1 =>
    rw [b1] at h2
    simp only [Option.bind_some] at h2
    have base := (a2.trans p3).trans a3
    refine hb.q Γ σ3 H3 ρ3 o1 _ a3.sr b1 ?_
    cases o1 with
    | nx ρ4 => exact fun σ4 H4 a4 => ⟨ρ4, base.trans a4, h2⟩
    | ct ρ4 => exact fun σ4 H4 a4 => ⟨ρ4, base.trans a4, h2⟩
    | bk ρ4 =>
      cases h2
      exact fun σ4 H4 a4 => f σ4 H4 (a1.so.trans (base.trans a4))
    | rt d ρ4 =>
      cases h2
      exact fun v σ4 H4 a4 r => f v σ4 H4 (a1.so.trans (base.trans a4)) r
    | rf d ρ4 =>
      cases h2
      exact fun b σ4 H4 a4 n => f b σ4 H4 (a1.so.trans (base.trans a4)) (n.elim (fun z => (a1.so.trans base).nw b z) fun z => .inr ((a1.so.trans base).tr.back z))
  · have ei : i = ds.length := by omega
    subst ei
    rw [List.drop_length] at h2
    cases h2
    exact .inl ⟨wd.stop H2 fm, f σ2 H2 (a1.so.trans a2)⟩
end
end DL
namespace DL
open PySem L2
variable [TabC]
omit [TabC] in
def putO (i : Nat) (d : D) (ρ : Env) : Option Env := match ρ[i]? with
  | some (.p _) => none
  | some _ => some (ρ.set i (.o d))
  | none => none
omit [TabC] in
def sSetO (i : Nat) (m : EM) : SM := fun ρ => (m ρ).bind fun p => (putO i p.1 p.2).bind fun ρ' => some (.nx ρ')
section
variable {Γ : Gam} {G : Gc} {H H' H1 H2 : Hp} {σ σ' σ1 σ2 : L2.St} {ρ ρ' ρ1 ρ2 : Env}
omit [TabC] in
theorem own_put : ∀ (σ : L2.St) (ρ : Env) (i : Nat) (a : Addr) (d : D), σ.length = ρ.length → i < ρ.length → ∃ l1 l2, ownO (σ.set i (some (.ref a))) (ρ.set i (.o d)) = l1 ++ a :: l2 ∧ (l1 ++ l2).Sublist (ownO σ ρ)
  | [], ρ, i, a, d, h, l => by simp at h; simp [← h] at l
  | x :: σ, [], i, a, d, h, l => by simp at h
  | x :: σ, s :: ρ, 0, a, d, h, l => by
    refine ⟨[], ownO σ ρ, rfl, ?_⟩
    cases s with
    | o d' =>
      cases x with
      | none => exact List.Sublist.refl _
      | some v =>
        cases v with
        | ref b => exact List.sublist_cons_self _ _
        | _ => exact List.Sublist.refl _
    | _ => rw [ownO_cons_non (by trivial)]; exact List.Sublist.refl _
  | x :: σ, s :: ρ, i + 1, a, d, h, l => by
    obtain ⟨l1, l2, e, sb⟩ := own_put σ ρ i a d (by simpa using h) (by simpa using l)
    show ∃ l1 l2, ownO (x :: σ.set i (some (.ref a))) (s :: ρ.set i (.o d)) = _ ∧ _
    cases s with
    | o d' =>
      cases x with
      | none => exact ⟨l1, l2, e, sb⟩
      | some v =>
        cases v with
        | ref b => exact ⟨b :: l1, l2, congrArg (b :: ·) e, sb.cons₂ b⟩
        | _ => exact ⟨l1, l2, e, sb⟩
    | _ =>
      rw [ownO_cons_non (by trivial), ownO_cons_non (by trivial)]
      exact ⟨l1, l2, e, sb⟩
theorem Sr.putO {i : Nat} {d : D} {a : Addr} (s : Sr ⟨a :: Γ.U, Γ.π⟩ G H σ ρ) (h : putO i d ρ = some ρ') (ow : Ow G H (ownO σ ρ ++ a :: Γ.U) d a) (hpi : ∀ p ∈ Γ.π, p.2 ∈ Γ.U) (hU : ∀ b ∈ Γ.U, H b ≠ none) (haU : a ∉ Γ.U) :
    Sr Γ G H (σ.set i (some (.ref a))) ρ' ∧ ∀ b ∈ ownO (σ.set i (some (.ref a))) ρ', b = a ∨ b ∈ ownO σ ρ := by
  unfold DL.putO at h
  have key : ∃ s0, ρ[i]? = some s0 ∧ (∀ d, s0 ≠ .p d) ∧ ρ' = ρ.set i (.o d) := by
    cases e : ρ[i]? with
    | none => rw [e] at h; cases h
    | some s0 =>
      rw [e] at h
      cases s0 with
      | p d => cases h
      | _ => cases h; exact ⟨_, rfl, (fun d z => by cases z), rfl⟩
  obtain ⟨s0, e0, np, rfl⟩ := key
  have il : i < ρ.length := (List.getElem?_eq_some_iff.mp e0).1
  obtain ⟨l1, l2, eo, sb⟩ := own_put σ ρ i a d s.len il
  have mem : ∀ b ∈ ownO (σ.set i (some (.ref a))) (ρ.set i (.o d)), b = a ∨ b ∈ ownO σ ρ := fun b hb => by
    rw [eo] at hb
    rcases List.mem_append.mp hb with z | z
    · exact .inr (sb.mem (List.mem_append_left _ z))
    · rcases List.mem_cons.mp z with z | z
      · exact .inl z
      · exact .inr (sb.mem (List.mem_append_right _ z))
  have na : a ∉ ownO σ ρ := fun z => s.out a z List.mem_cons_self
  have m : Mo (ownO σ ρ ++ a :: Γ.U) (Γ.w (σ.set i (some (.ref a))) (ρ.set i (.o d))) H H := ⟨Fm.refl _ _, fun b z => .inl (by
    rcases List.mem_append.mp z with z | z
    · rcases mem b z with z | z
      · rw [z]; exact List.mem_append_right _ List.mem_cons_self
      · exact List.mem_append_left _ z
    · exact List.mem_append_right _ (List.mem_cons_of_mem _ z))⟩
  refine ⟨⟨by simpa using s.len, ?_, fun b hb z => ?_, fun j x hj => ?_, fun p hp => ⟨hpi p hp, ?_⟩, s.pnd, hU, s.tb⟩, mem⟩
  · rw [eo]
    have nd := s.nd.sublist sb
    have na' : a ∉ l1 ++ l2 := fun z => na (sb.mem z)
    rw [List.nodup_append] at nd ⊢
    refine ⟨nd.1, List.nodup_cons.mpr ⟨fun z => na' (List.mem_append_right _ z), nd.2.1⟩, fun b hb c hc => ?_⟩
    rcases List.mem_cons.mp hc with z | z
    · rw [z]; exact fun e => na' (List.mem_append_left _ (e ▸ hb))
    · exact nd.2.2 b hb c z
  · rcases mem b hb with q | q
    · rw [q] at z; exact haU z
    · exact s.out b q (List.mem_cons_of_mem _ z)
  · by_cases e : j = i
    · subst e
      rw [List.getElem?_set_self il] at hj
      cases hj
      exact ⟨_, List.getElem?_set_self (by rw [s.len]; exact il), a, rfl, ow.mo m fun x z _ => z⟩
    · rw [List.getElem?_set_ne (Ne.symm e)] at hj
      obtain ⟨y, e1, q⟩ := s.sl j x hj
      refine ⟨y, by rw [List.getElem?_set_ne (Ne.symm e)]; exact e1, ?_⟩
      cases x with
      | e => trivial
      | v d => obtain ⟨v, e, r⟩ := q; exact ⟨v, e, Rp.mo m _ _ r⟩
      | o d => obtain ⟨a, e, r⟩ := q; exact ⟨a, e, r.mo m fun x z _ => z⟩
      | p d => obtain ⟨a, e, p, r⟩ := q; exact ⟨a, e, p, r.mo m fun x z _ => z⟩
  · obtain ⟨_, d', h2⟩ := s.pin p hp
    have ne : i ≠ p.1 := fun z => by
      rw [← z, e0] at h2
      cases h2
      exact np _ rfl
    exact ⟨d', by rw [List.getElem?_set_ne ne]; exact h2⟩
/-- a new object: kept away from -/
theorem Sr.more' {a : Addr} (s : Sr Γ G H σ ρ) (n : H a = none) (f : Fm [] H H') (ne : H' a ≠ none) : Sr ⟨a :: Γ.U, Γ.π⟩ G H' σ ρ := by
  have s' := s.keep f
  refine ⟨s'.len, s'.nd, fun b hb z => ?_, fun i t ht => ?_, fun p hp => ⟨List.mem_cons_of_mem _ (s'.pin p hp).1, (s'.pin p hp).2⟩, s'.pnd, fun b hb => ?_, s'.tb⟩
  · rcases List.mem_cons.mp z with z | z
    · subst z; exact s.own_th b hb n
    · exact s'.out b hb z
  · obtain ⟨x, e, q⟩ := s.sl i t ht
    have m : Mo (Γ.w σ ρ) (ownO σ ρ ++ a :: Γ.U) H H' := ⟨f.mono fun _ z => absurd z (by simp), fun b z => by
      rcases List.mem_append.mp z with z | z
      · exact .inl (List.mem_append_left _ z)
      · rcases List.mem_cons.mp z with z | z
        · exact .inr (z ▸ n)
        · exact .inl (List.mem_append_right _ z)⟩
    refine ⟨x, e, ?_⟩
    cases t with
    | e => trivial
    | v d => obtain ⟨v, e, r⟩ := q; exact ⟨v, e, Rp.mo m _ _ r⟩
    | o d => obtain ⟨a, e, r⟩ := q; exact ⟨a, e, r.mo m fun x z nt => f a x (by simp) z nt⟩
    | p d => obtain ⟨a, e, p, r⟩ := q; exact ⟨a, e, p, r.mo m fun x z nt => f a x (by simp) z nt⟩
  · rcases List.mem_cons.mp hb with z | z
    · subst z; exact ne
    · exact s'.th b z
end
section
variable {X : Cx} {e a b : Expr} {es : List Expr} {pos pos' p : Pos} {me ma mb : EM} {te te1 te2 : TE} {am : AM} {at1 : TA}
/-- what makes a fresh object of values -/
def CallDF (G : Gc) (r : List V → Hp → VK → Prop) (f : List D → Option D) : Prop := ∀ (H : Hp) (W : List Addr) (xs : List V) (ds : List D) (z : D) (Q : VK), (∀ a ∈ W, H a ≠ none) → RpAll G H W ds xs → f ds = some z →
  (∀ a H', H a = none → Fm [] H H' → Ow G H' (a :: W) z a → Q (.ref a) H') → r xs H Q
theorem fresh_end {Γ : Gam} {G : Gc} {H H1 H2 : Hp} {σ : L2.St} {ρ ρ' : Env} {d : D} {Q : VK} {v : Addr} (a1 : Po Γ G σ ρ H ρ' H1) (n : H1 v = none) (f : Fm [] H1 H2) (ow : Ow G H2 (v :: Γ.w σ ρ') d v)
    (k : ∀ a H', H a = none → Sr ⟨a :: Γ.U, Γ.π⟩ G H' σ ρ' → Ow G H' (ownO σ ρ' ++ a :: Γ.U) d a → Fm (Γ.mu σ ρ) H H' → (∀ b ∈ ownO σ ρ', b ∈ ownO σ ρ) → Tr H H' → Q (.ref a) H') : Q (.ref v) H2 := by
  refine k v H2 (a1.tr.back n) (a1.sr.more' n f ow.ne0) (ow.mo ⟨Fm.refl _ _, fun b z => .inl ?_⟩ fun _ z _ => z) (a1.fm.trans (f.mono fun _ z => absurd z (by simp))) a1.sub (a1.tr.trans (Tr.of f))
  rcases List.mem_append.mp z with z | z
  · exact List.mem_cons_of_mem _ (List.mem_append_left _ z)
  · rcases List.mem_cons.mp z with z | z
    · rw [z]; exact List.mem_cons_self
    · exact List.mem_cons_of_mem _ (List.mem_append_right _ z)
theorem callvF {t : TA} {r : List V → Hp → VK → Prop} {f : List D → Option D} {G : Gc} (od : CallDF G r f)
    (q1 : ∀ (Γ : Gam) (σ : L2.St) (H : Hp) (ρ : Env) (as : List Arg) (ρ' : Env) (Q : List V → Hp → Prop), Sr Γ G H σ ρ → am ρ = some (as, ρ') → (∀ vs H', Po Γ G σ ρ H ρ' H' → ArR G H' (Γ.w σ ρ') σ as vs → Q vs H') → t σ H Q)
    (Γ : Gam) (σ : L2.St) (H : Hp) (ρ : Env) (d : D) (ρ' : Env) (Q : VK) (s : Sr Γ G H σ ρ) (h : eCallV f am ρ = some (d, ρ'))
    (k : ∀ a H', H a = none → Sr ⟨a :: Γ.U, Γ.π⟩ G H' σ ρ' → Ow G H' (ownO σ ρ' ++ a :: Γ.U) d a → Fm (Γ.mu σ ρ) H H' → (∀ b ∈ ownO σ ρ', b ∈ ownO σ ρ) → Tr H H' → Q (.ref a) H') : tCB r t σ H Q := by
  unfold eCallV at h
  cases e1 : am ρ with
  | none => rw [e1] at h; cases h
  | some p =>
    rw [e1] at h
    replace h : ((vals p.1).bind fun ds => (f ds).map fun z => (z, p.2)) = some (d, ρ') := h
    cases e2 : vals p.1 with
    | none => rw [e2] at h; cases h
    | some ds =>
      rw [e2] at h
      replace h : ((f ds).map fun z => (z, p.2)) = some (d, ρ') := h
      cases e3 : f ds with
      | none => rw [e3] at h; cases h
      | some z =>
        rw [e3] at h
        cases h
        refine q1 Γ σ H ρ p.1 p.2 _ s e1 fun vs H1 a1 r1 => ?_
        exact od H1 _ vs ds d Q a1.sr.w_th (r1.vals e2) e3 fun v H3 n f3 ow => fresh_end a1 n f3 ow k
theorem df_lst (ha : DA X es at1 am) : DF X (.List es pos) (tLst at1) (eCallV mkLst am) := by
  refine ⟨pe_lst ha.pe, fun Γ σ H ρ d ρ' Q s h kk => ?_⟩
  have := callvF (r := fun xs H Q => xs.length ≤ sizeLine ∧ ∀ p, H p = none → Q (.ref p) (upd H p (.lst xs))) (G := X.G) (f := mkLst) (fun H W xs ds z Q th r e q => ?_) ha.q Γ σ H ρ d ρ' Q s h kk
  · exact this
  · unfold mkLst at e
    split at e
    · cases e
      rename_i l
      refine ⟨by rw [r.length]; exact line_of l, fun p n => q p _ n (fm_new n) ⟨xs, upd_same, line_of l, RpAll.mo ⟨(fm_new n).mono fun _ z => absurd z (by simp), fun b z => ?_⟩ _ _ r⟩⟩
      rcases List.mem_cons.mp z with z | z
      · exact .inr (z ▸ n)
      · exact .inl z
    · cases e
end
omit [TabC] in
def stO (ρ : Env) (i : Nat) : Option D := match ρ[i]? with
  | some (.o d) => some d
  | some (.p d) => some d
  | _ => none
omit [TabC] in
def isK : String → D → Bool
  | "list", .lst _ => true
  | "dict", .dT _ => true
  | "dict", .dK _ => true
  | _, _ => false
section
variable {Γ : Gam} {G : Gc} {H H' H1 H2 : Hp} {σ σ' σ1 σ2 : L2.St} {ρ ρ' ρ1 ρ2 : Env}
omit [TabC] in
theorem stO_some {i : Nat} {d : D} (h : stO ρ i = some d) : ρ[i]? = some (.o d) ∨ ρ[i]? = some (.p d) := by
  unfold stO at h
  split at h
  · rename_i e; cases h; exact .inl e
  · rename_i e; cases h; exact .inr e
  · cases h
theorem Sr.stO (s : Sr Γ G H σ ρ) {i : Nat} {d : D} (h : DL.stO ρ i = some d) : ∃ a, DL.atSl Γ σ ρ i a ∧ Ow G H (Γ.w σ ρ) d a ∧ a ∈ Γ.mu σ ρ := by
  have k := stO_some h
  obtain ⟨a, d', at', k3, ow, mu⟩ := s.atSl (i := i) (k.imp (fun z => ⟨d, z⟩) fun z => ⟨d, z⟩)
  have ed : d' = d := by rcases k with k1 | k1 <;> rcases k3 with k3 | k3 <;> rw [k1] at k3 <;> cases k3 <;> rfl
  subst ed
  exact ⟨a, at', ow, mu⟩
/-- one own object is changed -/
theorem Sr.change1 {i : Nat} {a : Addr} {d d' : D} (s : Sr Γ G H σ ρ) (at' : DL.atSl Γ σ ρ i a) (h : DL.stO ρ i = some d) (f : Fm [a] H H') (ow : Ow G H' (Γ.w σ ρ) d' a) : Po Γ G σ ρ H (setO i d' ρ) H' := by
  have k := stO_some h
  have il : i < ρ.length := by rcases k with k | k <;> exact (List.getElem?_eq_some_iff.mp k).1
  refine s.change f (fun b z => ?_) (fun b z => ?_) setO_length (ownO_setO i d' σ ρ) (fun j t ht => ?_) fun p hp => ?_
  · rw [List.mem_singleton.mp z]; exact atSl_w s at'
  · rw [List.mem_singleton.mp z]; exact ow.ne0
  · by_cases e : j = i
    · subst e
      refine .inr ⟨a, d, d', at', ow, ?_⟩
      rcases k with k | k
      · refine .inl ⟨k, ?_⟩
        unfold setO at ht
        rw [k] at ht
        replace ht : (ρ.set j (.o d'))[j]? = some t := ht
        rw [List.getElem?_set_self il] at ht
        cases ht
        rfl
      · refine .inr ⟨k, ?_⟩
        unfold setO at ht
        rw [k] at ht
        replace ht : (ρ.set j (.p d'))[j]? = some t := ht
        rw [List.getElem?_set_self il] at ht
        cases ht
        rfl
    · rw [setO_same e] at ht
      exact .inl ⟨ht, fun b hb z => e (s.at_inj hb ((List.mem_singleton.mp z) ▸ at'))⟩
  · obtain ⟨_, d0, h0⟩ := s.pin p hp
    by_cases e : p.1 = i
    · rcases k with k | k
      · rw [e, k] at h0; cases h0
      · refine ⟨d', ?_⟩
        rw [e]
        unfold setO
        rw [k]
        exact List.getElem?_set_self il
    · exact ⟨d0, by rw [setO_same e]; exact h0⟩
omit [TabC] in
theorem Ow.ty {K : PySem.W.Frag} {mg : Str → Option Value} {W : List Addr} {T : String} {d : D} {a : Addr} (h : isK T d = true) (ow : Ow ⟨K, mg⟩ H W d a) : tyV K T (.ref a) H := by
  unfold isK at h
  split at h
  · obtain ⟨vs, e, _⟩ := ow; exact .inl ⟨rfl, vs, .inl (.inl e)⟩
  · obtain ⟨vs, e, _⟩ := ow; exact .inr (.inr (.inl ⟨rfl, .inr ⟨_, e⟩⟩))
  · obtain ⟨vs, e, _⟩ := ow; exact .inr (.inr (.inl ⟨rfl, .inl ⟨_, e⟩⟩))
  · cases h
end
section
variable {X : Cx} {e : Expr} {es : List Expr} {p : Pos} {am : AM} {at1 : TA} {x name : Str} {apos cpos : Pos} {T id : String} {r : V → List V → Hp → VK → Prop} {f : D → List D → Option (D × D)}
omit [TabC] in
def appendM : D → List D → Option (D × D)
  | .lst xs, [d] => if lim (xs.length + 1) then some (.non, .lst (xs ++ [d])) else none
  | _, _ => none
theorem wr_mo {W : List Addr} {H : Hp} {a : Addr} {o u : HO} (h : a ∈ W) (hv : H a = some u) (hu : isTp u = false := by rfl) (hx : isTb u = false := by rfl) (hy : isEx u = false := by rfl) : Mo W W H (upd H a o) := ⟨(wr_fm hv hu hx hy).mono fun b z => by rw [List.mem_singleton.mp z]; exact h, fun _ z => .inl z⟩
omit [TabC] in
theorem RpAll.dropLast {G : Gc} {H : Hp} {W : List Addr} {ds : List D} {vs : List V} (r : RpAll G H W ds vs) : RpAll G H W ds.dropLast vs.dropLast := by
  rw [List.dropLast_eq_take, List.dropLast_eq_take, r.length]
  exact r.take _
end
end DL
namespace PySem
end PySem
namespace DL
open PySem L2
variable [TabC]
end DL
namespace DL
open PySem L2
variable [TabC]
omit [TabC] in
def zipF : List D → List D → List D
  | d :: ds, e :: es => .tup [d, e] :: zipF ds es
  | _, _ => []
omit [TabC] in
theorem zipF_length : ∀ (ds es : List D), (zipF ds es).length = min ds.length es.length
  | [], _ => by simp [zipF]
  | _ :: _, [] => by simp [zipF]
  | d :: ds, e :: es => by simp [zipF, zipF_length ds es]
omit [TabC] in
theorem zipF_get : ∀ (ds es : List D) (i : Nat) (x y : D), ds[i]? = some x → es[i]? = some y → (zipF ds es)[i]? = some (.tup [x, y])
  | [], _, _, _, _, h, _ => by simp at h
  | _ :: _, [], _, _, _, _, h => by simp at h
  | d :: ds, e :: es, 0, x, y, h1, h2 => by cases h1; cases h2; rfl
  | d :: ds, e :: es, i + 1, x, y, h1, h2 => zipF_get ds es i x y h1 h2
omit [TabC] in
def zipA : List Arg → Option (List D)
  | [.val (.lst ds), .val (.lst es)] => some (zipF ds es)
  | [.val (.tup ds), .val (.tup es)] => some (zipF ds es)
  | _ => none
theorem walkD_pair {G : Gc} {W0 : List Addr} {H0 : Hp} {J : It} {ps : List D} (le : ps.length ≤ sizeLine) (go : ∀ (H : Hp) (i : Nat), Fm W0 H0 H → i < ps.length → J.go i H) (stop : ∀ (H : Hp), Fm W0 H0 H → J.stop ps.length H)
    (yld : ∀ (H : Hp) (i : Nat) (x : V) (H' : Hp), Fm W0 H0 H → J.yld i H x H' → i < ps.length → ∃ T v1 v2 d1 d2, x = .ref T ∧ H T = none ∧ H' = upd H T (.tup [v1, v2]) ∧ ps[i]? = some (.tup [d1, d2]) ∧ Rp G H0 W0 d1 v1 ∧ Rp G H0 W0 d2 v2) : WalkD G W0 H0 J ps := by
  refine ⟨le, go, stop, fun H i x H' f y l => ?_⟩
  obtain ⟨T, v1, v2, d1, d2, rfl, hT, rfl, hp, r1, r2⟩ := yld H i x H' f y l
  refine ⟨fm_new hT, fun W d hd wb => ?_⟩
  rw [hp] at hd
  cases hd
  have m := (fm_mo f wb)
  have nT : T ∉ W := fun z => (wb T z).2 hT
  have m2 : Mo W W H (upd H T (.tup [v1, v2])) := ⟨(fm_new hT).mono fun _ z => absurd z (by simp), fun _ z => .inl z⟩
  refine ⟨T, [v1, v2], rfl, upd_same, by show 2 ≤ sizeLine; decide, v1, [v2], rfl, Rp.mo m2 _ _ (Rp.mo m _ _ r1), v2, [], rfl, Rp.mo m2 _ _ (Rp.mo m _ _ r2), rfl⟩
section
variable {X : Cx} {e e2 : Expr} {pos p tpos : Pos} {elts : List Expr} {kk : Nat} {am : AM} {at1 : TA}
theorem di_zip (hm : X.mg "zip" = none) (ha : DA X [e, e2] at1 am) (hg : Gl X "zip" := by rfl) (hs : starEach [e, e2] X.env = (false, eval e X.env) :: starEach [e2] X.env := by rfl) (hpl : (backTo pos (starEach [e2] X.env)).any (·.1) = false := by rfl) :
    DI X (.Tuple elts kk tpos) (.Call (.Name "zip" p) [e, e2] [] pos) (RZ.iZipA X.K at1) (iArg zipA am) := by
  refine ⟨RZ.pi_zipA hg hm ha.pe hs hpl, fun Γ σ H ρ ds ρ' R s h k => ?_⟩
  obtain ⟨as, e1, e2⟩ := iArg_some h
  refine ha.q Γ σ H ρ _ _ _ s e1 fun vs H1 a1 r1 => ?_
  match as, e2, r1 with
  | [.val (.lst ds0), .val (.lst es0)], e2, r1 =>
    cases e2
    obtain ⟨x, xs, rfl, ⟨a, vs, rfl, fa, la, ra⟩, y, ys, rfl, ⟨b, ws, rfl, fb, lb, rb⟩, rr⟩ := r1
    cases (show ys = [] from rr)
    refine ⟨a, b, vs, ws, rfl, .inl ⟨fa.sq, fb.sq, k _ H1 a1 ?_⟩⟩
    have sq : ∀ H, Fm (Γ.w σ ρ') H1 H → SqL X.K H a vs ∧ SqL X.K H b ws := fun H f => ⟨.inl (f.rd fa.1 fa.2), .inl (f.rd fb.1 fb.2)⟩
    have w := walk_zip (K := X.K) (a := a) (b := b) (xs := vs) (ys := ws) (n := min ds0.length es0.length) (by rw [ra.length, rb.length])
    refine walkD_pair (by rw [zipF_length]; omega) (fun H i f l => w.goes i H (by rwa [zipF_length] at l) (sq H f)) (fun H f => by rw [zipF_length]; exact w.stops H (sq H f)) fun H i x H' f y l => ?_
    rw [zipF_length] at l
    obtain ⟨T, v1, v2, e1, e2, e3, e4, e5⟩ := w.yields i H x H' l (sq H f) y
    have l1 : i < ds0.length := by omega
    have l2 : i < es0.length := by omega
    obtain ⟨v, hv, rv⟩ := ra.get (List.getElem?_eq_getElem l1)
    obtain ⟨u, hu, ru⟩ := rb.get (List.getElem?_eq_getElem l2)
    replace e4 : vs[i]? = some v1 := e4
    replace e5 : ws[i]? = some v2 := e5
    rw [hv] at e4
    rw [hu] at e5
    cases e4
    cases e5
    exact ⟨T, _, _, ds0[i], es0[i], e1, e2, e3, zipF_get _ _ i _ _ (List.getElem?_eq_getElem l1) (List.getElem?_eq_getElem l2), rv, ru⟩
  | [.val (.tup ds0), .val (.tup es0)], e2, r1 =>
    cases e2
    obtain ⟨x, xs, rfl, ⟨a, vs, rfl, fa, la, ra⟩, y, ys, rfl, ⟨b, ws, rfl, fb, lb, rb⟩, rr⟩ := r1
    cases (show ys = [] from rr)
    refine ⟨a, b, vs, ws, rfl, .inr ⟨fa.sq, fb.sq, k _ H1 a1 ?_⟩⟩
    have sqa : ∀ H, Fm (Γ.w σ ρ') H1 H → SqT X.K H a vs := fun H f => by
      exact .inl (.inl (f _ _ (fun _ => rfl) fa rfl))
    have sqb : ∀ H, Fm (Γ.w σ ρ') H1 H → SqT X.K H b ws := fun H f => by
      exact .inl (.inl (f _ _ (fun _ => rfl) fb rfl))
    have ea := ra.length
    have eb := rb.length
    refine walkD_pair (by rw [zipF_length]; omega) (fun H i f l => ?_) (fun H f => ?_) fun H i x H' f y l => ?_
    · rw [zipF_length] at l
      exact ⟨vs, ws, vs[i]'(by omega), ws[i]'(by omega), sqa H f, sqb H f, List.getElem?_eq_getElem _, List.getElem?_eq_getElem _⟩
    · rw [zipF_length]
      exact ⟨vs, ws, sqa H f, sqb H f, by omega⟩
    · rw [zipF_length] at l
      obtain ⟨T, v1, v2, e1, e2, e3, e4, e5⟩ := y
      have l1 : i < ds0.length := by omega
      have l2 : i < es0.length := by omega
      obtain ⟨v, hv, rv⟩ := ra.get (List.getElem?_eq_getElem l1)
      obtain ⟨u, hu, ru⟩ := rb.get (List.getElem?_eq_getElem l2)
      have e6 := e4 vs (sqa H f)
      have e7 := e5 ws (sqb H f)
      rw [hv] at e6
      rw [hu] at e7
      cases e6
      cases e7
      exact ⟨T, _, _, ds0[i], es0[i], e1, e2, e3, zipF_get _ _ i _ _ (List.getElem?_eq_getElem l1) (List.getElem?_eq_getElem l2), rv, ru⟩
end
omit [TabC] in
def permA (perm : List Nat) (as : List Arg) : List Arg := perm.map fun i => as.getD i (.val .non)
omit [TabC] in
def permV (perm : List Nat) (vs : List V) : List V := perm.map fun i => vs.getD i .non
omit [TabC] in
def permU (perm : List Nat) (us : List Value) : List Value := perm.map fun i => us.getD i .none
omit [TabC] in
def eCallK (perm : List Nat) (n m : Nat) (fn : FnSem) (a b : AM) : EM := fun ρ => (a ρ).bind fun p => (b p.2).bind fun q => if decide (p.1.length = n) && decide (q.1.length = m) && perm.all (fun i => decide (i < n + m)) then callS fn (permA perm (p.1 ++ q.1)) q.2 else none
/-- a def's binding of a call with keywords -/
structure FnK (P : Program) (w : World) (K : PySem.W.Frag) (mg : Str → Option Value) (base : Heap) (x : Str) (k : Nat) (ps ks : List Str) (n : Nat) (perm : List Nat) (fn : FnSem) : Prop where
  ex : ∃ (f : Addr) (fd : FuncData), mg x = some (.ref f) ∧ PySem.W.keepIn K (.ref f) = true ∧ KBn K fd ps n ks (fun us ws => permU perm (us ++ ws)) (fun vs zs => permV perm (vs ++ zs)) ∧ FnOk P w K mg base CX0 k f fd ps (spF ⟨K, mg⟩ fn)
structure DK (X : Cx) (kws : List Keyword) (t : TA) (m : AM) : Prop where
  pe : PK X kws t
  q : ∀ (Γ : Gam) (σ : L2.St) (H : Hp) (ρ : Env) (as : List Arg) (ρ' : Env) (Q : List V → Hp → Prop), Sr Γ X.G H σ ρ → m ρ = some (as, ρ') →
    (∀ vs H', Po Γ X.G σ ρ H ρ' H' → ArR X.G H' (Γ.w σ ρ') σ as vs → Q vs H') → t σ H Q
omit [TabC] in
theorem ArR.length {G : Gc} {H : Hp} {W : List Addr} {σ : L2.St} : ∀ {as : List Arg} {vs : List V}, ArR G H W σ as vs → vs.length = as.length
  | [], _, h => by rw [show _ = [] from h]; rfl
  | .val d :: r, _, ⟨x, xs, e, _, q⟩ => by rw [e, List.length_cons, List.length_cons, ArR.length q]
  | .slot i :: r, _, ⟨x, xs, e, _, q⟩ => by rw [e, List.length_cons, List.length_cons, ArR.length q]
omit [TabC] in
theorem ArR.app {G : Gc} {H : Hp} {W : List Addr} {σ : L2.St} : ∀ {as bs : List Arg} {vs ws : List V}, ArR G H W σ as vs → ArR G H W σ bs ws → ArR G H W σ (as ++ bs) (vs ++ ws)
  | [], _, _, _, h, q => by cases (show _ = [] from h); exact q
  | .val d :: r, _, _, _, ⟨x, xs, e, rx, k⟩, q => ⟨x, xs ++ _, by rw [e]; rfl, rx, ArR.app k q⟩
  | .slot i :: r, _, _, _, ⟨x, xs, e, rx, k⟩, q => ⟨x, xs ++ _, by rw [e]; rfl, rx, ArR.app k q⟩
omit [TabC] in
theorem ArR.get {G : Gc} {H : Hp} {W : List Addr} {σ : L2.St} : ∀ {as : List Arg} {vs : List V} {i : Nat} {a : Arg}, ArR G H W σ as vs → as[i]? = some a → ∃ v, vs[i]? = some v ∧ ArR G H W σ [a] [v]
  | [], _, _, _, _, h => by simp at h
  | .val d :: r, _, 0, _, ⟨x, xs, e, rx, k⟩, h => by cases h; exact ⟨x, by rw [e]; rfl, x, [], rfl, rx, rfl⟩
  | .slot d :: r, _, 0, _, ⟨x, xs, e, rx, k⟩, h => by cases h; exact ⟨x, by rw [e]; rfl, x, [], rfl, rx, rfl⟩
  | .val d :: r, _, i + 1, _, ⟨x, xs, e, rx, k⟩, h => by
    obtain ⟨v, h1, h2⟩ := ArR.get (i := i) k h
    exact ⟨v, by rw [e]; exact h1, h2⟩
  | .slot d :: r, _, i + 1, _, ⟨x, xs, e, rx, k⟩, h => by
    obtain ⟨v, h1, h2⟩ := ArR.get (i := i) k h
    exact ⟨v, by rw [e]; exact h1, h2⟩
omit [TabC] in
theorem ArR.perm {G : Gc} {H : Hp} {W : List Addr} {σ : L2.St} {as : List Arg} {vs : List V} (r : ArR G H W σ as vs) : ∀ {perm : List Nat}, (∀ i ∈ perm, i < as.length) → ArR G H W σ (permA perm as) (permV perm vs)
  | [], _ => rfl
  | i :: perm, h => by
    have il := h i List.mem_cons_self
    obtain ⟨v, h1, h2⟩ := r.get (List.getElem?_eq_getElem il)
    have e1 : permA (i :: perm) as = [as[i]] ++ permA perm as := by simp [permA, List.getD_eq_getElem?_getD, List.getElem?_eq_getElem il]
    have e2 : permV (i :: perm) vs = [v] ++ permV perm vs := by simp [permV, List.getD_eq_getElem?_getD, h1]
    rw [e1, e2]
    exact h2.app (ArR.perm r fun j hj => h j (List.mem_cons_of_mem _ hj))
section
variable {X : Cx} {e : Expr} {es : List Expr} {kws : List Keyword} {pos p kpos : Pos} {am bm : AM} {m : EM} {te : TE} {at1 at2 : TA} {x : Str} {k n : Nat} {ps ks : List Str} {perm : List Nat} {fn : FnSem} {nm : Option Str}
theorem dk_nil : DK X [] tNil aNil := ⟨pk_nil, fun Γ σ H ρ as ρ' Q s h k => by
  cases h
  exact k [] H (Po.refl s) rfl⟩
theorem dk_cons (ha : DE X e te m) (hr : DK X kws at1 am) : DK X (⟨nm, e, kpos⟩ :: kws) (tCons te at1) (aCons m am) := by
  refine ⟨pk_cons ha.pe hr.pe, fun Γ σ H ρ as ρ' Q s h k => ?_⟩
  unfold aCons at h
  cases e1 : m ρ with
  | none => rw [e1] at h; cases h
  | some p =>
    rw [e1] at h
    replace h : ((am p.2).map fun q => (.val p.1 :: q.1, q.2)) = some (as, ρ') := h
    cases e2 : am p.2 with
    | none => rw [e2] at h; cases h
    | some q =>
      rw [e2] at h
      cases h
      refine ha.q Γ σ H ρ p.1 p.2 _ s e1 fun v H1 a1 r1 => ?_
      refine hr.q Γ σ H1 p.2 q.1 q.2 _ a1.sr e2 fun vs H2 a2 r2 => ?_
      exact k _ H2 (a1.trans a2) ⟨v, vs, rfl, Rp.mo (a2.mo a1.sr) _ _ r1, r2⟩
theorem callK_q {E : XK} (q1 : ∀ (Γ : Gam) (σ : L2.St) (H : Hp) (ρ : Env) (as : List Arg) (ρ' : Env) (Q : List V → Hp → Prop), Sr Γ X.G H σ ρ → am ρ = some (as, ρ') → (∀ vs H', Po Γ X.G σ ρ H ρ' H' → ArR X.G H' (Γ.w σ ρ') σ as vs → Q vs H') → at1 σ H Q)
    (q2 : ∀ (Γ : Gam) (σ : L2.St) (H : Hp) (ρ : Env) (as : List Arg) (ρ' : Env) (Q : List V → Hp → Prop), Sr Γ X.G H σ ρ → bm ρ = some (as, ρ') → (∀ vs H', Po Γ X.G σ ρ H ρ' H' → ArR X.G H' (Γ.w σ ρ') σ as vs → Q vs H') → at2 σ H Q)
    (Γ : Gam) (σ : L2.St) (H : Hp) (ρ : Env) (d : D) (ρ' : Env) (Q : VK) (s : Sr Γ X.G H σ ρ) (h : eCallK perm n ks.length fn am bm ρ = some (d, ρ')) (kk : ∀ v H', Po Γ X.G σ ρ H ρ' H' → Rp X.G H' (Γ.w σ ρ') d v → Q v H') :
    tCallN n ks.length (spF X.G fn) (fun vs zs => permV perm (vs ++ zs)) E at1 at2 σ H Q := by
  unfold eCallK at h
  cases e1 : am ρ with
  | none => rw [e1] at h; cases h
  | some r1 =>
  rw [e1] at h
  simp only [Option.bind_some] at h
  cases e2 : bm r1.2 with
  | none => rw [e2] at h; cases h
  | some r2 =>
  rw [e2] at h
  simp only [Option.bind_some] at h
  split at h
  · rename_i l
    rw [Bool.and_eq_true, Bool.and_eq_true] at l
    have l1 := of_decide_eq_true l.1.1
    have l2 := of_decide_eq_true l.1.2
    refine q1 Γ σ H ρ r1.1 r1.2 _ s e1 fun vs H1 a1 ar => ?_
    refine q2 Γ σ H1 r1.2 r2.1 r2.2 _ a1.sr e2 fun zs H2 a2 br => ?_
    have ar2 := ArR.mo (a2.mo a1.sr) _ _ ar
    refine ⟨ar.length.trans l1, br.length.trans l2, ?_⟩
    refine call_core a2.sr ((ar2.app br).perm fun i hi => ?_) h fun v H3 po rv => kk v H3 ((a1.trans a2).trans po) rv
    rw [List.length_append, l1, l2]
    exact of_decide_eq_true (List.all_eq_true.mp l.2 i hi)
  · cases h
theorem de_callK0 (F : FnK X.prog X.w X.K X.mg X.base x k ps ks 0 perm fn) (hr : Room k X.A) (hkw : DK X kws at2 bm) (hg : Gl X x := by rfl) (hall : (backToKw pos (keywordEach kws X.env)).all (·.1.isSome) = true := by rfl) (hks : (backToKw pos (keywordEach kws X.env)).filterMap (·.1) = ks := by rfl)
    (hdb : (x == ("__debug__" : Str)) = false := by decide) (hpl : ((backTo pos (starEach [] X.env)).any (·.1) || (backToKw pos (keywordEach kws X.env)).any (·.1.isNone)) = false := by rfl) :
    DE X (.Call (.Name x p) [] kws pos) (tCallN 0 ks.length (spF X.G fn) (fun vs zs => permV perm (vs ++ zs)) E0 tNil at2) (eCallK perm 0 ks.length fn aNil bm) := by
  obtain ⟨f, fd, h1, h2, h3, h4⟩ := F.ex
  refine ⟨⟨fun pins s σ H Q I h => ?_⟩, callK_q (fun Γ σ H ρ as ρ' Q s h k => by
    cases h
    exact k [] H (Po.refl s) rfl) hkw.q⟩
  refine wpAny_Call_Name_kw (ld_glob I hg h1 ?_ hdb)
  refine PySem.W.callWith_KW0 (h₀ := X.base) I.ok.mod.kin h2 hall ?_ hpl
  refine thn (hkw.pe.run pos pins s σ H _ I h) fun ws s2 ⟨zs, H2, I2, rz, l1, l2, q2⟩ => ⟨I2.kIn, ?_⟩
  rw [hks]
  exact run_fnN (us := []) (vs := []) h4 hr h3 pass0 I2 .nil rz l1 l2 q2
end
omit [TabC] in
abbrev OM := Env → Option (Option Int × Env)
structure DO (X : Cx) (e : Option Expr) (t : TO) (m : OM) : Prop where
  pe : PO X e t
  q : ∀ (Γ : Gam) (σ : L2.St) (H : Hp) (ρ : Env) (d : Option Int) (ρ' : Env) (Q : Option Int → Hp → Prop), Sr Γ X.G H σ ρ → m ρ = some (d, ρ') → (∀ H', Po Γ X.G σ ρ H ρ' H' → Q d H') → t σ H Q
omit [TabC] in
def oNo : OM := fun ρ => some (none, ρ)
omit [TabC] in
def oSome (m : EM) : OM := fun ρ => (m ρ).bind fun p => match p.1 with
  | .int i => some (some i, p.2)
  | _ => none
omit [TabC] in
def cutD (xs : List D) (lo hi : Option Int) : List D := (xs.drop (HT.sIx xs.length 0 lo)).take (HT.sIx xs.length xs.length hi - HT.sIx xs.length 0 lo)
omit [TabC] in
def sliceD : D → Option Int → Option Int → Option D
  | .lst xs, lo, hi => some (.lst (cutD xs lo hi))
  | .tup xs, lo, hi => some (.tup (cutD xs lo hi))
  | _, _, _ => none
omit [TabC] in
def eSlice (a : EM) (lo hi : OM) : EM := fun ρ => (a ρ).bind fun p => (lo p.2).bind fun l => (hi l.2).bind fun h => (sliceD p.1 l.1 h.1).map fun z => (z, h.2)
omit [TabC] in
def revD : D → Option D
  | .lst xs => some (.lst xs.reverse)
  | _ => none
omit [TabC] in
theorem cutD_rp {G : Gc} {H : Hp} {W : List Addr} {ds : List D} {vs : List V} (r : RpAll G H W ds vs) (lo hi : Option Int) : RpAll G H W (cutD ds lo hi) (cutV vs lo hi) := by
  unfold cutD cutV
  rw [r.length]
  exact (r.drop _).take _
omit [TabC] in
theorem cutD_length (ds : List D) (lo hi : Option Int) : (cutD ds lo hi).length ≤ ds.length := by
  unfold cutD
  rw [List.length_take, List.length_drop]
  omega
omit [TabC] in
theorem cutD_all {ds : List D} {lo hi : Option Int} (h : HT.sIx ds.length 0 lo = 0 ∧ HT.sIx ds.length ds.length hi = ds.length) : cutD ds lo hi = ds := by
  unfold cutD
  rw [h.1, h.2]
  simp
section
variable {X : Cx} {e : Expr} {lo hi : Option Expr} {pos p2 : Pos} {m : EM} {te : TE} {ml mh : OM} {tl th : TO}
theorem do_none : DO X none tNoPart oNo := ⟨po_none, fun Γ σ H ρ d ρ' Q s h k => by
  cases h
  exact k H (Po.refl s)⟩
theorem do_some (h : DE X e te m) : DO X (some e) (tPart te) (oSome m) := by
  refine ⟨po_some h.pe, fun Γ σ H ρ d ρ' Q s hm k => ?_⟩
  unfold oSome at hm
  cases e1 : m ρ with
  | none => rw [e1] at hm; cases hm
  | some p =>
    rw [e1] at hm
    obtain ⟨d0, ρ0⟩ := p
    cases d0 with
    | int i =>
      cases hm
      exact h.q Γ σ H ρ _ _ _ s e1 fun v H1 a1 r1 => ⟨i, r1, k H1 a1⟩
    | _ => cases hm
omit [TabC] in
abbrev rSlX (K : PySem.W.Frag) : V → Option Int → Option Int → Hp → VK → Prop := fun x lo hi H Q => rSlL K x lo hi H Q ∨ rSlA K x lo hi H Q
theorem de_slice (he : DE X e te m) (hl : DO X lo tl ml) (hu : DO X hi th mh) : DE X (.Subscript e (.Slice lo hi none p2) pos) (tSl (rSlX X.K) te tl th) (eSlice m ml mh) := by
  refine ⟨pe_slice (sl_list.or sl_tupA) he.pe hl.pe hu.pe, fun Γ σ H ρ d ρ' Q s h k => ?_⟩
  unfold eSlice at h
  cases e1 : m ρ with
  | none => rw [e1] at h; cases h
  | some r1 =>
  rw [e1] at h
  simp only [Option.bind_some] at h
  cases e2 : ml r1.2 with
  | none => rw [e2] at h; cases h
  | some r2 =>
  rw [e2] at h
  simp only [Option.bind_some] at h
  cases e3 : mh r2.2 with
  | none => rw [e3] at h; cases h
  | some r3 =>
  rw [e3] at h
  simp only [Option.bind_some] at h
  cases e4 : sliceD r1.1 r2.1 r3.1 with
  | none => rw [e4] at h; cases h
  | some z =>
  rw [e4] at h
  cases h
  refine he.q Γ σ H ρ _ _ _ s e1 fun v H1 a1 rv => ?_
  refine hl.q Γ σ H1 _ _ _ _ a1.sr e2 fun H2 a2 => ?_
  refine hu.q Γ σ H2 _ _ _ _ a2.sr e3 fun H3 a3 => ?_
  have rv3 := Rp.mo ((a2.trans a3).mo a1.sr) _ _ rv
  have sr3 := a3.sr
  have fin : ∀ {v' : V} {H4 : Hp}, Fm [] H3 H4 → Rp X.G H4 (Γ.w σ r3.2) d v' → Q v' H4 := fun {v' H4} f r => k v' H4 (((a1.trans a2).trans a3).trans (sr3.po f)) r
  cases hd : r1.1 with
  | lst ds =>
    rw [hd] at rv3 e4
    cases e4
    obtain ⟨a, vs, rfl, fa, la, ra⟩ := rv3
    refine .inl ⟨a, vs, rfl, fa.sq, fun p n => fin (fm_new n) ⟨p, _, rfl, ⟨new_out sr3.w_th n, .inl upd_same⟩, Nat.le_trans (cutD_length _ _ _) la, RpAll.mo (new_mo (G := X.G) n) _ _ (cutD_rp ra _ _)⟩⟩
  | tup ds =>
    rw [hd] at rv3 e4
    cases e4
    have rv4 := rv3
    obtain ⟨a, vs, rfl, fa, la, ra⟩ := rv3
    refine .inr ⟨a, vs, rfl, fa.sq, fun hw => ?_, fun _ p n => fin (fm_new n) ⟨p, _, rfl, upd_same, Nat.le_trans (cutD_length _ _ _) la, RpAll.mo (new_mo (G := X.G) n) _ _ (cutD_rp ra _ _)⟩⟩
    rw [ra.length] at hw
    rw [cutD_all hw] at fin
    exact fin (Fm.refl _ _) rv4
  | _ => rw [hd] at e4; cases e4
theorem de_revL {k0 : Nat} {q1 q2 q3 : Pos} (he : DE X e te m) : DE X (.Subscript e (.Slice none none (some (.UnaryOp .USub (.Constant (.int 1) k0 q1) q2)) q3) pos) (tRevL X.K te) (eOp1 revD m) := by
  refine ⟨pe_revL he.pe, fun Γ σ H ρ d ρ' Q s h k => ?_⟩
  unfold eOp1 at h
  cases e1 : m ρ with
  | none => rw [e1] at h; cases h
  | some p =>
    rw [e1] at h
    obtain ⟨d0, ρ0⟩ := p
    cases d0 with
    | lst ds =>
      cases h
      refine he.q Γ σ H ρ _ _ _ s e1 fun v H1 a1 r1 => ?_
      obtain ⟨a, vs, rfl, fa, la, ra⟩ := r1
      refine ⟨a, vs, rfl, fa.sq, fun p n => k _ _ (a1.trans (a1.sr.po (fm_new n))) ⟨p, _, rfl, ⟨new_out a1.sr.w_th n, .inl upd_same⟩, by rw [List.length_reverse]; exact la, RpAll.mo (new_mo (G := X.G) n) _ _ ra.rev⟩⟩
    | _ => cases h
end
end DL
namespace DL
open PySem L2
variable [TabC]
omit [TabC] in
def sAsg (m : EM) (g : GM) : SM := fun ρ => (m ρ).bind fun p => (g p.1 p.2).bind fun ρ' => some (.nx ρ')
omit [TabC] in
def sPar (i j : Nat) (a : AM) : SM := fun ρ => (a ρ).bind fun p => (vals p.1).bind fun ds => match ds with
  | [x, y] => (putV i x p.2).bind fun ρ1 => (putV j y ρ1).bind fun ρ2 => some (.nx ρ2)
  | _ => none
omit [TabC] in
def sPar3 (i j l : Nat) (a : AM) : SM := fun ρ => (a ρ).bind fun p => (vals p.1).bind fun ds => match ds with
  | [x, y, z] => (putV i x p.2).bind fun ρ1 => (putV j y ρ1).bind fun ρ2 => (putV l z ρ2).bind fun ρ3 => some (.nx ρ3)
  | _ => none
omit [TabC] in
/-- x[i] = e, x an own object -/
def sStore (T : String) (x : Nat) (f : D → D → D → Option D) (mi : EM) (me : EM) : SM := fun ρ => (me ρ).bind fun p => (stO p.2 x).bind fun _ => (mi p.2).bind fun q => (stO q.2 x).bind fun d => (f d q.1 p.1).bind fun d' => some (.nx (setO x d' q.2))
omit [TabC] in
def setL : D → D → D → Option D
  | .lst xs, .int i, d => (ixN xs.length i).map fun j => .lst (xs.set j d)
  | _, _, _ => none
def StoreD (G : Gc) (r : V → V → V → Hp → (Hp → Prop) → Prop) (f : D → D → D → Option D) : Prop := ∀ (H : Hp) (W : List Addr) (a : Addr) (i v : V) (d di dv d' : D) (Q : Hp → Prop), a ∈ W → (∀ a ∈ W, H a ≠ none) → Ow G H W d a → Rp G H W di i → Rp G H W dv v → f d di dv = some d' →
  (∀ H', Fm [a] H H' → Ow G H' W d' a → Q H') → r (.ref a) i v H Q
section
variable {X : Cx} {e tg a b c oi : Expr} {pos : Pos} {m mi : EM} {te ti : TE} {is : List Nat} {g : GM} {tg1 : TG} {am : AM} {at1 : TA}
theorem ds_asg (he : DE X e te m) (hg : DG X tg tg1 is g) (hs : swapsWithSole [tg] e pos.line X.env = pure false := by rfl) (hw : swappedStores [tg] e X.env = pure none := by rfl)
    (h1 : (assignEach [tg] X.env).map (·.2) = [assign tg X.env] := by rfl) : DS X (.Assign [tg] e pos) (tAsg te tg1) (sAsg m g) := by
  refine ⟨ps_asg he.pe hg.pe hs hw h1, fun Γ σ H ρ o E s h f => ?_⟩
  unfold sAsg at h
  cases e1 : m ρ with
  | none => rw [e1] at h; cases h
  | some r =>
    rw [e1] at h
    simp only [Option.bind_some] at h
    cases e2 : g r.1 r.2 with
    | none => rw [e2] at h; cases h
    | some ρ2 =>
      rw [e2] at h
      cases h
      refine he.q Γ σ H ρ _ _ _ s e1 fun v H1 a1 rv => ?_
      exact hg.q Γ σ H1 _ _ v ρ2 _ a1.sr rv e2 fun σ2 a2 _ => f σ2 H1 (a1.so.trans a2)
omit [TabC] in
theorem three_of {G : Gc} {H : Hp} {W : List Addr} {d e f : D} {vs : List V} (r : RpAll G H W [d, e, f] vs) : ∃ x y z, vs = [x, y, z] ∧ Rp G H W d x ∧ Rp G H W e y ∧ Rp G H W f z := by
  obtain ⟨x, xs, ex, h, k⟩ := r
  obtain ⟨y, z, rfl, h2, h3⟩ := two_of k
  exact ⟨x, y, z, ex, h, h2, h3⟩
theorem ds_par3 (i j l : Nat) {x y z : Str} {px py pz pt : Pos} {kt k2 pt2} (hc : X.calm = true) (hN : X.N.Nodup) (ha : DA X [a, b, c] at1 am) (hi : X.N[i]? = some x := by rfl) (hj : X.N[j]? = some y := by rfl) (hl : X.N[l]? = some z := by rfl) (hij : i ≠ j := by decide) (hil : i ≠ l := by decide) (hjl : j ≠ l := by decide)
    (hx : X.env.scope.names.lookup x = some .local := by rfl) (hy : X.env.scope.names.lookup y = some .local := by rfl) (hz : X.env.scope.names.lookup z = some .local := by rfl)
    (hw : swappedStores [.Tuple [.Name x px, .Name y py, .Name z pz] kt pt] (.Tuple [a, b, c] k2 pt2) X.env = pure (some [x, y, z]) := by rfl)
    (hs : swapsWithSole [.Tuple [.Name x px, .Name y py, .Name z pz] kt pt] (.Tuple [a, b, c] k2 pt2) pos.line X.env = pure false := by rfl) :
    DS X (.Assign [.Tuple [.Name x px, .Name y py, .Name z pz] kt pt] (.Tuple [a, b, c] k2 pt2) pos) (tPar3 i j l at1) (sPar3 i j l am) := by
  refine ⟨ps_par3 hc hN hi hj hl hij hil hjl hx hy hz ha.pe hw hs, fun Γ σ H ρ o E s h f => ?_⟩
  unfold sPar3 at h
  cases e1 : am ρ with
  | none => rw [e1] at h; cases h
  | some r =>
  rw [e1] at h
  simp only [Option.bind_some] at h
  cases e2 : vals r.1 with
  | none => rw [e2] at h; cases h
  | some ds =>
  rw [e2] at h
  match ds, e2, h with
  | [d1, d2, d3], e2, h =>
    simp only [Option.bind_some] at h
    cases e3 : putV i d1 r.2 with
    | none => rw [e3] at h; cases h
    | some ρ1 =>
    rw [e3] at h
    simp only [Option.bind_some] at h
    cases e4 : putV j d2 ρ1 with
    | none => rw [e4] at h; cases h
    | some ρ2 =>
    rw [e4] at h
    simp only [Option.bind_some] at h
    cases e5 : putV l d3 ρ2 with
    | none => rw [e5] at h; cases h
    | some ρ3 =>
    rw [e5] at h
    cases h
    refine ha.q Γ σ H ρ _ _ _ s e1 fun vs H1 a1 ar => ?_
    obtain ⟨v, w, u, rfl, r1, r2, r3⟩ := three_of (ar.vals e2)
    have b1 := a1.sr.put e3 r1
    have b2 := b1.sr.put e4 (Rp.mo (b1.mo a1.sr) _ _ r2)
    have b3 := b2.sr.put e5 (Rp.mo ((b1.trans b2).mo a1.sr) _ _ r3)
    exact ⟨v, w, u, rfl, f _ H1 (a1.so.trans ((b1.trans b2).trans b3))⟩
theorem sd_set : StoreD X.G rSetL setL := by
  intro H W a i v d di dv d' Q ha th ow ri rv e q
  match d, di, e with
  | .lst xs, .int n, e =>
    simp only [setL] at e
    cases e1 : ixN xs.length n with
    | none => rw [e1] at e; cases e
    | some j =>
      rw [e1] at e
      cases e
      obtain ⟨vs, hv, lv, rvs⟩ := ow
      refine ⟨a, vs, n, j, rfl, ri, hv, by rw [rvs.length]; exact e1, q _ (wr_fm hv) ⟨vs.set j v, upd_same, by rw [List.length_set]; exact lv, RpAll.mo (wr_mo ha hv) _ _ ?_⟩⟩
      have key : ∀ (xs : List D) (vs : List V) (j : Nat), RpAll X.G H W xs vs → RpAll X.G H W (xs.set j dv) (vs.set j v) := by
        intro xs
        induction xs with
        | nil => intro vs j r; cases (show vs = [] from r); exact rfl
        | cons y ys ih =>
          intro vs j r
          obtain ⟨u, us, rfl, r1, r2⟩ := r
          cases j with
          | zero => exact ⟨v, us, rfl, rv, r2⟩
          | succ j => exact ⟨u, _, rfl, r1, ih us j r2⟩
      exact key xs vs j rvs
theorem ds_store (x : Nat) {T : String} {nx : Str} {p : Pos} {tpos : Pos} {r : V → V → V → Hp → (Hp → Prop) → Prop} {f : D → D → D → Option D} (he : DE X e te m) (hi : DE X oi ti mi) (hr : PSet X r) (od : StoreD X.G r f) (hN : X.N[x]? = some nx := by rfl)
    (hv : Vis X.env.scope nx := by first | exact Or.inl rfl | exact Or.inr (Or.inl rfl) | exact Or.inr (Or.inr rfl)) (hd : (nx == ("__debug__" : Str)) = false := by decide) (hcd : (nx == ("__classdict__" : Str)) = false := by decide)
    (ha : ∀ v, assign (.Subscript (.Name nx p) oi tpos) X.env v = (do
      let ov ← holding [v] (eval (.Name nx p) X.env)
      let iv ← holding [v, ov] (eval oi X.env)
      standAt tpos
      holding [v, ov, iv] (setItem ov iv v)
      release [v, ov, iv] []) := by intro _; rfl)
    (hs : swapsWithSole [.Subscript (.Name nx p) oi tpos] e pos.line X.env = pure false := by rfl) (hw : swappedStores [.Subscript (.Name nx p) oi tpos] e X.env = pure none := by rfl)
    (h1 : (assignEach [.Subscript (.Name nx p) oi tpos] X.env).map (·.2) = [assign (.Subscript (.Name nx p) oi tpos) X.env] := by rfl) :
    DS X (.Assign [.Subscript (.Name nx p) oi tpos] e pos) (tAsg te (gSub (tVar x) ti r)) (sStore T x f mi m) := by
  refine ⟨ps_asg he.pe (pg_sub (pe_var hN hv hd hcd) hi.pe hr ha) hs hw h1, fun Γ σ H ρ o E s h k => ?_⟩
  unfold sStore at h
  cases e1 : m ρ with
  | none => rw [e1] at h; cases h
  | some p1 =>
  rw [e1] at h
  simp only [Option.bind_some] at h
  cases e2 : stO p1.2 x with
  | none => rw [e2] at h; cases h
  | some d0 =>
  rw [e2] at h
  simp only [Option.bind_some] at h
  cases e3 : mi p1.2 with
  | none => rw [e3] at h; cases h
  | some q1 =>
  rw [e3] at h
  simp only [Option.bind_some] at h
  cases e4 : stO q1.2 x with
  | none => rw [e4] at h; cases h
  | some d1 =>
  rw [e4] at h
  simp only [Option.bind_some] at h
  cases e5 : f d1 q1.1 p1.1 with
  | none => rw [e5] at h; cases h
  | some d' =>
  rw [e5] at h
  cases h
  refine he.q Γ σ H ρ _ _ _ s e1 fun v H1 a1 rv => ?_
  obtain ⟨a, at0, _, _⟩ := a1.sr.stO e2
  refine ⟨.ref a, at0.1, hi.q Γ σ H1 _ _ _ _ a1.sr e3 fun iv H2 a2 ri => ?_⟩
  obtain ⟨b, at1', ow, mu⟩ := a2.sr.stO e4
  have eb : b = a := by have := at1'.1; rw [at0.1] at this; cases this; rfl
  subst eb
  refine od H2 (Γ.w σ q1.2) b iv v d1 q1.1 p1.1 d' _ (a2.sr.mu_w b mu) a2.sr.w_th ow ri (Rp.mo (a2.mo a1.sr) _ _ rv) e5 fun H3 f3 ow3 => ?_
  exact k σ H3 (((a1.trans a2).trans (a2.sr.change1 at1' e4 f3 ow3)).so)
omit [TabC] in
/-- x[i], x an own object -/
def eIxO (x : Nat) (mi : EM) : EM := fun ρ => (stO ρ x).bind fun _ => (mi ρ).bind fun p => (stO p.2 x).bind fun d => (ixD d p.1).map fun z => (z, p.2)
theorem de_ixO (x : Nat) {nx : Str} {p : Pos} (hi : DE X oi ti mi) (hN : X.N[x]? = some nx := by rfl)
    (hv : Vis X.env.scope nx := by first | exact Or.inl rfl | exact Or.inr (Or.inl rfl) | exact Or.inr (Or.inr rfl)) (hd : (nx == ("__debug__" : Str)) = false := by decide) (hcd : (nx == ("__classdict__" : Str)) = false := by decide) (hs : PlainIx oi := by exact fun _ _ => rfl) :
    DE X (.Subscript (.Name nx p) oi pos) (tOp (rIx X.K) (tVar x) ti) (eIxO x mi) := by
  refine ⟨pe_ix ix_seq (pe_var hN hv hd hcd) hi.pe hs, fun Γ σ H ρ d ρ' Q s h k => ?_⟩
  unfold eIxO at h
  cases e2 : stO ρ x with
  | none => rw [e2] at h; cases h
  | some d0 =>
  rw [e2] at h
  simp only [Option.bind_some] at h
  cases e3 : mi ρ with
  | none => rw [e3] at h; cases h
  | some q1 =>
  rw [e3] at h
  simp only [Option.bind_some] at h
  cases e4 : stO q1.2 x with
  | none => rw [e4] at h; cases h
  | some d1 =>
  rw [e4] at h
  simp only [Option.bind_some] at h
  cases e5 : ixD d1 q1.1 with
  | none => rw [e5] at h; cases h
  | some z =>
  rw [e5] at h
  cases h
  obtain ⟨a, at0, _, _⟩ := s.stO e2
  refine ⟨.ref a, at0.1, hi.q Γ σ H _ _ _ _ s e3 fun iv H2 a2 ri => ?_⟩
  obtain ⟨b, at1', ow, mu⟩ := a2.sr.stO e4
  have eb : b = a := by have := at1'.1; rw [at0.1] at this; cases this; rfl
  subst eb
  obtain ⟨q0, ρ0⟩ := q1
  cases d1 with
  | lst xs =>
    cases q0 with
    | int i =>
      obtain ⟨vs, hv, lv, rv⟩ := ow
      obtain ⟨v, hv2, rv2⟩ := atI_rp rv e5
      exact .inl ⟨b, vs, i, v, rfl, ri, .inl (.inl hv), hv2, k v H2 a2 rv2⟩
    | _ => cases e5
  | dT xs => cases q0 <;> cases e5
  | dK xs => cases q0 <;> cases e5
  | obj C fs => cases q0 <;> cases e5
  | _ => exact ow.elim
end
omit [TabC] in
def vwS : Sl → Sl
  | .o d => .v d
  | .p _ => .e
  | s => s
omit [TabC] in
def scal0 : D → Bool
  | .non => true
  | .bl _ => true
  | .int _ => true
  | .str _ => true
  | _ => false
omit [TabC] in
def scalD : D → Bool
  | .non => true
  | .bl _ => true
  | .int _ => true
  | .str _ => true
  | .tup ds => ds.all scal0
  | _ => false
omit [TabC] in
def eBor (m : EM) : EM := fun ρ => (m (ρ.map vwS)).bind fun p => if scalD p.1 then some (p.1, ρ) else none
section
variable {Γ : Gam} {G : Gc} {H H' : Hp} {σ : L2.St} {ρ ρ' : Env}
omit [TabC] in
theorem ownO_vw (σ : L2.St) (ρ : Env) : ownO σ (ρ.map vwS) = [] := ownO_none fun i d h => by
  rw [List.getElem?_map] at h
  cases e : ρ[i]? with
  | none => rw [e] at h; cases h
  | some s => rw [e] at h; cases s <;> cases h
theorem Sr.vw (s : Sr Γ G H σ ρ) : Sr ⟨Γ.U, []⟩ G H σ (ρ.map vwS) := by
  have eo := ownO_vw σ ρ
  have m : Mo (Γ.w σ ρ) Γ.U H H := ⟨Fm.refl _ _, fun b z => .inl (List.mem_append_right _ z)⟩
  refine ⟨by simpa using s.len, by rw [eo]; exact .nil, by rw [eo]; intro a z; exact absurd z (by simp), fun i t ht => ?_, fun p hp => absurd hp (by simp), .nil, s.th, s.tb⟩
  show ∃ x, _ ∧ SlR G H (ownO σ (ρ.map vwS) ++ Γ.U) [] i x t
  rw [eo, List.nil_append]
  rw [List.getElem?_map] at ht
  cases e : ρ[i]? with
  | none => rw [e] at ht; cases ht
  | some s0 =>
    rw [e] at ht
    obtain ⟨x, ex, q⟩ := s.sl i _ e
    refine ⟨x, ex, ?_⟩
    cases s0 with
    | e => cases ht; trivial
    | v d => cases ht; obtain ⟨v, e, r⟩ := q; exact ⟨v, e, Rp.mo m _ _ r⟩
    | o d =>
      cases ht
      obtain ⟨a, rfl, ow⟩ := q
      exact ⟨.ref a, rfl, ow.rp (fun z => s.out a (mem_ownO.mpr ⟨i, d, ex, e⟩) z) fun b z => List.mem_append_right _ z⟩
    | p d => cases ht; trivial
end
section
variable {X : Cx} {e : Expr} {m : EM} {te : TE}
end
end DL
namespace DL
open PySem L2
variable [TabC]
omit [TabC] in
def tyN : D → Option String
  | .non => some "NoneType"
  | .bl _ => some "bool"
  | .int _ => some "int"
  | .str _ => some "str"
  | .lst _ => some "list"
  | .tup _ => some "tuple"
  | _ => none
omit [TabC] in
/-- the answer of isinstance by names -/
def isiN : String → String → Bool
  | "bool", "int" => true
  | a, b => a == b
omit [TabC] in
def isiD (T : String) (d : D) : Option D := (tyN d).map fun a => .bl (isiN a T)
omit [TabC] in
def isiD2 (T U : String) (d : D) : Option D := (tyN d).map fun a => .bl (isiN a T || isiN a U)
omit [TabC] in
theorem tyX_of {G : Gc} {H : Hp} {W : List Addr} {d : D} {v : V} {a : String} (r : Rp G H W d v) (h : tyN d = some a) : TyX G.K H v (.type a) := by
  cases d with
  | non => cases h; cases (show v = .non from r); exact .base .non
  | bl b => cases h; cases (show v = .bl b from r); exact .base (.bl b)
  | int i => cases h; cases (show v = .int i from r); exact .base (.int i)
  | str i => cases h; cases (show v = .str i from r); exact .base (.str i)
  | lst ds =>
    cases h
    obtain ⟨b, vs, rfl, ⟨_, f⟩, _⟩ := r
    rcases f with f | ⟨o, f⟩
    · exact .base (.lst f)
    · exact .base (.frz f)
  | tup ds =>
    cases h
    obtain ⟨b, vs, rfl, f, _⟩ := r
    exact .base (.tup f)
  | _ => cases h
omit [TabC] in
def names : List String := ["NoneType", "bool", "int", "str", "list", "tuple"]
omit [TabC] in
theorem tyN_mem {d : D} {a : String} (h : tyN d = some a) : a ∈ names := by
  cases d <;> cases h <;> decide
omit [TabC] in
theorem kit_int : ∀ a ∈ names, kitB a "int" = some (isiN a "int") := by decide +kernel
omit [TabC] in
theorem kit_bool : ∀ a ∈ names, kitB a "bool" = some (isiN a "bool") := by decide +kernel
omit [TabC] in
theorem kit_str : ∀ a ∈ names, kitB a "str" = some (isiN a "str") := by decide +kernel
omit [TabC] in
theorem kit_list : ∀ a ∈ names, kitB a "list" = some (isiN a "list") := by decide +kernel
omit [TabC] in
theorem kit_tuple : ∀ a ∈ names, kitB a "tuple" = some (isiN a "tuple") := by decide +kernel
section
variable {X : Cx} {e : Expr} {pos p p2 p3 pt : Pos} {m : EM} {te : TE} {T U : String} {kk : Nat} {nT nU : Str}
theorem de_isi (hm : X.mg "isinstance" = none) (hT : X.mg nT = none) (hv : bootBuiltins nT = some (.type T)) (hk : ∀ a ∈ names, kitB a T = some (isiN a T)) (he : DE X e te m) (hg : Gl X "isinstance" := by rfl) (hgT : Gl X nT := by rfl)
    (hnT : nT ≠ "__name__" := by decide) (hdT : (nT == ("__debug__" : Str)) = false := by decide) (hs : starEach [e, .Name nT p2] X.env = (false, eval e X.env) :: starEach [.Name nT p2] X.env := by rfl) (hs2 : starEach [.Name nT p2] X.env = (false, eval (.Name nT p2) X.env) :: starEach [] X.env := by rfl)
    (hpl : (backTo pos (starEach [.Name nT p2] X.env)).any (·.1) = false := by rfl) :
    DE X (.Call (.Name "isinstance" p) [e, .Name nT p2] [] pos) (tCB (rIsi X.K) (tCons te (tCons (tC (.ty T)) tNil))) (eOp1 (isiD T) m) := by
  refine ⟨pe_callB call_isi hg hm (by decide +kernel) (pa_cons he.pe (pa_cons (pe_bltn hgT hT hv rfl hnT hdT) pa_nil hs2) hs) (by decide) (by decide) hs hpl, fun Γ σ H ρ d ρ' Q s h k => ?_⟩
  unfold eOp1 at h
  cases e1 : m ρ with
  | none => rw [e1] at h; cases h
  | some q =>
    rw [e1] at h
    simp only [Option.bind_some] at h
    unfold isiD at h
    cases e2 : tyN q.1 with
    | none => rw [e2] at h; cases h
    | some a =>
      rw [e2] at h
      cases h
      refine he.q Γ σ H ρ _ _ _ s e1 fun v H1 a1 r1 => ?_
      exact ⟨v, .ty T, .type a, .type T, isiN a T, rfl, .ty T, tyX_of r1 e2, kit_ty (hk a (tyN_mem e2)), k _ H1 a1 rfl⟩
theorem de_isiT (hm : X.mg "isinstance" = none) (hT : X.mg nT = none) (hv : bootBuiltins nT = some (.type T)) (hk : ∀ a ∈ names, kitB a T = some (isiN a T)) (hU : X.mg nU = none) (hvU : bootBuiltins nU = some (.type U)) (hkU : ∀ a ∈ names, kitB a U = some (isiN a U))
    (he : DE X e te m) (hg : Gl X "isinstance" := by rfl) (hgT : Gl X nT := by rfl) (hgU : Gl X nU := by rfl)
    (hnT : nT ≠ "__name__" := by decide) (hdT : (nT == ("__debug__" : Str)) = false := by decide) (hnU : nU ≠ "__name__" := by decide) (hdU : (nU == ("__debug__" : Str)) = false := by decide)
    (hs : starEach [e, .Tuple [.Name nT p2, .Name nU p3] kk pt] X.env = (false, eval e X.env) :: starEach [.Tuple [.Name nT p2, .Name nU p3] kk pt] X.env := by rfl)
    (hs2 : starEach [.Tuple [.Name nT p2, .Name nU p3] kk pt] X.env = (false, eval (.Tuple [.Name nT p2, .Name nU p3] kk pt) X.env) :: starEach [] X.env := by rfl)
    (hs3 : starEach [.Name nT p2, .Name nU p3] X.env = (false, eval (.Name nT p2) X.env) :: starEach [.Name nU p3] X.env := by rfl) (hs4 : starEach [.Name nU p3] X.env = (false, eval (.Name nU p3) X.env) :: starEach [] X.env := by rfl)
    (hpl : (backTo pos (starEach [.Tuple [.Name nT p2, .Name nU p3] kk pt] X.env)).any (·.1) = false := by rfl) :
    DE X (.Call (.Name "isinstance" p) [e, .Tuple [.Name nT p2, .Name nU p3] kk pt] [] pos) (tCB (rIsiT X.K) (tCons te (tCons (tTup (tCons (tC (.ty T)) (tCons (tC (.ty U)) tNil))) tNil))) (eOp1 (isiD2 T U) m) := by
  refine ⟨pe_callB call_isiT hg hm (by decide +kernel) (pa_cons he.pe (pa_cons (pe_tup (pa_cons (pe_bltn hgT hT hv rfl hnT hdT) (pa_cons (pe_bltn hgU hU hvU rfl hnU hdU) pa_nil hs4) hs3)) pa_nil hs2) hs) (by decide) (by decide) hs hpl, fun Γ σ H ρ d ρ' Q s h k => ?_⟩
  unfold eOp1 at h
  cases e1 : m ρ with
  | none => rw [e1] at h; cases h
  | some q =>
    rw [e1] at h
    simp only [Option.bind_some] at h
    unfold isiD2 at h
    cases e2 : tyN q.1 with
    | none => rw [e2] at h; cases h
    | some a =>
      rw [e2] at h
      cases h
      refine he.q Γ σ H ρ _ _ _ s e1 fun v H1 a1 r1 => ?_
      refine ⟨by show 2 ≤ sizeLine; decide, fun t n => ?_⟩
      have f := fm_new (o := .tup [.ty T, .ty U]) n
      have r2 := Rp.mo (new_mo (G := X.G) (W := Γ.w σ q.2) (o := .tup [.ty T, .ty U]) n) _ _ r1
      refine ⟨v, t, [.ty T, .ty U], .type a, [.type T, .type U], isiN a T || isiN a U, rfl, upd_same, .cons (.ty T) (.cons (.ty U) .nil), tyX_of r2 e2, ?_, k _ _ (a1.trans (a1.sr.po f)) rfl⟩
      cases q1 : isiN a T with
      | true => exact kitAny_cons (b := true) (by rw [← q1]; exact kit_ty (hk a (tyN_mem e2))) (fun z => nomatch z) fun _ => rfl
      | false =>
        refine kitAny_cons (b := false) (by rw [← q1]; exact kit_ty (hk a (tyN_mem e2))) (fun _ => ?_) fun z => nomatch z
        cases q2 : isiN a U with
        | true => exact kitAny_cons (b := true) (by rw [← q2]; exact kit_ty (hkU a (tyN_mem e2))) (fun z => nomatch z) fun _ => rfl
        | false => exact kitAny_cons (b := false) (by rw [← q2]; exact kit_ty (hkU a (tyN_mem e2))) (fun _ => kitAny_nil) fun z => nomatch z
end
end DL
namespace DL
open PySem L2
variable [TabC]
omit [TabC] in
def sRetF (m : EM) : SM := fun ρ => (m ρ).bind fun p => some (.rf p.1 p.2)
section
variable {X : Cx} {e : Expr} {pos p : Pos} {me : EM} {te : TE} {x : Str} {k : Nat} {ps : List Str} {fn : FnSem} {am : AM} {at1 : TA} {es : List Expr}
theorem ds_retF (he : DF X e te me) : DS X (.Return (some e) pos) (tRet te) (sRetF me) := by
  refine ⟨ps_ret he.pe, fun Γ σ H ρ o E s h f => ?_⟩
  unfold sRetF at h
  cases e1 : me ρ with
  | none => rw [e1] at h; cases h
  | some r =>
    rw [e1] at h
    cases h
    refine he.q Γ σ H ρ r.1 r.2 _ s e1 fun a H' n sr ow fm sub tr => ?_
    have sl := sr.less (U' := Γ.U) (fun b z => List.mem_cons_of_mem _ z) (fun p hp => (s.pin p hp).1)
    refine f a σ H' ⟨sl, fm, fun b z => .inl (sub b z), tr⟩ (.inr n) (fun z => sr.out a z List.mem_cons_self) (fun z => s.th a z n) (ow.mo ⟨Fm.refl _ _, fun b z => .inl ?_⟩ fun _ z _ => z)
    rcases List.mem_cons.mp z with z | z
    · rw [z]; exact List.mem_append_right _ List.mem_cons_self
    · rcases List.mem_append.mp z with z | z
      · exact List.mem_append_left _ z
      · exact List.mem_append_right _ (List.mem_cons_of_mem _ z)
omit [TabC] in
/-- a call that hands back a fresh object, of values alone -/
def eCallF (fn : FnSem) (a : AM) : EM := fun ρ => (a ρ).bind fun p => (vals p.1).bind fun ds => (fn (ds.map .v)).map fun q => (q.1, p.2)
omit [TabC] in
theorem asR_vals {G : Gc} {H : Hp} {W : List Addr} : ∀ {ds : List D} {vs : List V}, RpAll G H W ds vs → AsR G H W (ds.map .v) vs ∧ pad (ds.map .v) vs = []
  | [], _, h => by cases (show _ = [] from h); exact ⟨rfl, rfl⟩
  | d :: ds, _, ⟨x, xs, e, r, q⟩ => by
    subst e
    obtain ⟨h1, h2⟩ := asR_vals q
    refine ⟨⟨x, xs, rfl, r, h1⟩, ?_⟩
    show pad (.v d :: ds.map .v) (x :: xs) = []
    cases x <;> simpa [pad] using h2
theorem de_callF (F : FnDF X.prog X.w X.K X.mg X.base x k ps fn) (hr : Room k X.A) (ha : DA X (e :: es) at1 am) (hg : Gl X x := by rfl) (hdb : (x == ("__debug__" : Str)) = false := by decide)
    (he : starEach (e :: es) X.env = (false, eval e X.env) :: starEach es X.env := by rfl) (hpl : (backTo pos (starEach es X.env)).any (·.1) = false := by rfl) : DF X (.Call (.Name x p) (e :: es) [] pos) (tCall (spFF X.G fn) [] E0 at1) (eCallF fn am) := by
  obtain ⟨f, fd, h1, h2, h3, h4⟩ := F.ex
  refine ⟨pe_call h4 hr hg h1 h2 h3 .nil pass0 ha.pe hdb he hpl, fun Γ σ H ρ d ρ' Q s h kk => ?_⟩
  unfold eCallF at h
  cases e1 : am ρ with
  | none => rw [e1] at h; cases h
  | some p1 =>
  rw [e1] at h
  simp only [Option.bind_some] at h
  cases e2 : vals p1.1 with
  | none => rw [e2] at h; cases h
  | some ds =>
  rw [e2] at h
  simp only [Option.bind_some] at h
  cases e3 : fn (ds.map .v) with
  | none => rw [e3] at h; cases h
  | some z =>
  rw [e3] at h
  cases h
  refine ha.q Γ σ H ρ p1.1 p1.2 _ s e1 fun vs H1 a1 ar => ?_
  obtain ⟨k1, k2⟩ := asR_vals (ar.vals e2)
  show spFF X.G fn (vs ++ []) H1 Q E0
  rw [List.append_nil]
  refine ⟨Γ.w σ p1.2, ds.map .v, z.1, z.2, k1, by rw [k2]; exact .nil, ⟨a1.sr.w_th, a1.sr.tb⟩, e3, fun a H2 n fm _ as' ow => ?_⟩
  rw [k2] at fm
  exact fresh_end a1 n fm ow kk
theorem Sr.wr1 {Γ : Gam} {G : Gc} {H H' : Hp} {σ : L2.St} {ρ : Env} {a : Addr} (s : Sr Γ G H σ ρ) (ha : a ∈ Γ.U) (hp : a ∉ Γ.π.map (·.2)) (f : Fm [a] H H') (ne : H' a ≠ none) : Sr Γ G H' σ ρ := by
  have na : a ∉ ownO σ ρ := fun z => s.out a z ha
  have m : Mo (Γ.w σ ρ) (Γ.w σ ρ) H H' := ⟨f.mono fun b z => by
    rw [List.mem_singleton.mp z]; exact List.mem_append_right _ ha, fun b z => .inl z⟩
  refine ⟨s.len, s.nd, s.out, fun i t ht => ?_, s.pin, s.pnd, fun b hb => ?_, s.tb.fm f⟩
  · obtain ⟨x, e, q⟩ := s.sl i t ht
    refine ⟨x, e, ?_⟩
    cases t with
    | e => trivial
    | v d => obtain ⟨v, e, r⟩ := q; exact ⟨v, e, Rp.mo m _ _ r⟩
    | o d =>
      obtain ⟨b, rfl, r⟩ := q
      have nb : b ≠ a := fun z => na (by rw [← z]; exact mem_ownO.mpr ⟨i, d, e, ht⟩)
      exact ⟨b, rfl, r.mo m fun x z nt => f.out (by simpa using nb) z nt⟩
    | p d =>
      obtain ⟨b, rfl, p, r⟩ := q
      have nb : b ≠ a := fun z => hp (by rw [← z]; exact List.mem_map.mpr ⟨_, p, rfl⟩)
      exact ⟨b, rfl, p, r.mo m fun x z nt => f.out (by simpa using nb) z nt⟩
  · by_cases e : b = a
    · rw [e]; exact ne
    · exact f.thw (by simpa using e) (s.th b hb)
omit [TabC] in
/-- a call with one fresh object that the callee may change -/
def eCallT (fn : FnSem) (m : EM) : EM := fun ρ => (m ρ).bind fun p => (fn [.p p.1]).map fun q => (q.1, p.2)
theorem de_callT (F : FnD X.prog X.w X.K X.mg X.base x k ps fn) (hr : Room k X.A) (hd : DF X e te me) (hg : Gl X x := by rfl) (hdb : (x == ("__debug__" : Str)) = false := by decide)
    (he : starEach [e] X.env = (false, eval e X.env) :: starEach [] X.env := by rfl) (hpl : (backTo pos (starEach [] X.env)).any (·.1) = false := by rfl) : DE X (.Call (.Name x p) [e] [] pos) (tCall (spF X.G fn) [] E0 (tCons te tNil)) (eCallT fn me) := by
  obtain ⟨f, fd, h1, h2, h3, h4⟩ := F.ex
  refine ⟨pe_call h4 hr hg h1 h2 h3 .nil pass0 (da_cons hd.de da_nil he).pe hdb he hpl, fun Γ σ H ρ d ρ' Q s h kk => ?_⟩
  unfold eCallT at h
  cases e1 : me ρ with
  | none => rw [e1] at h; cases h
  | some p1 =>
  rw [e1] at h
  simp only [Option.bind_some] at h
  cases e3 : fn [.p p1.1] with
  | none => rw [e3] at h; cases h
  | some z =>
  rw [e3] at h
  cases h
  refine hd.q Γ σ H ρ p1.1 p1.2 _ s e1 fun a H1 n sr ow fm sub tr => ?_
  show spF X.G fn ([V.ref a] ++ []) H1 Q E0
  rw [List.append_nil]
  have aW : a ∈ ownO σ p1.2 ++ a :: Γ.U := List.mem_append_right _ List.mem_cons_self
  refine ⟨ownO σ p1.2 ++ a :: Γ.U, [.p p1.1], z.1, z.2, ⟨a, [], rfl, aW, ow, rfl⟩, by simp [pad], ⟨sr.w_th, sr.tb⟩, e3, fun v H2 f2 t2 as' rv => ?_⟩
  replace f2 : Fm [a] H1 H2 := f2
  have ap : a ∉ Γ.π.map (·.2) := fun z => by
    obtain ⟨p, hp, e⟩ := List.mem_map.mp z
    exact s.th a (e ▸ (s.pin p hp).1) n
  have ne : H2 a ≠ none := t2 a ow.ne0
  have sr2 := sr.wr1 List.mem_cons_self ap f2 ne
  have sl := sr2.less (U' := Γ.U) (fun b z => List.mem_cons_of_mem _ z) (fun p hp => (s.pin p hp).1)
  have fm2 : Fm (Γ.mu σ ρ) H H2 := fm.seq f2 fun b x nb nt eb => by
    have e1 := fm b x nb eb nt
    exact f2 b x (fun z => by rw [List.mem_singleton.mp z, n] at eb; cases eb) e1 nt
  refine kk v H2 ⟨sl, fm2, sub, tr.trans t2⟩ (Rp.mo ⟨Fm.refl _ _, fun b z => .inl ?_⟩ _ _ rv)
  rcases List.mem_append.mp z with z | z
  · exact List.mem_append_left _ z
  · exact List.mem_append_right _ (List.mem_cons_of_mem _ z)
end
section
variable {P : Program} {w : World} {K : PySem.W.Frag} {mg : Str → Option Value} {base : Heap} {x qual : Str} {params : Arguments} {body : List Stmt} {scope : Scope} {f : Addr} {fd : FuncData}
theorem FunD.d {ps : List Str} {k : Nat} {fn : FnSem} (F : FunD K x qual params body scope [] [] f fd) (g : mg x = some (.ref f))
    (hbd : ∀ (kV doc pm : Value) (an : Option Addr) (cdv ct : Value) (us : List Value), us.length = ps.length → bindArgs (PySem.W.fnOf x qual params body scope .none kV doc pm an cdv ct) ⟨us, []⟩ = pure (ps.zip us))
    (ok : FnOk P w K mg base CX0 k f fd ps (spF ⟨K, mg⟩ fn)) : FnD P w K mg base x k ps fn := ⟨f, fd, g, F.kp, F.bindsN hbd, ok⟩
theorem FunD.df {ps : List Str} {k : Nat} {fn : FnSem} (F : FunD K x qual params body scope [] [] f fd) (g : mg x = some (.ref f))
    (hbd : ∀ (kV doc pm : Value) (an : Option Addr) (cdv ct : Value) (us : List Value), us.length = ps.length → bindArgs (PySem.W.fnOf x qual params body scope .none kV doc pm an cdv ct) ⟨us, []⟩ = pure (ps.zip us))
    (ok : FnOk P w K mg base CX0 k f fd ps (spFF ⟨K, mg⟩ fn)) : FnDF P w K mg base x k ps fn := ⟨f, fd, g, F.kp, F.bindsN hbd, ok⟩
omit [TabC] in
theorem vals_get {vs : List V} {us : List Value} (r : Vals vs us) : ∀ i, RelV (vs.getD i .non) (us.getD i .none) := fun i => by
  induction r generalizing i with
  | nil => simp only [List.getD_nil]; rfl
  | cons h _ ih =>
    cases i with
    | zero => simpa using h
    | succ i => simpa using ih i
omit [TabC] in
theorem permVU {perm : List Nat} {vs : List V} {us : List Value} (r : Vals vs us) : Vals (permV perm vs) (permU perm us) := by
  induction perm with
  | nil => exact .nil
  | cons i l ih => exact .cons (vals_get r i) ih
theorem FunD.k {ps ks : List Str} {n k : Nat} {perm : List Nat} {fn : FnSem} (F : FunD K x qual params body scope [] [] f fd) (g : mg x = some (.ref f))
    (hbd : ∀ (kV doc pm : Value) (an : Option Addr) (cdv ct : Value) (us ws : List Value), us.length = n → ws.length = ks.length → bindArgs (PySem.W.fnOf x qual params body scope .none kV doc pm an cdv ct) ⟨us, ks.zip ws⟩ = pure (ps.zip (permU perm (us ++ ws))))
    (ok : FnOk P w K mg base CX0 k f fd ps (spF ⟨K, mg⟩ fn)) : FnK P w K mg base x k ps ks n perm fn := by
  obtain ⟨oc, od, dV, kV, doc, pm, an, cdv, ct, osl, rfl, lk, hcd, hD, hK⟩ := F.ex
  refine ⟨f, _, g, F.kp, ⟨fun s us ws hin h1 h2 => ?_, fun r1 r2 => permVU (r1.append r2)⟩, ok⟩
  rcases hD with ⟨_, rfl⟩ | ⟨e, _⟩
  · exact .of_eq (hbd kV doc pm an cdv ct us ws h1 h2)
  · exact absurd rfl e
end
omit [TabC] in
def isT (T : String) : D → Bool
  | .lst _ => T == "list"
  | _ => false
omit [TabC] in
def eMthV (T : String) (f : D → List D → Option D) (m : EM) (a : AM) : EM := fun ρ => (m ρ).bind fun p0 => if isT T p0.1 then (a p0.2).bind fun p => (vals p.1).bind fun ds => (f p0.1 ds).map fun z => (z, p.2) else none
def MthD (G : Gc) (r : V → List V → Hp → VK → Prop) (f : D → List D → Option D) : Prop := ∀ (H : Hp) (W : List Addr) (x : V) (xs : List V) (d : D) (ds : List D) (z : D) (Q : VK), (∀ a ∈ W, H a ≠ none) → Rp G H W d x → RpAll G H W ds xs → f d ds = some z →
  (∀ v H', Fm [] H H' → Rp G H' W z v → Q v H') → r x xs H Q
section
variable {X : Cx} {o e : Expr} {es : List Expr} {p : Pos} {am : AM} {at1 : TA} {m : EM} {te : TE} {x name : Str} {apos cpos : Pos} {T id : String} {r : V → List V → Hp → VK → Prop} {f : D → List D → Option D}
end
end DL
namespace DL
open PySem L2
variable [TabC]
omit [TabC] in
def iSeqT (K : PySem.W.Frag) (tl : TE) : TI := fun σ H R => tl σ H fun x H1 => ∃ a, x = .ref a ∧ (((∃ xs, SqL K H1 a xs) ∧ R (Itl K a) H1) ∨ ((∃ xs, SqT K H1 a xs) ∧ R (Itt K a) H1))
omit [TabC] in
def iSeq (m : EM) : IM := fun ρ => (m ρ).bind fun p => match p.1 with
  | .lst ds => some (ds, p.2)
  | .tup ds => some (ds, p.2)
  | _ => none
section
variable {X : Cx} {tg e a b : Expr} {pos p : Pos} {m : EM} {am : AM} {te : TE} {at1 : TA}
omit [TabC] in
theorem pi_seq {l : Expr} {tl : TE} (hl : PE X l tl) : PI X tg l (iSeqT X.K tl) := by
  refine ⟨fun pins s σ H R I h => ?_⟩
  refine thn (hl.run pins s σ H _ I h) fun v s1 ⟨x, H1, I1, r1, q1⟩ => ?_
  obtain ⟨a, e, q⟩ := q1
  subst e
  cases r1
  rcases q with ⟨⟨xs, hq⟩, q⟩ | ⟨⟨xs, hq⟩, q⟩
  · obtain ⟨its, rv, p, hz⟩ := I1.list hq
    refine wpAny_pyIter_list p.isList ?_
    refine ⟨s1.heap.objs.size, [s1.heap.objs.size], _, _, H1, rfl, I1.kept (t' := s1.toks) fun b o e => Heap.get?_push_of_some _ e, turn_list a _, ⟨_, Heap.get?_push_size _ rfl, rfl, rfl⟩, fun b hb => ?_, q⟩
    have e : b = s1.heap.objs.size := by simpa using hb
    subst e
    exact I1.fpOk (Nat.le_refl _) (I1.hok.fresh (Nat.le_refl _))
  · obtain ⟨its, rv, p, hz⟩ := I1.tuple hq
    refine wpAny_pyIter_tuple (show s1.heap.IsTuple a its.toArray from p) ?_
    refine ⟨s1.heap.objs.size, [s1.heap.objs.size], _, _, H1, rfl, I1.kept (t' := s1.toks) fun b o e => Heap.get?_push_of_some _ e, turn_tuple a _, ⟨_, Heap.get?_push_size _ rfl, rfl, rfl⟩, fun b hb => ?_, q⟩
    have e : b = s1.heap.objs.size := by simpa using hb
    subst e
    exact I1.fpOk (Nat.le_refl _) (I1.hok.fresh (Nat.le_refl _))
theorem di_seq (h : DE X e te m) : DI X tg e (iSeqT X.K te) (iSeq m) := by
  obtain ⟨p, q⟩ := h
  refine ⟨pi_seq p, fun Γ σ H ρ ds ρ' R s h k => ?_⟩
  unfold iSeq at h
  cases e1 : m ρ with
  | none => rw [e1] at h; cases h
  | some r =>
    rw [e1] at h
    obtain ⟨d0, ρ0⟩ := r
    cases d0 with
    | lst ds0 =>
      cases h
      refine q Γ σ H ρ _ _ _ s e1 fun v H1 a1 r1 => ?_
      obtain ⟨a, vs, rfl, fa, la, ra⟩ := r1
      exact ⟨a, rfl, .inl ⟨⟨vs, fa.sq⟩, k _ H1 a1 (walkD_list (G := X.G) la fa ra)⟩⟩
    | tup ds0 =>
      cases h
      refine q Γ σ H ρ _ _ _ s e1 fun v H1 a1 r1 => ?_
      obtain ⟨a, vs, rfl, fa, la, ra⟩ := r1
      exact ⟨a, rfl, .inr ⟨⟨vs, fa.sq⟩, k _ H1 a1 (walkD_tup (G := X.G) la fa ra)⟩⟩
    | _ => cases h
omit [TabC] in
/-- a test that looks at own objects -/
def tBor (m : TM) : TM := fun ρ => (m (ρ.map vwS)).map fun p => (p.1, ρ)
omit [TabC] in
/-- a op b op' c -/
def eChain (f g : D → D → Option D) (a b c : EM) : EM := fun ρ => (a ρ).bind fun p => (b p.2).bind fun q => (f p.1 q.1).bind fun z => match z with
  | .bl true => (c q.2).bind fun r => (g q.1 r.1).map fun w => (w, r.2)
  | .bl false => some (.bl false, q.2)
  | _ => none
theorem de_chain {c : Expr} {mb mc : EM} {te2 te3 : TE} {op op' : CmpOp} {r r' : R2} {f g : D → D → Option D} (ho : OpR X (compareOp op) r) (ho' : OpR X (compareOp op') r') (od : OpD X.G r f) (od' : OpD X.G r' g) (ha : DE X a te m) (hb : DE X b te2 mb) (hc : DE X c te3 mc)
    (hm : lastMarks [op, op'] [b, c] = false := by with_unfolding_all rfl) : DE X (.Compare a [op, op'] [b, c] pos) (tChain r r' te te2 te3) (eChain f g m mb mc) := by
  refine ⟨pe_chain ho ho' ha.pe hb.pe hc.pe hm, fun Γ σ H ρ d ρ' Q s h k => ?_⟩
  unfold eChain at h
  cases e1 : m ρ with
  | none => rw [e1] at h; cases h
  | some p1 =>
  rw [e1] at h
  simp only [Option.bind_some] at h
  cases e2 : mb p1.2 with
  | none => rw [e2] at h; cases h
  | some p2 =>
  rw [e2] at h
  simp only [Option.bind_some] at h
  cases e3 : f p1.1 p2.1 with
  | none => rw [e3] at h; cases h
  | some z =>
  rw [e3] at h
  simp only [Option.bind_some] at h
  refine ha.q Γ σ H ρ _ _ _ s e1 fun x H1 a1 r1 => ?_
  refine hb.q Γ σ H1 _ _ _ _ a1.sr e2 fun y H2 a2 r2 => ?_
  refine od H2 (Γ.w σ p2.2) x y _ _ z _ a2.sr.w_th (Rp.mo (a2.mo a1.sr) _ _ r1) r2 e3 fun v H3 f3 r3 => ?_
  have a3 := a2.sr.po f3
  cases z with
  | bl bb =>
    cases (show v = .bl bb from r3)
    refine ⟨bb, rfl, ?_⟩
    cases bb with
    | false =>
      cases h
      exact k _ H3 ((a1.trans a2).trans a3) rfl
    | true =>
      simp only [] at h
      cases e4 : mc p2.2 with
      | none => rw [e4] at h; cases h
      | some p3 =>
      rw [e4] at h
      simp only [Option.bind_some] at h
      cases e5 : g p2.1 p3.1 with
      | none => rw [e5] at h; cases h
      | some z2 =>
      rw [e5] at h
      cases h
      rw [if_pos rfl]
      refine hc.q Γ σ H3 _ _ _ _ a3.sr e4 fun w H4 a4 r4 => ?_
      refine od' H4 (Γ.w σ p3.2) y w _ _ d _ a4.sr.w_th (Rp.mo (a4.mo a3.sr) _ _ (Rp.mo (a3.mo a2.sr) _ _ r2)) r4 e5 fun u H5 f5 r5 => ?_
      exact k u H5 ((((a1.trans a2).trans a3).trans a4).trans (a4.sr.po f5)) r5
  | _ => cases h
end
end DL
namespace DL
open PySem L2
variable [TabC]
omit [TabC] in
structure Nb (mg : Str → Option Value) : Prop where
  len : mg "len" = none
  range : mg "range" = none
  all : mg "all" = none
  any : mg "any" = none
  min : mg "min" = none
  max : mg "max" = none
  abs : mg "abs" = none
  sum : mg "sum" = none
  int : mg "int" = none
  bool : mg "bool" = none
  str : mg "str" = none
  list : mg "list" = none
  tuple : mg "tuple" = none
  sorted : mg "sorted" = none
  enumerate : mg "enumerate" = none
  zip : mg "zip" = none
  isinstance : mg "isinstance" = none
omit [TabC] in
theorem bt_len : bootBuiltins "len" = some (.builtin "len") := by decide +kernel
omit [TabC] in
theorem bt_all : bootBuiltins "all" = some (.builtin "all") := by decide +kernel
omit [TabC] in
theorem bt_any : bootBuiltins "any" = some (.builtin "any") := by decide +kernel
omit [TabC] in
theorem bt_min : bootBuiltins "min" = some (.builtin "min") := by decide +kernel
omit [TabC] in
theorem bt_abs : bootBuiltins "abs" = some (.builtin "abs") := by decide +kernel
omit [TabC] in
theorem bt_int : bootBuiltins "int" = some (.type "int") := by decide +kernel
omit [TabC] in
theorem bt_bool : bootBuiltins "bool" = some (.type "bool") := by decide +kernel
omit [TabC] in
theorem bt_str : bootBuiltins "str" = some (.type "str") := by decide +kernel
omit [TabC] in
theorem bt_list : bootBuiltins "list" = some (.type "list") := by decide +kernel
omit [TabC] in
theorem bt_tuple : bootBuiltins "tuple" = some (.type "tuple") := by decide +kernel
omit [TabC] in
def mulI (a b : D) : Option D := match a, b with
  | .int i, .int j => mulD (.int i) (.int j)
  | _, _ => none
theorem od_mulI {X : Cx} : OpD X.G (rI CMul fun i j => .int (i * j)) mulI := od_mul
omit [TabC] in
theorem gl_nil : ∀ ds ρ ρ', gNil ds ρ = some ρ' → ds.length = 0 := fun ds ρ ρ' h => by
  cases ds with
  | nil => rfl
  | cons d ds => cases h
omit [TabC] in
theorem gl_cons {g : GM} {gs : List D → Env → Option Env} {n : Nat} (h : ∀ ds ρ ρ', gs ds ρ = some ρ' → ds.length = n) : ∀ ds ρ ρ', gCons g gs ds ρ = some ρ' → ds.length = n + 1 := fun ds ρ ρ' e => by
  cases ds with
  | nil => cases e
  | cons d ds =>
    replace e : ((g d ρ).bind fun ρ' => gs ds ρ') = some ρ' := e
    cases e1 : g d ρ with
    | none => rw [e1] at e; cases e
    | some ρ1 => rw [e1] at e; rw [List.length_cons, h ds ρ1 ρ' e]
theorem fn_none {P : Program} {w : World} {K : PySem.W.Frag} {mg : Str → Option Value} {base : Heap} {CX : CXT} {k : Nat} {f : Addr} {fd : FuncData} {ps : List Str} {G : Gc} : FnOk P w K mg base CX k f fd ps (spF G fun _ => none) :=
  ⟨fun vs H Q E ⟨_, _, _, _, _, _, _, e, _⟩ => (nomatch e), fun A outer s H args us vs Q E _ _ _ _ ⟨_, _, _, _, _, _, _, e, _⟩ => (nomatch e)⟩
theorem FnD.mono {P : Program} {w : World} {K : PySem.W.Frag} {mg : Str → Option Value} {base : Heap} {x : Str} {j k : Nat} {ps : List Str} {fn : FnSem} (F : FnD P w K mg base x j ps fn) (h : j ≤ k) : FnD P w K mg base x k ps fn := by
  obtain ⟨f, fd, a, b, c, d⟩ := F.ex
  exact ⟨f, fd, a, b, c, d.mono h⟩
end DL
namespace DL
open PySem L2
variable [TabC]
def tOfE (G : Gc) (m : EM) : TE := fun σ H Q => ∃ (Γ : Gam) (ρ : Env) (d : D) (ρ' : Env), Sr Γ G H σ ρ ∧ m ρ = some (d, ρ') ∧ ∀ v H', Po Γ G σ ρ H ρ' H' → Rp G H' (Γ.w σ ρ') d v → Q v H'
def tOfT (G : Gc) (m : TM) : TT := fun σ H Q => ∃ (Γ : Gam) (ρ : Env) (d : Bool) (ρ' : Env), Sr Γ G H σ ρ ∧ m ρ = some (d, ρ') ∧ ∀ H', Po Γ G σ ρ H ρ' H' → Q d H'
def tOfG (G : Gc) (is : List Nat) (g : GM) : TG := fun v σ H Q => ∃ (Γ : Gam) (ρ : Env) (d : D) (ρ' : Env), Sr Γ G H σ ρ ∧ Rp G H (Γ.w σ ρ) d v ∧ g d ρ = some ρ' ∧ ∀ σ', So Γ G σ ρ H σ' ρ' H → Al is σ σ' → Q σ' H
theorem DE.can {X : Cx} {e : Expr} {t : TE} {m : EM} (h : DE X e t m) : DE X e (tOfE X.G m) m :=
  ⟨⟨fun pins s σ H Q I ⟨Γ, ρ, d, ρ', sr, hm, k⟩ => h.pe.run pins s σ H Q I (h.q Γ σ H ρ d ρ' Q sr hm k)⟩, fun Γ σ H ρ d ρ' Q sr hm k => ⟨Γ, ρ, d, ρ', sr, hm, k⟩⟩
theorem DTs.can {X : Cx} {e : List Expr} {t : TT} {m : TM} (h : DTs X e t m) : DTs X e (tOfT X.G m) m :=
  ⟨⟨fun pins s σ H Q I ⟨Γ, ρ, d, ρ', sr, hm, k⟩ => h.pe.run pins s σ H Q I (h.q Γ σ H ρ d ρ' Q sr hm k)⟩, fun Γ σ H ρ d ρ' Q sr hm k => ⟨Γ, ρ, d, ρ', sr, hm, k⟩⟩
theorem DG.can {X : Cx} {e : Expr} {t : TG} {is : List Nat} {g : GM} (h : DG X e t is g) : DG X e (tOfG X.G is g) is g :=
  ⟨⟨fun pins s σ H v u Q I r ⟨Γ, ρ, d, ρ', sr, rv, hm, k⟩ => h.pe.run pins s σ H v u Q I r (h.q Γ σ H ρ d v ρ' Q sr rv hm k)⟩, fun Γ σ H ρ d v ρ' Q sr rv hm k => ⟨Γ, ρ, d, ρ', sr, rv, hm, k⟩⟩
section
variable {X : Cx} {elt tg iter : Expr} {ifs : List Expr} {scope : Scope} {own : List (Str × Nat)} {pos : Pos} {wi : TI} {is : List Nat} {it : IM} {gm : GM} {tm : TM} {el : EM}
theorem df_compX (hc : X.calm = true) (hN : X.N.Nodup) (hi : DI X tg iter wi it) (ok : BlkOk X.N X.env.scope scope own)
    (hg : ∀ (s : Shared) (H : Hp) (C : Addr) (cl : List (Str × Addr)) (fp : List Addr), ∃ g, DG (X.blk s H scope (compEnvC scope cl C X.env) fp) tg g is gm)
    (ht : ∀ (s : Shared) (H : Hp) (C : Addr) (cl : List (Str × Addr)) (fp : List Addr), ∃ t, DTs (X.blk s H scope (compEnvC scope cl C X.env) fp) ifs t tm)
    (he : ∀ (s : Shared) (H : Hp) (C : Addr) (cl : List (Str × Addr)) (fp : List Addr), ∃ t, DE (X.blk s H scope (compEnvC scope cl C X.env) fp) elt t el)
    (hsub : ∀ i ∈ is, i ∈ own.map (·.2) := by decide) (hs : ∀ x, foldedSetIterable iter X.env x = pure x := by intro _; rfl) :
    DF X (.ListComp elt [⟨tg, iter, ifs, 0⟩] scope pos) (tLc wi (tOfG X.G is gm) (tOfT X.G tm) (tOfE X.G el) (own.map (·.2))) (eComp (own.map (·.2)) it gm tm el) :=
  df_comp hc hN hi ok (fun s H C cl fp => let ⟨_, h⟩ := hg s H C cl fp; h.can) (fun s H C cl fp => let ⟨_, h⟩ := ht s H C cl fp; h.can) (fun s H C cl fp => let ⟨_, h⟩ := he s H C cl fp; h.can) hsub hs
theorem ds_setCompX (i : Nat) {y : Str} {py spos : Pos} (hc : X.calm = true) (hN : X.N.Nodup) (hi : DI X tg iter wi it) (ok : BlkOk X.N X.env.scope scope own)
    (hg : ∀ (s : Shared) (H : Hp) (C : Addr) (cl : List (Str × Addr)) (fp : List Addr), ∃ g, DG (X.blk s H scope (compEnvC scope cl C X.env) fp) tg g is gm)
    (ht : ∀ (s : Shared) (H : Hp) (C : Addr) (cl : List (Str × Addr)) (fp : List Addr), ∃ t, DTs (X.blk s H scope (compEnvC scope cl C X.env) fp) ifs t tm)
    (he : ∀ (s : Shared) (H : Hp) (C : Addr) (cl : List (Str × Addr)) (fp : List Addr), ∃ t, DE (X.blk s H scope (compEnvC scope cl C X.env) fp) elt t el)
    (hy : X.N[i]? = some y := by rfl) (hyl : X.env.scope.names.lookup y = some .local := by rfl)
    (hsw : swapsWith (.ListComp elt [⟨tg, iter, ifs, 0⟩] scope pos) (some (.Name y py)) spos.line X.env = pure true := by exact sw_true rfl rfl rfl (by decide +kernel))
    (hsub : ∀ i ∈ is, i ∈ own.map (·.2) := by decide) (hs : ∀ x, foldedSetIterable iter X.env x = pure x := by intro _; rfl) :
    DS X (.Assign [.Name y py] (.ListComp elt [⟨tg, iter, ifs, 0⟩] scope pos) spos) (tAsg (tLc wi (tOfG X.G is gm) (tOfT X.G tm) (tOfE X.G el) (own.map (·.2))) (gName i)) (sSet i (eComp (own.map (·.2)) it gm tm el)) :=
  ds_setComp i hc hN hi ok (fun s H C cl fp => let ⟨_, h⟩ := hg s H C cl fp; h.can) (fun s H C cl fp => let ⟨_, h⟩ := ht s H C cl fp; h.can) (fun s H C cl fp => let ⟨_, h⟩ := he s H C cl fp; h.can) hy hyl hsw hsub hs
end
omit [TabC] in
def aSl (i : Nat) (r : AM) : AM := fun ρ => match ρ[i]? with
  | some (.o _) => aSlot i r ρ
  | some (.p _) => aSlot i r ρ
  | _ => none
theorem da_sl {X : Cx} {es : List Expr} {am : AM} {at1 : TA} (i : Nat) {x : Str} {p : Pos} (hr : DA X es at1 am) (hN : X.N[i]? = some x := by rfl) (hv : Vis X.env.scope x := by first | exact Or.inl rfl | exact Or.inr (Or.inl rfl) | exact Or.inr (Or.inr rfl)) (hd : (x == ("__debug__" : Str)) = false := by decide)
    (hcd : (x == ("__classdict__" : Str)) = false := by decide) (hs : starEach (.Name x p :: es) X.env = (false, eval (.Name x p) X.env) :: starEach es X.env := by rfl) : DA X (.Name x p :: es) (tCons (tVar i) at1) (aSl i am) := by
  have h := da_slot i hr hN hv hd hcd hs
  have e : aSl i am = _ := rfl
  refine ⟨h.pe, fun Γ σ H ρ as ρ' Q s hm k => h.q Γ σ H ρ as ρ' Q s (by unfold aSl at hm; exact hm) k⟩
section
variable {X : Cx} {e : Expr} {es : List Expr} {kws : List Keyword} {pos p kpos : Pos} {am bm : AM} {at1 at2 : TA} {x : Str} {k n nk : Nat} {ps ks : List Str} {perm : List Nat} {fn : FnSem}
theorem de_kw0 (F : FnK X.prog X.w X.K X.mg X.base x k ps ks 0 perm fn) (hr : Room k X.A) (hkw : DK X kws at2 bm) (hnk : ks.length = nk := by rfl) (hg : Gl X x := by rfl) (hall : (backToKw pos (keywordEach kws X.env)).all (·.1.isSome) = true := by rfl) (hks : (backToKw pos (keywordEach kws X.env)).filterMap (·.1) = ks := by rfl)
    (hdb : (x == ("__debug__" : Str)) = false := by decide) (hpl : ((backTo pos (starEach [] X.env)).any (·.1) || (backToKw pos (keywordEach kws X.env)).any (·.1.isNone)) = false := by rfl) :
    DE X (.Call (.Name x p) [] kws pos) (tCallN 0 nk (spF X.G fn) (fun vs zs => permV perm (vs ++ zs)) E0 tNil at2) (eCallK perm 0 nk fn aNil bm) := by
  subst hnk
  exact de_callK0 F hr hkw hg hall hks hdb hpl
end
end DL
namespace DL
open PySem L2
variable [TabC]
/-- the law's promise, from what it denotes -/
theorem sp_law {K : PySem.W.Frag} {mg : Str → Option Value} {fn : FnSem} {H : Hp} {a : Addr} {ns : List Int} {E : XK} (hS : SqL K H a (ns.map V.int)) (hl : ns.length ≤ 63) (tb : TabsG H) (h : ∃ ss, fn [.v (.scr ns)] = some (.bl true, ss)) :
    spF ⟨K, mg⟩ fn [.ref a] H (fun v _ => v = .bl true) E := by
  obtain ⟨ss, h⟩ := h
  exact ⟨[], [.v (.scr ns)], .bl true, ss, ⟨.ref a, [], rfl, ⟨a, rfl, hS.imp (fun h => ⟨by simp, h⟩) id, by unfold sizeLine; omega⟩, rfl⟩, by simp [pad], ⟨by simp, tb⟩, h, fun v H' _ _ _ r => r⟩
end DL
namespace DL
open PySem L2
variable [TabC]
omit [TabC] in
def okRg (a b : Int) : Bool := ok62 a && ok62 b && lim (b - a).toNat
omit [TabC] in
def rgD (a b : Int) : List D := rngD a (b - a).toNat
omit [TabC] in
def trgF : List D → Option D
  | [.int n] => if okRg 0 n then some (.tup (rgD 0 n)) else none
  | [.int a, .int b] => if okRg a b then some (.tup (rgD a b)) else none
  | _ => none
omit [TabC] in
theorem okRg_ok {a b : Int} (h : okRg a b = true) : RgOk a b ∧ (rgD a b).length ≤ sizeLine := by
  unfold okRg ok62 at h
  rw [Bool.and_eq_true, Bool.and_eq_true, Bool.and_eq_true, Bool.and_eq_true] at h
  obtain ⟨⟨⟨h1, h2⟩, h3, h4⟩, h5⟩ := h
  have l := of_decide_eq_true h5
  exact ⟨⟨of_decide_eq_true h1, of_decide_eq_true h2, of_decide_eq_true h3, of_decide_eq_true h4, Nat.le_trans l (by decide)⟩, by unfold rgD; rw [rngD_length]; exact line_of l⟩
omit [TabC] in
theorem rgD_rp {G : Gc} {H : Hp} {W : List Addr} (a b : Int) : RpAll G H W (rgD a b) (rgV a b) := by
  unfold rgD rngD rgV
  generalize (b - a).toNat = n
  induction (List.range n) with
  | nil => rfl
  | cons x l ih => exact ⟨_, _, rfl, rfl, ih⟩
omit [TabC] in
def rRg (mk : List V → HO) : List V → Hp → VK → Prop
  | [x], H, Q => ∃ n, x = .int n ∧ (RgOk 0 n ∧ ∀ q, H q = none → Q (.ref q) (upd H q (mk (rgV 0 n))))
  | [x, y], H, Q => ∃ i j, x = .int i ∧ y = .int j ∧ (RgOk i j ∧ ∀ q, H q = none → Q (.ref q) (upd H q (mk (rgV i j))))
  | _, _, _ => False
section
variable {X : Cx} {a b : Expr} {p p2 pos pos2 : Pos} {ta tb : TE} {m m2 : EM}
theorem cd_trg {G : Gc} : CallD G (rRg HO.tup) trgF := by
  intro H W xs ds z Q th r e q
  match ds, e with
  | [.int n], e =>
    simp only [trgF] at e
    split at e
    · rename_i l; cases e
      obtain ⟨x, xs, rfl, rx, rr⟩ := r
      cases (show xs = [] from rr); cases (show x = .int n from rx)
      obtain ⟨l1, l2⟩ := okRg_ok l
      exact ⟨n, rfl, l1, fun p hp => q _ _ (fm_new hp) ⟨p, rgV 0 n, rfl, upd_same, l2, rgD_rp 0 n⟩⟩
    · cases e
  | [.int i, .int j], e =>
    simp only [trgF] at e
    split at e
    · rename_i l; cases e
      obtain ⟨x, xs, rfl, rx, y, ys, rfl, ry, rr⟩ := r
      cases (show ys = [] from rr); cases (show x = .int i from rx); cases (show y = .int j from ry)
      obtain ⟨l1, l2⟩ := okRg_ok l
      exact ⟨i, j, rfl, rfl, l1, fun p hp => q _ _ (fm_new hp) ⟨p, rgV i j, rfl, upd_same, l2, rgD_rp i j⟩⟩
    · cases e
theorem de_trg1 (hm : X.mg "tuple" = none) (hm2 : X.mg "range" = none) (ha : DE X a ta m) (hc : X.calm = true := by rfl) (hg : Gl X "tuple" := by rfl) (hg2 : Gl X "range" := by rfl)
    (na : starEach [a] X.env = (false, eval a X.env) :: starEach [] X.env := by rfl)
    (nr : starEach [.Call (.Name "range" p2) [a] [] pos2] X.env = (false, eval (.Call (.Name "range" p2) [a] [] pos2) X.env) :: starEach [] X.env := by rfl) :
    DE X (.Call (.Name "tuple" p) [.Call (.Name "range" p2) [a] [] pos2] [] pos) (tCB (rRg HO.tup) (tCons ta tNil)) (eCallV trgF (aCons m aNil)) :=
  ⟨pe_tupRg hc hg hm (prg_1 hg2 hm2 ha.pe na) nr, callv cd_trg (da_cons ha da_nil na).q⟩
end
theorem de_gstr {X : Cx} {x : Str} {z : Str} {pos : Pos} (hm : ∃ t, X.mg x = some (.str z t)) (hg : Gl X x := by rfl) (hd : (x == ("__debug__" : Str)) = false := by decide) : DE X (.Name x pos) (tC (.str z)) (eC (.str z)) := by
  obtain ⟨t, hm⟩ := hm
  refine ⟨pe_glob hg hm ⟨_, rfl⟩ hd, fun Γ σ H ρ d ρ' Q s h k => ?_⟩
  cases h
  exact k _ _ (Po.refl s) rfl
theorem de_gint {X : Cx} {x : Str} {z : Int} {pos : Pos} (hm : ∃ t, X.mg x = some (.int z t)) (hg : Gl X x := by rfl) (hd : (x == ("__debug__" : Str)) = false := by decide) : DE X (.Name x pos) (tC (.int z)) (eC (.int z)) := by
  obtain ⟨t, hm⟩ := hm
  refine ⟨pe_glob hg hm ⟨_, rfl⟩ hd, fun Γ σ H ρ d ρ' Q s h k => ?_⟩
  cases h
  exact k _ _ (Po.refl s) rfl
section
variable {X : Cx} {tg a b c : Expr} {p pos : Pos} {am : AM} {at1 : TA}
end
section
variable {X : Cx} {a b : Expr} {pos : Pos} {m1 m2 : EM} {te1 te2 : TE}
end
omit [TabC] in
/-- names of built-ins that stand free, further -/
structure NbX (mg : Str → Option Value) : Prop where
  set : mg "set" = none
  repr : mg "repr" = none
  dict : mg "dict" = none
end DL
namespace DL
open PySem L2
variable [TabC]
omit [TabC] in
def rExtendR : V → List V → Hp → VK → Prop := fun x vs H Q => ∃ l b xs zs, x = .ref l ∧ vs = [.ref b] ∧ H l = some (.lst xs) ∧ Rd H b (.lst zs) ∧ xs.length + zs.length ≤ sizeLine ∧ Q .non (upd H l (.lst (xs ++ zs)))
section
variable {X : Cx}
end
section
variable {X : Cx} {a b : Expr} {pos : Pos} {m1 m2 : EM} {te1 te2 : TE}
end
end DL
namespace DL
open PySem L2
variable [TabC]
section
variable {Γ : Gam} {G : Gc} {H H1 H2 H' : Hp} {σ : L2.St} {ρ ρ1 ρ2 : Env} {X : Cx} {a b : Expr} {pos : Pos} {ma mb : EM} {te1 te2 : TE} {op : Operator} {r : R2} {f : D → D → Option D}
theorem Sr.drop {z : Addr} (s : Sr ⟨z :: Γ.U, Γ.π⟩ G H σ ρ) (hp : ∀ p ∈ Γ.π, p.2 ∈ Γ.U) : Sr Γ G H σ ρ where
  len := s.len
  nd := s.nd
  out := fun a h q => s.out a h (List.mem_cons_of_mem _ q)
  pin := fun p h => ⟨hp p h, (s.pin p h).2⟩
  pnd := s.pnd
  th := fun a h => s.th a (List.mem_cons_of_mem _ h)
  tb := s.tb
  sl := fun i x h => by
    obtain ⟨y, e, q⟩ := s.sl i x h
    have m : Mo (Gam.w ⟨z :: Γ.U, Γ.π⟩ σ ρ) (Γ.w σ ρ) H H := ⟨Fm.refl _ _, fun b hb => .inl ((List.mem_append.mp hb).elim (fun q => List.mem_append_left _ q) fun q => List.mem_append_right _ (List.mem_cons_of_mem _ q))⟩
    refine ⟨y, e, ?_⟩
    cases x with
    | e => trivial
    | v d => obtain ⟨v, e, r⟩ := q; exact ⟨v, e, Rp.mo m _ _ r⟩
    | o d => obtain ⟨a, e, r⟩ := q; exact ⟨a, e, r.mo m fun x z _ => z⟩
    | p d => obtain ⟨a, e, p, r⟩ := q; exact ⟨a, e, p, r.mo m fun x z _ => z⟩
end
end DL
namespace DL
open PySem L2
variable [TabC]
section
variable {X : Cx}
end
section
variable {X : Cx} {oi e : Expr} {pos p tpos : Pos} {mi me : EM} {ti te : TE} {f : D → D → Option D} {op : Operator} {tip : TIp}
end
end DL
namespace DL
open PySem L2
variable [TabC]
section
variable {X : Cx} {e st : Expr} {lo hi : Option Expr} {p2 pos : Pos} {te : TE} {tl th ts : TO} {m : EM} {ml mh ms : OM}
end
end DL
namespace DL
open PySem L2 PySem.Spec PyProof.Rows
variable [TabC]
omit [TabC] in
abbrev eSet (w : World) : Obj := { cls := .type "set", dict := none, data := .set #[] 0 (.fresh 0 0 (!w.params.followText "set-order")) }
section
variable {P : Program} {w : World} {A : Around} {E : Value → Shared → Prop} {s : Shared}
omit [TabC] in
theorem call_set_lstI {l : Addr} {its : Array Value} (ns : List Int) {Q : Value → Shared → Prop} (hh : A.handled = none) (hl : s.heap.IsList l its) (hit : IntsAre its.toList ns) (hb : ns.length + 1 < scanBound)
    (k : ∀ (h' : Heap) (tk c : Nat), SetR w h' s.heap.objs.size (fun j => decide (j ∈ ns)) c → c ≤ ns.length → (∀ b o, s.heap.get? b = some o → h'.get? b = some o) → Q (.ref s.heap.objs.size) { s with heap := h', toks := tk }) :
    wpAny (model P w) A (call (.type "set") [.ref l]) Q E s := by
  have len : its.size = ns.length := by have q := IntsAre.length hit; rwa [Array.length_toList] at q
  obtain ⟨c, tl, hmro⟩ := F.called_set.mro
  have f1 := F.called_set.made
  have f2 := F.called_set.sub
  have f3 := F.called_set.notType
  have f4 := F.called_set.canCreate
  have f5 := F.typeCall_set_1 (.ref l)
  refine wpAny_call (codeAny_of_tree ?_)
  show wpAny _ _ (callAny (.type "set") _) _ _ _
  refine wpAny_pure ⟨Code.quiet_builtin _ (by decide +kernel), codeAny_builtin F.entry_type_call ?_⟩
  rw [Around.under_plain (weight_type_call_type "set" [.ref l] []) rfl]
  repeat (any_goals (first | assumption | wp_step))
  refine codeAny_mono (code_set_led1 (.ref l) (E := E) (Q₁ := fun o s₁ => o = .ref s.heap.objs.size ∧ s₁ = { s with heap := s.heap.push (eSet w) }) ⟨rfl, rfl⟩) fun r s₁ hr => ?_
  cases r with
  | error e => exact hr
  | ok fl =>
    cases fl with
    | ret obj =>
      obtain ⟨rfl, rfl⟩ := hr
      have g0 : (s.heap.push (eSet w)).get? s.heap.objs.size = some (eSet w) := Heap.get?_push_size _ rfl
      have hT : Shared.TypeIs { s with heap := s.heap.push (eSet w) } (.ref s.heap.objs.size) "set" := ⟨_, g0, rfl⟩
      have f6 := F.called_set.init.lookup
      have f7 := F.called_set.init.bind (.ref s.heap.objs.size)
      repeat (any_goals (first | assumption | wp_step))
      refine codeAny_mono (codeAny_call_builtin (R := wants (fun r s₂ => r = .none ∧ ∃ h' tk c, s₂ = { s with heap := h', toks := tk } ∧ SetR w h' s.heap.objs.size (fun j => decide (j ∈ ns)) c ∧ c ≤ ns.length ∧
          (∀ b o, s.heap.get? b = some o → h'.get? b = some o)) E) F.called_set.init.plain F.entry_set_init (check_set_init_1 hT ?_)) fun r₂ s₂ hr₂ => ?_
      · obtain ⟨ol, hol, hcl, nl, hdl⟩ := hl
        obtain ⟨ocls, odict, odata, oslots⟩ := ol
        simp only at hcl hdl
        subst hcl; subst hdl
        have g1 : (s.heap.push (eSet w)).get? l = some { cls := .type "list", dict := odict, data := .seq its nl, slots := oslots } := Heap.get?_push_of_some _ hol
        have t1 := F.sub_list_set
        have t2 := F.sub_list_frozenset
        have t3 : (Value.type "list" == Value.type "dict") = false := by decide
        have L1 : (s.heap.push (eSet w)).IsList l its := ⟨_, g1, rfl, nl, rfl⟩
        unfold Builtin.«set.__init__» noKeywords Builtin.Frozenset.updateFrom
        generalize hPI : pyIter = PI
        wp_walk
        subst hPI
        refine wpAny_pyIter_list L1 ?_
        refine wpAny_bind (wpAny_runValue ?_)
        have lt : l < s.heap.objs.size := Heap.lt_size hol
        have h3 : A.in1.in1.in1.handled = none := by simp [hh]
        have n1 : l ≠ (s.heap.push (eSet w)).objs.size := by
          rw [Heap.size_push]; exact Nat.ne_of_lt (Nat.lt_succ_of_lt lt)
        have n2 : s.heap.objs.size ∉ [(s.heap.push (eSet w)).objs.size, l] := by
          rw [Heap.size_push]
          intro z
          rcases List.mem_cons.mp z with z | z
          · exact Nat.ne_of_lt (Nat.lt_succ_self _) z
          · rcases List.mem_cons.mp z with z | z
            · exact Nat.ne_of_lt lt z.symm
            · cases z
        have val : ∀ (i : Nat) (v : Value), its[i]? = some v → ∃ k t, ns[i]? = some k ∧ v = .int k t := fun i v hv => by
          have hi : i < ns.length := by rw [← len]; exact (Array.getElem?_eq_some_iff.mp hv).1
          obtain ⟨t, e⟩ := PyProof.Rows.IntsAre.int_at hit i v (by rw [Array.getElem?_toList]; exact hv)
          rw [List.getD_eq_getElem?_getD, List.getElem?_eq_getElem hi, Option.getD_some] at e
          exact ⟨ns[i], t, List.getElem?_eq_getElem hi, e⟩
        refine set_update_ints ((Walks.list h3 _ l n1 its).toS) s.heap.objs.size n2 ns len hb val (its.size - 0) 0 _ (by omega) (Nat.zero_le _) ⟨⟨_, Heap.get?_push_size _ rfl, rfl, rfl⟩, (L1.push _)⟩ ?start ?done
        case start => exact ⟨0, Nat.le_refl 0, setR_new_at (Heap.get?_push_of_some _ g0)⟩
        case done =>
          intro s' c' hm hc' hS'
          obtain ⟨h', g2, d', tk', os'⟩ := s'
          cases (show g2 = s.gens from hm.gens)
          cases (show d' = s.drawn from hm.drawn)
          cases (show os' = s.os from hm.os)
          show wpAny _ _ _ _ _ _
          refine wpAny_pure ?_
          show wpAny _ _ (ret Value.none) _ _ _
          rw [len] at hc'
          refine wpAny_pure ⟨rfl, h', tk', c', rfl, hS', hc', fun b o e => ?_⟩
          have lb : b < s.heap.objs.size := Heap.lt_size e
          refine hm.heap b o (fun z => ?_) (Heap.get?_push_of_some _ (Heap.get?_push_of_some _ e))
          rcases List.mem_cons.mp z with z | z
          · exact Nat.ne_of_lt lb z
          · rcases List.mem_cons.mp z with z | z
            · rw [Heap.size_push] at z; exact Nat.ne_of_lt (Nat.lt_succ_of_lt lb) z
            · cases z
      · cases r₂ with
        | error e => exact hr₂
        | ok fl₂ =>
          cases fl₂ with
          | ret r =>
            obtain ⟨rfl, h', tk, c', rfl, g3, g4, g5⟩ := hr₂
            repeat (any_goals (first | assumption | wp_step))
            exact k h' _ c' g3 g4 g5
          | _ => exact hr₂.elim
    | _ => exact hr.elim
end
section
variable {X : Cx}
omit [TabC] in
/-- a new set of the ints of a list -/
def rSetOfL (K : PySem.W.Frag) (w : World) : List V → Hp → VK → Prop := fun xs H Q => ∃ (l : Addr) (ns : List Int), xs = [.ref l] ∧ (SqL K H l (ns.map V.int) ∨ SqT K H l (ns.map V.int)) ∧ ns.length ≤ 1000 ∧
  ∀ (p : Addr) (c : Nat), H p = none → (∃ l : List Int, l.Nodup ∧ (∀ k, k ∈ l ↔ k ∈ ns) ∧ l.length = c) → Q (.ref p) (upd H p (SetO w p (fun j => decide (j ∈ ns)) c))
omit [TabC] in
theorem cr_setOfL (hc : X.calm = true) : CallR X (.type "set") (rSetOfL X.K X.w) := by
  intro pins s σ H vs us Q I r h
  obtain ⟨l, ns, rfl, hs, hn, q⟩ := h
  rw [Vals.ref1 r]
  have hb : ns.length + 1 < scanBound := by
    have : (1002 : Nat) ≤ scanBound := by decide
    omega
  have fin : ∀ (h' : Heap) (tk c : Nat), SetR X.w h' s.heap.objs.size (fun j => decide (j ∈ ns)) c → c ≤ ns.length → (∀ b o, s.heap.get? b = some o → h'.get? b = some o) → EP X pins σ Q (.ref s.heap.objs.size) { s with heap := h', toks := tk } := by
    intro h' tk c R hc k
    exact ⟨.ref s.heap.objs.size, _, I.laid (t' := tk) (o := SetO X.w s.heap.objs.size (fun j => decide (j ∈ ns)) c) k (Nat.le_refl _) (setO_new R), rfl, q _ c (I.hok.fresh (Nat.le_refl _)) (by
      obtain ⟨o, es, ep, t, _, _, _, _, nd, mem, _, _, sz, _⟩ := R
      exact ⟨es.toList.map keyOf, nd, fun k => by rw [← mem k, decide_eq_true_eq], by rw [List.length_map, Array.length_toList]; exact sz⟩)⟩
  rcases hs with hs | hs
  · obtain ⟨its, rv, pl, hz⟩ := I.list hs
    exact call_set_lstI ns (I.ok.hd hc) pl.isList (ints_of_vals rv) hb fin
  · obtain ⟨its, rv, pl, hz⟩ := I.tuple hs
    exact call_set_tupI ns (I.ok.hd hc) pl (ints_of_vals rv) hb fin
end
end DL
namespace DL
open PySem L2
variable [TabC]
section
variable {X : Cx}
end
end DL
namespace DL
open PySem L2
variable [TabC]
omit [TabC] in
def insS (x : Int) : List Int → List Int
  | [] => [x]
  | y :: r => if x < y then x :: y :: r else if x = y then y :: r else y :: insS x r
omit [TabC] in
def srt (ns : List Int) : List Int := ns.foldr insS []
omit [TabC] in
theorem mem_insS {x k : Int} : ∀ {l : List Int}, k ∈ insS x l ↔ k = x ∨ k ∈ l
  | [] => by simp [insS]
  | y :: r => by
    unfold insS
    split
    · simp
    · split
      · rename_i h; subst h; simp
      · simp only [List.mem_cons, mem_insS (l := r)]
        constructor <;> (intro h; rcases h with h | h | h <;> simp [h])
omit [TabC] in
theorem mem_srt {k : Int} : ∀ {ns : List Int}, k ∈ srt ns ↔ k ∈ ns
  | [] => by simp [srt]
  | x :: r => by
    show k ∈ insS x (srt r) ↔ _
    rw [mem_insS, mem_srt (ns := r), List.mem_cons]
omit [TabC] in
theorem insS_sorted {x : Int} : ∀ {l : List Int}, l.Pairwise (· < ·) → (insS x l).Pairwise (· < ·)
  | [], _ => by simp [insS]
  | y :: r, h => by
    unfold insS
    have h1 := List.pairwise_cons.mp h
    split
    · rename_i q
      refine List.pairwise_cons.mpr ⟨fun z hz => ?_, h⟩
      rcases List.mem_cons.mp hz with e | e
      · rw [e]; exact q
      · exact Int.lt_trans q (h1.1 z e)
    · split
      · exact h
      · refine List.pairwise_cons.mpr ⟨fun z hz => ?_, insS_sorted h1.2⟩
        rcases mem_insS.mp hz with e | e
        · rw [e]; omega
        · exact h1.1 z e
omit [TabC] in
theorem srt_sorted : ∀ ns : List Int, (srt ns).Pairwise (· < ·)
  | [] => List.Pairwise.nil
  | x :: r => insS_sorted (srt_sorted r)
omit [TabC] in
theorem sorted_nodup {l : List Int} (h : l.Pairwise (· < ·)) : l.Nodup := h.imp fun h e => by omega
omit [TabC] in
theorem sorted_ext {l m : List Int} (hl : l.Pairwise (· < ·)) (hm : m.Pairwise (· < ·)) (h : ∀ k, k ∈ l ↔ k ∈ m) : l = m :=
  List.Perm.eq_of_pairwise (fun a b _ _ h1 h2 => by omega) hl hm ((List.perm_ext_iff_of_nodup (sorted_nodup hl) (sorted_nodup hm)).mpr h)
omit [TabC] in
theorem srt_len {l ns : List Int} (nd : l.Nodup) (h : ∀ k, k ∈ l ↔ k ∈ ns) : l.length = (srt ns).length :=
  ((List.perm_ext_iff_of_nodup nd (sorted_nodup (srt_sorted ns))).mpr fun k => (h k).trans mem_srt.symm).length_eq
omit [TabC] in
def sosF : List D → Option D
  | [d] => (match d with
    | .lst ds => some ds
    | .tup ds => some ds
    | _ => none).bind fun ds => (ints? ds).bind fun ns => if decide (ns.length ≤ 1000) && decide ((srt ns).length < 64) then some (.lst ((srt ns).map D.int)) else none
  | _ => none
section
variable {X : Cx} {e : Expr} {p p2 pos pos2 : Pos} {te : TE} {m : EM}
omit [TabC] in
theorem bt_sorted' : bootBuiltins "sorted" = some (.builtin "sorted") := by decide +kernel
omit [TabC] in
theorem bt_set' : bootBuiltins "set" = some (.type "set") := by decide +kernel
theorem df_sos (hm : X.mg "sorted" = none) (hm2 : X.mg "set" = none) (he : DE X e te m) (hc : X.calm = true := by rfl) (hg : Gl X "sorted" := by rfl) (hg2 : Gl X "set" := by rfl)
    (na : starEach [e] X.env = (false, eval e X.env) :: starEach [] X.env := by rfl)
    (nr : starEach [.Call (.Name "set" p2) [e] [] pos2] X.env = (false, eval (.Call (.Name "set" p2) [e] [] pos2) X.env) :: starEach [] X.env := by rfl)
    (hp : (backTo pos2 (starEach [] X.env)).any (·.1) = false := by rfl) (hp2 : (backTo pos (starEach [] X.env)).any (·.1) = false := by rfl) :
    DF X (.Call (.Name "sorted" p) [.Call (.Name "set" p2) [e] [] pos2] [] pos) (tCB (rSortedSet X.w) (tCons (tCB (rSetOfL X.K X.w) (tCons te tNil)) tNil)) (eCallV sosF (aCons m aNil)) := by
  refine ⟨pe_callB (cr_sortedSet hc) hg hm bt_sorted' (pa_cons (pe_callTy (cr_setOfL hc) hg2 hm2 bt_set' (pa_cons he.pe pa_nil na) (by decide) (by decide) na hp) pa_nil nr) (by decide) (by decide) nr hp2, fun Γ σ H ρ d ρ' Q s h k => ?_⟩
  unfold eCallV aCons at h
  cases e1 : m ρ with
  | none => rw [e1] at h; cases h
  | some q =>
  obtain ⟨d1, ρ1⟩ := q
  rw [e1] at h
  simp only [Option.bind_some, aNil, Option.map_some, vals] at h
  cases e2 : sosF [d1] with
  | none => rw [e2] at h; cases h
  | some z =>
  rw [e2] at h
  cases h
  refine he.q Γ σ H ρ d1 ρ' _ s e1 fun v H1 a1 r1 => ?_
  have key : ∃ (l : Addr) (ns : List Int), v = .ref l ∧ (SqL X.K H1 l (ns.map V.int) ∨ SqT X.K H1 l (ns.map V.int)) ∧ ns.length ≤ 1000 ∧ (srt ns).length < 64 ∧ d = .lst ((srt ns).map D.int) := by
    cases d1 with
    | lst ds =>
      obtain ⟨l, vs, rfl, fa, la, ra⟩ := r1
      simp only [sosF, Option.bind_some] at e2
      cases e3 : ints? ds with
      | none => rw [e3] at e2; cases e2
      | some ns =>
        rw [e3] at e2
        obtain ⟨h1, h2⟩ := ints_vals ra e3
        subst h1
        simp only [Option.bind_some] at e2
        split at e2
        · rename_i l2; cases e2
          rw [Bool.and_eq_true] at l2
          exact ⟨l, ns, rfl, .inl fa.sq, of_decide_eq_true l2.1, of_decide_eq_true l2.2, rfl⟩
        · cases e2
    | tup ds =>
      obtain ⟨l, vs, rfl, fa, la, ra⟩ := r1
      simp only [sosF, Option.bind_some] at e2
      cases e3 : ints? ds with
      | none => rw [e3] at e2; cases e2
      | some ns =>
        rw [e3] at e2
        obtain ⟨h1, h2⟩ := ints_vals ra e3
        subst h1
        simp only [Option.bind_some] at e2
        split at e2
        · rename_i l2; cases e2
          rw [Bool.and_eq_true] at l2
          exact ⟨l, ns, rfl, .inr fa.sq, of_decide_eq_true l2.1, of_decide_eq_true l2.2, rfl⟩
        · cases e2
    | _ => simp [sosF] at e2
  obtain ⟨l, ns, rfl, hs, hn, h64, rfl⟩ := key
  refine ⟨l, ns, rfl, hs, hn, fun p c hp0 hc' => ?_⟩
  obtain ⟨ll, nd, mem, lc⟩ := hc'
  have c64 : c < 64 := by rw [← lc, srt_len nd mem]; exact h64
  refine ⟨p, _, c, rfl, upd_same, c64, fun ns' q hs' hm' hl' hq => ?_⟩
  have en : ns' = srt ns := sorted_ext hs' (srt_sorted ns) fun k => by rw [hm' k, mem_srt, decide_eq_true_eq]
  subst en
  have qp : q ≠ p := fun z => by rw [z, upd_same] at hq; cases hq
  have hq1 : H1 q = none := by rwa [upd_ne qp] at hq
  have ow3 : Ow X.G (upd (upd H1 p (SetO X.w p (fun j => decide (j ∈ ns)) c)) q (.lst ((srt ns).map V.int))) (q :: Γ.w σ ρ') (.lst ((srt ns).map D.int)) q :=
    ⟨_, upd_same, by rw [List.length_map]; exact Nat.le_trans (Nat.le_of_lt h64) (by decide), rp_ints _⟩
  exact fresh_end a1 hq1 ((fm_new hp0).trans (fm_new hq)) ow3 k
end
end DL
namespace DL
open PySem L2
variable [TabC]
section
variable {X : Cx} {a b c d : Expr} {pos : Pos} {m mb mc md : EM} {ta tb tc td : TE} {op op' op2 : CmpOp} {r r' r2 : R2} {f g h : D → D → Option D}
end
end DL
namespace DL
open PySem L2
variable [TabC]
section
variable {X : Cx}
end
end DL
namespace DL
open PySem L2
variable [TabC]
omit [TabC] in
def OVs (G : Gc) (H : Hp) (W : List Addr) : List Bool → List D → List V → List Addr → Prop
  | [], ds, vs, A => ds = [] ∧ vs = [] ∧ A = []
  | false :: fl, ds, vs, A => ∃ d ds' v vs', ds = d :: ds' ∧ vs = v :: vs' ∧ Rp G H W d v ∧ OVs G H W fl ds' vs' A
  | true :: fl, ds, vs, A => ∃ d ds' a vs' A', ds = d :: ds' ∧ vs = .ref a :: vs' ∧ A = a :: A' ∧ Ow G H W d a ∧ OVs G H W fl ds' vs' A'
theorem OVs.mo {G : Gc} {H H1 : Hp} {W W1 : List Addr} (m : Mo W W1 H H1) : ∀ {fl : List Bool} {ds : List D} {vs : List V} {A : List Addr}, (∀ a ∈ A, ∀ x, H a = some x → isTb x = false → H1 a = some x) → OVs G H W fl ds vs A → OVs G H1 W1 fl ds vs A
  | [], _, _, _, _, h => h
  | false :: fl, _, _, _, k, ⟨d, ds', v, vs', e1, e2, r, o⟩ => ⟨d, ds', v, vs', e1, e2, Rp.mo m _ _ r, OVs.mo m k o⟩
  | true :: fl, _, _, _, k, ⟨d, ds', a, vs', A', e1, e2, e3, r, o⟩ => ⟨d, ds', a, vs', A', e1, e2, e3, r.mo m (fun x e nt => k a (by rw [e3]; simp) x e nt), OVs.mo m (fun b hb => k b (by rw [e3]; exact List.mem_cons_of_mem _ hb)) o⟩
omit [TabC] in
theorem OVs.len {G : Gc} {H : Hp} {W : List Addr} : ∀ {fl : List Bool} {ds : List D} {vs : List V} {A : List Addr}, OVs G H W fl ds vs A → vs.length = fl.length
  | [], _, _, _, ⟨_, e, _⟩ => by rw [e]; rfl
  | false :: fl, _, _, _, ⟨d, ds', v, vs', e1, e2, r, o⟩ => by rw [e2, List.length_cons, List.length_cons, OVs.len o]
  | true :: fl, _, _, _, ⟨d, ds', a, vs', A', e1, e2, e3, r, o⟩ => by rw [e2, List.length_cons, List.length_cons, OVs.len o]
structure DAo (X : Cx) (es : List Expr) (fl : List Bool) (t : TA) (m : AM) : Prop where
  pe : PA X es t
  q : ∀ (Γ : Gam) (σ : L2.St) (H : Hp) (ρ : Env) (ds : List D) (ρ' : Env) (Q : List V → Hp → Prop), Sr Γ X.G H σ ρ → m ρ = some (ds.map .val, ρ') →
    (∀ vs H' A, Sr ⟨A ++ Γ.U, Γ.π⟩ X.G H' σ ρ' → Fm (Γ.mu σ ρ) H H' → (∀ a ∈ ownO σ ρ', a ∈ ownO σ ρ) → Tr H H' → (∀ a ∈ A, H a = none) → A.Nodup → OVs X.G H' (ownO σ ρ' ++ (A ++ Γ.U)) fl ds vs A → Q vs H') → t σ H Q
section
variable {X : Cx} {e : Expr} {es : List Expr} {fl : List Bool} {te : TE} {t : TA} {m : EM} {am : AM}
end
omit [TabC] in
def tgsN : List Nat → TGs
  | [] => L2.gNil
  | i :: is => L2.gCons (gName i) (tgsN is)
omit [TabC] in
structure DN (X : Cx) (ts : List Expr) (is : List Nat) : Prop where
  p : PGs X ts (tgsN is)
end DL
namespace DL
open PySem L2 PySem.Spec PyProof.Rows
variable [TabC]
theorem dt_chain {X : Cx} {a b c : Expr} {pos : Pos} {m mb mc : EM} {te te2 te3 : TE} {op op' : CmpOp} {r r' : R2} {f g : D → D → Option D} (ho : OpR X (compareOp op) r) (ho' : OpR X (compareOp op') r') (od : OpD X.G r f) (od' : OpD X.G r' g) (ha : DE X a te m) (hb : DE X b te2 mb) (hc : DE X c te3 mc)
    (hm : lastMarks [op, op'] [b, c] = false := by with_unfolding_all rfl) : DT X (.Compare a [op, op'] [b, c] pos) (tTest (tChain r r' te te2 te3)) (tB (eChain f g m mb mc)) := by
  refine ⟨pt_chain ho ho' ha.pe hb.pe hc.pe hm, fun Γ σ H ρ d ρ' Q s h k => ?_⟩
  have e : eChain f g m mb mc ρ = some (.bl d, ρ') := by
    unfold tB at h
    cases e : eChain f g m mb mc ρ with
    | none => rw [e] at h; cases h
    | some p =>
      rw [e] at h
      obtain ⟨x, ρ1⟩ := p
      cases x <;> cases h
      rfl
  exact (de_chain (pos := pos) ho ho' od od' ha hb hc hm).q Γ σ H ρ _ ρ' _ s e fun v H' a r => ⟨d, r, k H' a⟩
end DL
namespace DL
open PySem L2 PySem.Spec PyProof.Rows PpSet
variable [TabC]
section
variable {X : Cx}
omit [TabC] in
/-- an iterator's places are free still -/
theorem places {fp : List Addr} {s3 : Shared} {H3 : Hp} {scope : Scope} {ce : PySem.Env} {σ' : L2.St} {H' : Hp} {s' : Shared} (I' : Inv (X.blk s3 H3 scope ce fp) [] σ' H' s') (hn : ∀ b ∈ fp, H' b = none) :
    ∀ b ∈ fp, FpOk (X.blk s3 H3 scope ce fp) [] H' b := fun b hb =>
  ⟨hn b hb, (I'.ok.exf b hb).1, I'.ok.exfs b hb, .inl hb, fun x c e => (I'.ok.exf b hb).2 x c e, fun p hp => by cases hp⟩
end
end DL
namespace DL
open PySem L2 PySem.Spec PyProof.Rows
variable [TabC]
omit [TabC] in
def scL : D → Option D
  | .lst ds => if ds.all scalD then some (.lst ds) else none
  | _ => none
omit [TabC] in
theorem scL_e {a b : D} (h : scL a = some b) : ∃ ds, a = .lst ds ∧ b = .lst ds ∧ ds.all scalD = true := by
  unfold scL at h
  split at h
  · split at h
    · rename_i ds q; cases h; exact ⟨ds, rfl, rfl, q⟩
    · cases h
  · cases h
section
variable {X : Cx} {e : Expr} {y : Str} {py spos : Pos} {te : TE} {m : EM}
end
end DL
namespace DL
open PySem L2
variable [TabC]
omit [TabC] in
def keyK : D → Option Key
  | .int i => some (.inl i)
  | .str s => some (.inr s)
  | _ => none
omit [TabC] in
def putD {κ : Type} [DecidableEq κ] (kvs : List (κ × D)) (k : κ) (v : D) : List (κ × D) := if (kvs.any fun kv => decide (kv.1 = k)) = true then kvs.map (fun kv => if kv.1 = k then (kv.1, v) else kv) else kvs ++ [(k, v)]
omit [TabC] in
abbrev inl (k : List Int) : List Key := k.map Sum.inl
omit [TabC] in
theorem inl_inj {k l : List Int} (h : inl k = inl l) : k = l := by
  induction k generalizing l with
  | nil => cases l with
    | nil => rfl
    | cons => cases h
  | cons a k ih => cases l with
    | nil => cases h
    | cons b l =>
      simp only [inl, List.map_cons, List.cons.injEq, Sum.inl.injEq] at h
      rw [h.1, ih h.2]
omit [TabC] in
theorem inl_iff {k l : List Int} : inl k = inl l ↔ k = l := ⟨inl_inj, fun h => by rw [h]⟩
section
variable {G : Gc} {H : Hp} {W : List Addr}
omit [TabC] in
theorem RpT.length : ∀ {kvs : List (List Int × D)} {vs : List (List Key × V)}, RpT G H W kvs vs → vs.length = kvs.length
  | [], _, h => by rw [show _ = [] from h]; rfl
  | (k, d) :: kvs, _, ⟨x, xs, e, r, q⟩ => by rw [e, List.length_cons, List.length_cons, RpT.length q]
omit [TabC] in
theorem RpK.length : ∀ {kvs : List (Key × D)} {vs : List (Key × V)}, RpK G H W kvs vs → vs.length = kvs.length
  | [], _, h => by rw [show _ = [] from h]; rfl
  | (k, d) :: kvs, _, ⟨x, xs, e, r, q⟩ => by rw [e, List.length_cons, List.length_cons, RpK.length q]
omit [TabC] in
theorem RpT.app : ∀ {kvs kvs' : List (List Int × D)} {vs vs' : List (List Key × V)}, RpT G H W kvs vs → RpT G H W kvs' vs' → RpT G H W (kvs ++ kvs') (vs ++ vs')
  | [], _, _, _, h, q => by rw [show _ = [] from h]; exact q
  | (k, d) :: kvs, _, _, _, ⟨x, xs, e, r, q⟩, q' => ⟨x, xs ++ _, by rw [e]; rfl, r, RpT.app q q'⟩
omit [TabC] in
theorem RpK.app : ∀ {kvs kvs' : List (Key × D)} {vs vs' : List (Key × V)}, RpK G H W kvs vs → RpK G H W kvs' vs' → RpK G H W (kvs ++ kvs') (vs ++ vs')
  | [], _, _, _, h, q => by rw [show _ = [] from h]; exact q
  | (k, d) :: kvs, _, _, _, ⟨x, xs, e, r, q⟩, q' => ⟨x, xs ++ _, by rw [e]; rfl, r, RpK.app q q'⟩
omit [TabC] in
theorem RpT.any (k : List Int) : ∀ {kvs : List (List Int × D)} {vs : List (List Key × V)}, RpT G H W kvs vs → (vs.any fun kv => decide (kv.1 = inl k)) = kvs.any fun kv => decide (kv.1 = k)
  | [], _, h => by rw [show _ = [] from h]; rfl
  | (l, d) :: kvs, _, ⟨x, xs, e, r, q⟩ => by
    subst e
    rw [List.any_cons, List.any_cons, RpT.any k q]
    congr 1
    exact decide_eq_decide.mpr inl_iff
omit [TabC] in
theorem RpK.any (k : Key) : ∀ {kvs : List (Key × D)} {vs : List (Key × V)}, RpK G H W kvs vs → (vs.any fun kv => decide (kv.1 = k)) = kvs.any fun kv => decide (kv.1 = k)
  | [], _, h => by rw [show _ = [] from h]; rfl
  | (l, d) :: kvs, _, ⟨x, xs, e, r, q⟩ => by
    subst e
    rw [List.any_cons, List.any_cons, RpK.any k q]
omit [TabC] in
theorem RpT.map (k : List Int) {y : D} {v : V} (ry : Rp G H W y v) : ∀ {kvs : List (List Int × D)} {vs : List (List Key × V)}, RpT G H W kvs vs → RpT G H W (kvs.map fun kv => if kv.1 = k then (kv.1, y) else kv) (vs.map fun kv => if kv.1 = inl k then (kv.1, v) else kv)
  | [], _, h => by rw [show _ = [] from h]; exact rfl
  | (l, d) :: kvs, _, ⟨x, xs, e, r, q⟩ => by
    subst e
    by_cases z : l = k
    · have z2 : inl l = inl k := by rw [z]
      rw [List.map_cons, List.map_cons, if_pos z, if_pos z2]
      exact ⟨v, _, rfl, ry, RpT.map k ry q⟩
    · have z2 : ¬ inl l = inl k := fun y => z (inl_inj y)
      rw [List.map_cons, List.map_cons, if_neg z, if_neg z2]
      exact ⟨x, _, rfl, r, RpT.map k ry q⟩
omit [TabC] in
theorem RpK.map (k : Key) {y : D} {v : V} (ry : Rp G H W y v) : ∀ {kvs : List (Key × D)} {vs : List (Key × V)}, RpK G H W kvs vs → RpK G H W (kvs.map fun kv => if kv.1 = k then (kv.1, y) else kv) (vs.map fun kv => if kv.1 = k then (kv.1, v) else kv)
  | [], _, h => by rw [show _ = [] from h]; exact rfl
  | (l, d) :: kvs, _, ⟨x, xs, e, r, q⟩ => by
    subst e
    by_cases z : l = k
    · rw [List.map_cons, List.map_cons, if_pos z, if_pos z]
      exact ⟨v, _, rfl, ry, RpK.map k ry q⟩
    · rw [List.map_cons, List.map_cons, if_neg z, if_neg z]
      exact ⟨x, _, rfl, r, RpK.map k ry q⟩
omit [TabC] in
theorem RpT.put {kvs : List (List Int × D)} {vs : List (List Key × V)} (q : RpT G H W kvs vs) (k : List Int) {y : D} {v : V} (ry : Rp G H W y v) : RpT G H W (putD kvs k y) (putK vs (inl k) v) := by
  unfold putD putK
  rw [q.any]
  split
  · exact q.map k ry
  · exact q.app ⟨v, [], rfl, ry, rfl⟩
omit [TabC] in
theorem RpK.put {kvs : List (Key × D)} {vs : List (Key × V)} (q : RpK G H W kvs vs) (k : Key) {y : D} {v : V} (ry : Rp G H W y v) : RpK G H W (putD kvs k y) (putK vs k v) := by
  unfold putD putK
  rw [q.any]
  split
  · exact q.map k ry
  · exact q.app ⟨v, [], rfl, ry, rfl⟩
end
section
variable {X : Cx} {a b e oi : Expr} {te te1 te2 ti : TE} {ma mb m mi : EM} {pos : Pos}
end
end DL
namespace DL
open PySem L2 PySem.Spec PyProof.Rows
variable [TabC]
section
variable {X : Cx} {a b e oi k v : Expr} {te te1 te2 ti tk tv : TE} {ma mb m mi mk mv : EM} {pos tpos p : Pos}
end
end DL
namespace DL
open PySem L2
variable [TabC]
omit [TabC] in
def tupD (k : List Int) : D := .tup (k.map .int)
section
variable {X : Cx} {G : Gc} {H : Hp} {W : List Addr}
end
end DL
namespace DL
open PySem L2
end DL
namespace DL
open PySem L2
variable [TabC]
omit [TabC] in
def NRel (G : Gc) (H : Hp) (W : List Addr) : List (D × Bool) → List V → List Addr → Prop
  | [], vs, A => vs = [] ∧ A = []
  | (d, false) :: ps, vs, A => ∃ v ws, vs = v :: ws ∧ Rp G H W d v ∧ NRel G H W ps ws A
  | (d, true) :: ps, vs, A => ∃ a ws B, vs = .ref a :: ws ∧ A = a :: B ∧ Ow G H W d a ∧ NRel G H W ps ws B
omit [TabC] in
abbrev NM := Env → Option (List (D × Bool) × Env)
section
variable {G : Gc} {H H' H1 H2 : Hp} {W W' : List Addr} {Γ : Gam} {σ σ' : L2.St} {ρ ρ' : Env}
theorem NRel.mo (m : Mo W W' H H') : ∀ {ps : List (D × Bool)} {vs : List V} {A : List Addr}, (∀ a ∈ A, ∀ x, H a = some x → isTb x = false → H' a = some x) → NRel G H W ps vs A → NRel G H' W' ps vs A
  | [], vs, A, _, h => h
  | (d, false) :: ps, _, A, k, ⟨v, ws, e, r, q⟩ => ⟨v, ws, e, Rp.mo m _ _ r, NRel.mo m k q⟩
  | (d, true) :: ps, _, _, k, ⟨a, ws, B, e, eA, ow, q⟩ => by
    subst eA
    exact ⟨a, ws, B, e, rfl, ow.mo m (fun x e nt => k a (List.mem_cons_self ..) x e nt), NRel.mo m (fun b hb => k b (List.mem_cons_of_mem _ hb)) q⟩
theorem NRel.vals (s : ∀ b ∈ W', b ∈ W) : ∀ {ps : List (D × Bool)} {vs : List V} {A : List Addr}, (∀ a ∈ A, a ∉ W') → NRel G H W ps vs A → RpAll G H W' (ps.map (·.1)) vs
  | [], vs, A, _, h => h.1
  | (d, false) :: ps, _, A, k, ⟨v, ws, e, r, q⟩ => ⟨v, ws, e, Rp.mo ⟨Fm.refl _ _, fun b z => .inl (s b z)⟩ _ _ r, NRel.vals s k q⟩
  | (d, true) :: ps, _, _, k, ⟨a, ws, B, e, eA, ow, q⟩ => by
    subst eA
    exact ⟨_, ws, e, ow.rp (k a (List.mem_cons_self ..)) s, NRel.vals s (fun b hb => k b (List.mem_cons_of_mem _ hb)) q⟩
omit [TabC] in
theorem NRel.at : ∀ {ps : List (D × Bool)} {vs : List V} {A : List Addr} {i : Nat} {d : D}, NRel G H W ps vs A → ps[i]? = some (d, true) → ∃ a, vs[i]? = some (.ref a) ∧ a ∈ A ∧ Ow G H W d a
  | [], _, _, _, _, _, e => by simp at e
  | (d0, false) :: ps, _, A, 0, d, _, e => by simp at e
  | (d0, false) :: ps, _, A, i + 1, d, ⟨v, ws, ev, r, q⟩, e => by
    subst ev
    obtain ⟨a, h1, h2, h3⟩ := NRel.at (i := i) q (by simpa using e)
    exact ⟨a, by simpa using h1, h2, h3⟩
  | (d0, true) :: ps, _, _, 0, d, ⟨a, ws, B, ev, eA, ow, q⟩, e => by
    subst ev; subst eA
    simp at e
    subst e
    exact ⟨a, rfl, List.mem_cons_self .., ow⟩
  | (d0, true) :: ps, _, _, i + 1, d, ⟨a0, ws, B, ev, eA, ow, q⟩, e => by
    subst ev; subst eA
    obtain ⟨a, h1, h2, h3⟩ := NRel.at (i := i) q (by simpa using e)
    exact ⟨a, by simpa using h1, List.mem_cons_of_mem _ h2, h3⟩
theorem NRel.set (m : Mo W W' H H') {a : Addr} {d' : D} (f : ∀ b, b ≠ a → ∀ x, H b = some x → isTb x = false → H' b = some x) (ow' : Ow G H' W' d' a) : ∀ {ps : List (D × Bool)} {vs : List V} {A : List Addr} {i : Nat} {d : D}, A.Nodup → NRel G H W ps vs A → ps[i]? = some (d, true) → vs[i]? = some (.ref a) → NRel G H' W' (ps.set i (d', true)) vs A
  | [], _, _, _, _, _, _, e, _ => by simp at e
  | (d0, false) :: ps, _, A, 0, d, _, _, e, _ => by simp at e
  | (d0, false) :: ps, _, A, i + 1, d, nd, ⟨v, ws, ev, r, q⟩, e, e2 => by
    subst ev
    exact ⟨v, ws, rfl, Rp.mo m _ _ r, NRel.set m f ow' (i := i) nd q (by simpa using e) (by simpa using e2)⟩
  | (d0, true) :: ps, _, _, 0, d, nd, ⟨b, ws, B, ev, eA, ow, q⟩, e, e2 => by
    subst ev; subst eA
    simp at e2
    subst e2
    refine ⟨b, ws, B, rfl, rfl, ow', NRel.mo m (fun c hc => f c fun z => ?_) q⟩
    exact (List.nodup_cons.mp nd).1 (z ▸ hc)
  | (d0, true) :: ps, _, _, i + 1, d, nd, ⟨b, ws, B, ev, eA, ow, q⟩, e, e2 => by
    subst ev; subst eA
    have e2 : ws[i]? = some (.ref a) := by simpa using e2
    have e : ps[i]? = some (d, true) := by simpa using e
    obtain ⟨a2, h1, h2, _⟩ := NRel.at q e
    rw [e2] at h1
    cases h1
    refine ⟨b, ws, B, rfl, rfl, ow.mo m (fun x e nt => f b (fun z => ?_) x e nt), NRel.set m f ow' (i := i) (List.nodup_cons.mp nd).2 q e e2⟩
    exact (List.nodup_cons.mp nd).1 (z ▸ h2)
end
structure DNs (X : Cx) (es : List Expr) (t : TA) (m : NM) : Prop where
  pe : PA X es t
  q : ∀ (Γ : Gam) (σ : L2.St) (H : Hp) (ρ : Env) (ps : List (D × Bool)) (ρ' : Env) (Q : List V → Hp → Prop), Sr Γ X.G H σ ρ → m ρ = some (ps, ρ') →
    (∀ vs A H', A.Nodup → (∀ a ∈ A, H a = none) → Sr ⟨A ++ Γ.U, Γ.π⟩ X.G H' σ ρ' → NRel X.G H' (ownO σ ρ' ++ (A ++ Γ.U)) ps vs A → Fm (Γ.mu σ ρ) H H' → (∀ b ∈ ownO σ ρ', b ∈ ownO σ ρ) → Tr H H' → Q vs H') → t σ H Q
omit [TabC] in
def nNil : NM := fun ρ => some ([], ρ)
omit [TabC] in
def nCons (f : Bool) (m : EM) (r : NM) : NM := fun ρ => (m ρ).bind fun p => (r p.2).map fun q => ((p.1, f) :: q.1, q.2)
section
variable {X : Cx} {e : Expr} {es : List Expr} {te : TE} {at1 : TA} {m : EM} {nm : NM}
end
structure NO (X : Cx) (x : Nat) (sts : List Stmt) (t : TS) (m : List (D × Bool) → SM) : Prop where
  pe : PSs X sts t
  q : ∀ (Γ : Gam) (σ : L2.St) (H : Hp) (ρ : Env) (ps : List (D × Bool)) (o : Out) (vs : List V) (A : List Addr) (p : Addr) (E : Ends),
    Sr ⟨p :: (A ++ Γ.U), Γ.π⟩ X.G H σ ρ → (∀ q ∈ Γ.π, q.2 ∈ Γ.U) → σ[x]? = some (some (.ref p)) → H p = some (.lst vs) → (p :: A).Nodup → (∀ a ∈ p :: A, a ∉ Γ.π.map (·.2)) → NRel X.G H (ownO σ ρ ++ (p :: (A ++ Γ.U))) ps vs A → m ps ρ = some o →
    (∀ ρ' H', Sr Γ X.G H' σ ρ' → Fm (Γ.mu σ ρ ++ A) H H' → (∀ b ∈ ownO σ ρ', b ∈ ownO σ ρ) → Tr H H' → Fin Γ X.G σ ρ' H' E o) → t E σ H
omit [TabC] in
def noEnd (mr : SM) : List (D × Bool) → SM := fun _ => mr
section
variable {X : Cx} {e oi : Expr} {es : List Expr} {sts : List Stmt} {p pi apos cpos pos : Pos} {am : AM} {at1 : TA} {nx name : Str} {id : String} {r : V → List V → Hp → VK → Prop} {f : D → List D → Option (D × D)} {tr : TS} {mr : List (D × Bool) → SM} {m0 : SM}
end
section
variable {X : Cx} {c : Expr} {es : List Expr} {body rest sts : List Stmt} {px lpos pos ipos : Pos} {nm : NM} {at1 : TA} {tc : TT} {mc : TM} {tb t2 trs : TS} {mb : SM} {mo : List (D × Bool) → SM} {nx : Str}
end
end DL
namespace DL
open PySem L2
variable [TabC]
end DL
namespace DL
open PySem L2
variable [TabC]
omit [TabC] in
/-- a pair of key and value -/
def kvE (ek ev : EM) : EM := fun ρ => (ek ρ).bind fun p => (ev p.2).bind fun q => (keyK p.1).map fun _ => (.tup [p.1, q.1], q.2)
section
variable {J : It} {n : Nat} {G : Hp → Prop} {Y : Nat → Hp → V → Hp → Prop}
end
section
variable {X : Cx} {kx vx tg iter : Expr} {ifs : List Expr} {scope : Scope} {own : List (Str × Nat)} {pos : Pos} {wi : TI} {g : TG} {tt : TT} {tk te : TE} {is : List Nat} {it : IM} {gm : GM} {tm : TM} {ek el : EM}
end
end DL
namespace DL
open PySem L2
variable [TabC]
omit [TabC] in
def isDct : D → Bool
  | .dT _ => true
  | .dK _ => true
  | _ => false
section
variable {X : Cx} {e oi o yi : Expr} {ti tY to : TE} {mi my mo : EM} {apos cpos p : Pos} {nx : Str}
end
section
variable {X : Cx} {oi : Expr} {ti : TE} {mi : EM} {p pos : Pos} {nx : Str}
end
section
variable {X : Cx}
end
end DL
namespace DL
open PySem PySem.Spec PyProof.Rows L2
variable [TabC]
omit [TabC] in
def keysT (kvs : List (List Int × D)) : List D := kvs.map fun kv => tupD kv.1
omit [TabC] in
def iKeysD (m : EM) : IM := fun ρ => (m ρ).bind fun p => match p.1 with
  | .dT kvs => if kvs.length ≤ 1000000 ∧ (kvs.all fun kv => decide (kv.1.length ≤ 1000000)) = true then some (keysT kvs, p.2) else none
  | _ => none
section
variable {X : Cx} {tg e : Expr} {te : TE} {m : EM} {G : Gc} {H : Hp} {W : List Addr}
end
end DL
namespace DL
open PySem PySem.W PyProof.Rows L2
variable [TabC]
end DL
namespace DL
open PySem PySem.Spec PyProof.Rows L2
variable [TabC]
section
variable {prog : Program} {w : World} {A : Around} {E : Value → Shared → Prop} {s : Shared} {l : Addr} {its : List Value} {ns : List Int} {Q : Value → Shared → Prop}
end
end DL
namespace DL
open PySem L2
variable [TabC]
omit [TabC] in
def gTS (r : List D → Env → Option Env) : GM := fun d ρ => match d with
  | .tup ds => r ds ρ
  | .lst ds => r ds ρ
  | _ => none
section
variable {X : Cx} {pos : Pos} {es : List Expr} {is : List Nat} {gs : List D → Env → Option Env} {tgs : TGs}
end
end DL
namespace DL
open PySem PySem.W PyProof.Rows L2
variable [TabC]
end DL
namespace DL
open PySem L2
variable [TabC]
omit [TabC] in
def putFD (f : Str) (d : D) : List (Str × D) → List (Str × D)
  | [] => [(f, d)]
  | (g, x) :: r => if g = f then (g, d) :: r else (g, x) :: putFD f d r
omit [TabC] in
structure AtF (K : PySem.W.Frag) (mg : Str → Option Value) (C f : Str) : Prop where
  ex : ∃ Ca : Addr, mg C = some (.ref Ca) ∧ Cls K Ca ∧ NoAttr K Ca f
omit [TabC] in
def caOf (mg : Str → Option Value) (C : Str) : Addr := match mg C with
  | some (.ref a) => a
  | _ => 0
structure FnM (P : Program) (w : World) (K : PySem.W.Frag) (mg : Str → Option Value) (base : Heap) (C m : Str) (k : Nat) (ps : List Str) (fn : FnSem) : Prop where
  ex : ∃ (f : Addr) (fd : FuncData), mg C = some (.ref (caOf mg C)) ∧ Cls K (caOf mg C) ∧ Meth K (caOf mg C) m f ∧ Binds K fd ps [] ∧ FnOk P w K mg base CX0 k f fd ps (spF ⟨K, mg⟩ fn)
structure FnI (P : Program) (w : World) (K : PySem.W.Frag) (mg : Str → Option Value) (base : Heap) (C : Str) (k : Nat) (ps : List Str) (fn : FnSem) : Prop where
  ex : ∃ (f : Addr) (fd : FuncData), mg C = some (.ref (caOf mg C)) ∧ Mk K (caOf mg C) f ∧ Binds K fd ps [] ∧ FnOk P w K mg base CX0 k f fd ps (spF ⟨K, mg⟩ fn)
section
variable {G : Gc} {H : Hp} {W : List Addr}
omit [TabC] in
theorem RpF.len : ∀ {fs : List (Str × D)} {vs : List (Str × V)}, RpF G H W fs vs → vs.length = fs.length
  | [], _, h => by rw [show _ = [] from h]; rfl
  | (k, d) :: fs, _, ⟨x, xs, e, _, q⟩ => by rw [e, List.length_cons, List.length_cons, RpF.len q]
omit [TabC] in
theorem RpF.get {f : Str} {d : D} : ∀ {fs : List (Str × D)} {vs : List (Str × V)}, RpF G H W fs vs → fs.lookup f = some d → ∃ v, vs.lookup f = some v ∧ Rp G H W d v
  | [], _, _, l => by cases l
  | (k, x) :: fs, _, ⟨y, ys, e, r, q⟩, l => by
    subst e
    rw [List.lookup_cons] at l ⊢
    cases c : f == k with
    | true => rw [c] at l; cases l; exact ⟨y, rfl, r⟩
    | false => rw [c] at l; exact RpF.get q l
omit [TabC] in
theorem RpF.none {f : Str} : ∀ {fs : List (Str × D)} {vs : List (Str × V)}, RpF G H W fs vs → fs.lookup f = none → vs.lookup f = none
  | [], _, h, _ => by rw [show _ = [] from h]; rfl
  | (k, x) :: fs, _, ⟨y, ys, e, r, q⟩, l => by
    subst e
    rw [List.lookup_cons] at l ⊢
    cases c : f == k with
    | true => rw [c] at l; cases l
    | false => rw [c] at l; exact RpF.none q l
omit [TabC] in
theorem RpF.put {f : Str} {d : D} {v : V} (r : Rp G H W d v) : ∀ {fs : List (Str × D)} {vs : List (Str × V)}, RpF G H W fs vs → RpF G H W (putFD f d fs) (putF f v vs)
  | [], _, h => by rw [show _ = [] from h]; exact ⟨v, [], rfl, r, rfl⟩
  | (k, x) :: fs, _, ⟨y, ys, e, ry, q⟩ => by
    subst e
    unfold putFD putF
    by_cases c : k = f
    · rw [if_pos c, if_pos c]; exact ⟨v, ys, rfl, r, q⟩
    · rw [if_neg c, if_neg c]; exact ⟨y, _, rfl, ry, RpF.put r q⟩
end
section
variable {X : Cx} {e o : Expr} {es : List Expr} {pos apos p tpos : Pos} {m mo : EM} {te to : TE} {am : AM} {at1 : TA} {C f mt : Str} {k : Nat} {ps : List Str} {fn : FnSem}
structure DGH (X : Cx) (tg : Expr) (t : TG) (g : GM) : Prop where
  pe : PG X tg t
  q : ∀ (Γ : Gam) (σ : L2.St) (H : Hp) (ρ : Env) (d : D) (v : V) (ρ' : Env) (Q : L2.St → Hp → Prop), Sr Γ X.G H σ ρ → Rp X.G H (Γ.w σ ρ) d v → g d ρ = some ρ' →
    (∀ H', Po Γ X.G σ ρ H ρ' H' → Q σ H') → t v σ H Q
structure DGHs (X : Cx) (ts : List Expr) (t : TGs) (g : List D → Env → Option Env) : Prop where
  pe : PGs X ts t
  q : ∀ (Γ : Gam) (σ : L2.St) (H : Hp) (ρ : Env) (ds : List D) (vs : List V) (ρ' : Env) (Q : L2.St → Hp → Prop), Sr Γ X.G H σ ρ → RpAll X.G H (Γ.w σ ρ) ds vs → g ds ρ = some ρ' →
    (∀ H', Po Γ X.G σ ρ H ρ' H' → Q σ H') → t vs σ H Q
variable {tg : Expr} {tgs : List Expr} {t1 : TG} {ts : TGs} {g1 : GM} {gs : List D → Env → Option Env}
omit [TabC] in
def eMake (C : Str) (fn : FnSem) (a : AM) : EM := fun ρ => (a ρ).bind fun p => (vals p.1).bind fun ds => (fn (.p (.obj C []) :: ds.map .v)).bind fun q => match q with
  | (.non, .p d :: _) => some (d, p.2)
  | _ => none
end
end DL
namespace DL
open PySem PySem.W PySem.Calls PyProof.Rows
section
variable {prog : Program} {w : World} {A : Around} {E : Value → Shared → Prop} {s : Shared} {a kS : Addr} {b : Bool} {vs : List Value} {keys : Array Value} {e e1 : Nat} {P : PySem.Fin → Shared → Prop} {kz : List PyData} {f : Value} {J : List Value → Shared → Prop}
end
end DL
namespace DL
open PySem L2
variable [TabC]
omit [TabC] in
mutual
def pyD : D → Option PyData
  | .non => some .none
  | .bl b => some (.bool b)
  | .int i => some (.int i)
  | .str s => some (.str s)
  | .lst ds => (pyDs ds).map .list
  | .tup ds => (pyDs ds).map .tuple
  | _ => none
def pyDs : List D → Option (List PyData)
  | [] => some []
  | d :: ds => (pyD d).bind fun p => (pyDs ds).map fun q => p :: q
end
section
variable {P : Program} {w : World} {G : Gc} {H : Hp} {h : Heap} {W : List Addr}
omit [TabC] in
mutual
theorem reads_of (ok : HOk P w H h) : ∀ (d : D) (v : V) (u : Value) (p : PyData), Rp G H W d v → RelV v u → pyD d = some p → ∃ as, Reads h u p as
  | .non, v, u, p, r, e, hp => by
    simp only [Rp] at r; subst r
    simp only [pyD, Option.some.injEq] at hp; subst hp
    obtain rfl : u = Value.none := e
    exact ⟨_, .none⟩
  | .bl b, v, u, p, r, e, hp => by
    simp only [Rp] at r; subst r
    simp only [pyD, Option.some.injEq] at hp; subst hp
    obtain rfl : u = Value.bool b := e
    exact ⟨_, .bool b⟩
  | .int i, v, u, p, r, e, hp => by
    simp only [Rp] at r; subst r
    simp only [pyD, Option.some.injEq] at hp; subst hp
    obtain ⟨t, rfl⟩ : ∃ t, u = Value.int i t := e
    exact ⟨_, .int i t⟩
  | .str s, v, u, p, r, e, hp => by
    simp only [Rp] at r; subst r
    simp only [pyD, Option.some.injEq] at hp; subst hp
    obtain ⟨t, rfl⟩ : ∃ t, u = Value.str s t := e
    exact ⟨_, .str s t⟩
  | .lst ds, v, u, p, r, e, hp => by
    simp only [Rp] at r
    obtain ⟨a, vs, rfl, f, l, rs⟩ := r
    obtain rfl : u = Value.ref a := e
    simp only [pyD, Option.map_eq_some_iff] at hp
    obtain ⟨q, hq, rfl⟩ := hp
    obtain ⟨_, its, n, rv, hg⟩ := f.2.ok ok
    obtain ⟨as, R⟩ := reads_all ok ds vs its q rs rv hq
    exact ⟨_, .list hg rfl rfl (by simpa using R)⟩
  | .tup ds, v, u, p, r, e, hp => by
    simp only [Rp] at r
    obtain ⟨a, vs, rfl, f, l, rs⟩ := r
    obtain rfl : u = Value.ref a := e
    simp only [pyD, Option.map_eq_some_iff] at hp
    obtain ⟨q, hq, rfl⟩ := hp
    obtain ⟨_, its, rv, o, hg, hc, n, hd⟩ := ok _ _ f
    obtain ⟨as, R⟩ := reads_all ok ds vs its q rs rv hq
    exact ⟨_, .tuple hg hc hd (by simpa using R)⟩
  | .dT _, v, u, p, r, e, hp => by simp [pyD] at hp
  | .dK _, v, u, p, r, e, hp => by simp [pyD] at hp
  | .obj _ _, v, u, p, r, e, hp => by simp [pyD] at hp
  | .scr _, v, u, p, r, e, hp => by simp [pyD] at hp
  | .exn _ _, v, u, p, r, e, hp => by simp [pyD] at hp
  | .fT _, v, u, p, r, e, hp => by simp [pyD] at hp
theorem reads_all (ok : HOk P w H h) : ∀ (ds : List D) (vs : List V) (us : List Value) (ps : List PyData), RpAll G H W ds vs → Vals vs us → pyDs ds = some ps → ∃ as, ReadsAll h us ps as
  | [], vs, us, ps, r, e, hp => by
    simp only [RpAll] at r; subst r
    simp only [pyDs, Option.some.injEq] at hp; subst hp
    cases e
    exact ⟨_, .nil⟩
  | d :: ds, vs, us, ps, r, e, hp => by
    simp only [RpAll] at r
    obtain ⟨x, xs, rfl, r1, r2⟩ := r
    simp only [pyDs, Option.bind_eq_some_iff, Option.map_eq_some_iff] at hp
    obtain ⟨p, hp, q, hq, rfl⟩ := hp
    cases e with
    | cons e1 e2 =>
      obtain ⟨as, R1⟩ := reads_of ok d x _ p r1 e1 hp
      obtain ⟨bs, R2⟩ := reads_all ok ds xs _ q r2 e2 hq
      exact ⟨_, .cons R1 R2⟩
end
end
section
variable {X : Cx} {k : Nat}
end
end DL
namespace DL
open PySem PySem.Spec PySem.W PySem.Calls PyProof.Rows L2
variable [TabC]
section
variable {X : Cx} {pins : List (Addr × Obj)} {σ : L2.St} {H : Hp} {s : Shared}
omit [TabC] in
/-- the heap behind a lambda's making: as it was, or with one code object more, told in the table at P -/
structure LamH (H : Hp) (P cc : Addr) (q : Str) (H1 : Hp) : Prop where
  tab : LamX.TabS H1 P q
  cod : H1 cc = some (LamX.CodeO cc q)
  how : H1 = H ∨ ∃ ps ps', H P = some (.tbl ps) ∧ H cc = none ∧ H1 = upd (upd H P (.tbl ps')) cc (LamX.CodeO cc q)
omit [TabC] in
/-- what a def that makes lambdas asks of the tables -/
structure TabX (K : PySem.W.Frag) (mg : Str → Option Value) (base : Heap) (x : Str) : Prop where
  tb : LamX.TabB base mg (He.cT K (x, none)).1 (He.cT K (x, none)).2
  mem : ((He.cT K (x, none)).2, x ++ ".<locals>." ++ "<lambda>") ∈ TabC.T
  uq : ∀ p ∈ TabC.T, p.1 = (He.cT K (x, none)).2 → p.2 = x ++ ".<locals>." ++ "<lambda>"
theorem LamH.fm {P cc : Addr} {q : Str} {H1 : Hp} (l : LamH H P cc q H1) (uq : ∀ p ∈ TabC.T, p.1 = P → p.2 = q) : Fm [] H H1 := by
  rcases l.how with e | ⟨ps, ps', hP, n0, e⟩
  · rw [e]; exact Fm.refl _ _
  · have nP : P ≠ cc := ne_of_none hP n0
    have old : ∀ b x, b ≠ P → H b = some x → H1 b = some x := fun b x nb eb => by
      rw [e, upd_ne (ne_of_none eb n0), upd_ne nb]; exact eb
    refine ⟨fun b x _ nt eb => old b x (fun z => by rw [z, hP] at eb; cases eb; cases nt) eb, fun T p hp => ?_, fun b qs eb => ?_⟩
    · by_cases z : p.1 = P
      · rw [uq p hp z, z]; exact l.tab
      · obtain ⟨qs, h1, h2, h3⟩ := T p hp
        refine ⟨qs, old _ _ z h1, h2, fun pos cv hcv => ?_⟩
        obtain ⟨c0, e1, e2⟩ := h3 pos cv hcv
        refine ⟨c0, e1, old _ _ (fun z => ?_) e2⟩
        rw [z, hP] at e2
        exact LamX.codeO_ne ps (Option.some.inj e2).symm
    · by_cases z : b = P
      · rw [z, e, upd_ne nP, upd_same]; exact ⟨_, rfl⟩
      · exact ⟨qs, old _ _ z eb⟩
end
end DL
namespace DL
open PySem PySem.Spec PySem.W PySem.Calls PyProof.Rows L2
variable [TabC]
section
variable {X : Cx} {pins : List (Addr × Obj)} {σ : L2.St} {H : Hp} {s : Shared}
end
end DL
namespace DL
open PySem PySem.Spec PySem.W PySem.Calls PyProof.Rows L2
variable [TabC]
omit [TabC] in
/-- keys that were told -/
def KAt (G : Gc) (W : List Addr) (H : Hp) (v : V) (k : PyData) : Prop := ∃ z, Rp G H W z v ∧ pyD z = some k
omit [TabC] in
def KAll (G : Gc) (W : List Addr) (H : Hp) : List V → List PyData → Prop
  | [], ks => ks = []
  | v :: vs, ks => ∃ k r, ks = k :: r ∧ KAt G W H v k ∧ KAll G W H vs r
theorem KAll.fm {G : Gc} {W : List Addr} {H H' : Hp} (f : Fm [] H H') : ∀ {vs : List V} {ks : List PyData}, KAll G W H vs ks → KAll G W H' vs ks
  | [], _, h => h
  | v :: vs, _, ⟨k, r, e, ⟨z, h1, h2⟩, h⟩ => ⟨k, r, e, ⟨z, Rp.mo ⟨f.mono fun _ z => absurd z (by simp), fun _ z => .inl z⟩ _ _ h1, h2⟩, KAll.fm f h⟩
omit [TabC] in
theorem KAll.reads {P : Program} {w : World} {G : Gc} {W : List Addr} {H : Hp} {h : Heap} (ok : HOk P w H h) : ∀ {vs : List V} {us : List Value} {ks : List PyData}, Vals vs us → KAll G W H vs ks → EachIs (fun v k => ∃ as, Reads h v k as) us ks
  | _, _, _, .nil, t => by rw [show _ = [] from t]; exact .nil
  | _, _, _, .cons a b, ⟨k, r, e, ⟨z, h1, h2⟩, t⟩ => by
    rw [e]
    exact .cons (reads_of ok z _ _ k h1 a h2) (KAll.reads ok b t)
section
variable {X : Cx} {e : Expr} {te : TE} {m : EM} {params : Arguments} {body : Expr} {scope : Scope} {lpos kpos p pos : Pos} {N fr : List Str} {px x : Str} {js : List Nat} {tb : TE} {kb : EM}
end
end DL
namespace DL
open PySem PySem.Spec PySem.W PyProof.Rows L2
variable [TabC]
section
variable {P : Program} {w : World} {K : PySem.W.Frag} {mg : Str → Option Value} {base : Heap} {x qual : Str} {params : Arguments} {body : List Stmt} {scope : Scope} {kws : List (Str × V)} {fd : FuncData}
end
section
variable {X : Cx} {e : Expr} {te : TE} {m : EM} {params : Arguments} {body : Expr} {scope : Scope} {lpos kpos p pos : Pos} {N fr : List Str} {px x : Str} {tb : TE} {kb : EM}
end
end DL
namespace DL
open PySem PySem.Spec PySem.W PyProof.Rows L2
@[reducible] def tcOf (K : PySem.W.Frag) (L : List Str) : TabC := ⟨L.map fun x => ((He.cT K (x, none)).2, x ++ ".<locals>." ++ "<lambda>")⟩
theorem tabs0 {K : PySem.W.Frag} {L : List Str} {H : Hp} (h : ∀ x ∈ L, H (He.cT K (x, none)).2 = some (.tbl #[])) : @TabsG (tcOf K L) H := fun p hp => by
  obtain ⟨y, hy, rfl⟩ := List.mem_map.mp hp
  exact LamX.TabS.nil (h y hy)
/-- the walk of a law with tables of code objects -/
theorem walk_tabs {l : OpenLaw} {n k : Nat} {q : Program} {loose : List Str} {XP : (Str → Option Value) → Heap → Prop} {YP : World → Heap → Prop} {d : DefRec} {x : Str}
    (hn : l.most = some n) (hn2 : n ≤ sizeLine) (hdf : d.params.defaults = []) (hr : Room k callerA)
    (F : ∀ (w : World) (mg : Str → Option Value) (fa : Addr) (h : Heap), YP w h → h.Ns mainGlobals mg → mg d.name = some (.ref fa) → ∃ K : PySem.W.Frag, K.In h ∧ LamX.LawAtS l w K CX0 k n x mg fa h) :
    WalkO q loose XP YP l.row.toRowW d [] (fun f vs => PySem.call f vs) := by
  apply Att.attach_callB hn hdf
  intro w s0 s1 mg mb fa o pm cd doc a vs ns G Y ho hd hcd hmg hobj hints hlen hbits hg
  obtain ⟨K, KX, fd, cs, sp, t1, t2, t3, hb, hsp, hF⟩ := F w mg fa _ Y G.T.g hmg
  exact LamX.law_callTs KX G.T.g G.T.b G.T.builtins G.T.nolimit hg t1 t2 t3 G.T.bmain hobj hints
    (Nat.le_trans hlen hn2) hr hF hb (fun H h1 h2 => hsp H a ns hlen hbits h1 h2) fun H e s' z => z
end DL
namespace DL
open PySem
variable [TabC]
omit [TabC] in
def kSeq (m2 : SM) : Out → Option Out
  | .nx ρ => m2 ρ
  | o => some o
omit [TabC] in
@[simp] theorem sSeq_ap (m1 m2 : SM) (ρ : Env) : sSeq m1 m2 ρ = (m1 ρ).bind (kSeq m2) := by
  show ((m1 ρ).bind _) = _
  congr 1
omit [TabC] in
@[simp] theorem kSeq_nx (m : SM) (ρ : Env) : kSeq m (.nx ρ) = m ρ := rfl
omit [TabC] in
@[simp] theorem kSeq_rt (m : SM) (ρ : Env) (d : D) : kSeq m (.rt d ρ) = some (.rt d ρ) := rfl
omit [TabC] in
@[simp] theorem kSeq_rf (m : SM) (ρ : Env) (d : D) : kSeq m (.rf d ρ) = some (.rf d ρ) := rfl
omit [TabC] in
@[simp] theorem kSeq_bk (m : SM) (ρ : Env) : kSeq m (.bk ρ) = some (.bk ρ) := rfl
omit [TabC] in
@[simp] theorem kSeq_ct (m : SM) (ρ : Env) : kSeq m (.ct ρ) = some (.ct ρ) := rfl
omit [TabC] in
@[simp] theorem sSkip_ap (ρ : Env) : sSkip ρ = some (.nx ρ) := rfl
omit [TabC] in
@[simp] theorem sRetN_ap (ρ : Env) : sRetN ρ = some (.rt .non ρ) := rfl
omit [TabC] in
def kRet (p : D × Env) : Option Out := some (.rt p.1 p.2)
omit [TabC] in
@[simp] theorem sRet_ap (m : EM) (ρ : Env) : sRet m ρ = (m ρ).bind kRet := rfl
omit [TabC] in
@[simp] theorem kRet_ap (d : D) (ρ : Env) : kRet (d, ρ) = some (.rt d ρ) := rfl
omit [TabC] in
def kRetF (p : D × Env) : Option Out := some (.rf p.1 p.2)
omit [TabC] in
@[simp] theorem sRetF_ap (m : EM) (ρ : Env) : sRetF m ρ = (m ρ).bind kRetF := rfl
omit [TabC] in
@[simp] theorem kRetF_ap (d : D) (ρ : Env) : kRetF (d, ρ) = some (.rf d ρ) := rfl
omit [TabC] in
def kDrop (p : D × Env) : Option Out := some (.nx p.2)
omit [TabC] in
@[simp] theorem sDrop_ap (m : EM) (ρ : Env) : sDrop m ρ = (m ρ).bind kDrop := rfl
omit [TabC] in
@[simp] theorem kDrop_ap (d : D) (ρ : Env) : kDrop (d, ρ) = some (.nx ρ) := rfl
omit [TabC] in
def kIf (a b : SM) (p : Bool × Env) : Option Out := if p.1 = true then a p.2 else b p.2
omit [TabC] in
@[simp] theorem sIf_ap (c : TM) (a b : SM) (ρ : Env) : sIf c a b ρ = (c ρ).bind (kIf a b) := rfl
omit [TabC] in
@[simp] theorem kIf_t (a b : SM) (ρ : Env) : kIf a b (true, ρ) = a ρ := rfl
omit [TabC] in
@[simp] theorem kIf_f (a b : SM) (ρ : Env) : kIf a b (false, ρ) = b ρ := rfl
omit [TabC] in
def nxO (r : Option Env) : Option Out := r.bind fun ρ => some (.nx ρ)
omit [TabC] in
@[simp] theorem nxO_some (ρ : Env) : nxO (some ρ) = some (.nx ρ) := rfl
omit [TabC] in
def kSet (i : Nat) (p : D × Env) : Option Out := nxO (putV i p.1 p.2)
omit [TabC] in
@[simp] theorem sSet_ap (i : Nat) (m : EM) (ρ : Env) : sSet i m ρ = (m ρ).bind (kSet i) := rfl
omit [TabC] in
@[simp] theorem kSet_ap (i : Nat) (d : D) (ρ : Env) : kSet i (d, ρ) = nxO (putV i d ρ) := rfl
omit [TabC] in
def kSetO (i : Nat) (p : D × Env) : Option Out := nxO (putO i p.1 p.2)
omit [TabC] in
@[simp] theorem sSetO_ap (i : Nat) (m : EM) (ρ : Env) : sSetO i m ρ = (m ρ).bind (kSetO i) := rfl
omit [TabC] in
@[simp] theorem kSetO_ap (i : Nat) (d : D) (ρ : Env) : kSetO i (d, ρ) = nxO (putO i d ρ) := rfl
omit [TabC] in
def kAsg (g : GM) (p : D × Env) : Option Out := nxO (g p.1 p.2)
omit [TabC] in
@[simp] theorem sAsg_ap (m : EM) (g : GM) (ρ : Env) : sAsg m g ρ = (m ρ).bind (kAsg g) := rfl
omit [TabC] in
@[simp] theorem kAsg_ap (g : GM) (d : D) (ρ : Env) : kAsg g (d, ρ) = nxO (g d ρ) := rfl
omit [TabC] in
def kPar2 (i j : Nat) (ρ : Env) : List D → Option Out
  | [x, y] => nxO ((putV i x ρ).bind (putV j y))
  | _ => none
omit [TabC] in
def kPar (i j : Nat) (p : List Arg × Env) : Option Out := (vals p.1).bind (kPar2 i j p.2)
omit [TabC] in
@[simp] theorem sPar_ap (i j : Nat) (a : AM) (ρ : Env) : sPar i j a ρ = (a ρ).bind (kPar i j) := by
  unfold sPar; congr 1; funext p; unfold kPar; congr 1; funext ds
  match ds with
  | [x, y] =>
    show ((putV i x p.2).bind fun ρ1 => (putV j y ρ1).bind fun ρ2 => some (Out.nx ρ2)) = nxO ((putV i x p.2).bind (putV j y))
    cases putV i x p.2 <;> rfl
  | [] => rfl
  | [_] => rfl
  | _ :: _ :: _ :: _ => rfl
omit [TabC] in
@[simp] theorem kPar_ap (i j : Nat) (x y : D) (ρ : Env) : kPar i j ([.val x, .val y], ρ) = nxO ((putV i x ρ).bind (putV j y)) := rfl
omit [TabC] in
def kStore3 (x : Nat) (ρ : Env) (r : Option D) : Option Out := r.bind fun d' => some (.nx (setO x d' ρ))
omit [TabC] in
@[simp] theorem kStore3_some (x : Nat) (ρ : Env) (d : D) : kStore3 x ρ (some d) = some (.nx (setO x d ρ)) := rfl
omit [TabC] in
def kStore2 (x : Nat) (f : D → D → D → Option D) (v : D) (q : D × Env) : Option Out := (stO q.2 x).bind fun d => kStore3 x q.2 (f d q.1 v)
omit [TabC] in
def kStore (x : Nat) (f : D → D → D → Option D) (mi : EM) (p : D × Env) : Option Out := (stO p.2 x).bind fun _ => (mi p.2).bind (kStore2 x f p.1)
omit [TabC] in
@[simp] theorem sStore_ap (T : String) (x : Nat) (f : D → D → D → Option D) (mi me : EM) (ρ : Env) : sStore T x f mi me ρ = (me ρ).bind (kStore x f mi) := rfl
omit [TabC] in
@[simp] theorem kStore_ap (x : Nat) (f : D → D → D → Option D) (mi : EM) (v : D) (ρ : Env) : kStore x f mi (v, ρ) = (stO ρ x).bind fun _ => (mi ρ).bind (kStore2 x f v) := rfl
omit [TabC] in
@[simp] theorem kStore2_ap (x : Nat) (f : D → D → D → Option D) (v i : D) (ρ : Env) : kStore2 x f v (i, ρ) = (stO ρ x).bind fun d => kStore3 x ρ (f d i v) := rfl
omit [TabC] in
@[simp] theorem eC_ap (d : D) (ρ : Env) : eC d ρ = some (d, ρ) := rfl
omit [TabC] in
def kVar (i : Nat) (ρ : Env) : Option Sl → Option (D × Env)
  | some (.v d) => some (d, ρ)
  | some (.o d) => some (d, ρ.set i (.v d))
  | _ => none
omit [TabC] in
@[simp] theorem eVar_ap (i : Nat) (ρ : Env) : eVar i ρ = kVar i ρ ρ[i]? := by unfold eVar kVar; split <;> simp_all
omit [TabC] in
@[simp] theorem kVar_v (i : Nat) (ρ : Env) (d : D) : kVar i ρ (some (.v d)) = some (d, ρ) := rfl
omit [TabC] in
@[simp] theorem kVar_o (i : Nat) (ρ : Env) (d : D) : kVar i ρ (some (.o d)) = some (d, ρ.set i (.v d)) := rfl
omit [TabC] in
def pr (ρ : Env) (r : Option D) : Option (D × Env) := r.map fun z => (z, ρ)
omit [TabC] in
@[simp] theorem pr_some (ρ : Env) (d : D) : pr ρ (some d) = some (d, ρ) := rfl
omit [TabC] in
def kOp1 (f : D → Option D) (p : D × Env) : Option (D × Env) := pr p.2 (f p.1)
omit [TabC] in
@[simp] theorem eOp1_ap (f : D → Option D) (a : EM) (ρ : Env) : eOp1 f a ρ = (a ρ).bind (kOp1 f) := rfl
omit [TabC] in
@[simp] theorem kOp1_ap (f : D → Option D) (d : D) (ρ : Env) : kOp1 f (d, ρ) = pr ρ (f d) := rfl
omit [TabC] in
def kOp2b (f : D → D → Option D) (x : D) (q : D × Env) : Option (D × Env) := pr q.2 (f x q.1)
omit [TabC] in
def kOp2 (f : D → D → Option D) (b : EM) (p : D × Env) : Option (D × Env) := (b p.2).bind (kOp2b f p.1)
omit [TabC] in
@[simp] theorem eOp2_ap (f : D → D → Option D) (a b : EM) (ρ : Env) : eOp2 f a b ρ = (a ρ).bind (kOp2 f b) := rfl
omit [TabC] in
@[simp] theorem kOp2_ap (f : D → D → Option D) (b : EM) (x : D) (ρ : Env) : kOp2 f b (x, ρ) = (b ρ).bind (kOp2b f x) := rfl
omit [TabC] in
@[simp] theorem kOp2b_ap (f : D → D → Option D) (x y : D) (ρ : Env) : kOp2b f x (y, ρ) = pr ρ (f x y) := rfl
omit [TabC] in
def kIfE (a b : EM) (p : Bool × Env) : Option (D × Env) := if p.1 = true then a p.2 else b p.2
omit [TabC] in
@[simp] theorem eIf_ap (c : TM) (a b : EM) (ρ : Env) : eIf c a b ρ = (c ρ).bind (kIfE a b) := rfl
omit [TabC] in
@[simp] theorem kIfE_t (a b : EM) (ρ : Env) : kIfE a b (true, ρ) = a ρ := rfl
omit [TabC] in
@[simp] theorem kIfE_f (a b : EM) (ρ : Env) : kIfE a b (false, ρ) = b ρ := rfl
omit [TabC] in
def kAnd (b : EM) : D × Env → Option (D × Env)
  | (.bl true, ρ) => b ρ
  | (.bl false, ρ) => some (.bl false, ρ)
  | _ => none
omit [TabC] in
@[simp] theorem eAnd_ap (a b : EM) (ρ : Env) : eAnd a b ρ = (a ρ).bind (kAnd b) := by
  unfold eAnd; congr 1; funext p; obtain ⟨d, r⟩ := p; cases d <;> try rfl
  rename_i b; cases b <;> rfl
omit [TabC] in
@[simp] theorem kAnd_t (b : EM) (ρ : Env) : kAnd b (.bl true, ρ) = b ρ := rfl
omit [TabC] in
@[simp] theorem kAnd_f (b : EM) (ρ : Env) : kAnd b (.bl false, ρ) = some (.bl false, ρ) := rfl
omit [TabC] in
def kOr (b : EM) : D × Env → Option (D × Env)
  | (.bl true, ρ) => some (.bl true, ρ)
  | (.bl false, ρ) => b ρ
  | _ => none
omit [TabC] in
@[simp] theorem eOr_ap (a b : EM) (ρ : Env) : eOr a b ρ = (a ρ).bind (kOr b) := by
  unfold eOr; congr 1; funext p; obtain ⟨d, r⟩ := p; cases d <;> try rfl
  rename_i b; cases b <;> rfl
omit [TabC] in
@[simp] theorem kOr_t (b : EM) (ρ : Env) : kOr b (.bl true, ρ) = some (.bl true, ρ) := rfl
omit [TabC] in
@[simp] theorem kOr_f (b : EM) (ρ : Env) : kOr b (.bl false, ρ) = b ρ := rfl
omit [TabC] in
def kNot : D × Env → Option (D × Env)
  | (.bl b, ρ) => some (.bl (!b), ρ)
  | _ => none
omit [TabC] in
@[simp] theorem eNot_ap (a : EM) (ρ : Env) : eNot a ρ = (a ρ).bind kNot := by
  unfold eNot; congr 1; funext p; obtain ⟨d, r⟩ := p; cases d <;> rfl
omit [TabC] in
@[simp] theorem kNot_ap (b : Bool) (ρ : Env) : kNot (.bl b, ρ) = some (.bl (!b), ρ) := rfl
omit [TabC] in
def kB : D × Env → Option (Bool × Env)
  | (.bl b, ρ) => some (b, ρ)
  | _ => none
omit [TabC] in
@[simp] theorem tB_ap (a : EM) (ρ : Env) : tB a ρ = (a ρ).bind kB := by
  unfold tB; congr 1; funext p; obtain ⟨d, r⟩ := p; cases d <;> rfl
omit [TabC] in
@[simp] theorem kB_ap (b : Bool) (ρ : Env) : kB (.bl b, ρ) = some (b, ρ) := rfl
omit [TabC] in
def kTAnd (b : TM) (p : Bool × Env) : Option (Bool × Env) := if p.1 = true then b p.2 else some (false, p.2)
omit [TabC] in
@[simp] theorem tAnd_ap (a b : TM) (ρ : Env) : tAnd a b ρ = (a ρ).bind (kTAnd b) := rfl
omit [TabC] in
@[simp] theorem kTAnd_t (b : TM) (ρ : Env) : kTAnd b (true, ρ) = b ρ := rfl
omit [TabC] in
@[simp] theorem kTAnd_f (b : TM) (ρ : Env) : kTAnd b (false, ρ) = some (false, ρ) := rfl
omit [TabC] in
def kTOr (b : TM) (p : Bool × Env) : Option (Bool × Env) := if p.1 = true then some (true, p.2) else b p.2
omit [TabC] in
@[simp] theorem tOr_ap (a b : TM) (ρ : Env) : tOr a b ρ = (a ρ).bind (kTOr b) := rfl
omit [TabC] in
@[simp] theorem kTOr_t (b : TM) (ρ : Env) : kTOr b (true, ρ) = some (true, ρ) := rfl
omit [TabC] in
@[simp] theorem kTOr_f (b : TM) (ρ : Env) : kTOr b (false, ρ) = b ρ := rfl
omit [TabC] in
def kTNot (p : Bool × Env) : Bool × Env := (!p.1, p.2)
omit [TabC] in
@[simp] theorem tNot_ap (a : TM) (ρ : Env) : tNot a ρ = (a ρ).map kTNot := rfl
omit [TabC] in
@[simp] theorem kTNot_ap (b : Bool) (ρ : Env) : kTNot (b, ρ) = (!b, ρ) := rfl
omit [TabC] in
@[simp] theorem tTrue_ap (ρ : Env) : tTrue ρ = some (true, ρ) := rfl
omit [TabC] in
@[simp] theorem aNil_ap (ρ : Env) : aNil ρ = some ([], ρ) := rfl
omit [TabC] in
def kCons2 (d : D) (q : List Arg × Env) : List Arg × Env := (.val d :: q.1, q.2)
omit [TabC] in
def kCons (r : AM) (p : D × Env) : Option (List Arg × Env) := (r p.2).map (kCons2 p.1)
omit [TabC] in
@[simp] theorem aCons_ap (a : EM) (r : AM) (ρ : Env) : aCons a r ρ = (a ρ).bind (kCons r) := rfl
omit [TabC] in
@[simp] theorem kCons_ap (r : AM) (d : D) (ρ : Env) : kCons r (d, ρ) = (r ρ).map (kCons2 d) := rfl
omit [TabC] in
@[simp] theorem kCons2_ap (d : D) (l : List Arg) (ρ : Env) : kCons2 d (l, ρ) = (.val d :: l, ρ) := rfl
omit [TabC] in
def kSl2 (i : Nat) (q : List Arg × Env) : List Arg × Env := (.slot i :: q.1, q.2)
omit [TabC] in
@[simp] theorem kSl2_ap (i : Nat) (l : List Arg) (ρ : Env) : kSl2 i (l, ρ) = (.slot i :: l, ρ) := rfl
omit [TabC] in
def kSl (i : Nat) (r : AM) (ρ : Env) : Option Sl → Option (List Arg × Env)
  | some (.o _) => (r ρ).map (kSl2 i)
  | some (.p _) => (r ρ).map (kSl2 i)
  | _ => none
omit [TabC] in
@[simp] theorem aSl_ap (i : Nat) (r : AM) (ρ : Env) : aSl i r ρ = kSl i r ρ ρ[i]? := by unfold aSl kSl; split <;> simp_all [aSlot, kSl2] <;> rfl
omit [TabC] in
@[simp] theorem kSl_o (i : Nat) (r : AM) (ρ : Env) (d : D) : kSl i r ρ (some (.o d)) = (r ρ).map (kSl2 i) := rfl
omit [TabC] in
@[simp] theorem kSl_p (i : Nat) (r : AM) (ρ : Env) (d : D) : kSl i r ρ (some (.p d)) = (r ρ).map (kSl2 i) := rfl
omit [TabC] in
def kCallV (f : List D → Option D) (p : List Arg × Env) : Option (D × Env) := (vals p.1).bind fun ds => pr p.2 (f ds)
omit [TabC] in
@[simp] theorem eCallV_ap (f : List D → Option D) (a : AM) (ρ : Env) : eCallV f a ρ = (a ρ).bind (kCallV f) := rfl
omit [TabC] in
@[simp] theorem kCallV_ap (f : List D → Option D) (l : List Arg) (ρ : Env) : kCallV f (l, ρ) = (vals l).bind fun ds => pr ρ (f ds) := rfl
omit [TabC] in
@[simp] theorem vals_nil : vals [] = some [] := rfl
omit [TabC] in
@[simp] theorem vals_cons (d : D) (r : List Arg) : vals (.val d :: r) = (vals r).map (d :: ·) := rfl
omit [TabC] in
def kCall2 (as : List Arg) (ρ : Env) (q : D × List Sl) : Option (D × Env) := (wbk as q.2 ρ).map fun ρ2 => (q.1, ρ2)
omit [TabC] in
def kCall (fn : FnSem) (p : List Arg × Env) : Option (D × Env) := if (slotsOf p.1).Nodup then (argS p.2 p.1).bind fun ss => (fn ss).bind (kCall2 p.1 p.2) else none
omit [TabC] in
theorem callS_eq (fn : FnSem) (as : List Arg) (ρ : Env) : callS fn as ρ = kCall fn (as, ρ) := by
  unfold callS kCall
  by_cases h : (slotsOf as).Nodup
  · rw [if_pos (decide_eq_true h), if_pos h]; rfl
  · rw [if_neg (by simpa using h), if_neg h]
omit [TabC] in
@[simp] theorem eCall_ap (fn : FnSem) (a : AM) (ρ : Env) : eCall fn a ρ = (a ρ).bind (kCall fn) := by
  unfold eCall; congr 1; funext p; exact callS_eq fn p.1 p.2
omit [TabC] in
@[simp] theorem kCall2_ap (as : List Arg) (ρ : Env) (d : D) (ss : List Sl) : kCall2 as ρ (d, ss) = (wbk as ss ρ).map fun ρ2 => (d, ρ2) := rfl
omit [TabC] in
def kCallK3 (perm : List Nat) (n m : Nat) (fn : FnSem) (as : List Arg) (q : List Arg × Env) : Option (D × Env) := if decide (as.length = n) && decide (q.1.length = m) && perm.all (fun i => decide (i < n + m)) then callS fn (permA perm (as ++ q.1)) q.2 else none
omit [TabC] in
def kCallK (perm : List Nat) (n m : Nat) (fn : FnSem) (b : AM) (p : List Arg × Env) : Option (D × Env) := (b p.2).bind (kCallK3 perm n m fn p.1)
omit [TabC] in
@[simp] theorem eCallK_ap (perm : List Nat) (n m : Nat) (fn : FnSem) (a b : AM) (ρ : Env) : eCallK perm n m fn a b ρ = (a ρ).bind (kCallK perm n m fn b) := rfl
omit [TabC] in
@[simp] theorem kCallK_ap (perm : List Nat) (n m : Nat) (fn : FnSem) (b : AM) (as : List Arg) (ρ : Env) : kCallK perm n m fn b (as, ρ) = (b ρ).bind (kCallK3 perm n m fn as) := rfl
omit [TabC] in
theorem kCallK3_ap (perm : List Nat) (n m : Nat) (fn : FnSem) (as bs : List Arg) (ρ : Env) (h : (decide (as.length = n) && decide (bs.length = m) && perm.all (fun i => decide (i < n + m))) = true) : kCallK3 perm n m fn as (bs, ρ) = kCall fn (permA perm (as ++ bs), ρ) := by
  show (if _ then callS fn (permA perm (as ++ bs)) ρ else none) = _
  rw [if_pos h, callS_eq]
omit [TabC] in
def kCallF (fn : FnSem) (p : List Arg × Env) : Option (D × Env) := (vals p.1).bind fun ds => (fn (ds.map .v)).map fun q => (q.1, p.2)
omit [TabC] in
@[simp] theorem eCallF_ap (fn : FnSem) (a : AM) (ρ : Env) : eCallF fn a ρ = (a ρ).bind (kCallF fn) := rfl
omit [TabC] in
@[simp] theorem kCallF_ap (fn : FnSem) (as : List Arg) (ρ : Env) : kCallF fn (as, ρ) = (vals as).bind fun ds => (fn (ds.map .v)).map fun q => (q.1, ρ) := rfl
omit [TabC] in
def kCallT (fn : FnSem) (p : D × Env) : Option (D × Env) := (fn [.p p.1]).map fun q => (q.1, p.2)
omit [TabC] in
@[simp] theorem eCallT_ap (fn : FnSem) (m : EM) (ρ : Env) : eCallT fn m ρ = (m ρ).bind (kCallT fn) := rfl
omit [TabC] in
@[simp] theorem kCallT_ap (fn : FnSem) (d : D) (ρ : Env) : kCallT fn (d, ρ) = (fn [.p d]).map fun q => (q.1, ρ) := rfl
omit [TabC] in
def kIxO2 (x : Nat) (p : D × Env) : Option (D × Env) := (stO p.2 x).bind fun d => pr p.2 (ixD d p.1)
omit [TabC] in
@[simp] theorem eIxO_ap (x : Nat) (mi : EM) (ρ : Env) : eIxO x mi ρ = (stO ρ x).bind fun _ => (mi ρ).bind (kIxO2 x) := rfl
omit [TabC] in
@[simp] theorem kIxO2_ap (x : Nat) (d : D) (ρ : Env) : kIxO2 x (d, ρ) = (stO ρ x).bind fun d0 => pr ρ (ixD d0 d) := rfl
omit [TabC] in
def kSeqI : D × Env → Option (List D × Env)
  | (.lst ds, ρ) => some (ds, ρ)
  | (.tup ds, ρ) => some (ds, ρ)
  | _ => none
omit [TabC] in
@[simp] theorem iSeq_ap (m : EM) (ρ : Env) : iSeq m ρ = (m ρ).bind kSeqI := by
  unfold iSeq; congr 1; funext p; obtain ⟨d, r⟩ := p; cases d <;> rfl
omit [TabC] in
@[simp] theorem kSeqI_l (ds : List D) (ρ : Env) : kSeqI (.lst ds, ρ) = some (ds, ρ) := rfl
omit [TabC] in
@[simp] theorem kSeqI_t (ds : List D) (ρ : Env) : kSeqI (.tup ds, ρ) = some (ds, ρ) := rfl
omit [TabC] in
def kArg (f : List Arg → Option (List D)) (p : List Arg × Env) : Option (List D × Env) := (f p.1).map fun ds => (ds, p.2)
omit [TabC] in
@[simp] theorem iArg_ap (f : List Arg → Option (List D)) (m : AM) (ρ : Env) : iArg f m ρ = (m ρ).bind (kArg f) := rfl
omit [TabC] in
@[simp] theorem kArg_ap (f : List Arg → Option (List D)) (l : List Arg) (ρ : Env) : kArg f (l, ρ) = (f l).map fun ds => (ds, ρ) := rfl
omit [TabC] in
def kComp3 (ρ : Env) (vs : List Nat) (q : List D × Env) : D × Env := (.lst q.1, rstE ρ q.2 vs)
omit [TabC] in
def kComp (vs : List Nat) (g : GM) (tt : TM) (el : EM) (p : List D × Env) : Option (D × Env) := (wipeC vs p.2).bind fun ρw => (compL vs g tt el p.1 ρw).map (kComp3 p.2 vs)
omit [TabC] in
@[simp] theorem eComp_ap (vs : List Nat) (it : IM) (g : GM) (tt : TM) (el : EM) (ρ : Env) : eComp vs it g tt el ρ = (it ρ).bind (kComp vs g tt el) := rfl
omit [TabC] in
@[simp] theorem kComp_ap (vs : List Nat) (g : GM) (tt : TM) (el : EM) (ds : List D) (ρ : Env) : kComp vs g tt el (ds, ρ) = (wipeC vs ρ).bind fun ρw => (compL vs g tt el ds ρw).map (kComp3 ρ vs) := rfl
omit [TabC] in
@[simp] theorem kComp3_ap (ρ : Env) (vs : List Nat) (zs : List D) (ρ2 : Env) : kComp3 ρ vs (zs, ρ2) = (.lst zs, rstE ρ ρ2 vs) := rfl
omit [TabC] in
def kFor (g : GM) (b : SM) (p : List D × Env) : Option Out := forL g b p.1 p.2
omit [TabC] in
@[simp] theorem sFor_ap (it : IM) (g : GM) (b : SM) (ρ : Env) : sFor it g b ρ = (it ρ).bind (kFor g b) := rfl
omit [TabC] in
@[simp] theorem kFor_ap (g : GM) (b : SM) (ds : List D) (ρ : Env) : kFor g b (ds, ρ) = forL g b ds ρ := rfl
omit [TabC] in
@[simp] theorem gV_ap (i : Nat) (d : D) (ρ : Env) : gV i d ρ = putV i d ρ := rfl
omit [TabC] in
@[simp] theorem gT_t (gs : List D → Env → Option Env) (ds : List D) (ρ : Env) : gT gs (.tup ds) ρ = gs ds ρ := rfl
omit [TabC] in
@[simp] theorem gCons_ap (g : GM) (gs : List D → Env → Option Env) (d : D) (ds : List D) (ρ : Env) : gCons g gs (d :: ds) ρ = (g d ρ).bind (gs ds) := rfl
omit [TabC] in
@[simp] theorem gNil_ap (ρ : Env) : gNil [] ρ = some ρ := rfl
omit [TabC] in
/-- one turn -/
theorem compT_1 {vs : List Nat} {g : GM} {tt : TM} {el : EM} {d z : D} {ρ ρ1 ρ2 ρ3 ρ4 : Env} (h1 : g d ρ = some ρ1) (h2 : tt ρ1 = some (true, ρ2)) (h3 : el ρ2 = some (z, ρ3)) (h4 : wipeC vs ρ3 = some ρ4) : compT vs g tt el d ρ = some ([z], ρ4) := by
  unfold compT
  simp only [h1, h2, h3, h4, Option.bind_some, if_true, Option.map_some]
omit [TabC] in
theorem compT_0 {vs : List Nat} {g : GM} {tt : TM} {el : EM} {d : D} {ρ ρ1 ρ2 ρ4 : Env} (h1 : g d ρ = some ρ1) (h2 : tt ρ1 = some (false, ρ2)) (h4 : wipeC vs ρ2 = some ρ4) : compT vs g tt el d ρ = some ([], ρ4) := by
  unfold compT
  simp only [h1, h2, h4, Option.bind_some, Option.map_some]
  rfl
end DL
set_option exponentiation.threshold 10000
namespace DL
open PySem
variable [TabC]
omit [TabC] in
theorem small_ok {i j : Int} (h : -(2 ^ 64) < j) (h2 : j < 2 ^ 64) : mulOk i j = true := by
  unfold mulOk; rw [Bool.or_eq_true]; exact .inr (by rw [Bool.and_eq_true]; exact ⟨decide_eq_true h, decide_eq_true h2⟩)
omit [TabC] in
theorem small_ok' {i j : Int} (h : -(2 ^ 64) < i) (h2 : i < 2 ^ 64) : mulOk i j = true := by
  unfold mulOk; rw [Bool.or_eq_true]; exact .inl (by rw [Bool.and_eq_true]; exact ⟨decide_eq_true h, decide_eq_true h2⟩)
omit [TabC] in
theorem mulI_r {i j : Int} (h : -(2 ^ 64) < j) (h2 : j < 2 ^ 64) : mulI (.int i) (.int j) = some (.int (i * j)) := by
  show (if mulOk i j = true then _ else none) = _
  rw [if_pos (small_ok h h2)]
omit [TabC] in
theorem mulI_l {i j : Int} (h : -(2 ^ 64) < i) (h2 : i < 2 ^ 64) : mulI (.int i) (.int j) = some (.int (i * j)) := by
  show (if mulOk i j = true then _ else none) = _
  rw [if_pos (small_ok' h h2)]
omit [TabC] in
theorem log_ok {s : Int} (h : s.natAbs < 2 ^ 8999) : s.natAbs.log2 < 9000 := by
  by_cases e : s.natAbs = 0
  · rw [e]; decide
  · have := (Nat.log2_lt e (k := 9000)).mpr (Nat.lt_of_lt_of_le h (Nat.pow_le_pow_right (by decide) (by decide)))
    exact this
omit [TabC] in
mutual
theorem eqv_self : ∀ (n : Nat) (d : D), okD n d = true → PyData.eqv (py d) (py d) = true
  | _, .non, _ => rfl
  | _, .bl b, _ => by simp [py, PyData.eqv]
  | _, .int b, _ => by simp [py, PyData.eqv]
  | _, .str b, _ => by simp [py, PyData.eqv]
  | n + 1, .lst xs, h => by
    rw [py, PyData.eqv]; exact eqvs_self n xs (by simpa [okD] using h)
  | n + 1, .tup xs, h => by
    rw [py, PyData.eqv]; exact eqvs_self n xs (by simpa [okD] using h)
  | 0, .lst _, h => by simp [okD] at h
  | 0, .tup _, h => by simp [okD] at h
  | n, .dT _, h => by cases n <;> simp [okD] at h
  | n, .dK _, h => by cases n <;> simp [okD] at h
  | n, .obj _ _, h => by cases n <;> simp [okD] at h
  | n, .scr _, h => by cases n <;> simp [okD] at h
  | n, .exn _ _, h => by cases n <;> simp [okD] at h
  | n, .fT _, h => by cases n <;> simp [okD] at h
theorem eqvs_self : ∀ (n : Nat) (d : List D), okDs n d = true → PyData.eqvAll (pys d) (pys d) = true
  | _, [], _ => rfl
  | n, x :: xs, h => by
    have h' : okD n x = true ∧ okDs n xs = true := by simpa [okDs] using h
    rw [pys, PyData.eqvAll, eqv_self n x h'.1, eqvs_self n xs h'.2]; rfl
end
omit [TabC] in
mutual
theorem okD_up : ∀ {n m : Nat} (d : D), n ≤ m → okD n d = true → okD m d = true
  | _, _, .non, _, _ => by simp [okD]
  | _, _, .bl b, _, _ => by simp [okD]
  | _, _, .int b, _, _ => by simp [okD]
  | _, _, .str b, _, _ => by simp [okD]
  | n + 1, m + 1, .lst xs, l, h => by
    rw [okD] at h ⊢; exact okDs_up xs (by omega) h
  | n + 1, m + 1, .tup xs, l, h => by
    rw [okD] at h ⊢; exact okDs_up xs (by omega) h
  | n + 1, 0, .lst xs, l, h => absurd l (by omega)
  | n + 1, 0, .tup xs, l, h => absurd l (by omega)
  | 0, _, .lst _, _, h => by simp [okD] at h
  | 0, _, .tup _, _, h => by simp [okD] at h
  | n, _, .dT _, _, h => by cases n <;> simp [okD] at h
  | n, _, .dK _, _, h => by cases n <;> simp [okD] at h
  | n, _, .obj _ _, _, h => by cases n <;> simp [okD] at h
  | n, _, .scr _, _, h => by cases n <;> simp [okD] at h
  | n, _, .exn _ _, _, h => by cases n <;> simp [okD] at h
  | n, _, .fT _, _, h => by cases n <;> simp [okD] at h
theorem okDs_up : ∀ {n m : Nat} (d : List D), n ≤ m → okDs n d = true → okDs m d = true
  | _, _, [], _, _ => by simp [okDs]
  | n, m, x :: xs, l, h => by
    have h' : okD n x = true ∧ okDs n xs = true := by simpa [okDs] using h
    rw [okDs, okD_up x l h'.1, okDs_up xs l h'.2]; rfl
end
omit [TabC] in
theorem okDs_all {n : Nat} : ∀ {ds : List D}, okDs n ds = true ↔ ∀ d ∈ ds, okD n d = true
  | [] => by simp [okDs]
  | x :: xs => by simp [okDs, okDs_all (ds := xs)]
omit [TabC] in
theorem eqD_self {x : D} {n : Nat} (h : okD n x = true) (l : n ≤ 60) : eqD x x = some (.bl true) := by
  unfold eqD
  rw [okD_up x l h]
  show some (D.bl (PyData.eqv (py x) (py x))) = _
  rw [eqv_self n x h]
omit [TabC] in
@[simp] theorem eqD_int (i j : Int) : eqD (.int i) (.int j) = some (.bl (decide (i = j))) := by
  unfold eqD
  simp only [okD, Bool.and_self, if_true]
  show some (D.bl (PyData.eqv (.int i) (.int j))) = _
  rw [PyData.eqv]; congr 2
omit [TabC] in
@[simp] theorem eqD_bl (i j : Bool) : eqD (.bl i) (.bl j) = some (.bl (decide (i = j))) := by
  cases i <;> cases j <;> rfl
omit [TabC] in
@[simp] theorem neD_bl (i j : Bool) : neD (.bl i) (.bl j) = some (.bl (decide (i ≠ j))) := by
  cases i <;> cases j <;> rfl
omit [TabC] in
@[simp] theorem neD_int (i j : Int) : neD (.int i) (.int j) = some (.bl (decide (i ≠ j))) := by
  unfold neD
  simp only [okD, Bool.and_self, if_true]
  show some (D.bl (!PyData.eqv (.int i) (.int j))) = _
  rw [PyData.eqv]; congr 2
  by_cases h : i = j <;> simp [h]
omit [TabC] in
theorem bools_one (l : List D) : bools? (l.flatMap fun _ => [.bl true]) = some (l.map fun _ => true) := by
  induction l with
  | nil => rfl
  | cons x l ih => show (bools? (l.flatMap fun _ => [.bl true])).map _ = _; rw [ih]; rfl
omit [TabC] in
theorem allF_one (l : List D) : allF [.lst (l.flatMap fun _ => [.bl true])] = some (.bl true) := by
  show (bools? _).map _ = _
  rw [bools_one]
  simp
end DL
namespace DL
open PySem
variable [TabC]
omit [TabC] in
theorem rngD_len (n : Nat) : (rngD 0 n).length = n := rngD_length 0 n
omit [TabC] in
theorem rng1_ok {j : Int} (h0 : 0 ≤ j) (h1 : j ≤ 1000000) : rng1 [.val (.int j)] = some (rngD 0 j.toNat) := by
  have a : ok62 j = true := by unfold ok62; rw [Bool.and_eq_true]; exact ⟨decide_eq_true (by omega), decide_eq_true (by omega)⟩
  have b : lim j.toNat = true := decide_eq_true (by omega)
  show (if (ok62 j && lim j.toNat) = true then _ else none) = _
  rw [a, b]; rfl
omit [TabC] in
theorem rngD_eq (n : Nat) : rngD 0 n = (List.range n).map fun (i : Nat) => D.int (i : Int) := by
  unfold rngD; congr 1; funext i; simp
omit [TabC] in
theorem rngD_get {n j : Nat} {d : D} (h : (rngD 0 n)[j]? = some d) : j < n ∧ d = .int (j : Int) := by
  rw [rngD_eq, List.getElem?_map] at h
  by_cases l : j < n
  · rw [List.getElem?_range l] at h; cases h; exact ⟨l, rfl⟩
  · rw [List.getElem?_eq_none (by simpa using Nat.not_lt.mp l)] at h; cases h
omit [TabC] in
theorem atI_nat {α : Type} (xs : List α) (i : Nat) : L2.atI xs (i : Int) = xs[i]? := by
  unfold L2.atI L2.ixN
  rw [if_pos (by omega)]
  by_cases h : i < xs.length
  · rw [if_pos (by omega)]; simp
  · rw [if_neg (by omega), List.getElem?_eq_none (by omega)]; rfl
omit [TabC] in
theorem ix_lst (xs : List D) (i : Nat) : ixD (.lst xs) (.int (i : Int)) = xs[i]? := atI_nat xs i
omit [TabC] in
theorem ix_tup (xs : List D) (i : Nat) : ixD (.tup xs) (.int (i : Int)) = xs[i]? := atI_nat xs i
omit [TabC] in
@[simp] theorem ix_lst0 (xs : List D) : ixD (.lst xs) (.int 0) = xs[0]? := atI_nat xs 0
omit [TabC] in
@[simp] theorem ix_tup0 (xs : List D) : ixD (.tup xs) (.int 0) = xs[0]? := atI_nat xs 0
omit [TabC] in
@[simp] theorem ix_lst1 (xs : List D) : ixD (.lst xs) (.int 1) = xs[1]? := atI_nat xs 1
omit [TabC] in
@[simp] theorem ix_tup1 (xs : List D) : ixD (.tup xs) (.int 1) = xs[1]? := atI_nat xs 1
omit [TabC] in
@[simp] theorem ix_lst2 (xs : List D) : ixD (.lst xs) (.int 2) = xs[2]? := atI_nat xs 2
omit [TabC] in
@[simp] theorem ix_tup2 (xs : List D) : ixD (.tup xs) (.int 2) = xs[2]? := atI_nat xs 2
omit [TabC] in
@[simp] theorem addD_int (i j : Int) : addD (.int i) (.int j) = some (.int (i + j)) := rfl
omit [TabC] in
@[simp] theorem subD_int (i j : Int) : subD (.int i) (.int j) = some (.int (i - j)) := rfl
omit [TabC] in
@[simp] theorem ltD_int (i j : Int) : ltD (.int i) (.int j) = some (.bl (decide (i < j))) := rfl
omit [TabC] in
@[simp] theorem leD_int (i j : Int) : leD (.int i) (.int j) = some (.bl (decide (i ≤ j))) := rfl
omit [TabC] in
@[simp] theorem gtD_int (i j : Int) : gtD (.int i) (.int j) = some (.bl (decide (j < i))) := rfl
omit [TabC] in
@[simp] theorem geD_int (i j : Int) : geD (.int i) (.int j) = some (.bl (decide (j ≤ i))) := rfl
omit [TabC] in
@[simp] theorem negD_int (i : Int) : negD (.int i) = some (.int (-i)) := rfl
end DL
namespace DL
open PySem
variable [TabC]
omit [TabC] in
def np : Sl → Prop
  | .p _ => False
  | _ => True
omit [TabC] in
def pl : Sl → Prop
  | .p _ => False
  | .o _ => False
  | _ => True
omit [TabC] in
@[simp] theorem np_e : np .e := trivial
omit [TabC] in
@[simp] theorem np_v (d : D) : np (.v d) := trivial
omit [TabC] in
@[simp] theorem np_o (d : D) : np (.o d) := trivial
omit [TabC] in
@[simp] theorem pl_e : pl .e := trivial
omit [TabC] in
@[simp] theorem pl_v (d : D) : pl (.v d) := trivial
omit [TabC] in
theorem pl.np {s : Sl} (h : pl s) : np s := by cases s <;> trivial
omit [TabC] in
@[simp] theorem stO_v {ρ : Env} {i : Nat} {d : D} (h : ρ[i]? = some (.o d)) : stO ρ i = some d := by unfold stO; rw [h]
omit [TabC] in
def kBor (ρ : Env) (p : D × Env) : Option (D × Env) := if scalD p.1 then some (p.1, ρ) else none
omit [TabC] in
@[simp] theorem eBor_ap (m : EM) (ρ : Env) : eBor m ρ = (m (ρ.map vwS)).bind (kBor ρ) := rfl
omit [TabC] in
@[simp] theorem kBor_bl (ρ ρ' : Env) (b : Bool) : kBor ρ (.bl b, ρ') = some (.bl b, ρ) := rfl
omit [TabC] in
@[simp] theorem kBor_int (ρ ρ' : Env) (b : Int) : kBor ρ (.int b, ρ') = some (.int b, ρ) := rfl
omit [TabC] in
@[simp] theorem kBor_non (ρ ρ' : Env) : kBor ρ (.non, ρ') = some (.non, ρ) := rfl
omit [TabC] in
@[simp] theorem tBor_ap (m : TM) (ρ : Env) : tBor m ρ = (m (ρ.map vwS)).map fun p => (p.1, ρ) := rfl
omit [TabC] in
@[simp] theorem vwS_o (d : D) : vwS (.o d) = .v d := rfl
omit [TabC] in
@[simp] theorem vwS_v (d : D) : vwS (.v d) = .v d := rfl
omit [TabC] in
@[simp] theorem vwS_e : vwS .e = .e := rfl
omit [TabC] in
@[simp] theorem vwS_p (d : D) : vwS (.p d) = .e := rfl
omit [TabC] in
def kMut2 (i : Nat) (f : D → List D → Option (D × D)) (p : List Arg × Env) : Option (D × Env) := (vals p.1).bind fun ds => (stO p.2 i).bind fun d => (f d ds).map fun z => (z.1, setO i z.2 p.2)
omit [TabC] in
@[simp] theorem kMut2_ap (i : Nat) (f : D → List D → Option (D × D)) (l : List Arg) (ρ : Env) : kMut2 i f (l, ρ) = (vals l).bind fun ds => (stO ρ i).bind fun d => (f d ds).map fun z => (z.1, setO i z.2 ρ) := rfl
omit [TabC] in
def kMthV2 (f : D → List D → Option D) (d : D) (p : List Arg × Env) : Option (D × Env) := (vals p.1).bind fun ds => pr p.2 (f d ds)
omit [TabC] in
@[simp] theorem kMthV2_ap (f : D → List D → Option D) (d : D) (l : List Arg) (ρ : Env) : kMthV2 f d (l, ρ) = (vals l).bind fun ds => pr ρ (f d ds) := rfl
omit [TabC] in
def kMthV (T : String) (f : D → List D → Option D) (a : AM) (p : D × Env) : Option (D × Env) := if isT T p.1 then (a p.2).bind (kMthV2 f p.1) else none
omit [TabC] in
@[simp] theorem eMthV_ap (T : String) (f : D → List D → Option D) (m : EM) (a : AM) (ρ : Env) : eMthV T f m a ρ = (m ρ).bind (kMthV T f a) := rfl
omit [TabC] in
@[simp] theorem kMthV_l (f : D → List D → Option D) (a : AM) (ds : List D) (ρ : Env) : kMthV "list" f a (.lst ds, ρ) = (a ρ).bind (kMthV2 f (.lst ds)) := rfl
omit [TabC] in
theorem okD_lst {n : Nat} {ds : List D} : okD (n + 1) (.lst ds) = okDs n ds := by rw [okD]
omit [TabC] in
theorem okD_tup {n : Nat} {ds : List D} : okD (n + 1) (.tup ds) = okDs n ds := by rw [okD]
omit [TabC] in
@[simp] theorem okD_int {n : Nat} {i : Int} : okD n (.int i) = true := by cases n <;> rfl
omit [TabC] in
@[simp] theorem okD_bl {n : Nat} {i : Bool} : okD n (.bl i) = true := by cases n <;> rfl
omit [TabC] in
@[simp] theorem okD_non {n : Nat} : okD n .non = true := by cases n <;> rfl
omit [TabC] in
theorem ints_map : ∀ xs : List Int, ints? (xs.map .int) = some xs
  | [] => rfl
  | x :: xs => by show (ints? (xs.map .int)).map _ = _; rw [ints_map xs]; rfl
end DL
namespace DL
open PySem
inductive Pk where
  | z | x | y | v (d : D) | o (d : D) | p (d : D)
def Pk.Is : Pk → Sl → Prop
  | .z, _ => True
  | .x, s => pl s
  | .y, s => np s
  | .v d, s => s = .v d
  | .o d, s => s = .o d
  | .p d, s => s = .p d
def Mt : List Pk → Env → Prop
  | [], [] => True
  | k :: P, s :: ρ => k.Is s ∧ Mt P ρ
  | _, _ => False
/-- what may be forgotten of a slot -/
def Pk.Le : Pk → Pk → Prop
  | _, .z => True
  | .x, .x => True
  | .v _, .x => True
  | .x, .y => True
  | .y, .y => True
  | .v _, .y => True
  | .o _, .y => True
  | .v d, .v e => d = e
  | .o d, .o e => d = e
  | .p d, .p e => d = e
  | _, _ => False
def Wk : List Pk → List Pk → Prop
  | [], [] => True
  | k :: P, l :: Q => k.Le l ∧ Wk P Q
  | _, _ => False
theorem Pk.Le.is {k l : Pk} {s : Sl} (h : k.Le l) (m : k.Is s) : l.Is s := by
  cases k <;> cases l <;> simp only [Pk.Le] at h <;> simp only [Pk.Is] at m ⊢ <;> first | trivial | (subst h; exact m) | (subst m; trivial) | exact m | exact m.np | exact h.elim
theorem Mt.wk : ∀ {P Q : List Pk} {ρ : Env}, Mt P ρ → Wk P Q → Mt Q ρ
  | [], [], [], _, _ => trivial
  | k :: P, l :: Q, s :: ρ, ⟨h1, h2⟩, ⟨w1, w2⟩ => ⟨w1.is h1, Mt.wk h2 w2⟩
  | [], [], _ :: _, h, _ => h.elim
  | _ :: _, _ :: _, [], h, _ => h.elim
  | [], _ :: _, _, _, h => h.elim
  | _ :: _, [], _, _, h => h.elim
theorem Mt.get : ∀ {P : List Pk} {ρ : Env} {i : Nat} {k : Pk}, Mt P ρ → P[i]? = some k → ∃ s, ρ[i]? = some s ∧ k.Is s
  | [], [], i, k, _, h => by simp at h
  | k' :: P, s :: ρ, 0, k, ⟨h1, _⟩, h => by cases h; exact ⟨s, rfl, h1⟩
  | k' :: P, s :: ρ, i + 1, k, ⟨_, h2⟩, h => by
    obtain ⟨s', e, q⟩ := Mt.get (i := i) (k := k) h2 (by simpa using h)
    exact ⟨s', by simpa using e, q⟩
  | [], _ :: _, _, _, h, _ => h.elim
  | _ :: _, [], _, _, h, _ => h.elim
theorem Mt.set : ∀ {P : List Pk} {ρ : Env} {i : Nat} {k : Pk} {s : Sl}, Mt P ρ → k.Is s → Mt (P.set i k) (ρ.set i s)
  | [], [], i, k, s, _, h => by simp [Mt]
  | k' :: P, s' :: ρ, 0, k, s, ⟨_, h2⟩, h => ⟨h, h2⟩
  | k' :: P, s' :: ρ, i + 1, k, s, ⟨h1, h2⟩, h => ⟨h1, Mt.set h2 h⟩
  | [], _ :: _, _, _, _, h, _ => h.elim
  | _ :: _, [], _, _, _, h, _ => h.elim
theorem Mt.getD {P : List Pk} {ρ : Env} {i : Nat} {d : D} (h : Mt P ρ) (e : P[i]? = some (.p d)) : ρ.getD i .e = .p d := by
  obtain ⟨s, e1, e2⟩ := h.get e
  cases e2
  simp [e1]
def vwP : Pk → Pk
  | .o d => .v d
  | .v d => .v d
  | .p _ => .x
  | .x => .x
  | .y => .x
  | .z => .x
theorem Mt.vw : ∀ {P : List Pk} {ρ : Env}, Mt P ρ → Mt (P.map vwP) (ρ.map vwS)
  | [], [], _ => trivial
  | k :: P, s :: ρ, ⟨h1, h2⟩ => by
    refine ⟨?_, Mt.vw h2⟩
    cases k <;> simp only [Pk.Is, vwP] at h1 ⊢
    · cases s <;> trivial
    · cases s <;> first | trivial | exact h1.elim
    · cases s <;> first | trivial | exact h1.elim
    all_goals subst h1; first | rfl | trivial
  | [], _ :: _, h => h.elim
  | _ :: _, [], h => h.elim
def XE (P : List Pk) (m : EM) (d : D) (P' : List Pk) : Prop := ∀ ρ, Mt P ρ → ∃ ρ', m ρ = some (d, ρ') ∧ Mt P' ρ'
def XT (P : List Pk) (m : TM) (d : Bool) (P' : List Pk) : Prop := ∀ ρ, Mt P ρ → ∃ ρ', m ρ = some (d, ρ') ∧ Mt P' ρ'
def XA (P : List Pk) (m : AM) (d : List Arg) (P' : List Pk) : Prop := ∀ ρ, Mt P ρ → ∃ ρ', m ρ = some (d, ρ') ∧ Mt P' ρ'
def XI (P : List Pk) (m : IM) (d : List D) (P' : List Pk) : Prop := ∀ ρ, Mt P ρ → ∃ ρ', m ρ = some (d, ρ') ∧ Mt P' ρ'
def XO (P : List Pk) (m : OM) (d : Option Int) (P' : List Pk) : Prop := ∀ ρ, Mt P ρ → ∃ ρ', m ρ = some (d, ρ') ∧ Mt P' ρ'
def XG (P : List Pk) (g : GM) (d : D) (P' : List Pk) : Prop := ∀ ρ, Mt P ρ → ∃ ρ', g d ρ = some ρ' ∧ Mt P' ρ'
def XGs (P : List Pk) (g : List D → Env → Option Env) (d : List D) (P' : List Pk) : Prop := ∀ ρ, Mt P ρ → ∃ ρ', g d ρ = some ρ' ∧ Mt P' ρ'
def WS (P : List Pk) (m : SM) (Q : Out → Prop) : Prop := ∀ ρ, Mt P ρ → ∃ o, m ρ = some o ∧ Q o
def NxQ (P : List Pk) (o : Out) : Prop := ∃ ρ, o = .nx ρ ∧ Mt P ρ
theorem bd {α β : Type} {x : Option α} {f : α → Option β} {r : β} (h : x.bind f = some r) : ∃ a, x = some a ∧ f a = some r := by
  cases x with
  | none => cases h
  | some a => exact ⟨a, rfl, h⟩
def asB : D → Option Bool
  | .bl b => some b
  | _ => none
def asI : D → Option Int
  | .int i => some i
  | _ => none
def notD : D → Option D
  | .bl b => some (.bl (!b))
  | _ => none
def scG (d : D) : Option D := if scalD d then some d else none
def unL : D → Option (List D)
  | .lst ds => some ds
  | .tup ds => some ds
  | _ => none
def un1 : D → Option D
  | .tup [a] => some a
  | _ => none
def un2 : D → Option (D × D)
  | .tup [a, b] => some (a, b)
  | _ => none
def un3 : D → Option (D × D × D)
  | .tup [a, b, c] => some (a, b, c)
  | _ => none
def un4 : D → Option (D × D × D × D)
  | .tup [a, b, c, d] => some (a, b, c, d)
  | _ => none
def un5 : D → Option (D × D × D × D × D)
  | .tup [a, b, c, d, e] => some (a, b, c, d, e)
  | _ => none
@[simp] theorem asB_bl (b : Bool) : asB (.bl b) = some b := rfl
@[simp] theorem asI_int (b : Int) : asI (.int b) = some b := rfl
@[simp] theorem notD_bl (b : Bool) : notD (.bl b) = some (.bl (!b)) := rfl
@[simp] theorem scG_bl (b : Bool) : scG (.bl b) = some (.bl b) := rfl
@[simp] theorem scG_int (b : Int) : scG (.int b) = some (.int b) := rfl
@[simp] theorem scG_str (b : Str) : scG (.str b) = some (.str b) := rfl
@[simp] theorem scG_non : scG .non = some .non := rfl
@[simp] theorem unL_l (ds : List D) : unL (.lst ds) = some ds := rfl
@[simp] theorem unL_t (ds : List D) : unL (.tup ds) = some ds := rfl
@[simp] theorem un1_t (a : D) : un1 (.tup [a]) = some a := rfl
@[simp] theorem un2_t (a b : D) : un2 (.tup [a, b]) = some (a, b) := rfl
@[simp] theorem un3_t (a b c : D) : un3 (.tup [a, b, c]) = some (a, b, c) := rfl
@[simp] theorem un4_t (a b c d : D) : un4 (.tup [a, b, c, d]) = some (a, b, c, d) := rfl
@[simp] theorem un5_t (a b c d e : D) : un5 (.tup [a, b, c, d, e]) = some (a, b, c, d, e) := rfl
theorem un2_e {d a b : D} (h : un2 d = some (a, b)) : d = .tup [a, b] := by
  unfold un2 at h; split at h <;> cases h; rfl
theorem asB_e {d : D} {b : Bool} (h : asB d = some b) : d = .bl b := by cases d <;> cases h; rfl
section
variable {P P1 P2 P3 P' : List Pk} {m ma mb mc : EM} {d a b c e : D} {tm tma tmb : TM} {am : AM} {as bs : List Arg} {ds : List D} {Q : Out → Prop} {i j l : Nat} {k : Bool}
theorem XE.cst : XE P (eC d) d P := fun ρ h => ⟨ρ, rfl, h⟩
theorem XE.var (h : P[i]? = some (.v d)) : XE P (eVar i) d P := fun ρ m => by
  obtain ⟨s, e, q⟩ := m.get h
  cases q
  exact ⟨ρ, by simp [e], m⟩
theorem XE.op1 {f : D → Option D} (h : XE P ma a P1) (e : f a = some b) : XE P (eOp1 f ma) b P1 := fun ρ m => by
  obtain ⟨ρ1, h1, m1⟩ := h ρ m
  exact ⟨ρ1, by simp [h1, e], m1⟩
theorem XE.op2 {f : D → D → Option D} (h : XE P ma a P1) (g : XE P1 mb b P2) (e : f a b = some c) : XE P (eOp2 f ma mb) c P2 := fun ρ m => by
  obtain ⟨ρ1, h1, m1⟩ := h ρ m
  obtain ⟨ρ2, h2, m2⟩ := g ρ1 m1
  exact ⟨ρ2, by simp [h1, h2, e], m2⟩
theorem XE.not (h : XE P ma a P1) (e : notD a = some b) : XE P (eNot ma) b P1 := fun ρ m => by
  obtain ⟨ρ1, h1, m1⟩ := h ρ m
  refine ⟨ρ1, ?_, m1⟩
  cases a <;> cases e
  simp [h1]
theorem XE.andT (h : XE P ma a P1) (e : asB a = some true) (g : XE P1 mb b P2) : XE P (eAnd ma mb) b P2 := fun ρ m => by
  obtain ⟨ρ1, h1, m1⟩ := h ρ m
  obtain ⟨ρ2, h2, m2⟩ := g ρ1 m1
  cases asB_e e
  exact ⟨ρ2, by simp [h1, h2], m2⟩
theorem XE.andF (h : XE P ma a P1) (e : asB a = some false) : XE P (eAnd ma mb) (.bl false) P1 := fun ρ m => by
  obtain ⟨ρ1, h1, m1⟩ := h ρ m
  cases asB_e e
  exact ⟨ρ1, by simp [h1], m1⟩
theorem XE.orF (h : XE P ma a P1) (e : asB a = some false) (g : XE P1 mb b P2) : XE P (eOr ma mb) b P2 := fun ρ m => by
  obtain ⟨ρ1, h1, m1⟩ := h ρ m
  obtain ⟨ρ2, h2, m2⟩ := g ρ1 m1
  cases asB_e e
  exact ⟨ρ2, by simp [h1, h2], m2⟩
theorem XE.orT (h : XE P ma a P1) (e : asB a = some true) : XE P (eOr ma mb) (.bl true) P1 := fun ρ m => by
  obtain ⟨ρ1, h1, m1⟩ := h ρ m
  cases asB_e e
  exact ⟨ρ1, by simp [h1], m1⟩
theorem XE.ifT (h : XT P tm true P1) (g : XE P1 ma a P2) : XE P (eIf tm ma mb) a P2 := fun ρ m => by
  obtain ⟨ρ1, h1, m1⟩ := h ρ m
  obtain ⟨ρ2, h2, m2⟩ := g ρ1 m1
  exact ⟨ρ2, by simp [h1, h2], m2⟩
theorem XE.ifF (h : XT P tm false P1) (g : XE P1 mb a P2) : XE P (eIf tm ma mb) a P2 := fun ρ m => by
  obtain ⟨ρ1, h1, m1⟩ := h ρ m
  obtain ⟨ρ2, h2, m2⟩ := g ρ1 m1
  exact ⟨ρ2, by simp [h1, h2], m2⟩
theorem XE.chT {f g : D → D → Option D} (h1 : XE P ma a P1) (h2 : XE P1 mb b P2) (e1 : f a b = some d) (e2 : asB d = some true) (h3 : XE P2 mc c P3) (e3 : g b c = some e) : XE P (eChain f g ma mb mc) e P3 := fun ρ m => by
  obtain ⟨ρ1, q1, m1⟩ := h1 ρ m
  obtain ⟨ρ2, q2, m2⟩ := h2 ρ1 m1
  obtain ⟨ρ3, q3, m3⟩ := h3 ρ2 m2
  cases asB_e e2
  exact ⟨ρ3, by simp [eChain, q1, q2, q3, e1, e3], m3⟩
theorem XE.chF {f g : D → D → Option D} (h1 : XE P ma a P1) (h2 : XE P1 mb b P2) (e1 : f a b = some d) (e2 : asB d = some false) : XE P (eChain f g ma mb mc) (.bl false) P2 := fun ρ m => by
  obtain ⟨ρ1, q1, m1⟩ := h1 ρ m
  obtain ⟨ρ2, q2, m2⟩ := h2 ρ1 m1
  cases asB_e e2
  exact ⟨ρ2, by simp [eChain, q1, q2, e1], m2⟩
theorem XT.bb (h : XE P ma a P1) (e : asB a = some k) : XT P (tB ma) k P1 := fun ρ m => by
  obtain ⟨ρ1, h1, m1⟩ := h ρ m
  cases asB_e e
  exact ⟨ρ1, by simp [h1], m1⟩
theorem XT.not (h : XT P tm k P1) : XT P (tNot tm) (!k) P1 := fun ρ m => by
  obtain ⟨ρ1, h1, m1⟩ := h ρ m
  exact ⟨ρ1, by simp [h1], m1⟩
theorem XT.andT (h : XT P tma true P1) (g : XT P1 tmb k P2) : XT P (tAnd tma tmb) k P2 := fun ρ m => by
  obtain ⟨ρ1, h1, m1⟩ := h ρ m
  obtain ⟨ρ2, h2, m2⟩ := g ρ1 m1
  exact ⟨ρ2, by simp [h1, h2], m2⟩
theorem XT.andF (h : XT P tma false P1) : XT P (tAnd tma tmb) false P1 := fun ρ m => by
  obtain ⟨ρ1, h1, m1⟩ := h ρ m
  exact ⟨ρ1, by simp [h1], m1⟩
theorem XT.orF (h : XT P tma false P1) (g : XT P1 tmb k P2) : XT P (tOr tma tmb) k P2 := fun ρ m => by
  obtain ⟨ρ1, h1, m1⟩ := h ρ m
  obtain ⟨ρ2, h2, m2⟩ := g ρ1 m1
  exact ⟨ρ2, by simp [h1, h2], m2⟩
theorem XT.orT (h : XT P tma true P1) : XT P (tOr tma tmb) true P1 := fun ρ m => by
  obtain ⟨ρ1, h1, m1⟩ := h ρ m
  exact ⟨ρ1, by simp [h1], m1⟩
theorem XT.tt : XT P tTrue true P := fun ρ m => ⟨ρ, rfl, m⟩
theorem XA.nil : XA P aNil [] P := fun ρ m => ⟨ρ, rfl, m⟩
theorem XA.cons (h : XE P ma a P1) (g : XA P1 am as P2) : XA P (aCons ma am) (.val a :: as) P2 := fun ρ m => by
  obtain ⟨ρ1, h1, m1⟩ := h ρ m
  obtain ⟨ρ2, h2, m2⟩ := g ρ1 m1
  exact ⟨ρ2, by simp [h1, h2], m2⟩
def isSlot : Option Pk → Bool
  | some (.o _) => true
  | some (.p _) => true
  | _ => false
theorem XA.sl (h : isSlot P[i]? = true) (g : XA P am as P2) : XA P (aSl i am) (.slot i :: as) P2 := fun ρ m => by
  obtain ⟨ρ2, h2, m2⟩ := g ρ m
  refine ⟨ρ2, ?_, m2⟩
  cases e : P[i]? with
  | none => rw [e] at h; cases h
  | some k =>
    rw [e] at h
    obtain ⟨s, es, q⟩ := m.get e
    cases k with
    | o d => cases q; simp [es, h2]
    | p d => cases q; simp [es, h2]
    | _ => cases h
theorem XE.callV {f : List D → Option D} (h : XA P am as P1) (hv : vals as = some ds) (e : f ds = some a) : XE P (eCallV f am) a P1 := fun ρ m => by
  obtain ⟨ρ1, h1, m1⟩ := h ρ m
  exact ⟨ρ1, by simp [h1, hv, e], m1⟩
def argP (P : List Pk) : List Arg → Option (List Sl)
  | [] => some []
  | .val d :: r => (argP P r).map (.v d :: ·)
  | .slot i :: r => match P[i]? with
    | some (.o d) => (argP P r).map (.p d :: ·)
    | some (.p d) => (argP P r).map (.p d :: ·)
    | _ => none
def setP (i : Nat) (d : D) (P : List Pk) : List Pk := match P[i]? with
  | some (.o _) => P.set i (.o d)
  | some (.p _) => P.set i (.p d)
  | _ => P
def wbkP : List Arg → List Sl → List Pk → Option (List Pk)
  | [], [], P => some P
  | .val _ :: r, _ :: ss, P => wbkP r ss P
  | .slot i :: r, .p d :: ss, P => wbkP r ss (setP i d P)
  | _, _, _ => none
theorem argP_ok {ρ : Env} (m : Mt P ρ) : ∀ {as : List Arg} {ss : List Sl}, argP P as = some ss → argS ρ as = some ss
  | [], _, h => h
  | .val d :: r, ss, h => by
    unfold argP at h; unfold argS
    cases e : argP P r with
    | none => rw [e] at h; cases h
    | some l => rw [e] at h; rw [argP_ok m e]; exact h
  | .slot i :: r, ss, h => by
    unfold argP at h; unfold argS
    cases e : argP P r with
    | none => rw [e] at h; split at h <;> cases h
    | some l =>
      rw [e] at h
      cases q : P[i]? with
      | none => rw [q] at h; cases h
      | some k =>
        obtain ⟨s, es, z⟩ := m.get q
        rw [q] at h
        cases k with
        | o d => cases z; rw [es, argP_ok m e]; exact h
        | p d => cases z; rw [es, argP_ok m e]; exact h
        | _ => cases h
theorem setP_ok {ρ : Env} {i : Nat} {d : D} (m : Mt P ρ) (h : isSlot P[i]? = true) : Mt (setP i d P) (setO i d ρ) := by
  unfold setP setO
  cases e : P[i]? with
  | none => rw [e] at h; cases h
  | some k =>
    rw [e] at h
    obtain ⟨s, es, q⟩ := m.get e
    cases k with
    | o d => cases q; rw [es]; exact m.set rfl
    | p d => cases q; rw [es]; exact m.set rfl
    | _ => cases h
theorem setP_slot {i j : Nat} {d : D} (h : isSlot P[j]? = true) : isSlot (setP i d P)[j]? = true := by
  unfold setP
  have key : ∀ k : Pk, isSlot (some k) = true → isSlot ((P.set i k)[j]?) = true := fun k hk => by
    rw [List.getElem?_set]
    by_cases q : i = j
    · subst q
      rw [if_pos rfl]
      by_cases r : i < P.length
      · rw [if_pos r]; exact hk
      · rw [List.getElem?_eq_none (by omega)] at h; cases h
    · rw [if_neg q]; exact h
  split
  · exact key _ rfl
  · exact key _ rfl
  · exact h
theorem wbkP_ok : ∀ {as : List Arg} {ss : List Sl} {P : List Pk} {ρ : Env}, (∀ i, Arg.slot i ∈ as → isSlot P[i]? = true) → Mt P ρ → wbkP as ss P = some P1 → ∃ ρ1, wbk as ss ρ = some ρ1 ∧ Mt P1 ρ1
  | [], [], P, ρ, _, m, h => by cases h; exact ⟨ρ, rfl, m⟩
  | [], _ :: _, _, _, _, _, h => by cases h
  | .val _ :: r, [], _, _, _, _, h => by cases h
  | .slot _ :: r, [], _, _, _, _, h => by cases h
  | .val d :: r, s :: ss, P, ρ, hs, m, h => wbkP_ok (as := r) (ss := ss) (fun i hi => hs i (List.mem_cons_of_mem _ hi)) m h
  | .slot i :: r, s :: ss, P, ρ, hs, m, h => by
    cases s with
    | p d => exact wbkP_ok (as := r) (ss := ss) (P := setP i d P) (ρ := setO i d ρ) (fun j hj => setP_slot (hs j (List.mem_cons_of_mem _ hj))) (setP_ok m (hs i List.mem_cons_self)) h
    | _ => cases h
theorem argP_slot : ∀ {as : List Arg} {ss : List Sl}, argP P as = some ss → ∀ i, Arg.slot i ∈ as → isSlot P[i]? = true
  | [], _, _, i, h => by cases h
  | .val d :: r, ss, h, i, hi => by
    unfold argP at h
    cases e : argP P r with
    | none => rw [e] at h; cases h
    | some l =>
      rcases List.mem_cons.mp hi with q | q
      · cases q
      · exact argP_slot e i q
  | .slot j :: r, ss, h, i, hi => by
    unfold argP at h
    cases e : argP P r with
    | none => rw [e] at h; split at h <;> cases h
    | some l =>
      rcases List.mem_cons.mp hi with q | q
      · cases q
        split at h
        · rename_i x e; rw [e]; rfl
        · rename_i x e; rw [e]; rfl
        · cases h
      · exact argP_slot e i q
theorem XE.kcall {fn : FnSem} {ss ss' : List Sl} (hn : (slotsOf as).Nodup) (ha : argP P as = some ss) (hf : fn ss = some (d, ss')) (hw : wbkP as ss' P = some P1) : ∀ ρ, Mt P ρ → ∃ ρ', kCall fn (as, ρ) = some (d, ρ') ∧ Mt P1 ρ' := fun ρ m => by
  obtain ⟨ρ1, h1, m1⟩ := wbkP_ok (argP_slot ha) m hw
  refine ⟨ρ1, ?_, m1⟩
  unfold kCall
  rw [if_pos hn]
  simp [argP_ok m ha, hf, h1]
theorem XE.call {fn : FnSem} {ss ss' : List Sl} (h : XA P am as P1) (hn : (slotsOf as).Nodup) (ha : argP P1 as = some ss) (hf : fn ss = some (d, ss')) (hw : wbkP as ss' P1 = some P2) : XE P (eCall fn am) d P2 := fun ρ m => by
  obtain ⟨ρ1, h1, m1⟩ := h ρ m
  obtain ⟨ρ2, h2, m2⟩ := XE.kcall hn ha hf hw ρ1 m1
  exact ⟨ρ2, by simp [h1, h2], m2⟩
theorem XE.callK {perm : List Nat} {n n' : Nat} {fn : FnSem} {bm : AM} {cs : List Arg} {ss ss' : List Sl} (h : XA P am as P1) (h' : XA P1 bm bs P2) (hp : (decide (as.length = n) && decide (bs.length = n') && perm.all (fun i => decide (i < n + n'))) = true) (hc : permA perm (as ++ bs) = cs)
    (hn : (slotsOf cs).Nodup) (ha : argP P2 cs = some ss) (hf : fn ss = some (d, ss')) (hw : wbkP cs ss' P2 = some P3) : XE P (eCallK perm n n' fn am bm) d P3 := fun ρ m => by
  obtain ⟨ρ1, h1, m1⟩ := h ρ m
  obtain ⟨ρ2, h2, m2⟩ := h' ρ1 m1
  subst hc
  obtain ⟨ρ3, h3, m3⟩ := XE.kcall hn ha hf hw ρ2 m2
  exact ⟨ρ3, by simp [h1, h2, kCallK3_ap _ _ _ _ _ _ _ hp, h3], m3⟩
theorem XE.callF {fn : FnSem} {ss' : List Sl} (h : XA P am as P1) (hv : vals as = some ds) (hf : fn (ds.map .v) = some (d, ss')) : XE P (eCallF fn am) d P1 := fun ρ m => by
  obtain ⟨ρ1, h1, m1⟩ := h ρ m
  exact ⟨ρ1, by simp [h1, hv, hf], m1⟩
theorem XE.callT {fn : FnSem} {ss' : List Sl} (h : XE P ma a P1) (hf : fn [.p a] = some (d, ss')) : XE P (eCallT fn ma) d P1 := fun ρ m => by
  obtain ⟨ρ1, h1, m1⟩ := h ρ m
  exact ⟨ρ1, by simp [h1, hf], m1⟩
def curP : Option Pk → Option D
  | some (.o d) => some d
  | some (.p d) => some d
  | _ => none
theorem curP_ok {ρ : Env} (m : Mt P ρ) (h : curP P[i]? = some d) : stO ρ i = some d := by
  unfold stO
  cases e : P[i]? with
  | none => rw [e] at h; cases h
  | some k =>
    rw [e] at h
    obtain ⟨s, es, q⟩ := m.get e
    cases k <;> cases h <;> (cases q; rw [es])
theorem curP_slot (h : curP P[i]? = some d) : isSlot P[i]? = true := by
  cases e : P[i]? with
  | none => rw [e] at h; cases h
  | some k => rw [e] at h; cases k <;> first | rfl | cases h
theorem XE.ixO {d0 d1 : D} (h0 : curP P[i]? = some d0) (h : XE P ma a P1) (h1 : curP P1[i]? = some d1) (e : ixD d1 a = some b) : XE P (eIxO i ma) b P1 := fun ρ m => by
  obtain ⟨ρ1, q1, m1⟩ := h ρ m
  exact ⟨ρ1, by simp [curP_ok m h0, q1, curP_ok m1 h1, e], m1⟩
theorem XO.no : XO P oNo none P := fun ρ m => ⟨ρ, rfl, m⟩
theorem XO.some {n : Int} (h : XE P ma a P1) (e : asI a = some n) : XO P (oSome ma) (some n) P1 := fun ρ m => by
  obtain ⟨ρ1, q1, m1⟩ := h ρ m
  refine ⟨ρ1, ?_, m1⟩
  cases a <;> cases e
  simp [oSome, q1]
theorem XE.slice {lo hi : OM} {n n' : Option Int} (h : XE P ma a P1) (h1 : XO P1 lo n P2) (h2 : XO P2 hi n' P3) (e : sliceD a n n' = some b) : XE P (eSlice ma lo hi) b P3 := fun ρ m => by
  obtain ⟨ρ1, q1, m1⟩ := h ρ m
  obtain ⟨ρ2, q2, m2⟩ := h1 ρ1 m1
  obtain ⟨ρ3, q3, m3⟩ := h2 ρ2 m2
  exact ⟨ρ3, by simp [eSlice, q1, q2, q3, e], m3⟩
theorem XI.seq (h : XE P ma a P1) (e : unL a = some ds) : XI P (iSeq ma) ds P1 := fun ρ m => by
  obtain ⟨ρ1, q1, m1⟩ := h ρ m
  refine ⟨ρ1, ?_, m1⟩
  cases a <;> cases e <;> simp [q1]
theorem XI.arg {f : List Arg → Option (List D)} (h : XA P am as P1) (e : f as = some ds) : XI P (iArg f am) ds P1 := fun ρ m => by
  obtain ⟨ρ1, q1, m1⟩ := h ρ m
  exact ⟨ρ1, by simp [q1, e], m1⟩
def canV : Option Pk → Bool
  | some .x => true
  | some .y => true
  | some (.v _) => true
  | some (.o _) => true
  | _ => false
theorem putV_ok {ρ : Env} (m : Mt P ρ) (h : canV P[i]? = true) : putV i d ρ = some (ρ.set i (.v d)) := by
  unfold putV
  cases e : P[i]? with
  | none => rw [e] at h; cases h
  | some k =>
    rw [e] at h
    obtain ⟨s, es, q⟩ := m.get e
    rw [es]
    cases k <;> first | (cases h; done) | (cases s <;> first | rfl | exact q.elim | cases q)
theorem putO_ok {ρ : Env} (m : Mt P ρ) (h : canV P[i]? = true) : putO i d ρ = some (ρ.set i (.o d)) := by
  unfold putO
  cases e : P[i]? with
  | none => rw [e] at h; cases h
  | some k =>
    rw [e] at h
    obtain ⟨s, es, q⟩ := m.get e
    rw [es]
    cases k <;> first | (cases h; done) | (cases s <;> first | rfl | exact q.elim | cases q)
theorem XG.v (h : canV P[i]? = true) : XG P (gV i) d (P.set i (.v d)) := fun ρ m => ⟨_, putV_ok m h, m.set rfl⟩
theorem XGs.nil : XGs P gNil [] P := fun ρ m => ⟨ρ, rfl, m⟩
theorem XGs.cons {g : GM} {gs : List D → Env → Option Env} (h : XG P g d P1) (h' : XGs P1 gs ds P2) : XGs P (gCons g gs) (d :: ds) P2 := fun ρ m => by
  obtain ⟨ρ1, q1, m1⟩ := h ρ m
  obtain ⟨ρ2, q2, m2⟩ := h' ρ1 m1
  exact ⟨ρ2, by simp [q1, q2], m2⟩
theorem XG.t {gs : List D → Env → Option Env} (h : XGs P gs ds P1) (e : d = .tup ds) : XG P (gT gs) d P1 := fun ρ m => by
  obtain ⟨ρ1, q1, m1⟩ := h ρ m
  subst e
  exact ⟨ρ1, by simp [q1], m1⟩
end
end DL
namespace DL
open PySem
section
variable {P P1 P2 P3 P' Pw : List Pk} {m ma mb mc : EM} {d a b c e : D} {tm tma tmb : TM} {am : AM} {as bs : List Arg} {ds : List D} {Q : Out → Prop} {i j l : Nat} {k : Bool} {s s1 s2 s3 : SM} {g : GM}
theorem WS.seq (h : WS P s1 (NxQ P1)) (h2 : WS P1 s2 Q) : WS P (sSeq s1 s2) Q := fun ρ m => by
  obtain ⟨o, e, ρ1, rfl, m1⟩ := h ρ m
  obtain ⟨o2, e2, q⟩ := h2 ρ1 m1
  exact ⟨o2, by simp [e, e2], q⟩
theorem WS.assoc (h : WS P (sSeq s1 (sSeq s2 s3)) Q) : WS P (sSeq (sSeq s1 s2) s3) Q := fun ρ m => by
  obtain ⟨o, e, q⟩ := h ρ m
  refine ⟨o, ?_, q⟩
  rw [sSeq_ap] at e ⊢
  rw [sSeq_ap]
  cases e1 : s1 ρ with
  | none => rw [e1] at e; cases e
  | some o1 =>
    rw [e1] at e
    cases o1 with
    | nx ρ1 => simpa using e
    | _ => simpa using e
theorem WS.tail (h : WS P (sSeq s sSkip) Q) : WS P s Q := fun ρ m => by
  obtain ⟨o, e, q⟩ := h ρ m
  refine ⟨o, ?_, q⟩
  rw [sSeq_ap] at e
  cases e1 : s ρ with
  | none => rw [e1] at e; cases e
  | some o1 => rw [e1] at e; cases o1 <;> exact e
theorem WS.skip (h : ∀ ρ, Mt P ρ → Q (.nx ρ)) : WS P sSkip Q := fun ρ m => ⟨_, rfl, h ρ m⟩
theorem WS.skipS (h : WS P s Q) : WS P (sSeq sSkip s) Q := fun ρ m => by
  obtain ⟨o, e, q⟩ := h ρ m
  exact ⟨o, by simp [e], q⟩
theorem NxQ.wk (w : Wk P P1) : ∀ ρ, Mt P ρ → NxQ P1 (.nx ρ) := fun ρ m => ⟨ρ, rfl, m.wk w⟩
theorem WS.set (h : XE P ma a P1) (c : canV P1[i]? = true) : WS P (sSet i ma) (NxQ (P1.set i (.v a))) := fun ρ m => by
  obtain ⟨ρ1, q1, m1⟩ := h ρ m
  exact ⟨.nx (ρ1.set i (.v a)), by simp [q1, putV_ok m1 c], _, rfl, m1.set rfl⟩
theorem WS.own (h : XE P ma a P1) (c : canV P1[i]? = true) : WS P (sSetO i ma) (NxQ (P1.set i (.o a))) := fun ρ m => by
  obtain ⟨ρ1, q1, m1⟩ := h ρ m
  exact ⟨.nx (ρ1.set i (.o a)), by simp [q1, putO_ok m1 c], _, rfl, m1.set rfl⟩
theorem WS.drop (h : XE P ma a P1) : WS P (sDrop ma) (NxQ P1) := fun ρ m => by
  obtain ⟨ρ1, q1, m1⟩ := h ρ m
  exact ⟨.nx ρ1, by simp [q1], _, rfl, m1⟩
theorem WS.asg (h : XE P ma a P1) (g' : XG P1 g a P2) : WS P (sAsg ma g) (NxQ P2) := fun ρ m => by
  obtain ⟨ρ1, q1, m1⟩ := h ρ m
  obtain ⟨ρ2, q2, m2⟩ := g' ρ1 m1
  exact ⟨.nx ρ2, by simp [q1, q2], _, rfl, m2⟩
theorem canV_set {d : D} (h : canV P[j]? = true) : canV (P.set i (.v d))[j]? = true := by
  rw [List.getElem?_set]
  by_cases q : i = j
  · subst q
    rw [if_pos rfl]
    by_cases r : i < P.length
    · rw [if_pos r]; rfl
    · rw [List.getElem?_eq_none (by omega)] at h; cases h
  · rw [if_neg q]; exact h
theorem WS.par {x y : D} (h : XA P am [.val x, .val y] P1) (c1 : canV P1[i]? = true) (c2 : canV P1[j]? = true) : WS P (sPar i j am) (NxQ ((P1.set i (.v x)).set j (.v y))) := fun ρ m => by
  obtain ⟨ρ1, q1, m1⟩ := h ρ m
  have m2 : Mt (P1.set i (.v x)) (ρ1.set i (.v x)) := m1.set rfl
  refine ⟨.nx ((ρ1.set i (.v x)).set j (.v y)), ?_, _, rfl, m2.set rfl⟩
  simp [q1, putV_ok m1 c1, putV_ok m2 (canV_set c2)]
theorem WS.par3 {x y z : D} (h : XA P am [.val x, .val y, .val z] P1) (c1 : canV P1[i]? = true) (c2 : canV P1[j]? = true) (c3 : canV P1[l]? = true) : WS P (sPar3 i j l am) (NxQ (((P1.set i (.v x)).set j (.v y)).set l (.v z))) := fun ρ m => by
  obtain ⟨ρ1, q1, m1⟩ := h ρ m
  have m2 : Mt (P1.set i (.v x)) (ρ1.set i (.v x)) := m1.set rfl
  have m3 : Mt ((P1.set i (.v x)).set j (.v y)) ((ρ1.set i (.v x)).set j (.v y)) := m2.set rfl
  refine ⟨.nx (((ρ1.set i (.v x)).set j (.v y)).set l (.v z)), ?_, _, rfl, m3.set rfl⟩
  simp [sPar3, q1, putV_ok m1 c1, putV_ok m2 (canV_set c2), putV_ok m3 (canV_set (canV_set c3))]
theorem WS.store {T : String} {f : D → D → D → Option D} {mi : EM} {d0 d1 : D} (h : XE P ma a P1) (h0 : curP P1[i]? = some d0) (hi : XE P1 mi b P2) (h1 : curP P2[i]? = some d1) (e : f d1 b a = some c) (hw : setP i c P2 = P3) : WS P (sStore T i f mi ma) (NxQ P3) := fun ρ m => by
  obtain ⟨ρ1, q1, m1⟩ := h ρ m
  obtain ⟨ρ2, q2, m2⟩ := hi ρ1 m1
  subst hw
  exact ⟨.nx (setO i c ρ2), by simp [q1, curP_ok m1 h0, q2, curP_ok m2 h1, e], _, rfl, setP_ok m2 (curP_slot h1)⟩
theorem WS.ret (h : XE P ma a P1) (q : ∀ ρ, Mt P1 ρ → Q (.rt a ρ)) : WS P (sRet ma) Q := fun ρ m => by
  obtain ⟨ρ1, q1, m1⟩ := h ρ m
  exact ⟨.rt a ρ1, by simp [q1], q ρ1 m1⟩
theorem WS.retF (h : XE P ma a P1) (q : ∀ ρ, Mt P1 ρ → Q (.rf a ρ)) : WS P (sRetF ma) Q := fun ρ m => by
  obtain ⟨ρ1, q1, m1⟩ := h ρ m
  exact ⟨.rf a ρ1, by simp [q1], q ρ1 m1⟩
theorem WS.bk (q : ∀ ρ, Mt P ρ → Q (.bk ρ)) : WS P (fun ρ => some (.bk ρ)) Q := fun ρ m => ⟨_, rfl, q ρ m⟩
theorem WS.ct (q : ∀ ρ, Mt P ρ → Q (.ct ρ)) : WS P (fun ρ => some (.ct ρ)) Q := fun ρ m => ⟨_, rfl, q ρ m⟩
theorem WS.if_ (h : XT P tm k P1) (h1 : k = true → WS P1 s1 Q) (h2 : k = false → WS P1 s2 Q) : WS P (sIf tm s1 s2) Q := fun ρ m => by
  obtain ⟨ρ1, q1, m1⟩ := h ρ m
  cases k with
  | true =>
    obtain ⟨o, e, q⟩ := h1 rfl ρ1 m1
    exact ⟨o, by simp [q1, e], q⟩
  | false =>
    obtain ⟨o, e, q⟩ := h2 rfl ρ1 m1
    exact ⟨o, by simp [q1, e], q⟩
theorem WS.ifS (h : XT P tm k P1) (h1 : k = true → WS P1 (sSeq s1 s3) Q) (h2 : k = false → WS P1 (sSeq s2 s3) Q) : WS P (sSeq (sIf tm s1 s2) s3) Q := fun ρ m => by
  obtain ⟨ρ1, q1, m1⟩ := h ρ m
  cases k with
  | true =>
    obtain ⟨o, e, q⟩ := h1 rfl ρ1 m1
    rw [sSeq_ap] at e
    exact ⟨o, by simp [q1, e], q⟩
  | false =>
    obtain ⟨o, e, q⟩ := h2 rfl ρ1 m1
    rw [sSeq_ap] at e
    exact ⟨o, by simp [q1, e], q⟩
def outF (ss : List Sl) : Out → Option (D × List Sl)
  | .rt d ρ => some (d, fin ρ 0 ss)
  | .nx ρ => some (.non, fin ρ 0 ss)
  | .rf d ρ => some (d, fin ρ 0 ss)
  | _ => none
theorem mkFn_of {n k : Nat} {ss : List Sl} {r : D × List Sl} (hl : ss.length = n) (hm : Mt P (ss ++ List.replicate k .e)) (h : WS P s (fun o => outF ss o = some r)) : mkFn n k s ss = some r := by
  obtain ⟨o, e, q⟩ := h _ hm
  unfold mkFn
  rw [if_pos hl, e]
  cases o <;> exact q
def outFF (ss : List Sl) : Out → Option (D × List Sl)
  | .rf d ρ => some (d, fin ρ 0 ss)
  | _ => none
theorem mkFnF_of {n k : Nat} {ss : List Sl} {r : D × List Sl} (hl : ss.length = n) (hm : Mt P (ss ++ List.replicate k .e)) (h : WS P s (fun o => outFF ss o = some r)) : mkFnF n k s ss = some r := by
  obtain ⟨o, e, q⟩ := h _ hm
  unfold mkFnF
  rw [if_pos hl, e]
  cases o <;> exact q
inductive Fl (R τ : Type) where
  | nx (t : τ) | bk (t : τ) | rt (r : R)
end
section
variable {R τ : Type}
def fldR (f : D → τ → Option (Fl R τ)) : List D → τ → Option (Fl R τ)
  | [], t => some (.nx t)
  | d :: ds, t => (f d t).bind fun r => match r with
    | .nx t => fldR f ds t
    | .bk t => some (.nx t)
    | .rt r => some (.rt r)
variable {P P1 P2 Pw : List Pk} {it : IM} {g : GM} {b s2 : SM} {ds zs : List D} {Q : Out → Prop} {Pt : τ → List Pk} {t0 t1 : τ} {rq : R → Out → Prop} {tm : TM}
def WB (P : List Pk) (g : GM) (b : SM) (d : D) (Q : Out → Prop) : Prop := ∀ ρ, Mt P ρ → ∃ ρ1 o, g d ρ = some ρ1 ∧ b ρ1 = some o ∧ Q o
theorem WB.mk {d : D} (h : XG P g d P1) (w : WS P1 b Q) : WB P g b d Q := fun ρ m => by
  obtain ⟨ρ1, e1, m1⟩ := h ρ m
  obtain ⟨o, e2, q⟩ := w ρ1 m1
  exact ⟨ρ1, o, e1, e2, q⟩
def LpN (P : List Pk) (o : Out) : Prop := ∃ ρ, (o = .nx ρ ∨ o = .ct ρ) ∧ Mt P ρ
def isRt : Out → Prop
  | .rt _ _ => True
  | .rf _ _ => True
  | _ => False
def LpR (Pt : τ → List Pk) (rq : R → Out → Prop) : Fl R τ → Out → Prop
  | .nx t, o => LpN (Pt t) o
  | .bk t, o => ∃ ρ, o = .bk ρ ∧ Mt (Pt t) ρ
  | .rt r, o => isRt o ∧ rq r o
def AfR (Pt : τ → List Pk) (rq : R → Out → Prop) : Fl R τ → Out → Prop
  | .nx t, o => NxQ (Pt t) o
  | .bk t, o => NxQ (Pt t) o
  | .rt r, o => isRt o ∧ rq r o
theorem LpN.nx (w : Wk P P1) : ∀ ρ, Mt P ρ → LpN P1 (.nx ρ) := fun ρ m => ⟨ρ, .inl rfl, m.wk w⟩
theorem LpN.ct (w : Wk P P1) : ∀ ρ, Mt P ρ → LpN P1 (.ct ρ) := fun ρ m => ⟨ρ, .inr rfl, m.wk w⟩
theorem forR_ok {f : D → τ → Option (Fl R τ)} (hb : ∀ d t r, f d t = some r → WB (Pt t) g b d (LpR Pt rq r)) : ∀ {ds : List D} {t : τ} {r : Fl R τ} {ρ : Env}, fldR f ds t = some r → Mt (Pt t) ρ → ∃ o, forL g b ds ρ = some o ∧ AfR Pt rq r o
  | [], t, r, ρ, h, m => by cases h; exact ⟨.nx ρ, rfl, ρ, rfl, m⟩
  | d :: ds, t, r, ρ, h, m => by
    obtain ⟨r', e, h⟩ := bd h
    obtain ⟨ρ1, o, e1, e2, ho⟩ := hb d t r' e ρ m
    unfold forL
    simp only [e1, e2, Option.bind_some]
    cases r' with
    | nx t' =>
      obtain ⟨ρ2, ho, m2⟩ := ho
      obtain ⟨o3, e3, q3⟩ := forR_ok hb h m2
      refine ⟨o3, ?_, q3⟩
      rcases ho with rfl | rfl <;> exact e3
    | bk t' =>
      obtain ⟨ρ2, rfl, m2⟩ := ho
      cases h
      exact ⟨.nx ρ2, rfl, ρ2, rfl, m2⟩
    | rt r' =>
      cases h
      refine ⟨o, ?_, ho⟩
      obtain ⟨ho, _⟩ := ho
      cases o <;> first | exact ho.elim | rfl
theorem WS.forR {f : D → τ → Option (Fl R τ)} {r : Fl R τ} (hI : XI P it ds P1) (Pt : τ → List Pk) (rq : R → Out → Prop) (h0 : Wk P1 (Pt t0)) (hm : fldR f ds t0 = some r) (hb : ∀ d t r, f d t = some r → WB (Pt t) g b d (LpR Pt rq r)) : WS P (sFor it g b) (AfR Pt rq r) := fun ρ m => by
  obtain ⟨ρ1, e1, m1⟩ := hI ρ m
  obtain ⟨o, e2, q⟩ := forR_ok hb hm (m1.wk h0)
  exact ⟨o, by simp [e1, e2], q⟩
theorem WS.weak {s : SM} {Q' : Out → Prop} (h : WS P s Q) (q : ∀ o, Q o → Q' o) : WS P s Q' := fun ρ m => by
  obtain ⟨o, e, z⟩ := h ρ m
  exact ⟨o, e, q o z⟩
/-- a loop ended by a return, what follows is not reached -/
theorem WS.rtS {s : SM} {q : Out → Prop} (h : WS P s (fun o => isRt o ∧ q o)) (hq : ∀ o, isRt o → q o → Q o) : WS P (sSeq s s2) Q := fun ρ m => by
  obtain ⟨o, e, hr, z⟩ := h ρ m
  refine ⟨o, ?_, hq o hr z⟩
  cases o <;> first | exact hr.elim | simp [e]
def cmpP (f : D → Option (List D)) : List D → Option (List D)
  | [] => some []
  | d :: ds => (f d).bind fun z => (cmpP f ds).bind fun r => some (z ++ r)
def cmpS (f : D → τ → Option (List D × τ)) : List D → τ → Option (List D × τ)
  | [], t => some ([], t)
  | d :: ds, t => (f d t).bind fun p => (cmpS f ds p.2).bind fun q => some (p.1 ++ q.1, q.2)
def plP : Option Pk → Bool
  | some .x => true
  | some (.v _) => true
  | none => true
  | _ => false
def wipX (P : List Pk) : List Nat → List Pk
  | [] => P
  | v :: r => (wipX P r).set v .x
def wipP (vs : List Nat) (P : List Pk) : Option (List Pk) := if vs.all fun i => plP P[i]? then some (wipX P vs) else none
def rstP (P1 P : List Pk) : List Nat → List Pk
  | [] => P
  | v :: r => match P1[v]? with
    | some s => (rstP P1 P r).set v s
    | none => rstP P1 P r
theorem wipX_ok {P : List Pk} {ρ : Env} (m : Mt P ρ) : ∀ vs : List Nat, Mt (wipX P vs) (wipeE ρ vs)
  | [] => m
  | v :: r => (wipX_ok m r).set trivial
theorem Mt.len : ∀ {P : List Pk} {ρ : Env}, Mt P ρ → ρ.length = P.length
  | [], [], _ => rfl
  | _ :: _, _ :: _, h => congrArg (· + 1) (Mt.len h.2)
  | [], _ :: _, h => h.elim
  | _ :: _, [], h => h.elim
theorem wipP_ok {vs : List Nat} {ρ : Env} (m : Mt P ρ) (h : wipP vs P = some Pw) : ∃ ρ', wipeC vs ρ = some ρ' ∧ Mt Pw ρ' := by
  unfold wipP at h
  split at h
  · rename_i ha
    cases h
    refine ⟨wipeE ρ vs, ?_, wipX_ok m vs⟩
    unfold wipeC
    rw [if_pos]
    unfold noOwn
    rw [List.all_eq_true] at ha ⊢
    intro i hi
    have := ha i hi
    cases e : P[i]? with
    | none =>
      have hl := List.getElem?_eq_none_iff.mp e
      rw [List.getElem?_eq_none (by rw [m.len]; exact hl)]
    | some k =>
      obtain ⟨s, es, q⟩ := m.get e
      rw [es]
      rw [e] at this
      cases k with
      | x => cases s <;> first | rfl | exact q.elim
      | v d => cases q; rfl
      | _ => exact absurd this (by simp [plP])
  · cases h
theorem rstP_ok {ρ1 ρ2 : Env} (m1 : Mt P1 ρ1) (m2 : Mt P2 ρ2) : ∀ vs : List Nat, Mt (rstP P1 P2 vs) (rstE ρ1 ρ2 vs)
  | [] => m2
  | v :: r => by
    unfold rstP rstE
    cases e : P1[v]? with
    | none =>
      have hl := List.getElem?_eq_none_iff.mp e
      rw [List.getElem?_eq_none (by rw [m1.len]; exact hl)]
      exact rstP_ok m1 m2 r
    | some k =>
      obtain ⟨s, es, q⟩ := m1.get e
      rw [es]
      exact (rstP_ok m1 m2 r).set q
def XC (P : List Pk) (vs : List Nat) (g : GM) (tt : TM) (el : EM) (d : D) (z : List D) (P' : List Pk) : Prop := ∀ ρ, Mt P ρ → ∃ ρ', compT vs g tt el d ρ = some (z, ρ') ∧ Mt P' ρ'
variable {P3 P4 P5 : List Pk} {vs : List Nat} {tt : TM} {el : EM} {d z : D}
theorem XC.one (h : XG P g d P1) (ht : XT P1 tt true P2) (he : XE P2 el z P3) (hw : wipP vs P3 = some P4) (w : Wk P4 P5) : XC P vs g tt el d [z] P5 := fun ρ m => by
  obtain ⟨ρ1, e1, m1⟩ := h ρ m
  obtain ⟨ρ2, e2, m2⟩ := ht ρ1 m1
  obtain ⟨ρ3, e3, m3⟩ := he ρ2 m2
  obtain ⟨ρ4, e4, m4⟩ := wipP_ok m3 hw
  exact ⟨ρ4, compT_1 e1 e2 e3 e4, m4.wk w⟩
theorem XC.zero (h : XG P g d P1) (ht : XT P1 tt false P2) (hw : wipP vs P2 = some P4) (w : Wk P4 P5) : XC P vs g tt el d [] P5 := fun ρ m => by
  obtain ⟨ρ1, e1, m1⟩ := h ρ m
  obtain ⟨ρ2, e2, m2⟩ := ht ρ1 m1
  obtain ⟨ρ4, e4, m4⟩ := wipP_ok m2 hw
  exact ⟨ρ4, compT_0 e1 e2 e4, m4.wk w⟩
theorem cmpS_ok {f : D → τ → Option (List D × τ)} (hb : ∀ d t z t', f d t = some (z, t') → XC (Pt t) vs g tt el d z (Pt t')) : ∀ {ds : List D} {t t1 : τ} {zs : List D} {ρ : Env}, cmpS f ds t = some (zs, t1) → Mt (Pt t) ρ → ∃ ρ1, compL vs g tt el ds ρ = some (zs, ρ1) ∧ Mt (Pt t1) ρ1
  | [], t, t1, zs, ρ, h, m => by cases h; exact ⟨ρ, rfl, m⟩
  | d :: ds, t, t1, zs, ρ, h, m => by
    obtain ⟨⟨z, t'⟩, e, h⟩ := bd h
    obtain ⟨⟨r, t2⟩, e2, h⟩ := bd h
    cases h
    obtain ⟨ρ1, q1, m1⟩ := hb d t z t' e ρ m
    obtain ⟨ρ2, q2, m2⟩ := cmpS_ok hb e2 m1
    refine ⟨ρ2, ?_, m2⟩
    unfold compL
    simp [q1, q2]
theorem XE.compS {f : D → τ → Option (List D × τ)} (hI : XI P it ds P1) (hw : wipP vs P1 = some Pw) (Pt : τ → List Pk) (h0 : Wk Pw (Pt t0)) (hm : cmpS f ds t0 = some (zs, t1)) (hb : ∀ d t z t', f d t = some (z, t') → XC (Pt t) vs g tt el d z (Pt t')) (hr : rstP P1 (Pt t1) vs = P2) : XE P (eComp vs it g tt el) (.lst zs) P2 := fun ρ m => by
  obtain ⟨ρ1, e1, m1⟩ := hI ρ m
  obtain ⟨ρw, e2, m2⟩ := wipP_ok m1 hw
  obtain ⟨ρ3, e3, m3⟩ := cmpS_ok hb hm (m2.wk h0)
  subst hr
  exact ⟨rstE ρ1 ρ3 vs, by simp [e1, e2, e3], rstP_ok m1 m3 vs⟩
theorem cmpP_S {f : D → Option (List D)} : ∀ {ds zs : List D}, cmpP f ds = some zs → cmpS (τ := Unit) (fun d _ => (f d).bind fun z => some (z, ())) ds () = some (zs, ())
  | [], zs, h => by cases h; rfl
  | d :: ds, zs, h => by
    obtain ⟨z, e, h⟩ := bd h
    obtain ⟨r, e2, h⟩ := bd h
    cases h
    unfold cmpS
    simp [e, cmpP_S e2]
theorem XE.comp {f : D → Option (List D)} (hI : XI P it ds P1) (hw : wipP vs P1 = some Pw) (hm : cmpP f ds = some zs) (hb : ∀ d z, f d = some z → XC Pw vs g tt el d z Pw) (hr : rstP P1 Pw vs = P2) : XE P (eComp vs it g tt el) (.lst zs) P2 := fun ρ m => by
  obtain ⟨ρ1, e1, m1⟩ := hI ρ m
  obtain ⟨ρw, e2, m2⟩ := wipP_ok m1 hw
  obtain ⟨ρ3, e3, m3⟩ := cmpS_ok (Pt := fun _ : Unit => Pw) (fun d t z t' h => by
    obtain ⟨z', e, h⟩ := bd h
    cases h
    exact hb d _ e) (cmpP_S hm) m2
  subst hr
  exact ⟨rstE ρ1 ρ3 vs, by simp [e1, e2, e3], rstP_ok m1 m3 vs⟩
end
end DL
namespace DL
open PySem
section
variable {α β γ δ ε ζ η θ κ : Type} {r : κ}
def bd2 (x : Option (α × β)) (f : α → β → Option κ) : Option κ := x.bind fun q => f q.1 q.2
def bd3 (x : Option (α × β × γ)) (f : α → β → γ → Option κ) : Option κ := x.bind fun q => f q.1 q.2.1 q.2.2
def bd4 (x : Option (α × β × γ × δ)) (f : α → β → γ → δ → Option κ) : Option κ := x.bind fun q => f q.1 q.2.1 q.2.2.1 q.2.2.2
def bd5 (x : Option (α × β × γ × δ × ε)) (f : α → β → γ → δ → ε → Option κ) : Option κ := x.bind fun q => f q.1 q.2.1 q.2.2.1 q.2.2.2.1 q.2.2.2.2
def bd6 (x : Option (α × β × γ × δ × ε × ζ)) (f : α → β → γ → δ → ε → ζ → Option κ) : Option κ := x.bind fun q => f q.1 q.2.1 q.2.2.1 q.2.2.2.1 q.2.2.2.2.1 q.2.2.2.2.2
def bd7 (x : Option (α × β × γ × δ × ε × ζ × η)) (f : α → β → γ → δ → ε → ζ → η → Option κ) : Option κ := x.bind fun q => f q.1 q.2.1 q.2.2.1 q.2.2.2.1 q.2.2.2.2.1 q.2.2.2.2.2.1 q.2.2.2.2.2.2
def bd8 (x : Option (α × β × γ × δ × ε × ζ × η × θ)) (f : α → β → γ → δ → ε → ζ → η → θ → Option κ) : Option κ := x.bind fun q => f q.1 q.2.1 q.2.2.1 q.2.2.2.1 q.2.2.2.2.1 q.2.2.2.2.2.1 q.2.2.2.2.2.2.1 q.2.2.2.2.2.2.2
@[simp] theorem bd2_some (a : α) (b : β) (f : α → β → Option κ) : bd2 (some (a, b)) f = f a b := rfl
@[simp] theorem bd3_some (a : α) (b : β) (c : γ) (f : α → β → γ → Option κ) : bd3 (some (a, b, c)) f = f a b c := rfl
@[simp] theorem bd4_some (a : α) (b : β) (c : γ) (d : δ) (f : α → β → γ → δ → Option κ) : bd4 (some (a, b, c, d)) f = f a b c d := rfl
@[simp] theorem bd5_some (a : α) (b : β) (c : γ) (d : δ) (e : ε) (f : α → β → γ → δ → ε → Option κ) : bd5 (some (a, b, c, d, e)) f = f a b c d e := rfl
@[simp] theorem bd6_some (a : α) (b : β) (c : γ) (d : δ) (e : ε) (z : ζ) (f : α → β → γ → δ → ε → ζ → Option κ) : bd6 (some (a, b, c, d, e, z)) f = f a b c d e z := rfl
@[simp] theorem bd7_some (a : α) (b : β) (c : γ) (d : δ) (e : ε) (z : ζ) (y : η) (f : α → β → γ → δ → ε → ζ → η → Option κ) : bd7 (some (a, b, c, d, e, z, y)) f = f a b c d e z y := rfl
@[simp] theorem bd8_some (a : α) (b : β) (c : γ) (d : δ) (e : ε) (z : ζ) (y : η) (w : θ) (f : α → β → γ → δ → ε → ζ → η → θ → Option κ) : bd8 (some (a, b, c, d, e, z, y, w)) f = f a b c d e z y w := rfl
theorem bd2_e {x : Option (α × β)} {f : α → β → Option κ} (h : bd2 x f = some r) : ∃ a b, x = some (a, b) ∧ f a b = some r := by
  obtain ⟨⟨a, b⟩, e, h⟩ := bd h; exact ⟨_, _, e, h⟩
def un_2 (f : α → β → κ) (s : α × β) : κ := f s.1 s.2
def un_3 (f : α → β → γ → κ) (s : α × β × γ) : κ := f s.1 s.2.1 s.2.2
def un_4 (f : α → β → γ → δ → κ) (s : α × β × γ × δ) : κ := f s.1 s.2.1 s.2.2.1 s.2.2.2
def un_5 (f : α → β → γ → δ → ε → κ) (s : α × β × γ × δ × ε) : κ := f s.1 s.2.1 s.2.2.1 s.2.2.2.1 s.2.2.2.2
def un_6 (f : α → β → γ → δ → ε → ζ → κ) (s : α × β × γ × δ × ε × ζ) : κ := f s.1 s.2.1 s.2.2.1 s.2.2.2.1 s.2.2.2.2.1 s.2.2.2.2.2
def un_7 (f : α → β → γ → δ → ε → ζ → η → κ) (s : α × β × γ × δ × ε × ζ × η) : κ := f s.1 s.2.1 s.2.2.1 s.2.2.2.1 s.2.2.2.2.1 s.2.2.2.2.2.1 s.2.2.2.2.2.2
@[simp] theorem un_2_mk (f : α → β → κ) (a : α) (b : β) : un_2 f (a, b) = f a b := rfl
@[simp] theorem un_3_mk (f : α → β → γ → κ) (a : α) (b : β) (c : γ) : un_3 f (a, b, c) = f a b c := rfl
@[simp] theorem un_4_mk (f : α → β → γ → δ → κ) (a : α) (b : β) (c : γ) (d : δ) : un_4 f (a, b, c, d) = f a b c d := rfl
@[simp] theorem un_5_mk (f : α → β → γ → δ → ε → κ) (a : α) (b : β) (c : γ) (d : δ) (e : ε) : un_5 f (a, b, c, d, e) = f a b c d e := rfl
@[simp] theorem un_6_mk (f : α → β → γ → δ → ε → ζ → κ) (a : α) (b : β) (c : γ) (d : δ) (e : ε) (z : ζ) : un_6 f (a, b, c, d, e, z) = f a b c d e z := rfl
@[simp] theorem un_7_mk (f : α → β → γ → δ → ε → ζ → η → κ) (a : α) (b : β) (c : γ) (d : δ) (e : ε) (z : ζ) (y : η) : un_7 f (a, b, c, d, e, z, y) = f a b c d e z y := rfl
def flK {R τ : Type} (r : Fl R τ) (f : R → Option κ) (g : τ → Option κ) : Option κ := match r with
  | .rt x => f x
  | .nx t => g t
  | .bk _ => none
@[simp] theorem flK_rt {R τ : Type} (x : R) (f : R → Option κ) (g : τ → Option κ) : flK (.rt x) f g = f x := rfl
@[simp] theorem flK_nx {R τ : Type} (x : τ) (f : R → Option κ) (g : τ → Option κ) : flK (.nx x) f g = g x := rfl
end
section
variable {P P1 P2 P3 P' Pw : List Pk} {m ma mb mc : EM} {d a b c e : D} {tm tma tmb : TM} {k k' : Bool} {Q : Out → Prop} {s2 : SM}
theorem XE.if_ (h : XT P tm k P1) (h1 : k = true → XE P1 ma a P2) (h2 : k = false → XE P1 mb a P2) : XE P (eIf tm ma mb) a P2 := by
  cases k with
  | true => exact XE.ifT h (h1 rfl)
  | false => exact XE.ifF h (h2 rfl)
theorem XE.and_ (h : XE P ma a P1) (e : asB a = some k) (h1 : k = true → XE P1 mb b P2) (h2 : k = false → b = .bl false ∧ P2 = P1) : XE P (eAnd ma mb) b P2 := by
  cases k with
  | true => exact XE.andT h e (h1 rfl)
  | false => obtain ⟨rfl, rfl⟩ := h2 rfl; exact XE.andF h e
theorem XE.or_ (h : XE P ma a P1) (e : asB a = some k) (h1 : k = true → b = .bl true ∧ P2 = P1) (h2 : k = false → XE P1 mb b P2) : XE P (eOr ma mb) b P2 := by
  cases k with
  | false => exact XE.orF h e (h2 rfl)
  | true => obtain ⟨rfl, rfl⟩ := h1 rfl; exact XE.orT h e
theorem XE.chain_ {f g : D → D → Option D} (h1 : XE P ma a P1) (h2 : XE P1 mb b P2) (e1 : f a b = some d) (e2 : asB d = some k) (ht : k = true → ∃ c, XE P2 mc c P3 ∧ g b c = some e) (hf : k = false → e = .bl false ∧ P3 = P2) : XE P (eChain f g ma mb mc) e P3 := by
  cases k with
  | true => obtain ⟨c, h3, e3⟩ := ht rfl; exact XE.chT h1 h2 e1 e2 h3 e3
  | false => obtain ⟨rfl, rfl⟩ := hf rfl; exact XE.chF h1 h2 e1 e2
theorem XT.and_ (h : XT P tma k P1) (h1 : k = true → XT P1 tmb k' P2) (h2 : k = false → k' = false ∧ P2 = P1) : XT P (tAnd tma tmb) k' P2 := by
  cases k with
  | true => exact XT.andT h (h1 rfl)
  | false => obtain ⟨rfl, rfl⟩ := h2 rfl; exact XT.andF h
theorem XT.or_ (h : XT P tma k P1) (h1 : k = true → k' = true ∧ P2 = P1) (h2 : k = false → XT P1 tmb k' P2) : XT P (tOr tma tmb) k' P2 := by
  cases k with
  | false => exact XT.orF h (h2 rfl)
  | true => obtain ⟨rfl, rfl⟩ := h1 rfl; exact XT.orT h
theorem WS.retS (h : XE P ma a P1) (q : ∀ ρ, Mt P1 ρ → Q (.rt a ρ)) : WS P (sSeq (sRet ma) s2) Q := fun ρ m => by
  obtain ⟨ρ1, q1, m1⟩ := h ρ m
  exact ⟨.rt a ρ1, by simp [q1], q ρ1 m1⟩
theorem XC.if_ {vs : List Nat} {g : GM} {tt : TM} {el : EM} {P5 : List Pk} {z : List D} (h : XG P g d P1) (ht : XT P1 tt k P2) (h1 : k = true → ∃ x P3 P4, XE P2 el x P3 ∧ wipP vs P3 = some P4 ∧ Wk P4 P5 ∧ z = [x]) (h2 : k = false → ∃ P4, wipP vs P2 = some P4 ∧ Wk P4 P5 ∧ z = []) : XC P vs g tt el d z P5 := by
  cases k with
  | true => obtain ⟨x, P3, P4, he, hw, w, rfl⟩ := h1 rfl; exact XC.one h ht he hw w
  | false => obtain ⟨P4, hw, w, rfl⟩ := h2 rfl; exact XC.zero h ht hw w
end
end DL
namespace DL
open PySem
def isKG (T : String) (d : D) : Option Unit := if isK T d then some () else none
def isTG (T : String) (d : D) : Option Unit := if isT T d then some () else none
@[simp] theorem isKG_l (xs : List D) : isKG "list" (.lst xs) = some () := rfl
@[simp] theorem isTG_l (xs : List D) : isTG "list" (.lst xs) = some () := rfl
end DL
namespace DL
open PySem
theorem mkLst_0 : mkLst [] = some (.lst []) := if_pos (by simp only [List.length_cons, List.length_nil]; decide)
theorem mkTup_0 : mkTup [] = some (.tup []) := if_pos (by simp only [List.length_cons, List.length_nil]; decide)
theorem mkLst_1 (a : D) : mkLst [a] = some (.lst [a]) := if_pos (by simp only [List.length_cons, List.length_nil]; decide)
theorem mkTup_1 (a : D) : mkTup [a] = some (.tup [a]) := if_pos (by simp only [List.length_cons, List.length_nil]; decide)
theorem mkLst_2 (a b : D) : mkLst [a, b] = some (.lst [a, b]) := if_pos (by simp only [List.length_cons, List.length_nil]; decide)
theorem mkTup_2 (a b : D) : mkTup [a, b] = some (.tup [a, b]) := if_pos (by simp only [List.length_cons, List.length_nil]; decide)
theorem mkLst_3 (a b c : D) : mkLst [a, b, c] = some (.lst [a, b, c]) := if_pos (by simp only [List.length_cons, List.length_nil]; decide)
theorem mkTup_3 (a b c : D) : mkTup [a, b, c] = some (.tup [a, b, c]) := if_pos (by simp only [List.length_cons, List.length_nil]; decide)
theorem mkLst_4 (a b c d : D) : mkLst [a, b, c, d] = some (.lst [a, b, c, d]) := if_pos (by simp only [List.length_cons, List.length_nil]; decide)
theorem mkTup_4 (a b c d : D) : mkTup [a, b, c, d] = some (.tup [a, b, c, d]) := if_pos (by simp only [List.length_cons, List.length_nil]; decide)
theorem mkLst_5 (a b c d e : D) : mkLst [a, b, c, d, e] = some (.lst [a, b, c, d, e]) := if_pos (by simp only [List.length_cons, List.length_nil]; decide)
theorem mkTup_5 (a b c d e : D) : mkTup [a, b, c, d, e] = some (.tup [a, b, c, d, e]) := if_pos (by simp only [List.length_cons, List.length_nil]; decide)
theorem mkLst_6 (a b c d e f : D) : mkLst [a, b, c, d, e, f] = some (.lst [a, b, c, d, e, f]) := if_pos (by simp only [List.length_cons, List.length_nil]; decide)
theorem mkTup_6 (a b c d e f : D) : mkTup [a, b, c, d, e, f] = some (.tup [a, b, c, d, e, f]) := if_pos (by simp only [List.length_cons, List.length_nil]; decide)
theorem mkLst_7 (a b c d e f g : D) : mkLst [a, b, c, d, e, f, g] = some (.lst [a, b, c, d, e, f, g]) := if_pos (by simp only [List.length_cons, List.length_nil]; decide)
theorem mkTup_7 (a b c d e f g : D) : mkTup [a, b, c, d, e, f, g] = some (.tup [a, b, c, d, e, f, g]) := if_pos (by simp only [List.length_cons, List.length_nil]; decide)
theorem mkLst_8 (a b c d e f g h : D) : mkLst [a, b, c, d, e, f, g, h] = some (.lst [a, b, c, d, e, f, g, h]) := if_pos (by simp only [List.length_cons, List.length_nil]; decide)
theorem mkTup_8 (a b c d e f g h : D) : mkTup [a, b, c, d, e, f, g, h] = some (.tup [a, b, c, d, e, f, g, h]) := if_pos (by simp only [List.length_cons, List.length_nil]; decide)
theorem mkLst_9 (a b c d e f g h i : D) : mkLst [a, b, c, d, e, f, g, h, i] = some (.lst [a, b, c, d, e, f, g, h, i]) := if_pos (by simp only [List.length_cons, List.length_nil]; decide)
theorem mkTup_9 (a b c d e f g h i : D) : mkTup [a, b, c, d, e, f, g, h, i] = some (.tup [a, b, c, d, e, f, g, h, i]) := if_pos (by simp only [List.length_cons, List.length_nil]; decide)
theorem mkLst_10 (a b c d e f g h i j : D) : mkLst [a, b, c, d, e, f, g, h, i, j] = some (.lst [a, b, c, d, e, f, g, h, i, j]) := if_pos (by simp only [List.length_cons, List.length_nil]; decide)
theorem mkTup_10 (a b c d e f g h i j : D) : mkTup [a, b, c, d, e, f, g, h, i, j] = some (.tup [a, b, c, d, e, f, g, h, i, j]) := if_pos (by simp only [List.length_cons, List.length_nil]; decide)
theorem mkLst_11 (a b c d e f g h i j k : D) : mkLst [a, b, c, d, e, f, g, h, i, j, k] = some (.lst [a, b, c, d, e, f, g, h, i, j, k]) := if_pos (by simp only [List.length_cons, List.length_nil]; decide)
theorem mkTup_11 (a b c d e f g h i j k : D) : mkTup [a, b, c, d, e, f, g, h, i, j, k] = some (.tup [a, b, c, d, e, f, g, h, i, j, k]) := if_pos (by simp only [List.length_cons, List.length_nil]; decide)
theorem mkLst_12 (a b c d e f g h i j k l : D) : mkLst [a, b, c, d, e, f, g, h, i, j, k, l] = some (.lst [a, b, c, d, e, f, g, h, i, j, k, l]) := if_pos (by simp only [List.length_cons, List.length_nil]; decide)
theorem mkTup_12 (a b c d e f g h i j k l : D) : mkTup [a, b, c, d, e, f, g, h, i, j, k, l] = some (.tup [a, b, c, d, e, f, g, h, i, j, k, l]) := if_pos (by simp only [List.length_cons, List.length_nil]; decide)
theorem mkLst_13 (a b c d e f g h i j k l m : D) : mkLst [a, b, c, d, e, f, g, h, i, j, k, l, m] = some (.lst [a, b, c, d, e, f, g, h, i, j, k, l, m]) := if_pos (by simp only [List.length_cons, List.length_nil]; decide)
theorem mkTup_13 (a b c d e f g h i j k l m : D) : mkTup [a, b, c, d, e, f, g, h, i, j, k, l, m] = some (.tup [a, b, c, d, e, f, g, h, i, j, k, l, m]) := if_pos (by simp only [List.length_cons, List.length_nil]; decide)
theorem mkLst_14 (a b c d e f g h i j k l m n : D) : mkLst [a, b, c, d, e, f, g, h, i, j, k, l, m, n] = some (.lst [a, b, c, d, e, f, g, h, i, j, k, l, m, n]) := if_pos (by simp only [List.length_cons, List.length_nil]; decide)
theorem mkTup_14 (a b c d e f g h i j k l m n : D) : mkTup [a, b, c, d, e, f, g, h, i, j, k, l, m, n] = some (.tup [a, b, c, d, e, f, g, h, i, j, k, l, m, n]) := if_pos (by simp only [List.length_cons, List.length_nil]; decide)
theorem mkLst_15 (a b c d e f g h i j k l m n o : D) : mkLst [a, b, c, d, e, f, g, h, i, j, k, l, m, n, o] = some (.lst [a, b, c, d, e, f, g, h, i, j, k, l, m, n, o]) := if_pos (by simp only [List.length_cons, List.length_nil]; decide)
theorem mkTup_15 (a b c d e f g h i j k l m n o : D) : mkTup [a, b, c, d, e, f, g, h, i, j, k, l, m, n, o] = some (.tup [a, b, c, d, e, f, g, h, i, j, k, l, m, n, o]) := if_pos (by simp only [List.length_cons, List.length_nil]; decide)
theorem mkLst_16 (a b c d e f g h i j k l m n o p : D) : mkLst [a, b, c, d, e, f, g, h, i, j, k, l, m, n, o, p] = some (.lst [a, b, c, d, e, f, g, h, i, j, k, l, m, n, o, p]) := if_pos (by simp only [List.length_cons, List.length_nil]; decide)
theorem mkTup_16 (a b c d e f g h i j k l m n o p : D) : mkTup [a, b, c, d, e, f, g, h, i, j, k, l, m, n, o, p] = some (.tup [a, b, c, d, e, f, g, h, i, j, k, l, m, n, o, p]) := if_pos (by simp only [List.length_cons, List.length_nil]; decide)
end DL
namespace DL
open PySem
section
variable {P P1 P2 P3 P4 P' Pw : List Pk} {m ma mb mc : EM} {d a b c e : D} {Q : Out → Prop} {i j l : Nat} {k : Bool}
end
end DL
namespace DL
open PySem
section
variable {P P1 P2 P3 P4 P' Pw : List Pk} {m ma mb mc md : EM} {d a b c e : D} {Q : Out → Prop} {i j l : Nat} {k : Bool}
end
end DL
namespace DL
open PySem
end DL
namespace DL
open PySem
end DL
namespace DL
open PySem
theorem Mt.length : ∀ {P : List Pk} {ρ : Env}, Mt P ρ → ρ.length = P.length
  | [], [], _ => rfl
  | _ :: P, _ :: ρ, h => by rw [List.length_cons, List.length_cons, Mt.length h.2]
  | [], _ :: _, h => h.elim
  | _ :: _, [], h => h.elim
end DL
namespace DL
open PySem
end DL
namespace DL
open PySem
variable {P P1 : List Pk} {ma : EM} {a b : D} {i : Nat}
@[simp] theorem isKG_dT (xs : List (List Int × D)) : isKG "dict" (.dT xs) = some () := rfl
@[simp] theorem isKG_dK (xs : List (L2.Key × D)) : isKG "dict" (.dK xs) = some () := rfl
end DL
namespace DL
open PySem
def XN (P : List Pk) (m : NM) (d : List (D × Bool)) (P' : List Pk) : Prop := ∀ ρ, Mt P ρ → ∃ ρ', m ρ = some (d, ρ') ∧ Mt P' ρ'
def WO (P : List Pk) (ps : List (D × Bool)) (mo : List (D × Bool) → SM) (Q : Out → Prop) : Prop := ∀ ρ, Mt P ρ → ∃ o, mo ps ρ = some o ∧ Q o
section
variable {P P1 P2 P3 : List Pk} {m me : EM} {nm : NM} {ps : List (D × Bool)} {d : D} {ds : List D} {z : D × D} {b k : Bool} {am : AM} {as : List Arg} {mc : TM} {mo : List (D × Bool) → SM} {Q : Out → Prop} {i x : Nat} {m0 : SM} {f : D → List D → Option (D × D)}
theorem XN.nil : XN P nNil [] P := fun ρ h => ⟨ρ, rfl, h⟩
theorem XN.cons (h : XE P m d P1) (g : XN P1 nm ps P2) : XN P (nCons b m nm) ((d, b) :: ps) P2 := fun ρ mt => by
  obtain ⟨ρ1, h1, m1⟩ := h ρ mt
  obtain ⟨ρ2, h2, m2⟩ := g ρ1 m1
  exact ⟨ρ2, by unfold nCons; rw [h1]; simp only [Option.bind_some]; rw [h2]; rfl, m2⟩
theorem WO.fin (h : WS P m0 Q) : WO P ps (noEnd m0) Q := h
end
end DL
namespace DL
open PySem
section
variable {P P1 P2 P3 Pw : List Pk} {ma mb mo ek ev el : EM} {a b c d z x v : D} {i : Nat} {it : IM} {g : GM} {tt : TM} {ds zs : List D} {vs : List Nat} {k : L2.Key}
theorem XE.kv (h : XE P ek x P1) (h2 : XE P1 ev v P2) (e : keyK x = some k) : XE P (kvE ek ev) (.tup [x, v]) P2 := fun ρ m => by
  obtain ⟨ρ1, e1, m1⟩ := h ρ m
  obtain ⟨ρ2, e2, m2⟩ := h2 ρ1 m1
  exact ⟨ρ2, by simp only [kvE, e1, Option.bind_some, e2, e, Option.map_some], m2⟩
def isDctG (d : D) : Option Unit := if isDct d = true then some () else none
@[simp] theorem isDctG_dT (xs : List (List Int × D)) : isDctG (.dT xs) = some () := rfl
@[simp] theorem isDctG_dK (xs : List (L2.Key × D)) : isDctG (.dK xs) = some () := rfl
end
end DL
namespace DL
open PySem
def unS3 : D → Option (D × D × D)
  | .tup [a, b, c] => some (a, b, c)
  | .lst [a, b, c] => some (a, b, c)
  | _ => none
@[simp] theorem unS3_t (a b c : D) : unS3 (.tup [a, b, c]) = some (a, b, c) := rfl
@[simp] theorem unS3_l (a b c : D) : unS3 (.lst [a, b, c]) = some (a, b, c) := rfl
theorem XG.ts {P P' : List Pk} {r : List D → Env → Option Env} {d a b c : D} (h : XGs P r [a, b, c] P') (e : d = .tup [a, b, c] ∨ d = .lst [a, b, c]) : XG P (gTS r) d P' := fun ρ m => by
  rcases e with rfl | rfl <;> exact h ρ m
end DL
namespace DL
open PySem
def keysG : D → Option (List D)
  | .dT kvs => if kvs.length ≤ 1000000 ∧ (kvs.all fun kv => decide (kv.1.length ≤ 1000000)) = true then some (keysT kvs) else none
  | _ => none
theorem XI.keys {P P1 : List Pk} {ma : EM} {a : D} {ds : List D} (h : XE P ma a P1) (e : keysG a = some ds) : XI P (iKeysD ma) ds P1 := fun ρ m => by
  obtain ⟨ρ1, q1, m1⟩ := h ρ m
  refine ⟨ρ1, ?_, m1⟩
  unfold iKeysD
  rw [q1, Option.bind_some]
  cases a with
  | dT kvs =>
    unfold keysG at e
    simp only at e ⊢
    split at e
    · rename_i hc
      rw [if_pos hc]; cases e; rfl
    · cases e
  | _ => cases e
end DL
namespace DL
open PySem L2
/-- of depth k at most, of weight m at most -/
def Tl (k m : Nat) (d : D) : Prop := ∃ p, pyD d = some p ∧ p.showable = true ∧ p.hasDict = false ∧ p.depth ≤ k ∧ p.leavesShort 13 = true ∧ p.weight ≤ m
theorem log2_lt {n : Nat} (h : n < 10 ^ 13) : n.log2 < 44 := by
  by_cases z : n = 0
  · subst z; decide
  · rw [Nat.log2_lt z]; omega
theorem Tl.mono {k m k' m' : Nat} {d : D} (h : Tl k m d) (a : k ≤ k') (b : m ≤ m') : Tl k' m' d := by
  obtain ⟨p, a1, a2, a3, a4, a5, a6⟩ := h
  exact ⟨p, a1, a2, a3, by omega, a5, by omega⟩
end DL
namespace DL
open PySem
section
variable {P P1 P2 P3 : List Pk} {ma mo : EM} {am : AM} {a b d d0 d1 z : D} {ds : List D} {as : List Arg} {i : Nat} {C f m : Str}
/-- the object that was made -/
def newG : D × D → Option D
  | (.non, d) => some d
  | _ => none
theorem newG_e {r : D × D} (h : newG r = some d) : r = (.non, d) := by
  obtain ⟨x, y⟩ := r
  cases x <;> cases h
  rfl
theorem XE.make {fn : FnSem} {rest : List Sl} {r : D × D} (h : XA P am as P1) (hv : vals as = some ds) (hf : fn (.p (.obj C []) :: ds.map .v) = some (r.1, .p r.2 :: rest)) (e : newG r = some d) : XE P (eMake C fn am) d P1 := fun ρ m => by
  obtain ⟨ρ1, h1, m1⟩ := h ρ m
  refine ⟨ρ1, ?_, m1⟩
  have := newG_e e
  subst this
  unfold eMake
  rw [h1, Option.bind_some]
  simp only [hv, Option.bind_some, hf]
end
end DL
namespace DL
open PySem L2
variable [TabC]
omit [TabC] in
def slv (σ : L2.St) (l : List (Nat × V)) : L2.St := l.foldl (fun s p => s.set p.1 (some p.2)) σ
omit [TabC] in
abbrev AlM := Env → Option (List D)
omit [TabC] in
def alEnd (me : EM) : AlM := fun ρ => (me (ρ.map vwS)).bind fun p => (scL p.1).bind fun d => match d with
  | .lst ds => some ds
  | _ => none
omit [TabC] in
def alSet (i : Nat) (me : EM) (r : AlM) : AlM := fun ρ => (me (ρ.map vwS)).bind fun p => (putV i p.1 (ρ.map vwS)).bind r
/-- what comes behind: the list that is put to the end is new -/
def AlK (G : Gc) (σ : L2.St) (H : Hp) (ks : List Nat) (a : Addr) (ys : List D) (Q : L2.St → Hp → Prop) : Prop :=
  ∀ (l : List (Nat × V)) (H' : Hp) (b : Addr), l.map (·.1) = ks → Fm [] H H' → H b = none → (∃ vs, H' b = some (.lst vs) ∧ ys.length ≤ sizeLine ∧ ∀ W, RpAll G H' W ys vs) → TabsG H' → rExtendR (.ref a) [.ref b] H' fun _ H'' => Q (slv σ l) H''
structure DAl (X : Cx) (k : Nat) (ks : List Nat) (st : List Stmt) (t : TS) (m : AlM) : Prop where
  pe : PSs X st t
  q : ∀ (Γ : Gam) (σ : L2.St) (H : Hp) (ρ : Env) (ys : List D) (E : Ends) (a : Addr), Sr Γ X.G H σ ρ → m ρ = some ys → σ[k]? = some (some (.ref a)) → (∃ vs, H a = some (.lst vs)) → AlK X.G σ H ks a ys E.nx → t E σ H
section
variable {X : Cx} {e a b c : Expr} {es : List Expr} {te te1 te2 : TE} {m me : EM} {mc : TM} {tc : TT} {st : Stmt} {sts : List Stmt} {t : TS} {r : AlM} {k i j : Nat} {ks : List Nat} {x y xa xb name : Str} {p pos py pa pb apos cpos spos : Pos}
end
section
variable {X : Cx} {e : Expr} {lo hi : Option Expr} {pos p2 : Pos} {m : EM} {te : TE} {ml mh : OM} {tl th : TO}
end
section
variable {X : Cx}
end
end DL
namespace DL
open PySem
def XL (P : List Pk) (r : AlM) (ys : List D) : Prop := ∀ ρ, Mt P ρ → r ρ = some ys
section
variable {P P1 P2 P3 : List Pk} {m me : EM} {mc : TM} {a b y side z u a' b' : D} {ys : List D} {c : Bool} {r : AlM} {i j k n : Nat} {ks : List Nat} {lo hi : Option Int} {ml mh : OM}
theorem XL.end (h : XE (P.map vwP) me a P1) (e : scL a = some y) (e2 : unL y = some ys) : XL P (alEnd me) ys := fun ρ mt => by
  obtain ⟨ρ1, h1, _⟩ := h _ mt.vw
  unfold alEnd
  rw [h1, Option.bind_some, e, Option.bind_some]
  obtain ⟨ds, q1, rfl, _⟩ := scL_e e
  cases e2
  rfl
theorem XL.set (h : XE (P.map vwP) me a P1) (c : canV (P.map vwP)[n]? = true) (g : XL ((P.map vwP).set n (.v a)) r ys) : XL P (alSet n me r) ys := fun ρ mt => by
  obtain ⟨ρ1, h1, _⟩ := h _ mt.vw
  unfold alSet
  rw [h1, Option.bind_some, putV_ok mt.vw c, Option.bind_some]
  exact g _ (mt.vw.set rfl)
end
end DL
namespace DL
open PySem PySem.Spec PyProof.Rows L2
variable [TabC]
section
variable {X : Cx}
end
variable {X : Cx}
end DL
namespace DL
open PySem PySem.Spec PyProof.Rows L2
variable [TabC]
section
variable {prog : Program} {w : World} {A : Around} {E : Value → Shared → Prop} {s : Shared}
end
section
variable {X : Cx}
end
section
variable {X : Cx} {e : Expr} {te : TE} {m : EM} {pos : Pos}
end
end DL
namespace DL
open PySem L2
variable [TabC]
section
variable {X : Cx} {pos q1 q2 q3 q4 : Pos} {j1 j2 j3 j4 : Nat}
end
end DL
namespace DL
open PySem L2
variable [TabC]
section
variable {X : Cx}
end
section
variable {X : Cx} {o oi yi : Expr} {to ti tY : TE} {mo mi my : EM} {apos cpos : Pos}
end
end DL
namespace DL
open PySem
def unS2 : D → Option (D × D)
  | .tup [a, b] => some (a, b)
  | .lst [a, b] => some (a, b)
  | _ => none
@[simp] theorem unS2_t (a b : D) : unS2 (.tup [a, b]) = some (a, b) := rfl
@[simp] theorem unS2_l (a b : D) : unS2 (.lst [a, b]) = some (a, b) := rfl
section
variable {P P1 P2 P3 : List Pk} {mo ma my : EM} {d a b z : D}
end
end DL
namespace DL
open PySem PyProof.Rows L2
variable [TabC]
section
variable {X : Cx} {o e f : Expr} {apos cpos : Pos} {td ty tx : TE}
end
section
variable {X : Cx} {e oi o yi : Expr} {ti tY to : TE} {mi my mo : EM} {apos cpos p : Pos} {nx : Str}
end
end DL
namespace PySem.W
open PySem PySem.Calls PyProof.Rows PySem.SeqAt
section
variable {A : Around} {s : Shared}
theorem call_tuple_lt {prog : Program} {w : World} {E : Value → Shared → Prop} {Q : Value → Shared → Prop} {l b : Addr} {items items2 : Array Value} {e r : Nat → Bool} (hl : s.heap.IsTuple l items) (hb : s.heap.IsTuple b items2)
    (he : ∀ j (h1 : j < items.size) (h2 : j < items2.size), EqAt A.in1 s items[j] items2[j] (e j)) (hr : ∀ j (h1 : j < items.size) (h2 : j < items2.size), e j = false → RcLt A.in1 s items[j] items2[j] (r j))
    (h : Q (.bool (firstLt e r (decide (items.size < items2.size)) (List.range (min items.size items2.size)))) s) : wpAny (model prog w) A (call (.builtin "tuple.__lt__") [.ref l, .ref b]) Q E s := by
  obtain ⟨⟨cls, dd, data, sl⟩, ho, hc, n, hd⟩ := id hl
  obtain ⟨⟨cls2, dd2, data2, sl2⟩, ho2, hc2, n2, hd2⟩ := id hb
  simp only at hc hd hc2 hd2
  subst hc hd hc2 hd2
  exact call_meets F.slot_tuple_lt ⟨_, ho, rfl⟩ F.entry_tuple_lt (F.args_tuple_lt_2 _ _) (tuple_ltAt l b items items2 n n2 dd dd2 sl sl2 e r) ⟨ho, ho2, he, hr, h⟩
end
section
variable {prog : Program} {w : World} {A : Around} {E : Value → Shared → Prop} {s : Shared}
theorem oneLt_tuples {f : Bool} {xs ys : List PyData} {a b : Value} {as bs : List Addr} {Q : Bool → Shared → Prop} (ra : Reads s.heap a (.tuple xs) as) (rb : Reads s.heap b (.tuple ys) bs) (h : alike (.tuple xs) (.tuple ys) = true)
    (hu : A.units + min (PyData.tuple xs).depth (PyData.tuple ys).depth < cLine) (hq : Q (dataLt (.tuple xs) (.tuple ys)) s) : wpAny (model prog w) A (oneLt' f a b) Q E s := by
  cases f with
  | false => exact oneLt_alike (f := false) (fun z => nomatch z) ra rb h (fun z => nomatch z) hu hq
  | true =>
    have hal : alikeAll xs ys = true := by simpa [alike] using h
    cases ra with
    | @tuple l o vs n _ as₁ h1 h2 h3 h4 =>
      cases rb with
      | @tuple l' o' vs' n' _ bs₁ k1 k2 k3 k4 =>
        have n1 : vs.size = xs.length := by simpa using ReadsAll.length _ _ _ h4
        have n2 : vs'.size = ys.length := by simpa using ReadsAll.length _ _ _ k4
        rw [dataLt_tuple, ← firstLt_toks xs ys hal, ← n1, ← n2] at hq
        rw [oneLt'_eq]
        simp only [if_true]
        refine wpAny_bind (wpAny_cRoomFor (room_here hu) ?_)
        refine wpAny_bind (wpAny_callSpecialIfBound?_slot (T := "tuple") ⟨_, h1, h2⟩ F.slot_tuple_lt (call_tuple_lt (e := pairEq xs ys) (r := fun j => dataLt (xs.getD j .none) (ys.getD j .none)) ⟨_, h1, h2, _, h3⟩ ⟨_, k1, k2, _, k3⟩ (fun j j1 j2 => ?_) (fun j j1 j2 hj => ?_) ?_))
        · have := eqAt_alikeAll xs ys A.in1 s vs.toList vs'.toList _ _ h4 k4 hal (room_in hu) j (by simpa using j1) (by simpa using j2)
          simpa using this
        · have := rcLt_alikeAll xs ys A.in1 s vs.toList vs'.toList _ _ h4 k4 hal (room_in hu) j (by simpa using j1) (by simpa using j2) hj
          simpa using this
        · exact wpAny_truthy_bool hq
end
def nonE : PyData → Bool
  | .tuple (_ :: _) => true
  | _ => false
section
variable {M : Model} {A : Around} {E : Value → Shared → Prop} {s : Shared}
theorem firsts_any : ∀ {vs : List Value} {ds : List PyData}, EachIs (fun v d => ∃ as, Reads s.heap v d as) vs ds → (∀ d, d ∈ ds → ∃ xs, d = .tuple xs) →
    ∃ os : List (Option Value), EachIs (fun (o : Option Value) d => o.isSome = nonE d) os ds ∧ ∀ {Q : List (Option Value) → Shared → Prop}, Q os s → wpAny M A (vs.mapM firstOfTuple') Q E s
  | _, _, .nil, _ => ⟨[], .nil, fun h => by rw [List.mapM_nil]; exact wpAny_pure h⟩
  | _, _, .cons (b := d) ⟨as, r⟩ t, ht => by
    obtain ⟨os, h1, h2⟩ := firsts_any t fun d hd => ht d (List.mem_cons_of_mem _ hd)
    obtain ⟨xs, rfl⟩ := ht d (List.mem_cons_self ..)
    cases r with
    | @tuple a o vs n _ _ ho hc hd hr =>
      refine ⟨vs[0]? :: os, .cons ?_ h1, fun {Q} h => ?_⟩
      · cases xs with
        | nil =>
          have : vs.toList = [] := by cases q : vs.toList with
            | nil => rfl
            | cons v r => rw [q] at hr; cases hr
          rw [← Array.getElem?_toList, this]; rfl
        | cons x xr =>
          cases q : vs.toList with
          | nil => rw [q] at hr; cases hr
          | cons v r => rw [← Array.getElem?_toList, q]; rfl
      · rw [List.mapM_cons]
        refine wpAny_bind ?_
        rw [kas_first_eq]
        refine wpAny_bind (Looks.here (show Looks M s.heap (typeOf (.ref a)) o.cls from (Looks.ld ho).andThen .now) ?_)
        rw [hc, if_neg (by first | decide | simp)]
        refine wpAny_bind (listItems_at ho hd (wpAny_pure ?_))
        exact wpAny_bind (h2 (Q := fun bs s' => wpAny M A (pure (vs[0]? :: bs)) Q E s') (wpAny_pure h))
end
section
variable {prog : Program} {w : World} {A : Around} {s : Shared}
/-- tuples, maybe empty ones, can be sorted -/
theorem SortsAt.tuples {vs : List Value} {ds : List PyData} (e : EachIs (fun v d => ∃ as, Reads s.heap v d as) vs ds) (hal : AllAlike ds) (ht : ∀ d, d ∈ ds → ∃ xs, d = .tuple xs) (hu : ∀ d, d ∈ ds → A.units + d.depth < cLine) : SortsAt prog w A s (dataKind s.heap ds) vs := by
  by_cases hne : ∀ d, d ∈ ds → nonE d = true
  · refine SortsAt.data e hal (.inl fun d hd => ?_) hu
    obtain ⟨xs, rfl⟩ := ht d hd
    have := hne _ hd
    cases xs with
    | nil => cases this
    | cons x r => exact ⟨x, r, rfl⟩
  · have lt : ∀ kd : SortKind, (∀ x y, ∃ f, keyLt' kd x y = oneLt' f x y) → H.LtAt prog w A s (dataKind s.heap ds) kd := by
      intro kd hk E x y a b Q ha hb hq
      obtain ⟨d, as, hd, ra, rfl⟩ := dataKind_inv ha
      obtain ⟨d', as', hd', rb, rfl⟩ := dataKind_inv hb
      have hdd := hal d hd d' hd'
      have room : A.units + min d.depth d'.depth < cLine := Nat.lt_of_le_of_lt (Nat.add_le_add_left (Nat.min_le_left _ _) _) (hu d hd)
      obtain ⟨xs, rfl⟩ := ht d hd
      obtain ⟨ys, rfl⟩ := ht d' hd'
      obtain ⟨f, ef⟩ := hk x y
      rw [ef]
      exact oneLt_tuples ra rb hdd room hq
    refine ⟨fun v hv => ?_, ?_⟩
    · obtain ⟨d, hd, as, r⟩ := e.left v hv
      exact ⟨_, dataKind_some hal hd r⟩
    · cases ds with
      | nil => exact absurd (fun d hd => absurd hd (by simp)) hne
      | cons d₀ ds₀ =>
        have na : ∀ os : List (Option Value), EachIs (fun (o : Option Value) d => o.isSome = nonE d) os (d₀ :: ds₀) → ¬ ((os.toArray.all fun x => x.isSome) = true) := fun os h z => hne fun d hd => by
          have z : os.all (fun x => x.isSome) = true := by simpa using z
          have key : ∀ {os : List (Option Value)} {ds : List PyData}, EachIs (fun (o : Option Value) d => o.isSome = nonE d) os ds → os.all (fun x => x.isSome) = true → ∀ d ∈ ds, nonE d = true := by
            intro os ds h
            induction h with
            | nil => intro _ d hd; cases hd
            | cons h1 t ih =>
              intro z d hd
              rw [List.all_cons, Bool.and_eq_true] at z
              rcases List.mem_cons.mp hd with rfl | hd
              · rw [← h1]; exact z.1
              · exact ih z.2 d hd
          exact key h z d hd
        refine ⟨if nonE d₀ = true then general' else oneType', ?_, fun h2 E Q hq => ?_⟩
        · split
          · exact lt _ fun x y => ⟨false, rfl⟩
          · exact lt _ fun x y => ⟨true, rfl⟩
        · obtain ⟨os, h1, h3⟩ := firsts_any (M := model prog w) (A := A) (E := E) e ht
          have nal := na os h1
          rw [kat_kind_eq, List.mapM_toArray, map_eq_pure_bind]
          refine wpAny_bind (wpAny_bind (h3 (wpAny_pure ?_)))
          rw [if_neg nal]
          cases h1 with
          | @cons o _ os' _ ho t =>
            have e0 : (((o :: os').toArray[0]?).bind id).isSome = nonE d₀ := by simpa using ho
            by_cases q : nonE d₀ = true
            · rw [if_pos q] at hq
              rw [if_pos (by rw [e0]; exact q)]
              exact wpAny_pure hq
            · rw [if_neg q] at hq
              rw [if_neg (by rw [e0]; exact q)]
              rw [oneTypeOnly'_eq, List.mapM_toArray, map_eq_pure_bind]
              refine wpAny_bind (wpAny_bind (wpAny_bind (kas_mapM (r := Value.type "tuple") _ (fun v hv Q' hq => ?_) (wpAny_pure ?_))))
              · obtain ⟨d, hd, as, r⟩ := e.left v hv
                obtain ⟨xs, rfl⟩ := ht d hd
                exact (show Looks (model prog w) s.heap (typeOf v) (Value.type "tuple") from looks_reads r).here hq
              · obtain ⟨v₁, rest, rfl⟩ : ∃ v₁ rest, vs = v₁ :: rest := by
                  cases e with
                  | cons h t => exact ⟨_, _, rfl⟩
                have hall : ((List.map (fun _ => Value.type "tuple") (v₁ :: rest)).toArray.all fun x => x == Value.type "tuple") = true := by
                  simp only [List.all_toArray, List.all_map, List.all_eq_true]
                  intro _ _
                  rfl
                have h0 : (List.map (fun _ => Value.type "tuple") (v₁ :: rest)).toArray[0]? = some (Value.type "tuple") := by simp
                rw [h0]
                simp only [hall, if_true]
                exact wpAny_pure (wpAny_pure hq)
end
section
variable {prog : Program} {w : World} {A : Around} {E : Value → Shared → Prop} {s : Shared} {T : String} {r d : Addr} {n : Nat} {P : Nat → Value → Prop} {OK : Heap → Prop}
end
end PySem.W
namespace DL
open PySem PySem.Spec PySem.W PySem.Calls PyProof.Rows L2
variable [TabC]
section
variable {X : Cx}
end
end DL
namespace DL
open PySem
section
variable {P P1 P2 P3 : List Pk} {ma mb mo my : EM} {a b c d z : D} {i : Nat}
end
end DL
namespace DL
open PySem PyProof.Rows L2
variable [TabC]
section
variable {X : Cx} {e f : Expr} {apos cpos p : Pos} {ty tx : TE} {nx : Str} {kvs : List (Str × Int)}
end
section
variable {X : Cx} {oi yi : Expr} {ti tY : TE} {mi my : EM} {apos cpos p : Pos} {nx : Str} {kvs : List (Str × Int)}
end
section
variable {X : Cx} {pos q1 q2 q3 q4 q5 q6 : Pos} {j1 j2 j3 j4 j5 j6 : Nat}
end
section
end
end DL
namespace DL
open PySem
section
variable {P P1 P2 : List Pk} {mi my : EM} {a b z : D} {kvs : List (Str × Int)}
end
end DL
namespace DL
open PySem PyProof.Rows L2
variable [TabC]
section
variable {X : Cx} {e : Expr} {pos : Pos} {te : TE} {me : EM}
end
end DL
namespace DL
open PySem
end DL
namespace DL
open PySem PyProof.Rows L2
theorem XE.wk {P Q R : List Pk} {m : EM} {d : D} (h : XE P m d Q) (w : Wk Q R) : XE P m d R := fun ρ hm =>
  let ⟨ρ', e, q⟩ := h ρ hm
  ⟨ρ', e, q.wk w⟩
end DL
namespace DL
open PySem PySem.Spec PyProof.Rows L2
variable [TabC]
omit [TabC] in
/-- no repr is under way -/
abbrev Still (A : Around) : Prop := A.guards = some []
omit [TabC] in
/-- a def's promise, where no repr is under way -/
structure FnG (P : Program) (w : World) (K : PySem.W.Frag) (mg : Str → Option Value) (base : Heap) (k : Nat) (f : Addr) (fd : FuncData) (ps : List Str) (sp : Sp) : Prop where
  len : ∀ vs H Q E, sp vs H Q E → vs.length = ps.length
  run : ∀ (A : Around) (outer : List PySem.Env) (s : Shared) (H : Hp) (args : Args) (us : List Value) (vs : List V) (Q : VK) (E : XK), Still A → Room k A → Env0 P w K mg base A outer s H → BindsTo s fd args (ps.zip us) → Vals vs us → sp vs H Q E →
    codeAny (model P w) A (.call (.ref f) args) (CR CX0 outer P w H s Q E) s
omit [TabC] in
theorem FnG.mono {P : Program} {w : World} {K : PySem.W.Frag} {mg : Str → Option Value} {base : Heap} {j k : Nat} {f : Addr} {fd : FuncData} {ps : List Str} {sp : Sp} (F : FnG P w K mg base j f fd ps sp) (h : j ≤ k) : FnG P w K mg base k f fd ps sp :=
  ⟨F.len, fun A outer s H args us vs Q E hg hr => F.run A outer s H args us vs Q E hg (hr.mono h)⟩
section
variable {P : Program} {w : World} {K : PySem.W.Frag} {mg : Str → Option Value} {base : Heap} {x qual : Str} {params : Arguments} {body : List Stmt} {scope : Scope} {kws : List (Str × V)} {f : Addr} {fd : FuncData}
omit [TabC] in
/-- how a parameter may be held -/
theorem par_kind {N ps : List Str} {n : Nat} {us : List Value} (S : FnScope N ps scope) : ∀ y ∈ ps.zip us, scope.names.lookup y.1 = some .local ∨ (scope.names.lookup y.1 = some .cell ∧ ((cellsFrom n scope.names []).lookup y.1).isSome = true) := by
  rintro ⟨m, v⟩ hy
  refine (S.par m (List.of_mem_zip hy).1).imp id fun q => ⟨q, ?_⟩
  exact PySem.W.cellsFrom_some _ _ _ (.inl q)
omit [TabC] in
/-- a body's end is the call's end -/
theorem body_end {N : List Str} {cdv : Value} {A : Around} {outer : List PySem.Env} {s s' : Shared} {H : Hp} {Q : VK} {E : XK} {σ' : L2.St} {H' : Hp} {v : V} {u : Value} (J : Inv (cxOf CX0 P w K mg base N qual scope f cdv A outer s H E) [] σ' H' s') (rv : RelV v u) (q : Q v H') : CE outer P w H s Q u s' :=
  ⟨v, H', J.os, J.bare, J.base, J.hok, rv, q⟩
omit [TabC] in
/-- a def's promise by its body -/
theorem FnG.of {N ps : List Str} {k : Nat} {sp : Sp} (F : FunD K x qual params body scope [] kws f fd) (S : FnScope N ps scope) (len : ∀ vs H Q E, sp vs H Q E → vs.length = ps.length)
    (hb : ∀ (cdv : Value) (A : Around) (outer : List PySem.Env) (s : Shared) (H : Hp) (vs : List V) (Q : VK) (E : XK), Still A → Room k (A.deeper (envOfC qual scope s.heap.objs.size f cdv)) → sp vs H Q E →
      ∃ t, PSs (cxOf CX0 P w K mg base N qual scope f cdv A outer s H E) body t ∧ t { nx := fun _ H' => Q .non H', rt := Q } (L2.start N vs) H) : FnG P w K mg base (k + 1) f fd ps sp := by
  obtain ⟨oc, od, dV, kV, doc, pm, an, cdv, ct, osl, rfl, lk, hcd, _, _⟩ := F.ex
  constructor
  · exact len
  intro A outer s H args us vs Q E hg hr e0 bt rv hsp
  have old := fun b o e => (e0.bs b o e).1
  have inK := e0.mod.kin.keeps old
  apply codeAny_call_function hr.depth (inK _ _ lk) rfl S.co S.gen rfl (PySem.W.codeRec_of inK hcd) (bt _ _ _ _ _)
  apply wpAny_newFunctionEnv_cells S.kind (par_kind S)
  rintro env rfl s1 c
  refine ⟨(e0.mod.nolimit.keeps old).keeps c.toInCall.keep, codeAny_func ?_⟩
  have ⟨t, dt, q⟩ := hb cdv A outer s H vs Q E hg (hr.deeper _) hsp
  apply wpAny_mono (dt.run [] s1 _ H _ (inv_start S hr.hd e0 (len _ _ _ _ hsp) rv c) q) _ fun _ _ z => z
  rintro (_ | _ | _ | u) s2 z
  · obtain ⟨_, _, J, q⟩ := z
    exact body_end (v := V.non) (u := Value.none) J rfl q
  · exact z.choose_spec.choose_spec.2.elim
  · exact z.choose_spec.choose_spec.2.elim
  · obtain ⟨_, _, _, J, r, q⟩ := z
    exact body_end J r q
/-- a def behind the top -/
structure FnDG (P : Program) (w : World) (K : PySem.W.Frag) (mg : Str → Option Value) (base : Heap) (x : Str) (k : Nat) (ps : List Str) (fn : FnSem) : Prop where
  ex : ∃ (f : Addr) (fd : FuncData), mg x = some (.ref f) ∧ PySem.W.keepIn K (.ref f) = true ∧ Binds K fd ps [] ∧ FnG P w K mg base k f fd ps (spF ⟨K, mg⟩ fn)
end
end DL
namespace DL
open PySem PySem.Spec PyProof.Rows L2
variable [TabC]
section
variable {X : Cx} {k : Nat} {x : Str} {p pos : Pos} {e : Expr} {es : List Expr} {ps : List Str} {fn : FnSem} {at1 : TA} {am : AM}
end
section
variable {P : Program} {w : World} {K : PySem.W.Frag} {mg mb : Str → Option Value} {k : Nat} {fa a : Addr} {fd : FuncData} {x : Str} {sp : Sp} {s : Shared} {vs : List Value} {ns : List Int}
end
end DL
namespace DL
open PySem PySem.Spec PySem.W PyProof.Rows L2
variable [TabC]
end DL
namespace DL
open PySem PyProof.Rows L2
variable [TabC]
section
variable {X : Cx} {k : Nat}
end
end DL
namespace DL
open PySem PyProof.Rows L2
variable [TabC]
omit [TabC] in
def strF : List D → Option D
  | [.bl b] => some (.str (if b then "True" else "False"))
  | [.int i] => if i.natAbs.log2 < 1920 then some (.str (toString i)) else none
  | [.str x] => some (.str x)
  | _ => none
section
variable {X : Cx}
omit [TabC] in
def rStr : List V → Hp → VK → Prop := fun xs H Q => (∃ b, xs = [.bl b] ∧ Q (.str (if b then "True" else "False")) H) ∨
  (∃ i, xs = [.int i] ∧ i.natAbs.log2 < 1920 ∧ Q (.str (toString i)) H) ∨ ∃ x, xs = [.str x] ∧ Q (.str x) H
omit [TabC] in
theorem call_str1 : CallR X (.type "str") rStr := by
  intro pins s σ H xs us Q I r h
  rcases h with ⟨b, rfl, q⟩ | ⟨i, rfl, hz, q⟩ | ⟨x, rfl, q⟩
  · obtain ⟨u, rfl, e⟩ := vals1 r
    cases (show u = Value.bool b from e)
    exact PySem.P.str_of_bool ⟨.str _, H, I.tok _, ⟨_, by cases b <;> rfl⟩, q⟩
  · obtain ⟨u, rfl, t, rfl⟩ := vals1 r
    exact PySem.P.str_of_int hz ⟨.str _, H, I.tok _, ⟨_, rfl⟩, q⟩
  · obtain ⟨u, rfl, t, rfl⟩ := vals1 r
    exact PySem.P.str_of_str ⟨.str x, H, I, ⟨t, rfl⟩, q⟩
theorem cd_str : CallD X.G rStr strF := by
  intro H W xs ds z Q th r e q
  match ds, e with
  | [.int i], e =>
    obtain ⟨x, rfl, rfl⟩ := one_of r
    have e : (if i.natAbs.log2 < 1920 then some (D.str (toString i)) else none) = some z := e
    split at e
    · rename_i hz
      cases e
      exact .inr (.inl ⟨i, rfl, hz, q _ H (Fm.refl _ _) rfl⟩)
    · cases e
  | [.bl i], e =>
    cases e
    obtain ⟨x, rfl, rfl⟩ := one_of r
    exact .inl ⟨i, rfl, q _ H (Fm.refl _ _) rfl⟩
  | [.str i], e =>
    cases e
    obtain ⟨x, rfl, rfl⟩ := one_of r
    exact .inr (.inr ⟨i, rfl, q _ H (Fm.refl _ _) rfl⟩)
end
end DL
namespace DL
open PySem PyProof.Rows L2
variable [TabC]
section
variable {X : Cx}
end
section
variable {X : Cx} {k : Nat}
end
end DL
namespace DL
open PySem L2
variable [TabC]
omit [TabC] in
/-- an expression that is a constant, whatever stands -/
structure KE (X : Cx) (e : Expr) (t : TE) (v : V) : Prop where
  pe : PE X e t
  q : ∀ (σ : L2.St) (H : Hp) (Q : VK), Q v H → t σ H Q
omit [TabC] in
inductive KPs (X : Cx) (pos : Pos) : List (Option Expr) → List Expr → List (TE × TE) → List (Str × Int) → Prop
  | nil : KPs X pos [] [] [] []
  | cons {k v : Expr} {ks : List (Option Expr)} {vs : List Expr} {tk tv : TE} {trs : List (TE × TE)} {s : Str} {i : Int} {l : List (Str × Int)} (hk : KE X k tk (.str s)) (hv : KE X v tv (.int i)) (r : KPs X pos ks vs trs l) :
      KPs X pos (some k :: ks) (v :: vs) ((tk, tv) :: trs) ((s, i) :: l)
section
variable {X : Cx} {pos p : Pos} {j : Nat}
omit [TabC] in
theorem KPs.q {ks : List (Option Expr)} {vs : List Expr} {trs : List (TE × TE)} {l : List (Str × Int)} (h : KPs X pos ks vs trs l) : ∀ (σ : L2.St) (H : Hp) (Q : List (V × V) → Hp → Prop), Q (l.map fun p => (V.str p.1, V.int p.2)) H → tPairs trs σ H Q := by
  induction h with
  | nil => intro σ H Q h; exact h
  | cons hk hv _ ih =>
    intro σ H Q h
    exact hk.q σ H _ (hv.q σ H _ (ih σ H _ h))
omit [TabC] in
theorem KPs.len {ks : List (Option Expr)} {vs : List Expr} {trs : List (TE × TE)} {l : List (Str × Int)} (h : KPs X pos ks vs trs l) : ks.length = l.length ∧ vs.length = l.length ∧ ks.all (·.isSome) = true := by
  induction h with
  | nil => exact ⟨rfl, rfl, rfl⟩
  | cons hk hv _ ih => exact ⟨by simp [ih.1], by simp [ih.2.1], by simp [ih.2.2]⟩
end
section
variable {X : Cx} {pos : Pos} {ks : List (Option Expr)} {vs : List Expr} {trs : List (TE × TE)} {l : List (Str × Int)}
end
end DL
namespace DL
open PySem L2
variable [TabC]
omit [TabC] in
def Its (G : Gc) (H : Hp) (W : List Addr) : List D → List Addr → Prop
  | [], bs => bs = []
  | d :: ds, bs => ∃ b r, bs = b :: r ∧ Ow G H W d b ∧ Its G H W ds r
omit [TabC] in
theorem Its.length {G : Gc} {H : Hp} {W : List Addr} : ∀ {ds : List D} {bs : List Addr}, Its G H W ds bs → bs.length = ds.length
  | [], _, h => by rw [show _ = [] from h]; rfl
  | d :: ds, _, ⟨b, r, e, _, q⟩ => by rw [e, List.length_cons, List.length_cons, Its.length q]
theorem Its.mo {G : Gc} {H H' : Hp} {W W' : List Addr} (m : Mo W W' H H') : ∀ {ds : List D} {bs : List Addr}, (∀ b ∈ bs, ∀ x, H b = some x → (nt : isTb x = false) → H' b = some x) → Its G H W ds bs → Its G H' W' ds bs
  | [], _, _, h => h
  | d :: ds, _, k, ⟨b, r, e, o, q⟩ => by
    subst e
    exact ⟨b, r, rfl, o.mo m fun x z nt => k b List.mem_cons_self x z nt, Its.mo m (fun c hc => k c (List.mem_cons_of_mem _ hc)) q⟩
omit [TabC] in
theorem Its.app {G : Gc} {H : Hp} {W : List Addr} {d : D} {b : Addr} (o : Ow G H W d b) : ∀ {ds : List D} {bs : List Addr}, Its G H W ds bs → Its G H W (ds ++ [d]) (bs ++ [b])
  | [], _, h => by cases (show _ = [] from h); exact ⟨b, [], rfl, o, rfl⟩
  | e :: ds, _, ⟨c, r, e', o', q⟩ => by subst e'; exact ⟨c, r ++ [b], rfl, o', Its.app o q⟩
omit [TabC] in
theorem Its.at {G : Gc} {H : Hp} {W : List Addr} : ∀ {ds : List D} {bs : List Addr} {i : Nat} {d : D}, Its G H W ds bs → ds[i]? = some d → ∃ b, bs[i]? = some b ∧ Ow G H W d b
  | e :: ds, _, 0, d, ⟨c, r, e', o', q⟩, h => by subst e'; cases h; exact ⟨c, rfl, o'⟩
  | e :: ds, _, i + 1, d, ⟨c, r, e', o', q⟩, h => by subst e'; obtain ⟨b, h1, h2⟩ := Its.at (i := i) q (by simpa using h); exact ⟨b, by simpa using h1, h2⟩
/-- an item is changed -/
theorem Its.set {G : Gc} {H H' : Hp} {W W' : List Addr} (m : Mo W W' H H') {d : D} {b : Addr} (o : Ow G H' W' d b) : ∀ {ds : List D} {bs : List Addr} {i : Nat}, bs.Nodup → bs[i]? = some b → (∀ c ∈ bs, c ≠ b → ∀ x, H c = some x → (nt : isTb x = false) → H' c = some x) → Its G H W ds bs → Its G H' W' (ds.set i d) bs
  | [], _, i, _, h, _, q => by cases (show _ = [] from q); simp at h
  | e :: ds, _, 0, nd, h, k, ⟨c, r, e', o', q⟩ => by
    subst e'
    cases h
    have nd' := List.nodup_cons.mp nd
    exact ⟨b, r, rfl, o, q.mo m fun c hc x z nt => k c (List.mem_cons_of_mem _ hc) (fun z => nd'.1 (z ▸ hc)) x z nt⟩
  | e :: ds, _, i + 1, nd, h, k, ⟨c, r, e', o', q⟩ => by
    subst e'
    have nd' := List.nodup_cons.mp nd
    have h' : r[i]? = some b := by simpa using h
    refine ⟨c, r, rfl, o'.mo m fun x z nt => k c List.mem_cons_self (fun z => nd'.1 (z ▸ List.mem_of_getElem? h')) x z nt, Its.set m o nd'.2 h' (fun c hc => k c (List.mem_cons_of_mem _ hc)) q⟩
/-- as values, nothing kept away -/
theorem Its.rp {G : Gc} {H : Hp} {W W' : List Addr} (s : ∀ b ∈ W', b ∈ W) : ∀ {ds : List D} {bs : List Addr}, (∀ b ∈ bs, b ∉ W') → Its G H W ds bs → RpAll G H W' ds (bs.map V.ref)
  | [], _, _, h => by cases (show _ = [] from h); rfl
  | d :: ds, _, n, ⟨b, r, e, o, q⟩ => by
    subst e
    exact ⟨.ref b, r.map V.ref, rfl, o.rp (n b List.mem_cons_self) s, Its.rp s (fun c hc => n c (List.mem_cons_of_mem _ hc)) q⟩
/-- a list at D0 of objects at bs that nothing else knows of -/
structure NF (G : Gc) (H : Hp) (W : List Addr) (D0 : Addr) (bs : List Addr) (ds : List D) : Prop where
  l : H D0 = some (.lst (bs.map V.ref))
  nd : bs.Nodup
  n0 : D0 ∉ bs
  len : ds.length ≤ sizeLine
  it : Its G H W ds bs
section
variable {Γ : Gam} {G : Gc} {H H' H1 H2 : Hp} {σ σ' σ1 σ2 : L2.St} {ρ ρ' ρ1 ρ2 : Env} {vs : List Nat}
end
section
variable {X : Cx} {elt tg iter : Expr} {ifs : List Expr} {scope : Scope} {own : List (Str × Nat)} {pos : Pos} {wi : TI} {g : TG} {tt : TT} {te : TE} {is : List Nat} {it : IM} {gm : GM} {tm : TM} {el : EM}
end
end DL
namespace DL
open PySem L2
variable [TabC]
section
variable {Γ : Gam} {G : Gc} {H H' H1 H2 : Hp} {σ σ' σ1 σ2 : L2.St} {ρ ρ' ρ1 ρ2 : Env}
end
/-- slot x holds a new list of new objects -/
structure NS (Γ : Gam) (G : Gc) (σ : L2.St) (ρ : Env) (H : Hp) (x : Nat) (ds : List D) (D0 : Addr) (bs : List Addr) (σ' : L2.St) (ρ' : Env) (H' : Hp) : Prop where
  d0 : H D0 = none
  b0 : ∀ b ∈ bs, H b = none
  sr : Sr ⟨D0 :: (bs ++ Γ.U), Γ.π⟩ G H' σ' ρ'
  nf : NF G H' (ownO σ' ρ' ++ D0 :: (bs ++ Γ.U)) D0 bs ds
  fm : Fm (Γ.mu σ ρ) H H'
  nw : ∀ a ∈ ownO σ' ρ', a ∈ ownO σ ρ ∨ H a = none
  tr : Tr H H'
  sx : σ'[x]? = some (some (.ref D0))
structure DNS (X : Cx) (x : Nat) (sts : List Stmt) (t : TS) (m : Env → Option (List D × Env)) : Prop where
  pe : ∀ {rest : List Stmt} {t2 : TS}, PSs X rest t2 → PSs X (sts ++ rest) (tSeq t t2)
  q : ∀ (Γ : Gam) (σ : L2.St) (H : Hp) (ρ : Env) (ds : List D) (ρ' : Env) (E : Ends), Sr Γ X.G H σ ρ → m ρ = some (ds, ρ') → (∀ D0 bs σ' H', NS Γ X.G σ ρ H x ds D0 bs σ' ρ' H' → E.nx σ' H') → t E σ H
def tOfF (G : Gc) (m : EM) : TE := fun σ H Q => ∃ (Γ : Gam) (ρ : Env) (d : D) (ρ' : Env), Sr Γ G H σ ρ ∧ m ρ = some (d, ρ') ∧
  ∀ a H', H a = none → Sr ⟨a :: Γ.U, Γ.π⟩ G H' σ ρ' → Ow G H' (ownO σ ρ' ++ a :: Γ.U) d a → Fm (Γ.mu σ ρ) H H' → (∀ b ∈ ownO σ ρ', b ∈ ownO σ ρ) → Tr H H' → Q (.ref a) H'
theorem DF.can {X : Cx} {e : Expr} {t : TE} {m : EM} (h : DF X e t m) : DF X e (tOfF X.G m) m :=
  ⟨⟨fun pins s σ H Q I ⟨Γ, ρ, d, ρ', sr, hm, k⟩ => h.pe.run pins s σ H Q I (h.q Γ σ H ρ d ρ' Q sr hm k)⟩, fun Γ σ H ρ d ρ' Q sr hm k => ⟨Γ, ρ, d, ρ', sr, hm, k⟩⟩
section
variable {X : Cx} {elt tg iter : Expr} {ifs : List Expr} {scope : Scope} {own : List (Str × Nat)} {pos : Pos} {wi : TI} {is : List Nat} {it : IM} {gm : GM} {tm : TM} {el : EM}
end
section
variable {X : Cx} {iter e : Expr} {pos pos' p1 p2 p3 p4 p5 p6 lp cpos apos py : Pos} {wi : TI} {te : TE} {it : IM} {el : EM} {nx ni : Str}
end
section
variable {X : Cx} {e : Expr} {sts rest : List Stmt} {t1 t3 : TS} {te : TE} {mn : Env → Option (List D × Env)} {me : EM} {m3 : SM} {nx : Str} {p1 p2 p3 p4 p5 pos : Pos} {j1 j2 : Nat}
end
end DL
namespace DL
open PySem
def XF (P : List Pk) (i : Nat) (el : EM) (d z : D) (P' : List Pk) : Prop := ∀ ρ, Mt P ρ → ∃ ρ1 ρ2, putV i d ρ = some ρ1 ∧ el ρ1 = some (z, ρ2) ∧ Mt P' ρ2
theorem canV_put {P : List Pk} {ρ : Env} {i : Nat} {d : D} (m : Mt P ρ) (c : canV P[i]? = true) : putV i d ρ = some (ρ.set i (.v d)) := by
  cases e : P[i]? with
  | none => rw [e] at c; cases c
  | some k =>
    obtain ⟨s, e1, q⟩ := m.get e
    unfold putV
    rw [e1]
    rw [e] at c
    cases s with
    | p d' => cases k <;> first | (cases c; done) | exact q.elim | cases q
    | _ => rfl
section
variable {P P1 P2 P3 : List Pk} {mc me el : EM} {it : IM} {x i j k : Nat} {d d' z a : D} {ds zs : List D}
theorem XF.one (c : canV P[i]? = true) (h : XE (P.set i (.v d)) el z P1) (w : Wk P1 P2) : XF P i el d z P2 := fun ρ m => by
  obtain ⟨ρ2, e, m2⟩ := h _ (m.set rfl)
  exact ⟨_, ρ2, canV_put m c, e, m2.wk w⟩
end
end DL
namespace DL
open PySem PySem.Spec PyProof.Rows L2
variable [TabC]
section
variable {prog : Program} {w : World} {A : Around} {E : Value → Shared → Prop} {s : Shared} {l : Addr} {its : List Value} {ns : List Int} {Q : Value → Shared → Prop}
end
end DL
namespace DL
open PySem PySem.Spec PyProof.Rows PySem.W PySem.Calls L2
variable [TabC]
section
variable {prog : Program} {w : World} {A : Around} {E : Value → Shared → Prop} {s : Shared}
end
end DL
namespace DL
open PySem PySem.Spec PyProof.Rows PySem.W PySem.Calls L2
variable [TabC]
end DL
namespace DL
open PySem PySem.Spec PyProof.Rows L2
variable [TabC]
section
variable {X : Cx} {elt tg iter : Expr} {ifs : List Expr} {scope : Scope} {own : List (Str × Nat)} {pos : Pos} {wi : TI} {g : TG} {tt : TT} {te : TE} {is : List Nat} {it : IM} {gm : GM} {tm : TM} {el : EM}
end
end DL
namespace DL
open PySem
section
variable {P P2 Pw : List Pk} {i : Nat} {vs : List Nat} {g : GM} {tt : TM} {el : EM}
end
end DL
namespace DL
open PySem L2
variable [TabC]
section
variable {X : Cx} {elt tg : Expr} {ifs : List Expr} {scope : Scope} {own : List (Str × Nat)} {pos : Pos} {is : List Nat} {gm : GM} {tm : TM} {el : EM}
end
end DL
namespace DL
open PySem L2
variable [TabC]
section
variable {X : Cx} {a b c d e : Expr} {pos : Pos} {m mb mc md me : EM} {ta tb tc td te : TE} {op op' op2 op3 : CmpOp} {r r' r2 r3 : R2} {f g h i : D → D → Option D}
end
omit [TabC] in
def gSubS (x : Nat) (f : D → D → D → Option D) (mi : EM) : GM := fun d ρ => (stO ρ x).bind fun _ => (mi ρ).bind fun q => (stO q.2 x).bind fun d1 => (f d1 q.1 d).map fun d' => setO x d' q.2
section
variable {X : Cx} {oi : Expr} {ti : TE} {mi : EM}
end
end DL
namespace DL
open PySem
section
variable {P P1 P2 P3 P4 P' Pw : List Pk} {m ma mb mc md me mi : EM} {d a b c e : D} {x : Nat} {k : Bool}
theorem XG.sub {f : D → D → D → Option D} {d0 d1 z : D} (hk : curP P[x]? = some d0) (hi : XE P mi z P1) (hk1 : curP P1[x]? = some d1) (e : f d1 z a = some d) (hw : setP x d P1 = P2) : XG P (gSubS x f mi) a P2 := fun ρ m => by
  obtain ⟨ρ2, q2, m2⟩ := hi ρ m
  subst hw
  refine ⟨setO x d ρ2, ?_, setP_ok m2 (curP_slot hk1)⟩
  unfold gSubS
  rw [curP_ok m hk, Option.bind_some, q2, Option.bind_some, curP_ok m2 hk1, Option.bind_some, e]; rfl
end
end DL
namespace DL
open PySem L2
variable [TabC]
section
variable {X : Cx} {e : Expr} {te : TE} {m : EM} {pos : Pos}
end
end DL
namespace DL
open PySem PyProof.Rows L2
variable [TabC]
section
variable {X : Cx} {k : Nat}
end
end DL
namespace DL
open PySem L2 PySem.Spec PyProof.Rows PpSet
variable [TabC]
section
variable {P : Program} {w : World} {A : Around} {E : Value → Shared → Prop} {s : Shared}
end
end DL
namespace DL
open PySem L2 PySem.Spec PyProof.Rows PpSet
variable [TabC]
section
variable {X : Cx}
end
end DL
namespace DL
open PySem L2 PySem.Spec PyProof.Rows PpSet
variable [TabC]
section
variable {X : Cx} {e : Expr} {p p2 pos pos2 : Pos} {te : TE} {m : EM}
end
end DL
namespace DL
open PySem L2
variable [TabC]
section
variable {X : Cx} {o e : Expr} {es : List Expr} {te : TE} {m : EM} {am : AM} {at1 : TA} {name : Str} {apos cpos : Pos} {T id : String} {r : V → List V → Hp → VK → Prop} {f : D → List D → Option (D × D)}
end
end DL
namespace DL
open PySem
section
variable {P P1 P2 : List Pk} {m : EM} {am : AM} {as : List Arg} {ds : List D}
end
end DL
namespace DL
open PySem PySem.Spec PyProof.Rows L2
variable [TabC]
section
variable {X : Cx} {elt tg iter : Expr} {ifs : List Expr} {scope : Scope} {own : List (Str × Nat)} {pos : Pos} {wi : TI} {g : TG} {tt : TT} {te : TE} {is : List Nat} {it : IM} {gm : GM} {tm : TM} {el : EM}
end
section
variable {X : Cx} {elt tg : Expr} {ifs : List Expr} {scope : Scope} {own : List (Str × Nat)} {pos : Pos} {is : List Nat} {gm : GM} {tm : TM} {el : EM}
end
end DL
namespace DL
open PySem
section
variable {P P2 Pd Pw : List Pk} {i : Nat} {vs : List Nat} {g : GM} {tt : TM} {el : EM}
end
end DL
namespace DL
open PySem PySem.Spec PyProof.Rows L2
variable [TabC]
omit [TabC] in
def gO (i : Nat) : GM := fun d ρ => putO i d ρ
omit [TabC] in
def iPair (m1 m2 : EM) : IM := fun ρ => (m1 ρ).bind fun p => (m2 p.2).bind fun q => some ([p.1, q.1], q.2)
structure FnKF (P : Program) (w : World) (K : PySem.W.Frag) (mg : Str → Option Value) (base : Heap) (x : Str) (k : Nat) (ps ks : List Str) (perm : List Nat) (fn : FnSem) : Prop where
  ex : ∃ (f : Addr) (fd : FuncData), mg x = some (.ref f) ∧ PySem.W.keepIn K (.ref f) = true ∧ KBn K fd ps 0 ks (fun us ws => permU perm (us ++ ws)) (fun vs zs => permV perm (vs ++ zs)) ∧ FnOk P w K mg base CX0 k f fd ps (spFF ⟨K, mg⟩ fn)
section
variable {X : Cx} {x : Str} {k nk : Nat} {ps ks : List Str} {perm : List Nat} {fn : FnSem} {kws : List Keyword} {at2 : TA} {bm : AM} {pos p : Pos}
end
section
variable {P : Program} {w : World} {K : PySem.W.Frag} {mg : Str → Option Value} {base : Heap} {x qual : Str} {params : Arguments} {body : List Stmt} {scope : Scope} {f : Addr} {fd : FuncData}
end
end DL
namespace DL
open PySem
section
variable {P P1 P2 : List Pk} {d d1 d2 : D} {i : Nat} {m1 m2 : EM} {bm : AM} {as : List Arg} {ds : List D}
theorem XI.pair (h1 : XE P m1 d1 P1) (h2 : XE P1 m2 d2 P2) : XI P (iPair m1 m2) [d1, d2] P2 := fun ρ m => by
  obtain ⟨ρ1, q1, n1⟩ := h1 ρ m
  obtain ⟨ρ2, q2, n2⟩ := h2 ρ1 n1
  exact ⟨ρ2, by simp [iPair, q1, q2], n2⟩
theorem XG.o (h : canV P[i]? = true) : XG P (gO i) d (P.set i (.o d)) := fun ρ m => ⟨_, putO_ok m h, m.set rfl⟩
end
end DL
namespace DL
open PySem PySem.Spec PyProof.Rows PySem.W PySem.Calls L2
variable [TabC]
omit [TabC] in
abbrev PT := Int × List Int
end DL
namespace DL
open PySem PySem.Spec PyProof.Rows L2
variable [TabC]
section
variable {X : Cx} {elt tg iter : Expr} {ifs : List Expr} {scope : Scope} {own : List (Str × Nat)} {pos : Pos} {wi : TI} {g : TG} {tt : TT} {te : TE} {is : List Nat} {it : IM} {gm : GM} {tm : TM} {el : EM}
omit [TabC] in
def pl1 : D → Bool
  | .tup ds => ds.all scal0
  | d => scal0 d
omit [TabC] in
def pl2 : D → Bool
  | .tup ds => ds.all pl1
  | d => scal0 d
end
section
variable {X : Cx} {elt tg : Expr} {ifs : List Expr} {scope : Scope} {own : List (Str × Nat)} {pos : Pos} {is : List Nat} {gm : GM} {tm : TM} {el : EM}
end
end DL
namespace DL
open PySem
section
variable {P P2 Pd Pw : List Pk} {i : Nat} {vs : List Nat} {g : GM} {tt : TM} {el : EM}
end
end DL
namespace DL
open PySem PySem.Spec PyProof.Rows PySem.W PySem.Calls L2
variable [TabC]
end DL
namespace DL
open PySem PySem.Spec PyProof.Rows PySem.W PySem.Calls L2
variable [TabC]
section
variable {X : Cx} {o : Expr} {p pos apos mpos : Pos} {td : TE} {m : EM}
end
end DL
namespace DL
open PySem
end DL
namespace DL
open PySem PySem.Spec PyProof.Rows L2
variable [TabC]
structure DNN (X : Cx) (e : Expr) (t : TE) (m : EM) : Prop where
  pe : PE X e t
  q : ∀ (Γ : Gam) (σ : L2.St) (H : Hp) (ρ : Env) (d : D) (ρ' : Env) (Q : VK), Sr Γ X.G H σ ρ → m ρ = some (d, ρ') →
    (∀ D0 bs ds H', d = .lst ds → H D0 = none → (∀ b ∈ bs, H b = none) → Sr ⟨D0 :: (bs ++ Γ.U), Γ.π⟩ X.G H' σ ρ' → NF X.G H' (ownO σ ρ' ++ D0 :: (bs ++ Γ.U)) D0 bs ds → Fm (Γ.mu σ ρ) H H' → (∀ b ∈ ownO σ ρ', b ∈ ownO σ ρ) → Tr H H' → Q (.ref D0) H') → t σ H Q
section
variable {X : Cx} {elt tg iter : Expr} {ifs : List Expr} {scope : Scope} {own : List (Str × Nat)} {pos : Pos} {wi : TI} {is : List Nat} {it : IM} {gm : GM} {tm : TM} {el : EM}
end
def spNF (G : Gc) (fn : FnSem) : Sp := fun vs H Q _ => ∃ (W : List Addr) (ss : List Sl) (d : D) (ss' : List Sl), AsR G H W ss vs ∧ (pad ss vs).Nodup ∧ Th W H ∧ fn ss = some (d, ss') ∧
  ∀ D0 bs ds H', d = .lst ds → H D0 = none → (∀ b ∈ bs, H b = none) → Fm (pad ss vs) H H' → Tr H H' → AsR G H' W ss' vs → NF G H' (D0 :: (bs ++ W)) D0 bs ds → Q (.ref D0) H'
structure FnDN (P : Program) (w : World) (K : PySem.W.Frag) (mg : Str → Option Value) (base : Heap) (x : Str) (k : Nat) (ps : List Str) (fn : FnSem) : Prop where
  ex : ∃ (f : Addr) (fd : FuncData), mg x = some (.ref f) ∧ PySem.W.keepIn K (.ref f) = true ∧ Binds K fd ps [] ∧ FnOk P w K mg base CX0 k f fd ps (spNF ⟨K, mg⟩ fn)
omit [TabC] in
theorem Its.ne0 {G : Gc} {H : Hp} {W : List Addr} : ∀ {ds : List D} {bs : List Addr}, Its G H W ds bs → ∀ b ∈ bs, H b ≠ none
  | [], _, h, b, hb => by cases (show _ = [] from h); cases hb
  | d :: ds, _, ⟨c, r, e, o, q⟩, b, hb => by
    subst e
    rcases List.mem_cons.mp hb with z | z
    · rw [z]; exact o.ne0
    · exact Its.ne0 q b z
section
variable {X : Cx} {x : Str} {k : Nat} {ps : List Str} {fn : FnSem} {e : Expr} {es : List Expr} {at1 : TA} {am : AM} {pos p : Pos}
end
/-- such a list as a value -/
theorem DNN.de {X : Cx} {e : Expr} {t : TE} {m : EM} (h : DNN X e t m) : DE X e t m := by
  refine ⟨h.pe, fun Γ σ H ρ d ρ' Q s hm k => h.q Γ σ H ρ d ρ' Q s hm fun D0 bs ds H' ed n nb sr nf fm sub tr => ?_⟩
  subst ed
  have sl := sr.less (U' := Γ.U) (fun b z => List.mem_cons_of_mem _ (List.mem_append_right _ z)) (fun p hp => (s.pin p hp).1)
  refine k _ H' ⟨sl, fm, sub, tr⟩ ⟨D0, bs.map V.ref, rfl, ⟨fun z => ?_, .inl nf.l⟩, nf.len, nf.it.rp (W' := Γ.w σ ρ') (fun b z => ?_) fun b hb z => ?_⟩
  · rcases List.mem_append.mp z with z | z
    · exact sr.out D0 z List.mem_cons_self
    · exact s.th D0 z n
  · rcases List.mem_append.mp z with z | z
    · exact List.mem_append_left _ z
    · exact List.mem_append_right _ (List.mem_cons_of_mem _ (List.mem_append_right _ z))
  · rcases List.mem_append.mp z with z | z
    · exact sr.out b z (List.mem_cons_of_mem _ (List.mem_append_left _ hb))
    · exact s.th b z (nb b hb)
section
variable {P : Program} {w : World} {K : PySem.W.Frag} {mg : Str → Option Value} {base : Heap} {x qual : Str} {params : Arguments} {scope : Scope} {kws : List (Str × V)} {f : Addr} {fd : FuncData} {e : Expr} {pos : Pos}
end
end DL
namespace DL
open PySem PySem.Spec PyProof.Rows L2
variable [TabC]
omit [TabC] in
def sItem (i j : Nat) (mF : EM) (c1 : TM) (e1 e2 : EM) (c2 : TM) (e3 : EM) : SM := fun ρ => (mF ρ).bind fun p => match p.1 with
  | .lst ds => (putV i (.lst ds) p.2).bind fun ρ1 => (c1 ρ1).bind fun q => if q.1 = true then (e1 q.2).bind fun k => (ixD (.lst ds) k.1).map fun d => .rf d k.2
    else (e2 q.2).bind fun r => (putV j r.1 r.2).bind fun ρ3 => (c2 ρ3).bind fun q2 => if q2.1 = true then (e3 q2.2).bind fun k => (ixD (.lst ds) k.1).map fun d => .rf d k.2 else some (.rf (.lst []) q2.2)
  | _ => none
section
variable {X : Cx} {nx ny : Str} {px ps_ p1 p2 p3 p4 py p5 p6 p7 p8 p9 p10 : Pos} {eF x1 x2 x3 c1 c2 : Expr} {tF te1 te2 te3 : TE} {tc1 tc2 : TT} {mF me1 me2 me3 : EM} {m1 m2 : TM}
end
end DL
namespace DL
open PySem
def lstG : D → Option (List D)
  | .lst ds => some ds
  | _ => none
theorem lstG_e {a : D} {ds : List D} (h : lstG a = some ds) : a = .lst ds := by
  cases a <;> first | (cases h; rfl) | cases h
section
variable {P P1 P2 : List Pk} {Q : Out → Prop} {i j : Nat} {mF me1 me2 me3 : EM} {m1 m2 : TM} {ds : List D} {aF : D} {k1 : Bool}
theorem WS.item (hF : XE P mF aF P1) (ed : lstG aF = some ds) (c1 : canV P1[i]? = true) (h1 : XT (P1.set i (.v (.lst ds))) m1 k1 P2)
    (hA : k1 = true → ∃ a d P3, XE P2 me1 a P3 ∧ ixD (.lst ds) a = some d ∧ ∀ ρ, Mt P3 ρ → Q (.rf d ρ))
    (hB : k1 = false → ∃ a P3 k2 P4, XE P2 me2 a P3 ∧ canV P3[j]? = true ∧ XT (P3.set j (.v a)) m2 k2 P4 ∧ (k2 = true → ∃ b d P5, XE P4 me3 b P5 ∧ ixD (.lst ds) b = some d ∧ ∀ ρ, Mt P5 ρ → Q (.rf d ρ)) ∧ (k2 = false → ∀ ρ, Mt P4 ρ → Q (.rf (.lst []) ρ))) :
    WS P (sItem i j mF m1 me1 me2 m2 me3) Q := fun ρ m => by
  cases lstG_e ed
  obtain ⟨ρ1, q1, n1⟩ := hF ρ m
  have n2 : Mt (P1.set i (.v (.lst ds))) (ρ1.set i (.v (.lst ds))) := n1.set rfl
  obtain ⟨ρ2, q2, n3⟩ := h1 _ n2
  unfold sItem
  rw [q1, Option.bind_some]
  simp only
  rw [putV_ok n1 c1, Option.bind_some, q2, Option.bind_some]
  cases k1 with
  | true =>
    obtain ⟨a, d, P3, ha, e, q⟩ := hA rfl
    obtain ⟨ρ3, q3, n4⟩ := ha ρ2 n3
    exact ⟨.rf d ρ3, by simp only [if_true]; rw [q3, Option.bind_some, e]; rfl, q ρ3 n4⟩
  | false =>
    obtain ⟨a, P3, k2, P4, ha, c2, h2, hC, hD⟩ := hB rfl
    obtain ⟨ρ3, q3, n4⟩ := ha ρ2 n3
    have n5 : Mt (P3.set j (.v a)) (ρ3.set j (.v a)) := n4.set rfl
    obtain ⟨ρ4, q4, n6⟩ := h2 _ n5
    simp only [Bool.false_eq_true, if_false]
    rw [q3, Option.bind_some, putV_ok n4 c2, Option.bind_some, q4, Option.bind_some]
    cases k2 with
    | true =>
      obtain ⟨b, d, P5, hb, e, q⟩ := hC rfl
      obtain ⟨ρ5, q5, n7⟩ := hb ρ4 n6
      exact ⟨.rf d ρ5, by simp only [if_true]; rw [q5, Option.bind_some, e]; rfl, q ρ5 n7⟩
    | false => exact ⟨.rf (.lst []) ρ4, by simp only [Bool.false_eq_true, if_false], hD rfl ρ4 n6⟩
end
end DL
namespace DL
open PySem PySem.Spec PyProof.Rows L2
variable [TabC]
def FinK (ks : List Nat) (Γ : Gam) (G : Gc) (σ : L2.St) (ρ : Env) (H : Hp) (E : Ends) : Out → Prop
  | .nx ρ' => ∀ σ' H', So Γ G σ ρ H σ' ρ' H' → (∀ k ∈ ks, σ'[k]? = σ[k]?) → E.nx σ' H'
  | .rt d ρ' => ∀ v σ' H', So Γ G σ ρ H σ' ρ' H' → Rp G H' (Γ.w σ' ρ') d v → E.rt v H'
  | .bk ρ' => ∀ σ' H', So Γ G σ ρ H σ' ρ' H' → (∀ k ∈ ks, σ'[k]? = σ[k]?) → E.bk σ' H'
  | .ct ρ' => ∀ σ' H', So Γ G σ ρ H σ' ρ' H' → (∀ k ∈ ks, σ'[k]? = σ[k]?) → E.ct σ' H'
  | .rf d ρ' => ∀ a σ' H', So Γ G σ ρ H σ' ρ' H' → (a ∈ ownO σ ρ ∨ H a = none) → a ∉ ownO σ' ρ' → a ∉ Γ.U → Ow G H' (a :: Γ.w σ' ρ') d a → E.rt (.ref a) H'
structure DSK (ks : List Nat) (X : Cx) (st : Stmt) (t : TS) (m : SM) : Prop where
  pe : PS X st t
  q : ∀ (Γ : Gam) (σ : L2.St) (H : Hp) (ρ : Env) (o : Out) (E : Ends), Sr Γ X.G H σ ρ → m ρ = some o → FinK ks Γ X.G σ ρ H E o → t E σ H
structure DSKs (ks : List Nat) (X : Cx) (st : List Stmt) (t : TS) (m : SM) : Prop where
  pe : PSs X st t
  q : ∀ (Γ : Gam) (σ : L2.St) (H : Hp) (ρ : Env) (o : Out) (E : Ends), Sr Γ X.G H σ ρ → m ρ = some o → FinK ks Γ X.G σ ρ H E o → t E σ H
theorem FinK.from {ks : List Nat} {Γ : Gam} {G : Gc} {σ σ1 : L2.St} {ρ ρ1 : Env} {H H1 : Hp} {E E' : Ends} {o : Out} (a : So Γ G σ ρ H σ1 ρ1 H1) (hk : ∀ k ∈ ks, σ1[k]? = σ[k]?) (h : FinK ks Γ G σ ρ H E o)
    (hn : E'.nx = E.nx := by rfl) (hr : E'.rt = E.rt := by rfl) (hb : E'.bk = E.bk := by rfl) (hc : E'.ct = E.ct := by rfl) : FinK ks Γ G σ1 ρ1 H1 E' o := by
  cases o with
  | nx ρ' => intro σ' H' b kb; rw [hn]; exact h σ' H' (a.trans b) fun k z => (kb k z).trans (hk k z)
  | rt d ρ' => intro v σ' H' b r; rw [hr]; exact h v σ' H' (a.trans b) r
  | bk ρ' => intro σ' H' b kb; rw [hb]; exact h σ' H' (a.trans b) fun k z => (kb k z).trans (hk k z)
  | ct ρ' => intro σ' H' b kb; rw [hc]; exact h σ' H' (a.trans b) fun k z => (kb k z).trans (hk k z)
  | rf d ρ' => intro b σ' H' q n; rw [hr]; exact h b σ' H' (a.trans q) (n.elim (fun z => a.nw b z) fun z => .inr (a.tr.back z))
section
variable {ks : List Nat} {X : Cx} {st : Stmt} {sts a b : List Stmt} {t1 t2 : TS} {m1 m2 : SM} {e c : Expr} {te : TE} {me : EM} {tc : TT} {mc : TM} {pos pos' : Pos}
end
end DL
namespace DL
open PySem PySem.Spec PyProof.Rows L2
variable [TabC]
/-- what is known of such an answer at a -/
structure TPk (Γ : Gam) (G : Gc) (σ : L2.St) (ρ : Env) (H : Hp) (σ' : L2.St) (ρ' : Env) (H' : Hp) (x : D) (ys : List D) (a b : Addr) (v0 : V) : Prop where
  so : So Γ G σ ρ H σ' ρ' H'
  na : H a = none
  nb : b ∈ ownO σ ρ ∨ H b = none
  ob : b ∉ ownO σ' ρ'
  ub : b ∉ Γ.U
  cell : H' a = some (.tup [v0, .ref b])
  fst : Rp G H' (b :: Γ.w σ' ρ') x v0
  snd : Ow G H' (b :: Γ.w σ' ρ') (.lst ys) b
structure DTP (X : Cx) (sts : List Stmt) (t : TS) (m : EM) : Prop where
  pe : PSs X sts t
  q : ∀ (Γ : Gam) (σ : L2.St) (H : Hp) (ρ : Env) (d : D) (ρ' : Env) (E : Ends), Sr Γ X.G H σ ρ → m ρ = some (d, ρ') →
    (∀ a b x ys v0 σ' H', d = .tup [x, .lst ys] → TPk Γ X.G σ ρ H σ' ρ' H' x ys a b v0 → E.rt (.ref a) H') → t E σ H
section
variable {X : Cx} {st : Stmt} {sts : List Stmt} {t1 t2 : TS} {m1 : SM} {m2 : EM}
end
def spTF (G : Gc) (fn : FnSem) : Sp := fun vs H Q _ => ∃ (W : List Addr) (ss : List Sl) (d : D) (ss' : List Sl), AsR G H W ss vs ∧ (pad ss vs).Nodup ∧ Th W H ∧ fn ss = some (d, ss') ∧
  ∀ a b x ys v0 H', d = .tup [x, .lst ys] → H a = none → H b = none → Fm (pad ss vs) H H' → Tr H H' → AsR G H' W ss' vs → H' a = some (.tup [v0, .ref b]) → Rp G H' (b :: W) x v0 → Ow G H' (b :: W) (.lst ys) b → Q (.ref a) H'
section
variable {P : Program} {w : World} {K : PySem.W.Frag} {mg : Str → Option Value} {base : Heap} {x qual : Str} {params : Arguments} {body : List Stmt} {scope : Scope} {kws : List (Str × V)} {f : Addr} {fd : FuncData}
end
end DL
namespace DL
open PySem PySem.Spec PyProof.Rows L2
variable [TabC]
structure DNT (X : Cx) (e : Expr) (t : TE) (m : EM) : Prop where
  pe : PE X e t
  q : ∀ (Γ : Gam) (σ : L2.St) (H : Hp) (ρ : Env) (d : D) (ρ' : Env) (Q : VK), Sr Γ X.G H σ ρ → m ρ = some (d, ρ') →
    (∀ a b x ys v0 H', d = .tup [x, .lst ys] → H a = none → H b = none → Sr ⟨b :: Γ.U, Γ.π⟩ X.G H' σ ρ' → Fm (Γ.mu σ ρ) H H' → (∀ c ∈ ownO σ ρ', c ∈ ownO σ ρ) → Tr H H' → H' a = some (.tup [v0, .ref b]) →
      Rp X.G H' (ownO σ ρ' ++ b :: Γ.U) x v0 → Ow X.G H' (ownO σ ρ' ++ b :: Γ.U) (.lst ys) b → Q (.ref a) H') → t σ H Q
structure FnDT (P : Program) (w : World) (K : PySem.W.Frag) (mg : Str → Option Value) (base : Heap) (x : Str) (k : Nat) (ps : List Str) (fn : FnSem) : Prop where
  ex : ∃ (f : Addr) (fd : FuncData), mg x = some (.ref f) ∧ PySem.W.keepIn K (.ref f) = true ∧ Binds K fd ps [] ∧ FnOk P w K mg base CX0 k f fd ps (spTF ⟨K, mg⟩ fn)
section
variable {X : Cx} {x : Str} {k : Nat} {ps : List Str} {fn : FnSem} {e : Expr} {es : List Expr} {at1 : TA} {am : AM} {pos p : Pos}
end
/-- such an answer as a value -/
theorem tup_val {G : Gc} {H : Hp} {W W' : List Addr} {a b : Addr} {v0 : V} {x : D} {ys : List D} (cell : H a = some (.tup [v0, .ref b])) (r0 : Rp G H W x v0) (ow : Ow G H W (.lst ys) b) (hb : b ∉ W') (hw : ∀ c ∈ W', c ∈ W) : Rp G H W' (.tup [x, .lst ys]) (.ref a) := by
  refine ⟨a, _, rfl, cell, by simp [sizeLine], v0, [.ref b], rfl, Rp.mo ⟨Fm.refl _ _, fun c z => .inl (hw c z)⟩ _ _ r0, .ref b, [], rfl, ow.rp hb hw, rfl⟩
theorem DNT.de {X : Cx} {e : Expr} {t : TE} {m : EM} (h : DNT X e t m) : DE X e t m := by
  refine ⟨h.pe, fun Γ σ H ρ d ρ' Q s hm k => h.q Γ σ H ρ d ρ' Q s hm fun a b x ys v0 H' ed na nb sr fm sub tr cell r0 ow => ?_⟩
  subst ed
  have sl := sr.less (U' := Γ.U) (fun c z => List.mem_cons_of_mem _ z) (fun p hp => (s.pin p hp).1)
  refine k _ H' ⟨sl, fm, sub, tr⟩ (tup_val cell r0 ow (fun z => ?_) fun c z => ?_)
  · rcases List.mem_append.mp z with z | z
    · exact sr.out b z List.mem_cons_self
    · exact s.th b z nb
  · rcases List.mem_append.mp z with z | z
    · exact List.mem_append_left _ z
    · exact List.mem_append_right _ (List.mem_cons_of_mem _ z)
omit [TabC] in
def isVs : Sl → Bool
  | .v _ => true
  | _ => false
omit [TabC] in
def isXs : Sl → Bool
  | .v _ => true
  | .e => true
  | _ => false
omit [TabC] in
def pl2S : Sl → Sl
  | .v d => if pl2 d = true then .v d else .e
  | _ => .e
omit [TabC] in
def keepV (n : Nat) (ρ ρ3 : Env) : Env := ρ.take n ++ (ρ3.drop n).map pl2S
omit [TabC] in
def sTold (n i j : Nat) (mF mK : EM) (mm : SM) (c : Int) (mr : SM) : SM := fun ρ => if (ρ.take n).all isVs = true ∧ (ρ.drop n).all isXs = true then
    (mF ρ).bind fun p => (mK p.2).bind fun q => (putV i p.1 q.2).bind fun ρ1 => (putV j q.1 ρ1).bind fun ρ2 => (mm ρ2).bind fun o => match o with
      | .nx ρ3 => if ρ3.length = ρ.length then (match p.1 with
        | .tup [_, .lst ys] => (appendM (.lst ys) [.int c]).bind fun _ => mr (keepV n ρ ρ3)
        | _ => none) else none
      | o => some o
  else none
section
variable {X : Cx} {oi : Expr} {p pi p2 apos cpos : Pos} {nx name : Str} {id : String} {c : Int}
end
/-- the middle, and what stands behind it -/
structure DMd (ks : List Nat) (X : Cx) (i : Nat) (c : Int) (sts : List Stmt) (t tm tr : TS) (m mr : SM) : Prop where
  pe : PSs X sts t
  e : t = tSeq tm (tSeq (tDrop (tBM X.K "list" rAppend (tOp (rIx X.K) (tVar i) (tC (.int 1))) (tCons (tC (.int c)) tNil))) tr)
  q : ∀ (Γ : Gam) (σ : L2.St) (H : Hp) (ρ : Env) (o : Out) (E : Ends), Sr Γ X.G H σ ρ → m ρ = some o → FinK ks Γ X.G σ ρ H E o → tm E σ H
  r : ∀ (Γ : Gam) (σ : L2.St) (H : Hp) (ρ : Env) (o : Out) (E : Ends), Sr Γ X.G H σ ρ → mr ρ = some o → Fin Γ X.G σ ρ H E o → tr E σ H
section
variable {ks : List Nat} {X : Cx} {i : Nat} {c : Int} {st sa : Stmt} {sts rest : List Stmt} {t1 t2 tm tr : TS} {m1 m2 mr : SM}
end
section
variable {X : Cx} {eF eK : Expr} {tF tK : TE} {tm tr t : TS} {mF mK : EM} {mm mr : SM} {sts : List Stmt} {ks : List Nat} {c : Int} {x y : Str} {px py pt pos : Pos} {kt k2 pt2}
end
end DL
namespace DL
open PySem
def appG : D → Int → Option D
  | .tup [_, .lst ys], c => (appendM (.lst ys) [.int c]).map fun _ => .lst ys
  | _, _ => none
def sKp (L : Nat) (as : List D) : SM := fun ρ3 => if ρ3.length = L then some (.nx (keepV as.length (as.map .v) ρ3)) else none
def TkP : List D → List Pk → Prop
  | [], P => P.all (fun k => match k with | .x => true | .v _ => true | _ => false) = true
  | a :: as, p :: P => p = .v a ∧ TkP as P
  | _, _ => False
def KpP : List D → List Pk → List Pk → Prop
  | [], [], [] => True
  | [], p :: P, q :: Q => (q = .x ∨ ∃ a, p = .v a ∧ q = .v a ∧ pl2 a = true) ∧ KpP [] P Q
  | a :: as, p :: P, q :: Q => q = .v a ∧ KpP as P Q
  | _, _, _ => False
theorem TkP.xs : ∀ {P : List Pk} {ρ : Env}, P.all (fun k => match k with | .x => true | .v _ => true | _ => false) = true → Mt P ρ → ρ.all isXs = true
  | [], [], _, _ => rfl
  | p :: P, s :: ρ, h, m => by
    rw [List.all_cons, Bool.and_eq_true] at h ⊢
    refine ⟨?_, TkP.xs h.2 m.2⟩
    cases p with
    | x => have := m.1; cases s <;> first | rfl | exact this.elim
    | v d => rw [show s = .v d from m.1]; rfl
    | _ => cases h.1
theorem TkP.ok : ∀ {as : List D} {P : List Pk} {ρ : Env}, TkP as P → Mt P ρ → ρ.take as.length = as.map .v ∧ (ρ.drop as.length).all isXs = true
  | [], P, ρ, h, m => ⟨rfl, by rw [List.length_nil, List.drop_zero]; exact TkP.xs h m⟩
  | a :: as, [], _, h, _ => h.elim
  | a :: as, p :: P, [], h, m => m.elim
  | a :: as, p :: P, s :: ρ, ⟨h1, h2⟩, ⟨m1, m2⟩ => by
    subst h1
    obtain ⟨q1, q2⟩ := TkP.ok h2 m2
    refine ⟨?_, by rw [List.length_cons, List.drop_succ_cons]; exact q2⟩
    rw [List.length_cons, List.take_succ_cons, q1, show s = .v a from m1]; rfl
theorem KpP.ok : ∀ {as : List D} {P P' : List Pk} {ρ : Env}, KpP as P P' → Mt P ρ → Mt P' (keepV as.length (as.map .v) ρ)
  | [], [], [], [], _, _ => trivial
  | [], p :: P, q :: Q, s :: ρ, ⟨h1, h2⟩, ⟨m1, m2⟩ => by
    refine ⟨?_, KpP.ok (as := []) h2 m2⟩
    rcases h1 with rfl | ⟨a, rfl, rfl, h⟩
    · unfold pl2S
      cases s with
      | v d => simp only; split <;> trivial
      | _ => exact trivial
    · show pl2S s = .v a
      rw [show s = .v a from m1]
      unfold pl2S
      simp only [h, if_true]
  | a :: as, p :: P, q :: Q, s :: ρ, ⟨h1, h2⟩, ⟨m1, m2⟩ => by
    subst h1
    exact ⟨rfl, KpP.ok h2 m2⟩
  | [], [], _ :: _, _, h, _ => h.elim
  | [], _ :: _, [], _, h, _ => h.elim
  | _ :: _, [], _, _, h, _ => h.elim
  | _ :: _, _ :: _, [], _, h, _ => h.elim
section
variable {P P1 P2 P3 P4 : List Pk} {Q : Out → Prop} {n i j : Nat} {mF mK : EM} {mm mr : SM} {aF aK u : D} {as : List D} {c : Int}
theorem WS.kp {L : Nat} (h : KpP as P3 P4) (k : WS P4 mr Q) (hL : P3.length = L := by rfl) : WS P3 (sSeq (sKp L as) mr) Q := fun ρ m => by
  obtain ⟨o, e, q⟩ := k _ (KpP.ok h m)
  exact ⟨o, by unfold sSeq sKp; rw [if_pos (by rw [m.len, hL]), Option.bind_some]; exact e, q⟩
theorem WS.told {L : Nat} (hP : TkP as P) (hn : as.length = n) (hF : XE P mF aF P1) (hK : XE P1 mK aK P2) (c1 : canV P2[i]? = true) (c2 : canV (P2.set i (.v aF))[j]? = true) (ha : appG aF c = some u)
    (h : WS ((P2.set i (.v aF)).set j (.v aK)) (sSeq mm (sSeq (sKp L as) mr)) Q) (hL : P.length = L := by rfl) : WS P (sTold n i j mF mK mm c mr) Q := fun ρ m => by
  subst hn
  obtain ⟨t1, t2⟩ := TkP.ok hP m
  obtain ⟨ρ1, q1, n1⟩ := hF ρ m
  obtain ⟨ρ2, q2, n2⟩ := hK ρ1 n1
  have n3 : Mt (P2.set i (.v aF)) (ρ2.set i (.v aF)) := n2.set rfl
  have n4 : Mt ((P2.set i (.v aF)).set j (.v aK)) ((ρ2.set i (.v aF)).set j (.v aK)) := n3.set rfl
  obtain ⟨o, e, q⟩ := h _ n4
  refine ⟨o, ?_, q⟩
  unfold sTold
  rw [if_pos ⟨by rw [t1, List.all_map]; exact List.all_eq_true.mpr fun _ _ => rfl, t2⟩, q1, Option.bind_some, q2, Option.bind_some, putV_ok n2 c1, Option.bind_some, putV_ok n3 c2, Option.bind_some]
  unfold sSeq at e
  obtain ⟨o1, e1, e⟩ := Option.bind_eq_some_iff.mp e
  rw [e1, Option.bind_some]
  cases o1 with
  | nx ρ3 =>
    simp only at e ⊢
    have e9 : ((if ρ3.length = L then some (Out.nx (keepV as.length (as.map .v) ρ3)) else none).bind fun o => match o with
      | .nx ρ' => mr ρ'
      | o => some o) = some o := e
    by_cases l : ρ3.length = L
    case neg => rw [if_neg l] at e9; cases e9
    rw [if_pos l, Option.bind_some] at e9
    rw [if_pos (by rw [l, m.len, hL])]
    unfold appG at ha
    split at ha
    · obtain ⟨z, hz, _⟩ := Option.map_eq_some_iff.mp ha
      simp only
      rw [hz, Option.bind_some, show keepV as.length ρ ρ3 = keepV as.length (as.map .v) ρ3 by unfold keepV; rw [t1, List.take_of_length_le (by simp)]]
      exact e9
    · cases ha
  | _ => exact e
end
end DL
namespace DL
open PySem L2 PySem.Spec PyProof.Rows
variable [TabC]
omit [TabC] in
abbrev Exn := Str × List (Str × D)
omit [TabC] in
inductive RB where
  | ok (d : D) | ex (x : Exn)
omit [TabC] in
inductive OB where
  | ok (o : Out) | ex (x : Exn) (ρ : Env)
omit [TabC] in
abbrev VM := Env → Option (RB × Env)
omit [TabC] in
abbrev BM := Env → Option OB
omit [TabC] in
abbrev FnB := List Sl → Option (RB × List Sl)
omit [TabC] in
/-- the exception in flight: its class, its dict -/
def ExR (G : Gc) (H : Hp) (W : List Addr) (x : Exn) (cls : Value) (d : Option Addr) : Prop := ∃ Ca vs, cls = .ref Ca ∧ G.mg x.1 = some (.ref Ca) ∧ XdH H W d vs ∧ x.2.length ≤ 900 ∧ RpF G H W x.2 vs
theorem ExR.mo {G : Gc} {H H' : Hp} {W W' : List Addr} {x : Exn} {cls : Value} {d : Option Addr} (m : Mo W W' H H') : ExR G H W x cls d → ExR G H' W' x cls d
  | ⟨Ca, vs, e, g, h, l, r⟩ => ⟨Ca, vs, e, g, h.mo m, l, RpF.mo m _ _ r⟩
theorem ExR.sub {G : Gc} {H : Hp} {W W' : List Addr} {x : Exn} {cls : Value} {d : Option Addr} (s : ∀ a ∈ W', a ∈ W) (h : ExR G H W x cls d) : ExR G H W' x cls d := h.mo ⟨Fm.refl _ _, fun b z => .inl (s b z)⟩
def FinB (Γ : Gam) (G : Gc) (σ : L2.St) (ρ : Env) (H : Hp) (E : Ends) (W : WX) : OB → Prop
  | .ok o => Fin Γ G σ ρ H E o
  | .ex x ρ' => ∀ σ' H' cls d, So Γ G σ ρ H σ' ρ' H' → ExR G H' (Γ.w σ' ρ') x cls d → W cls d σ' H'
theorem FinB.from {Γ : Gam} {G : Gc} {σ σ1 : L2.St} {ρ ρ1 : Env} {H H1 : Hp} {E E' : Ends} {W : WX} {o : OB} (a : So Γ G σ ρ H σ1 ρ1 H1) (h : FinB Γ G σ ρ H E W o)
    (hn : E'.nx = E.nx := by rfl) (hr : E'.rt = E.rt := by rfl) (hb : E'.bk = E.bk := by rfl) (hc : E'.ct = E.ct := by rfl) : FinB Γ G σ1 ρ1 H1 E' W o := by
  cases o with
  | ok o => exact Fin.from a h hn hr hb hc
  | ex x ρ' => intro σ' H' cls d q r; exact h σ' H' cls d (a.trans q) r
/-- an expression that may raise -/
structure BE (X : Cx) (e : Expr) (t : WX → TE) (m : VM) : Prop where
  pe : ∀ W, Takes X W → PE X e (t W)
  q : ∀ (W : WX) (Γ : Gam) (σ : L2.St) (H : Hp) (ρ : Env) (r : RB) (ρ' : Env) (Q : VK), Sr Γ X.G H σ ρ → m ρ = some (r, ρ') →
    (∀ d, r = .ok d → ∀ v H', Po Γ X.G σ ρ H ρ' H' → Rp X.G H' (Γ.w σ ρ') d v → Q v H') →
    (∀ x, r = .ex x → ∀ cls d H', Po Γ X.G σ ρ H ρ' H' → ExR X.G H' (Γ.w σ ρ') x cls d → W cls d σ H') → t W σ H Q
structure BS (X : Cx) (st : Stmt) (t : WX → TS) (m : BM) : Prop where
  pe : ∀ W, Takes X W → PS X st (t W)
  q : ∀ (W : WX) (Γ : Gam) (σ : L2.St) (H : Hp) (ρ : Env) (o : OB) (E : Ends), Sr Γ X.G H σ ρ → m ρ = some o → FinB Γ X.G σ ρ H E W o → t W E σ H
structure BSs (X : Cx) (st : List Stmt) (t : WX → TS) (m : BM) : Prop where
  pe : ∀ W, Takes X W → PSs X st (t W)
  q : ∀ (W : WX) (Γ : Gam) (σ : L2.St) (H : Hp) (ρ : Env) (o : OB) (E : Ends), Sr Γ X.G H σ ρ → m ρ = some o → FinB Γ X.G σ ρ H E W o → t W E σ H
omit [TabC] in
def bOk (m : SM) : BM := fun ρ => (m ρ).map .ok
omit [TabC] in
def bSeq (m1 m2 : BM) : BM := fun ρ => (m1 ρ).bind fun o => match o with
  | .ok (.nx ρ') => m2 ρ'
  | o => some o
omit [TabC] in
def bIf (c : TM) (a b : BM) : BM := fun ρ => (c ρ).bind fun p => if p.1 = true then a p.2 else b p.2
omit [TabC] in
def vIf (c : TM) (a b : VM) : VM := fun ρ => (c ρ).bind fun p => if p.1 = true then a p.2 else b p.2
omit [TabC] in
def bSet (i : Nat) (m : VM) : BM := fun ρ => (m ρ).bind fun p => match p.1 with
  | .ok d => (putV i d p.2).map fun ρ' => .ok (.nx ρ')
  | .ex x => some (.ex x p.2)
section
variable {X : Cx} {st : Stmt} {sts : List Stmt} {e c : Expr} {pos : Pos} {m m1 m2 : BM} {me : VM} {mc : TM} {t t1 t2 : WX → TS} {te : WX → TE} {tc : TT}
theorem bs_ds {t : TS} {m : SM} (h : DS X st t m) : BS X st (fun _ => t) (bOk m) := ⟨fun _ _ => h.pe, fun W Γ σ H ρ o E s e f => by
  obtain ⟨o', h1, rfl⟩ := Option.map_eq_some_iff.mp e
  exact h.q Γ σ H ρ o' E s h1 f⟩
theorem bss_ds {t : TS} {m : SM} (h : DSs X sts t m) : BSs X sts (fun _ => t) (bOk m) := ⟨fun _ _ => h.pe, fun W Γ σ H ρ o E s e f => by
  obtain ⟨o', h1, rfl⟩ := Option.map_eq_some_iff.mp e
  exact h.q Γ σ H ρ o' E s h1 f⟩
theorem bss_one (h : BS X st t m) : BSs X [st] t m := ⟨fun W tk => pss_one (h.pe W tk), h.q⟩
theorem bss_cons (h1 : BS X st t1 m1) (h2 : BSs X sts t2 m2) : BSs X (st :: sts) (fun W => tSeq (t1 W) (t2 W)) (bSeq m1 m2) := by
  refine ⟨fun W tk => pss_cons (h1.pe W tk) (h2.pe W tk), fun W Γ σ H ρ o E s h f => ?_⟩
  show t1 W { E with nx := t2 W E } σ H
  unfold bSeq at h
  cases e1 : m1 ρ with
  | none => rw [e1] at h; cases h
  | some o1 =>
    rw [e1] at h
    refine h1.q W Γ σ H ρ o1 _ s e1 ?_
    cases o1 with
    | ex x ρ1 => cases h; exact f
    | ok o1 =>
      cases o1 with
      | nx ρ1 =>
        intro σ1 H1 a
        exact h2.q W Γ σ1 H1 ρ1 o E a.sr h (f.from a)
      | rt d ρ1 => cases h; exact f
      | bk ρ1 => cases h; exact f
      | ct ρ1 => cases h; exact f
      | rf d ρ1 => cases h; exact f
theorem bs_if {a b : List Stmt} (hc : DT X c tc mc) (ha : BSs X a t1 m1) (hb : BSs X b t2 m2) : BS X (.If c a b pos) (fun W => tIfS tc (t1 W) (t2 W)) (bIf mc m1 m2) := by
  refine ⟨fun W tk => ps_if hc.pe (ha.pe W tk) (hb.pe W tk), fun W Γ σ H ρ o E s h f => ?_⟩
  unfold bIf at h
  cases e1 : mc ρ with
  | none => rw [e1] at h; cases h
  | some r =>
    rw [e1] at h
    refine hc.q Γ σ H ρ r.1 r.2 _ s e1 fun H' a => ?_
    replace h : (if r.1 = true then m1 r.2 else m2 r.2) = some o := h
    split at h
    · rename_i hh; rw [hh]; exact ha.q W Γ σ H' r.2 o E a.sr h (f.from a.so)
    · rename_i hh
      rw [if_neg hh]
      exact hb.q W Γ σ H' r.2 o E a.sr h (f.from a.so)
theorem bs_set {pos' : Pos} (i : Nat) {x : Str} (hN : X.N.Nodup) (he : BE X e te me) (hi : X.N[i]? = some x := by rfl) (hx : Loc X.env.scope x := by first | exact Or.inl rfl | exact Or.inr rfl) (hs : swapsWith e (some (.Name x pos')) pos.line X.env = pure false := by rfl)
    (hf : X.fn x = true ∨ X.env.scope.names.lookup x = some .local := by first | exact .inl rfl | exact .inr rfl) : BS X (.Assign [.Name x pos'] e pos) (fun W => tAsg (te W) (gName i)) (bSet i me) := by
  refine ⟨fun W tk => ps_set hN hi hx (he.pe W tk) hs hf, fun W Γ σ H ρ o E s h f => ?_⟩
  unfold bSet at h
  cases e1 : me ρ with
  | none => rw [e1] at h; cases h
  | some p =>
    rw [e1] at h
    obtain ⟨r, ρ1⟩ := p
    cases r with
    | ok d =>
      obtain ⟨ρ2, e2, rfl⟩ := Option.map_eq_some_iff.mp (show (putV i d ρ1).map (fun ρ' => OB.ok (.nx ρ')) = some o from h)
      exact he.q W Γ σ H ρ _ ρ1 _ s e1 (fun d z v H' a rr => by cases z; exact f _ H' (a.so.trans (a.sr.put e2 rr))) (fun x z => nomatch z)
    | ex x =>
      cases (show some (OB.ex x ρ1) = some o from h)
      exact he.q W Γ σ H ρ _ ρ1 _ s e1 (fun d z => nomatch z) (fun y z cls d H' a r => by cases z; exact f σ H' cls d a.so r)
theorem be_if {a b : Expr} {ta tb : WX → TE} {ma mb : VM} (hc : DT X c tc mc) (ha : BE X a ta ma) (hb : BE X b tb mb) : BE X (.IfExp c a b pos) (fun W => tIf tc (ta W) (tb W)) (vIf mc ma mb) := by
  refine ⟨fun W tk => pe_ifExp hc.pe (ha.pe W tk) (hb.pe W tk), fun W Γ σ H ρ r ρ' Q s h k1 k2 => ?_⟩
  unfold vIf at h
  cases e1 : mc ρ with
  | none => rw [e1] at h; cases h
  | some p =>
    rw [e1] at h
    refine hc.q Γ σ H ρ p.1 p.2 _ s e1 fun H' a => ?_
    replace h : (if p.1 = true then ma p.2 else mb p.2) = some (r, ρ') := h
    have w1 : ∀ d, r = .ok d → ∀ v H'', Po Γ X.G σ p.2 H' ρ' H'' → Rp X.G H'' (Γ.w σ ρ') d v → Q v H'' := fun d z v H'' b => k1 d z v H'' (a.trans b)
    have w2 : ∀ x, r = .ex x → ∀ cls d H'', Po Γ X.G σ p.2 H' ρ' H'' → ExR X.G H'' (Γ.w σ ρ') x cls d → W cls d σ H'' := fun x z cls d H'' b => k2 x z cls d H'' (a.trans b)
    split at h
    · rename_i hh; rw [hh]; exact ha.q W Γ σ H' p.2 r ρ' Q a.sr h w1 w2
    · rename_i hh; rw [if_neg hh]; exact hb.q W Γ σ H' p.2 r ρ' Q a.sr h w1 w2
end
end DL
namespace DL
open PySem L2 PySem.Spec PyProof.Rows
variable [TabC]
omit [TabC] in
def callB (fn : FnB) (as : List Arg) (ρ : Env) : Option (RB × Env) := if decide (slotsOf as).Nodup then (argS ρ as).bind fun ss => (fn ss).bind fun q => (wbk as q.2 ρ).map fun ρ2 => (q.1, ρ2) else none
omit [TabC] in
def vCall (fn : FnB) (a : AM) : VM := fun ρ => (a ρ).bind fun p => callB fn p.1 p.2
def spB (G : Gc) (fn : FnB) : Sp := fun vs H Q E => ∃ (W : List Addr) (ss : List Sl) (r : RB) (ss' : List Sl), AsR G H W ss vs ∧ (pad ss vs).Nodup ∧ Th W H ∧ fn ss = some (r, ss') ∧
  (∀ d, r = .ok d → ∀ v H', Fm (pad ss vs) H H' → Tr H H' → AsR G H' W ss' vs → Rp G H' W d v → Q v H') ∧
  (∀ x, r = .ex x → ∀ cls d H', Fm (pad ss vs) H H' → Tr H H' → AsR G H' W ss' vs → ExR G H' W x cls d → E cls d H')
/-- what stands behind a call -/
theorem call_gen {G : Gc} {Γ : Gam} {σ : L2.St} {H1 : Hp} {ρ1 : Env} {as : List Arg} {vs : List V} {ss ss' : List Sl} {ρ' : Env} (s1 : Sr Γ G H1 σ ρ1) (ar : ArR G H1 (Γ.w σ ρ1) σ as vs) (nd : (slotsOf as).Nodup)
    (e2 : argS ρ1 as = some ss) (e4 : wbk as ss' ρ1 = some ρ') :
    AsR G H1 (Γ.w σ ρ1) ss vs ∧ (pad ss vs).Nodup ∧ Th (Γ.w σ ρ1) H1 ∧ ∀ H2, Fm (pad ss vs) H1 H2 → AsR G H2 (Γ.w σ ρ1) ss' vs → Po Γ G σ ρ1 H1 ρ' H2 ∧ Γ.w σ ρ' = Γ.w σ ρ1 := by
  obtain ⟨k1, k2, k3⟩ := argS_as s1 ar e2
  refine ⟨k1, pad_nodup s1 ar e2 nd, ⟨s1.w_th, s1.tb⟩, fun H2 fm as' => ?_⟩
  have hA : ∀ a ∈ pad ss vs, a ∈ Γ.mu σ ρ1 := fun a z => by
    obtain ⟨i, _, hi⟩ := (k2 a).mp z
    exact atSl_w s1 hi
  have ho : ∀ i ∈ slotsOf as, ∃ d, ρ1[i]? = some (.o d) ∨ ρ1[i]? = some (.p d) := fun i hi => by
    obtain ⟨a, _, h⟩ := k3 i hi
    rcases h with ⟨d, h⟩ | ⟨d, h, _⟩
    · exact ⟨d, .inl h⟩
    · exact ⟨d, .inr h⟩
  obtain ⟨w1, w2, w3⟩ := wbk_spec (H := H1) ar as' e4 nd ho
  have po := s1.change (ρ2 := ρ') fm hA (fun a z ez => by
    obtain ⟨i, hi, ha⟩ := (k2 a).mp z
    rcases w3 i with ⟨n, _⟩ | ⟨_, a', d0, d1, h1, h2, _⟩
    · exact n hi
    · have : a' = a := by have := ha.1; rw [h1] at this; cases this; rfl
      subst this
      exact h2.ne0 ez) w1 w2 (fun i t ht => by
    rcases w3 i with ⟨n, h1⟩ | ⟨z, a', d0, d1, h1, h2, h3⟩
    · refine .inl ⟨by rw [← h1]; exact ht, fun a ha z => ?_⟩
      obtain ⟨j, hj, hb⟩ := (k2 a).mp z
      exact n (s1.at_inj ha hb ▸ hj)
    · obtain ⟨b, hb⟩ := k3 i z
      have : a' = b := by have := hb.1; rw [h1] at this; cases this; rfl
      subst this
      refine .inr ⟨a', d0, d1, hb, h2, ?_⟩
      rcases h3 with ⟨h3, h4⟩ | ⟨h3, h4⟩
      · rw [ht] at h4; cases h4; exact .inl ⟨h3, rfl⟩
      · rw [ht] at h4; cases h4; exact .inr ⟨h3, rfl⟩) (fun q hq => by
    obtain ⟨_, d0, h0⟩ := s1.pin q hq
    rcases w3 q.1 with ⟨n, h1⟩ | ⟨z, a', d1, d2, h1, h2, h3⟩
    · exact ⟨d0, by rw [h1]; exact h0⟩
    · rcases h3 with ⟨h3, _⟩ | ⟨_, h4⟩
      · rw [h0] at h3; cases h3
      · exact ⟨d2, h4⟩)
  refine ⟨po, ?_⟩
  show ownO σ ρ' ++ Γ.U = _
  rw [w2]
theorem call_coreB {G : Gc} {Γ : Gam} {σ : L2.St} {H1 : Hp} {ρ1 : Env} {as : List Arg} {vs : List V} {r : RB} {ρ' : Env} {Q : VK} {E : XK} {fn : FnB} (s1 : Sr Γ G H1 σ ρ1) (ar : ArR G H1 (Γ.w σ ρ1) σ as vs) (h : callB fn as ρ1 = some (r, ρ'))
    (k1 : ∀ d, r = .ok d → ∀ v H', Po Γ G σ ρ1 H1 ρ' H' → Rp G H' (Γ.w σ ρ') d v → Q v H')
    (k2 : ∀ x, r = .ex x → ∀ cls d H', Po Γ G σ ρ1 H1 ρ' H' → ExR G H' (Γ.w σ ρ') x cls d → E cls d H') : spB G fn vs H1 Q E := by
  unfold callB at h
  split at h
  · rename_i nd
    have nd := of_decide_eq_true nd
    obtain ⟨ss, e2, h⟩ := Option.bind_eq_some_iff.mp h
    obtain ⟨⟨r3, ss'⟩, e3, h⟩ := Option.bind_eq_some_iff.mp h
    obtain ⟨ρ2, e4, h⟩ := Option.map_eq_some_iff.mp h
    cases h
    obtain ⟨a1, a2, a3, a4⟩ := call_gen s1 ar nd e2 e4
    refine ⟨Γ.w σ ρ1, ss, _, ss', a1, a2, a3, e3, fun d z v H2 fm _ as' rv => ?_, fun x z cls d H2 fm _ as' rx => ?_⟩
    · obtain ⟨po, ew⟩ := a4 H2 fm as'
      exact k1 d z v H2 po (by rw [ew]; exact rv)
    · obtain ⟨po, ew⟩ := a4 H2 fm as'
      exact k2 x z cls d H2 po (by rw [ew]; exact rx)
  · cases h
/-- a def that may raise -/
structure FnDB (P : Program) (w : World) (K : PySem.W.Frag) (mg : Str → Option Value) (base : Heap) (x : Str) (k : Nat) (ps : List Str) (fn : FnB) : Prop where
  ex : ∃ (f : Addr) (fd : FuncData), mg x = some (.ref f) ∧ PySem.W.keepIn K (.ref f) = true ∧ Binds K fd ps [] ∧ FnOk P w K mg base (L2.CX P w) k f fd ps (spB ⟨K, mg⟩ fn)
section
variable {X : Cx} {e : Expr} {es : List Expr} {pos p : Pos} {am : AM} {at1 : TA} {x : Str} {k : Nat} {ps : List Str} {fn : FnB}
theorem be_call (F : FnDB X.prog X.w X.K X.mg X.base x k ps fn) (hr : Room k X.A) (ha : DA X (e :: es) at1 am) (hg : Gl X x := by rfl) (hdb : (x == ("__debug__" : Str)) = false := by decide)
    (he : starEach (e :: es) X.env = (false, eval e X.env) :: starEach es X.env := by rfl) (hpl : (backTo pos (starEach es X.env)).any (·.1) = false := by rfl) : BE X (.Call (.Name x p) (e :: es) [] pos) (fun W => tCallS (spB X.G fn) (WE W) at1) (vCall fn am) := by
  obtain ⟨f, fd, h1, h2, h3, h4⟩ := F.ex
  refine ⟨fun W tk => pe_callS h4 hr hg h1 h2 h3 (fun σ => passAt tk σ) ha.pe hdb he hpl, fun W Γ σ H ρ r ρ' Q s h k1 k2 => ?_⟩
  obtain ⟨r1, e1, h⟩ := Option.bind_eq_some_iff.mp h
  refine ha.q Γ σ H ρ r1.1 r1.2 _ s e1 fun vs H1 a1 ar => ?_
  exact call_coreB a1.sr ar h (fun d z v H2 po rv => k1 d z v H2 (a1.trans po) rv) (fun y z cls d H2 po rx => k2 y z cls d H2 (a1.trans po) rx)
end
omit [TabC] in
def mkFnB (n k : Nat) (m : BM) : FnB := fun ss => if ss.length = n then (m (ss ++ List.replicate k .e)).bind fun o => match o with
  | .ok (.rt d ρ) => some (.ok d, fin ρ 0 ss)
  | .ok (.nx ρ) => some (.ok .non, fin ρ 0 ss)
  | .ok (.rf d ρ) => some (.ok d, fin ρ 0 ss)
  | .ex x ρ => some (.ex x, fin ρ 0 ss)
  | _ => none else none
section
variable {P : Program} {w : World} {K : PySem.W.Frag} {mg : Str → Option Value} {base : Heap} {x qual : Str} {params : Arguments} {body : List Stmt} {scope : Scope} {kws : List (Str × V)} {f : Addr} {fd : FuncData}
theorem fn_okB {N ps : List Str} {k : Nat} {m : BM} (F : FunD K x qual params body scope [] kws f fd) (S : FnScope N ps scope)
    (hb : ∀ (cdv : Value) (A : Around) (outer : List PySem.Env) (s : Shared) (H : Hp) (E : XK), Room k (A.deeper (PyProof.Rows.envOfC qual scope s.heap.objs.size f cdv)) →
      PassesOwn (model P w) (cxOf (L2.CX P w) P w K mg base N qual scope f cdv A outer s H E).A (cxOf (L2.CX P w) P w K mg base N qual scope f cdv A outer s H E).env (cxOf (L2.CX P w) P w K mg base N qual scope f cdv A outer s H E).xe →
      ∃ t, BSs (cxOf (L2.CX P w) P w K mg base N qual scope f cdv A outer s H E) body t m) :
    FnOk P w K mg base (L2.CX P w) (k + 1) f fd ps (spB ⟨K, mg⟩ (mkFnB ps.length (N.length - ps.length) m)) := by
  refine F.ok S (fun vs H Q E h => ?_) fun cdv A outer s H vs Q E hr h => ?_
  · obtain ⟨W, ss, d, ss', a, _, _, e, _⟩ := h
    unfold mkFnB at e
    split at e
    · rename_i l; rw [a.length, l]
    · cases e
  · obtain ⟨t, ht⟩ := hb cdv A outer s H E hr (passes_of rfl)
    refine ⟨t fun cls d _ H => E cls d H, ht.pe _ (takes_of rfl rfl rfl rfl), ?_⟩
    obtain ⟨W, ss, r, ss', a, nd, th, e, q1, q2⟩ := h
    unfold mkFnB at e
    split at e
    · rename_i l
      have hpl : ps.length ≤ N.length := by have := congrArg List.length S.pre; rw [List.length_take] at this; omega
      obtain ⟨sr, eo⟩ := entry_sr (N := N) a nd th (by omega)
      rw [← l] at e
      cases e1 : m (ss ++ List.replicate (N.length - ss.length) .e) with
      | none => rw [e1] at e; cases e
      | some o =>
        rw [e1] at e
        refine ht.q _ _ _ H _ o _ sr e1 ?_
        have fmo : ∀ {ρ' : Env} {σ' : L2.St} {H' : Hp}, So ⟨W, pinsOf 0 ss vs⟩ ⟨K, mg⟩ (L2.start N vs) (ss ++ List.replicate (N.length - ss.length) .e) H σ' ρ' H' → Fm (pad ss vs) H H' ∧ AsR ⟨K, mg⟩ H' W (fin ρ' 0 ss) vs := fun {ρ' σ' H'} b => by
          have fm : Fm (pad ss vs) H H' := by
            have := b.fm
            unfold Gam.mu at this
            rw [eo] at this
            rw [← pins_pad (i := 0)]
            exact this
          have mo : Mo W W H H' := ⟨fm.mono fun c z => by
            rw [← pins_pad (i := 0)] at z
            obtain ⟨p, hp, e⟩ := List.mem_map.mp z
            exact e ▸ (pins_w a p hp).1, fun _ z => .inl z⟩
          exact ⟨fm, fin_ok b.sr rfl mo (fun h1 h2 => pins_uniq h1 h2) (fun _ z => z) a⟩
        have done : ∀ {ρ' : Env} {σ' : L2.St} {H' : Hp} {d' : D} {v : V}, So ⟨W, pinsOf 0 ss vs⟩ ⟨K, mg⟩ (L2.start N vs) (ss ++ List.replicate (N.length - ss.length) .e) H σ' ρ' H' → some (RB.ok d', fin ρ' 0 ss) = some (r, ss') → Rp ⟨K, mg⟩ H' (Gam.w ⟨W, pinsOf 0 ss vs⟩ σ' ρ') d' v → Q v H' := fun {ρ' σ' H' d' v} b eq rv => by
          cases eq
          obtain ⟨fm, as'⟩ := fmo b
          exact q1 d' rfl v H' fm b.tr as' (Rp.mo ⟨Fm.refl _ _, fun c z => .inl (List.mem_append_right _ z)⟩ _ _ rv)
        cases o with
        | ex x ρ' =>
          cases e
          intro σ' H' cls d b rx
          obtain ⟨fm, as'⟩ := fmo b
          exact q2 x rfl cls d H' fm b.tr as' (rx.sub fun c z => List.mem_append_right _ z)
        | ok o =>
          cases o with
          | nx ρ' => exact fun σ' H' b => done b e rfl
          | rt d' ρ' => exact fun v σ' H' b r => done b e r
          | bk ρ' => cases e
          | ct ρ' => cases e
          | rf d' ρ' => exact fun a σ' H' b n na nu ow => done b e (ow.rp (fun z => (List.mem_append.mp z).elim na nu) fun c z => List.mem_cons_of_mem _ z)
    · cases e
end
end DL
namespace PySem
namespace OEG
open PySem.W PySem.Calls PyProof.Rows PySem.HandSPX Builtin Builtin.ObjectAttr
section
variable {prog : Program} {w : World} {A : Around} {E : Value → Shared → Prop} {R : Result → Shared → Prop} {hp : Heap} {g : Array GenState} {d : Drawn} {t : Nat} {os : OsState}
theorem osa_new {b : XBase} {K : W.Frag} {name : Str} {tk : Tok} {v : Value} {x C : Addr} {fv : Array Value} {cd : ClassData}
    (X : K.In hp) (hx : hp.get? x = some { cls := .ref C, data := .fields fv }) (hcd : W.clsIn K C = some cd) (hm : cd.mro = .ref C :: b.mro) (hh : cd.hasDict = true) (ha : W.findIn K (.ref C) name = some none)
    (hq : ∀ h' tk' dx, (∀ b o, b ≠ x → hp.get? b = some o → h'.get? b = some o) → hp.objs.size ≤ dx → dx ≠ x → h'.get? x = some { cls := .ref C, dict := some dx, data := .fields fv } →
      h'.Ns1 dx (fun y => if y = name then some v else none) → R (.ok (.ret .none)) ⟨h', g, d, tk', os⟩) :
    codeAny (model prog w) A (.call (.builtin "object.__setattr__") ⟨[.ref x, .str name tk, v], []⟩) R ⟨hp, g, d, t, os⟩ := by
  have I : W.InstAt hp x { cls := .ref C, data := .fields fv } C none := ⟨hx, rfl, rfl, trivial⟩
  have SF := F.store_object
  have ne : cd.mro.isEmpty = false := by rw [hm]; rfl
  have hob : cd.mro.contains (.type "object") = true := by rw [hm, List.contains_cons, b.obj, Bool.or_true]
  have ps : ∀ self, refuseLoop self "__setattr__" cd.mro = pure () := fun self => by rw [hm, refuseLoop_ref]; exact b.pass self
  have hxs : x ≠ hp.objs.size := Nat.ne_of_lt (Heap.lt_size hx)
  have sub : W.Looks (model prog w) hp (isInstance (.ref x) (.type "object")) true := I.type.andThen (W.looks_mroIn X (by unfold W.mroIn; rw [hcd, Option.bind_some, if_neg (by rw [ne]; decide), hob]))
  refine codeAny_call_builtin SF.slot.plain SF.entry (@W.check_slot (model prog w) _ _ ⟨hp, g, d, t, os⟩ "object.__setattr__" "object" "__setattr__" (.ref x) [.str name tk, v] [] _ SF.kind SF.split sub (SF.args (.ref x) (.str name tk) v) ?_)
  have hmr : W.Looks (model prog w) hp (mroOf (.ref C)) cd.mro := (W.looks_clsIn X hcd).andThen .now
  have L3 : W.Looks (model prog w) hp (storeTaker? none) none := .now
  have hcls : W.Looks (model prog w) hp (classData C) cd := W.looks_clsIn X hcd
  rw [W.osa_eq, refuse_eq]
  refine wpAny_bind (wpAny_bind (I.type.at (wpAny_bind (hmr.at ?_))))
  rw [ps]
  refine wpAny_pure (wpAny_bind (I.type.at (wpAny_bind ((W.looks_findIn X ha).at (wpAny_bind (L3.at ?_))))))
  show wpAny _ _ (storeInOwnDict (.ref x) (.ref C) (.str name tk) name v false) _ _ _
  clear ps hob ne
  obtain ⟨nm, bs, mro, ns, qn, hd, sn, sb, ab, col, del⟩ := cd
  dsimp only at hh
  subst hh
  unfold storeInOwnDict ownDictForStores
  repeat (first | with_reducible refine store_in_new ?_ ?_ | with_reducible refine wpAny_loadPart_at hx ?_ | with_reducible refine hcls.at ?_ | wp_step)
  · exact ⟨_, #[], _, (Heap.get?_update_ne _ _ _ _ hxs.symm).trans (Heap.get?_push_at rfl rfl), rfl, fun e he => absurd he (by simp), fun _ => rfl⟩
  · intro h' tk' hn' hs
    have hx₁ : (hp.push { cls := .type "dict", data := .dict #[] }).get? x = some { cls := .ref C, data := .fields fv } := Heap.get?_push_of_some _ hx
    refine hq h' tk' hp.objs.size (fun b o hb ho => ?_) (Nat.le_refl _) hxs.symm ?_ hn'
    · exact (hs.2 b (Nat.ne_of_lt (Heap.lt_size ho))).trans ((Heap.get?_update_ne _ _ _ _ hb).trans (Heap.get?_push_of_some _ ho))
    · exact (hs.2 x hxs).trans (Heap.get?_update_self _ hx₁ rfl)
end
end OEG
end PySem
namespace L2
open PySem PySem.Spec PyProof.Rows
/-- what the written part says of such a class -/
structure OexG (K : PySem.W.Frag) (b : XBase) (C : Addr) : Prop where
  cls : ∃ nm q N bs sn sub ab col dd k0 k1 k2 k3 k5, K.lookup C = some (excClassObj nm q C N bs b.mro true sn sub ab col dd k0 k1 k2 k3 k5 b.nw)
  sa : PySem.W.findIn K (.ref C) "__setattr__" = some (some (.builtin "object.__setattr__"))
  exC : PySem.W.subIn K (.ref C) (.type "BaseException") = some true
  tyC : PySem.W.typeIn K (.ref C) = some (.type "type")
  kC : PySem.W.keepIn K (.ref C) = true
section
variable {X : Cx} {pins : List (Addr × Obj)} {σ : St} {H : Hp} {s : Shared} {a C dx : Addr} {f : Str} {y : V} {u : Value} {fs : List (Str × V)} {Q : Unit → Shared → Prop} {E : Value → Shared → Prop} {A : Around} {xb : XBase}
/-- self.f = y, the first one -/
theorem osg_new (T : OexG X.K xb C) (I : Inv X pins σ H s) (e : H a = some (exo a C none)) (hno : PySem.W.findIn X.K (.ref C) f = some none) (ry : RelV y u)
    (h : ∀ dx s', H dx = none → dx ≠ a → Inv X pins σ (upd (upd H dx (exd dx [(f, y)])) a (exo a C (some dx))) s' → Q () s') : wpAny (model X.prog X.w) A (setAttr (.ref a) f u) Q E s := by
  obtain ⟨nm, q, N, bs, sn, sub, ab, col, dd, k0, k1, k2, k3, k5, hC⟩ := T.cls
  have hcl : PySem.W.clsIn X.K C = some { name := nm, bases := bs, mro := .ref C :: xb.mro, ns := N, qualname := q, hasDict := true, slotNames := sn, subclasses := sub, abstract := ab, collection := col, hasDel := false } := by unfold PySem.W.clsIn; rw [hC] <;> rfl
  obtain ⟨t1, ho⟩ := exo_at I.hok e
  obtain ⟨hp, g, d, t, os⟩ := s
  refine PySem.W.set_plain I.kIn (ox := { cls := .ref C, dict := none, data := .fields #[.ref t1, .none, .none, .none, .bool false, .none] }) (od := none) ⟨ho, rfl, rfl, trivial⟩ T.sa ?_
  refine PySem.OEG.osa_new (b := xb) I.kIn ho hcl rfl rfl hno (fun h' tk' dx k dn dne hx hn => ?_)
  have hnd : H dx = none := I.hok.fresh dn
  have nd : ∀ {b : Addr} {o : Obj}, hp.get? b = some o → b ≠ dx := fun {b o} q => Nat.ne_of_lt (Nat.lt_of_lt_of_le (Heap.lt_size q) dn)
  have na : ∀ {b : Addr}, H b = none → b ≠ a := fun {b} n z => by
    rw [z, e] at n
    cases n
  have Un1 : Un X.fs [] H (upd (upd H dx (exd dx [(f, y)])) a (exo a C (some dx))) hp h' := {
    keep := fun b o q n _ _ => k b o (na n) q
    slot := fun b o q n _ _ => ⟨o.slots, k b o (na n) q⟩
    free := fun b o q n _ => by rw [upd_ne (na n), upd_ne (nd q)]; exact n
    there := fun b o q _ => by
      by_cases hb : b = a
      · exact ⟨_, by rw [hb]; exact hx⟩
      · exact ⟨o, k b o hb q⟩
    tups := fun b xs q => by rw [upd_ne (at_ne e q exo_tup), upd_ne (ne_of_none q hnd)]; exact q
    frzs := fun b o v q => by rw [upd_ne (at_ne e q exo_frz), upd_ne (ne_of_none q hnd)]; exact q
    tbls := fun b ps q => ⟨#[], by rw [upd_ne (at_ne e q exo_tbl), upd_ne (ne_of_none q hnd), q]; simp⟩ }
  refine h dx _ hnd dne (I.un (t' := tk') Un1 fun b o q => ?_)
  by_cases hb : b = a
  · subst hb
    rw [upd_same] at q
    cases q
    exact exo_ok hx
  · rw [upd_ne hb] at q
    by_cases hd : b = dx
    · subst hd
      rw [upd_same] at q
      cases q
      exact exd_ok hn (relO_put (fs := []) ry fun g => True.intro)
    · rw [upd_ne hd] at q
      exact (I.hok b o q).stay (fun c v hc z => k c v (by
          rcases hc with hc | hc
          · rw [hc]
            exact hb
          · exact at_ne e hc exo_own) z)
        (fun c hc => by rw [upd_ne (at_ne e hc exo_own), upd_ne (ne_of_none hc hnd)]; exact hc) (fun c xs hc => by rw [upd_ne (at_ne e hc exo_tup), upd_ne (ne_of_none hc hnd)]; exact hc)
/-- B.__init__(self, ..): nothing of it is told -/
theorem oinitG_ok {us : List Value} {Q : Value → Shared → Prop} (T : OexG X.K xb C) (I : Inv X pins σ H s) (e : H a = some (exo a C none)) (hl : us.length ≤ sizeLine) (h : ∀ s', Inv X pins σ H s' → Q .none s') :
    wpAny (model X.prog X.w) A (call (.builtin xb.ini) (.ref a :: us)) Q E s := by
  obtain ⟨nm, q, N, bs, sn, sub, ab, col, dd, k0, k1, k2, k3, k5, hC⟩ := T.cls
  obtain ⟨t1, ho⟩ := exo_at I.hok e
  obtain ⟨hp, g, d, t, os⟩ := s
  refine wpAny_call (PySem.HandSPX.init_base xb.facts (fun Y => rfl) (I.kIn _ _ hC) ho hl fun h' t2 k hx => ?_)
  have J := I.write (t' := t) (x := a) (e := a) (o := exo a C none) (by rw [e]; exact True.intro) (.inl rfl) k ⟨_, hx⟩ (exo_ok hx)
  have eu : upd H a (exo a C none) = H := by
    funext b
    by_cases hb : b = a
    · rw [hb, upd_same, e]
    · rw [upd_ne hb]
  rw [eu] at J
  exact h _ J
end
def tBiG (K : PySem.W.Frag) (xb : XBase) (ta : TA) : TE := fun σ H Q => ta σ H fun vs H1 => ∃ (a C : Addr) (ws : List V), vs = .ref a :: ws ∧ ws.length ≤ 1000 ∧ OexG K xb C ∧ H1 a = some (exo a C none) ∧ Q .non H1
def tOsG (K : PySem.W.Frag) (xb : XBase) (f : Str) (to te : TE) : TS := fun D σ H => te σ H fun y H1 => to σ H1 fun x H2 => ∃ a C : Addr, x = .ref a ∧ OexG K xb C ∧ PySem.W.findIn K (.ref C) f = some none ∧
  H2 a = some (exo a C none) ∧ ∀ dx, H2 dx = none → dx ≠ a → D.nx σ (upd (upd H2 dx (exd dx [(f, y)])) a (exo a C (some dx)))
section
variable {X : Cx} {o e : Expr} {es : List Expr} {to te : TE} {ta : TA} {f : Str} {p p' p1 p2 pos : Pos} {xb : XBase} {B : Str}
theorem pe_binit {pl : Sem Bool} (hg : Gl X B) (hm : X.mg B = none) (hv : bootBuiltins B = some (.type xb.nm)) (vV : PySem.W.findCls X.K (.type xb.nm) (.type "type") "__init__" = some (.val (.builtin xb.ini))) (ha : PA X (e :: es) ta)
    (hn : B ≠ "__name__" := by decide) (hd : (B == ("__debug__" : Str)) = false := by decide)
    (hc : eval (.Call (.Attribute (.Name B p1) "__init__" p2) (e :: es) [] pos) X.env = (do
      let ov ← eval (.Name B p1) X.env
      standAt p2.atName
      let (f, first) ← holding [ov] (getMethod ov "__init__" pl)
      callWith pos f first (backTo pos (starEach (e :: es) X.env)) (backToKw pos (keywordEach [] X.env))) := by rfl)
    (he : starEach (e :: es) X.env = (false, eval e X.env) :: starEach es X.env := by rfl) (hpl : (backTo pos (starEach es X.env)).any (·.1) = false := by rfl) :
    PE X (.Call (.Attribute (.Name B p1) "__init__" p2) (e :: es) [] pos) (tBiG X.K xb ta) := by
  refine ⟨fun pins s σ H Q I h => ?_⟩
  refine PySem.W.methodCall_KW (ld_blt I hg hm hv ?_ hn hd) hc
  obtain ⟨m, fr⟩ := I.fr
  refine PySem.W.method_type fr I.ok.mod.kin xb.typ xb.stub vV xb.handed ?_
  show wpAny _ _ (callWith pos (Value.builtin xb.ini) [] (backTo pos (starEach (e :: es) X.env)) []) _ _ _
  refine PyProof.Rows.callWith_method1 (thn (ha.run pos pins _ σ H _ (I.tok _) h) fun us s1 ⟨vs, H1, I1, r1, a, C, ws, ev, hl, T, ea, q⟩ => ?_) he hpl
  subst ev
  cases r1 with
  | @cons _ u0 _ ur ra rw' =>
    obtain rfl : u0 = Value.ref a := ra
    have hlen : ur.length ≤ sizeLine := by
      rw [← Paired.length rw', sizeLine_eq]
      omega
    exact oinitG_ok T I1 ea hlen fun s' J => ⟨.non, H1, J, rfl, q⟩
theorem ps_osg (ho : PE X o to) (he : PE X e te) (hs : swapsWith e (some (.Attribute o f p')) pos.line X.env = pure false := by rfl) : PS X (.Assign [.Attribute o f p'] e pos) (tOsG X.K xb f to te) := by
  refine ⟨fun pins s σ H D I h => ?_⟩
  refine plainObj_wpAny_Assign_Attribute (thn (he.run pins s σ H _ I h) fun v s1 ⟨y, H1, I1, r1, q1⟩ => thn (ho.run pins s1 σ H1 _ I1 q1) fun u s2 ⟨x, H2, I2, r2, a, C, ex, T, hno, ea, q⟩ => ?_) hs
  subst ex
  obtain rfl : u = Value.ref a := r2
  exact osg_new T I2 ea hno r1 fun dx s' n ne J => ⟨σ, _, J, q dx n ne⟩
end
end L2
namespace L2
open PySem PySem.Spec PyProof.Rows
section
variable {X : Cx} {e : Expr} {es : List Expr} {ta : TA} {p pos : Pos} {xb : XBase}
theorem pmk_oexG {CX : CXT} {x : Str} {C fI : Addr} {k : Nat} {fd : FuncData} {ps : List Str} {sp : Sp} {ds : List Value} {dvs : List V} (T : OexG X.K xb C) (iC : PySem.W.findIn X.K (.ref C) "__init__" = some (some (.ref fI))) (tI : PySem.W.typeIn X.K (.ref fI) = some (.type "function"))
    (F1 : FnOk X.prog X.w X.K X.mg X.base CX k fI fd ps sp) (hr : Room (k + 1) X.A) (hb : Binds X.K fd ps ds) (hd : Vals dvs ds) (hx : Passes CX X (fun _ _ _ => False)) (hg : Gl X x) (hm : X.mg x = some (.ref C)) (ha : PA X (e :: es) ta)
    (hdb : (x == ("__debug__" : Str)) = false := by decide) (he : starEach (e :: es) X.env = (false, eval e X.env) :: starEach es X.env := by rfl) (hpl : (backTo pos (starEach es X.env)).any (·.1) = false := by rfl) :
    PMk X (.Call (.Name x p) (e :: es) [] pos) (tMkO C sp dvs ta) := by
  intro pins s σ H Q I h
  obtain ⟨nm, q, N, bs, sn, sub, ab, col, dd, k0, k1, k2, k3, k5, hC⟩ := T.cls
  refine wpAny_Call_Name_kw (ld_glob I hg hm ?_ hdb)
  refine PySem.W.callWith_K (h₀ := X.base) I.ok.mod.kin T.kC (thn (ha.run pos pins s σ H _ I h) fun us s1 ⟨vs, H1, I1, r1, hz, q1⟩ => ⟨I1.kIn, ?_⟩) he hpl
  show wpAny _ _ (call (.ref C) us) _ _ _
  obtain ⟨hp, g, dr, tk, os⟩ := s1
  have hsz : hp.objs.size ≤ hp.objs.size + 1 := Nat.le_succ _
  have hn : H1 (hp.objs.size + 1) = none := I1.hok.fresh hsz
  have hq := q1 (hp.objs.size + 1) hn
  have kk : ∀ b o, hp.get? b = some o → ((hp.push (PySem.W.kdv_tup us)).push (PySem.HandSPX.excO C hp.objs.size)).get? b = some o := fun b o e => Heap.get?_push_of_some _ (Heap.get?_push_of_some _ e)
  have hget : ((hp.push (PySem.W.kdv_tup us)).push (PySem.HandSPX.excO C hp.objs.size)).get? (hp.objs.size + 1) = some (PySem.HandSPX.excO C hp.objs.size) := by heap_get
  have I2 : Inv X pins σ (upd H1 (hp.objs.size + 1) (exo (hp.objs.size + 1) C none)) ⟨(hp.push (PySem.W.kdv_tup us)).push (PySem.HandSPX.excO C hp.objs.size), g, dr, tk, os⟩ :=
    I1.laid (t' := tk) (a := hp.objs.size + 1) (o := exo (hp.objs.size + 1) C none) (h' := (hp.push (PySem.W.kdv_tup us)).push (PySem.HandSPX.excO C hp.objs.size)) kk hsz (exo_ok hget)
  have r2 : Vals (V.ref (hp.objs.size + 1) :: (vs ++ dvs)) (Value.ref (hp.objs.size + 1) :: (us ++ ds)) := .cons rfl (r1.append hd)
  have hl : (Value.ref (hp.objs.size + 1) :: us ++ ds).length = ps.length := by
    have e := r2.length
    rw [F1.len _ _ _ _ hq] at e
    exact e.symm
  have hus : us.length ≤ sizeLine := by
    rw [← Paired.length r1, sizeLine_eq]
    omega
  refine wpAny_call (PySem.HandSPX.call_own xb.facts (fun Y => rfl) (I1.kIn _ _ hC) (PySem.W.looks_findIn I1.kIn iC) (fun self => PySem.W.bind_fn I1.kIn self tI) hus
    (codeAny_mono (F1.run _ X.stack _ _ ⟨Value.ref (hp.objs.size + 1) :: us, []⟩ (Value.ref (hp.objs.size + 1) :: (us ++ ds)) _ _ (fun _ _ _ => False) (hr.make C us []) (I2.env0.make C us []) (hb _ (Value.ref (hp.objs.size + 1) :: us) I2.kIn hl) r2 hq) fun r s' hq' => ?_))
  cases r with
  | error er => exact hx pins σ _ _ er s' I2 hq'
  | ok fl =>
    cases fl with
    | ret u =>
      obtain ⟨v, H2, os2, bare2, un2, hok2, rv, ev, d, fs, ea, ed, hd1, q2⟩ := hq'
      subst ev
      obtain ⟨h2, g2, d2, t2, os'⟩ := s'
      exact ⟨rv, mk_end (raises_own T.exC T.tyC) I1 hsz kk un2 hok2 os2 bare2 ea ed hd1 q2⟩
    | next => exact False.elim hq'
    | brk => exact False.elim hq'
    | cont => exact False.elim hq'
end
end L2
namespace PySem
namespace OEG
open PySem.W PySem.Calls PyProof.Rows PySem.HandSPX Builtin Builtin.ObjectAttr
section
variable {M : Model} {A : Around} {E : Value → Shared → Prop} {h : Heap} {g : Array GenState} {d : Drawn} {t : Nat} {os : OsState}
variable {nm q : Str} {C N : Addr} {bs bm bmB : List Value} {hdct : Bool} {sn : List Str} {sub : List Value} {ab : Bool} {col : Option Bool} {dd : Option Addr} {k0 k1 k2 k3 k5 : Option Value} {B newId initId : String}
end
section
variable {prog : Program} {w : World} {A : Around} {E : Value → Shared → Prop} {R : Result → Shared → Prop} {h : Heap} {g : Array GenState} {d : Drawn} {t : Nat} {os : OsState}
variable {nm q : Str} {C N : Addr} {bs bm bmB : List Value} {hdct : Bool} {sn : List Str} {sub : List Value} {ab : Bool} {col : Option Bool} {dd : Option Addr} {k0 k1 k2 k3 k5 : Option Value} {B newId initId : String}
end
end OEG
end PySem
namespace L2
open PySem PySem.Spec PyProof.Rows
section
variable {X : Cx} {kws : List Keyword} {tk : TA} {p pos : Pos} {xb : XBase}
end
end L2
namespace L2
open PySem PySem.Spec PyProof.Rows
section
variable {X : Cx} {p pos : Pos}
end
end L2
namespace DL
open PySem L2 PySem.Spec PyProof.Rows
variable [TabC]
/-- what __init__ keeps: no field; one field -/
def sp0 (K : PySem.W.Frag) (b : XBase) (C : Addr) : Sp := fun vs H Q _ => ∃ a, vs = [.ref a] ∧ OexG K b C ∧ H a = some (exo a C none) ∧ Q .non H
def sp1 (K : PySem.W.Frag) (b : XBase) (C : Addr) (f : Str) : Sp := fun vs H Q _ => ∃ a y, vs = [.ref a, y] ∧ OexG K b C ∧ PySem.W.findIn K (.ref C) f = some none ∧ H a = some (exo a C none) ∧
  ∀ dx, H dx = none → dx ≠ a → Q .non (upd (upd H dx (exd dx [(f, y)])) a (exo a C (some dx)))
/-- an exception class with such an __init__ -/
structure XC0 (P : Program) (w : World) (K : PySem.W.Frag) (mg : Str → Option Value) (base : Heap) (x : Str) : Prop where
  ex : ∃ (b : XBase) (C fI : Addr) (fd : FuncData), mg x = some (.ref C) ∧ OexG K b C ∧ PySem.W.findIn K (.ref C) "__init__" = some (some (.ref fI)) ∧ PySem.W.typeIn K (.ref fI) = some (.type "function") ∧ Binds K fd ["self"] [] ∧ FnOk P w K mg base CX0 1 fI fd ["self"] (sp0 K b C)
structure XC1 (P : Program) (w : World) (K : PySem.W.Frag) (mg : Str → Option Value) (base : Heap) (x f : Str) : Prop where
  ex : ∃ (b : XBase) (C fI : Addr) (fd : FuncData), mg x = some (.ref C) ∧ OexG K b C ∧ PySem.W.findIn K (.ref C) "__init__" = some (some (.ref fI)) ∧ PySem.W.typeIn K (.ref fI) = some (.type "function") ∧ PySem.W.findIn K (.ref C) f = some none ∧
    Binds K fd ["self", f] [] ∧ KBn K fd ["self", f] 1 [f] (fun us ws => us ++ ws) (fun vs zs => vs ++ zs) ∧ FnOk P w K mg base CX0 1 fI fd ["self", f] (sp1 K b C f)
omit [TabC] in
theorem FunD.kbn {K : PySem.W.Frag} {x qual : Str} {params : Arguments} {body : List Stmt} {scope : Scope} {f : Addr} {fd : FuncData} {ps ks : List Str} {n : Nat} (F : FunD K x qual params body scope [] [] f fd)
    (hbd : ∀ (kV doc pm : Value) (an : Option Addr) (cdv ct : Value) (us ws : List Value), us.length = n → ws.length = ks.length → bindArgs (PySem.W.fnOf x qual params body scope .none kV doc pm an cdv ct) ⟨us, ks.zip ws⟩ = pure (ps.zip (us ++ ws))) :
    KBn K fd ps n ks (fun us ws => us ++ ws) (fun vs zs => vs ++ zs) := by
  obtain ⟨oc, od, dV, kV, doc, pm, an, cdv, ct, osl, rfl, lk, hcd, hD, hK⟩ := F.ex
  refine ⟨fun s us ws hin h1 h2 => ?_, fun r1 r2 => r1.append r2⟩
  rcases hD with ⟨_, rfl⟩ | ⟨e, _⟩
  · exact .of_eq (hbd kV doc pm an cdv ct us ws h1 h2)
  · exact absurd rfl e
omit [TabC] in
theorem pass0' {X : Cx} : Passes CX0 X (fun _ _ _ => False) := fun _ _ _ _ _ _ _ z => z.elim
section
variable {X : Cx} {x f : Str} {p pos pos2 : Pos} {e : Expr} {te : TE} {me : EM}
theorem bs_raise1 (T : XC1 X.prog X.w X.K X.mg X.base x f) (hr : Room 2 X.A) (he : DE X e te me) (hc : X.calm = true := by rfl) (hg : Gl X x := by rfl) (hdb : (x == ("__debug__" : Str)) = false := by decide)
    (hs : starEach [e] X.env = (false, eval e X.env) :: starEach [] X.env := by rfl) (hpl : (backTo pos2 (starEach [] X.env)).any (·.1) = false := by rfl) :
    ∃ t, BS X (.Raise (some (.Call (.Name x p) [e] [] pos2)) none pos) t (fun ρ => (me ρ).map fun q => .ex (x, [(f, q.1)]) q.2) := by
  obtain ⟨b, C, fI, fd, hm, o, iC, tI, hno, hb, _, F1⟩ := T.ex
  refine ⟨fun W => _, fun W tk => ps_raise hc tk (pmk_oexG (ds := []) (dvs := []) o iC tI F1 hr hb .nil pass0' hg hm (pa_cons he.pe pa_nil hs) hdb hs hpl), fun W Γ σ H ρ ob E s e fn => ?_⟩
  obtain ⟨q, h1, rfl⟩ := Option.map_eq_some_iff.mp e
  refine he.q Γ σ H ρ q.1 q.2 _ s h1 fun v H1 a1 rv => ?_
  refine ⟨by simp, fun a na => ?_⟩
  refine ⟨a, v, rfl, o, hno, upd_same, fun dx nd ne => ?_⟩
  have nd1 : H1 dx = none := by rw [upd_ne ne] at nd; exact nd
  refine ⟨rfl, dx, [(f, v)], upd_same, by rw [upd_ne ne, upd_same], nd1, ?_⟩
  have ed : upd (del (upd (upd (upd H1 a (exo a C none)) dx (exd dx [(f, v)])) a (exo a C (some dx))) a) dx (.xd [(f, v)]) = upd H1 dx (.xd [(f, v)]) := by
    funext b
    by_cases hd : b = dx
    · rw [hd, upd_same, upd_same]
    · rw [upd_ne hd, upd_ne hd]
      by_cases hb : b = a
      · rw [hb, del_same, na]
      · rw [del_ne hb, upd_ne hb, upd_ne hd, upd_ne hb]
  rw [ed]
  have po := a1.sr.po (fm_new (o := .xd [(f, v)]) nd1)
  have nw : dx ∉ Γ.w σ q.2 := fun z => a1.sr.w_th dx z nd1
  exact fn σ _ (.ref C) (some dx) (a1.trans po).so ⟨C, [(f, v)], rfl, hm, ⟨nw, upd_same⟩, by simp, v, [], rfl, Rp.mo (po.mo a1.sr) _ _ rv, rfl⟩
end
end DL
namespace PySem.W
open PySem PySem.Spec PySem.Calls PyProof.Rows
section
variable {M : Model} {A : Around} {E : Value → Shared → Prop} {s : Shared} {K : Frag}
theorem wp_for_yield {σ : Type} {x : σ} {f : Value → σ → Sem (ForInStep σ)} {Q : σ → Shared → Prop} : ∀ {cs : List Value}, (∀ c ∈ cs, ∀ {R : ForInStep σ → Shared → Prop}, R (.yield x) s → wpAny M A (f c x) R E s) → Q x s → wpAny M A (forIn cs x f) Q E s
  | [], _, q => by rw [List.forIn_nil]; exact wpAny_pure q
  | c :: cs, h, q => by
    rw [List.forIn_cons]
    refine wpAny_bind (h c List.mem_cons_self ?_)
    exact wp_for_yield (fun d hd => h d (List.mem_cons_of_mem _ hd)) q
theorem wp_for_done {σ : Type} {x r : σ} {c : Value} {f : Value → σ → Sem (ForInStep σ)} {Q : σ → Shared → Prop} : ∀ {pre post : List Value}, (∀ c ∈ pre, ∀ {R : ForInStep σ → Shared → Prop}, R (.yield x) s → wpAny M A (f c x) R E s) →
    (∀ {R : ForInStep σ → Shared → Prop}, R (.done r) s → wpAny M A (f c x) R E s) → Q r s → wpAny M A (forIn (pre ++ c :: post) x f) Q E s
  | [], post, _, h, q => by
    rw [List.nil_append, List.forIn_cons]
    exact wpAny_bind (h (wpAny_pure q))
  | d :: pre, post, h', h, q => by
    rw [List.cons_append, List.forIn_cons]
    refine wpAny_bind (h' d List.mem_cons_self ?_)
    exact wp_for_done (fun d hd => h' d (List.mem_cons_of_mem _ hd)) h q
theorem exmAny_mem {cls : Value} : ∀ {cs : List Value} {b : Bool}, exmAny K cls cs = some b → ∀ c ∈ cs, ∃ d, exmOne K cls c = some d
  | [], _, _, _, h => by cases h
  | c :: cs, b, e, c', h => by
    obtain ⟨b1, d1, e1, e2, _⟩ := exmAny_cons e
    rcases List.mem_cons.mp h with rfl | h
    · exact ⟨b1, e1⟩
    · exact exmAny_mem e2 c' h
theorem exmAny_split {cls : Value} : ∀ {cs : List Value}, exmAny K cls cs = some true → ∃ pre c post, cs = pre ++ c :: post ∧ exmOne K cls c = some true ∧ ∀ d ∈ pre, exmOne K cls d = some false
  | [], h => by cases h
  | c :: cs, e => by
    obtain ⟨b1, d1, e1, e2, e3⟩ := exmAny_cons e
    cases b1 with
    | true => exact ⟨[], c, cs, rfl, e1, fun _ h => by cases h⟩
    | false =>
      have : d1 = true := by simpa using e3.symm
      subst this
      obtain ⟨pre, c', post, rfl, h1, h2⟩ := exmAny_split e2
      exact ⟨c :: pre, c', post, rfl, h1, fun d hd => by
        rcases List.mem_cons.mp hd with rfl | hd
        · exact e1
        · exact h2 d hd⟩
theorem exm_tupT {cs : List Value} {cls : Value} {tp e : Addr} {h : Heap} (X : K.In h) (LT : Looks M h (typeOf (.ref e)) cls) (hp : h.get? tp = some { cls := .type "tuple", data := .seq cs.toArray }) (hx : exmAny K cls cs = some true) :
    Looks M h (excMatches (.ref e) (.ref tp)) true := by
  intro A Q E s k₀ q
  obtain ⟨hh, g, d, tk, os⟩ := s
  have k : ∀ b o, h.get? b = some o → hh.get? b = some o := k₀
  have LT0 : Looks M h (isInstance (.ref tp) (.type "tuple")) true := ((Looks.ld hp).andThen .now).andThen (Looks.of_pure isSubtype_tuple_tuple)
  have LT := LT.keeps k
  have LT0 := LT0.keeps k
  have hp' := k _ _ hp
  have all : ∀ c ∈ cs, Looks M hh (isExcClass c) true := fun c hc => by
    obtain ⟨d, e⟩ := exmAny_mem hx c hc
    exact (exm_cls (M := M) X e).1.keeps k
  unfold excMatches
  refine wpAny_bind (LT0.at ?_)
  dsimp only
  rw [if_pos rfl]
  first
    | refine wpAny_bind (wpAny_seqItems hp' rfl ?_)
    | refine wpAny_bind (wpAny_bind (wpAny_seqItems hp' rfl (wpAny_pure ?_)))
  dsimp only [Option.getD_some, Option.getD]
  try refine wpAny_bind (wpAny_pure ?_)
  refine wpAny_bind (wp_for_yield (fun c hc R hr => ?_) ?_)
  · refine wpAny_bind ((all c hc).at ?_)
    simp only [Bool.not_true, Bool.false_eq_true, if_false]
    exact wpAny_pure hr
  refine wpAny_bind (LT.at ?_)
  obtain ⟨pre, c, post, rfl, h1, h2⟩ := exmAny_split hx
  have S1 := (exm_cls (M := M) X h1).2.keeps k
  refine wpAny_bind (wp_for_done (r := (some true, ())) (fun d hd R hr => ?_) (fun {R} hr => ?_) ?_)
  · refine wpAny_bind (((exm_cls (M := M) X (h2 d hd)).2.keeps k).at ?_)
    simp only [Bool.false_eq_true, if_false]
    exact wpAny_pure hr
  · refine wpAny_bind (S1.at ?_)
    rw [if_pos rfl]
    exact wpAny_pure hr
  · exact wpAny_pure q
end
end PySem.W
namespace L2
open PySem PySem.Spec PyProof.Rows
/-- an exception of ours stands at a -/
def ExA (a : Addr) (cls : Value) (d : Option Addr) : HO := .ext fun h => ∃ oe vs, h.get? a = some oe ∧ Zc cls d oe ∧ oe.data = .fields vs
section
variable {X : Cx} {pins : List (Addr × Obj)} {σ : St} {H : Hp} {s : Shared}
/-- an object that is known is tracked from now on -/
theorem Inv.track {a : Addr} {cls : Value} {d : Option Addr} {oe : Obj} {vs : Array Value} (I : Inv X pins σ H s) (ha : s.heap.get? a = some oe) (hz : Zc cls d oe) (hd : oe.data = .fields vs) (na : H a = none) (n0 : X.s_0.heap.get? a = none)
    (nL : a ≠ X.env.locals) (np : ∀ p ∈ X.pn ++ pins, p.1 ≠ a) : Inv X pins σ (upd H a (ExA a cls d)) s := by
  have ne0 : ∀ b o, X.s_0.heap.get? b = some o → b ≠ a := fun b o e z => by rw [z, n0] at e; cases e
  refine ⟨I.ok, I.os, I.bare, ⟨I.base.keep, I.base.slot, fun b o e n hq => ?_, I.base.there, fun b xs e => ?_, fun b o u e => ?_, fun b ps e => ?_⟩, I.loc, I.cell, ?_, fun x c e => ?_, fun p hp => ?_, fun b u e => ?_, I.len⟩
  · rw [upd_ne (ne0 b o e)]
    exact I.base.free b o e n hq
  · have q := I.base.tups b xs e
    rw [upd_ne (ne_of_none q na)]
    exact q
  · have q := I.base.frzs b o u e
    rw [upd_ne (ne_of_none q na)]
    exact q
  · obtain ⟨m, q⟩ := I.base.tbls b ps e
    exact ⟨m, by rw [upd_ne (ne_of_none q na)]; exact q⟩
  · rw [upd_ne (Ne.symm nL)]
    exact I.free
  · have nc : c ≠ a := fun z => by
      obtain ⟨v, o, ho, hdd⟩ := I.cell x c e
      rw [z, ha] at ho
      cases ho
      rw [hd] at hdd
      cases hdd
    rw [upd_ne nc]
    exact I.freeC x c e
  · obtain ⟨e, n, ne, nf, dd⟩ := I.pin p hp
    exact ⟨e, by rw [upd_ne (np p hp)]; exact n, ne, nf, dd⟩
  · by_cases hb : b = a
    · subst hb
      rw [upd_same] at e
      cases e
      exact ⟨⟨oe, vs, ha, hz, hd⟩, ⟨oe, ha⟩, fun h1 h2 ⟨o, v, q, r⟩ k => ⟨o, v, k o q, r⟩⟩
    · rw [upd_ne hb] at e
      exact (I.hok b u e).stay (fun c v _ q => q) (fun c q => by rw [upd_ne (ne_of_none q na)]; exact q) fun c xs q => by rw [upd_ne (ne_of_none q na)]; exact q
/-- the names of classes, as a tuple's items -/
inductive NamesOk (X : Cx) : List Expr → List Value → Prop
  | nil : NamesOk X [] []
  | cons {x : Str} {p : Pos} {c : Value} {es : List Expr} {cs : List Value} (h : Names X x c) (r : NamesOk X es cs) : NamesOk X (.Name x p :: es) (c :: cs)
theorem ld_name {x : Str} {c : Value} {np : Pos} {Q : Value → Shared → Prop} {E : Value → Shared → Prop} (I : Inv X pins σ H s) (hc : Names X x c) (q : Q c s) : wpAny (model X.prog X.w) X.A (eval (.Name x np) X.env) Q E s := by
  obtain ⟨hg, hdbg, hm | ⟨hm, hv, hnn⟩⟩ := hc
  · exact ld_glob I hg hm q hdbg
  · exact ld_blt I hg hm hv q hnn hdbg
theorem names_spliced {pos : Pos} {E : Value → Shared → Prop} (I : Inv X pins σ H s) : ∀ {es : List Expr} {cs : List Value}, NamesOk X es cs → ∀ {Q : List Value → Shared → Prop}, Q cs s → wpAny (model X.prog X.w) X.A (spliced (backTo pos (starEach es X.env))) Q E s := by
  intro es cs h
  induction h with
  | nil => intro Q q; exact Calls.spliced_nil q
  | @cons x p c es cs h r ih =>
    intro Q q
    show wpAny _ _ (spliced ((false, eval (.Name x p) X.env) :: backTo pos (starEach es X.env))) _ _ s
    exact Calls.spliced_cons (ld_name I h (ih q))
/-- the class, or the classes, that an except clause names -/
inductive HTest (X : Cx) : Expr → List Value → Prop
  | one {x : Str} {p : Pos} {c : Value} (h : Names X x c) : HTest X (.Name x p) [c]
  | many {es : List Expr} {cs : List Value} {k : Nat} {p : Pos} (h : NamesOk X es cs) (l : cs.length ≤ 100) : HTest X (.Tuple es k p) cs
end
end L2
namespace L2
open PySem PySem.Spec PyProof.Rows
theorem HandSflying_keeps {base h h' : Heap} {l : List Env} {e : Addr} {Z : Obj → Prop} (x : HandSPX.FlyingZ base l e Z h) (k : ∀ b o, h.get? b = some o → h'.get? b = some o) : HandSPX.FlyingZ base l e Z h' := by
  obtain ⟨h1, h2, h3, oe, vs, T, oT, ts, he, hz, hd, hv, hn, hne, hT, hdT, hts⟩ := x
  exact ⟨fun b o q => k b o (h1 b o q), h2, h3.of_keeps fun b o q _ => ⟨o, k b o q, rfl⟩, oe, vs, T, oT, ts, k _ _ he, hz, hd, hv, hn, hne, k _ _ hT, hdT, hts⟩
section
variable {X : Cx} {pins : List (Addr × Obj)} {σ : St} {H : Hp} {s : Shared}
/-- the clause's test, taken -/
theorem htest_ok {tst : Expr} {cs : List Value} {a : Addr} {oe : Obj} {cls : Value} {pn : List (Addr × Obj)} {h3 : Heap} {Q : Bool → Shared → Prop} {E : Value → Shared → Prop} (ht : HTest X tst cs) (I : Inv (X.suite a ((a, oe) :: pn)) [] σ H { s with heap := h3 }) (he : h3.get? a = some oe) (hc : oe.cls = cls)
    (hm : PySem.W.exmAny X.K cls cs = some true) (q : ∀ h5, (∀ b o, h3.get? b = some o → h5.get? b = some o) → Q true { s with heap := h5 }) :
    wpAny (model X.prog X.w) (X.A.mark (some (.ref a))) (eval tst X.env) (fun v s' => wpAny (model X.prog X.w) (X.A.mark (some (.ref a))) (excMatches (.ref a) v) Q E s') E { s with heap := h3 } := by
  have LT : ∀ h5, (∀ b o, h3.get? b = some o → h5.get? b = some o) → PySem.W.Looks (model X.prog X.w) h5 (typeOf (.ref a)) cls := fun h5 k5 A Q E s k q => wpAny_typeOf_ref (k _ _ (k5 _ _ he)) (by rw [hc]; exact q)
  have nm : ∀ {es : List Expr} {us : List Value}, NamesOk X es us → NamesOk (X.suite a ((a, oe) :: pn)) es us := fun h => by
    induction h with
    | nil => exact .nil
    | cons h _ ih => exact .cons h ih
  cases ht with
  | @one x p c h =>
    obtain ⟨b1, d1, e1, e2, e3⟩ := PySem.W.exmAny_cons hm
    have : d1 = false := (Option.some.inj e2).symm
    subst this
    have : b1 = true := by simpa using e3.symm
    subst this
    have LM := PySem.W.exm_one (M := model X.prog X.w) I.kIn (LT h3 fun _ _ z => z) e1
    exact ld_name (X := X.suite a ((a, oe) :: pn)) I h (LM.here (q h3 fun _ _ z => z))
  | @many es cs k p h l =>
    refine wpAny_Tuple_spliced (names_spliced (X := X.suite a ((a, oe) :: pn)) I (nm h) ⟨by rw [sizeLine_eq]; omega, ?_⟩)
    have kk : ∀ b o, h3.get? b = some o → (h3.push { cls := .type "tuple", data := .seq cs.toArray }).get? b = some o := fun b o z => Heap.get?_push_of_some _ z
    have LM := PySem.W.exm_tupT (M := model X.prog X.w) (cs := cs) (tp := h3.objs.size) (h := h3.push { cls := .type "tuple", data := .seq cs.toArray }) (I.kIn.keeps kk) (LT _ kk) (Heap.get?_push_size _ rfl) hm
    exact LM.here (q _ kk)
end
/-- what the clause wishes of an exception of the body -/
def wKeep (K : PySem.W.Frag) (cs : List Value) (i j : Nat) (D : Ends) : WX := fun cls d σ H => PySem.W.exmAny K cls cs = some true ∧ ∀ a, H a = none → D.nx (((σ.set i (some (.ref a))).set j (some (.ref a))).set i none) (upd H a (ExA a cls d))
section
variable {X : Cx} {n y : Str} {cs : List Value} {i j : Nat} {body : List Stmt} {tst : Expr} {pos pos' py pn_ pa : Pos} {tb : WX → TS}
theorem ps_try_keep (hs : X.stack = X.env :: X.outer) (hf : X.env.frame = some X.env.locals) (hex : X.ex = []) (hN : X.N.Nodup) (hi : X.N[i]? = some n) (hln : X.env.kindOf n = some .local) (hj : X.N[j]? = some y) (hlj : X.env.kindOf y = some .local) (hij : i ≠ j) (hc : HTest X tst cs)
    (hdn : (n == ("__debug__" : Str)) = false) (hcn : (n == ("__classdict__" : Str)) = false) (hsw : swapsWith (.Name n pn_) (some (.Name y py)) pa.line X.env = pure false)
    (hb : ∀ (W : WX) (pn : List (Addr × Obj)) (xe : Value → Shared → Prop), Takes (X.tr pn xe) W → PassesOwn (model X.prog X.w) X.A X.env xe → PSs (X.tr pn xe) body (tb W)) :
    PS X (.Try body [.ExceptHandler (some tst) (some n) [.Assign [.Name y py] (.Name n pn_) pa] pos'] [] [] pos) (fun D σ H => tb (wKeep X.K cs i j D) D σ H) := by
  refine ⟨fun pins s σ H D I h => ?_⟩
  have ok := I.ok
  have hfr : X.A.frames = some (X.env :: X.outer) := by rw [ok.frames, hs]
  have hloc : Loc X.env.scope n := .inl hln
  refine wpAny_Try_except ?_
  refine wpAny_mono ((hb (wKeep X.K cs i j D) (X.pn ++ pins) (fun e s₁ => wpAny (model X.prog X.w) X.A (noteFrame e X.env) (fun _ s₂ => wpAny (model X.prog X.w) X.A (setFlight e none) (fun _ s₃ =>
    wpAny (model X.prog X.w) X.A (handleBy e X.env [.ExceptHandler (some tst) (some n) [.Assign [.Name y py] (.Name n pn_) pa] pos']) (SP X pins D) X.xe s₃) X.xe s₂) X.xe s₁) (fun u s' xx => ?_) PassesOwn.looking).run [] s σ H D (I.toTry _) h) (fun f s1 hsp => ?_) (fun e s1 he => he)
  · -- the catch
    obtain ⟨a, B, sI, pins', σ', H', cls, d, rfl, J', nb, up, sky, na, os, ag, hm, hnx⟩ := xx
    have J : Inv X pins σ' H' sI := J'.ofTry ok
    have sky' : Sky B (X.env :: X.outer) a (Zc cls d) X.env.locals s'.heap := by rw [← hs]; exact sky
    show wpAny (model X.prog X.w) X.A (noteFrame (.ref a) X.env) _ _ _
    refine Sky.land Zc.steady hfr hf sky' fun h3 fl3 up3 => ?_
    have J3 : Inv X pins σ' H' { s' with heap := h3 } := J.landed nb fl3.1 (up.trans up3) os ag
    obtain ⟨oe3, vs3, he3, hz3, hd3⟩ := fl3.there
    have nBa : B.get? a = none := fl3.2.1
    have notFr : ∀ {h : Heap} {o : Obj} {vs : Array Value}, h.FunFrames B (X.env :: X.outer) → h.get? a = some o → o.data = .fields vs → a ∉ frs (X.env :: X.outer) := fun {h o vs} ff e dd hm => by
      obtain ⟨_, o', e', hnf⟩ := ff.mem hm
      rw [e] at e'; cases e'
      exact hnf _ dd
    have nfr := notFr fl3.2.2.1 he3 hd3
    have nL : a ≠ X.env.locals := fun z => nfr (List.mem_filterMap.mpr ⟨X.env, List.mem_cons_self, by rw [hf, z]⟩)
    have nF : a ∉ X.fs := fun hm => by
      obtain ⟨e, he, q⟩ := List.mem_filterMap.mp hm
      exact nfr (List.mem_filterMap.mpr ⟨e, List.mem_cons_of_mem _ he, q⟩)
    have nI : sI.heap.get? a = none := by
      cases e : sI.heap.get? a with
      | none => rfl
      | some o => rw [nb a o e (by rw [hs]; exact nfr)] at nBa; cases nBa
    have n0 : X.s_0.heap.get? a = none := by
      cases e : X.s_0.heap.get? a with
      | none => rfl
      | some o =>
        obtain ⟨o', e'⟩ := J.base.there a o e (by rw [hex]; exact fun z => nomatch z)
        rw [nI] at e'; cases e'
    have npin : ∀ p ∈ X.pn ++ pins, p.1 ≠ a := fun p hp z => by
      have e := (J.pin p hp).1
      rw [z, nI] at e; cases e
    have S3 := J3.suite he3 hd3 na nL nF
    refine wpAny_handleBy_cons (codeAny_handlers_test ?_) (by intro q; cases q)
    refine htest_ok hc S3 he3 hz3.1 hm fun h3' k3' => ?_
    have fl3' := HandSflying_keeps fl3 k3'
    have up3' : s'.heap.UpToSlots h3' := up3.trans (Heap.UpToSlots.of_keeps k3')
    refine codeAny_handlers_suite_as ?_
    refine HandSPX.lands_againZ fl3' fun h4 fl4 up4 => ?_
    have J4 : Inv X pins σ' H' { s' with heap := h4 } := J.landed nb fl4.1 ((up.trans up3').trans up4) os ag
    obtain ⟨oe4, vs4, he4, hz4, hd4⟩ := fl4.there
    have S4 := J4.suite he4 hd4 na nL nF
    refine store_ok (X := X.suite a ((a, oe4) :: (X.pn ++ pins))) (v := .ref a) S4 hN hi hloc rfl (fun s5 S5 => ?_) (.inr hln)
    have suite : PSs (X.suite a ((a, oe4) :: (X.pn ++ pins))) [.Assign [.Name y py] (.Name n pn_) pa] (tAsg (tVar i) (gName j)) := pss_one (ps_set hN hj (.inl hlj) (pe_var hi (.inl hln) hdn hcn) hsw (.inr hlj))
    have il : i < σ'.length := by
      rw [J.len]
      exact (List.getElem?_eq_some_iff.mp hi).1
    refine wpAny_mono (suite.run [] s5 _ H' { nx := fun σ6 H6 => σ6 = (σ'.set i (some (.ref a))).set j (some (.ref a)) ∧ H6 = H', rt := fun _ _ => False, bk := fun _ _ => False, ct := fun _ _ => False } S5 ⟨.ref a, List.getElem?_set_self il, rfl, rfl⟩) (fun f s6 hsp => ?_) (fun _ _ z => False.elim z)
    cases f with
    | next =>
      obtain ⟨σ6, H6, S6, rfl, rfl⟩ := hsp
      refine gone_ok (X := X.suite a ((a, oe4) :: (X.pn ++ pins))) S6 hN hi hln fun s7 S7 => ?_
      have hp := (S7.pin (a, oe4) (List.mem_append.mpr (.inl List.mem_cons_self))).1
      have J7 : Inv X pins _ _ s7 := S7.unsuite ok
      exact ⟨_, _, J7.track hp hz4 hd4 na n0 nL npin, hnx a na⟩
    | brk =>
      obtain ⟨σ6, H6, S6, q6⟩ := hsp
      exact q6.elim
    | cont =>
      obtain ⟨σ6, H6, S6, q6⟩ := hsp
      exact q6.elim
    | ret u =>
      obtain ⟨v6, σ6, H6, S6, r6, q6⟩ := hsp
      exact q6.elim
  · cases f with
    | next =>
      obtain ⟨σ', H', J', q⟩ := hsp
      exact wpAny_execs_nil ⟨σ', H', J'.ofTry ok, q⟩
    | brk =>
      obtain ⟨σ', H', J', q⟩ := hsp
      exact ⟨σ', H', J'.ofTry ok, q⟩
    | cont =>
      obtain ⟨σ', H', J', q⟩ := hsp
      exact ⟨σ', H', J'.ofTry ok, q⟩
    | ret u =>
      obtain ⟨v, σ', H', J', r, q⟩ := hsp
      exact ⟨v, σ', H', J'.ofTry ok, r, q⟩
end
end L2
namespace DL
open PySem L2 PySem.Spec PyProof.Rows
variable [TabC]
def tOfB (G : Gc) (m : BM) : WX → TS := fun W E σ H => ∃ (Γ : Gam) (ρ : Env) (o : OB), Sr Γ G H σ ρ ∧ m ρ = some o ∧ FinB Γ G σ ρ H E W o
theorem BSs.can {X : Cx} {sts : List Stmt} {t : WX → TS} {m : BM} (h : BSs X sts t m) : BSs X sts (tOfB X.G m) m :=
  ⟨fun W tk => ⟨fun pins s σ H D I ⟨Γ, ρ, o, sr, e, f⟩ => (h.pe W tk).run pins s σ H D I (h.q W Γ σ H ρ o D sr e f)⟩, fun W Γ σ H ρ o E s e f => ⟨Γ, ρ, o, s, e, f⟩⟩
omit [TabC] in
/-- try: body / except the classes' names as n: y = n; xs: what may be raised there -/
def sTry (xs : List Str) (i j : Nat) (mb : BM) : SM := fun ρ => (mb ρ).bind fun o => match o with
  | .ok o => some o
  | .ex x ρ1 => if decide (x.1 ∈ xs) = true then (match ρ1[i]? with
    | some .e => (putV j (.exn x.1 x.2) ρ1).map .nx
    | _ => none) else none
omit [TabC] in
theorem ownO_st {σ : L2.St} {ρ : Env} {i : Nat} {x : Option V} (h : ρ[i]? = some .e) : ownO (σ.set i x) ρ = ownO σ ρ := by
  refine ownO_congr (by simp) rfl fun k => ?_
  by_cases q : k = i
  · subst q
    exact .inr ⟨by rw [h]; trivial, by rw [h]; trivial⟩
  · exact .inl ⟨List.getElem?_set_ne (Ne.symm q), rfl⟩
/-- an empty slot may hold what it will -/
theorem Sr.ste {Γ : Gam} {G : Gc} {H : Hp} {σ : L2.St} {ρ : Env} {i : Nat} {x : Option V} (s : Sr Γ G H σ ρ) (h : ρ[i]? = some .e) : Sr Γ G H (σ.set i x) ρ := by
  have eo := ownO_st (σ := σ) (x := x) h
  refine ⟨by simpa using s.len, by rw [eo]; exact s.nd, by rw [eo]; exact s.out, fun k t ht => ?_, s.pin, s.pnd, s.th, s.tb⟩
  show ∃ y, _ ∧ SlR G H (ownO (σ.set i x) ρ ++ Γ.U) Γ.π k y t
  rw [eo]
  by_cases q : k = i
  · subst q
    rw [h] at ht
    cases ht
    have hl : k < (σ.set k x).length := by
      rw [List.length_set, s.len]
      exact (List.getElem?_eq_some_iff.mp h).1
    exact ⟨_, List.getElem?_eq_getElem hl, trivial⟩
  · rw [List.getElem?_set_ne (Ne.symm q)]
    exact s.sl k t ht
structure TryH (X : Cx) (tst : Expr) (xs : List Str) : Prop where
  ex : ∃ us, HTest X tst us ∧ ∀ C ∈ xs, ∃ Ca, X.mg C = some (.ref Ca) ∧ PySem.W.exmAny X.K (.ref Ca) us = some true
section
variable {X : Cx} {n y : Str} {body : List Stmt} {tst : Expr} {pos pos' py pn_ pa : Pos} {m : BM} {xs : List Str}
theorem ds_try (i j : Nat) (hij : i ≠ j) (hN : X.N.Nodup) (ht : TryH X tst xs)
    (hb : ∀ (pn : List (Addr × Obj)) (xe : Value → Shared → Prop), PassesOwn (model X.prog X.w) X.A X.env xe → ∃ t, BSs (X.tr pn xe) body t m)
    (hs : X.stack = X.env :: X.outer := by rfl) (hf : X.env.frame = some X.env.locals := by rfl) (hex : X.ex = [] := by rfl) (hi : X.N[i]? = some n := by rfl) (hj : X.N[j]? = some y := by rfl)
    (hln : X.env.kindOf n = some .local := by rfl) (hlj : X.env.kindOf y = some .local := by rfl) (hdn : (n == ("__debug__" : Str)) = false := by decide) (hcn : (n == ("__classdict__" : Str)) = false := by decide)
    (hsw : swapsWith (.Name n pn_) (some (.Name y py)) pa.line X.env = pure false := by rfl) :
    ∃ t, DS X (.Try body [.ExceptHandler (some tst) (some n) [.Assign [.Name y py] (.Name n pn_) pa] pos'] [] [] pos) t (sTry xs i j m) := by
  obtain ⟨us, hT, hC⟩ := ht.ex
  refine ⟨_, ps_try_keep (tb := tOfB X.G m) hs hf hex hN hi hln hj hlj hij hT hdn hcn hsw fun W pn xe tk ps => ?_, fun Γ σ H ρ o E s h f => ?_⟩
  · obtain ⟨t, ht⟩ := hb pn xe ps
    exact ht.can.pe W tk
  · obtain ⟨ob, e1, h⟩ := Option.bind_eq_some_iff.mp h
    refine ⟨Γ, ρ, ob, s, e1, ?_⟩
    cases ob with
    | ok o' => cases h; exact f
    | ex x ρ1 =>
      simp only at h
      split at h
      · rename_i hx
        have hx := of_decide_eq_true hx
        split at h
        · rename_i he
          obtain ⟨ρ2, e2, rfl⟩ := Option.map_eq_some_iff.mp h
          intro σ' H' cls d a rx
          obtain ⟨Ca, vs, rfl, g, hd, hl, rf⟩ := rx
          obtain ⟨Ca', g', hm⟩ := hC x.1 hx
          have : Ca' = Ca := by
            have z := g'.symm.trans (show X.mg x.1 = _ from g)
            cases z; rfl
          subst this
          refine ⟨hm, fun b nb => ?_⟩
          have nw : b ∉ Γ.w σ' ρ1 := fun z => a.sr.w_th b z nb
          have po := a.sr.po (fm_new (o := ExA b (.ref Ca') d) nb)
          have mo := po.mo a.sr
          have r : Rp X.G (upd H' b (ExA b (.ref Ca') d)) (Γ.w σ' ρ1) (.exn x.1 x.2) (.ref b) := ⟨b, Ca', d, vs, rfl, nw, upd_same, g, hd.mo mo, hl, RpF.mo mo _ _ rf⟩
          have p2 := po.sr.put e2 r
          have he2 : ρ2[i]? = some .e := by
            unfold putV at e2
            split at e2
            · cases e2
            · cases e2
              rw [List.getElem?_set_ne hij.symm]
              exact he
            · cases e2
          have s3 := p2.sr.ste (x := none) he2
          have eσ : ((σ'.set i (some (.ref b))).set j (some (.ref b))).set i none = (σ'.set j (some (.ref b))).set i none := by
            rw [List.set_comm _ _ hij, List.set_set]
          rw [eσ]
          refine f _ _ (a.trans (po.so.trans ⟨s3, p2.fm, fun c z => p2.nw c ?_, p2.tr⟩))
          rw [ownO_st he2] at z
          exact z
        · cases h
      · cases h
end
/-- the classes' names, as values -/
inductive CNames (X : Cx) : List Expr → List V → List Value → Prop
  | nil : CNames X [] [] []
  | own {x : Str} {p : Pos} {C : Addr} {es : List Expr} {vs : List V} {us : List Value} (hg : Gl X x) (hd : (x == ("__debug__" : Str)) = false) (hm : X.mg x = some (.ref C)) (r : CNames X es vs us) : CNames X (.Name x p :: es) (.ref C :: vs) (.ref C :: us)
  | ty {x : Str} {T : String} {p : Pos} {es : List Expr} {vs : List V} {us : List Value} (hg : Gl X x) (hd : (x == ("__debug__" : Str)) = false) (hm : X.mg x = none) (hv : bootBuiltins x = some (.type T)) (hn : x ≠ "__name__") (r : CNames X es vs us) : CNames X (.Name x p :: es) (.ty T :: vs) (.type T :: us)
omit [TabC] in
theorem CNames.paired {X : Cx} {es : List Expr} {vs : List V} {us : List Value} (h : CNames X es vs us) : Paired ClsV vs us := by
  induction h with
  | nil => exact .nil
  | own _ _ _ _ ih => exact .cons (.own _) ih
  | ty _ _ _ _ _ _ ih => exact .cons (.ty _) ih
omit [TabC] in
theorem CNames.pa {X : Cx} {es : List Expr} {vs : List V} {us : List Value} (h : CNames X es vs us) : PA X es (fun σ H Q => Q vs H) := by
  induction h with
  | nil => exact pa_nil
  | @own x p C es vs us hg hd hm r ih => exact pa_cons (te := tC (.ref C)) (pe_glob (v := .ref C) hg hm rfl hd) ih rfl
  | @ty x T p es vs us hg hd hm hv hn r ih => exact pa_cons (te := tC (.ty T)) (pe_bltn (v := .ty T) hg hm hv rfl hn hd) ih rfl
/-- the class of an exception, for isinstance -/
structure ExK (K : PySem.W.Frag) (C : Addr) : Prop where
  cl : (PySem.W.clsIn K C).isSome = true
  ga : PySem.W.findIn K (.ref C) "__getattribute__" = some (some (.builtin "BaseException.__getattribute__"))
  gt : PySem.W.findIn K (.ref C) "__getattr__" = some none
  sb : PySem.W.subIn K (.ref C) (.type "BaseException") = some true
  ac : PySem.W.findIn K (.ref C) "__class__" = some (some (.builtin "object.__class__"))
  sp : PySem.W.specialIn K (.builtin "object.__class__") "__get__" = some (some (.builtin "getset_descriptor.__get__"))
  tk : PySem.W.takesIn K (.builtin "object.__class__") = some true
  mo : PySem.W.mroIn K C (.type "object") = some true
  hd : PySem.W.hasDictIn K C = true
/-- None, or an exception: its type -/
def TyE (G : Gc) (H : Hp) (v : V) (t : Value) : Prop := (v = .non ∧ t = .type "NoneType") ∨ ∃ a Ca d vs, v = .ref a ∧ H a = some (ExH a (.ref Ca) d) ∧ (∀ dx, d = some dx → H dx = some (.xd vs)) ∧ ExK G.K Ca ∧ t = .ref Ca
section
variable {X : Cx}
omit [TabC] in
theorem kit_e {pins : List (Addr × Obj)} {σ : L2.St} {H : Hp} {s : Shared} {v : V} {u t : Value} (I : Inv X pins σ H s) (rv : RelV v u) (ty : TyE X.G H v t) : ∃ P : Heap → Prop, PySem.W.KitX X.K u t P ∧ P s.heap ∧ u ≠ .builtin "__main__.__loader__#opaque" := by
  rcases ty with ⟨rfl, rfl⟩ | ⟨a, Ca, d, vs, rfl, ha, hx, ek, rfl⟩
  · cases (show u = Value.none from rv)
    exact ⟨_, PySem.W.kitx_none, True.intro, fun z => nomatch z⟩
  · cases (show u = Value.ref a from rv)
    obtain ⟨⟨oe, ws, e1, e2, e3⟩, _, _⟩ := I.hok a _ ha
    obtain ⟨od, J⟩ : ∃ od, PySem.W.InstAt s.heap a oe Ca od := by
      cases d with
      | none => exact ⟨none, e1, e2.1, by unfold PySem.W.notCls; rw [e3] <;> rfl, by rw [e2.2]; trivial⟩
      | some dx =>
        have hx' : ObjOk X.prog X.w H s.heap dx (.xd vs) := I.hok dx _ (hx dx rfl)
        obtain ⟨mA, hns, hr⟩ := hx'
        obtain ⟨od, ho, hl⟩ := lookIn_ns hns
        exact ⟨some od, e1, e2.1, by unfold PySem.W.notCls; rw [e3] <;> rfl, by rw [e2.2]; exact ho⟩
    exact ⟨_, PySem.W.kitx_exc ek.cl ek.ga ek.gt ek.sb ek.ac ek.sp ek.tk ek.mo, J, fun z => nomatch z⟩
def rIsE1 (G : Gc) : List V → Hp → VK → Prop := fun xs H Q => ∃ (x c : V) (t u : Value) (b : Bool), xs = [x, c] ∧ ClsV c u ∧ TyE G H x t ∧ PySem.W.kitOne G.K t u = some b ∧ Q (.bl b) H
def rIsET (G : Gc) : List V → Hp → VK → Prop := fun xs H Q => ∃ (x : V) (tp : Addr) (cs : List V) (t : Value) (us : List Value) (b : Bool), xs = [x, .ref tp] ∧ H tp = some (.tup cs) ∧ Paired ClsV cs us ∧ TyE G H x t ∧ PySem.W.kitAny G.K t us = some b ∧ Q (.bl b) H
omit [TabC] in
theorem call_isE1 : CallR X (.builtin "isinstance") (rIsE1 X.G) := by
  intro pins s σ H xs us Q I r h
  obtain ⟨x, c, t, u, b, rfl, k, ty, e, q⟩ := h
  obtain ⟨u1, u2, rfl, r1, r2⟩ := vals2 r
  have e2 := k.eq r2
  subst e2
  obtain ⟨P, Z, p, hx⟩ := kit_e I r1 ty
  exact PySem.W.kia_one Z I.kIn p e hx fun tk => ⟨.bl b, H, I.tok tk, rfl, q⟩
omit [TabC] in
theorem call_isET : CallR X (.builtin "isinstance") (rIsET X.G) := by
  intro pins s σ H xs us Q I r h
  obtain ⟨x, tp, cs, t, ws, b, rfl, hT, k, ty, e, q⟩ := h
  obtain ⟨u1, u2, rfl, r1, r2⟩ := vals2 r
  cases (show u2 = Value.ref tp from r2)
  obtain ⟨P, Z, p, hx⟩ := kit_e I r1 ty
  obtain ⟨_, its, rv, o, h1, h2, n, h3⟩ := (show ObjOk X.prog X.w H s.heap tp (.tup cs) from I.hok tp _ hT)
  have e3 := ClsV.all k rv
  subst e3
  obtain ⟨oc, od, dt, sl⟩ := o
  simp only at h2 h3
  subst h2 h3
  exact PySem.W.kia_tup Z I.kIn p h1 e hx fun tk => ⟨.bl b, H, I.tok tk, rfl, q⟩
end
omit [TabC] in
/-- isinstance by names: tb tells of each class its own and its bases' names -/
def isXD (tb : List (Str × List Str)) (Ts : List Str) : D → Option D
  | .non => some (.bl false)
  | .exn C _ => (tb.lookup C).map fun sup => .bl (Ts.any fun T => sup.contains T)
  | _ => none
/-- what the classes say -/
structure IsTb (X : Cx) (tb : List (Str × List Str)) (Ts : List Str) (us : List Value) : Prop where
  k : ∀ C sup, tb.lookup C = some sup → ∃ Ca, X.mg C = some (.ref Ca) ∧ ExK X.K Ca ∧ PySem.W.kitAny X.K (.ref Ca) us = some (Ts.any fun T => sup.contains T)
  n : PySem.W.kitAny X.K (.type "NoneType") us = some false
section
variable {X : Cx} {e : Expr} {m : EM} {te : TE} {pos p p2 pt : Pos} {kk : Nat} {es : List Expr} {tb : List (Str × List Str)} {Ts : List Str} {nT : Str}
theorem tyE_of {H : Hp} {W : List Addr} {d : D} {v : V} {us : List Value} {z : D} (T : IsTb X tb Ts us) (r : Rp X.G H W d v) (h : isXD tb Ts d = some z) : ∃ t b, TyE X.G H v t ∧ PySem.W.kitAny X.K t us = some b ∧ z = .bl b := by
  cases d with
  | non =>
    cases h
    cases (show v = .non from r)
    exact ⟨_, _, .inl ⟨rfl, rfl⟩, T.n, rfl⟩
  | exn C fs =>
    obtain ⟨sup, h1, rfl⟩ := Option.map_eq_some_iff.mp h
    obtain ⟨Ca, g, ek, k⟩ := T.k C sup h1
    obtain ⟨a, Ca', dd, vs, rfl, n, ha, g', hx, _, _⟩ := r
    have : Ca' = Ca := by
      have z := (show X.mg C = _ from g').symm.trans g
      cases z; rfl
    subst this
    refine ⟨_, _, .inr ⟨a, Ca', dd, vs, rfl, ha, fun dx e => ?_, ek, rfl⟩, k, rfl⟩
    subst e
    exact hx.2
  | _ => cases h
omit [TabC] in
theorem kitAny_one {K : PySem.W.Frag} {t u : Value} {b : Bool} (h : PySem.W.kitAny K t [u] = some b) : PySem.W.kitOne K t u = some b := by
  unfold PySem.W.kitAny at h
  split at h
  · rename_i e; rw [e]; exact h
  · rename_i e; rw [e]; exact h
  · cases h
theorem de_isX1 (hm : X.mg "isinstance" = none) (hc : ∃ vs us, CNames X [.Name nT p2] vs us ∧ IsTb X tb Ts us) (he : DE X e te m) (hg : Gl X "isinstance" := by rfl)
    (hs : starEach [e, .Name nT p2] X.env = (false, eval e X.env) :: starEach [.Name nT p2] X.env := by rfl) (hpl : (backTo pos (starEach [.Name nT p2] X.env)).any (·.1) = false := by rfl) :
    ∃ t, DE X (.Call (.Name "isinstance" p) [e, .Name nT p2] [] pos) t (eOp1 (isXD tb Ts) m) := by
  obtain ⟨vs, us, cn, T⟩ := hc
  refine ⟨_, pe_callB call_isE1 hg hm (by decide +kernel) (pa_cons he.pe cn.pa hs) (by decide) (by decide) hs hpl, fun Γ σ H ρ d ρ' Q s h k => ?_⟩
  obtain ⟨q, e1, h⟩ := Option.bind_eq_some_iff.mp h
  obtain ⟨z, e2, h⟩ := Option.map_eq_some_iff.mp h
  cases h
  refine he.q Γ σ H ρ _ _ _ s e1 fun v H1 a1 r1 => ?_
  obtain ⟨t, b, ty, kt, rfl⟩ := tyE_of T r1 e2
  have pr := cn.paired
  obtain ⟨c, u, rfl, rfl, cu⟩ : ∃ c u, vs = [c] ∧ us = [u] ∧ ClsV c u := by
    cases cn with
    | own _ _ _ r => cases r; exact ⟨_, _, rfl, rfl, .own _⟩
    | ty _ _ _ _ _ r => cases r; exact ⟨_, _, rfl, rfl, .ty _⟩
  exact ⟨v, c, t, u, b, rfl, cu, ty, kitAny_one kt, k _ H1 a1 rfl⟩
theorem de_isXT (hm : X.mg "isinstance" = none) (hc : ∃ vs us, CNames X es vs us ∧ IsTb X tb Ts us ∧ vs.length ≤ 100) (he : DE X e te m) (hg : Gl X "isinstance" := by rfl)
    (hs : starEach [e, .Tuple es kk pt] X.env = (false, eval e X.env) :: starEach [.Tuple es kk pt] X.env := by rfl)
    (hs2 : starEach [.Tuple es kk pt] X.env = (false, eval (.Tuple es kk pt) X.env) :: starEach [] X.env := by rfl) (hpl : (backTo pos (starEach [.Tuple es kk pt] X.env)).any (·.1) = false := by rfl) :
    ∃ t, DE X (.Call (.Name "isinstance" p) [e, .Tuple es kk pt] [] pos) t (eOp1 (isXD tb Ts) m) := by
  obtain ⟨vs, us, cn, T, l⟩ := hc
  refine ⟨_, pe_callB call_isET hg hm (by decide +kernel) (pa_cons he.pe (pa_cons (pe_tup cn.pa) pa_nil hs2) hs) (by decide) (by decide) hs hpl, fun Γ σ H ρ d ρ' Q s h k => ?_⟩
  obtain ⟨q, e1, h⟩ := Option.bind_eq_some_iff.mp h
  obtain ⟨z, e2, h⟩ := Option.map_eq_some_iff.mp h
  cases h
  refine he.q Γ σ H ρ _ _ _ s e1 fun v H1 a1 r1 => ?_
  refine ⟨by rw [sizeLine_eq]; omega, fun tp nt => ?_⟩
  have po := a1.trans (a1.sr.po (fm_new (o := .tup vs) nt))
  obtain ⟨t, b, ty, kt, rfl⟩ := tyE_of T (Rp.mo ((a1.sr.po (fm_new (o := .tup vs) nt)).mo a1.sr) _ _ r1) e2
  exact ⟨v, tp, vs, t, us, b, rfl, upd_same, cn.paired, ty, kt, k _ _ po rfl⟩
end
/-- exceptions of class C have such a field -/
structure XFld (X : Cx) (f : Str) (Cs : List Str) : Prop where
  ex : ∀ C ∈ Cs, ∃ Ca, X.mg C = some (.ref Ca) ∧ ExK X.K Ca ∧ PySem.W.findIn X.K (.ref Ca) f = some none
omit [TabC] in
def fldXC (Cs : List Str) (f : Str) : D → Option D
  | .exn C fs => if decide (C ∈ Cs) = true then fs.lookup f else none
  | _ => none
def tXg (G : Gc) (f : Str) (te : TE) : TE := fun σ H Q => te σ H fun x H1 => ∃ a Ca dd fs v, x = .ref a ∧ H1 a = some (ExH a (.ref Ca) (some dd)) ∧ H1 dd = some (.xd fs) ∧ fs.lookup f = some v ∧ ExK G.K Ca ∧ PySem.W.findIn G.K (.ref Ca) f = some none ∧ Q v H1
theorem rpF_lookup {G : Gc} {H : Hp} {W : List Addr} {f : Str} {d : D} : ∀ {ds : List (Str × D)} {vs : List (Str × V)}, RpF G H W ds vs → ds.lookup f = some d → ∃ v, vs.lookup f = some v ∧ Rp G H W d v
  | [], _, _, h => by cases h
  | (k, d0) :: ds, _, ⟨x, xs, e, r, q⟩, h => by
    subst e
    by_cases z : f == k
    · simp only [List.lookup, z] at h ⊢
      cases h
      exact ⟨x, rfl, r⟩
    · simp only [List.lookup, z] at h ⊢
      exact rpF_lookup q h
section
variable {X : Cx} {e : Expr} {m : EM} {te : TE} {pos : Pos} {f : Str} {Cs : List Str}
omit [TabC] in
theorem pe_xg (he : PE X e te) (hb : attributeBase e f X.env (eval e X.env) = eval e X.env := by rfl) : PE X (.Attribute e f pos) (tXg X.G f te) := by
  refine ⟨fun pins s σ H Q I h => ?_⟩
  refine attr_of hb (thn (he.run pins s σ H _ I h) fun u s1 hh => ?_)
  obtain ⟨x, H1, I1, rx, a, Ca, dd, fs, v, rfl, ea, ed, l, ek, hno, q⟩ := hh
  obtain rfl : u = Value.ref a := rx
  obtain ⟨⟨oe, ws, ho, hz, hd⟩, _, _⟩ := I1.hok a _ ea
  have hx : ObjOk X.prog X.w H1 s1.heap dd (.xd fs) := I1.hok dd _ ed
  obtain ⟨mA, hns, hr⟩ := hx
  obtain ⟨od, ho2, hl⟩ := lookIn_ns hns
  obtain ⟨u, hu, ru⟩ := RelO.some_of (v := v) (o := mA f) (by rw [← l]; exact hr f)
  have J : PySem.W.InstAt s1.heap a oe Ca (some od) := ⟨ho, hz.1, by unfold PySem.W.notCls; rw [hd] <;> rfl, by rw [hz.2]; exact ho2⟩
  exact HandSPX.exc_get I1.kIn J ek.ga ek.gt ek.sb (PySem.W.findObj_own ek.hd hno rfl (by rw [hl, hu])) (handed_of ru) ⟨v, H1, I1.tok _, ru, q⟩
theorem de_xfld (T : XFld X f Cs) (he : DE X e te m) (hb : attributeBase e f X.env (eval e X.env) = eval e X.env := by rfl) : DE X (.Attribute e f pos) (tXg X.G f te) (eOp1 (fldXC Cs f) m) := by
  refine ⟨pe_xg he.pe hb, fun Γ σ H ρ d ρ' Q s h k => ?_⟩
  obtain ⟨q, e1, h⟩ := Option.bind_eq_some_iff.mp h
  obtain ⟨z, e2, h⟩ := Option.map_eq_some_iff.mp h
  cases h
  refine he.q Γ σ H ρ _ _ _ s e1 fun v H1 a1 r1 => ?_
  obtain ⟨d0, ρ0⟩ := q
  cases d0 with
  | exn C fs =>
    simp only [fldXC] at e2
    split at e2
    · rename_i hC
      obtain ⟨Ca, g, ek, hno⟩ := T.ex C (of_decide_eq_true hC)
      obtain ⟨a, Ca', dd, vs, rfl, n, ha, g', hx, _, rf⟩ := r1
      have : Ca' = Ca := by
        have z := (show X.mg C = _ from g').symm.trans g
        cases z; rfl
      subst this
      obtain ⟨v, l, rv⟩ := rpF_lookup rf e2
      cases dd with
      | none =>
        cases (show vs = [] from hx)
        cases l
      | some dx => exact ⟨a, Ca', dx, vs, v, rfl, ha, hx.2, l, ek, hno, k v H1 a1 rv⟩
    · cases e2
  | _ => cases e2
end
end DL
namespace DL
open PySem L2 PySem.Spec PyProof.Rows
section
variable {K : PySem.W.Frag} {C : Addr}
theorem oexB_ok {b : XBase} (q : oexB K b C = true) : OexG K b C := by
  unfold oexB at q
  simp only [Bool.and_eq_true, decide_eq_true_eq] at q
  obtain ⟨⟨⟨⟨q, h1⟩, h2⟩, h3⟩, h4⟩ := q
  refine ⟨?_, h1, h2, h3, h4⟩
  split at q
  · rename_i dd cd sl ho
    split at q
    · rename_i C' bm k0 k1 k2 k3 n k5 hm hs
      simp only [Bool.and_eq_true, beq_iff_eq, Bool.not_eq_true'] at q
      obtain ⟨⟨⟨⟨rfl, rfl⟩, hdel⟩, hdict⟩, rfl⟩ := q
      obtain ⟨nm, bs, mro, ns, qn, hd, sn, sub, ab, col, del⟩ := cd
      dsimp only at hm hdel hdict
      subst hm hdel hdict
      have hsl : sl = #[k0, k1, k2, k3, some (.builtin b.nw), k5] := by
        obtain ⟨l⟩ := sl
        simp only at hs
        rw [hs]
      subst hsl
      exact ⟨nm, qn, ns, bs, sn, sub, ab, col, dd, k0, k1, k2, k3, k5, ho⟩
    · cases q
  · cases q
theorem exkB_ok (q : exkB K C = true) : ExK K C := by
  unfold exkB at q
  simp only [Bool.and_eq_true, decide_eq_true_eq] at q
  obtain ⟨⟨⟨⟨⟨⟨⟨⟨a, b⟩, c⟩, d⟩, e⟩, f⟩, g⟩, h⟩, i⟩ := q
  exact ⟨a, b, c, d, e, f, g, h, i⟩
theorem iniB_ok (q : iniB K C = true) : PySem.W.findIn K (.ref C) "__init__" = some (some (.ref (He.ma K C "__init__"))) ∧ PySem.W.typeIn K (.ref (He.ma K C "__init__")) = some (.type "function") := by
  unfold iniB at q
  simp only [Bool.and_eq_true, decide_eq_true_eq] at q
  exact q
theorem veiB_ok {b : XBase} (q : veiB K b = true) : PySem.W.findCls K (.type b.nm) (.type "type") "__init__" = some (.val (.builtin b.ini)) := by
  unfold veiB at q
  split at q
  · rename_i s e
    rw [e, beq_iff_eq.mp q]
  · cases q
/-- own exception classes; built-in classes that are asked for; what each own one is -/
structure XK (K : PySem.W.Frag) (tb : List (Str × List Str)) (own : List Str) (bl : List String) : Prop where
  mem : ∀ p ∈ tb, p.1 ∈ own
  e : ∀ C ∈ own, ExK K (He.ga K C)
  kO : ∀ p ∈ tb, ∀ T ∈ own, PySem.W.kitOne K (.ref (He.ga K p.1)) (.ref (He.ga K T)) = some (p.2.contains T)
  kB : ∀ p ∈ tb, ∀ T ∈ bl, PySem.W.kitOne K (.ref (He.ga K p.1)) (.type T) = some (p.2.contains (Str.ofString T))
  nO : ∀ T ∈ own, PySem.W.kitOne K (.type "NoneType") (.ref (He.ga K T)) = some false
  nB : ∀ T ∈ bl, PySem.W.kitOne K (.type "NoneType") (.type T) = some false
  x : ∀ p ∈ tb, ∀ T ∈ own, PySem.W.exmOne K (.ref (He.ga K p.1)) (.ref (He.ga K T)) = some (p.2.contains T)
  v : ∀ b : XBase, PySem.W.findCls K (.type b.nm) (.type "type") "__init__" = some (.val (.builtin b.ini))
theorem xkB_ok {tb : List (Str × List Str)} {own : List Str} {bl : List String} (q : xkB K tb own bl = true) : XK K tb own bl := by
  unfold xkB at q
  simp only [Bool.and_eq_true, List.all_eq_true, decide_eq_true_eq, List.contains_iff_mem] at q
  obtain ⟨⟨⟨⟨⟨⟨⟨a, b⟩, c⟩, d⟩, e⟩, f⟩, g⟩, ⟨⟨h1, h2⟩, h3⟩⟩ := q
  exact ⟨a, fun C hC => exkB_ok (b C hC), c, d, e, f, g, fun b => match b with | .ve => veiB_ok h1 | .le => veiB_ok h2 | .oe => veiB_ok h3⟩
end
/-- names and what they stand for -/
inductive NmV (K : PySem.W.Frag) (own : List Str) (bl : List String) : List Str → List Value → Prop
  | nil : NmV K own bl [] []
  | own {T : Str} {Ts : List Str} {us : List Value} (h : T ∈ own) (r : NmV K own bl Ts us) : NmV K own bl (T :: Ts) (.ref (He.ga K T) :: us)
  | ty {T : String} {Ts : List Str} {us : List Value} (h : T ∈ bl) (r : NmV K own bl Ts us) : NmV K own bl (Str.ofString T :: Ts) (.type T :: us)
section
variable {K : PySem.W.Frag} {tb : List (Str × List Str)} {own : List Str} {bl : List String} {Ts : List Str} {us : List Value}
theorem kitAny_of {t : Value} {f : Str → Bool} (hO : ∀ T ∈ own, PySem.W.kitOne K t (.ref (He.ga K T)) = some (f T)) (hB : ∀ T ∈ bl, PySem.W.kitOne K t (.type T) = some (f (Str.ofString T))) (n : NmV K own bl Ts us) : PySem.W.kitAny K t us = some (Ts.any f) := by
  induction n with
  | nil => exact kitAny_nil
  | @own T Ts us h r ih =>
    refine kitAny_cons (hO T h) (fun e => ?_) fun e => ?_
    · rw [ih, List.any_cons, e, Bool.false_or]
    · rw [List.any_cons, e, Bool.true_or]
  | @ty T Ts us h r ih =>
    refine kitAny_cons (hB T h) (fun e => ?_) fun e => ?_
    · rw [ih, List.any_cons, e, Bool.false_or]
    · rw [List.any_cons, e, Bool.true_or]
theorem exmAny_of (h : XK K tb own bl) {p : Str × List Str} (hp : p ∈ tb) : ∀ {Ts : List Str}, (∀ T ∈ Ts, T ∈ own) → PySem.W.exmAny K (.ref (He.ga K p.1)) (Ts.map fun T => .ref (He.ga K T)) = some (Ts.any fun T => p.2.contains T)
  | [], _ => rfl
  | T :: Ts, hT => by
    have ih := exmAny_of h hp (Ts := Ts) fun T hT' => hT T (List.mem_cons_of_mem _ hT')
    rw [List.map_cons, PySem.W.exmAny, h.x p hp T (hT T List.mem_cons_self), ih, List.any_cons]
theorem lookup_mem : ∀ {l : List (Str × List Str)} {C : Str} {s : List Str}, l.lookup C = some s → (C, s) ∈ l
  | [], _, _, h => by cases h
  | (k, v) :: l, C, s, h => by
    by_cases z : C == k
    · simp only [List.lookup, z] at h
      cases h
      rw [beq_iff_eq.mp z]
      exact List.mem_cons_self
    · simp only [List.lookup, z] at h
      exact List.mem_cons_of_mem _ (lookup_mem h)
variable {X : Cx}
theorem isTb_of (h : XK X.K tb own bl) (g : ∀ C ∈ own, X.mg C = some (.ref (He.ga X.K C))) (n : NmV X.K own bl Ts us) : IsTb X tb Ts us :=
  ⟨fun C sup hl => ⟨_, g C (h.mem _ (lookup_mem hl)), h.e C (h.mem _ (lookup_mem hl)), kitAny_of (h.kO _ (lookup_mem hl)) (h.kB _ (lookup_mem hl)) n⟩, by
    rw [kitAny_of (f := fun _ => false) h.nO h.nB n]
    congr 1
    rw [List.any_eq_false]
    intro _ _ z
    cases z⟩
theorem tryH_of {tst : Expr} {xs : List Str} (h : XK X.K tb own bl) (g : ∀ C ∈ own, X.mg C = some (.ref (He.ga X.K C))) {Ts : List Str} (hT : ∀ T ∈ Ts, T ∈ own) (ht : HTest X tst (Ts.map fun T => .ref (He.ga X.K T)))
    (hx : (xs.all fun C => (tb.lookup C).any fun sup => Ts.any fun T => sup.contains T) = true) : TryH X tst xs :=
  ⟨_, ht, fun C hC => by
    have ha := List.all_eq_true.mp hx C hC
    obtain ⟨sup, hl, ha⟩ := (Option.any_eq_true _ _).mp ha
    have hm := lookup_mem hl
    exact ⟨_, g C (h.mem _ hm), by rw [exmAny_of h hm hT, ha]⟩⟩
end
end DL
namespace DL
open PySem L2 PySem.Spec PyProof.Rows
def LeS (m : SM) (b : BM) : Prop := ∀ ρ o, m ρ = some o → b ρ = some (.ok o)
def LeF (f : FnSem) (b : FnB) : Prop := ∀ ss q, f ss = some q → b ss = some (.ok q.1, q.2)
theorem le_ok (m : SM) : LeS m (bOk m) := fun ρ o h => by unfold bOk; rw [h]; rfl
theorem le_never {b : BM} : LeS sNever b := fun ρ o h => by cases h
theorem le_seq {m1 m2 : SM} {b1 b2 : BM} (h1 : LeS m1 b1) (h2 : LeS m2 b2) : LeS (sSeq m1 m2) (bSeq b1 b2) := fun ρ o h => by
  unfold sSeq at h
  obtain ⟨o1, e1, h⟩ := Option.bind_eq_some_iff.mp h
  unfold bSeq
  rw [h1 ρ o1 e1, Option.bind_some]
  cases o1 with
  | nx ρ1 => exact h2 ρ1 o h
  | _ => cases h; rfl
theorem le_if {c : TM} {a1 a2 : SM} {b1 b2 : BM} (h1 : LeS a1 b1) (h2 : LeS a2 b2) : LeS (sIf c a1 a2) (bIf c b1 b2) := fun ρ o h => by
  unfold sIf at h
  obtain ⟨p, e1, h⟩ := Option.bind_eq_some_iff.mp h
  unfold bIf
  rw [e1, Option.bind_some]
  split at h
  · rename_i z; rw [if_pos z]; exact h1 _ _ h
  · rename_i z; rw [if_neg z]; exact h2 _ _ h
theorem le_fn {n k : Nat} {m : SM} {b : BM} (h : LeS m b) : LeF (mkFn n k m) (mkFnB n k b) := fun ss q e => by
  unfold mkFn at e
  unfold mkFnB
  split at e
  · rename_i z
    rw [if_pos z]
    obtain ⟨o, e1, e2⟩ := Option.bind_eq_some_iff.mp e
    rw [h _ _ e1, Option.bind_some]
    cases o with
    | nx ρ => cases e2; rfl
    | rt d ρ => cases e2; rfl
    | rf d ρ => cases e2; rfl
    | bk ρ => cases e2
    | ct ρ => cases e2
  · cases e
theorem fin_v (ds : List D) : ∀ (ρ : Env) (i : Nat), fin ρ i (ds.map Sl.v) = ds.map Sl.v := by
  induction ds with
  | nil => intro ρ i; rfl
  | cons d ds ih => intro ρ i; show Sl.v d :: fin ρ (i + 1) (ds.map Sl.v) = _; rw [ih]; rfl
theorem mkFn_opq {n k : Nat} {m : SM} {ds : List D} {r : D} (h : (mkFn n k m (ds.map Sl.v)).map (·.1) = some r) : mkFn n k m (ds.map Sl.v) = some (r, ds.map Sl.v) := by
  obtain ⟨q, e, rfl⟩ := Option.map_eq_some_iff.mp h
  have : q.2 = ds.map Sl.v := by
    unfold mkFn at e
    split at e
    · obtain ⟨o, _, e2⟩ := Option.bind_eq_some_iff.mp e
      cases o with
      | nx ρ => cases e2; exact fin_v ds _ _
      | rt d ρ => cases e2; exact fin_v ds _ _
      | rf d ρ => cases e2; exact fin_v ds _ _
      | bk ρ => cases e2
      | ct ρ => cases e2
    · cases e
  rw [e]
  exact congrArg some (Prod.ext rfl this)
end DL
namespace DL
open PySem L2 PySem.Spec PyProof.Rows
variable [TabC]
section
variable {X : Cx} {tg iter : Expr} {body : List Stmt} {pos : Pos} {wi : TI} {g : TG} {tb : WX → TS} {it : IM} {gm : GM} {b : BM} {is : List Nat}
end
structure FnKB (P : Program) (w : World) (K : PySem.W.Frag) (mg : Str → Option Value) (base : Heap) (x : Str) (k : Nat) (ps ks : List Str) (n : Nat) (perm : List Nat) (fn : FnB) : Prop where
  ex : ∃ (f : Addr) (fd : FuncData), mg x = some (.ref f) ∧ PySem.W.keepIn K (.ref f) = true ∧ KBn K fd ps n ks (fun us ws => permU perm (us ++ ws)) (fun vs zs => permV perm (vs ++ zs)) ∧ FnOk P w K mg base (L2.CX P w) k f fd ps (spB ⟨K, mg⟩ fn)
section
variable {X : Cx} {x : Str} {k nk : Nat} {ps ks : List Str} {perm : List Nat} {fn : FnB} {kws : List Keyword} {at2 : TA} {bm : AM} {pos p : Pos}
end
section
variable {P : Program} {w : World} {K : PySem.W.Frag} {mg : Str → Option Value} {base : Heap} {x qual : Str} {params : Arguments} {body : List Stmt} {scope : Scope} {f : Addr} {fd : FuncData}
theorem FunD.kB {ps ks : List Str} {n k : Nat} {perm : List Nat} {fn : FnB} (F : FunD K x qual params body scope [] [] f fd) (g : mg x = some (.ref f))
    (hbd : ∀ (kV doc pm : Value) (an : Option Addr) (cdv ct : Value) (us ws : List Value), us.length = n → ws.length = ks.length → bindArgs (PySem.W.fnOf x qual params body scope .none kV doc pm an cdv ct) ⟨us, ks.zip ws⟩ = pure (ps.zip (permU perm (us ++ ws))))
    (ok : FnOk P w K mg base (L2.CX P w) k f fd ps (spB ⟨K, mg⟩ fn)) : FnKB P w K mg base x k ps ks n perm fn := by
  obtain ⟨oc, od, dV, kV, doc, pm, an, cdv, ct, osl, rfl, lk, hcd, hD, hK⟩ := F.ex
  refine ⟨f, _, g, F.kp, ⟨fun s us ws hin h1 h2 => ?_, fun r1 r2 => permVU (r1.append r2)⟩, ok⟩
  rcases hD with ⟨_, rfl⟩ | ⟨e, _⟩
  · exact .of_eq (hbd kV doc pm an cdv ct us ws h1 h2)
  · exact absurd rfl e
end
end DL
namespace DL
open PySem
section
variable {P P1 : List Pk} {me : EM} {am : AM} {a : D} {as : List Arg} {x f : Str}
end
end DL
namespace DL
open PySem PySem.Spec PyProof.Rows L2
variable [TabC]
omit [TabC] in
def isTS : D → Bool
  | .str _ => true
  | _ => false
omit [TabC] in
def strs? : List D → Option (List Str)
  | [] => some []
  | .str z :: ds => (strs? ds).map (z :: ·)
  | _ => none
omit [TabC] in
theorem strs_map : ∀ ys : List Str, strs? (ys.map D.str) = some ys
  | [] => rfl
  | z :: ys => by rw [List.map_cons, strs?, strs_map ys]; rfl
omit [TabC] in
theorem strs_vals {G : Gc} {H : Hp} {W : List Addr} : ∀ {ds : List D} {vs : List V} {ys : List Str}, RpAll G H W ds vs → strs? ds = some ys → vs = ys.map V.str
  | [], vs, ys, r, e => by cases e; exact r
  | .str z :: ds, vs, ys, ⟨x, xs, ev, rx, r⟩, e => by
    obtain ⟨zs, e1, rfl⟩ := Option.map_eq_some_iff.mp (show (strs? ds).map (z :: ·) = some ys from e)
    rw [ev, show x = .str z from rx, strs_vals r e1]; rfl
  | .non :: _, _, _, _, e => by cases e
  | .bl _ :: _, _, _, _, e => by cases e
  | .int _ :: _, _, _, _, e => by cases e
  | .lst _ :: _, _, _, _, e => by cases e
  | .tup _ :: _, _, _, _, e => by cases e
  | .dT _ :: _, _, _, _, e => by cases e
  | .dK _ :: _, _, _, _, e => by cases e
  | .obj _ _ :: _, _, _, _, e => by cases e
  | .scr _ :: _, _, _, _, e => by cases e
  | .exn _ _ :: _, _, _, _, e => by cases e
  | .fT _ :: _, _, _, _, e => by cases e
omit [TabC] in
theorem strs_rp {G : Gc} {H : Hp} {W : List Addr} : ∀ ys : List Str, RpAll G H W (ys.map D.str) (ys.map V.str)
  | [] => rfl
  | z :: ys => ⟨_, _, rfl, rfl, strs_rp ys⟩
omit [TabC] in
def eMthS (f : D → List D → Option D) (m : EM) (a : AM) : EM := fun ρ => (m ρ).bind fun p0 => if isTS p0.1 = true then (a p0.2).bind fun p => (vals p.1).bind fun ds => (f p0.1 ds).map fun z => (z, p.2) else none
section
variable {X : Cx} {o e : Expr} {es : List Expr} {p : Pos} {am : AM} {at1 : TA} {m : EM} {te : TE} {x name : Str} {apos cpos : Pos} {id : String} {r : V → List V → Hp → VK → Prop} {f : D → List D → Option D}
theorem de_mthS (pa : PlainAttrs "str") (slot : Slot "str" name id) (hty : typeOf (.builtin id) = pure (.type "method_descriptor")) (hm : MtR X id r) (od : MthD X.G r f) (ho : DE X o te m) (ha : DA X (e :: es) at1 am)
    (hbase : attributeBase o name X.env (eval o X.env) = eval o X.env := by rfl)
    (hfew : ((backTo cpos (starEach (e :: es) X.env)).all (fun x => !x.1) && (backToKw cpos (keywordEach [] X.env)).all (fun x => x.1.isSome)
      && decide ((e :: es).length + ([] : List Keyword).length + (if ([] : List Keyword).isEmpty then 0 else 1) < 30)) = true := by rfl)
    (hline : (apos.endLine == cpos.line) = true := by rfl) (hs : starEach (e :: es) X.env = (false, eval e X.env) :: starEach es X.env := by rfl) (hplain : (backTo cpos (starEach es X.env)).any (·.1) = false := by rfl) :
    DE X (.Call (.Attribute o name apos) (e :: es) [] cpos) (tBM X.K "str" r te at1) (eMthS f m am) := by
  refine ⟨pe_bm pa slot hty hm ho.pe ha.pe hbase hfew hline hs hplain, fun Γ σ H ρ d ρ' Q s h k => ?_⟩
  unfold eMthS at h
  obtain ⟨p0, e0, h⟩ := Option.bind_eq_some_iff.mp h
  split at h
  case isFalse => cases h
  rename_i ht
  obtain ⟨p1, e1, h⟩ := Option.bind_eq_some_iff.mp h
  obtain ⟨ds, e2, h⟩ := Option.bind_eq_some_iff.mp h
  obtain ⟨z, e3, h⟩ := Option.map_eq_some_iff.mp h
  cases h
  refine ho.q Γ σ H ρ _ _ _ s e0 fun v H1 a1 rv => ⟨?_, ?_⟩
  · cases q : p0.1 with
    | str w =>
      rw [q] at rv
      cases (show v = .str w from rv)
      exact rfl
    | _ => rw [q] at ht; cases ht
  refine ha.q Γ σ H1 p0.2 _ _ _ a1.sr e1 fun vs H2 a2 ar => ?_
  refine od H2 (Γ.w σ p1.2) v vs p0.1 ds d Q a2.sr.w_th (Rp.mo (a2.mo a1.sr) _ _ rv) (ar.vals e2) e3 fun u H3 f3 r3 => ?_
  exact k u H3 ((a1.trans a2).trans (a2.sr.po f3)) r3
end
omit [TabC] in
abbrev rSplit : V → List V → Hp → VK → Prop := fun x xs H Q => ∃ a b, x = .str a ∧ xs = [.str b] ∧ (b.length == 0) = false ∧ a.length + 2 ≤ sizeLine ∧ rNewStrs (Txt.split a b) H Q
omit [TabC] in
def splitM : D → List D → Option D
  | .str a, [.str b] => if (!(b.length == 0) && lim (a.length + 2)) = true then some (.lst ((Txt.split a b).map .str)) else none
  | _, _ => none
theorem mv_split {G : Gc} : MthD G rSplit splitM := by
  intro H W x xs d ds z Q th rx r e q
  match d, ds, e with
  | .str a, [.str b], e =>
    simp only [splitM] at e
    split at e
    case isFalse => cases e
    rename_i c
    rw [Bool.and_eq_true, Bool.not_eq_true'] at c
    cases e
    obtain ⟨y, rfl, hy⟩ := one_of r
    cases (show y = .str b from hy)
    cases (show x = .str a from rx)
    have l2 := lim_line c.2
    refine ⟨a, b, rfl, rfl, c.1, l2, fun p hp => ?_⟩
    refine q _ _ (fm_new hp) ⟨p, (Txt.split a b).map V.str, rfl, ⟨fun z => th p z hp, .inl upd_same⟩, ?_, strs_rp _⟩
    rw [List.length_map]
    exact Nat.le_trans (PyProof.Rows.split_le a b) l2
omit [TabC] in
abbrev rJoin (K : PySem.W.Frag) : V → List V → Hp → VK → Prop := fun x xs H Q => ∃ a p, ∃ ys : List Str, x = .str a ∧ xs = [.ref p] ∧ (SqL K H p (ys.map V.str) ∨ SqT K H p (ys.map V.str)) ∧
    (ys.map (·.length)).sum + ys.length * a.length ≤ 16777216 ∧ Q (.str (Txt.join a ys)) H
omit [TabC] in
def joinD (a : Str) (ds : List D) : Option D := (strs? ds).bind fun ys => if (ys.map (·.length)).sum + ys.length * a.length ≤ 16777216 then some (.str (Txt.join a ys)) else none
omit [TabC] in
def joinM : D → List D → Option D
  | .str a, [.lst ds] => joinD a ds
  | .str a, [.tup ds] => joinD a ds
  | _, _ => none
theorem mv_join {G : Gc} : MthD G (rJoin G.K) joinM := by
  intro H W x xs d ds z Q th rx r e q
  have key : ∀ (a : Str) (es : List D) (p : Addr) (vs : List V), RpAll G H W es vs → joinD a es = some z → (SqL G.K H p vs ∨ SqT G.K H p vs) → x = .str a → xs = [.ref p] → rJoin G.K x xs H Q := fun a es p vs ra ej sq ex exs => by
    unfold joinD at ej
    obtain ⟨ys, e1, ej⟩ := Option.bind_eq_some_iff.mp ej
    split at ej
    case isFalse => cases ej
    rename_i c
    cases ej
    have := strs_vals ra e1
    subst this
    exact ⟨a, p, ys, ex, exs, sq, c, q _ H (Fm.refl _ _) rfl⟩
  match d, ds, e with
  | .str a, [.lst es], e =>
    obtain ⟨y, rfl, hy⟩ := one_of r
    obtain ⟨p, vs, rfl, fa, _, ra⟩ := hy
    exact key a es p vs ra e (.inl fa.sq) rx rfl
  | .str a, [.tup es], e =>
    obtain ⟨y, rfl, hy⟩ := one_of r
    obtain ⟨p, vs, rfl, fa, _, ra⟩ := hy
    exact key a es p vs ra e (.inr (.inl (.inl fa))) rx rfl
omit [TabC] in
def sliceS : D → Option Int → Option Int → Option D
  | .str z, lo, hi => if lim z.length = true then some (.str (Txt.slice z lo hi)) else none
  | _, _, _ => none
omit [TabC] in
def eSliceS (a : EM) (lo hi : OM) : EM := fun ρ => (a ρ).bind fun p => (lo p.2).bind fun l => (hi l.2).bind fun h => (sliceS p.1 l.1 h.1).map fun z => (z, h.2)
section
variable {X : Cx} {e lo hi : Expr} {m : EM} {te : TE} {ml mh : OM} {tl th : TO} {p2 pos : Pos}
theorem de_sliceS {lo hi : Option Expr} (he : DE X e te m) (hl : DO X lo tl ml) (hu : DO X hi th mh) : DE X (.Subscript e (.Slice lo hi none p2) pos) (tSl C8.rSlX te tl th) (eSliceS m ml mh) := by
  refine ⟨pe_slice C8.sl_txt he.pe hl.pe hu.pe, fun Γ σ H ρ d ρ' Q s h k => ?_⟩
  unfold eSliceS at h
  obtain ⟨r1, e1, h⟩ := Option.bind_eq_some_iff.mp h
  obtain ⟨r2, e2, h⟩ := Option.bind_eq_some_iff.mp h
  obtain ⟨r3, e3, h⟩ := Option.bind_eq_some_iff.mp h
  obtain ⟨z, e4, h⟩ := Option.map_eq_some_iff.mp h
  cases h
  refine he.q Γ σ H ρ _ _ _ s e1 fun v H1 a1 rv => ?_
  refine hl.q Γ σ H1 _ _ _ _ a1.sr e2 fun H2 a2 => ?_
  refine hu.q Γ σ H2 _ _ _ _ a2.sr e3 fun H3 a3 => ?_
  cases q : r1.1 with
  | str w =>
    rw [q] at rv e4
    cases (show v = .str w from rv)
    unfold sliceS at e4
    simp only at e4
    split at e4
    case isFalse => cases e4
    rename_i c
    cases e4
    exact ⟨w, rfl, lim_line c, k _ H3 ((a1.trans a2).trans a3) rfl⟩
  | _ => rw [q] at e4; cases e4
end
omit [TabC] in
def signD (z : Str) : List D := z.cps.toList.map fun c => .str ⟨#[c]⟩
omit [TabC] in
def iSign (m : EM) : IM := fun ρ => (m ρ).bind fun p => match p.1 with
  | .str z => if lim z.length = true then some (signD z, p.2) else none
  | _ => none
theorem walkD_str {G : Gc} {W0 : List Addr} {H0 : Hp} {z : Str} (hl : lim z.length = true) : WalkD G W0 H0 (L2.Its z) (signD z) := by
  have ln : (signD z).length = z.cps.size := by unfold signD; rw [List.length_map, Array.length_toList]
  refine ⟨by rw [ln]; exact lim_line hl, fun H i f l => by rw [ln] at l; exact l, fun H f => by rw [ln]; exact Nat.le_refl _, fun H i x H' f y l => ?_⟩
  obtain ⟨e1, c, e2, e3⟩ := y
  subst e1
  refine ⟨Fm.refl _ _, fun W d hd wb => ?_⟩
  unfold signD at hd
  rw [List.getElem?_map, Array.getElem?_toList, e2] at hd
  cases hd
  exact e3
theorem di_str {X : Cx} {tg e : Expr} {te : TE} {m : EM} (h : DE X e te m) : DI X tg e (iStr te) (iSign m) := by
  refine ⟨pi_str h.pe, fun Γ σ H ρ ds ρ' R s hm k => ?_⟩
  unfold iSign at hm
  obtain ⟨r, e1, hm⟩ := Option.bind_eq_some_iff.mp hm
  refine h.q Γ σ H ρ _ _ _ s e1 fun v H1 a1 rv => ?_
  cases q : r.1 with
  | str z =>
    rw [q] at hm rv
    simp only at hm
    split at hm
    case isFalse => cases hm
    rename_i c
    cases hm
    exact ⟨z, rv, k _ H1 a1 (walkD_str c)⟩
  | _ => rw [q] at hm; cases hm
omit [TabC] in
def inSD (neg : Bool) : D → D → Option D
  | .str a, .str z => match a.cps.toList with
    | [c] => some (.bl (decide (c ∈ z.cps.toList) != neg))
    | _ => none
  | _, _ => none
omit [TabC] in
theorem sign_of {a : Str} {c : Nat} (h : a.cps.toList = [c]) : a = ⟨#[c]⟩ := by
  obtain ⟨l⟩ := a
  congr 1
  exact Array.toList_inj.mp h
theorem od_inS {G : Gc} : OpD G rInS (inSD false) := by
  intro H W x y d1 d2 z Q th r1 r2 e q
  match d1, d2, e with
  | .str a, .str w, e =>
    simp only [inSD] at e
    split at e
    · rename_i c hc
      cases e
      have := sign_of hc
      subst this
      cases (show x = _ from r1)
      cases (show y = _ from r2)
      refine ⟨c, w, rfl, rfl, ?_⟩
      have := q (.bl (decide (c ∈ w.cps.toList) != false)) H (Fm.refl _ _) rfl
      rwa [Bool.bne_false] at this
    · cases e
omit [TabC] in
def intTF : List D → Option D
  | [.str a] => if a.length ≤ 640 then (PySem.intText? a).map .int else none
  | _ => none
theorem cd_intT {G : Gc} : CallD G (fun xs H Q => ∃ a n, xs = [.str a] ∧ PySem.intText? a = some n ∧ a.length ≤ 640 ∧ Q (.int n) H) intTF := by
  intro H W xs ds z Q th r e q
  match ds, e with
  | [.str a], e =>
    simp only [intTF] at e
    split at e
    case isFalse => cases e
    rename_i c
    obtain ⟨n, e1, rfl⟩ := Option.map_eq_some_iff.mp e
    obtain ⟨y, rfl, hy⟩ := one_of r
    cases (show y = .str a from hy)
    exact ⟨a, n, rfl, e1, c, q _ H (Fm.refl _ _) rfl⟩
omit [TabC] in
def eOrS (a b : EM) : EM := fun ρ => (a ρ).bind fun p => match p.1 with
  | .str z => if lim z.length = true then (if z.length = 0 then b p.2 else some (.str z, p.2)) else none
  | _ => none
theorem de_orS {X : Cx} {a b : Expr} {rest : List Expr} {pos : Pos} {te1 te2 : TE} {ma mb : EM} (h : DE X a te1 ma) (h2 : DE X (.BoolOp .Or (b :: rest) pos) te2 mb) : DE X (.BoolOp .Or (a :: b :: rest) pos) (tOrT X.K te1 te2) (eOrS ma mb) := by
  refine ⟨pe_orT h.pe h2.pe, fun Γ σ H ρ d ρ' Q s hm k => ?_⟩
  unfold eOrS at hm
  obtain ⟨r, e1, hm⟩ := Option.bind_eq_some_iff.mp hm
  refine h.q Γ σ H ρ _ _ _ s e1 fun v H1 a1 rv => ?_
  cases q : r.1 with
  | str z =>
    rw [q] at hm rv
    simp only at hm
    cases (show v = .str z from rv)
    split at hm
    case isFalse => cases hm
    rename_i cl
    split at hm
    · rename_i c
      refine ⟨false, ⟨lim_line cl, ?_⟩, ?_⟩
      · rw [c]; rfl
      · rw [if_neg Bool.false_ne_true]
        exact h2.q Γ σ H1 r.2 d ρ' Q a1.sr hm fun v2 H2 a2 r2 => k v2 H2 (a1.trans a2) r2
    · rename_i c
      cases hm
      refine ⟨true, ⟨lim_line cl, ?_⟩, ?_⟩
      · symm; simp [bne_iff_ne, c]
      · rw [if_pos rfl]
        exact k _ H1 a1 rfl
  | _ => rw [q] at hm; cases hm
end DL
namespace DL
open PySem PySem.Spec PyProof.Rows L2
variable [TabC]
theorem DE.weak {X : Cx} {e : Expr} {t : TE} {m m' : EM} (h : DE X e t m) (hw : ∀ ρ r, m' ρ = some r → m ρ = some r) : DE X e t m' :=
  ⟨h.pe, fun Γ σ H ρ d ρ' Q s e k => h.q Γ σ H ρ d ρ' Q s (hw _ _ e) k⟩
omit [TabC] in
def splitD (a b : D) : Option D := splitM a [b]
omit [TabC] in
def joinD2 (a b : D) : Option D := joinM a [b]
omit [TabC] in
theorem mth_op2 {f : D → List D → Option D} (hf : ∀ a ds z, f a ds = some z → isTS a = true) {m me : EM} (ρ : Env) (r : D × Env) (h : eOp2 (fun a b => f a [b]) m me ρ = some r) : eMthS f m (aCons me aNil) ρ = some r := by
  unfold eOp2 at h
  obtain ⟨p, e1, h⟩ := Option.bind_eq_some_iff.mp h
  obtain ⟨q, e2, h⟩ := Option.bind_eq_some_iff.mp h
  obtain ⟨z, e3, h⟩ := Option.map_eq_some_iff.mp h
  unfold eMthS aCons aNil
  rw [e1, Option.bind_some, if_pos (hf _ _ _ e3), e2, Option.bind_some]
  simp only [Option.map_some, Option.bind_some, vals]
  rw [show f p.1 [q.1] = some z from e3]
  exact congrArg some h
omit [TabC] in
theorem split_ts : ∀ a ds z, splitM a ds = some z → isTS a = true := fun a ds z h => by
  cases a with
  | str _ => rfl
  | _ => cases h
omit [TabC] in
theorem join_ts : ∀ a ds z, joinM a ds = some z → isTS a = true := fun a ds z h => by
  cases a with
  | str _ => rfl
  | _ => cases h
section
variable {X : Cx} {o e : Expr} {apos cpos : Pos} {m me : EM} {te t2 : TE}
theorem de_split (ho : DE X o te m) (he : DE X e t2 me)
    (hbase : attributeBase o "split" X.env (eval o X.env) = eval o X.env := by rfl)
    (hfew : ((backTo cpos (starEach [e] X.env)).all (fun x => !x.1) && (backToKw cpos (keywordEach [] X.env)).all (fun x => x.1.isSome)
      && decide ([e].length + ([] : List Keyword).length + (if ([] : List Keyword).isEmpty then 0 else 1) < 30)) = true := by rfl)
    (hline : (apos.endLine == cpos.line) = true := by rfl) (hs : starEach [e] X.env = (false, eval e X.env) :: starEach [] X.env := by rfl) (hplain : (backTo cpos (starEach [] X.env)).any (·.1) = false := by rfl) :
    DE X (.Call (.Attribute o "split" apos) [e] [] cpos) (tBM X.K "str" rSplit te (tCons t2 tNil)) (eOp2 splitD m me) :=
  (de_mthS F.plainAttrs_str F.slot_str_split F.type_str_split mt_split mv_split ho (da_cons he da_nil hs) hbase hfew hline hs hplain).weak (mth_op2 split_ts)
theorem de_join (ho : DE X o te m) (he : DE X e t2 me)
    (hbase : attributeBase o "join" X.env (eval o X.env) = eval o X.env := by rfl)
    (hfew : ((backTo cpos (starEach [e] X.env)).all (fun x => !x.1) && (backToKw cpos (keywordEach [] X.env)).all (fun x => x.1.isSome)
      && decide ([e].length + ([] : List Keyword).length + (if ([] : List Keyword).isEmpty then 0 else 1) < 30)) = true := by rfl)
    (hline : (apos.endLine == cpos.line) = true := by rfl) (hs : starEach [e] X.env = (false, eval e X.env) :: starEach [] X.env := by rfl) (hplain : (backTo cpos (starEach [] X.env)).any (·.1) = false := by rfl) :
    DE X (.Call (.Attribute o "join" apos) [e] [] cpos) (tBM X.K "str" (rJoin X.K) te (tCons t2 tNil)) (eOp2 joinD2 m me) :=
  (de_mthS F.plainAttrs_str F.slot_str_join F.type_str_join mt_join mv_join ho (da_cons he da_nil hs) hbase hfew hline hs hplain).weak (mth_op2 join_ts)
end
omit [TabC] in
def orD : D → D → Option D
  | .str z, b => if lim z.length = true then some (if z.length = 0 then b else .str z) else none
  | _, _ => none
theorem de_orC {X : Cx} {a b : Expr} {pos : Pos} {te1 te2 : TE} {ma : EM} {d : D} (h : DE X a te1 ma) (h2 : DE X b te2 (eC d)) : DE X (.BoolOp .Or [a, b] pos) (tOrT X.K te1 te2) (eOp2 orD ma (eC d)) :=
  (de_orS h (de_one h2)).weak fun ρ r e => by
    unfold eOp2 eC at e
    obtain ⟨p, e1, e⟩ := Option.bind_eq_some_iff.mp e
    rw [Option.bind_some] at e
    obtain ⟨z, e3, e⟩ := Option.map_eq_some_iff.mp e
    unfold eOrS eC
    rw [e1, Option.bind_some]
    cases q : p.1 with
    | str w =>
      rw [q] at e3
      simp only [orD] at e3 ⊢
      split at e3
      case isFalse => cases e3
      rename_i c
      rw [if_pos c]
      cases e3
      split
      · rename_i c2; rw [if_pos c2] at e; exact congrArg some e
      · rename_i c2; rw [if_neg c2] at e; exact congrArg some e
    | _ => rw [q] at e3; cases e3
omit [TabC] in
def unS : D → Option (List D)
  | .str z => if lim z.length = true then some (signD z) else none
  | _ => none
end DL
namespace DL
open PySem
section
variable {P P1 P2 P3 : List Pk} {ma : EM} {a b : D} {ds : List D}
theorem XE.sliceS {lo hi : OM} {n n' : Option Int} (h : XE P ma a P1) (h1 : XO P1 lo n P2) (h2 : XO P2 hi n' P3) (e : sliceS a n n' = some b) : XE P (eSliceS ma lo hi) b P3 := fun ρ m => by
  obtain ⟨ρ1, q1, m1⟩ := h ρ m
  obtain ⟨ρ2, q2, m2⟩ := h1 ρ1 m1
  obtain ⟨ρ3, q3, m3⟩ := h2 ρ2 m2
  exact ⟨ρ3, by simp [eSliceS, q1, q2, q3, e], m3⟩
theorem XI.sign (h : XE P ma a P1) (e : unS a = some ds) : XI P (iSign ma) ds P1 := fun ρ m => by
  obtain ⟨ρ1, q1, m1⟩ := h ρ m
  refine ⟨ρ1, ?_, m1⟩
  unfold iSign
  rw [q1, Option.bind_some]
  cases a with
  | str z =>
    simp only [unS] at e ⊢
    split at e
    case isFalse => cases e
    rename_i c
    rw [if_pos c]
    cases e
    rfl
  | _ => cases e
end
end DL
namespace DL
open PySem PySem.W PyProof.Rows L2
variable [TabC]
end DL
namespace PySem
open Builtin Builtin.Str
namespace Txt
def repl1 (x y z : Str) : Str :=
  if ((occurrences x y 0 x.length 1).isEmpty || (y.length == 0 && z.length == 0)) = true then x
  else glued z (partsBetween x (occurrences x y 0 x.length 1) y.length)
end Txt
theorem gives_str_repl1 (x y z : Str) (t u v k : Tok)
    (hf : ((occurrences x y 0 x.length 1).isEmpty || (y.length == 0 && z.length == 0)) = false →
      (u == 0 || v == 0) = false ∧ (u == v) = false ∧ (y == z) = false ∧ tooLong (x.length + (occurrences x y 0 x.length 1).length * z.length) = false) :
    Gives («str.replace» ⟨[.str x t, .str y u, .str z v, .int 1 k], []⟩) (if ((occurrences x y 0 x.length 1).isEmpty || (y.length == 0 && z.length == 0)) = true then .val (.str x t) else .str (glued z (partsBetween x (occurrences x y 0 x.length 1) y.length))) := by
  show Gives (if ((occurrences x y 0 x.length 1).isEmpty || (y.length == 0 && z.length == 0)) = true then (do rule "str.replace.nothing"; ret (.str x t)) else
          (do let same ← isSame (.str y u) (.str z v)
              if same = true then (do rule "str.replace.old-is-new"; ret (.str x t)) else
              if tooLong (x.length + (occurrences x y 0 x.length 1).length * z.length) = true then unsupported "str.replace:memory" else
              retStr (glued z (partsBetween x (occurrences x y 0 x.length 1) y.length)))) _
  cases hc : ((occurrences x y 0 x.length 1).isEmpty || (y.length == 0 && z.length == 0))
  · obtain ⟨h0, huv, hyz, hl⟩ := hf hc
    rw [isSame_str_other y z u v h0 huv hyz, hl]
    exact .of_eq rfl
  · exact .rule (.of_eq rfl)
end PySem
namespace PySem
open Builtin Builtin.Str
theorem repl1_len (x y z : Str) : (Txt.repl1 x y z).length ≤ x.length + (x.length + 1) * z.length := by
  unfold Txt.repl1
  split
  · exact Nat.le_add_right _ _
  · have h1 := StrLaws.occ_length_le x y 0 x.length 1
    have hy : (glued y (partsBetween x (occurrences x y 0 x.length 1) y.length)).length = x.length := by rw [StrLaws.glued_between_self]
    rw [size_glued, length_partsBetween, Nat.add_sub_cancel] at hy
    rw [size_glued, length_partsBetween, Nat.add_sub_cancel]
    have h2 : (occurrences x y 0 x.length 1).length * z.length ≤ (x.length + 1) * z.length := Nat.mul_le_mul_right _ (by omega)
    omega
namespace SC
section
variable {prog : Program} {w : World} {A : Around} {E : Value → Shared → Prop} {s : Shared} {x y z : Str} {t u v k : Tok} {Q : Value → Shared → Prop}
theorem repl1 (hu : u ≠ 0) (hv : v ≠ 0) (huv : u ≠ v) (hyz : (y == z) = false) (hb : x.length + (x.length + 1) * z.length ≤ 16777216)
    (hq : ∀ t' k, Q (.str (Txt.repl1 x y z) t') { s with toks := k }) : wpAny (model prog w) A (call (.builtin "str.replace") [.str x t, .str y u, .str z v, .int 1 k]) Q E s := by
  have h1 := StrLaws.occ_length_le x y 0 x.length 1
  have h2 : (occurrences x y 0 x.length 1).length * z.length ≤ (x.length + 1) * z.length := Nat.mul_le_mul_right _ (by omega)
  have hl : tooLong (x.length + (occurrences x y 0 x.length 1).length * z.length) = false := by
    have e : (2 : Nat) ^ 24 = 16777216 := by decide
    unfold tooLong sizeLine
    exact decide_eq_false (by omega)
  refine call_gives F.slot_str_replace (typeIs_str _ _ _) F.entry_str_replace (F.args_str_replace_4 _ _ _ _)
    (gives_str_repl1 x y z t u v k fun _ => ⟨by simp [hu, hv], by simp [huv], hyz, hl⟩) ?_
  have hq' := hq
  have hle := repl1_len x y z
  unfold Txt.repl1 at hq' hle
  cases hc : ((occurrences x y 0 x.length 1).isEmpty || (y.length == 0 && z.length == 0))
  · rw [hc] at hq' hle
    simp only [Bool.false_eq_true, if_false] at hq' hle ⊢
    exact ⟨by rw [sizeLine_eq]; omega, hq' _ _⟩
  · rw [hc] at hq'
    simp only [if_true] at hq' ⊢
    exact hq' t s.toks
end
end SC
end PySem
namespace DL
open PySem PySem.Spec PyProof.Rows L2
variable [TabC]
structure DEt (X : Cx) (e : Expr) (t : TE) (m : EM) : Prop where
  pe : PET X e t
  q : ∀ (Γ : Gam) (σ : L2.St) (H : Hp) (ρ : Env) (d : D) (ρ' : Env) (Q : VK), Sr Γ X.G H σ ρ → m ρ = some (d, ρ') →
    (∀ v H', Po Γ X.G σ ρ H ρ' H' → Rp X.G H' (Γ.w σ ρ') d v → Q v H') → t σ H Q
structure DAt (X : Cx) (es : List Expr) (t : TA) (m : AM) : Prop where
  pe : PAT X es t
  q : ∀ (Γ : Gam) (σ : L2.St) (H : Hp) (ρ : Env) (as : List Arg) (ρ' : Env) (Q : List V → Hp → Prop), Sr Γ X.G H σ ρ → m ρ = some (as, ρ') →
    (∀ vs H', Po Γ X.G σ ρ H ρ' H' → ArR X.G H' (Γ.w σ ρ') σ as vs → Q vs H') → t σ H Q
/-- behind it a token is given out -/
def PEG (X : Cx) (e : Expr) (t : TE) : Prop :=
  ∀ (pins : List (Addr × Obj)) (s : Shared) (σ : L2.St) (H : Hp) (Q : VK), Inv X pins σ H s → t σ H Q → wpAny (model X.prog X.w) X.A (eval e X.env) (fun v s1 => 1 ≤ s1.toks ∧ EP X pins σ Q v s1) X.xe s
section
variable {X : Cx} {a b e : Expr} {es : List Expr} {ta tb te : TE} {ma mb m : EM} {at1 : TA} {am : AM} {pos : Pos}
theorem DE.t (h : DE X e te m) : DEt X e te m := ⟨fun pins s σ H Q _ I q => h.pe.run pins s σ H Q I q, h.q⟩
theorem dat_nil : DAt X [] tNil aNil := ⟨pat_nil, da_nil.q⟩
theorem dat_cons (ha : DEt X e te m) (hr : DAt X es at1 am) (hs : starEach (e :: es) X.env = (false, eval e X.env) :: starEach es X.env := by rfl) : DAt X (e :: es) (tCons te at1) (aCons m am) := by
  refine ⟨pat_cons ha.pe hr.pe hs, fun Γ σ H ρ as ρ' Q s h k => ?_⟩
  unfold aCons at h
  obtain ⟨p, e1, h⟩ := Option.bind_eq_some_iff.mp h
  obtain ⟨q, e2, h⟩ := Option.map_eq_some_iff.mp h
  cases h
  refine ha.q Γ σ H ρ p.1 p.2 _ s e1 fun v H1 a1 r1 => ?_
  refine hr.q Γ σ H1 p.2 q.1 q.2 _ a1.sr e2 fun vs H2 a2 r2 => ?_
  exact k _ H2 (a1.trans a2) ⟨v, vs, rfl, Rp.mo (a2.mo a1.sr) _ _ r1, r2⟩
theorem det_op {op : Operator} {r : R2} {f : D → D → Option D} (ho : OpR X (binaryOp op) r) (od : OpD X.G r f) (ha : DEt X a ta ma) (hb : DE X b tb mb) : DEt X (.BinOp a op b pos) (tOp r ta tb) (eOp2 f ma mb) := by
  refine ⟨fun pins s σ H Q h0 I h => ?_, op2 od ha.q hb.q⟩
  refine wpAny_BinOp (thn (ha.pe pins s σ H _ h0 I h) fun v s1 ⟨x, H1, I1, r1, q1⟩ => ?_)
  refine thn (hb.pe.run pins s1 σ H1 _ I1 q1) fun u s2 ⟨y, H2, I2, r2, q2⟩ => ?_
  exact ho pins s2 σ H2 x y v u Q I2 r1 r2 q2
/-- x op "text" -/
theorem peg_opC {op : Operator} {r : R2} {c : Str} {j : Nat} {cp : Pos} (ho : OpR X (binaryOp op) r) (ha : PE X a ta) : PEG X (.BinOp a op (.Constant (.str c) j cp) pos) (tOp r ta (tC (.str c))) := by
  intro pins s σ H Q I h
  refine wpAny_BinOp (thn (ha.run pins s σ H _ I h) fun v s1 ⟨x, H1, I1, r1, q1⟩ => ?_)
  refine Calls.Constant_str ?_
  refine wpAny_mono (PySem.wpAny_toks_of (n := 1) (Nat.succ_le_succ (Nat.zero_le s1.toks)) (ho pins { s1 with toks := s1.toks + 1 } σ H1 x (.str c) v _ Q (I1.tok _) r1 ⟨_, rfl⟩ q1)) (fun _ _ z => z) fun _ _ z => z.2
theorem da_first {op : Operator} {r : R2} {c : Str} {j : Nat} {cp : Pos} {f : D → D → Option D} (ho : OpR X (binaryOp op) r) (od : OpD X.G r f) (ha : DE X a ta ma) (hr : DAt X es at1 am)
    (hs : starEach (.BinOp a op (.Constant (.str c) j cp) pos :: es) X.env = (false, eval (.BinOp a op (.Constant (.str c) j cp) pos) X.env) :: starEach es X.env := by rfl) :
    DA X (.BinOp a op (.Constant (.str c) j cp) pos :: es) (tCons (tOp r ta (tC (.str c))) at1) (aCons (eOp2 f ma (eC (.str c))) am) := by
  refine ⟨⟨fun p pins s σ H Q I h => ?_⟩, fun Γ σ H ρ as ρ' Q s h k => ?_⟩
  · rw [hs]
    show wpAny _ _ (spliced ((false, eval (.BinOp a op (.Constant (.str c) j cp) pos) X.env) :: backTo p (starEach es X.env))) _ _ s
    refine Calls.spliced_cons (thn (peg_opC ho ha.pe pins s σ H _ I h) fun v s1 ⟨hk, x, H1, I1, r1, q1⟩ => ?_)
    exact thn (hr.pe p pins s1 σ H1 _ hk I1 q1) fun us s2 ⟨xs, H2, I2, r2, q2⟩ => ⟨x :: xs, H2, I2, .cons r1 r2, q2⟩
  · have he : DE X (.BinOp a op (.Constant (.str c) j cp) pos) (tOp r ta (tC (.str c))) (eOp2 f ma (eC (.str c))) := de_op ho od ha de_str
    unfold aCons at h
    obtain ⟨p, e1, h⟩ := Option.bind_eq_some_iff.mp h
    obtain ⟨q, e2, h⟩ := Option.map_eq_some_iff.mp h
    cases h
    refine he.q Γ σ H ρ p.1 p.2 _ s e1 fun v H1 a1 r1 => ?_
    refine hr.q Γ σ H1 p.2 q.1 q.2 _ a1.sr e2 fun vs H2 a2 r2 => ?_
    exact k _ H2 (a1.trans a2) ⟨v, vs, rfl, Rp.mo (a2.mo a1.sr) _ _ r1, r2⟩
omit [TabC] in
def tRepl1 (y z : Str) (te : TE) : TE := fun σ H Q => te σ H fun v H1 => ∃ x, v = .str x ∧ x.length + (x.length + 1) * z.length ≤ 16777216 ∧ Q (.str (Txt.repl1 x y z)) H1
omit [TabC] in
def repl1D (y z : Str) : D → Option D
  | .str x => if x.length + (x.length + 1) * z.length ≤ 16777216 then some (.str (Txt.repl1 x y z)) else none
  | _ => none
theorem det_repl1 {o : Expr} {y z : Str} {j0 j1 j2 : Nat} {c0 c1 c2 apos cpos : Pos} (ho : DE X o te m) (hyz : (y == z) = false)
    (hbase : attributeBase o "replace" X.env (eval o X.env) = eval o X.env := by rfl)
    (hfew : ((backTo cpos (starEach [.Constant (.str y) j0 c0, .Constant (.str z) j1 c1, .Constant (.int 1) j2 c2] X.env)).all (fun x => !x.1) && (backToKw cpos (keywordEach [] X.env)).all (fun x => x.1.isSome)
      && decide (([.Constant (.str y) j0 c0, .Constant (.str z) j1 c1, .Constant (.int 1) j2 c2] : List Expr).length + ([] : List Keyword).length + (if ([] : List Keyword).isEmpty then 0 else 1) < 30)) = true := by rfl)
    (hline : (apos.endLine == cpos.line) = true := by rfl) :
    DEt X (.Call (.Attribute o "replace" apos) [.Constant (.str y) j0 c0, .Constant (.str z) j1 c1, .Constant (.int 1) j2 c2] [] cpos) (tRepl1 y z te) (eOp1 (repl1D y z) m) := by
  refine ⟨fun pins s σ H Q h0 I h => ?_, fun Γ σ H ρ d ρ' Q s h k => ?_⟩
  · refine wpAny_Call_method_lateS hbase hfew hline ?_
    refine wpAny_mono (PySem.wpAny_toks_of h0 (ho.pe.run pins s σ H _ I h)) (fun v s1 q => ?_) fun _ _ z => z.2
    obtain ⟨h1, v0, H1, I1, r1, x, rfl, hb, q⟩ := q
    obtain ⟨t, rfl⟩ := r1
    refine ⟨"str", _, F.plainAttrs_str, F.slot_str_replace, F.type_str_replace, typeIs_str _ _ _, (fun _ e => nomatch e), ?_⟩
    refine Calls.callWith_builtin rfl (Calls.evalArgs_plain ?_)
    show wpAny _ _ (spliced ((false, eval (.Constant (.str y) j0 c0) X.env) :: (false, eval (.Constant (.str z) j1 c1) X.env) :: (false, eval (.Constant (.int 1) j2 c2) X.env) :: [])) _ _ s1
    refine Calls.spliced_cons (Calls.Constant_str ?_)
    refine Calls.spliced_cons (Calls.Constant_str ?_)
    refine Calls.spliced_cons (wpAny_Constant_int ?_)
    refine Calls.spliced_nil ?_
    refine PySem.SC.repl1 (show s1.toks ≠ 0 by omega) (show s1.toks + 1 ≠ 0 by omega) (show s1.toks ≠ s1.toks + 1 by omega) hyz hb fun t' k => ?_
    exact ⟨.str (Txt.repl1 x y z), H1, I1.tok k, ⟨t', rfl⟩, q⟩
  · unfold eOp1 at h
    obtain ⟨p, e1, h⟩ := Option.bind_eq_some_iff.mp h
    obtain ⟨w, e3, h⟩ := Option.map_eq_some_iff.mp h
    cases h
    refine ho.q Γ σ H ρ _ _ _ s e1 fun v H1 a1 r1 => ?_
    cases q : p.1 with
    | str x =>
      rw [q] at r1 e3
      cases (show v = .str x from r1)
      unfold repl1D at e3
      simp only at e3
      split at e3
      case isFalse => cases e3
      rename_i c
      cases e3
      exact ⟨x, rfl, c, k _ H1 a1 rfl⟩
    | _ => rw [q] at e3; cases e3
end
end DL
namespace LW
open PySem PySem.Spec PyProof.Rows L2 DL
abbrev FnP (K : PySem.W.Frag) (x : Str) (st : Stmt) (f : Addr) (fd : FuncData) : Prop := FunD K x x (defArgs st) (defBody st) (defScope st) [] [] f fd
section
variable {P : Program} {w : World} {K : PySem.W.Frag} {mg : Str → Option Value} {base : Heap}
theorem sc_I_BadText : FnScope ["self", "text"] ["self", "text"] (defScope s_I_BadText) := ⟨rfl, rfl, rfl, by decide +kernel, rfl, by decide +kernel, by decide +kernel⟩
theorem okI_BadText (nve : mg "ValueError" = none) (vv : ∀ b : XBase, PySem.W.findCls K (.type b.nm) (.type "type") "__init__" = some (.val (.builtin b.ini))) {C f : Addr} {fd : FuncData} (F : FunD K "__init__" "BadText.__init__" (defArgs s_I_BadText) (defBody s_I_BadText) (defScope s_I_BadText) [] [] f fd) : FnOk P w K mg base CX0 1 f fd ["self", "text"] (sp1 K .ve C "text") :=
  F.ok sc_I_BadText (fun vs H Q E h => by obtain ⟨a, y, rfl, _⟩ := h; rfl) fun cdv A outer s H vs Q E hr h => ⟨_, pss_cons (ps_expr (pe_binit (xb := .ve) rfl nve PyProof.Rows.Boot.«ValueError» (vv .ve) (pa_cons (pe_var (i := 0) rfl (.inl rfl)) (pa_cons pe_str pa_nil)))) (pss_one (ps_osg (xb := .ve) (pe_var (i := 0) rfl (.inl rfl)) (pe_var (i := 1) rfl (.inl rfl)))), by
    obtain ⟨a, y, rfl, o, hno, ha, q⟩ := h
    exact ⟨.ref a, rfl, a, C, _, rfl, by simp, o, ha, y, rfl, .ref a, rfl, a, C, rfl, o, hno, ha, fun dx nd ne => q dx nd ne⟩⟩
theorem sc_number_in : FnScope ["word", "sign"] ["word"] (defScope s_number_in) := ⟨rfl, rfl, rfl, by decide +kernel, rfl, by decide +kernel, by decide +kernel⟩
def b_number_in : SM := (sSeq (sIf (tOr (tNot (tB (eChain ltD leD (eC (.int 0)) (eCallV lenF (aCons (eVar 0) aNil)) (eC (.int 13))))) (tNot (tB (eCallV allF (aCons (eComp [1] (iSign (eVar 0)) (gV 1) tTrue (eOp2 (inSD false) (eVar 1) (eC (.str "0123456789")))) aNil))))) (sRet (eC .non)) sSkip)
  (sRet (eIf (tB (eOp2 eqD (eCallV strF (aCons (eCallV intTF (aCons (eVar 0) aNil)) aNil)) (eVar 0))) (eCallV intTF (aCons (eVar 0) aNil)) (eC .non))))
def f_number_in : FnSem := mkFn 1 1 b_number_in
theorem dv_number_in [TabC] (nb : Nb mg) (g_FIGURES : ∃ t, mg "FIGURES" = some (.str "0123456789" t)) (g_MOST_FIGURES : ∃ t, mg "MOST_FIGURES" = some (.int 13 t)) {cdv : Value} {A : Around} {outer : List PySem.Env} {s : Shared} {H : Hp} {E : XK} {f : Addr} (hr : Room 0 (A.deeper (PyProof.Rows.envOfC "number_in" (defScope s_number_in) s.heap.objs.size f cdv))) :
    ∃ t, DSs (cxOf CX0 P w K mg base ["word", "sign"] "number_in" (defScope s_number_in) f cdv A outer s H E).nox (defBody s_number_in) t b_number_in := ⟨_,
    (dss_cons (ds_if (DW.dt (dw_or (dt_not (dt_chain op_lt op_le od_lt od_le de_int (de_callB cr_len cd_len nb.len bt_len (da_cons (de_var 0) da_nil)) (de_gint g_MOST_FIGURES))) (dw_or1 (dt_not (dt_val (de_callB (cr_all rfl) cd_all nb.all bt_all (da_cons (DF.de (df_compX rfl sc_number_in.nd (di_str (de_var 0)) (blkOk_by (own := [("sign", 1)]) (by kernel_rfl)) (by exact fun _ _ _ _ _ => ⟨_, (dg_name 1 sc_number_in.nd)⟩) (by exact fun _ _ _ _ _ => ⟨_, dts_nil⟩) (by exact fun _ _ _ _ _ => ⟨_, (de_cmp op_inS od_inS (de_var 1) (de_gstr g_FIGURES) (by first | rfl | exact nomark _))⟩))) da_nil))))))) (dss_one (ds_ret de_non)) dss_nil)
    (dss_one (ds_ret (de_ifExp (dt_cmp (op_eqP hr.units) od_eq (de_callTy call_str1 cd_str nb.str bt_str (da_cons (de_callTy call_int_str cd_intT nb.int bt_int (da_cons (de_var 0) da_nil)) da_nil)) (de_var 0) (by first | rfl | exact nomark _)) (de_callTy call_int_str cd_intT nb.int bt_int (da_cons (de_var 0) da_nil)) de_non))))⟩
theorem ok_number_in [TabC] (nb : Nb mg) (g_FIGURES : ∃ t, mg "FIGURES" = some (.str "0123456789" t)) (g_MOST_FIGURES : ∃ t, mg "MOST_FIGURES" = some (.int 13 t)) {f : Addr} {fd : FuncData} (F : FnP K "number_in" s_number_in f fd) : FnOk P w K mg base CX0 1 f fd ["word"] (spF ⟨K, mg⟩ f_number_in) :=
  fn_ok F sc_number_in fun cdv A outer s H E hr => dv_number_in nb g_FIGURES g_MOST_FIGURES hr
theorem sc_sea_text : FnScope ["sea", "draught"] ["sea"] (defScope s_sea_text) := ⟨rfl, rfl, rfl, by decide +kernel, rfl, by decide +kernel, by decide +kernel⟩
def b_sea_text : SM := (sRet (eOp2 joinD2 (eC (.str " ")) (eOp2 addD (eCallV mkLst (aCons (eCallV strF (aCons (eOp2 ixD (eVar 0) (eC (.int 0))) aNil)) (aCons (eCallV strF (aCons (eOp2 ixD (eVar 0) (eC (.int 1))) aNil)) (aCons (eC (.str ":")) aNil)))) (eComp [1] (iSeq (eOp2 ixD (eVar 0) (eC (.int 2)))) (gV 1) tTrue (eCallV strF (aCons (eVar 1) aNil))))))
def f_sea_text : FnSem := mkFn 1 1 b_sea_text
theorem dv_sea_text [TabC] (nb : Nb mg) (g_BLANK : ∃ t, mg "BLANK" = some (.str " " t)) (g_COLON : ∃ t, mg "COLON" = some (.str ":" t)) {cdv : Value} {A : Around} {outer : List PySem.Env} {s : Shared} {H : Hp} {E : XK} {f : Addr} (hr : Room 0 (A.deeper (PyProof.Rows.envOfC "sea_text" (defScope s_sea_text) s.heap.objs.size f cdv))) :
    ∃ t, DSs (cxOf CX0 P w K mg base ["sea", "draught"] "sea_text" (defScope s_sea_text) f cdv A outer s H E).nox (defBody s_sea_text) t b_sea_text := ⟨_,
    (dss_one (ds_ret (de_join (de_gstr g_BLANK) (de_op op_addA od_add (de_lst (da_cons (de_callTy call_str1 cd_str nb.str bt_str (da_cons (de_ix ix_seq od_ix (de_var 0) de_int) da_nil)) (da_cons (de_callTy call_str1 cd_str nb.str bt_str (da_cons (de_ix ix_seq od_ix (de_var 0) de_int) da_nil)) (da_cons (de_gstr g_COLON) da_nil)))) (DF.de (df_compX rfl sc_sea_text.nd (di_seq (de_ix ix_seq od_ix (de_var 0) de_int)) (blkOk_by (own := [("draught", 1)]) (by kernel_rfl)) (by exact fun _ _ _ _ _ => ⟨_, (dg_name 1 sc_sea_text.nd)⟩) (by exact fun _ _ _ _ _ => ⟨_, dts_nil⟩) (by exact fun _ _ _ _ _ => ⟨_, (de_callTy call_str1 cd_str nb.str bt_str (da_cons (de_var 1) da_nil))⟩)))))))⟩
theorem ok_sea_text [TabC] (nb : Nb mg) (g_BLANK : ∃ t, mg "BLANK" = some (.str " " t)) (g_COLON : ∃ t, mg "COLON" = some (.str ":" t)) {f : Addr} {fd : FuncData} (F : FnP K "sea_text" s_sea_text f fd) : FnOk P w K mg base CX0 1 f fd ["sea"] (spF ⟨K, mg⟩ f_sea_text) :=
  fn_ok F sc_sea_text fun cdv A outer s H E hr => dv_sea_text nb g_BLANK g_COLON hr
theorem sc_sea_in : FnScope ["text", "words", "numbers", "word"] ["text"] (defScope s_sea_in) := ⟨rfl, rfl, rfl, by decide +kernel, rfl, by decide +kernel, by decide +kernel⟩
def b_sea_in : SM := (sSeq (sSet 1 (eOp2 splitD (eVar 0) (eC (.str " "))))
  (sSeq (sSet 2 (eComp [3] (iSeq (eOp2 addD (eSlice (eVar 1) oNo (oSome (eC (.int 2)))) (eSlice (eVar 1) (oSome (eC (.int 3))) oNo))) (gV 3) tTrue (eCall f_number_in (aCons (eVar 3) aNil))))
  (sSeq (sIf (tOr (tB (eOp2 leD (eCallV lenF (aCons (eVar 1) aNil)) (eC (.int 3)))) (tOr (tB (eOp2 neD (eOp2 ixD (eVar 1) (eC (.int 2))) (eC (.str ":")))) (tB (eOp2 (inD false) (eC .non) (eVar 2))))) sNever sSkip)
  (sRet (eCallV mkTup (aCons (eOp2 ixD (eVar 2) (eC (.int 0))) (aCons (eOp2 ixD (eVar 2) (eC (.int 1))) (aCons (eCallV tupF (aCons (eSlice (eVar 2) (oSome (eC (.int 2))) oNo) aNil)) aNil))))))))
def f_sea_in : FnSem := mkFn 1 3 b_sea_in
theorem dv_sea_in [TabC] (nb : Nb mg) (g_AHEAD : ∃ t, mg "AHEAD" = some (.int 3 t)) (g_BLANK : ∃ t, mg "BLANK" = some (.str " " t)) (g_COLON : ∃ t, mg "COLON" = some (.str ":" t)) (g_DEPTHS : ∃ t, mg "DEPTHS" = some (.int 2 t)) (c_number_in : FnD P w K mg base "number_in" 1 ["word"] f_number_in) {cdv : Value} {A : Around} {outer : List PySem.Env} {s : Shared} {H : Hp} {E : XK} {f : Addr} (hr : Room 1 (A.deeper (PyProof.Rows.envOfC "sea_in" (defScope s_sea_in) s.heap.objs.size f cdv))) :
    ∃ t, DSs (cxOf CX0 P w K mg base ["text", "words", "numbers", "word"] "sea_in" (defScope s_sea_in) f cdv A outer s H E).nox (defBody s_sea_in) t b_sea_in := ⟨_,
    (dss_cons (ds_set 1 sc_sea_in.nd (de_split (de_var 0) (de_gstr g_BLANK)))
    (dss_cons (ds_setCompX 2 rfl sc_sea_in.nd (di_seq (de_op op_addA od_add (de_slice (de_var 1) do_none (do_some (de_gint g_DEPTHS))) (de_slice (de_var 1) (do_some (de_gint g_AHEAD)) do_none))) (blkOk_by (own := [("word", 3)]) (by kernel_rfl)) (by exact fun _ _ _ _ _ => ⟨_, (dg_name 3 sc_sea_in.nd)⟩) (by exact fun _ _ _ _ _ => ⟨_, dts_nil⟩) (by exact fun _ _ _ _ _ => ⟨_, (de_call c_number_in (hr.mono (by omega)) (da_cons (de_var 3) da_nil))⟩))
    (dss_cons (ds_if (DW.dt (dw_or (dt_cmp op_le od_le (de_callB cr_len cd_len nb.len bt_len (da_cons (de_var 1) da_nil)) (de_gint g_AHEAD) (by first | rfl | exact nomark _)) (dw_or (dt_cmp (op_neP hr.units) od_ne (de_ix ix_seq od_ix (de_var 1) (de_gint g_DEPTHS)) (de_gstr g_COLON) (by first | rfl | exact nomark _)) (dw_or1 (dt_cmp (op_inP hr.units) (od_in false) de_non (de_var 2) (by first | rfl | exact nomark _)))))) (dss_one ds_never) dss_nil)
    (dss_one (ds_ret (de_tup (da_cons (de_ix ix_seq od_ix (de_var 2) de_int) (da_cons (de_ix ix_seq od_ix (de_var 2) de_int) (da_cons (de_callTy call_tuple_of cd_tup nb.tuple bt_tuple (da_cons (de_slice (de_var 2) (do_some (de_gint g_DEPTHS)) do_none) da_nil)) da_nil)))))))))⟩
theorem ok_sea_in [TabC] (nb : Nb mg) (g_AHEAD : ∃ t, mg "AHEAD" = some (.int 3 t)) (g_BLANK : ∃ t, mg "BLANK" = some (.str " " t)) (g_COLON : ∃ t, mg "COLON" = some (.str ":" t)) (g_DEPTHS : ∃ t, mg "DEPTHS" = some (.int 2 t)) (c_number_in : FnD P w K mg base "number_in" 1 ["word"] f_number_in) {f : Addr} {fd : FuncData} (F : FnP K "sea_in" s_sea_in f fd) : FnOk P w K mg base CX0 2 f fd ["text"] (spF ⟨K, mg⟩ f_sea_in) :=
  fn_ok F sc_sea_in fun cdv A outer s H E hr => dv_sea_in nb g_AHEAD g_BLANK g_COLON g_DEPTHS c_number_in hr
noncomputable def bB_sea_in : BM := (bSeq (bOk (sSet 1 (eOp2 splitD (eVar 0) (eC (.str " ")))))
  (bSeq (bOk (sSet 2 (eComp [3] (iSeq (eOp2 addD (eSlice (eVar 1) oNo (oSome (eC (.int 2)))) (eSlice (eVar 1) (oSome (eC (.int 3))) oNo))) (gV 3) tTrue (eCall f_number_in (aCons (eVar 3) aNil)))))
  (bSeq (bIf (tOr (tB (eOp2 leD (eCallV lenF (aCons (eVar 1) aNil)) (eC (.int 3)))) (tOr (tB (eOp2 neD (eOp2 ixD (eVar 1) (eC (.int 2))) (eC (.str ":")))) (tB (eOp2 (inD false) (eC .non) (eVar 2))))) (fun ρ => ((eVar 0) ρ).map fun q => .ex ("BadText", [("text", q.1)]) q.2) (bOk sSkip))
  (bOk (sRet (eCallV mkTup (aCons (eOp2 ixD (eVar 2) (eC (.int 0))) (aCons (eOp2 ixD (eVar 2) (eC (.int 1))) (aCons (eCallV tupF (aCons (eSlice (eVar 2) (oSome (eC (.int 2))) oNo) aNil)) aNil)))))))))
noncomputable def fB_sea_in : FnB := mkFnB 1 3 bB_sea_in
theorem le_sea_in : LeF f_sea_in fB_sea_in := le_fn (le_seq (le_ok _) (le_seq (le_ok _) (le_seq (le_if le_never (le_ok _)) (le_ok _))))
theorem dvB_sea_in [TabC] (nb : Nb mg) (g_AHEAD : ∃ t, mg "AHEAD" = some (.int 3 t)) (g_BLANK : ∃ t, mg "BLANK" = some (.str " " t)) (g_COLON : ∃ t, mg "COLON" = some (.str ":" t)) (g_DEPTHS : ∃ t, mg "DEPTHS" = some (.int 2 t)) (xc_BadText : XC1 P w K mg base "BadText" "text") (c_number_in : FnD P w K mg base "number_in" 1 ["word"] f_number_in) {cdv : Value} {A : Around} {outer : List PySem.Env} {s : Shared} {H : Hp} {E : XK} {f : Addr} (hr : Room 3 (A.deeper (PyProof.Rows.envOfC "sea_in" (defScope s_sea_in) s.heap.objs.size f cdv))) (hp : PassesOwn (model P w) (cxOf (L2.CX P w) P w K mg base ["text", "words", "numbers", "word"] "sea_in" (defScope s_sea_in) f cdv A outer s H E).A (cxOf (L2.CX P w) P w K mg base ["text", "words", "numbers", "word"] "sea_in" (defScope s_sea_in) f cdv A outer s H E).env (cxOf (L2.CX P w) P w K mg base ["text", "words", "numbers", "word"] "sea_in" (defScope s_sea_in) f cdv A outer s H E).xe) :
    ∃ t, BSs (cxOf (L2.CX P w) P w K mg base ["text", "words", "numbers", "word"] "sea_in" (defScope s_sea_in) f cdv A outer s H E) (defBody s_sea_in) t bB_sea_in := ⟨_,
    (bss_cons (bs_ds (ds_set 1 sc_sea_in.nd (de_split (de_var 0) (de_gstr g_BLANK))))
    (bss_cons (bs_ds (ds_setCompX 2 rfl sc_sea_in.nd (di_seq (de_op op_addA od_add (de_slice (de_var 1) do_none (do_some (de_gint g_DEPTHS))) (de_slice (de_var 1) (do_some (de_gint g_AHEAD)) do_none))) (blkOk_by (own := [("word", 3)]) (by kernel_rfl)) (by exact fun _ _ _ _ _ => ⟨_, (dg_name 3 sc_sea_in.nd)⟩) (by exact fun _ _ _ _ _ => ⟨_, dts_nil⟩) (by exact fun _ _ _ _ _ => ⟨_, (de_call c_number_in (hr.mono (by omega)) (da_cons (de_var 3) da_nil))⟩)))
    (bss_cons (bs_if (DW.dt (dw_or (dt_cmp op_le od_le (de_callB cr_len cd_len nb.len bt_len (da_cons (de_var 1) da_nil)) (de_gint g_AHEAD) (by first | rfl | exact nomark _)) (dw_or (dt_cmp (op_neP hr.units) od_ne (de_ix ix_seq od_ix (de_var 1) (de_gint g_DEPTHS)) (de_gstr g_COLON) (by first | rfl | exact nomark _)) (dw_or1 (dt_cmp (op_inP hr.units) (od_in false) de_non (de_var 2) (by first | rfl | exact nomark _)))))) (bss_one (bs_raise1 xc_BadText (hr.mono (by omega)) (de_var 0)).choose_spec) (bss_ds dss_nil))
    (bss_ds (dss_one (ds_ret (de_tup (da_cons (de_ix ix_seq od_ix (de_var 2) de_int) (da_cons (de_ix ix_seq od_ix (de_var 2) de_int) (da_cons (de_callTy call_tuple_of cd_tup nb.tuple bt_tuple (da_cons (de_slice (de_var 2) (do_some (de_gint g_DEPTHS)) do_none) da_nil)) da_nil))))))))))⟩
theorem okB_sea_in [TabC] (nb : Nb mg) (g_AHEAD : ∃ t, mg "AHEAD" = some (.int 3 t)) (g_BLANK : ∃ t, mg "BLANK" = some (.str " " t)) (g_COLON : ∃ t, mg "COLON" = some (.str ":" t)) (g_DEPTHS : ∃ t, mg "DEPTHS" = some (.int 2 t)) (xc_BadText : XC1 P w K mg base "BadText" "text") (c_number_in : FnD P w K mg base "number_in" 1 ["word"] f_number_in) {f : Addr} {fd : FuncData} (F : FnP K "sea_in" s_sea_in f fd) : FnOk P w K mg base (L2.CX P w) 4 f fd ["text"] (spB ⟨K, mg⟩ fB_sea_in) :=
  fn_okB F sc_sea_in fun cdv A outer s H E hr hp => dvB_sea_in nb g_AHEAD g_BLANK g_COLON g_DEPTHS xc_BadText c_number_in hr hp
theorem sc_standing_text : FnScope ["standing", "ship"] ["standing"] (defScope s_standing_text) := ⟨rfl, rfl, rfl, by decide +kernel, rfl, by decide +kernel, by decide +kernel⟩
def b_standing_text : SM := (sRet (eOp2 orD (eOp2 joinD2 (eC (.str " ")) (eComp [1] (iSeq (eVar 0)) (gV 1) tTrue (eCallV strF (aCons (eVar 1) aNil)))) (eC (.str "-"))))
def f_standing_text : FnSem := mkFn 1 1 b_standing_text
theorem dv_standing_text [TabC] (nb : Nb mg) (g_BLANK : ∃ t, mg "BLANK" = some (.str " " t)) (g_NONE : ∃ t, mg "NONE" = some (.str "-" t)) {cdv : Value} {A : Around} {outer : List PySem.Env} {s : Shared} {H : Hp} {E : XK} {f : Addr} (hr : Room 0 (A.deeper (PyProof.Rows.envOfC "standing_text" (defScope s_standing_text) s.heap.objs.size f cdv))) :
    ∃ t, DSs (cxOf CX0 P w K mg base ["standing", "ship"] "standing_text" (defScope s_standing_text) f cdv A outer s H E).nox (defBody s_standing_text) t b_standing_text := ⟨_,
    (dss_one (ds_ret (de_orC (de_join (de_gstr g_BLANK) (DF.de (df_compX rfl sc_standing_text.nd (di_seq (de_var 0)) (blkOk_by (own := [("ship", 1)]) (by kernel_rfl)) (by exact fun _ _ _ _ _ => ⟨_, (dg_name 1 sc_standing_text.nd)⟩) (by exact fun _ _ _ _ _ => ⟨_, dts_nil⟩) (by exact fun _ _ _ _ _ => ⟨_, (de_callTy call_str1 cd_str nb.str bt_str (da_cons (de_var 1) da_nil))⟩)))) (de_gstr g_NONE))))⟩
theorem ok_standing_text [TabC] (nb : Nb mg) (g_BLANK : ∃ t, mg "BLANK" = some (.str " " t)) (g_NONE : ∃ t, mg "NONE" = some (.str "-" t)) {f : Addr} {fd : FuncData} (F : FnP K "standing_text" s_standing_text f fd) : FnOk P w K mg base CX0 1 f fd ["standing"] (spF ⟨K, mg⟩ f_standing_text) :=
  fn_ok F sc_standing_text fun cdv A outer s H E hr => dv_standing_text nb g_BLANK g_NONE hr
theorem sc_ships_in : FnScope ["words", "numbers", "word"] ["words"] (defScope s_ships_in) := ⟨rfl, rfl, rfl, by decide +kernel, rfl, by decide +kernel, by decide +kernel⟩
def b_ships_in : SM := (sSeq (sSet 1 (eComp [2] (iSeq (eVar 0)) (gV 2) tTrue (eCall f_number_in (aCons (eVar 2) aNil))))
  (sRet (eIf (tOr (tB (eOp2 (inD false) (eC .non) (eVar 1))) (tB (eOp2 neD (eVar 1) (eCallV sosF (aCons (eVar 1) aNil))))) (eC .non) (eCallV tupF (aCons (eVar 1) aNil)))))
def f_ships_in : FnSem := mkFn 1 2 b_ships_in
theorem dv_ships_in [TabC] (nb : Nb mg) (nx : NbX mg) (c_number_in : FnD P w K mg base "number_in" 1 ["word"] f_number_in) {cdv : Value} {A : Around} {outer : List PySem.Env} {s : Shared} {H : Hp} {E : XK} {f : Addr} (hr : Room 1 (A.deeper (PyProof.Rows.envOfC "ships_in" (defScope s_ships_in) s.heap.objs.size f cdv))) :
    ∃ t, DSs (cxOf CX0 P w K mg base ["words", "numbers", "word"] "ships_in" (defScope s_ships_in) f cdv A outer s H E).nox (defBody s_ships_in) t b_ships_in := ⟨_,
    (dss_cons (ds_setCompX 1 rfl sc_ships_in.nd (di_seq (de_var 0)) (blkOk_by (own := [("word", 2)]) (by kernel_rfl)) (by exact fun _ _ _ _ _ => ⟨_, (dg_name 2 sc_ships_in.nd)⟩) (by exact fun _ _ _ _ _ => ⟨_, dts_nil⟩) (by exact fun _ _ _ _ _ => ⟨_, (de_call c_number_in (hr.mono (by omega)) (da_cons (de_var 2) da_nil))⟩))
    (dss_one (ds_ret (de_ifExp (DW.dt (dw_or (dt_cmp (op_inP hr.units) (od_in false) de_non (de_var 1) (by first | rfl | exact nomark _)) (dw_or1 (dt_cmp (op_neP hr.units) od_ne (de_var 1) (DF.de (df_sos nb.sorted nx.set (de_var 1))) (by first | rfl | exact nomark _))))) de_non (de_callTy call_tuple_of cd_tup nb.tuple bt_tuple (da_cons (de_var 1) da_nil))))))⟩
theorem ok_ships_in [TabC] (nb : Nb mg) (nx : NbX mg) (c_number_in : FnD P w K mg base "number_in" 1 ["word"] f_number_in) {f : Addr} {fd : FuncData} (F : FnP K "ships_in" s_ships_in f fd) : FnOk P w K mg base CX0 2 f fd ["words"] (spF ⟨K, mg⟩ f_ships_in) :=
  fn_ok F sc_ships_in fun cdv A outer s H E hr => dv_ships_in nb nx c_number_in hr
theorem sc_standing_in : FnScope ["sea", "text", "ships", "ship"] ["sea", "text"] (defScope s_standing_in) := ⟨rfl, rfl, rfl, by decide +kernel, rfl, by decide +kernel, by decide +kernel⟩
def b_standing_in : SM := (sSeq (sSet 2 (eIf (tB (eOp2 eqD (eVar 1) (eC (.str "-")))) (eCallV mkTup aNil) (eCall f_ships_in (aCons (eOp2 splitD (eVar 1) (eC (.str " "))) aNil))))
  (sSeq (sIf (tOr (tB (eOp2 isD (eVar 2) (eC .non))) (tB (eCallV anyF (aCons (eComp [3] (iSeq (eVar 2)) (gV 3) tTrue (eOp2 geD (eVar 3) (eCallV lenF (aCons (eOp2 ixD (eVar 0) (eC (.int 2))) aNil)))) aNil)))) sNever sSkip)
  (sRet (eVar 2))))
def f_standing_in : FnSem := mkFn 2 2 b_standing_in
theorem dv_standing_in [TabC] (nb : Nb mg) (g_BLANK : ∃ t, mg "BLANK" = some (.str " " t)) (g_NONE : ∃ t, mg "NONE" = some (.str "-" t)) (c_ships_in : FnD P w K mg base "ships_in" 2 ["words"] f_ships_in) {cdv : Value} {A : Around} {outer : List PySem.Env} {s : Shared} {H : Hp} {E : XK} {f : Addr} (hr : Room 2 (A.deeper (PyProof.Rows.envOfC "standing_in" (defScope s_standing_in) s.heap.objs.size f cdv))) :
    ∃ t, DSs (cxOf CX0 P w K mg base ["sea", "text", "ships", "ship"] "standing_in" (defScope s_standing_in) f cdv A outer s H E).nox (defBody s_standing_in) t b_standing_in := ⟨_,
    (dss_cons (ds_set 2 sc_standing_in.nd (de_ifExp (dt_cmp (op_eqP hr.units) od_eq (de_var 1) (de_gstr g_NONE) (by first | rfl | exact nomark _)) (de_tup da_nil) (de_call c_ships_in (hr.mono (by omega)) (da_cons (de_split (de_var 1) (de_gstr g_BLANK)) da_nil))))
    (dss_cons (ds_if (DW.dt (dw_or (dt_cmp op_isA od_is (de_var 2) de_non (by first | rfl | exact nomark _)) (dw_or1 (dt_val (de_callB (cr_any rfl) cd_any nb.any bt_any (da_cons (DF.de (df_compX rfl sc_standing_in.nd (di_seq (de_var 2)) (blkOk_by (own := [("ship", 3)]) (by kernel_rfl)) (by exact fun _ _ _ _ _ => ⟨_, (dg_name 3 sc_standing_in.nd)⟩) (by exact fun _ _ _ _ _ => ⟨_, dts_nil⟩) (by exact fun _ _ _ _ _ => ⟨_, (de_cmp op_ge od_ge (de_var 3) (de_callB cr_len cd_len nb.len bt_len (da_cons (de_ix ix_seq od_ix (de_var 0) de_int) da_nil)) (by first | rfl | exact nomark _))⟩))) da_nil)))))) (dss_one ds_never) dss_nil)
    (dss_one (ds_ret (de_var 2)))))⟩
theorem ok_standing_in [TabC] (nb : Nb mg) (g_BLANK : ∃ t, mg "BLANK" = some (.str " " t)) (g_NONE : ∃ t, mg "NONE" = some (.str "-" t)) (c_ships_in : FnD P w K mg base "ships_in" 2 ["words"] f_ships_in) {f : Addr} {fd : FuncData} (F : FnP K "standing_in" s_standing_in f fd) : FnOk P w K mg base CX0 3 f fd ["sea", "text"] (spF ⟨K, mg⟩ f_standing_in) :=
  fn_ok F sc_standing_in fun cdv A outer s H E hr => dv_standing_in nb g_BLANK g_NONE c_ships_in hr
noncomputable def bB_standing_in : BM := (bSeq (bOk (sSet 2 (eIf (tB (eOp2 eqD (eVar 1) (eC (.str "-")))) (eCallV mkTup aNil) (eCall f_ships_in (aCons (eOp2 splitD (eVar 1) (eC (.str " "))) aNil)))))
  (bSeq (bIf (tOr (tB (eOp2 isD (eVar 2) (eC .non))) (tB (eCallV anyF (aCons (eComp [3] (iSeq (eVar 2)) (gV 3) tTrue (eOp2 geD (eVar 3) (eCallV lenF (aCons (eOp2 ixD (eVar 0) (eC (.int 2))) aNil)))) aNil)))) (fun ρ => ((eVar 1) ρ).map fun q => .ex ("BadText", [("text", q.1)]) q.2) (bOk sSkip))
  (bOk (sRet (eVar 2)))))
noncomputable def fB_standing_in : FnB := mkFnB 2 2 bB_standing_in
theorem le_standing_in : LeF f_standing_in fB_standing_in := le_fn (le_seq (le_ok _) (le_seq (le_if le_never (le_ok _)) (le_ok _)))
theorem dvB_standing_in [TabC] (nb : Nb mg) (g_BLANK : ∃ t, mg "BLANK" = some (.str " " t)) (g_NONE : ∃ t, mg "NONE" = some (.str "-" t)) (xc_BadText : XC1 P w K mg base "BadText" "text") (c_ships_in : FnD P w K mg base "ships_in" 2 ["words"] f_ships_in) {cdv : Value} {A : Around} {outer : List PySem.Env} {s : Shared} {H : Hp} {E : XK} {f : Addr} (hr : Room 3 (A.deeper (PyProof.Rows.envOfC "standing_in" (defScope s_standing_in) s.heap.objs.size f cdv))) (hp : PassesOwn (model P w) (cxOf (L2.CX P w) P w K mg base ["sea", "text", "ships", "ship"] "standing_in" (defScope s_standing_in) f cdv A outer s H E).A (cxOf (L2.CX P w) P w K mg base ["sea", "text", "ships", "ship"] "standing_in" (defScope s_standing_in) f cdv A outer s H E).env (cxOf (L2.CX P w) P w K mg base ["sea", "text", "ships", "ship"] "standing_in" (defScope s_standing_in) f cdv A outer s H E).xe) :
    ∃ t, BSs (cxOf (L2.CX P w) P w K mg base ["sea", "text", "ships", "ship"] "standing_in" (defScope s_standing_in) f cdv A outer s H E) (defBody s_standing_in) t bB_standing_in := ⟨_,
    (bss_cons (bs_ds (ds_set 2 sc_standing_in.nd (de_ifExp (dt_cmp (op_eqP hr.units) od_eq (de_var 1) (de_gstr g_NONE) (by first | rfl | exact nomark _)) (de_tup da_nil) (de_call c_ships_in (hr.mono (by omega)) (da_cons (de_split (de_var 1) (de_gstr g_BLANK)) da_nil)))))
    (bss_cons (bs_if (DW.dt (dw_or (dt_cmp op_isA od_is (de_var 2) de_non (by first | rfl | exact nomark _)) (dw_or1 (dt_val (de_callB (cr_any rfl) cd_any nb.any bt_any (da_cons (DF.de (df_compX rfl sc_standing_in.nd (di_seq (de_var 2)) (blkOk_by (own := [("ship", 3)]) (by kernel_rfl)) (by exact fun _ _ _ _ _ => ⟨_, (dg_name 3 sc_standing_in.nd)⟩) (by exact fun _ _ _ _ _ => ⟨_, dts_nil⟩) (by exact fun _ _ _ _ _ => ⟨_, (de_cmp op_ge od_ge (de_var 3) (de_callB cr_len cd_len nb.len bt_len (da_cons (de_ix ix_seq od_ix (de_var 0) de_int) da_nil)) (by first | rfl | exact nomark _))⟩))) da_nil)))))) (bss_one (bs_raise1 xc_BadText (hr.mono (by omega)) (de_var 1)).choose_spec) (bss_ds dss_nil))
    (bss_ds (dss_one (ds_ret (de_var 2))))))⟩
theorem okB_standing_in [TabC] (nb : Nb mg) (g_BLANK : ∃ t, mg "BLANK" = some (.str " " t)) (g_NONE : ∃ t, mg "NONE" = some (.str "-" t)) (xc_BadText : XC1 P w K mg base "BadText" "text") (c_ships_in : FnD P w K mg base "ships_in" 2 ["words"] f_ships_in) {f : Addr} {fd : FuncData} (F : FnP K "standing_in" s_standing_in f fd) : FnOk P w K mg base (L2.CX P w) 4 f fd ["sea", "text"] (spB ⟨K, mg⟩ fB_standing_in) :=
  fn_okB F sc_standing_in fun cdv A outer s H E hr hp => dvB_standing_in nb g_BLANK g_NONE xc_BadText c_ships_in hr hp
theorem sc_law_cell_at : FnScope ["_law_script", "_law_k"] ["_law_script", "_law_k"] (defScope s_law_cell_at) := ⟨rfl, rfl, rfl, by decide +kernel, rfl, by decide +kernel, by decide +kernel⟩
def b_law_cell_at : SM := (sSeq (sIf (tB (eOp2 ltD (eVar 1) (eCallV lenF (aCons (eVar 0) aNil)))) (sRet (eOp2 ixD (eVar 0) (eVar 1))) sSkip)
  (sRet (eC (.int 0))))
def f_law_cell_at : FnSem := mkFn 2 0 b_law_cell_at
theorem dv_law_cell_at [TabC] (nb : Nb mg)  {cdv : Value} {A : Around} {outer : List PySem.Env} {s : Shared} {H : Hp} {E : XK} {f : Addr} (hr : Room 0 (A.deeper (PyProof.Rows.envOfC "_law_cell_at" (defScope s_law_cell_at) s.heap.objs.size f cdv))) :
    ∃ t, DSs (cxOf CX0 P w K mg base ["_law_script", "_law_k"] "_law_cell_at" (defScope s_law_cell_at) f cdv A outer s H E).nox (defBody s_law_cell_at) t b_law_cell_at := ⟨_,
    (dss_cons (ds_if (dt_cmp op_lt od_lt (de_var 1) (de_callB cr_len cd_len nb.len bt_len (da_cons (de_var 0) da_nil)) (by first | rfl | exact nomark _)) (dss_one (ds_ret (de_ix ix_seq od_ix (de_var 0) (de_var 1)))) dss_nil)
    (dss_one (ds_ret de_int)))⟩
theorem ok_law_cell_at [TabC] (nb : Nb mg)  {f : Addr} {fd : FuncData} (F : FnP K "_law_cell_at" s_law_cell_at f fd) : FnOk P w K mg base CX0 1 f fd ["_law_script", "_law_k"] (spF ⟨K, mg⟩ f_law_cell_at) :=
  fn_ok F sc_law_cell_at fun cdv A outer s H E hr => dv_law_cell_at nb  hr
theorem sc_law_box : FnScope ["_law_script", "_law_k", "_law_core"] ["_law_script", "_law_k"] (defScope s_law_box) := ⟨rfl, rfl, rfl, by decide +kernel, rfl, by decide +kernel, by decide +kernel⟩
def b_law_box : SM := (sSeq (sSet 2 (eCall f_law_cell_at (aCons (eVar 0) (aCons (eVar 1) aNil))))
  (sRetF (eCallV mkLst (aCons (eOp2 mulI (eCallV absF (aCons (eVar 2) aNil)) (eCallV intF (aCons (eOp2 geD (eCallV absF (aCons (eVar 2) aNil)) (eOp2 powD (eC (.int 10)) (eC (.int 18)))) aNil))) (aCons (eOp2 addD (eOp2 addD (eOp2 modD (eVar 2) (eC (.int 2305843009213693951))) (eOp2 mulI (eC (.int 39373)) (eVar 1))) (eC (.int 17))) (aCons (eC (.int 0)) aNil))))))
def f_law_box : FnSem := mkFn 2 1 b_law_box
def fF_law_box : FnSem := mkFnF 2 1 b_law_box
theorem dv_law_box [TabC] (nb : Nb mg) (c_law_cell_at : FnD P w K mg base "_law_cell_at" 1 ["_law_script", "_law_k"] f_law_cell_at) {cdv : Value} {A : Around} {outer : List PySem.Env} {s : Shared} {H : Hp} {E : XK} {f : Addr} (hr : Room 1 (A.deeper (PyProof.Rows.envOfC "_law_box" (defScope s_law_box) s.heap.objs.size f cdv))) :
    ∃ t, DSs (cxOf CX0 P w K mg base ["_law_script", "_law_k", "_law_core"] "_law_box" (defScope s_law_box) f cdv A outer s H E).nox (defBody s_law_box) t b_law_box := ⟨_,
    (dss_cons (ds_set 2 sc_law_box.nd (de_call c_law_cell_at (hr.mono (by omega)) (da_cons (de_var 0) (da_cons (de_var 1) da_nil))))
    (dss_one (ds_retF (df_lst (da_cons (de_op op_mul od_mulI (de_callB call_abs cd_abs nb.abs bt_abs (da_cons (de_var 2) da_nil)) (de_callTy call_int1 cd_int nb.int bt_int (da_cons (de_cmp op_ge od_ge (de_callB call_abs cd_abs nb.abs bt_abs (da_cons (de_var 2) da_nil)) (de_op op_pow od_pow de_int de_int) (by first | rfl | exact nomark _)) da_nil))) (da_cons (de_op op_addA od_add (de_op op_addA od_add (de_op op_mod od_mod (de_var 2) de_int) (de_op op_mul od_mulI de_int (de_var 1))) de_int) (da_cons de_int da_nil)))))))⟩
theorem ok_law_box [TabC] (nb : Nb mg) (c_law_cell_at : FnD P w K mg base "_law_cell_at" 1 ["_law_script", "_law_k"] f_law_cell_at) {f : Addr} {fd : FuncData} (F : FnP K "_law_box" s_law_box f fd) : FnOk P w K mg base CX0 2 f fd ["_law_script", "_law_k"] (spF ⟨K, mg⟩ f_law_box) :=
  fn_ok F sc_law_box fun cdv A outer s H E hr => dv_law_box nb c_law_cell_at hr
theorem okF_law_box [TabC] (nb : Nb mg) (c_law_cell_at : FnD P w K mg base "_law_cell_at" 1 ["_law_script", "_law_k"] f_law_cell_at) {f : Addr} {fd : FuncData} (F : FnP K "_law_box" s_law_box f fd) : FnOk P w K mg base CX0 2 f fd ["_law_script", "_law_k"] (spFF ⟨K, mg⟩ fF_law_box) :=
  fn_okF F sc_law_box fun cdv A outer s H E hr => dv_law_box nb c_law_cell_at hr
theorem sc_law_take : FnScope ["_law_box_here", "_law_span", "_law_found", "_law_once", "_law_twice"] ["_law_box_here", "_law_span"] (defScope s_law_take) := ⟨rfl, rfl, rfl, by decide +kernel, rfl, by decide +kernel, by decide +kernel⟩
def b_law_take : SM := (sSeq (sIf (tB (eOp2 gtD (eIxO 0 (eC (.int 0))) (eC (.int 0)))) (sSeq (sSet 2 (eOp2 modD (eIxO 0 (eC (.int 0))) (eVar 1)))
  (sSeq (sStore "list" 0 setL (eC (.int 0)) (eOp2 divD (eIxO 0 (eC (.int 0))) (eVar 1)))
  (sRet (eVar 2)))) sSkip)
  (sSeq (sStore "list" 0 setL (eC (.int 2)) (eOp2 addD (eIxO 0 (eC (.int 2))) (eC (.int 1))))
  (sSeq (sSet 3 (eOp2 modD (eOp2 mulI (eOp2 addD (eIxO 0 (eC (.int 1))) (eOp2 mulI (eC (.int 48271)) (eIxO 0 (eC (.int 2))))) (eOp2 addD (eC (.int 39373)) (eIxO 0 (eC (.int 2))))) (eC (.int 2147483647))))
  (sSeq (sSet 4 (eOp2 modD (eOp2 mulI (eOp2 addD (eOp2 addD (eVar 3) (eIxO 0 (eC (.int 2)))) (eOp2 divD (eIxO 0 (eC (.int 1))) (eC (.int 1000003)))) (eOp2 addD (eOp2 modD (eVar 3) (eC (.int 40009))) (eC (.int 7)))) (eC (.int 2147483629))))
  (sRet (eOp2 modD (eOp2 divD (eOp2 modD (eOp2 addD (eOp2 mulI (eVar 4) (eC (.int 48271))) (eVar 3)) (eC (.int 2147483587))) (eC (.int 64))) (eVar 1)))))))
def f_law_take : FnSem := mkFn 2 3 b_law_take
theorem dv_law_take [TabC] (nb : Nb mg)  {cdv : Value} {A : Around} {outer : List PySem.Env} {s : Shared} {H : Hp} {E : XK} {f : Addr} (hr : Room 0 (A.deeper (PyProof.Rows.envOfC "_law_take" (defScope s_law_take) s.heap.objs.size f cdv))) :
    ∃ t, DSs (cxOf CX0 P w K mg base ["_law_box_here", "_law_span", "_law_found", "_law_once", "_law_twice"] "_law_take" (defScope s_law_take) f cdv A outer s H E).nox (defBody s_law_take) t b_law_take := ⟨_,
    (dss_cons (ds_if (dt_cmp op_gt od_gt (de_ixO 0 de_int) de_int (by first | rfl | exact nomark _)) (dss_cons (ds_set 2 sc_law_take.nd (de_op op_mod od_mod (de_ixO 0 de_int) (de_var 1)))
    (dss_cons (ds_store 0 (T := "list") (de_op op_fdivW od_div (de_ixO 0 de_int) (de_var 1)) de_int set_list sd_set)
    (dss_one (ds_ret (de_var 2))))) dss_nil)
    (dss_cons (ds_store 0 (T := "list") (de_op op_addA od_add (de_ixO 0 de_int) de_int) de_int set_list sd_set)
    (dss_cons (ds_set 3 sc_law_take.nd (de_op op_mod od_mod (de_op op_mul od_mulI (de_op op_addA od_add (de_ixO 0 de_int) (de_op op_mul od_mulI de_int (de_ixO 0 de_int))) (de_op op_addA od_add de_int (de_ixO 0 de_int))) de_int))
    (dss_cons (ds_set 4 sc_law_take.nd (de_op op_mod od_mod (de_op op_mul od_mulI (de_op op_addA od_add (de_op op_addA od_add (de_var 3) (de_ixO 0 de_int)) (de_op op_fdivW od_div (de_ixO 0 de_int) de_int)) (de_op op_addA od_add (de_op op_mod od_mod (de_var 3) de_int) de_int)) de_int))
    (dss_one (ds_ret (de_op op_mod od_mod (de_op op_fdivW od_div (de_op op_mod od_mod (de_op op_addA od_add (de_op op_mul od_mulI (de_var 4) de_int) (de_var 3)) de_int) de_int) (de_var 1))))))))⟩
theorem ok_law_take [TabC] (nb : Nb mg)  {f : Addr} {fd : FuncData} (F : FnP K "_law_take" s_law_take f fd) : FnOk P w K mg base CX0 1 f fd ["_law_box_here", "_law_span"] (spF ⟨K, mg⟩ f_law_take) :=
  fn_ok F sc_law_take fun cdv A outer s H E hr => dv_law_take nb  hr
theorem sc_law_of : FnScope ["_law_box_here", "_law_some"] ["_law_box_here", "_law_some"] (defScope s_law_of) := ⟨rfl, rfl, rfl, by decide +kernel, rfl, by decide +kernel, by decide +kernel⟩
def b_law_of : SM := (sRet (eOp2 ixD (eVar 1) (eCall f_law_take (aSl 0 (aCons (eCallV lenF (aCons (eVar 1) aNil)) aNil)))))
def f_law_of : FnSem := mkFn 2 0 b_law_of
theorem dv_law_of [TabC] (nb : Nb mg) (c_law_take : FnD P w K mg base "_law_take" 1 ["_law_box_here", "_law_span"] f_law_take) {cdv : Value} {A : Around} {outer : List PySem.Env} {s : Shared} {H : Hp} {E : XK} {f : Addr} (hr : Room 1 (A.deeper (PyProof.Rows.envOfC "_law_of" (defScope s_law_of) s.heap.objs.size f cdv))) :
    ∃ t, DSs (cxOf CX0 P w K mg base ["_law_box_here", "_law_some"] "_law_of" (defScope s_law_of) f cdv A outer s H E).nox (defBody s_law_of) t b_law_of := ⟨_,
    (dss_one (ds_ret (de_ix ix_seq od_ix (de_var 1) (de_call c_law_take (hr.mono (by omega)) (da_sl 0 (da_cons (de_callB cr_len cd_len nb.len bt_len (da_cons (de_var 1) da_nil)) da_nil))))))⟩
theorem ok_law_of [TabC] (nb : Nb mg) (c_law_take : FnD P w K mg base "_law_take" 1 ["_law_box_here", "_law_span"] f_law_take) {f : Addr} {fd : FuncData} (F : FnP K "_law_of" s_law_of f fd) : FnOk P w K mg base CX0 2 f fd ["_law_box_here", "_law_some"] (spF ⟨K, mg⟩ f_law_of) :=
  fn_ok F sc_law_of fun cdv A outer s H E hr => dv_law_of nb c_law_take hr
theorem sc_law_same : FnScope ["_law_found", "_law_due", "_law_a", "_law_b"] ["_law_found", "_law_due"] (defScope s_law_same) := ⟨rfl, rfl, rfl, by decide +kernel, rfl, by decide +kernel, by decide +kernel⟩
def b_law_same (self : FnSem) : SM := (sSeq (sIf (tB (eOp1 (isiD2 "list" "tuple") (eVar 1))) (sSeq (sIf (tOr (tB (eOp2 neD (eOp1 (isiD "list") (eVar 0)) (eOp1 (isiD "list") (eVar 1)))) (tB (eOp2 neD (eOp1 (isiD "tuple") (eVar 0)) (eOp1 (isiD "tuple") (eVar 1))))) (sRet (eC (.bl false))) sSkip)
  (sRet (eAnd (eOp2 eqD (eCallV lenF (aCons (eVar 0) aNil)) (eCallV lenF (aCons (eVar 1) aNil))) (eCallV allF (aCons (eComp [2, 3] (iArg zipA (aCons (eVar 0) (aCons (eVar 1) aNil))) (gT (gCons (gV 2) (gCons (gV 3) gNil))) tTrue (eCall self (aCons (eVar 2) (aCons (eVar 3) aNil)))) aNil))))) sSkip)
  (sSeq (sIf (tOr (tB (eOp2 isD (eVar 1) (eC .non))) (tB (eOp1 (isiD2 "bool" "str") (eVar 1)))) (sRet (eAnd (eOp2 eqD (eVar 0) (eVar 1)) (eAnd (eOp2 eqD (eOp1 (isiD "bool") (eVar 0)) (eOp1 (isiD "bool") (eVar 1))) (eOp2 eqD (eOp2 isD (eVar 0) (eC .non)) (eOp2 isD (eVar 1) (eC .non)))))) sSkip)
  (sRet (eAnd (eOp1 (isiD "int") (eVar 0)) (eAnd (eNot (eOp1 (isiD "bool") (eVar 0))) (eOp2 eqD (eVar 0) (eVar 1)))))))
def f_law_same_n : Nat → FnSem
  | 0 => fun _ => none
  | n + 1 => mkFn 2 2 (b_law_same (f_law_same_n n))
abbrev f_law_same : FnSem := f_law_same_n 8
theorem dv_law_same [TabC] (nb : Nb mg)  {n : Nat} {self : FnSem} (c_self : FnD P w K mg base "_law_same" (n + 0) ["_law_found", "_law_due"] self) {cdv : Value} {A : Around} {outer : List PySem.Env} {s : Shared} {H : Hp} {E : XK} {f : Addr} (hr : Room (n + 0) (A.deeper (PyProof.Rows.envOfC "_law_same" (defScope s_law_same) s.heap.objs.size f cdv))) :
    ∃ t, DSs (cxOf CX0 P w K mg base ["_law_found", "_law_due", "_law_a", "_law_b"] "_law_same" (defScope s_law_same) f cdv A outer s H E).nox (defBody s_law_same) t (b_law_same self) := ⟨_,
    (dss_cons (ds_if (dt_val (de_isiT nb.isinstance nb.list bt_list kit_list nb.tuple bt_tuple kit_tuple (de_var 1))) (dss_cons (ds_if (DW.dt (dw_or (dt_cmp (op_neP hr.units) od_ne (de_isi nb.isinstance nb.list bt_list kit_list (de_var 0)) (de_isi nb.isinstance nb.list bt_list kit_list (de_var 1)) (by first | rfl | exact nomark _)) (dw_or1 (dt_cmp (op_neP hr.units) od_ne (de_isi nb.isinstance nb.tuple bt_tuple kit_tuple (de_var 0)) (de_isi nb.isinstance nb.tuple bt_tuple kit_tuple (de_var 1)) (by first | rfl | exact nomark _))))) (dss_one (ds_ret de_bl)) dss_nil)
    (dss_one (ds_ret (de_and (de_cmp (op_eqP hr.units) od_eq (de_callB cr_len cd_len nb.len bt_len (da_cons (de_var 0) da_nil)) (de_callB cr_len cd_len nb.len bt_len (da_cons (de_var 1) da_nil)) (by first | rfl | exact nomark _)) (de_one (de_callB (cr_all rfl) cd_all nb.all bt_all (da_cons (DF.de (df_compX rfl sc_law_same.nd (di_zip nb.zip (da_cons (de_var 0) (da_cons (de_var 1) da_nil))) (blkOk_by (own := [("_law_a", 2), ("_law_b", 3)]) (by kernel_rfl)) (by exact fun _ _ _ _ _ => ⟨_, (dg_tup rfl (dgs_cons (dg_name 2 sc_law_same.nd) (dgs_cons (dg_name 3 sc_law_same.nd) dgs_nil)) (gl_cons (gl_cons gl_nil)))⟩) (by exact fun _ _ _ _ _ => ⟨_, dts_nil⟩) (by exact fun _ _ _ _ _ => ⟨_, (de_call c_self hr (da_cons (de_var 2) (da_cons (de_var 3) da_nil)))⟩))) da_nil))))))) dss_nil)
    (dss_cons (ds_if (DW.dt (dw_or (dt_cmp op_isA od_is (de_var 1) de_non (by first | rfl | exact nomark _)) (dw_or1 (dt_val (de_isiT nb.isinstance nb.bool bt_bool kit_bool nb.str bt_str kit_str (de_var 1)))))) (dss_one (ds_ret (de_and (de_cmp (op_eqP hr.units) od_eq (de_var 0) (de_var 1) (by first | rfl | exact nomark _)) (de_and (de_cmp (op_eqP hr.units) od_eq (de_isi nb.isinstance nb.bool bt_bool kit_bool (de_var 0)) (de_isi nb.isinstance nb.bool bt_bool kit_bool (de_var 1)) (by first | rfl | exact nomark _)) (de_one (de_cmp (op_eqP hr.units) od_eq (de_cmp op_isA od_is (de_var 0) de_non (by first | rfl | exact nomark _)) (de_cmp op_isA od_is (de_var 1) de_non (by first | rfl | exact nomark _)) (by first | rfl | exact nomark _))))))) dss_nil)
    (dss_one (ds_ret (de_and (de_isi nb.isinstance nb.int bt_int kit_int (de_var 0)) (de_and (de_not (de_isi nb.isinstance nb.bool bt_bool kit_bool (de_var 0))) (de_one (de_cmp (op_eqP hr.units) od_eq (de_var 0) (de_var 1) (by first | rfl | exact nomark _)))))))))⟩
theorem ok_law_same [TabC] (nb : Nb mg)  {f : Addr} {fd : FuncData} (F : FnP K "_law_same" s_law_same f fd) (g : mg "_law_same" = some (.ref f)) : ∀ n : Nat, FnOk P w K mg base CX0 (n + 0) f fd ["_law_found", "_law_due"] (spF ⟨K, mg⟩ (f_law_same_n n))
  | 0 => fn_none
  | n + 1 => by
    have := fn_ok (k := n + 0) F sc_law_same fun cdv A outer s H E hr => dv_law_same nb  (FunD.d F g (fun _ _ _ _ _ _ us hl => match us, hl with | [_, _], _ => rfl) (ok_law_same nb  F g n)) hr
    rw [show n + 1 + 0 = n + 0 + 1 by omega]
    exact this
theorem sc_law_sea : FnScope ["_law_box_here", "_law_most", "_law_count", "_law_far", "_law_wide", "_law_depths", "_law_draughts", "_law_side", "_law_whom"] ["_law_box_here", "_law_most"] (defScope s_law_sea) := ⟨rfl, rfl, rfl, by decide +kernel, rfl, by decide +kernel, by decide +kernel⟩
def b_law_sea : SM := (sSeq (sAsg (eCallV mkTup (aCons (eOp2 addD (eC (.int 1)) (eCall f_law_take (aSl 0 (aCons (eVar 1) aNil)))) (aCons (eCall f_law_of (aSl 0 (aCons (eCallV mkLst (aCons (eC (.int 0)) (aCons (eC (.int 0)) (aCons (eC (.int 0)) (aCons (eOp2 subD (eOp2 subD (eOp2 powD (eC (.int 10)) (eC (.int 12))) (eC (.int 200))) (eCall f_law_take (aSl 0 (aCons (eOp2 powD (eC (.int 10)) (eC (.int 6))) aNil)))) aNil))))) aNil))) aNil))) (gT (gCons (gV 2) (gCons (gV 3) gNil))))
  (sSeq (sSet 4 (eCall f_law_of (aSl 0 (aCons (eCallV mkLst (aCons (eC (.int 2)) (aCons (eOp2 addD (eVar 2) (eC (.int 2))) (aCons (eOp2 addD (eOp2 mulI (eC (.int 2)) (eVar 2)) (eC (.int 2))) aNil)))) aNil))))
  (sSeq (sSet 5 (eComp [7] (iArg rng1 (aCons (eC (.int 2)) aNil)) (gV 7) tTrue (eOp2 addD (eVar 3) (eOp2 mulI (eCall f_law_take (aSl 0 (aCons (eOp2 addD (eVar 2) (eC (.int 2))) aNil))) (eCall f_law_take (aSl 0 (aCons (eC (.int 2)) aNil)))))))
  (sSeq (sSet 6 (eComp [8] (iArg rng1 (aCons (eVar 2) aNil)) (gV 8) tTrue (eOp2 addD (eVar 3) (eCall f_law_take (aSl 0 (aCons (eVar 4) aNil))))))
  (sSeq (sIf (tB (eOp2 eqD (eCall f_law_take (aSl 0 (aCons (eC (.int 4)) aNil))) (eC (.int 0)))) (sSet 6 (eComp [8] (iArg rng1 (aCons (eVar 2) aNil)) (gV 8) tTrue (eIf (tB (eOp2 eqD (eCall f_law_take (aSl 0 (aCons (eC (.int 2)) aNil))) (eC (.int 0)))) (eOp2 ixD (eVar 6) (eVar 8)) (eOp2 ixD (eVar 6) (eC (.int 0)))))) sSkip)
  (sRet (eCallV mkTup (aCons (eOp2 ixD (eVar 5) (eC (.int 0))) (aCons (eOp2 ixD (eVar 5) (eC (.int 1))) (aCons (eCallV tupF (aCons (eVar 6) aNil)) aNil))))))))))
def f_law_sea : FnSem := mkFn 2 7 b_law_sea
theorem dv_law_sea [TabC] (nb : Nb mg) (c_law_of : FnD P w K mg base "_law_of" 2 ["_law_box_here", "_law_some"] f_law_of) (c_law_take : FnD P w K mg base "_law_take" 1 ["_law_box_here", "_law_span"] f_law_take) {cdv : Value} {A : Around} {outer : List PySem.Env} {s : Shared} {H : Hp} {E : XK} {f : Addr} (hr : Room 2 (A.deeper (PyProof.Rows.envOfC "_law_sea" (defScope s_law_sea) s.heap.objs.size f cdv))) :
    ∃ t, DSs (cxOf CX0 P w K mg base ["_law_box_here", "_law_most", "_law_count", "_law_far", "_law_wide", "_law_depths", "_law_draughts", "_law_side", "_law_whom"] "_law_sea" (defScope s_law_sea) f cdv A outer s H E).nox (defBody s_law_sea) t b_law_sea := ⟨_,
    (dss_cons (ds_asg (de_tup (da_cons (de_op op_addA od_add de_int (de_call c_law_take (hr.mono (by omega)) (da_sl 0 (da_cons (de_var 1) da_nil)))) (da_cons (de_call c_law_of (hr.mono (by omega)) (da_sl 0 (da_cons (de_lst (da_cons de_int (da_cons de_int (da_cons de_int (da_cons (de_op op_sub od_sub (de_op op_sub od_sub (de_op op_pow od_pow de_int de_int) de_int) (de_call c_law_take (hr.mono (by omega)) (da_sl 0 (da_cons (de_op op_pow od_pow de_int de_int) da_nil)))) da_nil))))) da_nil))) da_nil))) (dg_tup rfl (dgs_cons (dg_name 2 sc_law_sea.nd) (dgs_cons (dg_name 3 sc_law_sea.nd) dgs_nil)) (gl_cons (gl_cons gl_nil))))
    (dss_cons (ds_set 4 sc_law_sea.nd (de_call c_law_of (hr.mono (by omega)) (da_sl 0 (da_cons (de_lst (da_cons de_int (da_cons (de_op op_addA od_add (de_var 2) de_int) (da_cons (de_op op_addA od_add (de_op op_mul od_mulI de_int (de_var 2)) de_int) da_nil)))) da_nil))))
    (dss_cons (ds_setCompX 5 rfl sc_law_sea.nd (di_rng1 nb.range (da_cons de_int da_nil)) (blkOk_by (own := [("_law_side", 7)]) (by kernel_rfl)) (by exact fun _ _ _ _ _ => ⟨_, (dg_name 7 sc_law_sea.nd)⟩) (by exact fun _ _ _ _ _ => ⟨_, dts_nil⟩) (by exact fun _ _ _ _ _ => ⟨_, (de_op op_addA od_add (de_var 3) (de_op op_mul od_mulI (de_call c_law_take (hr.mono (by omega)) (da_sl 0 (da_cons (de_op op_addA od_add (de_var 2) de_int) da_nil))) (de_call c_law_take (hr.mono (by omega)) (da_sl 0 (da_cons de_int da_nil)))))⟩))
    (dss_cons (ds_set 6 sc_law_sea.nd (DF.de (df_compX rfl sc_law_sea.nd (di_rng1 nb.range (da_cons (de_var 2) da_nil)) (blkOk_by (own := [("_law_whom", 8)]) (by kernel_rfl)) (by exact fun _ _ _ _ _ => ⟨_, (dg_name 8 sc_law_sea.nd)⟩) (by exact fun _ _ _ _ _ => ⟨_, dts_nil⟩) (by exact fun _ _ _ _ _ => ⟨_, (de_op op_addA od_add (de_var 3) (de_call c_law_take (hr.mono (by omega)) (da_sl 0 (da_cons (de_var 4) da_nil))))⟩))))
    (dss_cons (ds_if (dt_cmp (op_eqP hr.units) od_eq (de_call c_law_take (hr.mono (by omega)) (da_sl 0 (da_cons de_int da_nil))) de_int (by first | rfl | exact nomark _)) (dss_one (ds_set 6 sc_law_sea.nd (DF.de (df_compX rfl sc_law_sea.nd (di_rng1 nb.range (da_cons (de_var 2) da_nil)) (blkOk_by (own := [("_law_whom", 8)]) (by kernel_rfl)) (by exact fun _ _ _ _ _ => ⟨_, (dg_name 8 sc_law_sea.nd)⟩) (by exact fun _ _ _ _ _ => ⟨_, dts_nil⟩) (by exact fun _ _ _ _ _ => ⟨_, (de_ifExp (dt_cmp (op_eqP hr.units) od_eq (de_call c_law_take (hr.mono (by omega)) (da_sl 0 (da_cons de_int da_nil))) de_int (by first | rfl | exact nomark _)) (de_ix ix_seq od_ix (de_var 6) (de_var 8)) (de_ix ix_seq od_ix (de_var 6) de_int))⟩))))) dss_nil)
    (dss_one (ds_ret (de_tup (da_cons (de_ix ix_seq od_ix (de_var 5) de_int) (da_cons (de_ix ix_seq od_ix (de_var 5) de_int) (da_cons (de_callTy call_tuple_of cd_tup nb.tuple bt_tuple (da_cons (de_var 6) da_nil)) da_nil)))))))))))⟩
theorem ok_law_sea [TabC] (nb : Nb mg) (c_law_of : FnD P w K mg base "_law_of" 2 ["_law_box_here", "_law_some"] f_law_of) (c_law_take : FnD P w K mg base "_law_take" 1 ["_law_box_here", "_law_span"] f_law_take) {f : Addr} {fd : FuncData} (F : FnP K "_law_sea" s_law_sea f fd) : FnOk P w K mg base CX0 3 f fd ["_law_box_here", "_law_most"] (spF ⟨K, mg⟩ f_law_sea) :=
  fn_ok F sc_law_sea fun cdv A outer s H E hr => dv_law_sea nb c_law_of c_law_take hr
theorem sc_law_lot : FnScope ["_law_box_here", "_law_count", "_law_odds", "_law_whom"] ["_law_box_here", "_law_count"] (defScope s_law_lot) := ⟨rfl, rfl, rfl, by decide +kernel, rfl, by decide +kernel, by decide +kernel⟩
def b_law_lot : SM := (sSeq (sSet 2 (eCall f_law_of (aSl 0 (aCons (eCallV mkLst (aCons (eC (.int 1)) (aCons (eC (.int 2)) (aCons (eC (.int 2)) (aCons (eC (.int 3)) (aCons (eC (.int 4)) aNil)))))) aNil))))
  (sSeq (sIf (tB (eOp2 eqD (eCall f_law_take (aSl 0 (aCons (eC (.int 8)) aNil))) (eC (.int 0)))) (sRet (eIf (tB (eOp2 eqD (eCall f_law_take (aSl 0 (aCons (eC (.int 2)) aNil))) (eC (.int 0)))) (eCallV trgF (aCons (eVar 1) aNil)) (eCallV mkTup aNil))) sSkip)
  (sRet (eCallV tupF (aCons (eComp [3] (iArg rng1 (aCons (eVar 1) aNil)) (gV 3) (tB (eOp2 eqD (eCall f_law_take (aSl 0 (aCons (eVar 2) aNil))) (eC (.int 0)))) (eVar 3)) aNil)))))
def f_law_lot : FnSem := mkFn 2 2 b_law_lot
theorem dv_law_lot [TabC] (nb : Nb mg) (c_law_of : FnD P w K mg base "_law_of" 2 ["_law_box_here", "_law_some"] f_law_of) (c_law_take : FnD P w K mg base "_law_take" 1 ["_law_box_here", "_law_span"] f_law_take) {cdv : Value} {A : Around} {outer : List PySem.Env} {s : Shared} {H : Hp} {E : XK} {f : Addr} (hr : Room 2 (A.deeper (PyProof.Rows.envOfC "_law_lot" (defScope s_law_lot) s.heap.objs.size f cdv))) :
    ∃ t, DSs (cxOf CX0 P w K mg base ["_law_box_here", "_law_count", "_law_odds", "_law_whom"] "_law_lot" (defScope s_law_lot) f cdv A outer s H E).nox (defBody s_law_lot) t b_law_lot := ⟨_,
    (dss_cons (ds_set 2 sc_law_lot.nd (de_call c_law_of (hr.mono (by omega)) (da_sl 0 (da_cons (de_lst (da_cons de_int (da_cons de_int (da_cons de_int (da_cons de_int (da_cons de_int da_nil)))))) da_nil))))
    (dss_cons (ds_if (dt_cmp (op_eqP hr.units) od_eq (de_call c_law_take (hr.mono (by omega)) (da_sl 0 (da_cons de_int da_nil))) de_int (by first | rfl | exact nomark _)) (dss_one (ds_ret (de_ifExp (dt_cmp (op_eqP hr.units) od_eq (de_call c_law_take (hr.mono (by omega)) (da_sl 0 (da_cons de_int da_nil))) de_int (by first | rfl | exact nomark _)) (de_trg1 nb.tuple nb.range (de_var 1)) (de_tup da_nil)))) dss_nil)
    (dss_one (ds_ret (de_callTy call_tuple_of cd_tup nb.tuple bt_tuple (da_cons (DF.de (df_compX rfl sc_law_lot.nd (di_rng1 nb.range (da_cons (de_var 1) da_nil)) (blkOk_by (own := [("_law_whom", 3)]) (by kernel_rfl)) (by exact fun _ _ _ _ _ => ⟨_, (dg_name 3 sc_law_lot.nd)⟩) (by exact fun _ _ _ _ _ => ⟨_, (dts_one (dt_cmp (op_eqP hr.units) od_eq (de_call c_law_take (hr.mono (by omega)) (da_sl 0 (da_cons (de_var 2) da_nil))) de_int (by first | rfl | exact nomark _)))⟩) (by exact fun _ _ _ _ _ => ⟨_, (de_var 3)⟩))) da_nil))))))⟩
theorem ok_law_lot [TabC] (nb : Nb mg) (c_law_of : FnD P w K mg base "_law_of" 2 ["_law_box_here", "_law_some"] f_law_of) (c_law_take : FnD P w K mg base "_law_take" 1 ["_law_box_here", "_law_span"] f_law_take) {f : Addr} {fd : FuncData} (F : FnP K "_law_lot" s_law_lot f fd) : FnOk P w K mg base CX0 3 f fd ["_law_box_here", "_law_count"] (spF ⟨K, mg⟩ f_law_lot) :=
  fn_ok F sc_law_lot fun cdv A outer s H E hr => dv_law_lot nb c_law_of c_law_take hr
theorem sc_law_lists : FnScope ["_law_what", "_law_part"] ["_law_what"] (defScope s_law_lists) := ⟨rfl, rfl, rfl, by decide +kernel, rfl, by decide +kernel, by decide +kernel⟩
def b_law_lists (self : FnSem) : SM := (sRet (eIf (tB (eOp1 (isiD2 "list" "tuple") (eVar 0))) (eComp [1] (iSeq (eVar 0)) (gV 1) tTrue (eCall self (aCons (eVar 1) aNil))) (eVar 0)))
def f_law_lists_n : Nat → FnSem
  | 0 => fun _ => none
  | n + 1 => mkFn 1 1 (b_law_lists (f_law_lists_n n))
abbrev f_law_lists : FnSem := f_law_lists_n 8
theorem dv_law_lists [TabC] (nb : Nb mg)  {n : Nat} {self : FnSem} (c_self : FnD P w K mg base "_law_lists" (n + 0) ["_law_what"] self) {cdv : Value} {A : Around} {outer : List PySem.Env} {s : Shared} {H : Hp} {E : XK} {f : Addr} (hr : Room (n + 0) (A.deeper (PyProof.Rows.envOfC "_law_lists" (defScope s_law_lists) s.heap.objs.size f cdv))) :
    ∃ t, DSs (cxOf CX0 P w K mg base ["_law_what", "_law_part"] "_law_lists" (defScope s_law_lists) f cdv A outer s H E).nox (defBody s_law_lists) t (b_law_lists self) := ⟨_,
    (dss_one (ds_ret (de_ifExp (dt_val (de_isiT nb.isinstance nb.list bt_list kit_list nb.tuple bt_tuple kit_tuple (de_var 0))) (DF.de (df_compX rfl sc_law_lists.nd (di_seq (de_var 0)) (blkOk_by (own := [("_law_part", 1)]) (by kernel_rfl)) (by exact fun _ _ _ _ _ => ⟨_, (dg_name 1 sc_law_lists.nd)⟩) (by exact fun _ _ _ _ _ => ⟨_, dts_nil⟩) (by exact fun _ _ _ _ _ => ⟨_, (de_call c_self hr (da_cons (de_var 1) da_nil))⟩))) (de_var 0))))⟩
theorem ok_law_lists [TabC] (nb : Nb mg)  {f : Addr} {fd : FuncData} (F : FnP K "_law_lists" s_law_lists f fd) (g : mg "_law_lists" = some (.ref f)) : ∀ n : Nat, FnOk P w K mg base CX0 (n + 0) f fd ["_law_what"] (spF ⟨K, mg⟩ (f_law_lists_n n))
  | 0 => fn_none
  | n + 1 => by
    have := fn_ok (k := n + 0) F sc_law_lists fun cdv A outer s H E hr => dv_law_lists nb  (FunD.d F g (fun _ _ _ _ _ _ us hl => match us, hl with | [_], _ => rfl) (ok_law_lists nb  F g n)) hr
    rw [show n + 1 + 0 = n + 0 + 1 by omega]
    exact this
theorem sc_law_number_in : FnScope ["_law_word", "_law_sign"] ["_law_word"] (defScope s_law_number_in) := ⟨rfl, rfl, rfl, by decide +kernel, rfl, by decide +kernel, by decide +kernel⟩
def b_law_number_in : SM := (sSeq (sIf (tOr (tB (eOp2 eqD (eVar 0) (eC (.str "")))) (tOr (tB (eOp2 gtD (eCallV lenF (aCons (eVar 0) aNil)) (eC (.int 13)))) (tNot (tB (eCallV allF (aCons (eComp [1] (iSign (eVar 0)) (gV 1) tTrue (eOp2 (inSD false) (eVar 1) (eC (.str "0123456789")))) aNil)))))) (sRet (eC .non)) sSkip)
  (sSeq (sIf (tAnd (tB (eOp2 eqD (eOp2 ixD (eVar 0) (eC (.int 0))) (eC (.str "0")))) (tB (eOp2 neD (eVar 0) (eC (.str "0"))))) (sRet (eC .non)) sSkip)
  (sRet (eCallV intTF (aCons (eVar 0) aNil)))))
def f_law_number_in : FnSem := mkFn 1 1 b_law_number_in
theorem dv_law_number_in [TabC] (nb : Nb mg)  {cdv : Value} {A : Around} {outer : List PySem.Env} {s : Shared} {H : Hp} {E : XK} {f : Addr} (hr : Room 0 (A.deeper (PyProof.Rows.envOfC "_law_number_in" (defScope s_law_number_in) s.heap.objs.size f cdv))) :
    ∃ t, DSs (cxOf CX0 P w K mg base ["_law_word", "_law_sign"] "_law_number_in" (defScope s_law_number_in) f cdv A outer s H E).nox (defBody s_law_number_in) t b_law_number_in := ⟨_,
    (dss_cons (ds_if (DW.dt (dw_or (dt_cmp (op_eqP hr.units) od_eq (de_var 0) de_str (by first | rfl | exact nomark _)) (dw_or (dt_cmp op_gt od_gt (de_callB cr_len cd_len nb.len bt_len (da_cons (de_var 0) da_nil)) de_int (by first | rfl | exact nomark _)) (dw_or1 (dt_not (dt_val (de_callB (cr_all rfl) cd_all nb.all bt_all (da_cons (DF.de (df_compX rfl sc_law_number_in.nd (di_str (de_var 0)) (blkOk_by (own := [("_law_sign", 1)]) (by kernel_rfl)) (by exact fun _ _ _ _ _ => ⟨_, (dg_name 1 sc_law_number_in.nd)⟩) (by exact fun _ _ _ _ _ => ⟨_, dts_nil⟩) (by exact fun _ _ _ _ _ => ⟨_, (de_cmp op_inS od_inS (de_var 1) de_str (by first | rfl | exact nomark _))⟩))) da_nil)))))))) (dss_one (ds_ret de_non)) dss_nil)
    (dss_cons (ds_if (DW.dt (dw_and (dt_cmp (op_eqP hr.units) od_eq (de_ix ix_seq od_ix (de_var 0) de_int) de_str (by first | rfl | exact nomark _)) (dw_and1 (dt_cmp (op_neP hr.units) od_ne (de_var 0) de_str (by first | rfl | exact nomark _))))) (dss_one (ds_ret de_non)) dss_nil)
    (dss_one (ds_ret (de_callTy call_int_str cd_intT nb.int bt_int (da_cons (de_var 0) da_nil))))))⟩
theorem ok_law_number_in [TabC] (nb : Nb mg)  {f : Addr} {fd : FuncData} (F : FnP K "_law_number_in" s_law_number_in f fd) : FnOk P w K mg base CX0 1 f fd ["_law_word"] (spF ⟨K, mg⟩ f_law_number_in) :=
  fn_ok F sc_law_number_in fun cdv A outer s H E hr => dv_law_number_in nb  hr
theorem sc_law_ships_in : FnScope ["_law_words_here", "_law_count", "_law_found", "_law_word", "_law_whom"] ["_law_words_here", "_law_count"] (defScope s_law_ships_in) := ⟨rfl, rfl, rfl, by decide +kernel, rfl, by decide +kernel, by decide +kernel⟩
def b_law_ships_in : SM := (sSeq (sSet 2 (eComp [3] (iSeq (eVar 0)) (gV 3) tTrue (eCall f_law_number_in (aCons (eVar 3) aNil))))
  (sSeq (sIf (tOr (tB (eOp2 (inD false) (eC .non) (eVar 2))) (tOr (tB (eOp2 neD (eVar 2) (eCallV sosF (aCons (eVar 2) aNil)))) (tB (eCallV anyF (aCons (eComp [4] (iSeq (eVar 2)) (gV 4) tTrue (eOp2 geD (eVar 4) (eVar 1))) aNil))))) (sRet (eC .non)) sSkip)
  (sRet (eCallV tupF (aCons (eVar 2) aNil)))))
def f_law_ships_in : FnSem := mkFn 2 3 b_law_ships_in
theorem dv_law_ships_in [TabC] (nb : Nb mg) (nx : NbX mg) (c_law_number_in : FnD P w K mg base "_law_number_in" 1 ["_law_word"] f_law_number_in) {cdv : Value} {A : Around} {outer : List PySem.Env} {s : Shared} {H : Hp} {E : XK} {f : Addr} (hr : Room 1 (A.deeper (PyProof.Rows.envOfC "_law_ships_in" (defScope s_law_ships_in) s.heap.objs.size f cdv))) :
    ∃ t, DSs (cxOf CX0 P w K mg base ["_law_words_here", "_law_count", "_law_found", "_law_word", "_law_whom"] "_law_ships_in" (defScope s_law_ships_in) f cdv A outer s H E).nox (defBody s_law_ships_in) t b_law_ships_in := ⟨_,
    (dss_cons (ds_setCompX 2 rfl sc_law_ships_in.nd (di_seq (de_var 0)) (blkOk_by (own := [("_law_word", 3)]) (by kernel_rfl)) (by exact fun _ _ _ _ _ => ⟨_, (dg_name 3 sc_law_ships_in.nd)⟩) (by exact fun _ _ _ _ _ => ⟨_, dts_nil⟩) (by exact fun _ _ _ _ _ => ⟨_, (de_call c_law_number_in (hr.mono (by omega)) (da_cons (de_var 3) da_nil))⟩))
    (dss_cons (ds_if (DW.dt (dw_or (dt_cmp (op_inP hr.units) (od_in false) de_non (de_var 2) (by first | rfl | exact nomark _)) (dw_or (dt_cmp (op_neP hr.units) od_ne (de_var 2) (DF.de (df_sos nb.sorted nx.set (de_var 2))) (by first | rfl | exact nomark _)) (dw_or1 (dt_val (de_callB (cr_any rfl) cd_any nb.any bt_any (da_cons (DF.de (df_compX rfl sc_law_ships_in.nd (di_seq (de_var 2)) (blkOk_by (own := [("_law_whom", 4)]) (by kernel_rfl)) (by exact fun _ _ _ _ _ => ⟨_, (dg_name 4 sc_law_ships_in.nd)⟩) (by exact fun _ _ _ _ _ => ⟨_, dts_nil⟩) (by exact fun _ _ _ _ _ => ⟨_, (de_cmp op_ge od_ge (de_var 4) (de_var 1) (by first | rfl | exact nomark _))⟩))) da_nil))))))) (dss_one (ds_ret de_non)) dss_nil)
    (dss_one (ds_ret (de_callTy call_tuple_of cd_tup nb.tuple bt_tuple (da_cons (de_var 2) da_nil))))))⟩
theorem ok_law_ships_in [TabC] (nb : Nb mg) (nx : NbX mg) (c_law_number_in : FnD P w K mg base "_law_number_in" 1 ["_law_word"] f_law_number_in) {f : Addr} {fd : FuncData} (F : FnP K "_law_ships_in" s_law_ships_in f fd) : FnOk P w K mg base CX0 2 f fd ["_law_words_here", "_law_count"] (spF ⟨K, mg⟩ f_law_ships_in) :=
  fn_ok F sc_law_ships_in fun cdv A outer s H E hr => dv_law_ships_in nb nx c_law_number_in hr
theorem sc_law_bent_text : FnScope ["_law_box_here", "_law_given", "_law_signs", "_law_way", "_law_at", "_law_sign", "_law_parts", "_law_spot", "_law_both", "_law_odd"] ["_law_box_here", "_law_given"] (defScope s_law_bent_text) := ⟨rfl, rfl, rfl, by decide +kernel, rfl, by decide +kernel, by decide +kernel⟩
def b_law_bent_text : SM := (sSeq (sPar3 2 3 4 (aCons (eC (.str "0129-: ab+_.")) (aCons (eCall f_law_take (aSl 0 (aCons (eC (.int 7)) aNil))) (aCons (eCall f_law_take (aSl 0 (aCons (eOp2 addD (eCallV lenF (aCons (eVar 1) aNil)) (eC (.int 1))) aNil))) aNil))))
  (sSeq (sSet 5 (eOp2 ixD (eVar 2) (eCall f_law_take (aSl 0 (aCons (eCallV lenF (aCons (eVar 2) aNil)) aNil)))))
  (sSeq (sIf (tB (eOp2 ltD (eVar 3) (eC (.int 3)))) (sRet (eOp2 addD (eOp2 addD (eSliceS (eVar 1) oNo (oSome (eVar 4))) (eOp2 ixD (eCallV mkLst (aCons (eVar 5) (aCons (eC (.str "")) (aCons (eVar 5) aNil)))) (eVar 3))) (eSliceS (eVar 1) (oSome (eOp2 addD (eVar 4) (eCallV intF (aCons (eOp2 gtD (eVar 3) (eC (.int 0))) aNil)))) oNo))) sSkip)
  (sSeq (sSet 6 (eOp2 splitD (eVar 1) (eC (.str " "))))
  (sSeq (sSet 7 (eCall f_law_take (aSl 0 (aCons (eCallV lenF (aCons (eVar 6) aNil)) aNil))))
  (sSeq (sIf (tB (eOp2 eqD (eVar 3) (eC (.int 3)))) (sRet (eOp2 joinD2 (eC (.str " ")) (eOp2 addD (eSlice (eVar 6) oNo (oSome (eVar 7))) (eSlice (eVar 6) (oSome (eOp2 addD (eVar 7) (eC (.int 1)))) oNo)))) sSkip)
  (sSeq (sIf (tB (eOp2 eqD (eVar 3) (eC (.int 4)))) (sRet (eOp2 joinD2 (eC (.str " ")) (eOp2 addD (eSlice (eVar 6) oNo (oSome (eOp2 addD (eVar 7) (eC (.int 1))))) (eSlice (eVar 6) (oSome (eVar 7)) oNo)))) sSkip)
  (sSeq (sIf (tB (eOp2 eqD (eVar 3) (eC (.int 5)))) (sSeq (sSet 8 (eSlice (eVar 6) (oSome (eVar 7)) (oSome (eOp2 addD (eVar 7) (eC (.int 2))))))
  (sRet (eOp2 joinD2 (eC (.str " ")) (eOp2 addD (eOp2 addD (eSlice (eVar 6) oNo (oSome (eVar 7))) (eOp1 revD (eVar 8))) (eSlice (eVar 6) (oSome (eOp2 addD (eVar 7) (eC (.int 2)))) oNo))))) sSkip)
  (sSeq (sSet 9 (eCall f_law_of (aSl 0 (aCons (eCallV mkLst (aCons (eC (.str "")) (aCons (eC (.str "-")) (aCons (eC (.str ":")) (aCons (eC (.str "00")) (aCons (eC (.str "1_0")) (aCons (eC (.str "+3")) (aCons (eC (.str "1000000000000")) (aCons (eC (.str "10000000000000")) (aCons (eC (.str "x")) (aCons (eC (.str "7")) aNil))))))))))) aNil))))
  (sRet (eOp2 joinD2 (eC (.str " ")) (eOp2 addD (eOp2 addD (eSlice (eVar 6) oNo (oSome (eVar 7))) (eCallV mkLst (aCons (eVar 9) aNil))) (eSlice (eVar 6) (oSome (eOp2 addD (eVar 7) (eC (.int 1)))) oNo)))))))))))))
def f_law_bent_text : FnSem := mkFn 2 8 b_law_bent_text
theorem dv_law_bent_text [TabC] (nb : Nb mg) (c_law_of : FnD P w K mg base "_law_of" 2 ["_law_box_here", "_law_some"] f_law_of) (c_law_take : FnD P w K mg base "_law_take" 1 ["_law_box_here", "_law_span"] f_law_take) {cdv : Value} {A : Around} {outer : List PySem.Env} {s : Shared} {H : Hp} {E : XK} {f : Addr} (hr : Room 2 (A.deeper (PyProof.Rows.envOfC "_law_bent_text" (defScope s_law_bent_text) s.heap.objs.size f cdv))) :
    ∃ t, DSs (cxOf CX0 P w K mg base ["_law_box_here", "_law_given", "_law_signs", "_law_way", "_law_at", "_law_sign", "_law_parts", "_law_spot", "_law_both", "_law_odd"] "_law_bent_text" (defScope s_law_bent_text) f cdv A outer s H E).nox (defBody s_law_bent_text) t b_law_bent_text := ⟨_,
    (dss_cons (ds_par3 2 3 4 rfl sc_law_bent_text.nd (da_cons de_str (da_cons (de_call c_law_take (hr.mono (by omega)) (da_sl 0 (da_cons de_int da_nil))) (da_cons (de_call c_law_take (hr.mono (by omega)) (da_sl 0 (da_cons (de_op op_addA od_add (de_callB cr_len cd_len nb.len bt_len (da_cons (de_var 1) da_nil)) de_int) da_nil))) da_nil))))
    (dss_cons (ds_set 5 sc_law_bent_text.nd (de_ix ix_seq od_ix (de_var 2) (de_call c_law_take (hr.mono (by omega)) (da_sl 0 (da_cons (de_callB cr_len cd_len nb.len bt_len (da_cons (de_var 2) da_nil)) da_nil)))))
    (dss_cons (ds_if (dt_cmp op_lt od_lt (de_var 3) de_int (by first | rfl | exact nomark _)) (dss_one (ds_ret (de_op op_addA od_add (de_op op_addA od_add (de_sliceS (de_var 1) do_none (do_some (de_var 4))) (de_ix ix_seq od_ix (de_lst (da_cons (de_var 5) (da_cons de_str (da_cons (de_var 5) da_nil)))) (de_var 3))) (de_sliceS (de_var 1) (do_some (de_op op_addA od_add (de_var 4) (de_callTy call_int1 cd_int nb.int bt_int (da_cons (de_cmp op_gt od_gt (de_var 3) de_int (by first | rfl | exact nomark _)) da_nil)))) do_none)))) dss_nil)
    (dss_cons (ds_set 6 sc_law_bent_text.nd (de_split (de_var 1) de_str))
    (dss_cons (ds_set 7 sc_law_bent_text.nd (de_call c_law_take (hr.mono (by omega)) (da_sl 0 (da_cons (de_callB cr_len cd_len nb.len bt_len (da_cons (de_var 6) da_nil)) da_nil))))
    (dss_cons (ds_if (dt_cmp (op_eqP hr.units) od_eq (de_var 3) de_int (by first | rfl | exact nomark _)) (dss_one (ds_ret (de_join de_str (de_op op_addA od_add (de_slice (de_var 6) do_none (do_some (de_var 7))) (de_slice (de_var 6) (do_some (de_op op_addA od_add (de_var 7) de_int)) do_none))))) dss_nil)
    (dss_cons (ds_if (dt_cmp (op_eqP hr.units) od_eq (de_var 3) de_int (by first | rfl | exact nomark _)) (dss_one (ds_ret (de_join de_str (de_op op_addA od_add (de_slice (de_var 6) do_none (do_some (de_op op_addA od_add (de_var 7) de_int))) (de_slice (de_var 6) (do_some (de_var 7)) do_none))))) dss_nil)
    (dss_cons (ds_if (dt_cmp (op_eqP hr.units) od_eq (de_var 3) de_int (by first | rfl | exact nomark _)) (dss_cons (ds_set 8 sc_law_bent_text.nd (de_slice (de_var 6) (do_some (de_var 7)) (do_some (de_op op_addA od_add (de_var 7) de_int))))
    (dss_one (ds_ret (de_join de_str (de_op op_addA od_add (de_op op_addA od_add (de_slice (de_var 6) do_none (do_some (de_var 7))) (de_revL (de_var 8))) (de_slice (de_var 6) (do_some (de_op op_addA od_add (de_var 7) de_int)) do_none)))))) dss_nil)
    (dss_cons (ds_set 9 sc_law_bent_text.nd (de_call c_law_of (hr.mono (by omega)) (da_sl 0 (da_cons (de_lst (da_cons de_str (da_cons de_str (da_cons de_str (da_cons de_str (da_cons de_str (da_cons de_str (da_cons de_str (da_cons de_str (da_cons de_str (da_cons de_str da_nil))))))))))) da_nil))))
    (dss_one (ds_ret (de_join de_str (de_op op_addA od_add (de_op op_addA od_add (de_slice (de_var 6) do_none (do_some (de_var 7))) (de_lst (da_cons (de_var 9) da_nil))) (de_slice (de_var 6) (do_some (de_op op_addA od_add (de_var 7) de_int)) do_none))))))))))))))⟩
theorem ok_law_bent_text [TabC] (nb : Nb mg) (c_law_of : FnD P w K mg base "_law_of" 2 ["_law_box_here", "_law_some"] f_law_of) (c_law_take : FnD P w K mg base "_law_take" 1 ["_law_box_here", "_law_span"] f_law_take) {f : Addr} {fd : FuncData} (F : FnP K "_law_bent_text" s_law_bent_text f fd) : FnOk P w K mg base CX0 3 f fd ["_law_box_here", "_law_given"] (spF ⟨K, mg⟩ f_law_bent_text) :=
  fn_ok F sc_law_bent_text fun cdv A outer s H E hr => dv_law_bent_text nb c_law_of c_law_take hr
theorem sc_law_read_sea : FnScope ["_law_given", "_law_parts", "_law_numbers", "_law_word"] ["_law_given"] (defScope s_law_read_sea) := ⟨rfl, rfl, rfl, by decide +kernel, rfl, by decide +kernel, by decide +kernel⟩
def b_law_read_sea : SM := (sSeq (sSet 1 (eOp2 splitD (eVar 0) (eC (.str " "))))
  (sSeq (sSet 2 (eComp [3] (iSeq (eOp2 addD (eSlice (eVar 1) oNo (oSome (eC (.int 2)))) (eSlice (eVar 1) (oSome (eC (.int 3))) oNo))) (gV 3) tTrue (eCall f_law_number_in (aCons (eVar 3) aNil))))
  (sSeq (sIf (tOr (tB (eOp2 ltD (eCallV lenF (aCons (eVar 1) aNil)) (eC (.int 4)))) (tOr (tB (eOp2 neD (eOp2 ixD (eVar 1) (eC (.int 2))) (eC (.str ":")))) (tB (eOp2 (inD false) (eC .non) (eVar 2))))) (sRet (eC .non)) sSkip)
  (sRet (eCallV mkTup (aCons (eOp2 ixD (eVar 2) (eC (.int 0))) (aCons (eOp2 ixD (eVar 2) (eC (.int 1))) (aCons (eCallV tupF (aCons (eSlice (eVar 2) (oSome (eC (.int 2))) oNo) aNil)) aNil))))))))
def f_law_read_sea : FnSem := mkFn 1 3 b_law_read_sea
theorem dv_law_read_sea [TabC] (nb : Nb mg) (c_law_number_in : FnD P w K mg base "_law_number_in" 1 ["_law_word"] f_law_number_in) {cdv : Value} {A : Around} {outer : List PySem.Env} {s : Shared} {H : Hp} {E : XK} {f : Addr} (hr : Room 1 (A.deeper (PyProof.Rows.envOfC "_law_read_sea" (defScope s_law_read_sea) s.heap.objs.size f cdv))) :
    ∃ t, DSs (cxOf CX0 P w K mg base ["_law_given", "_law_parts", "_law_numbers", "_law_word"] "_law_read_sea" (defScope s_law_read_sea) f cdv A outer s H E).nox (defBody s_law_read_sea) t b_law_read_sea := ⟨_,
    (dss_cons (ds_set 1 sc_law_read_sea.nd (de_split (de_var 0) de_str))
    (dss_cons (ds_setCompX 2 rfl sc_law_read_sea.nd (di_seq (de_op op_addA od_add (de_slice (de_var 1) do_none (do_some de_int)) (de_slice (de_var 1) (do_some de_int) do_none))) (blkOk_by (own := [("_law_word", 3)]) (by kernel_rfl)) (by exact fun _ _ _ _ _ => ⟨_, (dg_name 3 sc_law_read_sea.nd)⟩) (by exact fun _ _ _ _ _ => ⟨_, dts_nil⟩) (by exact fun _ _ _ _ _ => ⟨_, (de_call c_law_number_in (hr.mono (by omega)) (da_cons (de_var 3) da_nil))⟩))
    (dss_cons (ds_if (DW.dt (dw_or (dt_cmp op_lt od_lt (de_callB cr_len cd_len nb.len bt_len (da_cons (de_var 1) da_nil)) de_int (by first | rfl | exact nomark _)) (dw_or (dt_cmp (op_neP hr.units) od_ne (de_ix ix_seq od_ix (de_var 1) de_int) de_str (by first | rfl | exact nomark _)) (dw_or1 (dt_cmp (op_inP hr.units) (od_in false) de_non (de_var 2) (by first | rfl | exact nomark _)))))) (dss_one (ds_ret de_non)) dss_nil)
    (dss_one (ds_ret (de_tup (da_cons (de_ix ix_seq od_ix (de_var 2) de_int) (da_cons (de_ix ix_seq od_ix (de_var 2) de_int) (da_cons (de_callTy call_tuple_of cd_tup nb.tuple bt_tuple (da_cons (de_slice (de_var 2) (do_some de_int) do_none) da_nil)) da_nil)))))))))⟩
theorem ok_law_read_sea [TabC] (nb : Nb mg) (c_law_number_in : FnD P w K mg base "_law_number_in" 1 ["_law_word"] f_law_number_in) {f : Addr} {fd : FuncData} (F : FnP K "_law_read_sea" s_law_read_sea f fd) : FnOk P w K mg base CX0 2 f fd ["_law_given"] (spF ⟨K, mg⟩ f_law_read_sea) :=
  fn_ok F sc_law_read_sea fun cdv A outer s H E hr => dv_law_read_sea nb c_law_number_in hr
theorem sc_law_read_lot : FnScope ["_law_given", "_law_count"] ["_law_given", "_law_count"] (defScope s_law_read_lot) := ⟨rfl, rfl, rfl, by decide +kernel, rfl, by decide +kernel, by decide +kernel⟩
def b_law_read_lot : SM := (sRet (eIf (tB (eOp2 eqD (eVar 0) (eC (.str "-")))) (eCallV mkTup aNil) (eCall f_law_ships_in (aCons (eOp2 splitD (eVar 0) (eC (.str " "))) (aCons (eVar 1) aNil)))))
def f_law_read_lot : FnSem := mkFn 2 0 b_law_read_lot
theorem dv_law_read_lot [TabC] (nb : Nb mg) (c_law_ships_in : FnD P w K mg base "_law_ships_in" 2 ["_law_words_here", "_law_count"] f_law_ships_in) {cdv : Value} {A : Around} {outer : List PySem.Env} {s : Shared} {H : Hp} {E : XK} {f : Addr} (hr : Room 2 (A.deeper (PyProof.Rows.envOfC "_law_read_lot" (defScope s_law_read_lot) s.heap.objs.size f cdv))) :
    ∃ t, DSs (cxOf CX0 P w K mg base ["_law_given", "_law_count"] "_law_read_lot" (defScope s_law_read_lot) f cdv A outer s H E).nox (defBody s_law_read_lot) t b_law_read_lot := ⟨_,
    (dss_one (ds_ret (de_ifExp (dt_cmp (op_eqP hr.units) od_eq (de_var 0) de_str (by first | rfl | exact nomark _)) (de_tup da_nil) (de_call c_law_ships_in (hr.mono (by omega)) (da_cons (de_split (de_var 0) de_str) (da_cons (de_var 1) da_nil))))))⟩
theorem ok_law_read_lot [TabC] (nb : Nb mg) (c_law_ships_in : FnD P w K mg base "_law_ships_in" 2 ["_law_words_here", "_law_count"] f_law_ships_in) {f : Addr} {fd : FuncData} (F : FnP K "_law_read_lot" s_law_read_lot f fd) : FnOk P w K mg base CX0 3 f fd ["_law_given", "_law_count"] (spF ⟨K, mg⟩ f_law_read_lot) :=
  fn_ok F sc_law_read_lot fun cdv A outer s H E hr => dv_law_read_lot nb c_law_ships_in hr
theorem sc_law_told : FnScope ["_law_given", "_law_sea_here", "_law_found", "_law_caught", "error", "_law_others"] ["_law_given", "_law_sea_here"] (defScope s_law_told) := ⟨rfl, rfl, rfl, by decide +kernel, rfl, by decide +kernel, by decide +kernel⟩
noncomputable def b_law_told : SM := (sSeq (sAsg (eCallV mkTup (aCons (eC .non) (aCons (eC .non) aNil))) (gT (gCons (gV 2) (gCons (gV 3) gNil))))
  (sSeq (sTry ["BadText"] 4 3 (bSet 2 (vIf (tB (eOp2 isD (eVar 1) (eC .non))) (vCall fB_sea_in (aCons (eVar 0) aNil)) (vCall fB_standing_in (aCons (eVar 1) (aCons (eVar 0) aNil))))))
  (sSeq (sIf (tB (eOp2 isD (eVar 3) (eC .non))) (sRet (eVar 2)) sSkip)
  (sSeq (sSet 5 (eOr (eOp1 (isXD tbX ["Apart", "BadRow", "Full", "MayNot", "NoDeed", "NoShip"]) (eVar 3)) (eNot (eOp1 (isXD tbX ["ValueError"]) (eVar 3)))))
  (sRet (eIf (tOr (tB (eVar 5)) (tB (eOp2 neD (eOp1 (fldXC ["BadText"] "text") (eVar 3)) (eVar 0)))) (eC (.str "other")) (eC .non)))))))
noncomputable def f_law_told : FnSem := mkFn 2 4 b_law_told
theorem dv_law_told [TabC] (nb : Nb mg) (cB_sea_in : FnDB P w K mg base "sea_in" 4 ["text"] fB_sea_in) (cB_standing_in : FnDB P w K mg base "standing_in" 4 ["sea", "text"] fB_standing_in) (xk : XK K tbX ownX blX) (gx : ∀ C ∈ ownX, mg C = some (.ref (He.ga K C))) (gb : ∀ T ∈ blX, mg (Str.ofString T) = none) (xf_text : ∀ C ∈ (["BadText"] : List Str), ∃ Ca, mg C = some (.ref Ca) ∧ ExK K Ca ∧ PySem.W.findIn K (.ref Ca) "text" = some none) {cdv : Value} {A : Around} {outer : List PySem.Env} {s : Shared} {H : Hp} {E : XK} {f : Addr} (hr : Room 4 (A.deeper (PyProof.Rows.envOfC "_law_told" (defScope s_law_told) s.heap.objs.size f cdv))) :
    ∃ t, DSs (cxOf CX0 P w K mg base ["_law_given", "_law_sea_here", "_law_found", "_law_caught", "error", "_law_others"] "_law_told" (defScope s_law_told) f cdv A outer s H E).nox (defBody s_law_told) t b_law_told := ⟨_,
    (dss_cons (ds_asg (de_tup (da_cons de_non (da_cons de_non da_nil))) (dg_tup rfl (dgs_cons (dg_name 2 sc_law_told.nd) (dgs_cons (dg_name 3 sc_law_told.nd) dgs_nil)) (gl_cons (gl_cons gl_nil))))
    (dss_cons (ds_try 4 3 (by decide) sc_law_told.nd (by exact tryH_of (Ts := ["Apart", "BadRow", "BadText", "Full", "MayNot", "NoDeed", "NoShip"]) (xs := ["BadText"]) xk gx (by decide) (.many (.cons ⟨rfl, rfl, .inl (gx _ (by decide))⟩ (.cons ⟨rfl, rfl, .inl (gx _ (by decide))⟩ (.cons ⟨rfl, rfl, .inl (gx _ (by decide))⟩ (.cons ⟨rfl, rfl, .inl (gx _ (by decide))⟩ (.cons ⟨rfl, rfl, .inl (gx _ (by decide))⟩ (.cons ⟨rfl, rfl, .inl (gx _ (by decide))⟩ (.cons ⟨rfl, rfl, .inl (gx _ (by decide))⟩ .nil))))))) (by simp)) (by decide)) (by exact fun pn xe ps => ⟨_, (bss_one (bs_set 2 sc_law_told.nd (be_if (dt_cmp op_isA od_is (de_var 1) de_non (by first | rfl | exact nomark _)) (be_call cB_sea_in (hr.mono (by omega)) (da_cons (de_var 0) da_nil)) (be_call cB_standing_in (hr.mono (by omega)) (da_cons (de_var 1) (da_cons (de_var 0) da_nil))))))⟩)).choose_spec
    (dss_cons (ds_if (dt_cmp op_isA od_is (de_var 3) de_non (by first | rfl | exact nomark _)) (dss_one (ds_ret (de_var 2))) dss_nil)
    (dss_cons (ds_set 5 sc_law_told.nd (de_or (de_isXT (tb := tbX) (Ts := ["Apart", "BadRow", "Full", "MayNot", "NoDeed", "NoShip"]) nb.isinstance (by exact ⟨_, _, (.own rfl (by decide) (gx _ (by decide)) (.own rfl (by decide) (gx _ (by decide)) (.own rfl (by decide) (gx _ (by decide)) (.own rfl (by decide) (gx _ (by decide)) (.own rfl (by decide) (gx _ (by decide)) (.own rfl (by decide) (gx _ (by decide)) .nil)))))), isTb_of xk gx (.own (by decide) (.own (by decide) (.own (by decide) (.own (by decide) (.own (by decide) (.own (by decide) .nil)))))), by simp⟩) (de_var 3)).choose_spec (de_one (de_not (de_isX1 (tb := tbX) (Ts := ["ValueError"]) nb.isinstance (by exact ⟨_, _, (.ty rfl (by decide) (gb "ValueError" (by decide)) (by decide +kernel) (by decide) .nil), isTb_of xk gx (.ty (T := "ValueError") (by decide) .nil)⟩) (de_var 3)).choose_spec))))
    (dss_one (ds_ret (de_ifExp (DW.dt (dw_or (dt_val (de_var 5)) (dw_or1 (dt_cmp (op_neP hr.units) od_ne (de_xfld (Cs := ["BadText"]) ⟨xf_text⟩ (de_var 3)) (de_var 0) (by first | rfl | exact nomark _))))) de_str de_non)))))))⟩
theorem ok_law_told [TabC] (nb : Nb mg) (cB_sea_in : FnDB P w K mg base "sea_in" 4 ["text"] fB_sea_in) (cB_standing_in : FnDB P w K mg base "standing_in" 4 ["sea", "text"] fB_standing_in) (xk : XK K tbX ownX blX) (gx : ∀ C ∈ ownX, mg C = some (.ref (He.ga K C))) (gb : ∀ T ∈ blX, mg (Str.ofString T) = none) (xf_text : ∀ C ∈ (["BadText"] : List Str), ∃ Ca, mg C = some (.ref Ca) ∧ ExK K Ca ∧ PySem.W.findIn K (.ref Ca) "text" = some none) {f : Addr} {fd : FuncData} (F : FnP K "_law_told" s_law_told f fd) : FnOk P w K mg base CX0 5 f fd ["_law_given", "_law_sea_here"] (spF ⟨K, mg⟩ f_law_told) :=
  fn_ok F sc_law_told fun cdv A outer s H E hr => dv_law_told nb cB_sea_in cB_standing_in xk gx gb xf_text hr
theorem sc_law_right : FnScope ["_law_box_here", "_law_sea_here", "_law_count", "_law_lot_here", "_law_due", "_law_due_lot", "_law_turn", "_law_bent", "_law_given", "_law_where", "_law_deep", "_law_whom"] ["_law_box_here"] (defScope s_law_right) := ⟨rfl, rfl, rfl, by decide +kernel, rfl, by decide +kernel, by decide +kernel⟩
noncomputable def b_law_right_1 : SM := (sSeq (sSet 7 (eCall f_law_bent_text (aSl 0 (aCons (eVar 4) aNil))))
  (sSeq (sIf (tNot (tB (eCall f_law_same (aCons (eCall f_law_told (aCons (eVar 7) (aCons (eC .non) aNil))) (aCons (eCall f_law_read_sea (aCons (eVar 7) aNil)) aNil))))) (sRet (eC (.bl false))) sSkip)
  (sSeq (sSet 7 (eCall f_law_bent_text (aSl 0 (aCons (eVar 5) aNil))))
  (sIf (tNot (tB (eCall f_law_same (aCons (eCall f_law_told (aCons (eVar 7) (aCons (eVar 1) aNil))) (aCons (eCall f_law_read_lot (aCons (eVar 7) (aCons (eVar 2) aNil))) aNil))))) (sRet (eC (.bl false))) sSkip))))
noncomputable def b_law_right_2 : SM := (sIf (tB (eOp2 isnotD (eCall f_law_told (aCons (eVar 7) (aCons (eVar 9) aNil))) (eC .non))) (sRet (eC (.bl false))) sSkip)
noncomputable def b_law_right_3 : SM := (sFor (iSeq (eCallV mkTup (aCons (eOp2 addD (eVar 8) (eC (.str "\n"))) (aCons (eOp2 addD (eC (.str "\n")) (eVar 8)) (aCons (eOp2 addD (eOp1 (repl1D " " "\n") (eVar 8)) (eC (.str "\n"))) (aCons (eC (.str "\n")) aNil)))))) (gV 7) b_law_right_2)
noncomputable def b_law_right : SM := (sSeq (sSet 1 (eCall f_law_sea (aSl 0 (aCons (eC (.int 24)) aNil))))
  (sSeq (sSet 1 (eIf (tB (eOp2 ltD (eOp2 ixD (eVar 1) (eC (.int 0))) (eOp2 powD (eC (.int 10)) (eC (.int 6))))) (eVar 1) (eOp2 addD (eSlice (eVar 1) oNo (oSome (eC (.int 2)))) (eCallV mkTup (aCons (eSlice (eOp2 ixD (eVar 1) (eC (.int 2))) oNo (oSome (eC (.int 10)))) aNil)))))
  (sSeq (sSet 2 (eCallV lenF (aCons (eOp2 ixD (eVar 1) (eC (.int 2))) aNil)))
  (sSeq (sSet 3 (eCall f_law_lot (aSl 0 (aCons (eVar 2) aNil))))
  (sSeq (sSet 4 (eOp2 joinD2 (eC (.str " ")) (eOp2 addD (eCallV mkLst (aCons (eCallV strF (aCons (eOp2 ixD (eVar 1) (eC (.int 0))) aNil)) (aCons (eCallV strF (aCons (eOp2 ixD (eVar 1) (eC (.int 1))) aNil)) (aCons (eC (.str ":")) aNil)))) (eComp [10] (iSeq (eOp2 ixD (eVar 1) (eC (.int 2)))) (gV 10) tTrue (eCallV strF (aCons (eVar 10) aNil))))))
  (sSeq (sSet 5 (eIf (tB (eOp2 neD (eVar 3) (eCallV mkTup aNil))) (eOp2 joinD2 (eC (.str " ")) (eComp [11] (iSeq (eVar 3)) (gV 11) tTrue (eCallV strF (aCons (eVar 11) aNil)))) (eC (.str "-"))))
  (sSeq (sIf (tNot (tB (eCall f_law_same (aCons (eCallV mkLst (aCons (eCall f_sea_text (aCons (eVar 1) aNil)) (aCons (eCallK [0] 0 1 f_sea_text aNil (aCons (eCall f_law_lists (aCons (eVar 1) aNil)) aNil)) aNil))) (aCons (eCallV mkLst (aCons (eVar 4) (aCons (eVar 4) aNil))) aNil))))) (sRet (eC (.bl false))) sSkip)
  (sSeq (sIf (tNot (tB (eCall f_law_same (aCons (eCallV mkLst (aCons (eCall f_standing_text (aCons (eVar 3) aNil)) (aCons (eCallK [0] 0 1 f_standing_text aNil (aCons (eCallV listF (aCons (eVar 3) aNil)) aNil)) aNil))) (aCons (eCallV mkLst (aCons (eVar 5) (aCons (eVar 5) aNil))) aNil))))) (sRet (eC (.bl false))) sSkip)
  (sSeq (sIf (tNot (tB (eCall f_law_same (aCons (eCallV mkLst (aCons (eCallK [0] 0 1 f_sea_in aNil (aCons (eVar 4) aNil)) (aCons (eCallK [1, 0] 0 2 f_standing_in aNil (aCons (eVar 5) (aCons (eVar 1) aNil))) aNil))) (aCons (eCallV mkLst (aCons (eVar 1) (aCons (eVar 3) aNil))) aNil))))) (sRet (eC (.bl false))) sSkip)
  (sSeq (sFor (iArg rng1 (aCons (eC (.int 12)) aNil)) (gV 6) b_law_right_1)
  (sSeq (sFor (iSeq (eCallV mkTup (aCons (eCallV mkTup (aCons (eVar 4) (aCons (eC .non) aNil))) (aCons (eCallV mkTup (aCons (eVar 5) (aCons (eVar 1) aNil))) aNil)))) (gT (gCons (gV 8) (gCons (gV 9) gNil))) b_law_right_3)
  (sRet (eAnd (eOp2 isD (eCall f_law_told (aCons (eC (.str "")) (aCons (eC .non) aNil))) (eC .non)) (eOp2 isD (eCall f_law_told (aCons (eC (.str "")) (aCons (eVar 1) aNil))) (eC .non)))))))))))))))
noncomputable def f_law_right : FnSem := mkFn 1 11 b_law_right
theorem dv_law_right [TabC] (nb : Nb mg) (k_sea_in_0_text : FnK P w K mg base "sea_in" 2 ["text"] ["text"] 0 [0] f_sea_in) (k_sea_text_0_sea : FnK P w K mg base "sea_text" 1 ["sea"] ["sea"] 0 [0] f_sea_text) (k_standing_in_0_text_sea : FnK P w K mg base "standing_in" 3 ["sea", "text"] ["text", "sea"] 0 [1, 0] f_standing_in) (k_standing_text_0_standing : FnK P w K mg base "standing_text" 1 ["standing"] ["standing"] 0 [0] f_standing_text) (c_law_bent_text : FnD P w K mg base "_law_bent_text" 3 ["_law_box_here", "_law_given"] f_law_bent_text) (c_law_lists : FnD P w K mg base "_law_lists" 9 ["_law_what"] f_law_lists) (c_law_lot : FnD P w K mg base "_law_lot" 3 ["_law_box_here", "_law_count"] f_law_lot) (c_law_read_lot : FnD P w K mg base "_law_read_lot" 3 ["_law_given", "_law_count"] f_law_read_lot) (c_law_read_sea : FnD P w K mg base "_law_read_sea" 2 ["_law_given"] f_law_read_sea) (c_law_same : FnD P w K mg base "_law_same" 9 ["_law_found", "_law_due"] f_law_same) (c_law_sea : FnD P w K mg base "_law_sea" 3 ["_law_box_here", "_law_most"] f_law_sea) (c_law_told : FnD P w K mg base "_law_told" 5 ["_law_given", "_law_sea_here"] f_law_told) (c_sea_text : FnD P w K mg base "sea_text" 1 ["sea"] f_sea_text) (c_standing_text : FnD P w K mg base "standing_text" 1 ["standing"] f_standing_text) {cdv : Value} {A : Around} {outer : List PySem.Env} {s : Shared} {H : Hp} {E : XK} {f : Addr} (hr : Room 9 (A.deeper (PyProof.Rows.envOfC "_law_right" (defScope s_law_right) s.heap.objs.size f cdv))) :
    ∃ t, DSs (cxOf CX0 P w K mg base ["_law_box_here", "_law_sea_here", "_law_count", "_law_lot_here", "_law_due", "_law_due_lot", "_law_turn", "_law_bent", "_law_given", "_law_where", "_law_deep", "_law_whom"] "_law_right" (defScope s_law_right) f cdv A outer s H E).nox (defBody s_law_right) t b_law_right := ⟨_,
    (dss_cons (ds_set 1 sc_law_right.nd (de_call c_law_sea (hr.mono (by omega)) (da_sl 0 (da_cons de_int da_nil))))
    (dss_cons (ds_set 1 sc_law_right.nd (de_ifExp (dt_cmp op_lt od_lt (de_ix ix_seq od_ix (de_var 1) de_int) (de_op op_pow od_pow de_int de_int) (by first | rfl | exact nomark _)) (de_var 1) (de_op op_addA od_add (de_slice (de_var 1) do_none (do_some de_int)) (de_tup (da_cons (de_slice (de_ix ix_seq od_ix (de_var 1) de_int) do_none (do_some de_int)) da_nil)))))
    (dss_cons (ds_set 2 sc_law_right.nd (de_callB cr_len cd_len nb.len bt_len (da_cons (de_ix ix_seq od_ix (de_var 1) de_int) da_nil)))
    (dss_cons (ds_set 3 sc_law_right.nd (de_call c_law_lot (hr.mono (by omega)) (da_sl 0 (da_cons (de_var 2) da_nil))))
    (dss_cons (ds_set 4 sc_law_right.nd (de_join de_str (de_op op_addA od_add (de_lst (da_cons (de_callTy call_str1 cd_str nb.str bt_str (da_cons (de_ix ix_seq od_ix (de_var 1) de_int) da_nil)) (da_cons (de_callTy call_str1 cd_str nb.str bt_str (da_cons (de_ix ix_seq od_ix (de_var 1) de_int) da_nil)) (da_cons de_str da_nil)))) (DF.de (df_compX rfl sc_law_right.nd (di_seq (de_ix ix_seq od_ix (de_var 1) de_int)) (blkOk_by (own := [("_law_deep", 10)]) (by kernel_rfl)) (by exact fun _ _ _ _ _ => ⟨_, (dg_name 10 sc_law_right.nd)⟩) (by exact fun _ _ _ _ _ => ⟨_, dts_nil⟩) (by exact fun _ _ _ _ _ => ⟨_, (de_callTy call_str1 cd_str nb.str bt_str (da_cons (de_var 10) da_nil))⟩))))))
    (dss_cons (ds_set 5 sc_law_right.nd (de_ifExp (dt_cmp (op_neP hr.units) od_ne (de_var 3) (de_tup da_nil) (by first | rfl | exact nomark _)) (de_join de_str (DF.de (df_compX rfl sc_law_right.nd (di_seq (de_var 3)) (blkOk_by (own := [("_law_whom", 11)]) (by kernel_rfl)) (by exact fun _ _ _ _ _ => ⟨_, (dg_name 11 sc_law_right.nd)⟩) (by exact fun _ _ _ _ _ => ⟨_, dts_nil⟩) (by exact fun _ _ _ _ _ => ⟨_, (de_callTy call_str1 cd_str nb.str bt_str (da_cons (de_var 11) da_nil))⟩)))) de_str))
    (dss_cons (ds_if (dt_not (dt_val (de_call c_law_same (hr.mono (by omega)) (da_cons (de_lst (da_cons (de_call c_sea_text (hr.mono (by omega)) (da_cons (de_var 1) da_nil)) (da_cons (de_kw0 k_sea_text_0_sea (hr.mono (by omega)) (dk_cons (de_call c_law_lists (hr.mono (by omega)) (da_cons (de_var 1) da_nil)) dk_nil)) da_nil))) (da_cons (de_lst (da_cons (de_var 4) (da_cons (de_var 4) da_nil))) da_nil))))) (dss_one (ds_ret de_bl)) dss_nil)
    (dss_cons (ds_if (dt_not (dt_val (de_call c_law_same (hr.mono (by omega)) (da_cons (de_lst (da_cons (de_call c_standing_text (hr.mono (by omega)) (da_cons (de_var 3) da_nil)) (da_cons (de_kw0 k_standing_text_0_standing (hr.mono (by omega)) (dk_cons (de_callTy call_list_of cd_list nb.list bt_list (da_cons (de_var 3) da_nil)) dk_nil)) da_nil))) (da_cons (de_lst (da_cons (de_var 5) (da_cons (de_var 5) da_nil))) da_nil))))) (dss_one (ds_ret de_bl)) dss_nil)
    (dss_cons (ds_if (dt_not (dt_val (de_call c_law_same (hr.mono (by omega)) (da_cons (de_lst (da_cons (de_kw0 k_sea_in_0_text (hr.mono (by omega)) (dk_cons (de_var 4) dk_nil)) (da_cons (de_kw0 k_standing_in_0_text_sea (hr.mono (by omega)) (dk_cons (de_var 5) (dk_cons (de_var 1) dk_nil))) da_nil))) (da_cons (de_lst (da_cons (de_var 1) (da_cons (de_var 3) da_nil))) da_nil))))) (dss_one (ds_ret de_bl)) dss_nil)
    (dss_cons (ds_for .never rfl (di_rng1 nb.range (da_cons de_int da_nil)) (dg_name 6 sc_law_right.nd) (dss_cons (ds_set 7 sc_law_right.nd (de_call c_law_bent_text (hr.mono (by omega)) (da_sl 0 (da_cons (de_var 4) da_nil))))
    (dss_cons (ds_if (dt_not (dt_val (de_call c_law_same (hr.mono (by omega)) (da_cons (de_call c_law_told (hr.mono (by omega)) (da_cons (de_var 7) (da_cons de_non da_nil))) (da_cons (de_call c_law_read_sea (hr.mono (by omega)) (da_cons (de_var 7) da_nil)) da_nil))))) (dss_one (ds_ret de_bl)) dss_nil)
    (dss_cons (ds_set 7 sc_law_right.nd (de_call c_law_bent_text (hr.mono (by omega)) (da_sl 0 (da_cons (de_var 5) da_nil))))
    (dss_one (ds_if (dt_not (dt_val (de_call c_law_same (hr.mono (by omega)) (da_cons (de_call c_law_told (hr.mono (by omega)) (da_cons (de_var 7) (da_cons (de_var 1) da_nil))) (da_cons (de_call c_law_read_lot (hr.mono (by omega)) (da_cons (de_var 7) (da_cons (de_var 2) da_nil))) da_nil))))) (dss_one (ds_ret de_bl)) dss_nil))))))
    (dss_cons (ds_for .never rfl (di_seq (de_tup (da_cons (de_tup (da_cons (de_var 4) (da_cons de_non da_nil))) (da_cons (de_tup (da_cons (de_var 5) (da_cons (de_var 1) da_nil))) da_nil)))) (dg_tup rfl (dgs_cons (dg_name 8 sc_law_right.nd) (dgs_cons (dg_name 9 sc_law_right.nd) dgs_nil)) (gl_cons (gl_cons gl_nil))) (dss_one (ds_for .never rfl (di_seq (de_tup (da_first op_addA od_add (de_var 8) (dat_cons (DE.t (de_op op_addA od_add de_str (de_var 8))) (dat_cons (det_op op_addA od_add (det_repl1 (de_var 8) (by decide)) de_str) (dat_cons (DE.t de_str) dat_nil)))))) (dg_name 7 sc_law_right.nd) (dss_one (ds_if (dt_cmp op_isnotA od_isnot (de_call c_law_told (hr.mono (by omega)) (da_cons (de_var 7) (da_cons (de_var 9) da_nil))) de_non (by first | rfl | exact nomark _)) (dss_one (ds_ret de_bl)) dss_nil)))))
    (dss_one (ds_ret (de_and (de_cmp op_isA od_is (de_call c_law_told (hr.mono (by omega)) (da_cons de_str (da_cons de_non da_nil))) de_non (by first | rfl | exact nomark _)) (de_one (de_cmp op_isA od_is (de_call c_law_told (hr.mono (by omega)) (da_cons de_str (da_cons (de_var 1) da_nil))) de_non (by first | rfl | exact nomark _)))))))))))))))))⟩
theorem ok_law_right [TabC] (nb : Nb mg) (k_sea_in_0_text : FnK P w K mg base "sea_in" 2 ["text"] ["text"] 0 [0] f_sea_in) (k_sea_text_0_sea : FnK P w K mg base "sea_text" 1 ["sea"] ["sea"] 0 [0] f_sea_text) (k_standing_in_0_text_sea : FnK P w K mg base "standing_in" 3 ["sea", "text"] ["text", "sea"] 0 [1, 0] f_standing_in) (k_standing_text_0_standing : FnK P w K mg base "standing_text" 1 ["standing"] ["standing"] 0 [0] f_standing_text) (c_law_bent_text : FnD P w K mg base "_law_bent_text" 3 ["_law_box_here", "_law_given"] f_law_bent_text) (c_law_lists : FnD P w K mg base "_law_lists" 9 ["_law_what"] f_law_lists) (c_law_lot : FnD P w K mg base "_law_lot" 3 ["_law_box_here", "_law_count"] f_law_lot) (c_law_read_lot : FnD P w K mg base "_law_read_lot" 3 ["_law_given", "_law_count"] f_law_read_lot) (c_law_read_sea : FnD P w K mg base "_law_read_sea" 2 ["_law_given"] f_law_read_sea) (c_law_same : FnD P w K mg base "_law_same" 9 ["_law_found", "_law_due"] f_law_same) (c_law_sea : FnD P w K mg base "_law_sea" 3 ["_law_box_here", "_law_most"] f_law_sea) (c_law_told : FnD P w K mg base "_law_told" 5 ["_law_given", "_law_sea_here"] f_law_told) (c_sea_text : FnD P w K mg base "sea_text" 1 ["sea"] f_sea_text) (c_standing_text : FnD P w K mg base "standing_text" 1 ["standing"] f_standing_text) {f : Addr} {fd : FuncData} (F : FnP K "_law_right" s_law_right f fd) : FnOk P w K mg base CX0 10 f fd ["_law_box_here"] (spF ⟨K, mg⟩ f_law_right) :=
  fn_ok F sc_law_right fun cdv A outer s H E hr => dv_law_right nb k_sea_in_0_text k_sea_text_0_sea k_standing_in_0_text_sea k_standing_text_0_standing c_law_bent_text c_law_lists c_law_lot c_law_read_lot c_law_read_sea c_law_same c_law_sea c_law_told c_sea_text c_standing_text hr
theorem sc_law : FnScope ["_law_script", "_law_k"] ["_law_script"] (defScope s_law) := ⟨rfl, rfl, rfl, by decide +kernel, rfl, by decide +kernel, by decide +kernel⟩
noncomputable def b_law : SM := (sRet (eCallV allF (aCons (eComp [1] (iArg rng1 (aCons (eOp2 addD (eC (.int 1)) (eCallV minF (aCons (eC (.int 3)) (aCons (eCallV lenF (aCons (eVar 0) aNil)) aNil)))) aNil)) (gV 1) tTrue (eCallT f_law_right (eCallF fF_law_box (aCons (eVar 0) (aCons (eVar 1) aNil))))) aNil)))
noncomputable def f_law : FnSem := mkFn 1 1 b_law
theorem dv_law [TabC] (nb : Nb mg) (cF_law_box : FnDF P w K mg base "_law_box" 2 ["_law_script", "_law_k"] fF_law_box) (c_law_right : FnD P w K mg base "_law_right" 10 ["_law_box_here"] f_law_right) {cdv : Value} {A : Around} {outer : List PySem.Env} {s : Shared} {H : Hp} {E : XK} {f : Addr} (hr : Room 10 (A.deeper (PyProof.Rows.envOfC "law" (defScope s_law) s.heap.objs.size f cdv))) :
    ∃ t, DSs (cxOf CX0 P w K mg base ["_law_script", "_law_k"] "law" (defScope s_law) f cdv A outer s H E).nox (defBody s_law) t b_law := ⟨_,
    (dss_one (ds_ret (de_callB (cr_all rfl) cd_all nb.all bt_all (da_cons (DF.de (df_compX rfl sc_law.nd (di_rng1 nb.range (da_cons (de_op op_addA od_add de_int (de_callB (call_min2 rfl) cd_min nb.min bt_min (da_cons de_int (da_cons (de_callB cr_len cd_len nb.len bt_len (da_cons (de_var 0) da_nil)) da_nil)))) da_nil)) (blkOk_by (own := [("_law_k", 1)]) (by kernel_rfl)) (by exact fun _ _ _ _ _ => ⟨_, (dg_name 1 sc_law.nd)⟩) (by exact fun _ _ _ _ _ => ⟨_, dts_nil⟩) (by exact fun _ _ _ _ _ => ⟨_, (de_callT c_law_right (hr.mono (by omega)) (de_callF cF_law_box (hr.mono (by omega)) (da_cons (de_var 0) (da_cons (de_var 1) da_nil))))⟩))) da_nil))))⟩
theorem ok_law [TabC] (nb : Nb mg) (cF_law_box : FnDF P w K mg base "_law_box" 2 ["_law_script", "_law_k"] fF_law_box) (c_law_right : FnD P w K mg base "_law_right" 10 ["_law_box_here"] f_law_right) {f : Addr} {fd : FuncData} (F : FnP K "law" s_law f fd) : FnOk P w K mg base CX0 11 f fd ["_law_script"] (spF ⟨K, mg⟩ f_law) :=
  fn_ok F sc_law fun cdv A outer s H E hr => dv_law nb cF_law_box c_law_right hr
end
end LW
namespace LW
open PySem DL
noncomputable def m_number_in (word1 : D) : Option (D) :=
  Option.bind (lenF [word1]) fun t2 =>
  Option.bind (ltD (D.int 0) t2) fun z4 =>
  Option.bind (asB z4) fun c6 =>
  Option.bind (if c6 = true then (leD t2 (D.int 13)) else some (D.bl false)) fun t8 =>
  Option.bind (asB t8) fun c10 =>
  Option.bind (if (!c10) = true then (some true) else (Option.bind (unS word1) fun ds12 =>
  Option.bind (cmpP (fun d14 => Option.bind ((inSD false) d14 (D.str "0123456789")) fun t15 =>
  some [t15]) ds12) fun t17 =>
  Option.bind (allF [(D.lst t17)]) fun t19 =>
  Option.bind (asB t19) fun c21 =>
  some (!c21))) fun c23 =>
  if c23 = true then (some D.non) else (Option.bind (intTF [word1]) fun t25 =>
  Option.bind (strF [t25]) fun t27 =>
  Option.bind (eqD t27 word1) fun t29 =>
  Option.bind (asB t29) fun c31 =>
  Option.bind (if c31 = true then (Option.bind (intTF [word1]) fun t33 =>
  some t33) else (some D.non)) fun r35 =>
  some r35)
theorem ms_number_in {word1 : D} {r : D} (h : m_number_in word1 = some r) : f_number_in [.v word1] = some (r, [.v word1]) := by
  unfold m_number_in at h
  refine mkFn_of (P := [.v word1, .x]) rfl ⟨rfl, trivial, trivial⟩ ?_
  unfold b_number_in
  obtain ⟨t2, e3, h⟩ := bd h
  obtain ⟨z4, e5, h⟩ := bd h
  obtain ⟨c6, e7, h⟩ := bd h
  obtain ⟨t8, e9, h⟩ := bd h
  obtain ⟨c10, e11, h⟩ := bd h
  obtain ⟨c23, e24, h⟩ := bd h
  refine WS.ifS (show XT [.v word1, .x] (tOr (tNot (tB (eChain ltD leD (eC (.int 0)) (eCallV lenF (aCons (eVar 0) aNil)) (eC (.int 13))))) (tNot (tB (eCallV allF (aCons (eComp [1] (iSign (eVar 0)) (gV 1) tTrue (eOp2 (inSD false) (eVar 1) (eC (.str "0123456789")))) aNil))))) c23 [.v word1, .x] from (XT.or_ (XT.not (XT.bb (show XE [.v word1, .x] (eChain ltD leD (eC (.int 0)) (eCallV lenF (aCons (eVar 0) aNil)) (eC (.int 13))) t8 [.v word1, .x] from (XE.chain_ XE.cst (XE.callV (XA.cons (XE.var rfl) XA.nil) rfl e3) e5 e7 (fun hc => by rw [if_pos hc] at e9; exact ⟨_, XE.cst, e9⟩) (fun hc => by rw [if_neg (Bool.eq_false_iff.mp hc)] at e9; have q := Option.some.inj e9; subst q; exact ⟨rfl, rfl⟩))) e11)) (fun hc => by rw [if_pos hc] at e24; have q := Option.some.inj e24; subst q; exact ⟨rfl, rfl⟩) (fun hc => by rw [if_neg (Bool.eq_false_iff.mp hc)] at e24; obtain ⟨ds12, e13, e24⟩ := bd e24; obtain ⟨t17, e18, e24⟩ := bd e24; obtain ⟨t19, e20, e24⟩ := bd e24; obtain ⟨c21, e22, e24⟩ := bd e24; have q := Option.some.inj e24; subst q; exact (XT.not (XT.bb (XE.callV (XA.cons (XE.comp (P2 := [.v word1, .x]) (Pw := [.v word1, .x]) (XI.sign (XE.var rfl) e13) rfl e18 (by intro d14 z h; obtain ⟨t15, e16, h⟩ := bd h; cases h; exact XC.one (XG.v rfl) XT.tt (XE.op2 (XE.var rfl) XE.cst e16) rfl ⟨rfl, trivial, trivial⟩) rfl) XA.nil) rfl e20) e22))))) (fun hc => ?_) (fun hc => ?_)
  · rw [if_pos hc] at h
    refine WS.retS XE.cst (fun ρ hρ => ?_)
    cases h; exact rfl
  · rw [if_neg (Bool.eq_false_iff.mp hc)] at h
    refine WS.skipS ?_
    obtain ⟨t25, e26, h⟩ := bd h
    obtain ⟨t27, e28, h⟩ := bd h
    obtain ⟨t29, e30, h⟩ := bd h
    obtain ⟨c31, e32, h⟩ := bd h
    obtain ⟨r35, e36, h⟩ := bd h
    refine WS.ret (show XE [.v word1, .x] (eIf (tB (eOp2 eqD (eCallV strF (aCons (eCallV intTF (aCons (eVar 0) aNil)) aNil)) (eVar 0))) (eCallV intTF (aCons (eVar 0) aNil)) (eC .non)) r35 [.v word1, .x] from (XE.if_ (XT.bb (XE.op2 (XE.callV (XA.cons (XE.callV (XA.cons (XE.var rfl) XA.nil) rfl e26) XA.nil) rfl e28) (XE.var rfl) e30) e32) (fun hc => by rw [if_pos hc] at e36; obtain ⟨t33, e34, e36⟩ := bd e36; have q := Option.some.inj e36; subst q; exact (XE.callV (XA.cons (XE.var rfl) XA.nil) rfl e34)) (fun hc => by rw [if_neg (Bool.eq_false_iff.mp hc)] at e36; have q := Option.some.inj e36; subst q; exact XE.cst))) (fun ρ hρ => ?_)
    cases h; exact rfl
noncomputable def m_sea_text (sea1 : D) : Option (D) :=
  Option.bind (ixD sea1 (D.int 0)) fun t2 =>
  Option.bind (strF [t2]) fun t4 =>
  Option.bind (ixD sea1 (D.int 1)) fun t6 =>
  Option.bind (strF [t6]) fun t8 =>
  Option.bind (mkLst [t4, t8, (D.str ":")]) fun t10 =>
  Option.bind (ixD sea1 (D.int 2)) fun t12 =>
  Option.bind (unL t12) fun ds14 =>
  Option.bind (cmpP (fun d16 => Option.bind (strF [d16]) fun t17 =>
  some [t17]) ds14) fun t19 =>
  Option.bind (addD t10 (D.lst t19)) fun t21 =>
  Option.bind (joinD2 (D.str " ") t21) fun r23 =>
  some r23
theorem ms_sea_text {sea1 : D} {r : D} (h : m_sea_text sea1 = some r) : f_sea_text [.v sea1] = some (r, [.v sea1]) := by
  unfold m_sea_text at h
  refine mkFn_of (P := [.v sea1, .x]) rfl ⟨rfl, trivial, trivial⟩ ?_
  unfold b_sea_text
  obtain ⟨t2, e3, h⟩ := bd h
  obtain ⟨t4, e5, h⟩ := bd h
  obtain ⟨t6, e7, h⟩ := bd h
  obtain ⟨t8, e9, h⟩ := bd h
  obtain ⟨t10, e11, h⟩ := bd h
  obtain ⟨t12, e13, h⟩ := bd h
  obtain ⟨ds14, e15, h⟩ := bd h
  obtain ⟨t19, e20, h⟩ := bd h
  obtain ⟨t21, e22, h⟩ := bd h
  obtain ⟨r23, e24, h⟩ := bd h
  refine WS.ret (XE.op2 XE.cst (XE.op2 (XE.callV (XA.cons (XE.callV (XA.cons (XE.op2 (XE.var rfl) XE.cst e3) XA.nil) rfl e5) (XA.cons (XE.callV (XA.cons (XE.op2 (XE.var rfl) XE.cst e7) XA.nil) rfl e9) (XA.cons XE.cst XA.nil))) rfl e11) (XE.comp (P2 := [.v sea1, .x]) (Pw := [.v sea1, .x]) (XI.seq (XE.op2 (XE.var rfl) XE.cst e13) e15) rfl e20 (by intro d16 z h; obtain ⟨t17, e18, h⟩ := bd h; cases h; exact XC.one (XG.v rfl) XT.tt (XE.callV (XA.cons (XE.var rfl) XA.nil) rfl e18) rfl ⟨rfl, trivial, trivial⟩) rfl) e22) e24) (fun ρ hρ => ?_)
  cases h; exact rfl
noncomputable def m_sea_in (text1 : D) : Option (D) :=
  Option.bind (splitD text1 (D.str " ")) fun words2 =>
  Option.bind (asI (D.int 2)) fun i4 =>
  Option.bind (sliceD words2 none (some i4)) fun t6 =>
  Option.bind (asI (D.int 3)) fun i8 =>
  Option.bind (sliceD words2 (some i8) none) fun t10 =>
  Option.bind (addD t6 t10) fun t12 =>
  Option.bind (unL t12) fun ds14 =>
  Option.bind (cmpP (fun d16 => Option.bind (m_number_in d16) fun t17 =>
  some [t17]) ds14) fun numbers19 =>
  Option.bind (lenF [words2]) fun t21 =>
  Option.bind (leD t21 (D.int 3)) fun t23 =>
  Option.bind (asB t23) fun c25 =>
  Option.bind (if c25 = true then (some true) else (Option.bind (ixD words2 (D.int 2)) fun t27 =>
  Option.bind (neD t27 (D.str ":")) fun t29 =>
  Option.bind (asB t29) fun c31 =>
  Option.bind (if c31 = true then (some true) else (Option.bind ((inD false) D.non (D.lst numbers19)) fun t33 =>
  Option.bind (asB t33) fun c35 =>
  some c35)) fun c37 =>
  some c37)) fun c39 =>
  if c39 = true then (none) else (Option.bind (ixD (D.lst numbers19) (D.int 0)) fun t41 =>
  Option.bind (ixD (D.lst numbers19) (D.int 1)) fun t43 =>
  Option.bind (asI (D.int 2)) fun i45 =>
  Option.bind (sliceD (D.lst numbers19) (some i45) none) fun t47 =>
  Option.bind (tupF [t47]) fun t49 =>
  Option.bind (mkTup [t41, t43, t49]) fun r51 =>
  some r51)
theorem ms_sea_in {text1 : D} {r : D} (h : m_sea_in text1 = some r) : f_sea_in [.v text1] = some (r, [.v text1]) := by
  unfold m_sea_in at h
  refine mkFn_of (P := [.v text1, .x, .x, .x]) rfl ⟨rfl, trivial, trivial, trivial, trivial⟩ ?_
  unfold b_sea_in
  obtain ⟨words2, e3, h⟩ := bd h
  refine WS.seq (P1 := [.v text1, .v words2, .x, .x]) (WS.set (XE.op2 (XE.var rfl) XE.cst e3) rfl) ?_
  obtain ⟨i4, e5, h⟩ := bd h
  obtain ⟨t6, e7, h⟩ := bd h
  obtain ⟨i8, e9, h⟩ := bd h
  obtain ⟨t10, e11, h⟩ := bd h
  obtain ⟨t12, e13, h⟩ := bd h
  obtain ⟨ds14, e15, h⟩ := bd h
  obtain ⟨numbers19, e20, h⟩ := bd h
  refine WS.seq (P1 := [.v text1, .v words2, .v (D.lst numbers19), .x]) (WS.set (XE.comp (P2 := [.v text1, .v words2, .x, .x]) (Pw := [.v text1, .v words2, .x, .x]) (XI.seq (XE.op2 (XE.slice (XE.var rfl) XO.no (XO.some XE.cst e5) e7) (XE.slice (XE.var rfl) (XO.some XE.cst e9) XO.no e11) e13) e15) rfl e20 (by intro d16 z h; obtain ⟨t17, e18, h⟩ := bd h; cases h; exact XC.one (XG.v rfl) XT.tt (XE.call (XA.cons (XE.var rfl) XA.nil) (show ([] : List Nat).Nodup by decide) rfl (ms_number_in e18) rfl) rfl ⟨rfl, rfl, trivial, trivial, trivial⟩) rfl) rfl) ?_
  obtain ⟨t21, e22, h⟩ := bd h
  obtain ⟨t23, e24, h⟩ := bd h
  obtain ⟨c25, e26, h⟩ := bd h
  obtain ⟨c39, e40, h⟩ := bd h
  refine WS.ifS (show XT [.v text1, .v words2, .v (D.lst numbers19), .x] (tOr (tB (eOp2 leD (eCallV lenF (aCons (eVar 1) aNil)) (eC (.int 3)))) (tOr (tB (eOp2 neD (eOp2 ixD (eVar 1) (eC (.int 2))) (eC (.str ":")))) (tB (eOp2 (inD false) (eC .non) (eVar 2))))) c39 [.v text1, .v words2, .v (D.lst numbers19), .x] from (XT.or_ (XT.bb (XE.op2 (XE.callV (XA.cons (XE.var rfl) XA.nil) rfl e22) XE.cst e24) e26) (fun hc => by rw [if_pos hc] at e40; have q := Option.some.inj e40; subst q; exact ⟨rfl, rfl⟩) (fun hc => by rw [if_neg (Bool.eq_false_iff.mp hc)] at e40; obtain ⟨t27, e28, e40⟩ := bd e40; obtain ⟨t29, e30, e40⟩ := bd e40; obtain ⟨c31, e32, e40⟩ := bd e40; obtain ⟨c37, e38, e40⟩ := bd e40; have q := Option.some.inj e40; subst q; exact (show XT [.v text1, .v words2, .v (D.lst numbers19), .x] (tOr (tB (eOp2 neD (eOp2 ixD (eVar 1) (eC (.int 2))) (eC (.str ":")))) (tB (eOp2 (inD false) (eC .non) (eVar 2)))) c37 [.v text1, .v words2, .v (D.lst numbers19), .x] from (XT.or_ (XT.bb (XE.op2 (XE.op2 (XE.var rfl) XE.cst e28) XE.cst e30) e32) (fun hc => by rw [if_pos hc] at e38; have q := Option.some.inj e38; subst q; exact ⟨rfl, rfl⟩) (fun hc => by rw [if_neg (Bool.eq_false_iff.mp hc)] at e38; obtain ⟨t33, e34, e38⟩ := bd e38; obtain ⟨c35, e36, e38⟩ := bd e38; have q := Option.some.inj e38; subst q; exact (XT.bb (XE.op2 XE.cst (XE.var rfl) e34) e36))))))) (fun hc => ?_) (fun hc => ?_)
  · rw [if_pos hc] at h
    cases h
  · rw [if_neg (Bool.eq_false_iff.mp hc)] at h
    refine WS.skipS ?_
    obtain ⟨t41, e42, h⟩ := bd h
    obtain ⟨t43, e44, h⟩ := bd h
    obtain ⟨i45, e46, h⟩ := bd h
    obtain ⟨t47, e48, h⟩ := bd h
    obtain ⟨t49, e50, h⟩ := bd h
    obtain ⟨r51, e52, h⟩ := bd h
    refine WS.ret (XE.callV (XA.cons (XE.op2 (XE.var rfl) XE.cst e42) (XA.cons (XE.op2 (XE.var rfl) XE.cst e44) (XA.cons (XE.callV (XA.cons (XE.slice (XE.var rfl) (XO.some XE.cst e46) XO.no e48) XA.nil) rfl e50) XA.nil))) rfl e52) (fun ρ hρ => ?_)
    cases h; exact rfl
noncomputable def m_standing_text (standing1 : D) : Option (D) :=
  Option.bind (unL standing1) fun ds2 =>
  Option.bind (cmpP (fun d4 => Option.bind (strF [d4]) fun t5 =>
  some [t5]) ds2) fun t7 =>
  Option.bind (joinD2 (D.str " ") (D.lst t7)) fun t9 =>
  Option.bind (orD t9 (D.str "-")) fun r11 =>
  some r11
theorem ms_standing_text {standing1 : D} {r : D} (h : m_standing_text standing1 = some r) : f_standing_text [.v standing1] = some (r, [.v standing1]) := by
  unfold m_standing_text at h
  refine mkFn_of (P := [.v standing1, .x]) rfl ⟨rfl, trivial, trivial⟩ ?_
  unfold b_standing_text
  obtain ⟨ds2, e3, h⟩ := bd h
  obtain ⟨t7, e8, h⟩ := bd h
  obtain ⟨t9, e10, h⟩ := bd h
  obtain ⟨r11, e12, h⟩ := bd h
  refine WS.ret (XE.op2 (XE.op2 XE.cst (XE.comp (P2 := [.v standing1, .x]) (Pw := [.v standing1, .x]) (XI.seq (XE.var rfl) e3) rfl e8 (by intro d4 z h; obtain ⟨t5, e6, h⟩ := bd h; cases h; exact XC.one (XG.v rfl) XT.tt (XE.callV (XA.cons (XE.var rfl) XA.nil) rfl e6) rfl ⟨rfl, trivial, trivial⟩) rfl) e10) XE.cst e12) (fun ρ hρ => ?_)
  cases h; exact rfl
noncomputable def m_ships_in (words1 : D) : Option (D) :=
  Option.bind (unL words1) fun ds2 =>
  Option.bind (cmpP (fun d4 => Option.bind (m_number_in d4) fun t5 =>
  some [t5]) ds2) fun numbers7 =>
  Option.bind ((inD false) D.non (D.lst numbers7)) fun t9 =>
  Option.bind (asB t9) fun c11 =>
  Option.bind (if c11 = true then (some true) else (Option.bind (sosF [(D.lst numbers7)]) fun t13 =>
  Option.bind (neD (D.lst numbers7) t13) fun t15 =>
  Option.bind (asB t15) fun c17 =>
  some c17)) fun c19 =>
  Option.bind (if c19 = true then (some D.non) else (Option.bind (tupF [(D.lst numbers7)]) fun t21 =>
  some t21)) fun r23 =>
  some r23
theorem ms_ships_in {words1 : D} {r : D} (h : m_ships_in words1 = some r) : f_ships_in [.v words1] = some (r, [.v words1]) := by
  unfold m_ships_in at h
  refine mkFn_of (P := [.v words1, .x, .x]) rfl ⟨rfl, trivial, trivial, trivial⟩ ?_
  unfold b_ships_in
  obtain ⟨ds2, e3, h⟩ := bd h
  obtain ⟨numbers7, e8, h⟩ := bd h
  refine WS.seq (P1 := [.v words1, .v (D.lst numbers7), .x]) (WS.set (XE.comp (P2 := [.v words1, .x, .x]) (Pw := [.v words1, .x, .x]) (XI.seq (XE.var rfl) e3) rfl e8 (by intro d4 z h; obtain ⟨t5, e6, h⟩ := bd h; cases h; exact XC.one (XG.v rfl) XT.tt (XE.call (XA.cons (XE.var rfl) XA.nil) (show ([] : List Nat).Nodup by decide) rfl (ms_number_in e6) rfl) rfl ⟨rfl, trivial, trivial, trivial⟩) rfl) rfl) ?_
  obtain ⟨t9, e10, h⟩ := bd h
  obtain ⟨c11, e12, h⟩ := bd h
  obtain ⟨c19, e20, h⟩ := bd h
  obtain ⟨r23, e24, h⟩ := bd h
  refine WS.ret (show XE [.v words1, .v (D.lst numbers7), .x] (eIf (tOr (tB (eOp2 (inD false) (eC .non) (eVar 1))) (tB (eOp2 neD (eVar 1) (eCallV sosF (aCons (eVar 1) aNil))))) (eC .non) (eCallV tupF (aCons (eVar 1) aNil))) r23 [.v words1, .v (D.lst numbers7), .x] from (XE.if_ (show XT [.v words1, .v (D.lst numbers7), .x] (tOr (tB (eOp2 (inD false) (eC .non) (eVar 1))) (tB (eOp2 neD (eVar 1) (eCallV sosF (aCons (eVar 1) aNil))))) c19 [.v words1, .v (D.lst numbers7), .x] from (XT.or_ (XT.bb (XE.op2 XE.cst (XE.var rfl) e10) e12) (fun hc => by rw [if_pos hc] at e20; have q := Option.some.inj e20; subst q; exact ⟨rfl, rfl⟩) (fun hc => by rw [if_neg (Bool.eq_false_iff.mp hc)] at e20; obtain ⟨t13, e14, e20⟩ := bd e20; obtain ⟨t15, e16, e20⟩ := bd e20; obtain ⟨c17, e18, e20⟩ := bd e20; have q := Option.some.inj e20; subst q; exact (XT.bb (XE.op2 (XE.var rfl) (XE.callV (XA.cons (XE.var rfl) XA.nil) rfl e14) e16) e18)))) (fun hc => by rw [if_pos hc] at e24; have q := Option.some.inj e24; subst q; exact XE.cst) (fun hc => by rw [if_neg (Bool.eq_false_iff.mp hc)] at e24; obtain ⟨t21, e22, e24⟩ := bd e24; have q := Option.some.inj e24; subst q; exact (XE.callV (XA.cons (XE.var rfl) XA.nil) rfl e22)))) (fun ρ hρ => ?_)
  cases h; exact rfl
noncomputable def m_standing_in (sea1 : D) (text2 : D) : Option (D) :=
  Option.bind (eqD text2 (D.str "-")) fun t3 =>
  Option.bind (asB t3) fun c5 =>
  Option.bind (if c5 = true then (Option.bind (mkTup []) fun t7 =>
  some t7) else (Option.bind (splitD text2 (D.str " ")) fun t9 =>
  Option.bind (m_ships_in t9) fun t11 =>
  some t11)) fun ships13 =>
  Option.bind (isD ships13 D.non) fun t15 =>
  Option.bind (asB t15) fun c17 =>
  Option.bind (if c17 = true then (some true) else (Option.bind (unL ships13) fun ds19 =>
  Option.bind (cmpP (fun d21 => Option.bind (ixD sea1 (D.int 2)) fun t22 =>
  Option.bind (lenF [t22]) fun t24 =>
  Option.bind (geD d21 t24) fun t26 =>
  some [t26]) ds19) fun t28 =>
  Option.bind (anyF [(D.lst t28)]) fun t30 =>
  Option.bind (asB t30) fun c32 =>
  some c32)) fun c34 =>
  if c34 = true then (none) else (some ships13)
theorem ms_standing_in {sea1 : D} {text2 : D} {r : D} (h : m_standing_in sea1 text2 = some r) : f_standing_in [.v sea1, .v text2] = some (r, [.v sea1, .v text2]) := by
  unfold m_standing_in at h
  refine mkFn_of (P := [.v sea1, .v text2, .x, .x]) rfl ⟨rfl, rfl, trivial, trivial, trivial⟩ ?_
  unfold b_standing_in
  obtain ⟨t3, e4, h⟩ := bd h
  obtain ⟨c5, e6, h⟩ := bd h
  obtain ⟨ships13, e14, h⟩ := bd h
  refine WS.seq (P1 := [.v sea1, .v text2, .v ships13, .x]) (WS.set (show XE [.v sea1, .v text2, .x, .x] (eIf (tB (eOp2 eqD (eVar 1) (eC (.str "-")))) (eCallV mkTup aNil) (eCall f_ships_in (aCons (eOp2 splitD (eVar 1) (eC (.str " "))) aNil))) ships13 [.v sea1, .v text2, .x, .x] from (XE.if_ (XT.bb (XE.op2 (XE.var rfl) XE.cst e4) e6) (fun hc => by rw [if_pos hc] at e14; obtain ⟨t7, e8, e14⟩ := bd e14; have q := Option.some.inj e14; subst q; exact (XE.callV XA.nil rfl e8)) (fun hc => by rw [if_neg (Bool.eq_false_iff.mp hc)] at e14; obtain ⟨t9, e10, e14⟩ := bd e14; obtain ⟨t11, e12, e14⟩ := bd e14; have q := Option.some.inj e14; subst q; exact (XE.call (XA.cons (XE.op2 (XE.var rfl) XE.cst e10) XA.nil) (show ([] : List Nat).Nodup by decide) rfl (ms_ships_in e12) rfl)))) rfl) ?_
  obtain ⟨t15, e16, h⟩ := bd h
  obtain ⟨c17, e18, h⟩ := bd h
  obtain ⟨c34, e35, h⟩ := bd h
  refine WS.ifS (show XT [.v sea1, .v text2, .v ships13, .x] (tOr (tB (eOp2 isD (eVar 2) (eC .non))) (tB (eCallV anyF (aCons (eComp [3] (iSeq (eVar 2)) (gV 3) tTrue (eOp2 geD (eVar 3) (eCallV lenF (aCons (eOp2 ixD (eVar 0) (eC (.int 2))) aNil)))) aNil)))) c34 [.v sea1, .v text2, .v ships13, .x] from (XT.or_ (XT.bb (XE.op2 (XE.var rfl) XE.cst e16) e18) (fun hc => by rw [if_pos hc] at e35; have q := Option.some.inj e35; subst q; exact ⟨rfl, rfl⟩) (fun hc => by rw [if_neg (Bool.eq_false_iff.mp hc)] at e35; obtain ⟨ds19, e20, e35⟩ := bd e35; obtain ⟨t28, e29, e35⟩ := bd e35; obtain ⟨t30, e31, e35⟩ := bd e35; obtain ⟨c32, e33, e35⟩ := bd e35; have q := Option.some.inj e35; subst q; exact (XT.bb (XE.callV (XA.cons (XE.comp (P2 := [.v sea1, .v text2, .v ships13, .x]) (Pw := [.v sea1, .v text2, .v ships13, .x]) (XI.seq (XE.var rfl) e20) rfl e29 (by intro d21 z h; obtain ⟨t22, e23, h⟩ := bd h; obtain ⟨t24, e25, h⟩ := bd h; obtain ⟨t26, e27, h⟩ := bd h; cases h; exact XC.one (XG.v rfl) XT.tt (XE.op2 (XE.var rfl) (XE.callV (XA.cons (XE.op2 (XE.var rfl) XE.cst e23) XA.nil) rfl e25) e27) rfl ⟨rfl, rfl, rfl, trivial, trivial⟩) rfl) XA.nil) rfl e31) e33)))) (fun hc => ?_) (fun hc => ?_)
  · rw [if_pos hc] at h
    cases h
  · rw [if_neg (Bool.eq_false_iff.mp hc)] at h
    refine WS.skipS ?_
    refine WS.ret (XE.var rfl) (fun ρ hρ => ?_)
    cases h; exact rfl
noncomputable def m_law_cell_at (script1 : D) (k2 : D) : Option (D) :=
  Option.bind (lenF [script1]) fun t3 =>
  Option.bind (ltD k2 t3) fun t5 =>
  Option.bind (asB t5) fun c7 =>
  if c7 = true then (Option.bind (ixD script1 k2) fun r9 =>
  some r9) else (some (D.int 0))
theorem ms_law_cell_at {script1 : D} {k2 : D} {r : D} (h : m_law_cell_at script1 k2 = some r) : f_law_cell_at [.v script1, .v k2] = some (r, [.v script1, .v k2]) := by
  unfold m_law_cell_at at h
  refine mkFn_of (P := [.v script1, .v k2]) rfl ⟨rfl, rfl, trivial⟩ ?_
  unfold b_law_cell_at
  obtain ⟨t3, e4, h⟩ := bd h
  obtain ⟨t5, e6, h⟩ := bd h
  obtain ⟨c7, e8, h⟩ := bd h
  refine WS.ifS (XT.bb (XE.op2 (XE.var rfl) (XE.callV (XA.cons (XE.var rfl) XA.nil) rfl e4) e6) e8) (fun hc => ?_) (fun hc => ?_)
  · rw [if_pos hc] at h
    obtain ⟨r9, e10, h⟩ := bd h
    refine WS.retS (XE.op2 (XE.var rfl) (XE.var rfl) e10) (fun ρ hρ => ?_)
    cases h; exact rfl
  · rw [if_neg (Bool.eq_false_iff.mp hc)] at h
    refine WS.skipS ?_
    refine WS.ret XE.cst (fun ρ hρ => ?_)
    cases h; exact rfl
noncomputable def m_law_box (script1 : D) (k2 : D) : Option (D) :=
  Option.bind (m_law_cell_at script1 k2) fun core3 =>
  Option.bind (absF [core3]) fun t5 =>
  Option.bind (absF [core3]) fun t7 =>
  Option.bind (powD (D.int 10) (D.int 18)) fun t9 =>
  Option.bind (geD t7 t9) fun t11 =>
  Option.bind (intF [t11]) fun t13 =>
  Option.bind (mulI t5 t13) fun t15 =>
  Option.bind (modD core3 (D.int 2305843009213693951)) fun t17 =>
  Option.bind (mulI (D.int 39373) k2) fun t19 =>
  Option.bind (addD t17 t19) fun t21 =>
  Option.bind (addD t21 (D.int 17)) fun t23 =>
  Option.bind (mkLst [t15, t23, (D.int 0)]) fun r25 =>
  some r25
theorem msF_law_box {script1 : D} {k2 : D} {r : D} (h : m_law_box script1 k2 = some r) : fF_law_box [.v script1, .v k2] = some (r, [.v script1, .v k2]) := by
  unfold m_law_box at h
  refine mkFnF_of (P := [.v script1, .v k2, .x]) rfl ⟨rfl, rfl, trivial, trivial⟩ ?_
  unfold b_law_box
  obtain ⟨core3, e4, h⟩ := bd h
  refine WS.seq (P1 := [.v script1, .v k2, .v core3]) (WS.set (XE.call (XA.cons (XE.var rfl) (XA.cons (XE.var rfl) XA.nil)) (show ([] : List Nat).Nodup by decide) rfl (ms_law_cell_at e4) rfl) rfl) ?_
  obtain ⟨t5, e6, h⟩ := bd h
  obtain ⟨t7, e8, h⟩ := bd h
  obtain ⟨t9, e10, h⟩ := bd h
  obtain ⟨t11, e12, h⟩ := bd h
  obtain ⟨t13, e14, h⟩ := bd h
  obtain ⟨t15, e16, h⟩ := bd h
  obtain ⟨t17, e18, h⟩ := bd h
  obtain ⟨t19, e20, h⟩ := bd h
  obtain ⟨t21, e22, h⟩ := bd h
  obtain ⟨t23, e24, h⟩ := bd h
  obtain ⟨r25, e26, h⟩ := bd h
  refine WS.retF (XE.callV (XA.cons (XE.op2 (XE.callV (XA.cons (XE.var rfl) XA.nil) rfl e6) (XE.callV (XA.cons (XE.op2 (XE.callV (XA.cons (XE.var rfl) XA.nil) rfl e8) (XE.op2 XE.cst XE.cst e10) e12) XA.nil) rfl e14) e16) (XA.cons (XE.op2 (XE.op2 (XE.op2 (XE.var rfl) XE.cst e18) (XE.op2 XE.cst (XE.var rfl) e20) e22) XE.cst e24) (XA.cons XE.cst XA.nil))) rfl e26) (fun ρ hρ => ?_)
  cases h; exact rfl
noncomputable def m_law_take (boxhere1 : D) (span2 : D) : Option (D × D) :=
  Option.bind (ixD boxhere1 (D.int 0)) fun t3 =>
  Option.bind (gtD t3 (D.int 0)) fun t5 =>
  Option.bind (asB t5) fun c7 =>
  if c7 = true then (Option.bind (ixD boxhere1 (D.int 0)) fun t9 =>
  Option.bind (modD t9 span2) fun found11 =>
  Option.bind (ixD boxhere1 (D.int 0)) fun t13 =>
  Option.bind (divD t13 span2) fun t15 =>
  Option.bind (setL boxhere1 (D.int 0) t15) fun boxhere17 =>
  some (found11, boxhere17)) else (Option.bind (ixD boxhere1 (D.int 2)) fun t19 =>
  Option.bind (addD t19 (D.int 1)) fun t21 =>
  Option.bind (setL boxhere1 (D.int 2) t21) fun boxhere23 =>
  Option.bind (ixD boxhere23 (D.int 1)) fun t25 =>
  Option.bind (ixD boxhere23 (D.int 2)) fun t27 =>
  Option.bind (mulI (D.int 48271) t27) fun t29 =>
  Option.bind (addD t25 t29) fun t31 =>
  Option.bind (ixD boxhere23 (D.int 2)) fun t33 =>
  Option.bind (addD (D.int 39373) t33) fun t35 =>
  Option.bind (mulI t31 t35) fun t37 =>
  Option.bind (modD t37 (D.int 2147483647)) fun once39 =>
  Option.bind (ixD boxhere23 (D.int 2)) fun t41 =>
  Option.bind (addD once39 t41) fun t43 =>
  Option.bind (ixD boxhere23 (D.int 1)) fun t45 =>
  Option.bind (divD t45 (D.int 1000003)) fun t47 =>
  Option.bind (addD t43 t47) fun t49 =>
  Option.bind (modD once39 (D.int 40009)) fun t51 =>
  Option.bind (addD t51 (D.int 7)) fun t53 =>
  Option.bind (mulI t49 t53) fun t55 =>
  Option.bind (modD t55 (D.int 2147483629)) fun twice57 =>
  Option.bind (mulI twice57 (D.int 48271)) fun t59 =>
  Option.bind (addD t59 once39) fun t61 =>
  Option.bind (modD t61 (D.int 2147483587)) fun t63 =>
  Option.bind (divD t63 (D.int 64)) fun t65 =>
  Option.bind (modD t65 span2) fun r67 =>
  some (r67, boxhere23))
theorem ms_law_take {boxhere1 : D} {span2 : D} {r : D × D} (h : m_law_take boxhere1 span2 = some r) : f_law_take [.p boxhere1, .v span2] = some (r.1, [.p (r.2), .v span2]) := by
  unfold m_law_take at h
  refine mkFn_of (P := [.p boxhere1, .v span2, .x, .x, .x]) rfl ⟨rfl, rfl, trivial, trivial, trivial, trivial⟩ ?_
  unfold b_law_take
  obtain ⟨t3, e4, h⟩ := bd h
  obtain ⟨t5, e6, h⟩ := bd h
  obtain ⟨c7, e8, h⟩ := bd h
  refine WS.ifS (XT.bb (XE.op2 (XE.ixO rfl XE.cst rfl e4) XE.cst e6) e8) (fun hc => ?_) (fun hc => ?_)
  · rw [if_pos hc] at h
    refine WS.assoc ?_
    obtain ⟨t9, e10, h⟩ := bd h
    obtain ⟨found11, e12, h⟩ := bd h
    refine WS.seq (P1 := [.p boxhere1, .v span2, .v found11, .x, .x]) (WS.set (XE.op2 (XE.ixO rfl XE.cst rfl e10) (XE.var rfl) e12) rfl) ?_
    refine WS.assoc ?_
    obtain ⟨t13, e14, h⟩ := bd h
    obtain ⟨t15, e16, h⟩ := bd h
    obtain ⟨boxhere17, e18, h⟩ := bd h
    refine WS.seq (P1 := [.p boxhere17, .v span2, .v found11, .x, .x]) (WS.store (XE.op2 (XE.ixO rfl XE.cst rfl e14) (XE.var rfl) e16) rfl XE.cst rfl e18 rfl) ?_
    refine WS.retS (XE.var rfl) (fun ρ hρ => ?_)
    cases h; exact (by simp only [outF, DL.fin, hρ.getD (i := 0) rfl])
  · rw [if_neg (Bool.eq_false_iff.mp hc)] at h
    refine WS.skipS ?_
    obtain ⟨t19, e20, h⟩ := bd h
    obtain ⟨t21, e22, h⟩ := bd h
    obtain ⟨boxhere23, e24, h⟩ := bd h
    refine WS.seq (P1 := [.p boxhere23, .v span2, .x, .x, .x]) (WS.store (XE.op2 (XE.ixO rfl XE.cst rfl e20) XE.cst e22) rfl XE.cst rfl e24 rfl) ?_
    obtain ⟨t25, e26, h⟩ := bd h
    obtain ⟨t27, e28, h⟩ := bd h
    obtain ⟨t29, e30, h⟩ := bd h
    obtain ⟨t31, e32, h⟩ := bd h
    obtain ⟨t33, e34, h⟩ := bd h
    obtain ⟨t35, e36, h⟩ := bd h
    obtain ⟨t37, e38, h⟩ := bd h
    obtain ⟨once39, e40, h⟩ := bd h
    refine WS.seq (P1 := [.p boxhere23, .v span2, .x, .v once39, .x]) (WS.set (XE.op2 (XE.op2 (XE.op2 (XE.ixO rfl XE.cst rfl e26) (XE.op2 XE.cst (XE.ixO rfl XE.cst rfl e28) e30) e32) (XE.op2 XE.cst (XE.ixO rfl XE.cst rfl e34) e36) e38) XE.cst e40) rfl) ?_
    obtain ⟨t41, e42, h⟩ := bd h
    obtain ⟨t43, e44, h⟩ := bd h
    obtain ⟨t45, e46, h⟩ := bd h
    obtain ⟨t47, e48, h⟩ := bd h
    obtain ⟨t49, e50, h⟩ := bd h
    obtain ⟨t51, e52, h⟩ := bd h
    obtain ⟨t53, e54, h⟩ := bd h
    obtain ⟨t55, e56, h⟩ := bd h
    obtain ⟨twice57, e58, h⟩ := bd h
    refine WS.seq (P1 := [.p boxhere23, .v span2, .x, .v once39, .v twice57]) (WS.set (XE.op2 (XE.op2 (XE.op2 (XE.op2 (XE.var rfl) (XE.ixO rfl XE.cst rfl e42) e44) (XE.op2 (XE.ixO rfl XE.cst rfl e46) XE.cst e48) e50) (XE.op2 (XE.op2 (XE.var rfl) XE.cst e52) XE.cst e54) e56) XE.cst e58) rfl) ?_
    obtain ⟨t59, e60, h⟩ := bd h
    obtain ⟨t61, e62, h⟩ := bd h
    obtain ⟨t63, e64, h⟩ := bd h
    obtain ⟨t65, e66, h⟩ := bd h
    obtain ⟨r67, e68, h⟩ := bd h
    refine WS.ret (XE.op2 (XE.op2 (XE.op2 (XE.op2 (XE.op2 (XE.var rfl) XE.cst e60) (XE.var rfl) e62) XE.cst e64) XE.cst e66) (XE.var rfl) e68) (fun ρ hρ => ?_)
    cases h; exact (by simp only [outF, DL.fin, hρ.getD (i := 0) rfl])
noncomputable def m_law_of (boxhere1 : D) (some2 : D) : Option (D × D) :=
  Option.bind (lenF [some2]) fun t3 =>
  bd2 (m_law_take boxhere1 t3) fun t5 boxhere6 =>
  Option.bind (ixD some2 t5) fun r8 =>
  some (r8, boxhere6)
theorem ms_law_of {boxhere1 : D} {some2 : D} {r : D × D} (h : m_law_of boxhere1 some2 = some r) : f_law_of [.p boxhere1, .v some2] = some (r.1, [.p (r.2), .v some2]) := by
  unfold m_law_of at h
  refine mkFn_of (P := [.p boxhere1, .v some2]) rfl ⟨rfl, rfl, trivial⟩ ?_
  unfold b_law_of
  obtain ⟨t3, e4, h⟩ := bd h
  obtain ⟨t5, boxhere6, e7, h⟩ := bd2_e h
  obtain ⟨r8, e9, h⟩ := bd h
  refine WS.ret (XE.op2 (XE.var rfl) (XE.call (XA.sl rfl (XA.cons (XE.callV (XA.cons (XE.var rfl) XA.nil) rfl e4) XA.nil)) (show ([0] : List Nat).Nodup by decide) rfl (ms_law_take e7) rfl) e9) (fun ρ hρ => ?_)
  cases h; exact (by simp only [outF, DL.fin, hρ.getD (i := 0) rfl])
noncomputable def m_law_same_n : Nat → D → D → Option (D)
  | 0, _, _ => none
  | n + 1, found1, due2 =>
  Option.bind ((isiD2 "list" "tuple") due2) fun t3 =>
  Option.bind (asB t3) fun c5 =>
  if c5 = true then (Option.bind ((isiD "list") found1) fun t7 =>
  Option.bind ((isiD "list") due2) fun t9 =>
  Option.bind (neD t7 t9) fun t11 =>
  Option.bind (asB t11) fun c13 =>
  Option.bind (if c13 = true then (some true) else (Option.bind ((isiD "tuple") found1) fun t15 =>
  Option.bind ((isiD "tuple") due2) fun t17 =>
  Option.bind (neD t15 t17) fun t19 =>
  Option.bind (asB t19) fun c21 =>
  some c21)) fun c23 =>
  if c23 = true then (some (D.bl false)) else (Option.bind (lenF [found1]) fun t25 =>
  Option.bind (lenF [due2]) fun t27 =>
  Option.bind (eqD t25 t27) fun t29 =>
  Option.bind (asB t29) fun c31 =>
  Option.bind (if c31 = true then (Option.bind (zipA [.val found1, .val due2]) fun ds33 =>
  Option.bind (cmpP (fun d35 => bd2 (un2 d35) fun a36 b37 =>
  Option.bind (m_law_same_n n a36 b37) fun t39 =>
  some [t39]) ds33) fun t41 =>
  Option.bind (allF [(D.lst t41)]) fun t43 =>
  some t43) else (some (D.bl false))) fun r45 =>
  some r45)) else (Option.bind (isD due2 D.non) fun t47 =>
  Option.bind (asB t47) fun c49 =>
  Option.bind (if c49 = true then (some true) else (Option.bind ((isiD2 "bool" "str") due2) fun t51 =>
  Option.bind (asB t51) fun c53 =>
  some c53)) fun c55 =>
  if c55 = true then (Option.bind (eqD found1 due2) fun t57 =>
  Option.bind (asB t57) fun c59 =>
  Option.bind (if c59 = true then (Option.bind ((isiD "bool") found1) fun t61 =>
  Option.bind ((isiD "bool") due2) fun t63 =>
  Option.bind (eqD t61 t63) fun t65 =>
  Option.bind (asB t65) fun c67 =>
  Option.bind (if c67 = true then (Option.bind (isD found1 D.non) fun t69 =>
  Option.bind (isD due2 D.non) fun t71 =>
  Option.bind (eqD t69 t71) fun t73 =>
  some t73) else (some (D.bl false))) fun t75 =>
  some t75) else (some (D.bl false))) fun r77 =>
  some r77) else (Option.bind ((isiD "int") found1) fun t79 =>
  Option.bind (asB t79) fun c81 =>
  Option.bind (if c81 = true then (Option.bind ((isiD "bool") found1) fun t83 =>
  Option.bind (notD t83) fun t85 =>
  Option.bind (asB t85) fun c87 =>
  Option.bind (if c87 = true then (Option.bind (eqD found1 due2) fun t89 =>
  some t89) else (some (D.bl false))) fun t91 =>
  some t91) else (some (D.bl false))) fun r93 =>
  some r93))
noncomputable abbrev m_law_same := m_law_same_n 8
theorem ms_law_same_n : ∀ {n : Nat} {found1 : D} {due2 : D} {r : D}, m_law_same_n n found1 due2 = some r → f_law_same_n n [.v found1, .v due2] = some (r, [.v found1, .v due2])
  | 0, _, _, _, h => by cases h
  | n + 1, found1, due2, r, h => by
    have ih := fun {found1 due2} {r} => @ms_law_same_n n found1 due2 r
    unfold m_law_same_n at h
    unfold f_law_same_n
    refine mkFn_of (P := [.v found1, .v due2, .x, .x]) rfl ⟨rfl, rfl, trivial, trivial, trivial⟩ ?_
    unfold b_law_same
    obtain ⟨t3, e4, h⟩ := bd h
    obtain ⟨c5, e6, h⟩ := bd h
    refine WS.ifS (XT.bb (XE.op1 (XE.var rfl) e4) e6) (fun hc => ?_) (fun hc => ?_)
    · rw [if_pos hc] at h
      refine WS.assoc ?_
      obtain ⟨t7, e8, h⟩ := bd h
      obtain ⟨t9, e10, h⟩ := bd h
      obtain ⟨t11, e12, h⟩ := bd h
      obtain ⟨c13, e14, h⟩ := bd h
      obtain ⟨c23, e24, h⟩ := bd h
      refine WS.ifS (show XT [.v found1, .v due2, .x, .x] (tOr (tB (eOp2 neD (eOp1 (isiD "list") (eVar 0)) (eOp1 (isiD "list") (eVar 1)))) (tB (eOp2 neD (eOp1 (isiD "tuple") (eVar 0)) (eOp1 (isiD "tuple") (eVar 1))))) c23 [.v found1, .v due2, .x, .x] from (XT.or_ (XT.bb (XE.op2 (XE.op1 (XE.var rfl) e8) (XE.op1 (XE.var rfl) e10) e12) e14) (fun hc => by rw [if_pos hc] at e24; have q := Option.some.inj e24; subst q; exact ⟨rfl, rfl⟩) (fun hc => by rw [if_neg (Bool.eq_false_iff.mp hc)] at e24; obtain ⟨t15, e16, e24⟩ := bd e24; obtain ⟨t17, e18, e24⟩ := bd e24; obtain ⟨t19, e20, e24⟩ := bd e24; obtain ⟨c21, e22, e24⟩ := bd e24; have q := Option.some.inj e24; subst q; exact (XT.bb (XE.op2 (XE.op1 (XE.var rfl) e16) (XE.op1 (XE.var rfl) e18) e20) e22)))) (fun hc => ?_) (fun hc => ?_)
      · rw [if_pos hc] at h
        refine WS.retS XE.cst (fun ρ hρ => ?_)
        cases h; exact rfl
      · rw [if_neg (Bool.eq_false_iff.mp hc)] at h
        refine WS.skipS ?_
        obtain ⟨t25, e26, h⟩ := bd h
        obtain ⟨t27, e28, h⟩ := bd h
        obtain ⟨t29, e30, h⟩ := bd h
        obtain ⟨c31, e32, h⟩ := bd h
        obtain ⟨r45, e46, h⟩ := bd h
        refine WS.retS (show XE [.v found1, .v due2, .x, .x] (eAnd (eOp2 eqD (eCallV lenF (aCons (eVar 0) aNil)) (eCallV lenF (aCons (eVar 1) aNil))) (eCallV allF (aCons (eComp [2, 3] (iArg zipA (aCons (eVar 0) (aCons (eVar 1) aNil))) (gT (gCons (gV 2) (gCons (gV 3) gNil))) tTrue (eCall (f_law_same_n n) (aCons (eVar 2) (aCons (eVar 3) aNil)))) aNil))) r45 [.v found1, .v due2, .x, .x] from (XE.and_ (XE.op2 (XE.callV (XA.cons (XE.var rfl) XA.nil) rfl e26) (XE.callV (XA.cons (XE.var rfl) XA.nil) rfl e28) e30) e32 (fun hc => by rw [if_pos hc] at e46; obtain ⟨ds33, e34, e46⟩ := bd e46; obtain ⟨t41, e42, e46⟩ := bd e46; obtain ⟨t43, e44, e46⟩ := bd e46; have q := Option.some.inj e46; subst q; exact (XE.callV (XA.cons (XE.comp (P2 := [.v found1, .v due2, .x, .x]) (Pw := [.v found1, .v due2, .x, .x]) (XI.arg (XA.cons (XE.var rfl) (XA.cons (XE.var rfl) XA.nil)) e34) rfl e42 (by intro d35 z h; obtain ⟨a36, b37, e38, h⟩ := bd2_e h; obtain ⟨t39, e40, h⟩ := bd h; cases h; exact XC.one (XG.t (XGs.cons (XG.v rfl) (XGs.cons (XG.v rfl) XGs.nil)) (un2_e e38)) XT.tt (XE.call (XA.cons (XE.var rfl) (XA.cons (XE.var rfl) XA.nil)) (show ([] : List Nat).Nodup by decide) rfl (ih e40) rfl) rfl ⟨rfl, rfl, trivial, trivial, trivial⟩) rfl) XA.nil) rfl e44)) (fun hc => by rw [if_neg (Bool.eq_false_iff.mp hc)] at e46; have q := Option.some.inj e46; subst q; exact ⟨rfl, rfl⟩))) (fun ρ hρ => ?_)
        cases h; exact rfl
    · rw [if_neg (Bool.eq_false_iff.mp hc)] at h
      refine WS.skipS ?_
      obtain ⟨t47, e48, h⟩ := bd h
      obtain ⟨c49, e50, h⟩ := bd h
      obtain ⟨c55, e56, h⟩ := bd h
      refine WS.ifS (show XT [.v found1, .v due2, .x, .x] (tOr (tB (eOp2 isD (eVar 1) (eC .non))) (tB (eOp1 (isiD2 "bool" "str") (eVar 1)))) c55 [.v found1, .v due2, .x, .x] from (XT.or_ (XT.bb (XE.op2 (XE.var rfl) XE.cst e48) e50) (fun hc => by rw [if_pos hc] at e56; have q := Option.some.inj e56; subst q; exact ⟨rfl, rfl⟩) (fun hc => by rw [if_neg (Bool.eq_false_iff.mp hc)] at e56; obtain ⟨t51, e52, e56⟩ := bd e56; obtain ⟨c53, e54, e56⟩ := bd e56; have q := Option.some.inj e56; subst q; exact (XT.bb (XE.op1 (XE.var rfl) e52) e54)))) (fun hc => ?_) (fun hc => ?_)
      · rw [if_pos hc] at h
        obtain ⟨t57, e58, h⟩ := bd h
        obtain ⟨c59, e60, h⟩ := bd h
        obtain ⟨r77, e78, h⟩ := bd h
        refine WS.retS (show XE [.v found1, .v due2, .x, .x] (eAnd (eOp2 eqD (eVar 0) (eVar 1)) (eAnd (eOp2 eqD (eOp1 (isiD "bool") (eVar 0)) (eOp1 (isiD "bool") (eVar 1))) (eOp2 eqD (eOp2 isD (eVar 0) (eC .non)) (eOp2 isD (eVar 1) (eC .non))))) r77 [.v found1, .v due2, .x, .x] from (XE.and_ (XE.op2 (XE.var rfl) (XE.var rfl) e58) e60 (fun hc => by rw [if_pos hc] at e78; obtain ⟨t61, e62, e78⟩ := bd e78; obtain ⟨t63, e64, e78⟩ := bd e78; obtain ⟨t65, e66, e78⟩ := bd e78; obtain ⟨c67, e68, e78⟩ := bd e78; obtain ⟨t75, e76, e78⟩ := bd e78; have q := Option.some.inj e78; subst q; exact (show XE [.v found1, .v due2, .x, .x] (eAnd (eOp2 eqD (eOp1 (isiD "bool") (eVar 0)) (eOp1 (isiD "bool") (eVar 1))) (eOp2 eqD (eOp2 isD (eVar 0) (eC .non)) (eOp2 isD (eVar 1) (eC .non)))) t75 [.v found1, .v due2, .x, .x] from (XE.and_ (XE.op2 (XE.op1 (XE.var rfl) e62) (XE.op1 (XE.var rfl) e64) e66) e68 (fun hc => by rw [if_pos hc] at e76; obtain ⟨t69, e70, e76⟩ := bd e76; obtain ⟨t71, e72, e76⟩ := bd e76; obtain ⟨t73, e74, e76⟩ := bd e76; have q := Option.some.inj e76; subst q; exact (XE.op2 (XE.op2 (XE.var rfl) XE.cst e70) (XE.op2 (XE.var rfl) XE.cst e72) e74)) (fun hc => by rw [if_neg (Bool.eq_false_iff.mp hc)] at e76; have q := Option.some.inj e76; subst q; exact ⟨rfl, rfl⟩)))) (fun hc => by rw [if_neg (Bool.eq_false_iff.mp hc)] at e78; have q := Option.some.inj e78; subst q; exact ⟨rfl, rfl⟩))) (fun ρ hρ => ?_)
        cases h; exact rfl
      · rw [if_neg (Bool.eq_false_iff.mp hc)] at h
        refine WS.skipS ?_
        obtain ⟨t79, e80, h⟩ := bd h
        obtain ⟨c81, e82, h⟩ := bd h
        obtain ⟨r93, e94, h⟩ := bd h
        refine WS.ret (show XE [.v found1, .v due2, .x, .x] (eAnd (eOp1 (isiD "int") (eVar 0)) (eAnd (eNot (eOp1 (isiD "bool") (eVar 0))) (eOp2 eqD (eVar 0) (eVar 1)))) r93 [.v found1, .v due2, .x, .x] from (XE.and_ (XE.op1 (XE.var rfl) e80) e82 (fun hc => by rw [if_pos hc] at e94; obtain ⟨t83, e84, e94⟩ := bd e94; obtain ⟨t85, e86, e94⟩ := bd e94; obtain ⟨c87, e88, e94⟩ := bd e94; obtain ⟨t91, e92, e94⟩ := bd e94; have q := Option.some.inj e94; subst q; exact (show XE [.v found1, .v due2, .x, .x] (eAnd (eNot (eOp1 (isiD "bool") (eVar 0))) (eOp2 eqD (eVar 0) (eVar 1))) t91 [.v found1, .v due2, .x, .x] from (XE.and_ (XE.not (XE.op1 (XE.var rfl) e84) e86) e88 (fun hc => by rw [if_pos hc] at e92; obtain ⟨t89, e90, e92⟩ := bd e92; have q := Option.some.inj e92; subst q; exact (XE.op2 (XE.var rfl) (XE.var rfl) e90)) (fun hc => by rw [if_neg (Bool.eq_false_iff.mp hc)] at e92; have q := Option.some.inj e92; subst q; exact ⟨rfl, rfl⟩)))) (fun hc => by rw [if_neg (Bool.eq_false_iff.mp hc)] at e94; have q := Option.some.inj e94; subst q; exact ⟨rfl, rfl⟩))) (fun ρ hρ => ?_)
        cases h; exact rfl
theorem ms_law_same {found1 : D} {due2 : D} {r : D} (h : m_law_same found1 due2 = some r) : f_law_same [.v found1, .v due2] = some (r, [.v found1, .v due2]) := ms_law_same_n h
noncomputable def m_law_sea (boxhere1 : D) (most2 : D) : Option (D × D) :=
  bd2 (m_law_take boxhere1 most2) fun t3 boxhere4 =>
  Option.bind (addD (D.int 1) t3) fun t6 =>
  Option.bind (powD (D.int 10) (D.int 12)) fun t8 =>
  Option.bind (subD t8 (D.int 200)) fun t10 =>
  Option.bind (powD (D.int 10) (D.int 6)) fun t12 =>
  bd2 (m_law_take boxhere4 t12) fun t14 boxhere15 =>
  Option.bind (subD t10 t14) fun t17 =>
  Option.bind (mkLst [(D.int 0), (D.int 0), (D.int 0), t17]) fun t19 =>
  bd2 (m_law_of boxhere15 t19) fun t21 boxhere22 =>
  Option.bind (mkTup [t6, t21]) fun r24 =>
  bd2 (un2 r24) fun count26 far27 =>
  Option.bind (addD count26 (D.int 2)) fun t29 =>
  Option.bind (mulI (D.int 2) count26) fun t31 =>
  Option.bind (addD t31 (D.int 2)) fun t33 =>
  Option.bind (mkLst [(D.int 2), t29, t33]) fun t35 =>
  bd2 (m_law_of boxhere22 t35) fun wide37 boxhere38 =>
  Option.bind (rng1 [.val (D.int 2)]) fun ds40 =>
  bd2 (cmpS (fun d42 => fun boxhere43 => Option.bind (addD count26 (D.int 2)) fun t44 =>
  bd2 (m_law_take boxhere43 t44) fun t46 boxhere47 =>
  bd2 (m_law_take boxhere47 (D.int 2)) fun t49 boxhere50 =>
  Option.bind (mulI t46 t49) fun t52 =>
  Option.bind (addD far27 t52) fun t54 =>
  some ([t54], boxhere50)) ds40 boxhere38) fun depths57 boxhere58 =>
  Option.bind (rng1 [.val count26]) fun ds60 =>
  bd2 (cmpS (fun d62 => fun boxhere63 => bd2 (m_law_take boxhere63 wide37) fun t64 boxhere65 =>
  Option.bind (addD far27 t64) fun t67 =>
  some ([t67], boxhere65)) ds60 boxhere58) fun draughts70 boxhere71 =>
  bd2 (m_law_take boxhere71 (D.int 4)) fun t73 boxhere74 =>
  Option.bind (eqD t73 (D.int 0)) fun t76 =>
  Option.bind (asB t76) fun c78 =>
  bd2 (if c78 = true then (Option.bind (rng1 [.val count26]) fun ds103 =>
  bd2 (cmpS (fun d105 => fun boxhere106 => bd2 (m_law_take boxhere106 (D.int 2)) fun t107 boxhere108 =>
  Option.bind (eqD t107 (D.int 0)) fun t110 =>
  Option.bind (asB t110) fun c112 =>
  Option.bind (if c112 = true then (Option.bind (ixD (D.lst draughts70) d105) fun t114 =>
  some t114) else (Option.bind (ixD (D.lst draughts70) (D.int 0)) fun t116 =>
  some t116)) fun t118 =>
  some ([t118], boxhere108)) ds103 boxhere74) fun draughts121 boxhere122 =>
  some (boxhere122, (D.lst draughts121))) else (some (boxhere74, (D.lst draughts70)))) fun boxhere101 draughts102 =>
  Option.bind (ixD (D.lst depths57) (D.int 0)) fun t125 =>
  Option.bind (ixD (D.lst depths57) (D.int 1)) fun t127 =>
  Option.bind (tupF [draughts102]) fun t129 =>
  Option.bind (mkTup [t125, t127, t129]) fun r131 =>
  some (r131, boxhere101)
theorem ms_law_sea {boxhere1 : D} {most2 : D} {r : D × D} (h : m_law_sea boxhere1 most2 = some r) : f_law_sea [.p boxhere1, .v most2] = some (r.1, [.p (r.2), .v most2]) := by
  unfold m_law_sea at h
  refine mkFn_of (P := [.p boxhere1, .v most2, .x, .x, .x, .x, .x, .x, .x]) rfl ⟨rfl, rfl, trivial, trivial, trivial, trivial, trivial, trivial, trivial, trivial⟩ ?_
  unfold b_law_sea
  obtain ⟨t3, boxhere4, e5, h⟩ := bd2_e h
  obtain ⟨t6, e7, h⟩ := bd h
  obtain ⟨t8, e9, h⟩ := bd h
  obtain ⟨t10, e11, h⟩ := bd h
  obtain ⟨t12, e13, h⟩ := bd h
  obtain ⟨t14, boxhere15, e16, h⟩ := bd2_e h
  obtain ⟨t17, e18, h⟩ := bd h
  obtain ⟨t19, e20, h⟩ := bd h
  obtain ⟨t21, boxhere22, e23, h⟩ := bd2_e h
  obtain ⟨r24, e25, h⟩ := bd h
  obtain ⟨count26, far27, e28, h⟩ := bd2_e h
  refine WS.seq (P1 := [.p boxhere22, .v most2, .v count26, .v far27, .x, .x, .x, .x, .x]) (WS.asg (XE.callV (XA.cons (XE.op2 XE.cst (XE.call (XA.sl rfl (XA.cons (XE.var rfl) XA.nil)) (show ([0] : List Nat).Nodup by decide) rfl (ms_law_take e5) rfl) e7) (XA.cons (XE.call (XA.sl rfl (XA.cons (XE.callV (XA.cons XE.cst (XA.cons XE.cst (XA.cons XE.cst (XA.cons (XE.op2 (XE.op2 (XE.op2 XE.cst XE.cst e9) XE.cst e11) (XE.call (XA.sl rfl (XA.cons (XE.op2 XE.cst XE.cst e13) XA.nil)) (show ([0] : List Nat).Nodup by decide) rfl (ms_law_take e16) rfl) e18) XA.nil)))) rfl e20) XA.nil)) (show ([0] : List Nat).Nodup by decide) rfl (ms_law_of e23) rfl) XA.nil)) rfl e25) (XG.t (XGs.cons (XG.v rfl) (XGs.cons (XG.v rfl) XGs.nil)) (un2_e e28))) ?_
  obtain ⟨t29, e30, h⟩ := bd h
  obtain ⟨t31, e32, h⟩ := bd h
  obtain ⟨t33, e34, h⟩ := bd h
  obtain ⟨t35, e36, h⟩ := bd h
  obtain ⟨wide37, boxhere38, e39, h⟩ := bd2_e h
  refine WS.seq (P1 := [.p boxhere38, .v most2, .v count26, .v far27, .v wide37, .x, .x, .x, .x]) (WS.set (XE.call (XA.sl rfl (XA.cons (XE.callV (XA.cons XE.cst (XA.cons (XE.op2 (XE.var rfl) XE.cst e30) (XA.cons (XE.op2 (XE.op2 XE.cst (XE.var rfl) e32) XE.cst e34) XA.nil))) rfl e36) XA.nil)) (show ([0] : List Nat).Nodup by decide) rfl (ms_law_of e39) rfl) rfl) ?_
  obtain ⟨ds40, e41, h⟩ := bd h
  obtain ⟨depths57, boxhere58, e59, h⟩ := bd2_e h
  refine WS.seq (P1 := [.p boxhere58, .v most2, .v count26, .v far27, .v wide37, .v (D.lst depths57), .x, .x, .x]) (WS.set (XE.compS (P2 := [.p boxhere58, .v most2, .v count26, .v far27, .v wide37, .x, .x, .x, .x]) (Pw := [.p boxhere38, .v most2, .v count26, .v far27, .v wide37, .x, .x, .x, .x]) (t0 := boxhere38) (t1 := boxhere58) (XI.arg (XA.cons XE.cst XA.nil) e41) rfl (fun s : D => [.p (s), .v most2, .v count26, .v far27, .v wide37, .x, .x, .x, .x]) ⟨rfl, rfl, rfl, rfl, rfl, trivial, trivial, trivial, trivial, trivial⟩ e59 (by rintro d42 boxhere43 z boxhere56 h; show XC [.p boxhere43, .v most2, .v count26, .v far27, .v wide37, .x, .x, .x, .x] _ _ _ _ _ _ [.p boxhere56, .v most2, .v count26, .v far27, .v wide37, .x, .x, .x, .x]; obtain ⟨t44, e45, h⟩ := bd h; obtain ⟨t46, boxhere47, e48, h⟩ := bd2_e h; obtain ⟨t49, boxhere50, e51, h⟩ := bd2_e h; obtain ⟨t52, e53, h⟩ := bd h; obtain ⟨t54, e55, h⟩ := bd h; obtain ⟨qa0, qb0⟩ := Prod.mk.inj (Option.some.inj h); subst qa0; subst qb0; exact XC.one (XG.v rfl) XT.tt (XE.op2 (XE.var rfl) (XE.op2 (XE.call (XA.sl rfl (XA.cons (XE.op2 (XE.var rfl) XE.cst e45) XA.nil)) (show ([0] : List Nat).Nodup by decide) rfl (ms_law_take e48) rfl) (XE.call (XA.sl rfl (XA.cons XE.cst XA.nil)) (show ([0] : List Nat).Nodup by decide) rfl (ms_law_take e51) rfl) e53) e55) rfl ⟨rfl, rfl, rfl, rfl, rfl, trivial, trivial, trivial, trivial, trivial⟩) rfl) rfl) ?_
  obtain ⟨ds60, e61, h⟩ := bd h
  obtain ⟨draughts70, boxhere71, e72, h⟩ := bd2_e h
  refine WS.seq (P1 := [.p boxhere71, .v most2, .v count26, .v far27, .v wide37, .v (D.lst depths57), .v (D.lst draughts70), .x, .x]) (WS.set (XE.compS (P2 := [.p boxhere71, .v most2, .v count26, .v far27, .v wide37, .v (D.lst depths57), .x, .x, .x]) (Pw := [.p boxhere58, .v most2, .v count26, .v far27, .v wide37, .v (D.lst depths57), .x, .x, .x]) (t0 := boxhere58) (t1 := boxhere71) (XI.arg (XA.cons (XE.var rfl) XA.nil) e61) rfl (fun s : D => [.p (s), .v most2, .v count26, .v far27, .v wide37, .v (D.lst depths57), .x, .x, .x]) ⟨rfl, rfl, rfl, rfl, rfl, rfl, trivial, trivial, trivial, trivial⟩ e72 (by rintro d62 boxhere63 z boxhere69 h; show XC [.p boxhere63, .v most2, .v count26, .v far27, .v wide37, .v (D.lst depths57), .x, .x, .x] _ _ _ _ _ _ [.p boxhere69, .v most2, .v count26, .v far27, .v wide37, .v (D.lst depths57), .x, .x, .x]; obtain ⟨t64, boxhere65, e66, h⟩ := bd2_e h; obtain ⟨t67, e68, h⟩ := bd h; obtain ⟨qa0, qb0⟩ := Prod.mk.inj (Option.some.inj h); subst qa0; subst qb0; exact XC.one (XG.v rfl) XT.tt (XE.op2 (XE.var rfl) (XE.call (XA.sl rfl (XA.cons (XE.var rfl) XA.nil)) (show ([0] : List Nat).Nodup by decide) rfl (ms_law_take e66) rfl) e68) rfl ⟨rfl, rfl, rfl, rfl, rfl, rfl, trivial, trivial, trivial, trivial⟩) rfl) rfl) ?_
  obtain ⟨t73, boxhere74, e75, h⟩ := bd2_e h
  obtain ⟨t76, e77, h⟩ := bd h
  obtain ⟨c78, e79, h⟩ := bd h
  obtain ⟨boxhere101, draughts102, e124, h⟩ := bd2_e h
  refine WS.seq (P1 := [.p boxhere101, .v most2, .v count26, .v far27, .v wide37, .v (D.lst depths57), .v draughts102, .x, .x]) (WS.if_ (XT.bb (XE.op2 (XE.call (XA.sl rfl (XA.cons XE.cst XA.nil)) (show ([0] : List Nat).Nodup by decide) rfl (ms_law_take e75) rfl) XE.cst e77) e79) (fun hc => ?_) (fun hc => ?_)) ?_
  · have h := e124
    clear e124
    rw [if_pos hc] at h
    obtain ⟨ds103, e104, h⟩ := bd h
    obtain ⟨draughts121, boxhere122, e123, h⟩ := bd2_e h
    refine WS.tail ?_
    refine WS.seq (P1 := [.p boxhere122, .v most2, .v count26, .v far27, .v wide37, .v (D.lst depths57), .v (D.lst draughts121), .x, .x]) (WS.set (XE.compS (P2 := [.p boxhere122, .v most2, .v count26, .v far27, .v wide37, .v (D.lst depths57), .v (D.lst draughts70), .x, .x]) (Pw := [.p boxhere74, .v most2, .v count26, .v far27, .v wide37, .v (D.lst depths57), .v (D.lst draughts70), .x, .x]) (t0 := boxhere74) (t1 := boxhere122) (XI.arg (XA.cons (XE.var rfl) XA.nil) e104) rfl (fun s : D => [.p (s), .v most2, .v count26, .v far27, .v wide37, .v (D.lst depths57), .v (D.lst draughts70), .x, .x]) ⟨rfl, rfl, rfl, rfl, rfl, rfl, rfl, trivial, trivial, trivial⟩ e123 (by rintro d105 boxhere106 z boxhere120 h; show XC [.p boxhere106, .v most2, .v count26, .v far27, .v wide37, .v (D.lst depths57), .v (D.lst draughts70), .x, .x] _ _ _ _ _ _ [.p boxhere120, .v most2, .v count26, .v far27, .v wide37, .v (D.lst depths57), .v (D.lst draughts70), .x, .x]; obtain ⟨t107, boxhere108, e109, h⟩ := bd2_e h; obtain ⟨t110, e111, h⟩ := bd h; obtain ⟨c112, e113, h⟩ := bd h; obtain ⟨t118, e119, h⟩ := bd h; obtain ⟨qa0, qb0⟩ := Prod.mk.inj (Option.some.inj h); subst qa0; subst qb0; exact XC.one (XG.v rfl) XT.tt (show XE [.p boxhere106, .v most2, .v count26, .v far27, .v wide37, .v (D.lst depths57), .v (D.lst draughts70), .x, .v d105] (eIf (tB (eOp2 eqD (eCall f_law_take (aSl 0 (aCons (eC (.int 2)) aNil))) (eC (.int 0)))) (eOp2 ixD (eVar 6) (eVar 8)) (eOp2 ixD (eVar 6) (eC (.int 0)))) t118 [.p boxhere108, .v most2, .v count26, .v far27, .v wide37, .v (D.lst depths57), .v (D.lst draughts70), .x, .v d105] from (XE.if_ (XT.bb (XE.op2 (XE.call (XA.sl rfl (XA.cons XE.cst XA.nil)) (show ([0] : List Nat).Nodup by decide) rfl (ms_law_take e109) rfl) XE.cst e111) e113) (fun hc => by rw [if_pos hc] at e119; obtain ⟨t114, e115, e119⟩ := bd e119; have q := Option.some.inj e119; subst q; exact (XE.op2 (XE.var rfl) (XE.var rfl) e115)) (fun hc => by rw [if_neg (Bool.eq_false_iff.mp hc)] at e119; obtain ⟨t116, e117, e119⟩ := bd e119; have q := Option.some.inj e119; subst q; exact (XE.op2 (XE.var rfl) XE.cst e117)))) rfl ⟨rfl, rfl, rfl, rfl, rfl, rfl, rfl, trivial, trivial, trivial⟩) rfl) rfl) ?_
    refine WS.skip (fun ρ hρ => ?_)
    cases h
    exact ⟨ρ, rfl, hρ.wk ⟨rfl, rfl, rfl, rfl, rfl, rfl, rfl, trivial, trivial, trivial⟩⟩
  · have h := e124
    rw [if_neg (Bool.eq_false_iff.mp hc)] at h
    refine WS.skip (fun ρ hρ => ?_)
    cases h
    exact ⟨ρ, rfl, hρ.wk ⟨rfl, rfl, rfl, rfl, rfl, rfl, rfl, trivial, trivial, trivial⟩⟩
  obtain ⟨t125, e126, h⟩ := bd h
  obtain ⟨t127, e128, h⟩ := bd h
  obtain ⟨t129, e130, h⟩ := bd h
  obtain ⟨r131, e132, h⟩ := bd h
  refine WS.ret (XE.callV (XA.cons (XE.op2 (XE.var rfl) XE.cst e126) (XA.cons (XE.op2 (XE.var rfl) XE.cst e128) (XA.cons (XE.callV (XA.cons (XE.var rfl) XA.nil) rfl e130) XA.nil))) rfl e132) (fun ρ hρ => ?_)
  cases h; exact (by simp only [outF, DL.fin, hρ.getD (i := 0) rfl])
noncomputable def m_law_lot (boxhere1 : D) (count2 : D) : Option (D × D) :=
  Option.bind (mkLst [(D.int 1), (D.int 2), (D.int 2), (D.int 3), (D.int 4)]) fun t3 =>
  bd2 (m_law_of boxhere1 t3) fun odds5 boxhere6 =>
  bd2 (m_law_take boxhere6 (D.int 8)) fun t8 boxhere9 =>
  Option.bind (eqD t8 (D.int 0)) fun t11 =>
  Option.bind (asB t11) fun c13 =>
  if c13 = true then (bd2 (m_law_take boxhere9 (D.int 2)) fun t15 boxhere16 =>
  Option.bind (eqD t15 (D.int 0)) fun t18 =>
  Option.bind (asB t18) fun c20 =>
  Option.bind (if c20 = true then (Option.bind (trgF [count2]) fun t22 =>
  some t22) else (Option.bind (mkTup []) fun t24 =>
  some t24)) fun r26 =>
  some (r26, boxhere16)) else (Option.bind (rng1 [.val count2]) fun ds28 =>
  bd2 (cmpS (fun d30 => fun boxhere31 => bd2 (m_law_take boxhere31 odds5) fun t32 boxhere33 =>
  Option.bind (eqD t32 (D.int 0)) fun t35 =>
  Option.bind (asB t35) fun c37 =>
  if c37 = true then (some ([d30], boxhere33)) else some ([], boxhere33)) ds28 boxhere9) fun t40 boxhere41 =>
  Option.bind (tupF [(D.lst t40)]) fun r43 =>
  some (r43, boxhere41))
theorem ms_law_lot {boxhere1 : D} {count2 : D} {r : D × D} (h : m_law_lot boxhere1 count2 = some r) : f_law_lot [.p boxhere1, .v count2] = some (r.1, [.p (r.2), .v count2]) := by
  unfold m_law_lot at h
  refine mkFn_of (P := [.p boxhere1, .v count2, .x, .x]) rfl ⟨rfl, rfl, trivial, trivial, trivial⟩ ?_
  unfold b_law_lot
  obtain ⟨t3, e4, h⟩ := bd h
  obtain ⟨odds5, boxhere6, e7, h⟩ := bd2_e h
  refine WS.seq (P1 := [.p boxhere6, .v count2, .v odds5, .x]) (WS.set (XE.call (XA.sl rfl (XA.cons (XE.callV (XA.cons XE.cst (XA.cons XE.cst (XA.cons XE.cst (XA.cons XE.cst (XA.cons XE.cst XA.nil))))) rfl e4) XA.nil)) (show ([0] : List Nat).Nodup by decide) rfl (ms_law_of e7) rfl) rfl) ?_
  obtain ⟨t8, boxhere9, e10, h⟩ := bd2_e h
  obtain ⟨t11, e12, h⟩ := bd h
  obtain ⟨c13, e14, h⟩ := bd h
  refine WS.ifS (XT.bb (XE.op2 (XE.call (XA.sl rfl (XA.cons XE.cst XA.nil)) (show ([0] : List Nat).Nodup by decide) rfl (ms_law_take e10) rfl) XE.cst e12) e14) (fun hc => ?_) (fun hc => ?_)
  · rw [if_pos hc] at h
    obtain ⟨t15, boxhere16, e17, h⟩ := bd2_e h
    obtain ⟨t18, e19, h⟩ := bd h
    obtain ⟨c20, e21, h⟩ := bd h
    obtain ⟨r26, e27, h⟩ := bd h
    refine WS.retS (show XE [.p boxhere9, .v count2, .v odds5, .x] (eIf (tB (eOp2 eqD (eCall f_law_take (aSl 0 (aCons (eC (.int 2)) aNil))) (eC (.int 0)))) (eCallV trgF (aCons (eVar 1) aNil)) (eCallV mkTup aNil)) r26 [.p boxhere16, .v count2, .v odds5, .x] from (XE.if_ (XT.bb (XE.op2 (XE.call (XA.sl rfl (XA.cons XE.cst XA.nil)) (show ([0] : List Nat).Nodup by decide) rfl (ms_law_take e17) rfl) XE.cst e19) e21) (fun hc => by rw [if_pos hc] at e27; obtain ⟨t22, e23, e27⟩ := bd e27; have q := Option.some.inj e27; subst q; exact (XE.callV (XA.cons (XE.var rfl) XA.nil) rfl e23)) (fun hc => by rw [if_neg (Bool.eq_false_iff.mp hc)] at e27; obtain ⟨t24, e25, e27⟩ := bd e27; have q := Option.some.inj e27; subst q; exact (XE.callV XA.nil rfl e25)))) (fun ρ hρ => ?_)
    cases h; exact (by simp only [outF, DL.fin, hρ.getD (i := 0) rfl])
  · rw [if_neg (Bool.eq_false_iff.mp hc)] at h
    refine WS.skipS ?_
    obtain ⟨ds28, e29, h⟩ := bd h
    obtain ⟨t40, boxhere41, e42, h⟩ := bd2_e h
    obtain ⟨r43, e44, h⟩ := bd h
    refine WS.ret (XE.callV (XA.cons (XE.compS (P2 := [.p boxhere41, .v count2, .v odds5, .x]) (Pw := [.p boxhere9, .v count2, .v odds5, .x]) (t0 := boxhere9) (t1 := boxhere41) (XI.arg (XA.cons (XE.var rfl) XA.nil) e29) rfl (fun s : D => [.p (s), .v count2, .v odds5, .x]) ⟨rfl, rfl, rfl, trivial, trivial⟩ e42 (by rintro d30 boxhere31 z boxhere39 h; show XC [.p boxhere31, .v count2, .v odds5, .x] _ _ _ _ _ _ [.p boxhere39, .v count2, .v odds5, .x]; obtain ⟨t32, boxhere33, e34, h⟩ := bd2_e h; obtain ⟨t35, e36, h⟩ := bd h; obtain ⟨c37, e38, h⟩ := bd h; exact XC.if_ (XG.v rfl) (XT.bb (XE.op2 (XE.call (XA.sl rfl (XA.cons (XE.var rfl) XA.nil)) (show ([0] : List Nat).Nodup by decide) rfl (ms_law_take e34) rfl) XE.cst e36) e38) (fun hc => by rw [if_pos hc] at h; obtain ⟨qa0, qb0⟩ := Prod.mk.inj (Option.some.inj h); subst qa0; subst qb0; exact ⟨_, _, _, (XE.var rfl), rfl, ⟨rfl, rfl, rfl, trivial, trivial⟩, rfl⟩) (fun hc => by rw [if_neg (Bool.eq_false_iff.mp hc)] at h; obtain ⟨qa0, qb0⟩ := Prod.mk.inj (Option.some.inj h); subst qa0; subst qb0; exact ⟨_, rfl, ⟨rfl, rfl, rfl, trivial, trivial⟩, rfl⟩)) rfl) XA.nil) rfl e44) (fun ρ hρ => ?_)
    cases h; exact (by simp only [outF, DL.fin, hρ.getD (i := 0) rfl])
noncomputable def m_law_lists_n : Nat → D → Option (D)
  | 0, _ => none
  | n + 1, what1 =>
  Option.bind ((isiD2 "list" "tuple") what1) fun t2 =>
  Option.bind (asB t2) fun c4 =>
  Option.bind (if c4 = true then (Option.bind (unL what1) fun ds6 =>
  Option.bind (cmpP (fun d8 => Option.bind (m_law_lists_n n d8) fun t9 =>
  some [t9]) ds6) fun t11 =>
  some (D.lst t11)) else (some what1)) fun r13 =>
  some r13
noncomputable abbrev m_law_lists := m_law_lists_n 8
theorem ms_law_lists_n : ∀ {n : Nat} {what1 : D} {r : D}, m_law_lists_n n what1 = some r → f_law_lists_n n [.v what1] = some (r, [.v what1])
  | 0, _, _, h => by cases h
  | n + 1, what1, r, h => by
    have ih := fun {what1} {r} => @ms_law_lists_n n what1 r
    unfold m_law_lists_n at h
    unfold f_law_lists_n
    refine mkFn_of (P := [.v what1, .x]) rfl ⟨rfl, trivial, trivial⟩ ?_
    unfold b_law_lists
    obtain ⟨t2, e3, h⟩ := bd h
    obtain ⟨c4, e5, h⟩ := bd h
    obtain ⟨r13, e14, h⟩ := bd h
    refine WS.ret (show XE [.v what1, .x] (eIf (tB (eOp1 (isiD2 "list" "tuple") (eVar 0))) (eComp [1] (iSeq (eVar 0)) (gV 1) tTrue (eCall (f_law_lists_n n) (aCons (eVar 1) aNil))) (eVar 0)) r13 [.v what1, .x] from (XE.if_ (XT.bb (XE.op1 (XE.var rfl) e3) e5) (fun hc => by rw [if_pos hc] at e14; obtain ⟨ds6, e7, e14⟩ := bd e14; obtain ⟨t11, e12, e14⟩ := bd e14; have q := Option.some.inj e14; subst q; exact (XE.comp (P2 := [.v what1, .x]) (Pw := [.v what1, .x]) (XI.seq (XE.var rfl) e7) rfl e12 (by intro d8 z h; obtain ⟨t9, e10, h⟩ := bd h; cases h; exact XC.one (XG.v rfl) XT.tt (XE.call (XA.cons (XE.var rfl) XA.nil) (show ([] : List Nat).Nodup by decide) rfl (ih e10) rfl) rfl ⟨rfl, trivial, trivial⟩) rfl)) (fun hc => by rw [if_neg (Bool.eq_false_iff.mp hc)] at e14; have q := Option.some.inj e14; subst q; exact (XE.var rfl)))) (fun ρ hρ => ?_)
    cases h; exact rfl
theorem ms_law_lists {what1 : D} {r : D} (h : m_law_lists what1 = some r) : f_law_lists [.v what1] = some (r, [.v what1]) := ms_law_lists_n h
noncomputable def m_law_number_in (word1 : D) : Option (D) :=
  Option.bind (eqD word1 (D.str "")) fun t2 =>
  Option.bind (asB t2) fun c4 =>
  Option.bind (if c4 = true then (some true) else (Option.bind (lenF [word1]) fun t6 =>
  Option.bind (gtD t6 (D.int 13)) fun t8 =>
  Option.bind (asB t8) fun c10 =>
  Option.bind (if c10 = true then (some true) else (Option.bind (unS word1) fun ds12 =>
  Option.bind (cmpP (fun d14 => Option.bind ((inSD false) d14 (D.str "0123456789")) fun t15 =>
  some [t15]) ds12) fun t17 =>
  Option.bind (allF [(D.lst t17)]) fun t19 =>
  Option.bind (asB t19) fun c21 =>
  some (!c21))) fun c23 =>
  some c23)) fun c25 =>
  if c25 = true then (some D.non) else (Option.bind (ixD word1 (D.int 0)) fun t27 =>
  Option.bind (eqD t27 (D.str "0")) fun t29 =>
  Option.bind (asB t29) fun c31 =>
  Option.bind (if c31 = true then (Option.bind (neD word1 (D.str "0")) fun t33 =>
  Option.bind (asB t33) fun c35 =>
  some c35) else (some false)) fun c37 =>
  if c37 = true then (some D.non) else (Option.bind (intTF [word1]) fun r39 =>
  some r39))
theorem ms_law_number_in {word1 : D} {r : D} (h : m_law_number_in word1 = some r) : f_law_number_in [.v word1] = some (r, [.v word1]) := by
  unfold m_law_number_in at h
  refine mkFn_of (P := [.v word1, .x]) rfl ⟨rfl, trivial, trivial⟩ ?_
  unfold b_law_number_in
  obtain ⟨t2, e3, h⟩ := bd h
  obtain ⟨c4, e5, h⟩ := bd h
  obtain ⟨c25, e26, h⟩ := bd h
  refine WS.ifS (show XT [.v word1, .x] (tOr (tB (eOp2 eqD (eVar 0) (eC (.str "")))) (tOr (tB (eOp2 gtD (eCallV lenF (aCons (eVar 0) aNil)) (eC (.int 13)))) (tNot (tB (eCallV allF (aCons (eComp [1] (iSign (eVar 0)) (gV 1) tTrue (eOp2 (inSD false) (eVar 1) (eC (.str "0123456789")))) aNil)))))) c25 [.v word1, .x] from (XT.or_ (XT.bb (XE.op2 (XE.var rfl) XE.cst e3) e5) (fun hc => by rw [if_pos hc] at e26; have q := Option.some.inj e26; subst q; exact ⟨rfl, rfl⟩) (fun hc => by rw [if_neg (Bool.eq_false_iff.mp hc)] at e26; obtain ⟨t6, e7, e26⟩ := bd e26; obtain ⟨t8, e9, e26⟩ := bd e26; obtain ⟨c10, e11, e26⟩ := bd e26; obtain ⟨c23, e24, e26⟩ := bd e26; have q := Option.some.inj e26; subst q; exact (show XT [.v word1, .x] (tOr (tB (eOp2 gtD (eCallV lenF (aCons (eVar 0) aNil)) (eC (.int 13)))) (tNot (tB (eCallV allF (aCons (eComp [1] (iSign (eVar 0)) (gV 1) tTrue (eOp2 (inSD false) (eVar 1) (eC (.str "0123456789")))) aNil))))) c23 [.v word1, .x] from (XT.or_ (XT.bb (XE.op2 (XE.callV (XA.cons (XE.var rfl) XA.nil) rfl e7) XE.cst e9) e11) (fun hc => by rw [if_pos hc] at e24; have q := Option.some.inj e24; subst q; exact ⟨rfl, rfl⟩) (fun hc => by rw [if_neg (Bool.eq_false_iff.mp hc)] at e24; obtain ⟨ds12, e13, e24⟩ := bd e24; obtain ⟨t17, e18, e24⟩ := bd e24; obtain ⟨t19, e20, e24⟩ := bd e24; obtain ⟨c21, e22, e24⟩ := bd e24; have q := Option.some.inj e24; subst q; exact (XT.not (XT.bb (XE.callV (XA.cons (XE.comp (P2 := [.v word1, .x]) (Pw := [.v word1, .x]) (XI.sign (XE.var rfl) e13) rfl e18 (by intro d14 z h; obtain ⟨t15, e16, h⟩ := bd h; cases h; exact XC.one (XG.v rfl) XT.tt (XE.op2 (XE.var rfl) XE.cst e16) rfl ⟨rfl, trivial, trivial⟩) rfl) XA.nil) rfl e20) e22)))))))) (fun hc => ?_) (fun hc => ?_)
  · rw [if_pos hc] at h
    refine WS.retS XE.cst (fun ρ hρ => ?_)
    cases h; exact rfl
  · rw [if_neg (Bool.eq_false_iff.mp hc)] at h
    refine WS.skipS ?_
    obtain ⟨t27, e28, h⟩ := bd h
    obtain ⟨t29, e30, h⟩ := bd h
    obtain ⟨c31, e32, h⟩ := bd h
    obtain ⟨c37, e38, h⟩ := bd h
    refine WS.ifS (show XT [.v word1, .x] (tAnd (tB (eOp2 eqD (eOp2 ixD (eVar 0) (eC (.int 0))) (eC (.str "0")))) (tB (eOp2 neD (eVar 0) (eC (.str "0"))))) c37 [.v word1, .x] from (XT.and_ (XT.bb (XE.op2 (XE.op2 (XE.var rfl) XE.cst e28) XE.cst e30) e32) (fun hc => by rw [if_pos hc] at e38; obtain ⟨t33, e34, e38⟩ := bd e38; obtain ⟨c35, e36, e38⟩ := bd e38; have q := Option.some.inj e38; subst q; exact (XT.bb (XE.op2 (XE.var rfl) XE.cst e34) e36)) (fun hc => by rw [if_neg (Bool.eq_false_iff.mp hc)] at e38; have q := Option.some.inj e38; subst q; exact ⟨rfl, rfl⟩))) (fun hc => ?_) (fun hc => ?_)
    · rw [if_pos hc] at h
      refine WS.retS XE.cst (fun ρ hρ => ?_)
      cases h; exact rfl
    · rw [if_neg (Bool.eq_false_iff.mp hc)] at h
      refine WS.skipS ?_
      obtain ⟨r39, e40, h⟩ := bd h
      refine WS.ret (XE.callV (XA.cons (XE.var rfl) XA.nil) rfl e40) (fun ρ hρ => ?_)
      cases h; exact rfl
noncomputable def m_law_ships_in (wordshere1 : D) (count2 : D) : Option (D) :=
  Option.bind (unL wordshere1) fun ds3 =>
  Option.bind (cmpP (fun d5 => Option.bind (m_law_number_in d5) fun t6 =>
  some [t6]) ds3) fun found8 =>
  Option.bind ((inD false) D.non (D.lst found8)) fun t10 =>
  Option.bind (asB t10) fun c12 =>
  Option.bind (if c12 = true then (some true) else (Option.bind (sosF [(D.lst found8)]) fun t14 =>
  Option.bind (neD (D.lst found8) t14) fun t16 =>
  Option.bind (asB t16) fun c18 =>
  Option.bind (if c18 = true then (some true) else (Option.bind (unL (D.lst found8)) fun ds20 =>
  Option.bind (cmpP (fun d22 => Option.bind (geD d22 count2) fun t23 =>
  some [t23]) ds20) fun t25 =>
  Option.bind (anyF [(D.lst t25)]) fun t27 =>
  Option.bind (asB t27) fun c29 =>
  some c29)) fun c31 =>
  some c31)) fun c33 =>
  if c33 = true then (some D.non) else (Option.bind (tupF [(D.lst found8)]) fun r35 =>
  some r35)
theorem ms_law_ships_in {wordshere1 : D} {count2 : D} {r : D} (h : m_law_ships_in wordshere1 count2 = some r) : f_law_ships_in [.v wordshere1, .v count2] = some (r, [.v wordshere1, .v count2]) := by
  unfold m_law_ships_in at h
  refine mkFn_of (P := [.v wordshere1, .v count2, .x, .x, .x]) rfl ⟨rfl, rfl, trivial, trivial, trivial, trivial⟩ ?_
  unfold b_law_ships_in
  obtain ⟨ds3, e4, h⟩ := bd h
  obtain ⟨found8, e9, h⟩ := bd h
  refine WS.seq (P1 := [.v wordshere1, .v count2, .v (D.lst found8), .x, .x]) (WS.set (XE.comp (P2 := [.v wordshere1, .v count2, .x, .x, .x]) (Pw := [.v wordshere1, .v count2, .x, .x, .x]) (XI.seq (XE.var rfl) e4) rfl e9 (by intro d5 z h; obtain ⟨t6, e7, h⟩ := bd h; cases h; exact XC.one (XG.v rfl) XT.tt (XE.call (XA.cons (XE.var rfl) XA.nil) (show ([] : List Nat).Nodup by decide) rfl (ms_law_number_in e7) rfl) rfl ⟨rfl, rfl, trivial, trivial, trivial, trivial⟩) rfl) rfl) ?_
  obtain ⟨t10, e11, h⟩ := bd h
  obtain ⟨c12, e13, h⟩ := bd h
  obtain ⟨c33, e34, h⟩ := bd h
  refine WS.ifS (show XT [.v wordshere1, .v count2, .v (D.lst found8), .x, .x] (tOr (tB (eOp2 (inD false) (eC .non) (eVar 2))) (tOr (tB (eOp2 neD (eVar 2) (eCallV sosF (aCons (eVar 2) aNil)))) (tB (eCallV anyF (aCons (eComp [4] (iSeq (eVar 2)) (gV 4) tTrue (eOp2 geD (eVar 4) (eVar 1))) aNil))))) c33 [.v wordshere1, .v count2, .v (D.lst found8), .x, .x] from (XT.or_ (XT.bb (XE.op2 XE.cst (XE.var rfl) e11) e13) (fun hc => by rw [if_pos hc] at e34; have q := Option.some.inj e34; subst q; exact ⟨rfl, rfl⟩) (fun hc => by rw [if_neg (Bool.eq_false_iff.mp hc)] at e34; obtain ⟨t14, e15, e34⟩ := bd e34; obtain ⟨t16, e17, e34⟩ := bd e34; obtain ⟨c18, e19, e34⟩ := bd e34; obtain ⟨c31, e32, e34⟩ := bd e34; have q := Option.some.inj e34; subst q; exact (show XT [.v wordshere1, .v count2, .v (D.lst found8), .x, .x] (tOr (tB (eOp2 neD (eVar 2) (eCallV sosF (aCons (eVar 2) aNil)))) (tB (eCallV anyF (aCons (eComp [4] (iSeq (eVar 2)) (gV 4) tTrue (eOp2 geD (eVar 4) (eVar 1))) aNil)))) c31 [.v wordshere1, .v count2, .v (D.lst found8), .x, .x] from (XT.or_ (XT.bb (XE.op2 (XE.var rfl) (XE.callV (XA.cons (XE.var rfl) XA.nil) rfl e15) e17) e19) (fun hc => by rw [if_pos hc] at e32; have q := Option.some.inj e32; subst q; exact ⟨rfl, rfl⟩) (fun hc => by rw [if_neg (Bool.eq_false_iff.mp hc)] at e32; obtain ⟨ds20, e21, e32⟩ := bd e32; obtain ⟨t25, e26, e32⟩ := bd e32; obtain ⟨t27, e28, e32⟩ := bd e32; obtain ⟨c29, e30, e32⟩ := bd e32; have q := Option.some.inj e32; subst q; exact (XT.bb (XE.callV (XA.cons (XE.comp (P2 := [.v wordshere1, .v count2, .v (D.lst found8), .x, .x]) (Pw := [.v wordshere1, .v count2, .v (D.lst found8), .x, .x]) (XI.seq (XE.var rfl) e21) rfl e26 (by intro d22 z h; obtain ⟨t23, e24, h⟩ := bd h; cases h; exact XC.one (XG.v rfl) XT.tt (XE.op2 (XE.var rfl) (XE.var rfl) e24) rfl ⟨rfl, rfl, rfl, trivial, trivial, trivial⟩) rfl) XA.nil) rfl e28) e30))))))) (fun hc => ?_) (fun hc => ?_)
  · rw [if_pos hc] at h
    refine WS.retS XE.cst (fun ρ hρ => ?_)
    cases h; exact rfl
  · rw [if_neg (Bool.eq_false_iff.mp hc)] at h
    refine WS.skipS ?_
    obtain ⟨r35, e36, h⟩ := bd h
    refine WS.ret (XE.callV (XA.cons (XE.var rfl) XA.nil) rfl e36) (fun ρ hρ => ?_)
    cases h; exact rfl
noncomputable def m_law_bent_text (boxhere1 : D) (given2 : D) : Option (D × D) :=
  bd2 (m_law_take boxhere1 (D.int 7)) fun t3 boxhere4 =>
  Option.bind (lenF [given2]) fun t6 =>
  Option.bind (addD t6 (D.int 1)) fun t8 =>
  bd2 (m_law_take boxhere4 t8) fun t10 boxhere11 =>
  Option.bind (lenF [(D.str "0129-: ab+_.")]) fun t13 =>
  bd2 (m_law_take boxhere11 t13) fun t15 boxhere16 =>
  Option.bind (ixD (D.str "0129-: ab+_.") t15) fun sign18 =>
  Option.bind (ltD t3 (D.int 3)) fun t20 =>
  Option.bind (asB t20) fun c22 =>
  if c22 = true then (Option.bind (asI t10) fun i24 =>
  Option.bind (sliceS given2 none (some i24)) fun t26 =>
  Option.bind (mkLst [sign18, (D.str ""), sign18]) fun t28 =>
  Option.bind (ixD t28 t3) fun t30 =>
  Option.bind (addD t26 t30) fun t32 =>
  Option.bind (gtD t3 (D.int 0)) fun t34 =>
  Option.bind (intF [t34]) fun t36 =>
  Option.bind (addD t10 t36) fun t38 =>
  Option.bind (asI t38) fun i40 =>
  Option.bind (sliceS given2 (some i40) none) fun t42 =>
  Option.bind (addD t32 t42) fun r44 =>
  some (r44, boxhere16)) else (Option.bind (splitD given2 (D.str " ")) fun parts46 =>
  Option.bind (lenF [parts46]) fun t48 =>
  bd2 (m_law_take boxhere16 t48) fun spot50 boxhere51 =>
  Option.bind (eqD t3 (D.int 3)) fun t53 =>
  Option.bind (asB t53) fun c55 =>
  if c55 = true then (Option.bind (asI spot50) fun i57 =>
  Option.bind (sliceD parts46 none (some i57)) fun t59 =>
  Option.bind (addD spot50 (D.int 1)) fun t61 =>
  Option.bind (asI t61) fun i63 =>
  Option.bind (sliceD parts46 (some i63) none) fun t65 =>
  Option.bind (addD t59 t65) fun t67 =>
  Option.bind (joinD2 (D.str " ") t67) fun r69 =>
  some (r69, boxhere51)) else (Option.bind (eqD t3 (D.int 4)) fun t71 =>
  Option.bind (asB t71) fun c73 =>
  if c73 = true then (Option.bind (addD spot50 (D.int 1)) fun t75 =>
  Option.bind (asI t75) fun i77 =>
  Option.bind (sliceD parts46 none (some i77)) fun t79 =>
  Option.bind (asI spot50) fun i81 =>
  Option.bind (sliceD parts46 (some i81) none) fun t83 =>
  Option.bind (addD t79 t83) fun t85 =>
  Option.bind (joinD2 (D.str " ") t85) fun r87 =>
  some (r87, boxhere51)) else (Option.bind (eqD t3 (D.int 5)) fun t89 =>
  Option.bind (asB t89) fun c91 =>
  if c91 = true then (Option.bind (asI spot50) fun i93 =>
  Option.bind (addD spot50 (D.int 2)) fun t95 =>
  Option.bind (asI t95) fun i97 =>
  Option.bind (sliceD parts46 (some i93) (some i97)) fun both99 =>
  Option.bind (asI spot50) fun i101 =>
  Option.bind (sliceD parts46 none (some i101)) fun t103 =>
  Option.bind (revD both99) fun t105 =>
  Option.bind (addD t103 t105) fun t107 =>
  Option.bind (addD spot50 (D.int 2)) fun t109 =>
  Option.bind (asI t109) fun i111 =>
  Option.bind (sliceD parts46 (some i111) none) fun t113 =>
  Option.bind (addD t107 t113) fun t115 =>
  Option.bind (joinD2 (D.str " ") t115) fun r117 =>
  some (r117, boxhere51)) else (Option.bind (mkLst [(D.str ""), (D.str "-"), (D.str ":"), (D.str "00"), (D.str "1_0"), (D.str "+3"), (D.str "1000000000000"), (D.str "10000000000000"), (D.str "x"), (D.str "7")]) fun t119 =>
  bd2 (m_law_of boxhere51 t119) fun odd121 boxhere122 =>
  Option.bind (asI spot50) fun i124 =>
  Option.bind (sliceD parts46 none (some i124)) fun t126 =>
  Option.bind (mkLst [odd121]) fun t128 =>
  Option.bind (addD t126 t128) fun t130 =>
  Option.bind (addD spot50 (D.int 1)) fun t132 =>
  Option.bind (asI t132) fun i134 =>
  Option.bind (sliceD parts46 (some i134) none) fun t136 =>
  Option.bind (addD t130 t136) fun t138 =>
  Option.bind (joinD2 (D.str " ") t138) fun r140 =>
  some (r140, boxhere122)))))
theorem ms_law_bent_text {boxhere1 : D} {given2 : D} {r : D × D} (h : m_law_bent_text boxhere1 given2 = some r) : f_law_bent_text [.p boxhere1, .v given2] = some (r.1, [.p (r.2), .v given2]) := by
  unfold m_law_bent_text at h
  refine mkFn_of (P := [.p boxhere1, .v given2, .x, .x, .x, .x, .x, .x, .x, .x]) rfl ⟨rfl, rfl, trivial, trivial, trivial, trivial, trivial, trivial, trivial, trivial, trivial⟩ ?_
  unfold b_law_bent_text
  obtain ⟨t3, boxhere4, e5, h⟩ := bd2_e h
  obtain ⟨t6, e7, h⟩ := bd h
  obtain ⟨t8, e9, h⟩ := bd h
  obtain ⟨t10, boxhere11, e12, h⟩ := bd2_e h
  refine WS.seq (P1 := [.p boxhere11, .v given2, .v (D.str "0129-: ab+_."), .v t3, .v t10, .x, .x, .x, .x, .x]) (WS.par3 (XA.cons XE.cst (XA.cons (XE.call (XA.sl rfl (XA.cons XE.cst XA.nil)) (show ([0] : List Nat).Nodup by decide) rfl (ms_law_take e5) rfl) (XA.cons (XE.call (XA.sl rfl (XA.cons (XE.op2 (XE.callV (XA.cons (XE.var rfl) XA.nil) rfl e7) XE.cst e9) XA.nil)) (show ([0] : List Nat).Nodup by decide) rfl (ms_law_take e12) rfl) XA.nil))) rfl rfl rfl) ?_
  obtain ⟨t13, e14, h⟩ := bd h
  obtain ⟨t15, boxhere16, e17, h⟩ := bd2_e h
  obtain ⟨sign18, e19, h⟩ := bd h
  refine WS.seq (P1 := [.p boxhere16, .v given2, .v (D.str "0129-: ab+_."), .v t3, .v t10, .v sign18, .x, .x, .x, .x]) (WS.set (XE.op2 (XE.var rfl) (XE.call (XA.sl rfl (XA.cons (XE.callV (XA.cons (XE.var rfl) XA.nil) rfl e14) XA.nil)) (show ([0] : List Nat).Nodup by decide) rfl (ms_law_take e17) rfl) e19) rfl) ?_
  obtain ⟨t20, e21, h⟩ := bd h
  obtain ⟨c22, e23, h⟩ := bd h
  refine WS.ifS (XT.bb (XE.op2 (XE.var rfl) XE.cst e21) e23) (fun hc => ?_) (fun hc => ?_)
  · rw [if_pos hc] at h
    obtain ⟨i24, e25, h⟩ := bd h
    obtain ⟨t26, e27, h⟩ := bd h
    obtain ⟨t28, e29, h⟩ := bd h
    obtain ⟨t30, e31, h⟩ := bd h
    obtain ⟨t32, e33, h⟩ := bd h
    obtain ⟨t34, e35, h⟩ := bd h
    obtain ⟨t36, e37, h⟩ := bd h
    obtain ⟨t38, e39, h⟩ := bd h
    obtain ⟨i40, e41, h⟩ := bd h
    obtain ⟨t42, e43, h⟩ := bd h
    obtain ⟨r44, e45, h⟩ := bd h
    refine WS.retS (XE.op2 (XE.op2 (XE.sliceS (XE.var rfl) XO.no (XO.some (XE.var rfl) e25) e27) (XE.op2 (XE.callV (XA.cons (XE.var rfl) (XA.cons XE.cst (XA.cons (XE.var rfl) XA.nil))) rfl e29) (XE.var rfl) e31) e33) (XE.sliceS (XE.var rfl) (XO.some (XE.op2 (XE.var rfl) (XE.callV (XA.cons (XE.op2 (XE.var rfl) XE.cst e35) XA.nil) rfl e37) e39) e41) XO.no e43) e45) (fun ρ hρ => ?_)
    cases h; exact (by simp only [outF, DL.fin, hρ.getD (i := 0) rfl])
  · rw [if_neg (Bool.eq_false_iff.mp hc)] at h
    refine WS.skipS ?_
    obtain ⟨parts46, e47, h⟩ := bd h
    refine WS.seq (P1 := [.p boxhere16, .v given2, .v (D.str "0129-: ab+_."), .v t3, .v t10, .v sign18, .v parts46, .x, .x, .x]) (WS.set (XE.op2 (XE.var rfl) XE.cst e47) rfl) ?_
    obtain ⟨t48, e49, h⟩ := bd h
    obtain ⟨spot50, boxhere51, e52, h⟩ := bd2_e h
    refine WS.seq (P1 := [.p boxhere51, .v given2, .v (D.str "0129-: ab+_."), .v t3, .v t10, .v sign18, .v parts46, .v spot50, .x, .x]) (WS.set (XE.call (XA.sl rfl (XA.cons (XE.callV (XA.cons (XE.var rfl) XA.nil) rfl e49) XA.nil)) (show ([0] : List Nat).Nodup by decide) rfl (ms_law_take e52) rfl) rfl) ?_
    obtain ⟨t53, e54, h⟩ := bd h
    obtain ⟨c55, e56, h⟩ := bd h
    refine WS.ifS (XT.bb (XE.op2 (XE.var rfl) XE.cst e54) e56) (fun hc => ?_) (fun hc => ?_)
    · rw [if_pos hc] at h
      obtain ⟨i57, e58, h⟩ := bd h
      obtain ⟨t59, e60, h⟩ := bd h
      obtain ⟨t61, e62, h⟩ := bd h
      obtain ⟨i63, e64, h⟩ := bd h
      obtain ⟨t65, e66, h⟩ := bd h
      obtain ⟨t67, e68, h⟩ := bd h
      obtain ⟨r69, e70, h⟩ := bd h
      refine WS.retS (XE.op2 XE.cst (XE.op2 (XE.slice (XE.var rfl) XO.no (XO.some (XE.var rfl) e58) e60) (XE.slice (XE.var rfl) (XO.some (XE.op2 (XE.var rfl) XE.cst e62) e64) XO.no e66) e68) e70) (fun ρ hρ => ?_)
      cases h; exact (by simp only [outF, DL.fin, hρ.getD (i := 0) rfl])
    · rw [if_neg (Bool.eq_false_iff.mp hc)] at h
      refine WS.skipS ?_
      obtain ⟨t71, e72, h⟩ := bd h
      obtain ⟨c73, e74, h⟩ := bd h
      refine WS.ifS (XT.bb (XE.op2 (XE.var rfl) XE.cst e72) e74) (fun hc => ?_) (fun hc => ?_)
      · rw [if_pos hc] at h
        obtain ⟨t75, e76, h⟩ := bd h
        obtain ⟨i77, e78, h⟩ := bd h
        obtain ⟨t79, e80, h⟩ := bd h
        obtain ⟨i81, e82, h⟩ := bd h
        obtain ⟨t83, e84, h⟩ := bd h
        obtain ⟨t85, e86, h⟩ := bd h
        obtain ⟨r87, e88, h⟩ := bd h
        refine WS.retS (XE.op2 XE.cst (XE.op2 (XE.slice (XE.var rfl) XO.no (XO.some (XE.op2 (XE.var rfl) XE.cst e76) e78) e80) (XE.slice (XE.var rfl) (XO.some (XE.var rfl) e82) XO.no e84) e86) e88) (fun ρ hρ => ?_)
        cases h; exact (by simp only [outF, DL.fin, hρ.getD (i := 0) rfl])
      · rw [if_neg (Bool.eq_false_iff.mp hc)] at h
        refine WS.skipS ?_
        obtain ⟨t89, e90, h⟩ := bd h
        obtain ⟨c91, e92, h⟩ := bd h
        refine WS.ifS (XT.bb (XE.op2 (XE.var rfl) XE.cst e90) e92) (fun hc => ?_) (fun hc => ?_)
        · rw [if_pos hc] at h
          refine WS.assoc ?_
          obtain ⟨i93, e94, h⟩ := bd h
          obtain ⟨t95, e96, h⟩ := bd h
          obtain ⟨i97, e98, h⟩ := bd h
          obtain ⟨both99, e100, h⟩ := bd h
          refine WS.seq (P1 := [.p boxhere51, .v given2, .v (D.str "0129-: ab+_."), .v t3, .v t10, .v sign18, .v parts46, .v spot50, .v both99, .x]) (WS.set (XE.slice (XE.var rfl) (XO.some (XE.var rfl) e94) (XO.some (XE.op2 (XE.var rfl) XE.cst e96) e98) e100) rfl) ?_
          obtain ⟨i101, e102, h⟩ := bd h
          obtain ⟨t103, e104, h⟩ := bd h
          obtain ⟨t105, e106, h⟩ := bd h
          obtain ⟨t107, e108, h⟩ := bd h
          obtain ⟨t109, e110, h⟩ := bd h
          obtain ⟨i111, e112, h⟩ := bd h
          obtain ⟨t113, e114, h⟩ := bd h
          obtain ⟨t115, e116, h⟩ := bd h
          obtain ⟨r117, e118, h⟩ := bd h
          refine WS.retS (XE.op2 XE.cst (XE.op2 (XE.op2 (XE.slice (XE.var rfl) XO.no (XO.some (XE.var rfl) e102) e104) (XE.op1 (XE.var rfl) e106) e108) (XE.slice (XE.var rfl) (XO.some (XE.op2 (XE.var rfl) XE.cst e110) e112) XO.no e114) e116) e118) (fun ρ hρ => ?_)
          cases h; exact (by simp only [outF, DL.fin, hρ.getD (i := 0) rfl])
        · rw [if_neg (Bool.eq_false_iff.mp hc)] at h
          refine WS.skipS ?_
          obtain ⟨t119, e120, h⟩ := bd h
          obtain ⟨odd121, boxhere122, e123, h⟩ := bd2_e h
          refine WS.seq (P1 := [.p boxhere122, .v given2, .v (D.str "0129-: ab+_."), .v t3, .v t10, .v sign18, .v parts46, .v spot50, .x, .v odd121]) (WS.set (XE.call (XA.sl rfl (XA.cons (XE.callV (XA.cons XE.cst (XA.cons XE.cst (XA.cons XE.cst (XA.cons XE.cst (XA.cons XE.cst (XA.cons XE.cst (XA.cons XE.cst (XA.cons XE.cst (XA.cons XE.cst (XA.cons XE.cst XA.nil)))))))))) rfl e120) XA.nil)) (show ([0] : List Nat).Nodup by decide) rfl (ms_law_of e123) rfl) rfl) ?_
          obtain ⟨i124, e125, h⟩ := bd h
          obtain ⟨t126, e127, h⟩ := bd h
          obtain ⟨t128, e129, h⟩ := bd h
          obtain ⟨t130, e131, h⟩ := bd h
          obtain ⟨t132, e133, h⟩ := bd h
          obtain ⟨i134, e135, h⟩ := bd h
          obtain ⟨t136, e137, h⟩ := bd h
          obtain ⟨t138, e139, h⟩ := bd h
          obtain ⟨r140, e141, h⟩ := bd h
          refine WS.ret (XE.op2 XE.cst (XE.op2 (XE.op2 (XE.slice (XE.var rfl) XO.no (XO.some (XE.var rfl) e125) e127) (XE.callV (XA.cons (XE.var rfl) XA.nil) rfl e129) e131) (XE.slice (XE.var rfl) (XO.some (XE.op2 (XE.var rfl) XE.cst e133) e135) XO.no e137) e139) e141) (fun ρ hρ => ?_)
          cases h; exact (by simp only [outF, DL.fin, hρ.getD (i := 0) rfl])
noncomputable def m_law_read_sea (given1 : D) : Option (D) :=
  Option.bind (splitD given1 (D.str " ")) fun parts2 =>
  Option.bind (asI (D.int 2)) fun i4 =>
  Option.bind (sliceD parts2 none (some i4)) fun t6 =>
  Option.bind (asI (D.int 3)) fun i8 =>
  Option.bind (sliceD parts2 (some i8) none) fun t10 =>
  Option.bind (addD t6 t10) fun t12 =>
  Option.bind (unL t12) fun ds14 =>
  Option.bind (cmpP (fun d16 => Option.bind (m_law_number_in d16) fun t17 =>
  some [t17]) ds14) fun numbers19 =>
  Option.bind (lenF [parts2]) fun t21 =>
  Option.bind (ltD t21 (D.int 4)) fun t23 =>
  Option.bind (asB t23) fun c25 =>
  Option.bind (if c25 = true then (some true) else (Option.bind (ixD parts2 (D.int 2)) fun t27 =>
  Option.bind (neD t27 (D.str ":")) fun t29 =>
  Option.bind (asB t29) fun c31 =>
  Option.bind (if c31 = true then (some true) else (Option.bind ((inD false) D.non (D.lst numbers19)) fun t33 =>
  Option.bind (asB t33) fun c35 =>
  some c35)) fun c37 =>
  some c37)) fun c39 =>
  if c39 = true then (some D.non) else (Option.bind (ixD (D.lst numbers19) (D.int 0)) fun t41 =>
  Option.bind (ixD (D.lst numbers19) (D.int 1)) fun t43 =>
  Option.bind (asI (D.int 2)) fun i45 =>
  Option.bind (sliceD (D.lst numbers19) (some i45) none) fun t47 =>
  Option.bind (tupF [t47]) fun t49 =>
  Option.bind (mkTup [t41, t43, t49]) fun r51 =>
  some r51)
theorem ms_law_read_sea {given1 : D} {r : D} (h : m_law_read_sea given1 = some r) : f_law_read_sea [.v given1] = some (r, [.v given1]) := by
  unfold m_law_read_sea at h
  refine mkFn_of (P := [.v given1, .x, .x, .x]) rfl ⟨rfl, trivial, trivial, trivial, trivial⟩ ?_
  unfold b_law_read_sea
  obtain ⟨parts2, e3, h⟩ := bd h
  refine WS.seq (P1 := [.v given1, .v parts2, .x, .x]) (WS.set (XE.op2 (XE.var rfl) XE.cst e3) rfl) ?_
  obtain ⟨i4, e5, h⟩ := bd h
  obtain ⟨t6, e7, h⟩ := bd h
  obtain ⟨i8, e9, h⟩ := bd h
  obtain ⟨t10, e11, h⟩ := bd h
  obtain ⟨t12, e13, h⟩ := bd h
  obtain ⟨ds14, e15, h⟩ := bd h
  obtain ⟨numbers19, e20, h⟩ := bd h
  refine WS.seq (P1 := [.v given1, .v parts2, .v (D.lst numbers19), .x]) (WS.set (XE.comp (P2 := [.v given1, .v parts2, .x, .x]) (Pw := [.v given1, .v parts2, .x, .x]) (XI.seq (XE.op2 (XE.slice (XE.var rfl) XO.no (XO.some XE.cst e5) e7) (XE.slice (XE.var rfl) (XO.some XE.cst e9) XO.no e11) e13) e15) rfl e20 (by intro d16 z h; obtain ⟨t17, e18, h⟩ := bd h; cases h; exact XC.one (XG.v rfl) XT.tt (XE.call (XA.cons (XE.var rfl) XA.nil) (show ([] : List Nat).Nodup by decide) rfl (ms_law_number_in e18) rfl) rfl ⟨rfl, rfl, trivial, trivial, trivial⟩) rfl) rfl) ?_
  obtain ⟨t21, e22, h⟩ := bd h
  obtain ⟨t23, e24, h⟩ := bd h
  obtain ⟨c25, e26, h⟩ := bd h
  obtain ⟨c39, e40, h⟩ := bd h
  refine WS.ifS (show XT [.v given1, .v parts2, .v (D.lst numbers19), .x] (tOr (tB (eOp2 ltD (eCallV lenF (aCons (eVar 1) aNil)) (eC (.int 4)))) (tOr (tB (eOp2 neD (eOp2 ixD (eVar 1) (eC (.int 2))) (eC (.str ":")))) (tB (eOp2 (inD false) (eC .non) (eVar 2))))) c39 [.v given1, .v parts2, .v (D.lst numbers19), .x] from (XT.or_ (XT.bb (XE.op2 (XE.callV (XA.cons (XE.var rfl) XA.nil) rfl e22) XE.cst e24) e26) (fun hc => by rw [if_pos hc] at e40; have q := Option.some.inj e40; subst q; exact ⟨rfl, rfl⟩) (fun hc => by rw [if_neg (Bool.eq_false_iff.mp hc)] at e40; obtain ⟨t27, e28, e40⟩ := bd e40; obtain ⟨t29, e30, e40⟩ := bd e40; obtain ⟨c31, e32, e40⟩ := bd e40; obtain ⟨c37, e38, e40⟩ := bd e40; have q := Option.some.inj e40; subst q; exact (show XT [.v given1, .v parts2, .v (D.lst numbers19), .x] (tOr (tB (eOp2 neD (eOp2 ixD (eVar 1) (eC (.int 2))) (eC (.str ":")))) (tB (eOp2 (inD false) (eC .non) (eVar 2)))) c37 [.v given1, .v parts2, .v (D.lst numbers19), .x] from (XT.or_ (XT.bb (XE.op2 (XE.op2 (XE.var rfl) XE.cst e28) XE.cst e30) e32) (fun hc => by rw [if_pos hc] at e38; have q := Option.some.inj e38; subst q; exact ⟨rfl, rfl⟩) (fun hc => by rw [if_neg (Bool.eq_false_iff.mp hc)] at e38; obtain ⟨t33, e34, e38⟩ := bd e38; obtain ⟨c35, e36, e38⟩ := bd e38; have q := Option.some.inj e38; subst q; exact (XT.bb (XE.op2 XE.cst (XE.var rfl) e34) e36))))))) (fun hc => ?_) (fun hc => ?_)
  · rw [if_pos hc] at h
    refine WS.retS XE.cst (fun ρ hρ => ?_)
    cases h; exact rfl
  · rw [if_neg (Bool.eq_false_iff.mp hc)] at h
    refine WS.skipS ?_
    obtain ⟨t41, e42, h⟩ := bd h
    obtain ⟨t43, e44, h⟩ := bd h
    obtain ⟨i45, e46, h⟩ := bd h
    obtain ⟨t47, e48, h⟩ := bd h
    obtain ⟨t49, e50, h⟩ := bd h
    obtain ⟨r51, e52, h⟩ := bd h
    refine WS.ret (XE.callV (XA.cons (XE.op2 (XE.var rfl) XE.cst e42) (XA.cons (XE.op2 (XE.var rfl) XE.cst e44) (XA.cons (XE.callV (XA.cons (XE.slice (XE.var rfl) (XO.some XE.cst e46) XO.no e48) XA.nil) rfl e50) XA.nil))) rfl e52) (fun ρ hρ => ?_)
    cases h; exact rfl
noncomputable def m_law_read_lot (given1 : D) (count2 : D) : Option (D) :=
  Option.bind (eqD given1 (D.str "-")) fun t3 =>
  Option.bind (asB t3) fun c5 =>
  Option.bind (if c5 = true then (Option.bind (mkTup []) fun t7 =>
  some t7) else (Option.bind (splitD given1 (D.str " ")) fun t9 =>
  Option.bind (m_law_ships_in t9 count2) fun t11 =>
  some t11)) fun r13 =>
  some r13
theorem ms_law_read_lot {given1 : D} {count2 : D} {r : D} (h : m_law_read_lot given1 count2 = some r) : f_law_read_lot [.v given1, .v count2] = some (r, [.v given1, .v count2]) := by
  unfold m_law_read_lot at h
  refine mkFn_of (P := [.v given1, .v count2]) rfl ⟨rfl, rfl, trivial⟩ ?_
  unfold b_law_read_lot
  obtain ⟨t3, e4, h⟩ := bd h
  obtain ⟨c5, e6, h⟩ := bd h
  obtain ⟨r13, e14, h⟩ := bd h
  refine WS.ret (show XE [.v given1, .v count2] (eIf (tB (eOp2 eqD (eVar 0) (eC (.str "-")))) (eCallV mkTup aNil) (eCall f_law_ships_in (aCons (eOp2 splitD (eVar 0) (eC (.str " "))) (aCons (eVar 1) aNil)))) r13 [.v given1, .v count2] from (XE.if_ (XT.bb (XE.op2 (XE.var rfl) XE.cst e4) e6) (fun hc => by rw [if_pos hc] at e14; obtain ⟨t7, e8, e14⟩ := bd e14; have q := Option.some.inj e14; subst q; exact (XE.callV XA.nil rfl e8)) (fun hc => by rw [if_neg (Bool.eq_false_iff.mp hc)] at e14; obtain ⟨t9, e10, e14⟩ := bd e14; obtain ⟨t11, e12, e14⟩ := bd e14; have q := Option.some.inj e14; subst q; exact (XE.call (XA.cons (XE.op2 (XE.var rfl) XE.cst e10) (XA.cons (XE.var rfl) XA.nil)) (show ([] : List Nat).Nodup by decide) rfl (ms_law_ships_in e12) rfl)))) (fun ρ hρ => ?_)
  cases h; exact rfl
noncomputable def m_law_told (a0 a1 : D) : Option D := (f_law_told [.v a0, .v a1]).map (·.1)
theorem ms_law_told {a0 a1 : D} {r : D} (h : m_law_told a0 a1 = some r) : f_law_told [.v a0, .v a1] = some (r, [.v a0, .v a1]) := mkFn_opq (ds := [a0, a1]) h
noncomputable def m_law_right_1 (due57 : D) (duelot74 : D) (seahere27 : D) (count31 : D) : D → (D) → Option (Fl (D × D) (D)) := fun d120 => fun boxhere118 => bd2 (m_law_bent_text boxhere118 due57) fun bent121 boxhere122 =>
  Option.bind (m_law_told bent121 D.non) fun t124 =>
  Option.bind (m_law_read_sea bent121) fun t126 =>
  Option.bind (m_law_same t124 t126) fun t128 =>
  Option.bind (asB t128) fun c130 =>
  if (!c130) = true then (some (.rt ((D.bl false), boxhere122))) else (bd2 (m_law_bent_text boxhere122 duelot74) fun bent132 boxhere133 =>
  Option.bind (m_law_told bent132 seahere27) fun t135 =>
  Option.bind (m_law_read_lot bent132 count31) fun t137 =>
  Option.bind (m_law_same t135 t137) fun t139 =>
  Option.bind (asB t139) fun c141 =>
  if (!c141) = true then (some (.rt ((D.bl false), boxhere133))) else (some (.nx boxhere133)))
noncomputable def m_law_right_2 (where156 : D) (boxhere143 : D) : D → (Unit) → Option (Fl (D × D) (Unit)) := fun d170 => fun _ => Option.bind (m_law_told d170 where156) fun t171 =>
  Option.bind (isnotD t171 D.non) fun t173 =>
  Option.bind (asB t173) fun c175 =>
  if c175 = true then (some (.rt ((D.bl false), boxhere143))) else (some (.nx ()))
noncomputable def m_law_right_3 (boxhere143 : D) : D → (Unit) → Option (Fl (D × D) (Unit)) := fun d154 => fun _ => bd2 (un2 d154) fun given155 where156 =>
  Option.bind (addD given155 (D.str "\n")) fun t158 =>
  Option.bind (addD (D.str "\n") given155) fun t160 =>
  Option.bind ((repl1D " " "\n") given155) fun t162 =>
  Option.bind (addD t162 (D.str "\n")) fun t164 =>
  Option.bind (mkTup [t158, t160, t164, (D.str "\n")]) fun t166 =>
  Option.bind (unL t166) fun ds168 =>
  Option.bind (fldR (m_law_right_2 where156 boxhere143) ds168 ()) fun r177 =>
  flK r177 (fun x => some (.rt x)) (fun _ => some (.nx ()))
noncomputable def m_law_right (boxhere1 : D) : Option (D × D) :=
  bd2 (m_law_sea boxhere1 (D.int 24)) fun seahere2 boxhere3 =>
  Option.bind (ixD seahere2 (D.int 0)) fun t5 =>
  Option.bind (powD (D.int 10) (D.int 6)) fun t7 =>
  Option.bind (ltD t5 t7) fun t9 =>
  Option.bind (asB t9) fun c11 =>
  Option.bind (if c11 = true then (some seahere2) else (Option.bind (asI (D.int 2)) fun i13 =>
  Option.bind (sliceD seahere2 none (some i13)) fun t15 =>
  Option.bind (ixD seahere2 (D.int 2)) fun t17 =>
  Option.bind (asI (D.int 10)) fun i19 =>
  Option.bind (sliceD t17 none (some i19)) fun t21 =>
  Option.bind (mkTup [t21]) fun t23 =>
  Option.bind (addD t15 t23) fun t25 =>
  some t25)) fun seahere27 =>
  Option.bind (ixD seahere27 (D.int 2)) fun t29 =>
  Option.bind (lenF [t29]) fun count31 =>
  bd2 (m_law_lot boxhere3 count31) fun lothere33 boxhere34 =>
  Option.bind (ixD seahere27 (D.int 0)) fun t36 =>
  Option.bind (strF [t36]) fun t38 =>
  Option.bind (ixD seahere27 (D.int 1)) fun t40 =>
  Option.bind (strF [t40]) fun t42 =>
  Option.bind (mkLst [t38, t42, (D.str ":")]) fun t44 =>
  Option.bind (ixD seahere27 (D.int 2)) fun t46 =>
  Option.bind (unL t46) fun ds48 =>
  Option.bind (cmpP (fun d50 => Option.bind (strF [d50]) fun t51 =>
  some [t51]) ds48) fun t53 =>
  Option.bind (addD t44 (D.lst t53)) fun t55 =>
  Option.bind (joinD2 (D.str " ") t55) fun due57 =>
  Option.bind (mkTup []) fun t59 =>
  Option.bind (neD lothere33 t59) fun t61 =>
  Option.bind (asB t61) fun c63 =>
  Option.bind (if c63 = true then (Option.bind (unL lothere33) fun ds65 =>
  Option.bind (cmpP (fun d67 => Option.bind (strF [d67]) fun t68 =>
  some [t68]) ds65) fun t70 =>
  Option.bind (joinD2 (D.str " ") (D.lst t70)) fun t72 =>
  some t72) else (some (D.str "-"))) fun duelot74 =>
  Option.bind (m_sea_text seahere27) fun t76 =>
  Option.bind (m_law_lists seahere27) fun t78 =>
  Option.bind (m_sea_text t78) fun t80 =>
  Option.bind (mkLst [t76, t80]) fun t82 =>
  Option.bind (mkLst [due57, due57]) fun t84 =>
  Option.bind (m_law_same t82 t84) fun t86 =>
  Option.bind (asB t86) fun c88 =>
  if (!c88) = true then (some ((D.bl false), boxhere34)) else (Option.bind (m_standing_text lothere33) fun t90 =>
  Option.bind (listF [lothere33]) fun t92 =>
  Option.bind (m_standing_text t92) fun t94 =>
  Option.bind (mkLst [t90, t94]) fun t96 =>
  Option.bind (mkLst [duelot74, duelot74]) fun t98 =>
  Option.bind (m_law_same t96 t98) fun t100 =>
  Option.bind (asB t100) fun c102 =>
  if (!c102) = true then (some ((D.bl false), boxhere34)) else (Option.bind (m_sea_in due57) fun t104 =>
  Option.bind (m_standing_in seahere27 duelot74) fun t106 =>
  Option.bind (mkLst [t104, t106]) fun t108 =>
  Option.bind (mkLst [seahere27, lothere33]) fun t110 =>
  Option.bind (m_law_same t108 t110) fun t112 =>
  Option.bind (asB t112) fun c114 =>
  if (!c114) = true then (some ((D.bl false), boxhere34)) else (Option.bind (rng1 [.val (D.int 12)]) fun ds116 =>
  Option.bind (fldR (m_law_right_1 due57 duelot74 seahere27 count31) ds116 boxhere34) fun r144 =>
  flK r144 some (fun boxhere143 => Option.bind (mkTup [due57, D.non]) fun t146 =>
  Option.bind (mkTup [duelot74, seahere27]) fun t148 =>
  Option.bind (mkTup [t146, t148]) fun t150 =>
  Option.bind (unL t150) fun ds152 =>
  Option.bind (fldR (m_law_right_3 boxhere143) ds152 ()) fun r179 =>
  flK r179 some (fun _ => Option.bind (m_law_told (D.str "") D.non) fun t181 =>
  Option.bind (isD t181 D.non) fun t183 =>
  Option.bind (asB t183) fun c185 =>
  Option.bind (if c185 = true then (Option.bind (m_law_told (D.str "") seahere27) fun t187 =>
  Option.bind (isD t187 D.non) fun t189 =>
  some t189) else (some (D.bl false))) fun r191 =>
  some (r191, boxhere143))))))
theorem ms_law_right {boxhere1 : D} {r : D × D} (h : m_law_right boxhere1 = some r) : f_law_right [.p boxhere1] = some (r.1, [.p (r.2)]) := by
  unfold m_law_right at h
  refine mkFn_of (P := [.p boxhere1, .x, .x, .x, .x, .x, .x, .x, .x, .x, .x, .x]) rfl ⟨rfl, trivial, trivial, trivial, trivial, trivial, trivial, trivial, trivial, trivial, trivial, trivial, trivial⟩ ?_
  unfold b_law_right
  obtain ⟨seahere2, boxhere3, e4, h⟩ := bd2_e h
  refine WS.seq (P1 := [.p boxhere3, .v seahere2, .x, .x, .x, .x, .x, .x, .x, .x, .x, .x]) (WS.set (XE.call (XA.sl rfl (XA.cons XE.cst XA.nil)) (show ([0] : List Nat).Nodup by decide) rfl (ms_law_sea e4) rfl) rfl) ?_
  obtain ⟨t5, e6, h⟩ := bd h
  obtain ⟨t7, e8, h⟩ := bd h
  obtain ⟨t9, e10, h⟩ := bd h
  obtain ⟨c11, e12, h⟩ := bd h
  obtain ⟨seahere27, e28, h⟩ := bd h
  refine WS.seq (P1 := [.p boxhere3, .v seahere27, .x, .x, .x, .x, .x, .x, .x, .x, .x, .x]) (WS.set (show XE [.p boxhere3, .v seahere2, .x, .x, .x, .x, .x, .x, .x, .x, .x, .x] (eIf (tB (eOp2 ltD (eOp2 ixD (eVar 1) (eC (.int 0))) (eOp2 powD (eC (.int 10)) (eC (.int 6))))) (eVar 1) (eOp2 addD (eSlice (eVar 1) oNo (oSome (eC (.int 2)))) (eCallV mkTup (aCons (eSlice (eOp2 ixD (eVar 1) (eC (.int 2))) oNo (oSome (eC (.int 10)))) aNil)))) seahere27 [.p boxhere3, .v seahere2, .x, .x, .x, .x, .x, .x, .x, .x, .x, .x] from (XE.if_ (XT.bb (XE.op2 (XE.op2 (XE.var rfl) XE.cst e6) (XE.op2 XE.cst XE.cst e8) e10) e12) (fun hc => by rw [if_pos hc] at e28; have q := Option.some.inj e28; subst q; exact (XE.var rfl)) (fun hc => by rw [if_neg (Bool.eq_false_iff.mp hc)] at e28; obtain ⟨i13, e14, e28⟩ := bd e28; obtain ⟨t15, e16, e28⟩ := bd e28; obtain ⟨t17, e18, e28⟩ := bd e28; obtain ⟨i19, e20, e28⟩ := bd e28; obtain ⟨t21, e22, e28⟩ := bd e28; obtain ⟨t23, e24, e28⟩ := bd e28; obtain ⟨t25, e26, e28⟩ := bd e28; have q := Option.some.inj e28; subst q; exact (XE.op2 (XE.slice (XE.var rfl) XO.no (XO.some XE.cst e14) e16) (XE.callV (XA.cons (XE.slice (XE.op2 (XE.var rfl) XE.cst e18) XO.no (XO.some XE.cst e20) e22) XA.nil) rfl e24) e26)))) rfl) ?_
  obtain ⟨t29, e30, h⟩ := bd h
  obtain ⟨count31, e32, h⟩ := bd h
  refine WS.seq (P1 := [.p boxhere3, .v seahere27, .v count31, .x, .x, .x, .x, .x, .x, .x, .x, .x]) (WS.set (XE.callV (XA.cons (XE.op2 (XE.var rfl) XE.cst e30) XA.nil) rfl e32) rfl) ?_
  obtain ⟨lothere33, boxhere34, e35, h⟩ := bd2_e h
  refine WS.seq (P1 := [.p boxhere34, .v seahere27, .v count31, .v lothere33, .x, .x, .x, .x, .x, .x, .x, .x]) (WS.set (XE.call (XA.sl rfl (XA.cons (XE.var rfl) XA.nil)) (show ([0] : List Nat).Nodup by decide) rfl (ms_law_lot e35) rfl) rfl) ?_
  obtain ⟨t36, e37, h⟩ := bd h
  obtain ⟨t38, e39, h⟩ := bd h
  obtain ⟨t40, e41, h⟩ := bd h
  obtain ⟨t42, e43, h⟩ := bd h
  obtain ⟨t44, e45, h⟩ := bd h
  obtain ⟨t46, e47, h⟩ := bd h
  obtain ⟨ds48, e49, h⟩ := bd h
  obtain ⟨t53, e54, h⟩ := bd h
  obtain ⟨t55, e56, h⟩ := bd h
  obtain ⟨due57, e58, h⟩ := bd h
  refine WS.seq (P1 := [.p boxhere34, .v seahere27, .v count31, .v lothere33, .v due57, .x, .x, .x, .x, .x, .x, .x]) (WS.set (XE.op2 XE.cst (XE.op2 (XE.callV (XA.cons (XE.callV (XA.cons (XE.op2 (XE.var rfl) XE.cst e37) XA.nil) rfl e39) (XA.cons (XE.callV (XA.cons (XE.op2 (XE.var rfl) XE.cst e41) XA.nil) rfl e43) (XA.cons XE.cst XA.nil))) rfl e45) (XE.comp (P2 := [.p boxhere34, .v seahere27, .v count31, .v lothere33, .x, .x, .x, .x, .x, .x, .x, .x]) (Pw := [.p boxhere34, .v seahere27, .v count31, .v lothere33, .x, .x, .x, .x, .x, .x, .x, .x]) (XI.seq (XE.op2 (XE.var rfl) XE.cst e47) e49) rfl e54 (by intro d50 z h; obtain ⟨t51, e52, h⟩ := bd h; cases h; exact XC.one (XG.v rfl) XT.tt (XE.callV (XA.cons (XE.var rfl) XA.nil) rfl e52) rfl ⟨rfl, rfl, rfl, rfl, trivial, trivial, trivial, trivial, trivial, trivial, trivial, trivial, trivial⟩) rfl) e56) e58) rfl) ?_
  obtain ⟨t59, e60, h⟩ := bd h
  obtain ⟨t61, e62, h⟩ := bd h
  obtain ⟨c63, e64, h⟩ := bd h
  obtain ⟨duelot74, e75, h⟩ := bd h
  refine WS.seq (P1 := [.p boxhere34, .v seahere27, .v count31, .v lothere33, .v due57, .v duelot74, .x, .x, .x, .x, .x, .x]) (WS.set (show XE [.p boxhere34, .v seahere27, .v count31, .v lothere33, .v due57, .x, .x, .x, .x, .x, .x, .x] (eIf (tB (eOp2 neD (eVar 3) (eCallV mkTup aNil))) (eOp2 joinD2 (eC (.str " ")) (eComp [11] (iSeq (eVar 3)) (gV 11) tTrue (eCallV strF (aCons (eVar 11) aNil)))) (eC (.str "-"))) duelot74 [.p boxhere34, .v seahere27, .v count31, .v lothere33, .v due57, .x, .x, .x, .x, .x, .x, .x] from (XE.if_ (XT.bb (XE.op2 (XE.var rfl) (XE.callV XA.nil rfl e60) e62) e64) (fun hc => by rw [if_pos hc] at e75; obtain ⟨ds65, e66, e75⟩ := bd e75; obtain ⟨t70, e71, e75⟩ := bd e75; obtain ⟨t72, e73, e75⟩ := bd e75; have q := Option.some.inj e75; subst q; exact (XE.op2 XE.cst (XE.comp (P2 := [.p boxhere34, .v seahere27, .v count31, .v lothere33, .v due57, .x, .x, .x, .x, .x, .x, .x]) (Pw := [.p boxhere34, .v seahere27, .v count31, .v lothere33, .v due57, .x, .x, .x, .x, .x, .x, .x]) (XI.seq (XE.var rfl) e66) rfl e71 (by intro d67 z h; obtain ⟨t68, e69, h⟩ := bd h; cases h; exact XC.one (XG.v rfl) XT.tt (XE.callV (XA.cons (XE.var rfl) XA.nil) rfl e69) rfl ⟨rfl, rfl, rfl, rfl, rfl, trivial, trivial, trivial, trivial, trivial, trivial, trivial, trivial⟩) rfl) e73)) (fun hc => by rw [if_neg (Bool.eq_false_iff.mp hc)] at e75; have q := Option.some.inj e75; subst q; exact XE.cst))) rfl) ?_
  obtain ⟨t76, e77, h⟩ := bd h
  obtain ⟨t78, e79, h⟩ := bd h
  obtain ⟨t80, e81, h⟩ := bd h
  obtain ⟨t82, e83, h⟩ := bd h
  obtain ⟨t84, e85, h⟩ := bd h
  obtain ⟨t86, e87, h⟩ := bd h
  obtain ⟨c88, e89, h⟩ := bd h
  refine WS.ifS (XT.not (XT.bb (XE.call (XA.cons (XE.callV (XA.cons (XE.call (XA.cons (XE.var rfl) XA.nil) (show ([] : List Nat).Nodup by decide) rfl (ms_sea_text e77) rfl) (XA.cons (XE.callK (perm := [0]) (n := 0) (n' := 1) XA.nil (XA.cons (XE.call (XA.cons (XE.var rfl) XA.nil) (show ([] : List Nat).Nodup by decide) rfl (ms_law_lists e79) rfl) XA.nil) rfl rfl (show ([] : List Nat).Nodup by decide) rfl (ms_sea_text e81) rfl) XA.nil)) rfl e83) (XA.cons (XE.callV (XA.cons (XE.var rfl) (XA.cons (XE.var rfl) XA.nil)) rfl e85) XA.nil)) (show ([] : List Nat).Nodup by decide) rfl (ms_law_same e87) rfl) e89)) (fun hc => ?_) (fun hc => ?_)
  · rw [if_pos hc] at h
    refine WS.retS XE.cst (fun ρ hρ => ?_)
    cases h; exact (by simp only [outF, DL.fin, hρ.getD (i := 0) rfl])
  · rw [if_neg (Bool.eq_false_iff.mp hc)] at h
    refine WS.skipS ?_
    obtain ⟨t90, e91, h⟩ := bd h
    obtain ⟨t92, e93, h⟩ := bd h
    obtain ⟨t94, e95, h⟩ := bd h
    obtain ⟨t96, e97, h⟩ := bd h
    obtain ⟨t98, e99, h⟩ := bd h
    obtain ⟨t100, e101, h⟩ := bd h
    obtain ⟨c102, e103, h⟩ := bd h
    refine WS.ifS (XT.not (XT.bb (XE.call (XA.cons (XE.callV (XA.cons (XE.call (XA.cons (XE.var rfl) XA.nil) (show ([] : List Nat).Nodup by decide) rfl (ms_standing_text e91) rfl) (XA.cons (XE.callK (perm := [0]) (n := 0) (n' := 1) XA.nil (XA.cons (XE.callV (XA.cons (XE.var rfl) XA.nil) rfl e93) XA.nil) rfl rfl (show ([] : List Nat).Nodup by decide) rfl (ms_standing_text e95) rfl) XA.nil)) rfl e97) (XA.cons (XE.callV (XA.cons (XE.var rfl) (XA.cons (XE.var rfl) XA.nil)) rfl e99) XA.nil)) (show ([] : List Nat).Nodup by decide) rfl (ms_law_same e101) rfl) e103)) (fun hc => ?_) (fun hc => ?_)
    · rw [if_pos hc] at h
      refine WS.retS XE.cst (fun ρ hρ => ?_)
      cases h; exact (by simp only [outF, DL.fin, hρ.getD (i := 0) rfl])
    · rw [if_neg (Bool.eq_false_iff.mp hc)] at h
      refine WS.skipS ?_
      obtain ⟨t104, e105, h⟩ := bd h
      obtain ⟨t106, e107, h⟩ := bd h
      obtain ⟨t108, e109, h⟩ := bd h
      obtain ⟨t110, e111, h⟩ := bd h
      obtain ⟨t112, e113, h⟩ := bd h
      obtain ⟨c114, e115, h⟩ := bd h
      refine WS.ifS (XT.not (XT.bb (XE.call (XA.cons (XE.callV (XA.cons (XE.callK (perm := [0]) (n := 0) (n' := 1) XA.nil (XA.cons (XE.var rfl) XA.nil) rfl rfl (show ([] : List Nat).Nodup by decide) rfl (ms_sea_in e105) rfl) (XA.cons (XE.callK (perm := [1, 0]) (n := 0) (n' := 2) XA.nil (XA.cons (XE.var rfl) (XA.cons (XE.var rfl) XA.nil)) rfl rfl (show ([] : List Nat).Nodup by decide) rfl (ms_standing_in e107) rfl) XA.nil)) rfl e109) (XA.cons (XE.callV (XA.cons (XE.var rfl) (XA.cons (XE.var rfl) XA.nil)) rfl e111) XA.nil)) (show ([] : List Nat).Nodup by decide) rfl (ms_law_same e113) rfl) e115)) (fun hc => ?_) (fun hc => ?_)
      · rw [if_pos hc] at h
        refine WS.retS XE.cst (fun ρ hρ => ?_)
        cases h; exact (by simp only [outF, DL.fin, hρ.getD (i := 0) rfl])
      · rw [if_neg (Bool.eq_false_iff.mp hc)] at h
        refine WS.skipS ?_
        obtain ⟨ds116, e117, h⟩ := bd h
        obtain ⟨r144, e145, h⟩ := bd h
        have hw := WS.forR (P := [.p boxhere34, .v seahere27, .v count31, .v lothere33, .v due57, .v duelot74, .x, .x, .x, .x, .x, .x]) (it := (iArg rng1 (aCons (eC (.int 12)) aNil))) (g := (gV 6)) (b := b_law_right_1) (t0 := boxhere34) (XI.arg (XA.cons XE.cst XA.nil) e117) (fun s : D => [.p (s), .v seahere27, .v count31, .v lothere33, .v due57, .v duelot74, .x, .x, .x, .x, .x, .x]) (fun (x : D × D) o => outF [.p boxhere1] o = some (x.1, [.p (x.2)])) ⟨rfl, rfl, rfl, rfl, rfl, rfl, trivial, trivial, trivial, trivial, trivial, trivial, trivial⟩ e145 (by
          rintro d120 boxhere118 r h
          unfold m_law_right_1 at h
          show WB [.p boxhere118, .v seahere27, .v count31, .v lothere33, .v due57, .v duelot74, .x, .x, .x, .x, .x, .x] _ _ _ (LpR _ _ _)
          refine WB.mk (XG.v rfl) ?_
          unfold b_law_right_1
          obtain ⟨bent121, boxhere122, e123, h⟩ := bd2_e h
          refine WS.seq (P1 := [.p boxhere122, .v seahere27, .v count31, .v lothere33, .v due57, .v duelot74, .v d120, .v bent121, .x, .x, .x, .x]) (WS.set (XE.call (XA.sl rfl (XA.cons (XE.var rfl) XA.nil)) (show ([0] : List Nat).Nodup by decide) rfl (ms_law_bent_text e123) rfl) rfl) ?_
          obtain ⟨t124, e125, h⟩ := bd h
          obtain ⟨t126, e127, h⟩ := bd h
          obtain ⟨t128, e129, h⟩ := bd h
          obtain ⟨c130, e131, h⟩ := bd h
          refine WS.ifS (XT.not (XT.bb (XE.call (XA.cons (XE.call (XA.cons (XE.var rfl) (XA.cons XE.cst XA.nil)) (show ([] : List Nat).Nodup by decide) rfl (ms_law_told e125) rfl) (XA.cons (XE.call (XA.cons (XE.var rfl) XA.nil) (show ([] : List Nat).Nodup by decide) rfl (ms_law_read_sea e127) rfl) XA.nil)) (show ([] : List Nat).Nodup by decide) rfl (ms_law_same e129) rfl) e131)) (fun hc => ?_) (fun hc => ?_)
          · rw [if_pos hc] at h
            refine WS.retS XE.cst (fun ρ hρ => ?_)
            cases h; exact ⟨trivial, (by simp only [outF, DL.fin, hρ.getD (i := 0) rfl])⟩
          · rw [if_neg (Bool.eq_false_iff.mp hc)] at h
            refine WS.skipS ?_
            obtain ⟨bent132, boxhere133, e134, h⟩ := bd2_e h
            refine WS.seq (P1 := [.p boxhere133, .v seahere27, .v count31, .v lothere33, .v due57, .v duelot74, .v d120, .v bent132, .x, .x, .x, .x]) (WS.set (XE.call (XA.sl rfl (XA.cons (XE.var rfl) XA.nil)) (show ([0] : List Nat).Nodup by decide) rfl (ms_law_bent_text e134) rfl) rfl) ?_
            obtain ⟨t135, e136, h⟩ := bd h
            obtain ⟨t137, e138, h⟩ := bd h
            obtain ⟨t139, e140, h⟩ := bd h
            obtain ⟨c141, e142, h⟩ := bd h
            refine WS.if_ (XT.not (XT.bb (XE.call (XA.cons (XE.call (XA.cons (XE.var rfl) (XA.cons (XE.var rfl) XA.nil)) (show ([] : List Nat).Nodup by decide) rfl (ms_law_told e136) rfl) (XA.cons (XE.call (XA.cons (XE.var rfl) (XA.cons (XE.var rfl) XA.nil)) (show ([] : List Nat).Nodup by decide) rfl (ms_law_read_lot e138) rfl) XA.nil)) (show ([] : List Nat).Nodup by decide) rfl (ms_law_same e140) rfl) e142)) (fun hc => ?_) (fun hc => ?_)
            · rw [if_pos hc] at h
              refine WS.ret XE.cst (fun ρ hρ => ?_)
              cases h; exact ⟨trivial, (by simp only [outF, DL.fin, hρ.getD (i := 0) rfl])⟩
            · rw [if_neg (Bool.eq_false_iff.mp hc)] at h
              refine WS.skip (fun ρ hρ => ?_)
              cases h
              show LpN _ _
              exact ⟨ρ, .inl rfl, hρ.wk ⟨rfl, rfl, rfl, rfl, rfl, rfl, trivial, trivial, trivial, trivial, trivial, trivial, trivial⟩⟩)
        cases r144 with
        | bk t => cases h
        | rt x =>
          refine WS.rtS hw (fun o ho q => ?_)
          cases h; exact q
        | nx boxhere143 =>
          rw [flK_nx] at h
          refine WS.seq (P1 := [.p boxhere143, .v seahere27, .v count31, .v lothere33, .v due57, .v duelot74, .x, .x, .x, .x, .x, .x]) hw ?_
          obtain ⟨t146, e147, h⟩ := bd h
          obtain ⟨t148, e149, h⟩ := bd h
          obtain ⟨t150, e151, h⟩ := bd h
          obtain ⟨ds152, e153, h⟩ := bd h
          obtain ⟨r179, e180, h⟩ := bd h
          have hw := WS.forR (P := [.p boxhere143, .v seahere27, .v count31, .v lothere33, .v due57, .v duelot74, .x, .x, .x, .x, .x, .x]) (it := (iSeq (eCallV mkTup (aCons (eCallV mkTup (aCons (eVar 4) (aCons (eC .non) aNil))) (aCons (eCallV mkTup (aCons (eVar 5) (aCons (eVar 1) aNil))) aNil))))) (g := (gT (gCons (gV 8) (gCons (gV 9) gNil)))) (b := b_law_right_3) (t0 := ()) (XI.seq (XE.callV (XA.cons (XE.callV (XA.cons (XE.var rfl) (XA.cons XE.cst XA.nil)) rfl e147) (XA.cons (XE.callV (XA.cons (XE.var rfl) (XA.cons (XE.var rfl) XA.nil)) rfl e149) XA.nil)) rfl e151) e153) (fun s : Unit => [.p boxhere143, .v seahere27, .v count31, .v lothere33, .v due57, .v duelot74, .x, .x, .x, .x, .x, .x]) (fun (x : D × D) o => outF [.p boxhere1] o = some (x.1, [.p (x.2)])) ⟨rfl, rfl, rfl, rfl, rfl, rfl, trivial, trivial, trivial, trivial, trivial, trivial, trivial⟩ e180 (by
            rintro d154 ⟨⟩ r h
            unfold m_law_right_3 at h
            show WB [.p boxhere143, .v seahere27, .v count31, .v lothere33, .v due57, .v duelot74, .x, .x, .x, .x, .x, .x] _ _ _ (LpR _ _ _)
            obtain ⟨given155, where156, e157, h⟩ := bd2_e h
            refine WB.mk (XG.t (XGs.cons (XG.v rfl) (XGs.cons (XG.v rfl) XGs.nil)) (un2_e e157)) ?_
            unfold b_law_right_3
            obtain ⟨t158, e159, h⟩ := bd h
            obtain ⟨t160, e161, h⟩ := bd h
            obtain ⟨t162, e163, h⟩ := bd h
            obtain ⟨t164, e165, h⟩ := bd h
            obtain ⟨t166, e167, h⟩ := bd h
            obtain ⟨ds168, e169, h⟩ := bd h
            obtain ⟨r177, e178, h⟩ := bd h
            refine WS.tail ?_
            have hw := WS.forR (P := [.p boxhere143, .v seahere27, .v count31, .v lothere33, .v due57, .v duelot74, .x, .x, .v given155, .v where156, .x, .x]) (it := (iSeq (eCallV mkTup (aCons (eOp2 addD (eVar 8) (eC (.str "\n"))) (aCons (eOp2 addD (eC (.str "\n")) (eVar 8)) (aCons (eOp2 addD (eOp1 (repl1D " " "\n") (eVar 8)) (eC (.str "\n"))) (aCons (eC (.str "\n")) aNil))))))) (g := (gV 7)) (b := b_law_right_2) (t0 := ()) (XI.seq (XE.callV (XA.cons (XE.op2 (XE.var rfl) XE.cst e159) (XA.cons (XE.op2 XE.cst (XE.var rfl) e161) (XA.cons (XE.op2 (XE.op1 (XE.var rfl) e163) XE.cst e165) (XA.cons XE.cst XA.nil)))) rfl e167) e169) (fun s : Unit => [.p boxhere143, .v seahere27, .v count31, .v lothere33, .v due57, .v duelot74, .x, .x, .v given155, .v where156, .x, .x]) (fun (x : D × D) o => outF [.p boxhere1] o = some (x.1, [.p (x.2)])) ⟨rfl, rfl, rfl, rfl, rfl, rfl, trivial, trivial, rfl, rfl, trivial, trivial, trivial⟩ e178 (by
              rintro d170 ⟨⟩ r h
              unfold m_law_right_2 at h
              show WB [.p boxhere143, .v seahere27, .v count31, .v lothere33, .v due57, .v duelot74, .x, .x, .v given155, .v where156, .x, .x] _ _ _ (LpR _ _ _)
              refine WB.mk (XG.v rfl) ?_
              unfold b_law_right_2
              obtain ⟨t171, e172, h⟩ := bd h
              obtain ⟨t173, e174, h⟩ := bd h
              obtain ⟨c175, e176, h⟩ := bd h
              refine WS.if_ (XT.bb (XE.op2 (XE.call (XA.cons (XE.var rfl) (XA.cons (XE.var rfl) XA.nil)) (show ([] : List Nat).Nodup by decide) rfl (ms_law_told e172) rfl) XE.cst e174) e176) (fun hc => ?_) (fun hc => ?_)
              · rw [if_pos hc] at h
                refine WS.ret XE.cst (fun ρ hρ => ?_)
                cases h; exact ⟨trivial, (by simp only [outF, DL.fin, hρ.getD (i := 0) rfl])⟩
              · rw [if_neg (Bool.eq_false_iff.mp hc)] at h
                refine WS.skip (fun ρ hρ => ?_)
                cases h
                show LpN _ _
                exact ⟨ρ, .inl rfl, hρ.wk ⟨rfl, rfl, rfl, rfl, rfl, rfl, trivial, trivial, rfl, rfl, trivial, trivial, trivial⟩⟩)
            cases r177 with
            | bk t => cases h
            | rt x =>
              refine WS.rtS hw (fun o ho q => ?_)
              cases h; exact ⟨ho, q⟩
            | nx t =>
              rw [flK_nx] at h
              refine WS.seq (P1 := [.p boxhere143, .v seahere27, .v count31, .v lothere33, .v due57, .v duelot74, .x, .x, .v given155, .v where156, .x, .x]) hw ?_
              refine WS.skip (fun ρ hρ => ?_)
              cases h
              show LpN _ _
              exact ⟨ρ, .inl rfl, hρ.wk ⟨rfl, rfl, rfl, rfl, rfl, rfl, trivial, trivial, trivial, trivial, trivial, trivial, trivial⟩⟩)
          cases r179 with
          | bk t => cases h
          | rt x =>
            refine WS.rtS hw (fun o ho q => ?_)
            cases h; exact q
          | nx t =>
            rw [flK_nx] at h
            refine WS.seq (P1 := [.p boxhere143, .v seahere27, .v count31, .v lothere33, .v due57, .v duelot74, .x, .x, .x, .x, .x, .x]) hw ?_
            obtain ⟨t181, e182, h⟩ := bd h
            obtain ⟨t183, e184, h⟩ := bd h
            obtain ⟨c185, e186, h⟩ := bd h
            obtain ⟨r191, e192, h⟩ := bd h
            refine WS.ret (show XE [.p boxhere143, .v seahere27, .v count31, .v lothere33, .v due57, .v duelot74, .x, .x, .x, .x, .x, .x] (eAnd (eOp2 isD (eCall f_law_told (aCons (eC (.str "")) (aCons (eC .non) aNil))) (eC .non)) (eOp2 isD (eCall f_law_told (aCons (eC (.str "")) (aCons (eVar 1) aNil))) (eC .non))) r191 [.p boxhere143, .v seahere27, .v count31, .v lothere33, .v due57, .v duelot74, .x, .x, .x, .x, .x, .x] from (XE.and_ (XE.op2 (XE.call (XA.cons XE.cst (XA.cons XE.cst XA.nil)) (show ([] : List Nat).Nodup by decide) rfl (ms_law_told e182) rfl) XE.cst e184) e186 (fun hc => by rw [if_pos hc] at e192; obtain ⟨t187, e188, e192⟩ := bd e192; obtain ⟨t189, e190, e192⟩ := bd e192; have q := Option.some.inj e192; subst q; exact (XE.op2 (XE.call (XA.cons XE.cst (XA.cons (XE.var rfl) XA.nil)) (show ([] : List Nat).Nodup by decide) rfl (ms_law_told e188) rfl) XE.cst e190)) (fun hc => by rw [if_neg (Bool.eq_false_iff.mp hc)] at e192; have q := Option.some.inj e192; subst q; exact ⟨rfl, rfl⟩))) (fun ρ hρ => ?_)
            cases h; exact (by simp only [outF, DL.fin, hρ.getD (i := 0) rfl])
noncomputable def m_law (script1 : D) : Option (D) :=
  Option.bind (lenF [script1]) fun t2 =>
  Option.bind (minF [(D.int 3), t2]) fun t4 =>
  Option.bind (addD (D.int 1) t4) fun t6 =>
  Option.bind (rng1 [.val t6]) fun ds8 =>
  Option.bind (cmpP (fun d10 => Option.bind (m_law_box script1 d10) fun t11 =>
  bd2 (m_law_right t11) fun t13 u14 =>
  some [t13]) ds8) fun t16 =>
  Option.bind (allF [(D.lst t16)]) fun r18 =>
  some r18
theorem ms_law {script1 : D} {r : D} (h : m_law script1 = some r) : f_law [.v script1] = some (r, [.v script1]) := by
  unfold m_law at h
  refine mkFn_of (P := [.v script1, .x]) rfl ⟨rfl, trivial, trivial⟩ ?_
  unfold b_law
  obtain ⟨t2, e3, h⟩ := bd h
  obtain ⟨t4, e5, h⟩ := bd h
  obtain ⟨t6, e7, h⟩ := bd h
  obtain ⟨ds8, e9, h⟩ := bd h
  obtain ⟨t16, e17, h⟩ := bd h
  obtain ⟨r18, e19, h⟩ := bd h
  refine WS.ret (XE.callV (XA.cons (XE.comp (P2 := [.v script1, .x]) (Pw := [.v script1, .x]) (XI.arg (XA.cons (XE.op2 XE.cst (XE.callV (XA.cons XE.cst (XA.cons (XE.callV (XA.cons (XE.var rfl) XA.nil) rfl e3) XA.nil)) rfl e5) e7) XA.nil) e9) rfl e17 (by intro d10 z h; obtain ⟨t11, e12, h⟩ := bd h; obtain ⟨t13, u14, e15, h⟩ := bd2_e h; cases h; exact XC.one (XG.v rfl) XT.tt (XE.callT (XE.callF (XA.cons (XE.var rfl) (XA.cons (XE.var rfl) XA.nil)) rfl (msF_law_box e12)) (ms_law_right e15)) rfl ⟨rfl, trivial, trivial⟩) rfl) XA.nil) rfl e19) (fun ρ hρ => ?_)
  cases h; exact rfl
end LW
namespace DL
open PySem
def WBx (P : List Pk) (m : BM) (Q : OB → Prop) : Prop := ∀ ρ, Mt P ρ → ∃ o, m ρ = some o ∧ Q o
def isExO (x : Exn) (o : OB) : Prop := ∃ ρ, o = .ex x ρ
section
variable {P P1 : List Pk} {s1 : SM} {m m2 a b : BM} {Q : OB → Prop} {c : TM} {x : Exn}
theorem WBx.seq (h : WS P s1 (NxQ P1)) (h2 : WBx P1 m2 Q) : WBx P (bSeq (bOk s1) m2) Q := fun ρ mt => by
  obtain ⟨o, e, ρ1, rfl, m1⟩ := h ρ mt
  obtain ⟨o2, e2, q⟩ := h2 ρ1 m1
  exact ⟨o2, by simp [bSeq, bOk, e, e2], q⟩
theorem WBx.seqX (h : WBx P m (isExO x)) : WBx P (bSeq m m2) (isExO x) := fun ρ mt => by
  obtain ⟨o, e, ρ1, rfl⟩ := h ρ mt
  exact ⟨.ex x ρ1, by simp [bSeq, e], ρ1, rfl⟩
theorem WBx.ifT {k : Bool} (h : XT P c k P1) (hk : k = true) (ha : WBx P1 a Q) : WBx P (bIf c a b) Q := fun ρ mt => by
  subst hk
  obtain ⟨ρ1, e, m1⟩ := h ρ mt
  obtain ⟨o, e2, q⟩ := ha ρ1 m1
  exact ⟨o, by simp [bIf, e, e2], q⟩
theorem WBx.raise {e : EM} {d : D} {C f : Str} (h : XE P e d P1) : WBx P (fun ρ => (e ρ).map fun q => .ex (C, [(f, q.1)]) q.2) (isExO (C, [(f, d)])) := fun ρ mt => by
  obtain ⟨ρ1, e1, m1⟩ := h ρ mt
  exact ⟨.ex (C, [(f, d)]) ρ1, by show (e ρ).map _ = _; rw [e1]; rfl, ρ1, rfl⟩
theorem fin_noP : ∀ {ss : List Sl} {ρ : Env} {i : Nat}, (ss.all fun s => match s with | .p _ => false | _ => true) = true → fin ρ i ss = ss
  | [], _, _, _ => rfl
  | s :: ss, ρ, i, h => by
    rw [List.all_cons, Bool.and_eq_true] at h
    cases s with
    | p _ => exact absurd h.1 Bool.false_ne_true
    | _ => show _ :: fin ρ (i + 1) ss = _; rw [fin_noP h.2]
theorem mkFnX_of {n k : Nat} {ss : List Sl} (hl : ss.length = n) (hp : (ss.all fun s => match s with | .p _ => false | _ => true) = true) (hm : Mt P (ss ++ List.replicate k .e)) (h : WBx P m (isExO x)) : mkFnB n k m ss = some (.ex x, ss) := by
  obtain ⟨o, e, ρ, rfl⟩ := h _ hm
  unfold mkFnB
  rw [if_pos hl, e]
  show some (RB.ex x, fin ρ 0 ss) = _
  rw [fin_noP hp]
end
end DL
namespace LW
open PySem DL
noncomputable def mx_sea_in (text1 : D) : Option Bool :=
  Option.bind (splitD text1 (D.str " ")) fun words2 =>
  Option.bind (asI (D.int 2)) fun i4 =>
  Option.bind (sliceD words2 none (some i4)) fun t6 =>
  Option.bind (asI (D.int 3)) fun i8 =>
  Option.bind (sliceD words2 (some i8) none) fun t10 =>
  Option.bind (addD t6 t10) fun t12 =>
  Option.bind (unL t12) fun ds14 =>
  Option.bind (cmpP (fun d16 => Option.bind (m_number_in d16) fun t17 =>
  some [t17]) ds14) fun numbers19 =>
  Option.bind (lenF [words2]) fun t21 =>
  Option.bind (leD t21 (D.int 3)) fun t23 =>
  Option.bind (asB t23) fun c25 =>
  Option.bind (if c25 = true then (some true) else (Option.bind (ixD words2 (D.int 2)) fun t27 =>
  Option.bind (neD t27 (D.str ":")) fun t29 =>
  Option.bind (asB t29) fun c31 =>
  Option.bind (if c31 = true then (some true) else (Option.bind ((inD false) D.non (D.lst numbers19)) fun t33 =>
  Option.bind (asB t33) fun c35 =>
  some c35)) fun c37 =>
  some c37)) fun c39 =>
  some c39
theorem rx_sea_in {text1 : D} (h : mx_sea_in text1 = some true) : fB_sea_in [.v text1] = some (.ex ("BadText", [("text", text1)]), [.v text1]) := by
  unfold mx_sea_in at h
  refine mkFnX_of (P := [.v text1, .x, .x, .x]) rfl rfl ⟨rfl, trivial, trivial, trivial, trivial⟩ ?_
  unfold bB_sea_in
  obtain ⟨words2, e3, h⟩ := bd h
  refine WBx.seq (P1 := [.v text1, .v words2, .x, .x]) (WS.set (XE.op2 (XE.var rfl) XE.cst e3) rfl) ?_
  obtain ⟨i4, e5, h⟩ := bd h
  obtain ⟨t6, e7, h⟩ := bd h
  obtain ⟨i8, e9, h⟩ := bd h
  obtain ⟨t10, e11, h⟩ := bd h
  obtain ⟨t12, e13, h⟩ := bd h
  obtain ⟨ds14, e15, h⟩ := bd h
  obtain ⟨numbers19, e20, h⟩ := bd h
  refine WBx.seq (P1 := [.v text1, .v words2, .v (D.lst numbers19), .x]) (WS.set (XE.comp (P2 := [.v text1, .v words2, .x, .x]) (Pw := [.v text1, .v words2, .x, .x]) (XI.seq (XE.op2 (XE.slice (XE.var rfl) XO.no (XO.some XE.cst e5) e7) (XE.slice (XE.var rfl) (XO.some XE.cst e9) XO.no e11) e13) e15) rfl e20 (by intro d16 z h; obtain ⟨t17, e18, h⟩ := bd h; cases h; exact XC.one (XG.v rfl) XT.tt (XE.call (XA.cons (XE.var rfl) XA.nil) (show ([] : List Nat).Nodup by decide) rfl (ms_number_in e18) rfl) rfl ⟨rfl, rfl, trivial, trivial, trivial⟩) rfl) rfl) ?_
  obtain ⟨t21, e22, h⟩ := bd h
  obtain ⟨t23, e24, h⟩ := bd h
  obtain ⟨c25, e26, h⟩ := bd h
  obtain ⟨c39, e40, h⟩ := bd h
  exact WBx.seqX (WBx.ifT (show XT [.v text1, .v words2, .v (D.lst numbers19), .x] (tOr (tB (eOp2 leD (eCallV lenF (aCons (eVar 1) aNil)) (eC (.int 3)))) (tOr (tB (eOp2 neD (eOp2 ixD (eVar 1) (eC (.int 2))) (eC (.str ":")))) (tB (eOp2 (inD false) (eC .non) (eVar 2))))) c39 [.v text1, .v words2, .v (D.lst numbers19), .x] from (XT.or_ (XT.bb (XE.op2 (XE.callV (XA.cons (XE.var rfl) XA.nil) rfl e22) XE.cst e24) e26) (fun hc => by rw [if_pos hc] at e40; have q := Option.some.inj e40; subst q; exact ⟨rfl, rfl⟩) (fun hc => by rw [if_neg (Bool.eq_false_iff.mp hc)] at e40; obtain ⟨t27, e28, e40⟩ := bd e40; obtain ⟨t29, e30, e40⟩ := bd e40; obtain ⟨c31, e32, e40⟩ := bd e40; obtain ⟨c37, e38, e40⟩ := bd e40; have q := Option.some.inj e40; subst q; exact (show XT [.v text1, .v words2, .v (D.lst numbers19), .x] (tOr (tB (eOp2 neD (eOp2 ixD (eVar 1) (eC (.int 2))) (eC (.str ":")))) (tB (eOp2 (inD false) (eC .non) (eVar 2)))) c37 [.v text1, .v words2, .v (D.lst numbers19), .x] from (XT.or_ (XT.bb (XE.op2 (XE.op2 (XE.var rfl) XE.cst e28) XE.cst e30) e32) (fun hc => by rw [if_pos hc] at e38; have q := Option.some.inj e38; subst q; exact ⟨rfl, rfl⟩) (fun hc => by rw [if_neg (Bool.eq_false_iff.mp hc)] at e38; obtain ⟨t33, e34, e38⟩ := bd e38; obtain ⟨c35, e36, e38⟩ := bd e38; have q := Option.some.inj e38; subst q; exact (XT.bb (XE.op2 XE.cst (XE.var rfl) e34) e36))))))) (Option.some.inj h) (WBx.raise (XE.var rfl)))
noncomputable def mx_standing_in (sea1 : D) (text2 : D) : Option Bool :=
  Option.bind (eqD text2 (D.str "-")) fun t3 =>
  Option.bind (asB t3) fun c5 =>
  Option.bind (if c5 = true then (Option.bind (mkTup []) fun t7 =>
  some t7) else (Option.bind (splitD text2 (D.str " ")) fun t9 =>
  Option.bind (m_ships_in t9) fun t11 =>
  some t11)) fun ships13 =>
  Option.bind (isD ships13 D.non) fun t15 =>
  Option.bind (asB t15) fun c17 =>
  Option.bind (if c17 = true then (some true) else (Option.bind (unL ships13) fun ds19 =>
  Option.bind (cmpP (fun d21 => Option.bind (ixD sea1 (D.int 2)) fun t22 =>
  Option.bind (lenF [t22]) fun t24 =>
  Option.bind (geD d21 t24) fun t26 =>
  some [t26]) ds19) fun t28 =>
  Option.bind (anyF [(D.lst t28)]) fun t30 =>
  Option.bind (asB t30) fun c32 =>
  some c32)) fun c34 =>
  some c34
theorem rx_standing_in {sea1 : D} {text2 : D} (h : mx_standing_in sea1 text2 = some true) : fB_standing_in [.v sea1, .v text2] = some (.ex ("BadText", [("text", text2)]), [.v sea1, .v text2]) := by
  unfold mx_standing_in at h
  refine mkFnX_of (P := [.v sea1, .v text2, .x, .x]) rfl rfl ⟨rfl, rfl, trivial, trivial, trivial⟩ ?_
  unfold bB_standing_in
  obtain ⟨t3, e4, h⟩ := bd h
  obtain ⟨c5, e6, h⟩ := bd h
  obtain ⟨ships13, e14, h⟩ := bd h
  refine WBx.seq (P1 := [.v sea1, .v text2, .v ships13, .x]) (WS.set (show XE [.v sea1, .v text2, .x, .x] (eIf (tB (eOp2 eqD (eVar 1) (eC (.str "-")))) (eCallV mkTup aNil) (eCall f_ships_in (aCons (eOp2 splitD (eVar 1) (eC (.str " "))) aNil))) ships13 [.v sea1, .v text2, .x, .x] from (XE.if_ (XT.bb (XE.op2 (XE.var rfl) XE.cst e4) e6) (fun hc => by rw [if_pos hc] at e14; obtain ⟨t7, e8, e14⟩ := bd e14; have q := Option.some.inj e14; subst q; exact (XE.callV XA.nil rfl e8)) (fun hc => by rw [if_neg (Bool.eq_false_iff.mp hc)] at e14; obtain ⟨t9, e10, e14⟩ := bd e14; obtain ⟨t11, e12, e14⟩ := bd e14; have q := Option.some.inj e14; subst q; exact (XE.call (XA.cons (XE.op2 (XE.var rfl) XE.cst e10) XA.nil) (show ([] : List Nat).Nodup by decide) rfl (ms_ships_in e12) rfl)))) rfl) ?_
  obtain ⟨t15, e16, h⟩ := bd h
  obtain ⟨c17, e18, h⟩ := bd h
  obtain ⟨c34, e35, h⟩ := bd h
  exact WBx.seqX (WBx.ifT (show XT [.v sea1, .v text2, .v ships13, .x] (tOr (tB (eOp2 isD (eVar 2) (eC .non))) (tB (eCallV anyF (aCons (eComp [3] (iSeq (eVar 2)) (gV 3) tTrue (eOp2 geD (eVar 3) (eCallV lenF (aCons (eOp2 ixD (eVar 0) (eC (.int 2))) aNil)))) aNil)))) c34 [.v sea1, .v text2, .v ships13, .x] from (XT.or_ (XT.bb (XE.op2 (XE.var rfl) XE.cst e16) e18) (fun hc => by rw [if_pos hc] at e35; have q := Option.some.inj e35; subst q; exact ⟨rfl, rfl⟩) (fun hc => by rw [if_neg (Bool.eq_false_iff.mp hc)] at e35; obtain ⟨ds19, e20, e35⟩ := bd e35; obtain ⟨t28, e29, e35⟩ := bd e35; obtain ⟨t30, e31, e35⟩ := bd e35; obtain ⟨c32, e33, e35⟩ := bd e35; have q := Option.some.inj e35; subst q; exact (XT.bb (XE.callV (XA.cons (XE.comp (P2 := [.v sea1, .v text2, .v ships13, .x]) (Pw := [.v sea1, .v text2, .v ships13, .x]) (XI.seq (XE.var rfl) e20) rfl e29 (by intro d21 z h; obtain ⟨t22, e23, h⟩ := bd h; obtain ⟨t24, e25, h⟩ := bd h; obtain ⟨t26, e27, h⟩ := bd h; cases h; exact XC.one (XG.v rfl) XT.tt (XE.op2 (XE.var rfl) (XE.callV (XA.cons (XE.op2 (XE.var rfl) XE.cst e23) XA.nil) rfl e25) e27) rfl ⟨rfl, rfl, rfl, trivial, trivial⟩) rfl) XA.nil) rfl e31) e33)))) (Option.some.inj h) (WBx.raise (XE.var rfl)))
end LW
namespace DL
open PySem
def fig (c : Nat) : Bool := decide (48 ≤ c) && decide (c ≤ 57)
theorem figs_all {l : List Nat} (h : l.all fig = true) : NumText.AllDigits l := fun c hc => by
  have := List.all_eq_true.mp h c hc
  simpa [fig] using this
theorem map_chars : ∀ {l : List Nat}, NumText.AllDigits l → (l.map Char.ofNat).map Char.toNat = l
  | [], _ => rfl
  | c :: l, h => by
    have hc := h.head
    rw [List.map_cons, List.map_cons, map_chars h.tail]
    congr 1
    have key : ∀ d : Nat, d < 10 → (Char.ofNat (48 + d)).toNat = 48 + d := by decide
    have := key (c - 48) (by omega)
    rwa [show 48 + (c - 48) = c by omega] at this
theorem all_drop {l : List Nat} (h : NumText.AllDigits l) (p : Nat → Bool) : NumText.AllDigits (l.dropWhile p) := fun c hc => h c (List.dropWhile_sublist p |>.subset hc)
/-- the number's own signs are the word just where it has no 0 ahead -/
theorem num_canon {l : List Nat} (h : NumText.AllDigits l) (hn : l ≠ []) : (TL.numL (NumText.digitsVal l) = l) ↔ (l = [48] ∨ l.head? ≠ some 48) := by
  unfold TL.numL
  rw [NumText.toDigits_all l h]
  have hd := all_drop h (· == 48)
  cases l with
  | nil => exact absurd rfl hn
  | cons c r =>
    by_cases hc : c = 48
    · subst hc
      rw [List.dropWhile_cons_of_pos (by rfl)] at hd ⊢
      have hle : (r.dropWhile (· == 48)).length ≤ r.length := (List.dropWhile_sublist _).length_le
      cases q : r.dropWhile (· == 48) with
      | nil =>
        show (['0'].map Char.toNat = 48 :: r) ↔ _
        constructor
        · intro e
          left
          exact e.symm
        · intro e
          rcases e with e | e
          · rw [e]; rfl
          · exact absurd rfl e
      | cons a b =>
        rw [q] at hd hle
        show ((a :: b).map Char.ofNat).map Char.toNat = 48 :: r ↔ _
        rw [map_chars hd]
        constructor
        · intro e
          have el := congrArg List.length e
          rw [List.length_cons, List.length_cons] at el
          rw [List.length_cons] at hle
          omega
        · intro e
          rcases e with e | e
          · cases e; simp at hle
          · exact absurd rfl e
    · rw [List.dropWhile_cons_of_neg (by simpa using hc)]
      show ((c :: r).map Char.ofNat).map Char.toNat = c :: r ↔ _
      rw [map_chars h]
      simp [hc]
/-- what a word tells -/
def canon (l : List Nat) : Bool := l.all fig && !l.isEmpty && (decide (l = [48]) || decide (l.head? ≠ some 48))
def numW (w : Str) : Option Nat := if (decide (w.length ≤ 13) && canon (TL.tl w)) = true then some (NumText.digitsVal (TL.tl w)) else none
def numD (w : Str) : D := match numW w with
  | some n => .int (n : Int)
  | none => .non
theorem numW_of {n : Nat} (h : n < 10 ^ 13) : numW (Str.ofString (toString ((n : Nat) : Int))) = some n := by
  unfold numW
  have hl := TL.numL_len (k := 13) (by decide) h
  rw [TL.len_tl, TL.tl_num]
  have hc : canon (TL.numL n) = true := by
    unfold canon
    have h1 : (TL.numL n).all fig = true := List.all_eq_true.mpr fun c hc => by
      have := TL.numL_digits n c hc
      simp [fig, this]
    have h2 : (TL.numL n).isEmpty = false := by
      cases q : TL.numL n with
      | nil => exact absurd q (TL.numL_ne n)
      | cons _ _ => rfl
    have h3 := (num_canon (TL.numL_digits n) (TL.numL_ne n)).mp (by rw [TL.numL_val])
    rw [h1, h2]
    simpa using h3
  rw [hc, TL.numL_val, if_pos (by simp [hl])]
theorem numD_of {n : Nat} (h : n < 10 ^ 13) : numD (Str.ofString (toString ((n : Nat) : Int))) = .int (n : Int) := by
  unfold numD; rw [numW_of h]
theorem numW_no {w : Str} {c : Nat} (h : c ∈ TL.tl w) (hc : fig c = false) : numW w = none := by
  unfold numW
  rw [if_neg]
  intro e
  rw [Bool.and_eq_true] at e
  unfold canon at e
  rw [Bool.and_eq_true, Bool.and_eq_true] at e
  have := List.all_eq_true.mp e.2.1.1 c h
  rw [hc] at this
  cases this
abbrev spc : Str := " "
theorem tl_spc : TL.tl spc = [32] := by rw [TL.tl_ofString]; rfl
theorem len_spc : spc.length = 1 := by rw [TL.len_tl, tl_spc]; rfl
theorem join_split (x y : Str) : Txt.join y (Txt.split x y) = x := by
  unfold Txt.split
  split
  · rfl
  · split
    · rfl
    · exact StrLaws.glued_between_self x y _
theorem split_ne (x y : Str) : Txt.split x y ≠ [] := by
  unfold Txt.split
  split
  · simp
  · split
    · simp
    · intro e
      have := congrArg List.length e
      rw [length_partsBetween] at this
      simp at this
theorem split_sum (x : Str) : ((Txt.split x spc).map (·.length)).sum + ((Txt.split x spc).length - 1) = x.length := by
  have e := congrArg Str.length (join_split x spc)
  unfold Txt.join at e
  rw [size_glued, len_spc, Nat.mul_one] at e
  exact e
theorem mem_joinL {S : List Nat} {c : Nat} (hc : c ∉ S) : ∀ {ps : List (List Nat)}, c ∈ TL.joinL S ps → ∃ p ∈ ps, c ∈ p
  | [], h => by cases h
  | [p], h => ⟨p, List.mem_singleton.mpr rfl, h⟩
  | p :: q :: r, h => by
    rcases List.mem_append.mp (show c ∈ p ++ (S ++ TL.joinL S (q :: r)) from h) with h | h
    · exact ⟨p, List.mem_cons_self, h⟩
    · rcases List.mem_append.mp h with h | h
      · exact absurd h hc
      · obtain ⟨z, hz, e⟩ := mem_joinL hc h
        exact ⟨z, List.mem_cons_of_mem _ hz, e⟩
theorem word_with {x : Str} {c : Nat} (h : c ∈ TL.tl x) (hc : c ≠ 32) : ∃ w ∈ Txt.split x spc, c ∈ TL.tl w := by
  rw [← join_split x spc, TL.join_eq, TL.tl_join] at h
  obtain ⟨p, hp, e⟩ := mem_joinL (by rw [tl_spc]; simpa using hc) h
  obtain ⟨w, hw, rfl⟩ := List.mem_map.mp hp
  exact ⟨w, hw, e⟩
theorem split_back {ps : List Str} (hne : ps ≠ []) (hp : ∀ p ∈ ps, 32 ∉ TL.tl p) : Txt.split (Txt.join spc ps) spc = ps :=
  TL.split_join tl_spc (by decide +kernel) hne hp
theorem num_free {n : Nat} : 32 ∉ TL.tl (Str.ofString (toString ((n : Nat) : Int))) := by rw [TL.tl_num]; exact TL.numL_free (.inl (by decide))
theorem join_len (y : Str) (ps : List Str) : (Txt.join y ps).length ≤ (ps.map (·.length)).sum + ps.length * y.length := by
  rw [TL.join_eq]; exact StrLaws.join_length_le y ps
theorem word_le {x w : Str} (h : w ∈ Txt.split x spc) : w.length ≤ x.length := by
  have : ∀ (l : List Nat) (a : Nat), a ∈ l → a ≤ l.sum := fun l => by
    induction l with
    | nil => intro a h; cases h
    | cons b l ih => intro a h; rcases List.mem_cons.mp h with rfl | h; · rw [List.sum_cons]; omega
                     · rw [List.sum_cons]; have := ih a h; omega
  have := this _ _ (List.mem_map_of_mem (f := fun z : Str => z.length) h)
  have e := split_sum x
  omega
end DL
namespace DL
open PySem
theorem cmpP_ix {f : D → Option (List D)} (g : Nat → List D) : ∀ {ds : List D} (k : Nat), (∀ i d, ds[i]? = some d → f d = some (g (k + i))) → cmpP f ds = some ((List.range' k ds.length).flatMap g)
  | [], k, _ => rfl
  | d :: ds, k, h => by
    have h0 := h 0 d rfl
    have ih := cmpP_ix (f := f) g (ds := ds) (k + 1) fun i x hx => by
      have := h (i + 1) x (by simpa using hx)
      rwa [show k + (i + 1) = k + 1 + i by omega] at this
    unfold cmpP
    rw [h0, Option.bind_some, ih, Option.bind_some]
    rfl
theorem cmpP_all {f : D → Option (List D)} {g : Nat → List D} {ds : List D} (h : ∀ i d, ds[i]? = some d → f d = some (g i)) : cmpP f ds = some ((List.range ds.length).flatMap g) := by
  rw [List.range_eq_range']
  exact cmpP_ix g 0 fun i d e => by rw [Nat.zero_add]; exact h i d e
theorem flatMap_if {α β : Type} (p : α → Bool) (z : α → β) : ∀ l : List α, (l.flatMap fun i => if p i then [z i] else []) = (l.filter p).map z
  | [] => rfl
  | a :: l => by
    rw [List.flatMap_cons, flatMap_if p z l]
    cases e : p a <;> simp [e]
theorem flatMap_one {α β : Type} (z : α → β) : ∀ l : List α, (l.flatMap fun i => [z i]) = l.map z
  | [] => rfl
  | a :: l => by rw [List.flatMap_cons, flatMap_one z l]; rfl
theorem rngD_at {n i : Nat} {d : D} (h : (rngD 0 n)[i]? = some d) : i < n ∧ d = .int (i : Int) := rngD_get h
theorem cmpP_rngM {f : D → Option (List D)} {n : Nat} (z : Nat → D) (h : ∀ i, i < n → f (.int (i : Int)) = some [z i]) : cmpP f (rngD 0 n) = some ((List.range n).map z) := by
  rw [cmpP_all (g := fun i => [z i]) fun i d e => by obtain ⟨hi, rfl⟩ := rngD_at e; exact h i hi, rngD_len, flatMap_one]
theorem cmpP_lst {α : Type} {f : D → Option (List D)} {e : α → D} {xs : List α} (p : α → Bool) (z : α → D) (h : ∀ x ∈ xs, f (e x) = if p x = true then some [z x] else some []) : cmpP f (xs.map e) = some ((xs.filter p).map z) := by
  rw [← flatMap_if]
  induction xs with
  | nil => rfl
  | cons a l ih =>
    rw [List.map_cons]
    unfold cmpP
    rw [h a List.mem_cons_self, ih fun x hx => h x (List.mem_cons_of_mem _ hx)]
    rw [List.flatMap_cons]
    split <;> rfl
theorem cmpP_lstM {α : Type} {f : D → Option (List D)} {e : α → D} {xs : List α} (z : α → D) (h : ∀ x ∈ xs, f (e x) = some [z x]) : cmpP f (xs.map e) = some (xs.map z) := by
  have := cmpP_lst (f := f) (e := e) (xs := xs) (fun _ => true) z (fun x hx => by rw [h x hx, if_pos rfl])
  rw [this, List.filter_eq_self.mpr fun _ _ => rfl]
theorem cmpP_congr {f g : D → Option (List D)} {ds : List D} (h : ∀ d ∈ ds, f d = g d) : cmpP f ds = cmpP g ds := by
  induction ds with
  | nil => rfl
  | cons a l ih => unfold cmpP; rw [h a List.mem_cons_self, ih fun d hd => h d (List.mem_cons_of_mem _ hd)]
theorem cmpS_inv {τ : Type} {f : D → τ → Option (List D × τ)} (I : Nat → τ → Prop) (Z : Nat → List D → Prop) : ∀ {ds : List D} {k : Nat} {t : τ}, I k t → (∀ i d, ds[i]? = some d → ∀ t, I (k + i) t → ∃ z t', f d t = some (z, t') ∧ I (k + i + 1) t' ∧ Z (k + i) z) →
    ∃ (zss : List (List D)) (t' : τ), cmpS f ds t = some (zss.flatten, t') ∧ I (k + ds.length) t' ∧ zss.length = ds.length ∧ ∀ i z, zss[i]? = some z → Z (k + i) z
  | [], k, t, i, _ => ⟨[], t, rfl, i, rfl, fun i z h => by simp at h⟩
  | d :: ds, k, t, i, h => by
    obtain ⟨z, t1, e1, i1, z1⟩ := h 0 d rfl t i
    obtain ⟨zss, t2, e2, i2, l2, q2⟩ := cmpS_inv I Z (ds := ds) (k := k + 1) i1 fun i x hx t ht => by
      have := h (i + 1) x (by simpa using hx) t (by rw [show k + (i + 1) = k + 1 + i by omega]; exact ht)
      rwa [show k + (i + 1) = k + 1 + i by omega] at this
    refine ⟨z :: zss, t2, ?_, by rw [List.length_cons, show k + (ds.length + 1) = k + 1 + ds.length by omega]; exact i2, by simp [l2], fun i z' e => ?_⟩
    · unfold cmpS
      rw [e1, Option.bind_some, e2]
      rfl
    · cases i with
      | zero => cases e; exact z1
      | succ i =>
        have := q2 i z' (by simpa using e)
        rwa [show k + (i + 1) = k + 1 + i by omega]
/-- one thing a turn -/
theorem cmpS_one {τ α : Type} {f : D → τ → Option (List D × τ)} (e : α → D) (I : Nat → τ → Prop) (Z : Nat → α → Prop) {ds : List D} {t : τ} (h0 : I 0 t) (h : ∀ i d, ds[i]? = some d → ∀ t, I i t → ∃ z t', f d t = some ([e z], t') ∧ I (i + 1) t' ∧ Z i z) :
    ∃ (zs : List α) (t' : τ), cmpS f ds t = some (zs.map e, t') ∧ I ds.length t' ∧ zs.length = ds.length ∧ ∀ i (hi : i < zs.length), Z i zs[i] := by
  obtain ⟨zss, t', e1, i1, l1, q1⟩ := cmpS_inv I (fun i z => ∃ x, z = [e x] ∧ Z i x) (ds := ds) (k := 0) h0 fun i d hd t ht => by
    obtain ⟨z, t', e1, i1, z1⟩ := h i d hd t (by rwa [Nat.zero_add] at ht)
    refine ⟨[e z], t', e1, by rwa [Nat.zero_add], z, rfl, by rwa [Nat.zero_add]⟩
  have key : ∀ (zss : List (List D)) (k : Nat), (∀ i z, zss[i]? = some z → ∃ x, z = [e x] ∧ Z (k + i) x) → ∃ zs : List α, zss.flatten = zs.map e ∧ zs.length = zss.length ∧ ∀ i (hi : i < zs.length), Z (k + i) zs[i] := by
    intro zss
    induction zss with
    | nil => exact fun k _ => ⟨[], rfl, rfl, fun i hi => absurd hi (by simp)⟩
    | cons z zss ih =>
      intro k hz
      obtain ⟨x, rfl, zx⟩ := hz 0 z rfl
      obtain ⟨zs, e2, l2, q2⟩ := ih (k + 1) fun i z hi => by
        have := hz (i + 1) z (by simpa using hi)
        rwa [show k + (i + 1) = k + 1 + i by omega] at this
      refine ⟨x :: zs, by simp [e2], by simp [l2], fun i hi => ?_⟩
      cases i with
      | zero => exact zx
      | succ i =>
        have := q2 i (by simpa using hi)
        rw [show k + (i + 1) = k + 1 + i by omega]
        exact this
  obtain ⟨zs, e2, l2, q2⟩ := key zss 0 q1
  refine ⟨zs, t', by rw [e1, e2], by rwa [Nat.zero_add] at i1, by rw [l2, l1], fun i hi => by have := q2 i hi; rwa [Nat.zero_add] at this⟩
/-- all turns go on -/
theorem fldR_of {R τ : Type} {f : D → τ → Option (Fl R τ)} (I : Nat → τ → Prop) {ds : List D} {t : τ} (h0 : I 0 t) (h : ∀ i d, ds[i]? = some d → ∀ t, I i t → ∃ t', f d t = some (.nx t') ∧ I (i + 1) t') : ∃ t', fldR f ds t = some (.nx t') ∧ I ds.length t' := by
  have key : ∀ (ds : List D) (k : Nat) (t : τ), I k t → (∀ i d, ds[i]? = some d → ∀ t, I (k + i) t → ∃ t', f d t = some (.nx t') ∧ I (k + i + 1) t') → ∃ t', fldR f ds t = some (.nx t') ∧ I (k + ds.length) t' := by
    intro ds
    induction ds with
    | nil => exact fun k t i _ => ⟨t, rfl, i⟩
    | cons d ds ih =>
      intro k t i h
      obtain ⟨t1, e1, i1⟩ := h 0 d rfl t i
      obtain ⟨t2, e2, i2⟩ := ih (k + 1) t1 i1 fun i x hx t ht => by
        have := h (i + 1) x (by simpa using hx) t (by rw [show k + (i + 1) = k + 1 + i by omega]; exact ht)
        rwa [show k + (i + 1) = k + 1 + i by omega] at this
      refine ⟨t2, ?_, by rw [List.length_cons, show k + (ds.length + 1) = k + 1 + ds.length by omega]; exact i2⟩
      unfold fldR
      rw [e1]
      exact e2
  obtain ⟨t', e, i⟩ := key ds 0 t h0 fun i d hd t ht => by
    rw [Nat.zero_add] at ht ⊢
    exact h i d hd t ht
  exact ⟨t', e, by rwa [Nat.zero_add] at i⟩
def SqD (d : D) (ds : List D) : Prop := d = .lst ds ∨ d = .tup ds
theorem SqD.l (ds : List D) : SqD (.lst ds) ds := .inl rfl
theorem SqD.t (ds : List D) : SqD (.tup ds) ds := .inr rfl
theorem SqD.len {d : D} {ds : List D} (h : SqD d ds) : lenF [d] = some (.int ds.length) := by rcases h with rfl | rfl <;> rfl
theorem SqD.un {d : D} {ds : List D} (h : SqD d ds) : unL d = some ds := by rcases h with rfl | rfl <;> rfl
theorem SqD.ix {d : D} {ds : List D} (h : SqD d ds) (i : Nat) : ixD d (.int (i : Int)) = ds[i]? := by rcases h with rfl | rfl; exact ix_lst _ _; exact ix_tup _ _
theorem SqD.lst {d : D} {ds : List D} (h : SqD d ds) : listF [d] = some (.lst ds) := by rcases h with rfl | rfl <;> rfl
theorem SqD.tup {d : D} {ds : List D} (h : SqD d ds) : tupF [d] = some (.tup ds) := by rcases h with rfl | rfl <;> rfl
theorem SqD.slice {d : D} {ds : List D} (h : SqD d ds) {lo hi : Option Int} : ∃ r, sliceD d lo hi = some r ∧ SqD r (cutD ds lo hi) := by rcases h with rfl | rfl; exact ⟨_, rfl, .inl rfl⟩; exact ⟨_, rfl, .inr rfl⟩
/-- a sea, of lists or of tuples -/
def SeaD (d : D) (a c : Int) (xs : List Int) : Prop := ∃ X, SqD d [.int a, .int c, X] ∧ SqD X (xs.map .int)
theorem SeaD.t (a c : Int) (xs : List Int) : SeaD (.tup [.int a, .int c, .tup (xs.map .int)]) a c xs := ⟨_, .inr rfl, .inr rfl⟩
theorem SeaD.i0 {d : D} {a c : Int} {xs : List Int} (h : SeaD d a c xs) : ixD d (.int 0) = some (.int a) := by obtain ⟨X, h1, h2⟩ := h; exact h1.ix 0
theorem SeaD.i1 {d : D} {a c : Int} {xs : List Int} (h : SeaD d a c xs) : ixD d (.int 1) = some (.int c) := by obtain ⟨X, h1, h2⟩ := h; exact h1.ix 1
theorem SeaD.i2 {d : D} {a c : Int} {xs : List Int} (h : SeaD d a c xs) : ∃ X, ixD d (.int 2) = some X ∧ SqD X (xs.map .int) := by obtain ⟨X, h1, h2⟩ := h; exact ⟨X, h1.ix 2, h2⟩
theorem lim_ok {n : Nat} (h : n ≤ 1000000) : lim n = true := decide_eq_true h
theorem addD_lst {xs ys : List D} (h : xs.length + ys.length ≤ 1000000) : addD (.lst xs) (.lst ys) = some (.lst (xs ++ ys)) := if_pos (lim_ok h)
theorem bools_map {α : Type} (f : α → Bool) : ∀ l : List α, bools? (l.map fun x => .bl (f x)) = some (l.map f)
  | [] => rfl
  | a :: l => by rw [List.map_cons]; unfold bools?; rw [bools_map f l]; rfl
theorem allF_map {α : Type} (f : α → Bool) (l : List α) : allF [.lst (l.map fun x => .bl (f x))] = some (.bl (l.all f)) := by
  show (bools? _).map _ = _
  rw [bools_map]; simp [List.all_map]
theorem anyF_map {α : Type} (f : α → Bool) (l : List α) : anyF [.lst (l.map fun x => .bl (f x))] = some (.bl (l.any f)) := by
  show (bools? _).map _ = _
  rw [bools_map]; simp [List.any_map]
end DL
set_option exponentiation.threshold 10000
namespace LW
open PySem DL
def Box (n : Nat) (d : D) : Prop := ∃ a x c : Int, d = .lst [.int a, .int x, .int c] ∧ 0 ≤ c ∧ c ≤ n
theorem Box.mono {n m : Nat} {d : D} (h : Box n d) (l : n ≤ m) : Box m d := by
  obtain ⟨a, x, c, e, h0, h1⟩ := h
  exact ⟨a, x, c, e, h0, by omega⟩
theorem powD_18 : powD (.int 10) (.int 18) = some (.int 1000000000000000000) := by simp [powD]
theorem powD_12 : powD (.int 10) (.int 12) = some (.int 1000000000000) := by simp [powD]
theorem powD_6 : powD (.int 10) (.int 6) = some (.int 1000000) := by simp [powD]
theorem take_ok {n : Nat} {b : D} {s : Int} (hb : Box n b) (hn : n < 2 ^ 60) (hs : 1 ≤ s) (hs2 : s < 2 ^ 64) : ∃ r b', m_law_take b (.int s) = some (.int r, b') ∧ 0 ≤ r ∧ r < s ∧ Box (n + 1) b' := by
  obtain ⟨a, x, c, rfl, h0, h1⟩ := hb
  have hl : s.natAbs.log2 < 9000 := log_ok (Nat.lt_of_lt_of_le (show s.natAbs < 2 ^ 64 by omega) (Nat.pow_le_pow_right (by decide) (by decide)))
  have p : 0 < s := by omega
  have md : ∀ i j : Int, 0 < j → modD (.int i) (.int j) = some (.int (i % j)) := fun i j h => by simp [modD, h]
  have dv : ∀ i j : Int, 0 < j → j.natAbs.log2 < 9000 → divD (.int i) (.int j) = some (.int (i / j)) := fun i j h h2 => by simp [divD, h, h2]
  by_cases ha : 0 < a
  · refine ⟨a % s, .lst [.int (a / s), .int x, .int c], ?_, Int.emod_nonneg _ (by omega), Int.emod_lt_of_pos _ (by omega), a / s, x, c, rfl, h0, by omega⟩
    have s2 : ∀ y, setL (.lst [.int a, .int x, .int c]) (.int 0) y = some (.lst [y, .int x, .int c]) := fun y => by simp [setL, L2.ixN]
    have i0 : ∀ a x c : D, ixD (.lst [a, x, c]) (.int 0) = some a := fun _ _ _ => by simp
    simp -implicitDefEqProofs only [m_law_take, i0, Option.bind_some, gtD_int, asB_bl, decide_eq_true_eq]
    rw [if_pos ha]
    simp only [md _ _ p, dv _ _ p hl, Option.bind_some, s2]
  · have m1 : ∀ i : Int, mulI (.int i) (.int (39373 + (c + 1))) = some (.int (i * (39373 + (c + 1)))) := fun i => mulI_r (by omega) (by omega)
    have m2 : mulI (.int 48271) (.int (c + 1)) = some (.int (48271 * (c + 1))) := mulI_l (by omega) (by omega)
    have m3 : ∀ i j : Int, mulI (.int i) (.int (j % 40009 + 7)) = some (.int (i * (j % 40009 + 7))) := fun i j => mulI_r (by omega) (by omega)
    have m4 : ∀ i : Int, mulI (.int i) (.int 48271) = some (.int (i * 48271)) := fun i => mulI_r (by omega) (by omega)
    have l1 : (1000003 : Int).natAbs.log2 < 9000 := by decide
    have l2 : (64 : Int).natAbs.log2 < 9000 := by decide
    obtain ⟨o, ho⟩ : ∃ o, (x + 48271 * (c + 1)) * (39373 + (c + 1)) % 2147483647 = o := ⟨_, rfl⟩
    obtain ⟨t, ht⟩ : ∃ t, (o + (c + 1) + x / 1000003) * (o % 40009 + 7) % 2147483629 = t := ⟨_, rfl⟩
    have q : m_law_take (.lst [.int a, .int x, .int c]) (.int s) = some (.int ((t * 48271 + o) % 2147483587 / 64 % s), .lst [.int a, .int x, .int (c + 1)]) := by
      have s2 : setL (.lst [.int a, .int x, .int c]) (.int 2) (.int (c + 1)) = some (.lst [.int a, .int x, .int (c + 1)]) := by simp [setL, L2.ixN]
      have i0 : ∀ a x c : D, ixD (.lst [a, x, c]) (.int 0) = some a := fun _ _ _ => by simp
      have i1 : ∀ a x c : D, ixD (.lst [a, x, c]) (.int 1) = some x := fun _ _ _ => by simp
      have i2 : ∀ a x c : D, ixD (.lst [a, x, c]) (.int 2) = some c := fun _ _ _ => by simp
      simp -implicitDefEqProofs only [m_law_take, i0, i1, i2, Option.bind_some, gtD_int, asB_bl, decide_eq_true_eq]
      rw [if_neg ha]
      simp -implicitDefEqProofs only [addD_int, s2, Option.bind_some, i1, i2, m2, m1, md _ 2147483647 (by decide), ho, dv _ 1000003 (by decide) l1, md _ 40009 (by decide), m3, md _ 2147483629 (by decide), ht, m4, md _ 2147483587 (by decide), dv _ 64 (by decide) l2, md _ _ p]
    exact ⟨_, _, q, Int.emod_nonneg _ (by omega), Int.emod_lt_of_pos _ (by omega), a, x, c + 1, rfl, by omega, by omega⟩
theorem cell_ok (ns : List Int) (k : Nat) : ∃ c : Int, m_law_cell_at (.scr ns) (.int k) = some (.int c) := by
  by_cases h : k < ns.length
  · refine ⟨ns[k], ?_⟩
    simp [m_law_cell_at, lenF, ixD, L2.atI, L2.ixN, h]
  · refine ⟨0, ?_⟩
    simp [m_law_cell_at, lenF, ixD, L2.atI, L2.ixN, h]
theorem box_ok (ns : List Int) (k : Nat) (hk : k < 1000) : ∃ b, m_law_box (.scr ns) (.int k) = some b ∧ Box 0 b := by
  obtain ⟨c, h⟩ := cell_ok ns k
  have m1 : ∀ i : Int, ∀ t : Bool, mulI (.int i) (.int (if t then 1 else 0)) = some (.int (i * (if t then 1 else 0))) := fun i t => mulI_r (by cases t <;> decide) (by cases t <;> decide)
  have m2 : mulI (.int 39373) (.int k) = some (.int (39373 * k)) := mulI_l (by omega) (by omega)
  have i1 : ∀ t : Bool, intF [.bl t] = some (.int (if t then 1 else 0)) := fun _ => rfl
  have a1 : ∀ i : Int, absF [.int i] = some (.int (if i < 0 then -i else i)) := fun _ => rfl
  have g1 : ∀ i j : Int, geD (.int i) (.int j) = some (.bl (decide (j ≤ i))) := fun _ _ => rfl
  refine ⟨_, ?_, (if c < 0 then -c else c) * (if decide ((1000000000000000000 : Int) ≤ (if c < 0 then -c else c)) = true then 1 else 0), c % 2305843009213693951 + 39373 * k + 17, 0, rfl, Int.le_refl _, Int.le_refl _⟩
  simp -implicitDefEqProofs only [m_law_box, h, Option.bind_some, a1, powD_18, g1, i1, m1, m2, addD_int, modD]
  simp [m2, mkLst_3]
theorem of_ok {n : Nat} {b : D} {xs : List D} (hb : Box n b) (hn : n < 2 ^ 60) (h1 : xs ≠ []) (h2 : xs.length ≤ 1000000) : ∃ x b', m_law_of b (.lst xs) = some (x, b') ∧ x ∈ xs ∧ Box (n + 1) b' := by
  have hp : 0 < xs.length := List.length_pos_iff.mpr h1
  obtain ⟨r, b', h, r0, r1, hb'⟩ := take_ok (s := (xs.length : Int)) hb hn (by omega) (by omega)
  have hr : r.toNat < xs.length := by omega
  refine ⟨xs[r.toNat], b', ?_, List.getElem_mem _, hb'⟩
  have hi : L2.atI xs r = some xs[r.toNat] := by
    unfold L2.atI L2.ixN
    rw [if_pos r0, if_pos r1]
    simp
  simp [m_law_of, lenF, h, ixD, hi]
theorem sea_ok {n : Nat} {b : D} {m : Int} (hb : Box n b) (hn : n < 2 ^ 50) (h1 : 1 ≤ m) (h2 : m ≤ 1000) : ∃ (a c far : Int) (xs : List Int) (b' : D),
    m_law_sea b (.int m) = some (.tup [.int a, .int c, .tup (xs.map .int)], b') ∧ 1 ≤ xs.length ∧ (xs.length : Int) ≤ m ∧ 0 ≤ far ∧ far ≤ 10 ^ 12 ∧ far ≤ a ∧ a ≤ far + xs.length + 1 ∧ far ≤ c ∧ c ≤ far + xs.length + 1 ∧ (∀ x ∈ xs, far ≤ x ∧ x ≤ far + 2 * xs.length + 1) ∧ Box (n + 3000) b' := by
  obtain ⟨r1, b1, e1, r1a, r1b, hb1⟩ := take_ok (s := m) hb (by omega) (by omega) (by omega)
  obtain ⟨r2, b2, e2, r2a, r2b, hb2⟩ := take_ok (s := 1000000) hb1 (by omega) (by omega) (by omega)
  obtain ⟨xf, b3, e3, hxf, hb3⟩ := of_ok (xs := [.int 0, .int 0, .int 0, .int (999999999800 - r2)]) hb2 (by omega) (by simp) (by simp)
  obtain ⟨far, rfl, f0, f1⟩ : ∃ far : Int, xf = .int far ∧ 0 ≤ far ∧ far ≤ 999999999800 := by
    simp only [List.mem_cons, List.mem_nil_iff, or_false] at hxf
    rcases hxf with rfl | rfl | rfl | rfl <;> exact ⟨_, rfl, by omega, by omega⟩
  obtain ⟨cnt, hcnt⟩ : ∃ cnt : Int, 1 + r1 = cnt := ⟨_, rfl⟩
  obtain ⟨xw, b4, e4, hxw, hb4⟩ := of_ok (xs := [.int 2, .int (cnt + 2), .int (2 * cnt + 2)]) hb3 (by omega) (by simp) (by simp)
  obtain ⟨w, rfl, w0, w1⟩ : ∃ w : Int, xw = .int w ∧ 2 ≤ w ∧ w ≤ 2 * cnt + 2 := by
    simp only [List.mem_cons, List.mem_nil_iff, or_false] at hxw
    rcases hxw with rfl | rfl | rfl <;> exact ⟨_, rfl, by omega, by omega⟩
  have mc : mulI (.int 2) (.int cnt) = some (.int (2 * cnt)) := mulI_l (by omega) (by omega)
  have q1 : rng1 [.val (.int 2)] = some (rngD 0 2) := rng1_ok (j := 2) (by omega) (by omega)
  have q2 : rng1 [.val (.int cnt)] = some (rngD 0 cnt.toNat) := rng1_ok (by omega) (by omega)
  simp -implicitDefEqProofs only [Option.bind_some, bd2_some, bd3_some, bd4_some, bd5_some, bd6_some, un_2_mk, un_3_mk, un_4_mk, un_5_mk, un_6_mk, flK_rt, flK_nx, asB_bl, asI_int, notD_bl, scG_bl, scG_int, scG_non, scG_str, unL_l, unL_t, un1_t, un2_t, un3_t, un4_t, isKG_l, isTG_l, addD_int, subD_int, ltD_int, leD_int, gtD_int, geD_int, negD_int, eqD_int, neD_int, eqD_bl, neD_bl, mkLst_0, mkTup_0, mkLst_1, mkTup_1, mkLst_2, mkTup_2, mkLst_3, mkTup_3, mkLst_4, mkTup_4, mkLst_5, mkTup_5, mkLst_6, mkTup_6, mkLst_7, mkTup_7, mkLst_8, mkTup_8, mkLst_9, mkTup_9, mkLst_10, mkTup_10, mkLst_11, mkTup_11, mkLst_12, mkTup_12, mkLst_13, mkTup_13, mkLst_14, mkTup_14, mkLst_15, mkTup_15, mkLst_16, mkTup_16, m_law_sea, e1, hcnt, powD_12, powD_6, Int.reduceSub, e2, e3, mc, e4, q1, q2]
  -- the depths
  have s1 := cmpS_one (f := fun d42 => fun boxhere43 => Option.bind (some (D.int (cnt + 2))) fun t44 =>
    bd2 (m_law_take boxhere43 t44) fun t46 boxhere47 => bd2 (m_law_take boxhere47 (D.int 2)) fun t49 boxhere50 => Option.bind (mulI t46 t49) fun t52 => Option.bind (addD (D.int far) t52) fun t54 => some ([t54], boxhere50))
    D.int (I := fun k b => Box (n + 10 + 2 * k) b) (Z := fun _ x => far ≤ x ∧ x ≤ far + cnt + 1) (ds := rngD 0 2) (t := b4) (hb4.mono (by omega)) (by
      intro j d hd b' hb'
      obtain ⟨hj, rfl⟩ := rngD_at hd
      obtain ⟨t1, c1, g1, t1a, t1b, hc1⟩ := take_ok (s := cnt + 2) hb' (by omega) (by omega) (by omega)
      obtain ⟨t2, c2, g2, t2a, t2b, hc2⟩ := take_ok (s := 2) hc1 (by omega) (by omega) (by omega)
      have m1 : mulI (.int t1) (.int t2) = some (.int (t1 * t2)) := mulI_r (by omega) (by omega)
      refine ⟨far + t1 * t2, c2, by simp [g1, g2, m1], hc2.mono (by omega), ?_⟩
      have : t2 = 0 ∨ t2 = 1 := by omega
      rcases this with rfl | rfl <;> simp <;> omega)
  obtain ⟨ys, b5, e5, hb5, l5, q5⟩ := s1
  rw [rngD_len] at l5 hb5
  obtain ⟨y0, y1, rfl⟩ : ∃ y0 y1, ys = [y0, y1] := by
    match ys, l5 with
    | [a, b], _ => exact ⟨a, b, rfl⟩
  have q50 := q5 0 (by simp)
  have q51 := q5 1 (by simp)
  simp only [Option.bind_some] at e5
  simp -implicitDefEqProofs only [Option.bind_some, bd2_some, bd3_some, bd4_some, bd5_some, bd6_some, un_2_mk, un_3_mk, un_4_mk, un_5_mk, un_6_mk, flK_rt, flK_nx, asB_bl, asI_int, notD_bl, scG_bl, scG_int, scG_non, scG_str, unL_l, unL_t, un1_t, un2_t, un3_t, un4_t, isKG_l, isTG_l, addD_int, subD_int, ltD_int, leD_int, gtD_int, geD_int, negD_int, eqD_int, neD_int, eqD_bl, neD_bl, mkLst_0, mkTup_0, mkLst_1, mkTup_1, mkLst_2, mkTup_2, mkLst_3, mkTup_3, mkLst_4, mkTup_4, mkLst_5, mkTup_5, mkLst_6, mkTup_6, mkLst_7, mkTup_7, mkLst_8, mkTup_8, mkLst_9, mkTup_9, mkLst_10, mkTup_10, mkLst_11, mkTup_11, mkLst_12, mkTup_12, mkLst_13, mkTup_13, mkLst_14, mkTup_14, mkLst_15, mkTup_15, mkLst_16, mkTup_16, e5]
  -- the draughts
  have s2 := cmpS_one (f := fun d62 => fun boxhere63 => bd2 (m_law_take boxhere63 (D.int w)) fun t64 boxhere65 => Option.bind (addD (D.int far) t64) fun t67 => some ([t67], boxhere65))
    D.int (I := fun k b => Box (n + 20 + k) b) (Z := fun _ x => far ≤ x ∧ x ≤ far + 2 * cnt + 1) (ds := rngD 0 cnt.toNat) (t := b5) (hb5.mono (by omega)) (by
      intro j d hd b' hb'
      obtain ⟨hj, rfl⟩ := rngD_at hd
      obtain ⟨t1, c1, g1, t1a, t1b, hc1⟩ := take_ok (s := w) hb' (by omega) (by omega) (by omega)
      exact ⟨far + t1, c1, by simp [g1], hc1.mono (by omega), by omega, by omega⟩)
  obtain ⟨xs, b6, e6, hb6, l6, q6⟩ := s2
  rw [rngD_len] at l6 hb6
  simp -implicitDefEqProofs only [Option.bind_some, bd2_some, bd3_some, bd4_some, bd5_some, bd6_some, un_2_mk, un_3_mk, un_4_mk, un_5_mk, un_6_mk, flK_rt, flK_nx, asB_bl, asI_int, notD_bl, scG_bl, scG_int, scG_non, scG_str, unL_l, unL_t, un1_t, un2_t, un3_t, un4_t, isKG_l, isTG_l, addD_int, subD_int, ltD_int, leD_int, gtD_int, geD_int, negD_int, eqD_int, neD_int, eqD_bl, neD_bl, mkLst_0, mkTup_0, mkLst_1, mkTup_1, mkLst_2, mkTup_2, mkLst_3, mkTup_3, mkLst_4, mkTup_4, mkLst_5, mkTup_5, mkLst_6, mkTup_6, mkLst_7, mkTup_7, mkLst_8, mkTup_8, mkLst_9, mkTup_9, mkLst_10, mkTup_10, mkLst_11, mkTup_11, mkLst_12, mkTup_12, mkLst_13, mkTup_13, mkLst_14, mkTup_14, mkLst_15, mkTup_15, mkLst_16, mkTup_16, e6]
  obtain ⟨r7, b7, e7, r7a, r7b, hb7⟩ := take_ok (s := 4) hb6 (by omega) (by omega) (by omega)
  simp -implicitDefEqProofs only [Option.bind_some, bd2_some, bd3_some, bd4_some, bd5_some, bd6_some, un_2_mk, un_3_mk, un_4_mk, un_5_mk, un_6_mk, flK_rt, flK_nx, asB_bl, asI_int, notD_bl, scG_bl, scG_int, scG_non, scG_str, unL_l, unL_t, un1_t, un2_t, un3_t, un4_t, isKG_l, isTG_l, addD_int, subD_int, ltD_int, leD_int, gtD_int, geD_int, negD_int, eqD_int, neD_int, eqD_bl, neD_bl, mkLst_0, mkTup_0, mkLst_1, mkTup_1, mkLst_2, mkTup_2, mkLst_3, mkTup_3, mkLst_4, mkTup_4, mkLst_5, mkTup_5, mkLst_6, mkTup_6, mkLst_7, mkTup_7, mkLst_8, mkTup_8, mkLst_9, mkTup_9, mkLst_10, mkTup_10, mkLst_11, mkTup_11, mkLst_12, mkTup_12, mkLst_13, mkTup_13, mkLst_14, mkTup_14, mkLst_15, mkTup_15, mkLst_16, mkTup_16, e7]
  have q6' : ∀ x ∈ xs, far ≤ x ∧ x ≤ far + 2 * cnt + 1 := fun x hx => by
    obtain ⟨j, hj, e⟩ := List.getElem_of_mem hx
    have := q6 j hj
    rw [e] at this
    exact this
  by_cases h7 : r7 = 0
  · rw [if_pos (by simp [h7])]
    have hx0 : 0 < xs.length := by omega
    have s3 := cmpS_one (f := fun d105 => fun boxhere106 => bd2 (m_law_take boxhere106 (D.int 2)) fun t107 boxhere108 => Option.bind (eqD t107 (D.int 0)) fun t110 => Option.bind (asB t110) fun c112 =>
      Option.bind (if c112 = true then (Option.bind (ixD (D.lst (xs.map D.int)) d105) fun t114 => some t114) else (Option.bind (ixD (D.lst (xs.map D.int)) (D.int 0)) fun t116 => some t116)) fun t118 => some ([t118], boxhere108))
      D.int (I := fun k b => Box (n + 1500 + k) b) (Z := fun _ x => far ≤ x ∧ x ≤ far + 2 * cnt + 1) (ds := rngD 0 cnt.toNat) (t := b7) (hb7.mono (by omega)) (by
        intro j d hd b' hb'
        obtain ⟨hj, rfl⟩ := rngD_at hd
        obtain ⟨t1, c1, g1, t1a, t1b, hc1⟩ := take_ok (s := 2) hb' (by omega) (by omega) (by omega)
        have hjx : j < xs.length := by omega
        by_cases ht : t1 = 0
        · exact ⟨xs[j], c1, by simp [g1, ht, ix_lst, hjx], hc1.mono (by omega), q6' _ (List.getElem_mem _)⟩
        · exact ⟨xs[0], c1, by simp [g1, ht, hx0], hc1.mono (by omega), q6' _ (List.getElem_mem _)⟩)
    obtain ⟨zs, b8, e8, hb8, l8, q8⟩ := s3
    rw [rngD_len] at l8 hb8
    refine ⟨y0, y1, far, zs, b8, ?_, by omega, by omega, f0, by omega, q50.1, ?_, q51.1, ?_, fun x hx => ?_, hb8.mono (by omega)⟩
    · simp -implicitDefEqProofs only [Option.bind_some, bd2_some, bd3_some, bd4_some, bd5_some, bd6_some, un_2_mk, un_3_mk, un_4_mk, un_5_mk, un_6_mk, flK_rt, flK_nx, asB_bl, asI_int, notD_bl, scG_bl, scG_int, scG_non, scG_str, unL_l, unL_t, un1_t, un2_t, un3_t, un4_t, isKG_l, isTG_l, addD_int, subD_int, ltD_int, leD_int, gtD_int, geD_int, negD_int, eqD_int, neD_int, eqD_bl, neD_bl, mkLst_0, mkTup_0, mkLst_1, mkTup_1, mkLst_2, mkTup_2, mkLst_3, mkTup_3, mkLst_4, mkTup_4, mkLst_5, mkTup_5, mkLst_6, mkTup_6, mkLst_7, mkTup_7, mkLst_8, mkTup_8, mkLst_9, mkTup_9, mkLst_10, mkTup_10, mkLst_11, mkTup_11, mkLst_12, mkTup_12, mkLst_13, mkTup_13, mkLst_14, mkTup_14, mkLst_15, mkTup_15, mkLst_16, mkTup_16, q2, e8, tupF]; simp [mkTup_3]
    · have := q50.2; simp at this ⊢; omega
    · have := q51.2; simp at this ⊢; omega
    · obtain ⟨j, hj, e⟩ := List.getElem_of_mem hx
      have := q8 j hj
      rw [e] at this
      omega
  · rw [if_neg (by simp [h7])]
    refine ⟨y0, y1, far, xs, b7, ?_, by omega, by omega, f0, by omega, q50.1, ?_, q51.1, ?_, fun x hx => ?_, hb7.mono (by omega)⟩
    · simp [tupF, mkTup_3]
    · have := q50.2; simp at this ⊢; omega
    · have := q51.2; simp at this ⊢; omega
    · have := q6' x hx; omega
end LW
namespace DL
open PySem
def nD (l : List Nat) : List D := l.map fun (i : Nat) => D.int (i : Int)
theorem nD_len (l : List Nat) : (nD l).length = l.length := List.length_map _
theorem okDs_nD {n : Nat} (l : List Nat) : okDs n (nD l) = true := by
  rw [okDs_all]; intro d hd; obtain ⟨i, _, rfl⟩ := List.mem_map.mp hd; exact okD_int
theorem okD_nT {n : Nat} (l : List Nat) : okD (n + 1) (.tup (nD l)) = true := by rw [okD_tup]; exact okDs_nD l
theorem nD_ints (l : List Nat) : nD l = (l.map fun (i : Nat) => (i : Int)).map D.int := by unfold nD; rw [List.map_map]; rfl
/-- what stands as a standing of n ships -/
def IsSt (n : Nat) (l : List Nat) : Prop := ∃ p : Nat → Bool, l = (List.range n).filter p
theorem IsSt.mk {n : Nat} (p : Nat → Bool) : IsSt n ((List.range n).filter p) := ⟨p, rfl⟩
theorem IsSt.lt {n : Nat} {l : List Nat} (h : IsSt n l) {i : Nat} (hi : i ∈ l) : i < n := by
  obtain ⟨p, rfl⟩ := h
  exact List.mem_range.mp (List.mem_filter.mp hi).1
theorem IsSt.eq {n : Nat} {l : List Nat} (h : IsSt n l) : l = (List.range n).filter fun i => l.contains i := by
  obtain ⟨p, rfl⟩ := h
  refine List.filter_congr fun i hi => ?_
  cases e : p i with
  | true => exact (List.contains_iff_mem.mpr (List.mem_filter.mpr ⟨hi, e⟩)).symm
  | false =>
    cases q : ((List.range n).filter p).contains i with
    | false => rfl
    | true => rw [(List.mem_filter.mp (List.contains_iff_mem.mp q)).2] at e; cases e
theorem IsSt.len {n : Nat} {l : List Nat} (h : IsSt n l) : l.length ≤ n := by
  obtain ⟨p, rfl⟩ := h
  have := List.length_filter_le p (List.range n)
  rwa [List.length_range] at this
theorem rng_n (n : Nat) (h : n ≤ 1000000) : rng1 [.val (.int (n : Int))] = some (rngD 0 n) := by rw [rng1_ok (by omega) (by omega)]; rfl
theorem trg_n (n : Nat) (h : n ≤ 1000000) : trgF [.int (n : Int)] = some (.tup (nD (List.range n))) := by
  have e : okRg 0 (n : Int) = true := by
    unfold okRg ok62
    simp only [Bool.and_eq_true, decide_eq_true_eq]
    refine ⟨⟨⟨by omega, by omega⟩, by omega, by omega⟩, lim_ok (by omega)⟩
  have e2 : rgD 0 (n : Int) = nD (List.range n) := by
    unfold rgD rngD nD
    rw [show ((n : Int) - 0).toNat = n by omega]
    exact List.map_congr_left fun i _ => by rw [Int.zero_add]
  show (if okRg 0 (n : Int) = true then some (D.tup (rgD 0 (n : Int))) else none) = _
  rw [if_pos e, e2]
/-- what is taken by draws: some of them -/
theorem cmpS_sel {τ : Type} {f : D → τ → Option (List D × τ)} {n : Nat} {t : τ} (I : Nat → τ → Prop) (h0 : I 0 t) (h : ∀ i, i < n → ∀ t, I i t → ∃ (c : Bool) (t' : τ), f (.int (i : Int)) t = some (if c = true then [.int (i : Int)] else [], t') ∧ I (i + 1) t') :
    ∃ (p : Nat → Bool) (t' : τ), cmpS f (rngD 0 n) t = some (nD ((List.range n).filter p), t') ∧ I n t' := by
  obtain ⟨zss, t', e1, i1, l1, q1⟩ := cmpS_inv (f := f) I (fun i z => ∃ c : Bool, z = if c = true then [D.int (i : Int)] else []) (ds := rngD 0 n) (k := 0) h0 fun i d hd t ht => by
    obtain ⟨hi, rfl⟩ := rngD_at hd
    rw [Nat.zero_add] at ht ⊢
    obtain ⟨c, t', e, i'⟩ := h i hi t ht
    exact ⟨_, t', e, i', c, rfl⟩
  rw [rngD_len, Nat.zero_add] at i1
  rw [rngD_len] at l1
  have key : ∀ (zss : List (List D)) (k : Nat), (∀ i z, zss[i]? = some z → ∃ c : Bool, z = if c = true then [D.int ((k + i : Nat) : Int)] else []) → ∃ p : Nat → Bool, zss.flatten = nD ((List.range' k zss.length).filter p) := by
    intro zss
    induction zss with
    | nil => exact fun k _ => ⟨fun _ => false, rfl⟩
    | cons z zss ih =>
      intro k hz
      obtain ⟨c, rfl⟩ := hz 0 z rfl
      obtain ⟨p, e⟩ := ih (k + 1) fun i z hi => by
        have := hz (i + 1) z (by simpa using hi)
        rwa [show k + (i + 1) = k + 1 + i by omega] at this
      refine ⟨fun i => if i = k then c else p i, ?_⟩
      rw [List.flatten_cons, e, List.length_cons, List.range'_succ, List.filter_cons]
      have e2 : (List.range' (k + 1) zss.length).filter (fun i => if i = k then c else p i) = (List.range' (k + 1) zss.length).filter p := List.filter_congr fun i hi => by
        have := (List.mem_range'.mp hi)
        obtain ⟨j, _, rfl⟩ := this
        rw [if_neg (by omega)]
      rw [e2]
      cases c <;> simp [nD]
  obtain ⟨p, e⟩ := key zss 0 fun i z hi => by
    obtain ⟨c, rfl⟩ := q1 i z hi
    exact ⟨c, by rw [Nat.zero_add]⟩
  rw [l1, ← List.range_eq_range'] at e
  exact ⟨p, t', by rw [e1, e], i1⟩
end DL
namespace LW
open PySem DL
theorem same_ok : ∀ (k : Nat) (d : D) (n : Nat), okD k d = true → k ≤ 60 → k < n → m_law_same_n n d d = some (.bl true) := by
  intro k
  induction k with
  | zero =>
    intro d n h _ l
    obtain ⟨m, rfl⟩ : ∃ m, n = m + 1 := ⟨n - 1, by omega⟩
    have e := eqD_self h (by omega)
    cases d <;> first | (simp [okD] at h; done) | simp [m_law_same_n, isiD, isiD2, tyN, isiN, isD, isND, e]
  | succ k ih =>
    intro d n h hk l
    obtain ⟨m, rfl⟩ : ∃ m, n = m + 1 := ⟨n - 1, by omega⟩
    have e := eqD_self h (by omega)
    have key : ∀ ds : List D, okDs k ds = true → cmpP (fun d35 => bd2 (un2 d35) fun a36 b37 => Option.bind (m_law_same_n m a36 b37) fun t39 => some [t39]) (zipF ds ds) = some (ds.map fun _ => .bl true) := fun ds hs => by
      have hs := okDs_all.mp hs
      have : ∀ ds : List D, zipF ds ds = ds.map fun x => .tup [x, x] := fun ds => by induction ds with | nil => rfl | cons x l ih => simp [zipF, ih]
      rw [this]
      exact cmpP_lstM (fun _ => .bl true) fun x hx => by simp [ih x m (hs x hx) (by omega) (by omega)]
    have al : ∀ ds : List D, allF [.lst (ds.map fun _ => .bl true)] = some (.bl true) := fun ds => by rw [← flatMap_one]; exact allF_one ds
    cases d with
    | lst ds => simp [m_law_same_n, isiD, isiD2, tyN, isiN, lenF, zipA, key ds (by simpa [okD] using h), al]
    | tup ds => simp [m_law_same_n, isiD, isiD2, tyN, isiN, lenF, zipA, key ds (by simpa [okD] using h), al]
    | _ => first | (simp [okD] at h; done) | simp [m_law_same_n, isiD, isiD2, tyN, isiN, isD, isND, e]
theorem same_id {d : D} (h : okD 7 d = true) : m_law_same d d = some (.bl true) := same_ok 7 d 8 h (by omega) (by omega)
end LW
namespace LW
open PySem DL
/-- any standing -/
theorem lot_ok {n k : Nat} {b : D} (hb : Box n b) (hn : n < 2 ^ 50) (hk : k ≤ 1000) : ∃ (S : List Nat) (b' : D), m_law_lot b (.int (k : Int)) = some (.tup (nD S), b') ∧ IsSt k S ∧ Box (n + 1010) b' := by
  obtain ⟨xo, b1, e1, ho, hb1⟩ := of_ok (xs := [.int 1, .int 2, .int 2, .int 3, .int 4]) hb (by omega) (by simp) (by simp)
  obtain ⟨o, rfl, o0, o1⟩ : ∃ o : Int, xo = .int o ∧ 1 ≤ o ∧ o ≤ 4 := by
    simp only [List.mem_cons, List.mem_nil_iff, or_false] at ho
    rcases ho with rfl | rfl | rfl | rfl | rfl <;> exact ⟨_, rfl, by omega, by omega⟩
  obtain ⟨r2, b2, e2, r2a, r2b, hb2⟩ := take_ok (s := 8) hb1 (by omega) (by omega) (by omega)
  by_cases h2 : r2 = 0
  · obtain ⟨r3, b3, e3, r3a, r3b, hb3⟩ := take_ok (s := 2) hb2 (by omega) (by omega) (by omega)
    by_cases h3 : r3 = 0
    · refine ⟨List.range k, b3, ?_, ⟨fun _ => true, by rw [List.filter_eq_self.mpr fun _ _ => rfl]⟩, hb3.mono (by omega)⟩
      simp -implicitDefEqProofs only [Option.bind_some, bd2_some, bd3_some, bd4_some, bd5_some, bd6_some, un_2_mk, un_3_mk, un_4_mk, un_5_mk, un_6_mk, flK_rt, flK_nx, asB_bl, asI_int, notD_bl, scG_bl, scG_int, scG_non, scG_str, unL_l, unL_t, un1_t, un2_t, un3_t, un4_t, isKG_l, isTG_l, addD_int, subD_int, ltD_int, leD_int, gtD_int, geD_int, negD_int, eqD_int, neD_int, eqD_bl, neD_bl, mkLst_0, mkTup_0, mkLst_1, mkTup_1, mkLst_2, mkTup_2, mkLst_3, mkTup_3, mkLst_4, mkTup_4, mkLst_5, mkTup_5, mkLst_6, mkTup_6, mkLst_7, mkTup_7, mkLst_8, mkTup_8, mkLst_9, mkTup_9, mkLst_10, mkTup_10, mkLst_11, mkTup_11, mkLst_12, mkTup_12, mkLst_13, mkTup_13, mkLst_14, mkTup_14, mkLst_15, mkTup_15, mkLst_16, mkTup_16, m_law_lot, e1, e2, h2, e3, h3, trg_n k (by omega), decide_true, if_true]
    · refine ⟨[], b3, ?_, ⟨fun _ => false, by rw [List.filter_eq_nil_iff.mpr fun _ _ => Bool.false_ne_true]⟩, hb3.mono (by omega)⟩
      simp -implicitDefEqProofs only [Option.bind_some, bd2_some, bd3_some, bd4_some, bd5_some, bd6_some, un_2_mk, un_3_mk, un_4_mk, un_5_mk, un_6_mk, flK_rt, flK_nx, asB_bl, asI_int, notD_bl, scG_bl, scG_int, scG_non, scG_str, unL_l, unL_t, un1_t, un2_t, un3_t, un4_t, isKG_l, isTG_l, addD_int, subD_int, ltD_int, leD_int, gtD_int, geD_int, negD_int, eqD_int, neD_int, eqD_bl, neD_bl, mkLst_0, mkTup_0, mkLst_1, mkTup_1, mkLst_2, mkTup_2, mkLst_3, mkTup_3, mkLst_4, mkTup_4, mkLst_5, mkTup_5, mkLst_6, mkTup_6, mkLst_7, mkTup_7, mkLst_8, mkTup_8, mkLst_9, mkTup_9, mkLst_10, mkTup_10, mkLst_11, mkTup_11, mkLst_12, mkTup_12, mkLst_13, mkTup_13, mkLst_14, mkTup_14, mkLst_15, mkTup_15, mkLst_16, mkTup_16, m_law_lot, e1, e2, h2, e3, h3, decide_true, decide_false, if_true, Bool.false_eq_true, if_false]
      rfl
  · obtain ⟨p, b3, e3, hb3⟩ := cmpS_sel (f := fun d30 => fun boxhere31 => bd2 (m_law_take boxhere31 (.int o)) fun t32 boxhere33 => Option.bind (eqD t32 (D.int 0)) fun t35 => Option.bind (asB t35) fun c37 => if c37 = true then (some ([d30], boxhere33)) else some ([], boxhere33))
      (n := k) (t := b2) (fun i b => Box (n + 2 + i) b) (hb2.mono (by omega)) (by
        intro i hi b hb
        obtain ⟨r, b', e, _, _, hb'⟩ := take_ok (s := o) hb (by omega) (by omega) (by omega)
        refine ⟨decide (r = 0), b', ?_, hb'.mono (by omega)⟩
        simp -implicitDefEqProofs only [Option.bind_some, bd2_some, bd3_some, bd4_some, bd5_some, bd6_some, un_2_mk, un_3_mk, un_4_mk, un_5_mk, un_6_mk, flK_rt, flK_nx, asB_bl, asI_int, notD_bl, scG_bl, scG_int, scG_non, scG_str, unL_l, unL_t, un1_t, un2_t, un3_t, un4_t, isKG_l, isTG_l, addD_int, subD_int, ltD_int, leD_int, gtD_int, geD_int, negD_int, eqD_int, neD_int, eqD_bl, neD_bl, mkLst_0, mkTup_0, mkLst_1, mkTup_1, mkLst_2, mkTup_2, mkLst_3, mkTup_3, mkLst_4, mkTup_4, mkLst_5, mkTup_5, mkLst_6, mkTup_6, mkLst_7, mkTup_7, mkLst_8, mkTup_8, mkLst_9, mkTup_9, mkLst_10, mkTup_10, mkLst_11, mkTup_11, mkLst_12, mkTup_12, mkLst_13, mkTup_13, mkLst_14, mkTup_14, mkLst_15, mkTup_15, mkLst_16, mkTup_16, e]
        split <;> rfl)
    refine ⟨_, b3, ?_, .mk p, hb3.mono (by omega)⟩
    simp -implicitDefEqProofs only [Option.bind_some, bd2_some, bd3_some, bd4_some, bd5_some, bd6_some, un_2_mk, un_3_mk, un_4_mk, un_5_mk, un_6_mk, flK_rt, flK_nx, asB_bl, asI_int, notD_bl, scG_bl, scG_int, scG_non, scG_str, unL_l, unL_t, un1_t, un2_t, un3_t, un4_t, isKG_l, isTG_l, addD_int, subD_int, ltD_int, leD_int, gtD_int, geD_int, negD_int, eqD_int, neD_int, eqD_bl, neD_bl, mkLst_0, mkTup_0, mkLst_1, mkTup_1, mkLst_2, mkTup_2, mkLst_3, mkTup_3, mkLst_4, mkTup_4, mkLst_5, mkTup_5, mkLst_6, mkTup_6, mkLst_7, mkTup_7, mkLst_8, mkTup_8, mkLst_9, mkTup_9, mkLst_10, mkTup_10, mkLst_11, mkTup_11, mkLst_12, mkTup_12, mkLst_13, mkTup_13, mkLst_14, mkTup_14, mkLst_15, mkTup_15, mkLst_16, mkTup_16, m_law_lot, e1, e2, h2, decide_false, Bool.false_eq_true, if_false, rng_n k (by omega)]
    rw [e3]
    rfl
end LW
namespace DL
open PySem
theorem cut_take {xs : List D} (k : Nat) : cutD xs none (some (k : Int)) = xs.take k := by
  unfold cutD HT.sIx
  simp only [List.drop_zero, Nat.sub_zero]
  rw [if_neg (by omega), Int.toNat_natCast]
  by_cases h : k ≤ xs.length
  · rw [Nat.min_eq_left h]
  · rw [Nat.min_eq_right (by omega), List.take_of_length_le (by omega), List.take_of_length_le (by omega)]
theorem slice_take {xs : List D} (k : Nat) : sliceD (.lst xs) none (some (k : Int)) = some (.lst (xs.take k)) := by
  show some (D.lst (cutD xs none (some (k : Int)))) = _
  rw [cut_take]
theorem nD_take (l : List Nat) (k : Nat) : (nD l).take k = nD (l.take k) := (List.map_take ..).symm
end DL
namespace DL
open PySem
theorem fldR_nx {R τ : Type} {f : D → τ → Option (Fl R τ)} {d : D} {ds : List D} {t t' : τ} (h : f d t = some (.nx t')) : fldR f (d :: ds) t = fldR f ds t' := by
  simp [fldR, h]
theorem sel_lt (n : Nat) (p : Nat → Bool) : ((List.range n).filter p).Pairwise (· < ·) := List.Pairwise.filter _ List.pairwise_lt_range
end DL
namespace DL
open PySem
theorem eqv_int (i j : Int) : PyData.eqv (py (.int i)) (py (.int j)) = decide (i = j) := by
  show PyData.eqv (.int i) (.int j) = _
  rw [PyData.eqv]; rfl
theorem eqv_str (i j : Str) : PyData.eqv (py (.str i)) (py (.str j)) = decide (i = j) := by
  show PyData.eqv (.str i) (.str j) = _
  rw [PyData.eqv]; rfl
theorem eqvAll_n : ∀ l m : List Nat, PyData.eqvAll (pys (nD l)) (pys (nD m)) = decide (l = m)
  | [], [] => rfl
  | [], y :: m => by show PyData.eqvAll (pys []) (pys (.int (y : Int) :: nD m)) = _; rw [pys, pys, PyData.eqvAll]; rfl
  | x :: l, [] => by show PyData.eqvAll (pys (.int (x : Int) :: nD l)) (pys []) = _; rw [pys, pys, PyData.eqvAll]; rfl
  | x :: l, y :: m => by
    show PyData.eqvAll (pys (.int (x : Int) :: nD l)) (pys (.int (y : Int) :: nD m)) = _
    rw [pys, pys, PyData.eqvAll, eqv_int, eqvAll_n l m, ← Bool.decide_and]
    exact decide_eq_decide.mpr (by rw [List.cons.injEq, Int.natCast_inj])
theorem eqv_nt (l m : List Nat) : PyData.eqv (py (.tup (nD l))) (py (.tup (nD m))) = decide (l = m) := by
  rw [py, py, PyData.eqv, eqvAll_n]
end DL
namespace DL
open PySem
theorem st_sorted {n : Nat} {l : List Nat} (h : IsSt n l) : l.Pairwise (· < ·) := by
  obtain ⟨p, rfl⟩ := h; exact sel_lt n p
theorem nat_ext {l m : List Nat} (hl : l.Pairwise (· < ·)) (hm : m.Pairwise (· < ·)) (h : ∀ k, k ∈ l ↔ k ∈ m) : l = m :=
  List.Perm.eq_of_pairwise (fun a b _ _ h1 h2 => by omega) hl hm ((List.perm_ext_iff_of_nodup (hl.imp fun h e => by omega) (hm.imp fun h e => by omega)).mpr h)
theorem IsSt.of {n : Nat} {l : List Nat} (h : l.Pairwise (· < ·)) (hl : ∀ i ∈ l, i < n) : IsSt n l :=
  ⟨fun i => l.contains i, nat_ext h (sel_lt n _) fun k => by
    rw [List.mem_filter, List.mem_range, List.contains_eq_mem, decide_eq_true_eq]
    exact ⟨fun z => ⟨hl k z, z⟩, fun z => z.2⟩⟩
theorem IsSt.take {n : Nat} {l : List Nat} (h : IsSt n l) (k : Nat) : IsSt n (l.take k) :=
  .of ((st_sorted h).sublist (List.take_sublist _ _)) fun i hi => h.lt (List.mem_of_mem_take hi)
theorem neD_nt (l m : List Nat) : neD (.tup (nD l)) (.tup (nD m)) = some (.bl (!decide (l = m))) := by
  have e : neD (.tup (nD l)) (.tup (nD m)) = if okD 60 (.tup (nD l)) && okD 60 (.tup (nD m)) then some (.bl (!PyData.eqv (py (.tup (nD l))) (py (.tup (nD m))))) else none := rfl
  rw [e, okD_nT, okD_nT, eqv_nt]; rfl
theorem cast_lt {l : List Nat} (h : l.Pairwise (· < ·)) : (l.map fun (i : Nat) => (i : Int)).Pairwise (· < ·) := List.pairwise_map.mpr (h.imp fun z => by omega)
theorem srt_n {n : Nat} {l : List Nat} (h : ∀ i ∈ l, i < n) : srt (l.map fun (i : Nat) => (i : Int)) = ((List.range n).filter fun i => l.contains i).map fun (i : Nat) => (i : Int) := by
  refine sorted_ext (srt_sorted _) (cast_lt (sel_lt n _)) fun k => ?_
  rw [mem_srt]
  simp only [List.mem_map, List.mem_filter, List.mem_range, List.contains_eq_mem, decide_eq_true_eq]
  constructor
  · rintro ⟨i, hi, rfl⟩; exact ⟨i, ⟨h i hi, hi⟩, rfl⟩
  · rintro ⟨i, ⟨_, hi⟩, rfl⟩; exact ⟨i, hi, rfl⟩
theorem slice_takeT {xs : List D} (k : Nat) : sliceD (.tup xs) none (some (k : Int)) = some (.tup (xs.take k)) := by
  show some (D.tup (cutD xs none (some (k : Int)))) = _
  rw [cut_take]
end DL
namespace DL
open PySem
theorem cut_drop {xs : List D} (k : Nat) : cutD xs (some (k : Int)) none = xs.drop k := by
  unfold cutD HT.sIx
  simp only []
  rw [if_neg (by omega), Int.toNat_natCast]
  by_cases h : k ≤ xs.length
  · rw [Nat.min_eq_left h, List.take_of_length_le (by rw [List.length_drop]; omega)]
  · rw [Nat.min_eq_right (by omega), List.drop_of_length_le (Nat.le_refl _), List.drop_of_length_le (by omega)]; simp
theorem slice_drop {xs : List D} (k : Nat) : sliceD (.lst xs) (some (k : Int)) none = some (.lst (xs.drop k)) := by
  show some (D.lst (cutD xs (some (k : Int)) none)) = _
  rw [cut_drop]
theorem fldR_nil {R τ : Type} {f : D → τ → Option (Fl R τ)} {t : τ} : fldR f [] t = some (.nx t) := rfl
end DL
namespace LW
open PySem DL
theorem figs_lit : TL.tl ("0123456789" : Str) = [48, 49, 50, 51, 52, 53, 54, 55, 56, 57] := by rw [TL.tl_ofString]; rfl
theorem tl_zero : TL.tl ("0" : Str) = [48] := by rw [TL.tl_ofString]; rfl
theorem tl_nil : TL.tl ("" : Str) = [] := by rw [TL.tl_ofString]; rfl
theorem tl_dash : TL.tl ("-" : Str) = [45] := by rw [TL.tl_ofString]; rfl
theorem tl_colon : TL.tl (":" : Str) = [58] := by rw [TL.tl_ofString]; rfl
theorem tl_nl : TL.tl ("\n" : Str) = [10] := by rw [TL.tl_ofString]; rfl
theorem fig_mem (c : Nat) : decide (c ∈ TL.tl ("0123456789" : Str)) = fig c := by
  rw [figs_lit]
  unfold fig
  rw [← Bool.decide_and]
  refine decide_eq_decide.mpr ?_
  simp only [List.mem_cons, List.mem_nil_iff, or_false]
  omega
theorem sign_in (c : Nat) : inSD false (.str ⟨#[c]⟩) (.str ("0123456789" : Str)) = some (.bl (fig c)) := by
  have : inSD false (.str ⟨#[c]⟩) (.str ("0123456789" : Str)) = some (.bl (decide (c ∈ TL.tl ("0123456789" : Str)) != false)) := rfl
  rw [this, fig_mem, Bool.bne_false]
theorem signD_tl (w : Str) : signD w = (TL.tl w).map fun c => D.str ⟨#[c]⟩ := rfl
theorem eqD_ss (a b : Str) : eqD (.str a) (.str b) = some (.bl (decide (a = b))) := by
  have : eqD (.str a) (.str b) = some (.bl (PyData.eqv (py (.str a)) (py (.str b)))) := rfl
  rw [this, eqv_str]
theorem neD_ss (a b : Str) : neD (.str a) (.str b) = some (.bl (!decide (a = b))) := by
  have : neD (.str a) (.str b) = some (.bl (!PyData.eqv (py (.str a)) (py (.str b)))) := rfl
  rw [this, eqv_str]
theorem lim_of {n : Nat} (h : n ≤ 1000000) : lim n = true := decide_eq_true h
theorem len_s {w : Str} (h : w.length ≤ 1000000) : lenF [.str w] = some (.int (w.length : Int)) := by
  show (if lim w.length = true then _ else _) = _
  rw [if_pos (lim_of h)]
theorem unS_s {w : Str} (h : w.length ≤ 1000000) : unS (.str w) = some (signD w) := if_pos (lim_of h)
theorem figs_ok (w : Str) : cmpP (fun d14 => Option.bind ((inSD false) d14 (D.str "0123456789")) fun t15 => some [t15]) (signD w) = some ((TL.tl w).map fun c => .bl (fig c)) := by
  rw [signD_tl]
  exact cmpP_lstM (fun c => D.bl (fig c)) fun c _ => by rw [sign_in]; rfl
theorem str_n {n : Nat} (h : n < 10 ^ 13) : strF [.int (n : Int)] = some (.str (Str.ofString (toString (n : Int)))) := by
  show (if (n : Int).natAbs.log2 < 1920 then _ else _) = _
  have : (n : Int).natAbs.log2 < 1920 := by
    rw [Int.natAbs_natCast]
    by_cases h0 : n = 0
    · subst h0; decide
    · exact Nat.lt_trans ((Nat.log2_lt h0).mpr (show n < 2 ^ 44 from Nat.lt_of_lt_of_le h (by decide))) (by decide)
  rw [if_pos this]
theorem val_lt {l : List Nat} (h : NumText.AllDigits l) : NumText.digitsVal l < 10 ^ l.length := by
  have key : ∀ n (l : List Nat), l.length = n → NumText.AllDigits l → NumText.digitsVal l < 10 ^ n := by
    intro n
    induction n with
    | zero => intro l e h; cases l with
              | nil => decide
              | cons _ _ => simp at e
    | succ n ih =>
      intro l e h
      have hne : l ≠ [] := by intro q; rw [q] at e; simp at e
      have q := List.dropLast_concat_getLast hne
      have hl : l.dropLast.length = n := by rw [List.length_dropLast, e]; rfl
      have i := ih l.dropLast hl fun c hc => h c (List.dropLast_subset l hc)
      have hc := h _ (List.getLast_mem hne)
      rw [← q, NumText.digitsVal_snoc, Nat.pow_succ]
      omega
  exact key _ l rfl h
theorem int_ok {w : Str} (h : (TL.tl w).all fig = true) (h0 : TL.tl w ≠ []) (hl : w.length ≤ 13) : intTF [.str w] = some (.int ((NumText.digitsVal (TL.tl w) : Nat) : Int)) := by
  show (if w.length ≤ 640 then _ else _) = _
  rw [if_pos (by omega), intText_digits (figs_all h) h0 (by omega)]
  rfl
theorem str_eq {w : Str} (h : (TL.tl w).all fig = true) : (Str.ofString (toString ((NumText.digitsVal (TL.tl w) : Nat) : Int)) = w) ↔ TL.numL (NumText.digitsVal (TL.tl w)) = TL.tl w := by
  constructor
  · intro e
    have := congrArg TL.tl e
    rwa [TL.tl_num] at this
  · intro e
    exact TL.ext_tl (by rw [TL.tl_num, e])
theorem numW_bad {w : Str} (h : ¬ (w.length ≤ 13 ∧ (TL.tl w).all fig = true ∧ TL.tl w ≠ [])) : numW w = none := by
  unfold numW canon
  rw [if_neg]
  intro e
  rw [Bool.and_eq_true, Bool.and_eq_true, Bool.and_eq_true, decide_eq_true_eq] at e
  refine h ⟨e.1, e.2.1.1, ?_⟩
  intro q
  rw [q] at e
  exact Bool.false_ne_true e.2.1.2
theorem numW_good {w : Str} (h1 : w.length ≤ 13) (h2 : (TL.tl w).all fig = true) (h3 : TL.tl w ≠ []) :
    numW w = if TL.numL (NumText.digitsVal (TL.tl w)) = TL.tl w then some (NumText.digitsVal (TL.tl w)) else none := by
  unfold numW canon
  have e : (TL.tl w).isEmpty = false := by cases q : TL.tl w with
                                          | nil => exact absurd q h3
                                          | cons _ _ => rfl
  rw [h2, e, decide_eq_true h1]
  by_cases c : TL.numL (NumText.digitsVal (TL.tl w)) = TL.tl w
  · rw [if_pos c, if_pos]
    have := (num_canon (figs_all h2) h3).mp c
    simpa using this
  · rw [if_neg c, if_neg]
    intro q
    exact c ((num_canon (figs_all h2) h3).mpr (by simpa using q))
theorem num_ok {w : Str} (hl : w.length ≤ 1000000) : m_number_in (.str w) = some (numD w) := by
  unfold m_number_in
  simp -implicitDefEqProofs only [Option.bind_some, bd2_some, bd3_some, bd4_some, bd5_some, bd6_some, un_2_mk, un_3_mk, un_4_mk, un_5_mk, un_6_mk, flK_rt, flK_nx, asB_bl, asI_int, notD_bl, scG_bl, scG_int, scG_non, scG_str, unL_l, unL_t, un1_t, un2_t, un3_t, un4_t, isKG_l, isTG_l, addD_int, subD_int, ltD_int, leD_int, gtD_int, geD_int, negD_int, eqD_int, neD_int, eqD_bl, neD_bl, mkLst_0, mkTup_0, mkLst_1, mkTup_1, mkLst_2, mkTup_2, mkLst_3, mkTup_3, mkLst_4, mkTup_4, mkLst_5, mkTup_5, mkLst_6, mkTup_6, mkLst_7, mkTup_7, mkLst_8, mkTup_8, mkLst_9, mkTup_9, mkLst_10, mkTup_10, mkLst_11, mkTup_11, mkLst_12, mkTup_12, mkLst_13, mkTup_13, mkLst_14, mkTup_14, mkLst_15, mkTup_15, mkLst_16, mkTup_16, len_s hl]
  by_cases h0 : 0 < w.length
  · by_cases h1 : w.length ≤ 13
    · have e1 : decide ((0 : Int) < (w.length : Int)) = true := decide_eq_true (by omega)
      have e2 : decide ((w.length : Int) ≤ 13) = true := decide_eq_true (by omega)
      have h3 : TL.tl w ≠ [] := by
        intro q
        rw [TL.len_tl, q] at h0
        exact absurd h0 (by decide)
      simp -implicitDefEqProofs only [Option.bind_some, bd2_some, bd3_some, bd4_some, bd5_some, bd6_some, un_2_mk, un_3_mk, un_4_mk, un_5_mk, un_6_mk, flK_rt, flK_nx, asB_bl, asI_int, notD_bl, scG_bl, scG_int, scG_non, scG_str, unL_l, unL_t, un1_t, un2_t, un3_t, un4_t, isKG_l, isTG_l, addD_int, subD_int, ltD_int, leD_int, gtD_int, geD_int, negD_int, eqD_int, neD_int, eqD_bl, neD_bl, mkLst_0, mkTup_0, mkLst_1, mkTup_1, mkLst_2, mkTup_2, mkLst_3, mkTup_3, mkLst_4, mkTup_4, mkLst_5, mkTup_5, mkLst_6, mkTup_6, mkLst_7, mkTup_7, mkLst_8, mkTup_8, mkLst_9, mkTup_9, mkLst_10, mkTup_10, mkLst_11, mkTup_11, mkLst_12, mkTup_12, mkLst_13, mkTup_13, mkLst_14, mkTup_14, mkLst_15, mkTup_15, mkLst_16, mkTup_16, e1, e2, if_true, Bool.not_true, Bool.false_eq_true, if_false, unS_s hl, figs_ok, allF_map]
      by_cases h2 : (TL.tl w).all fig = true
      · have hb := val_lt (figs_all h2)
        have hb2 : NumText.digitsVal (TL.tl w) < 10 ^ 13 := Nat.lt_of_lt_of_le hb (Nat.pow_le_pow_right (by decide) (by rw [← TL.len_tl]; exact h1))
        simp -implicitDefEqProofs only [Option.bind_some, bd2_some, bd3_some, bd4_some, bd5_some, bd6_some, un_2_mk, un_3_mk, un_4_mk, un_5_mk, un_6_mk, flK_rt, flK_nx, asB_bl, asI_int, notD_bl, scG_bl, scG_int, scG_non, scG_str, unL_l, unL_t, un1_t, un2_t, un3_t, un4_t, isKG_l, isTG_l, addD_int, subD_int, ltD_int, leD_int, gtD_int, geD_int, negD_int, eqD_int, neD_int, eqD_bl, neD_bl, mkLst_0, mkTup_0, mkLst_1, mkTup_1, mkLst_2, mkTup_2, mkLst_3, mkTup_3, mkLst_4, mkTup_4, mkLst_5, mkTup_5, mkLst_6, mkTup_6, mkLst_7, mkTup_7, mkLst_8, mkTup_8, mkLst_9, mkTup_9, mkLst_10, mkTup_10, mkLst_11, mkTup_11, mkLst_12, mkTup_12, mkLst_13, mkTup_13, mkLst_14, mkTup_14, mkLst_15, mkTup_15, mkLst_16, mkTup_16, h2, Bool.not_true, Bool.false_eq_true, if_false, int_ok h2 h3 h1, str_n hb2, eqD_ss]
        unfold numD
        rw [numW_good h1 h2 h3]
        by_cases c : TL.numL (NumText.digitsVal (TL.tl w)) = TL.tl w
        · rw [if_pos (decide_eq_true ((str_eq h2).mpr c)), if_pos c]
          simp -implicitDefEqProofs only [Option.bind_some, bd2_some, bd3_some, bd4_some, bd5_some, bd6_some, un_2_mk, un_3_mk, un_4_mk, un_5_mk, un_6_mk, flK_rt, flK_nx, asB_bl, asI_int, notD_bl, scG_bl, scG_int, scG_non, scG_str, unL_l, unL_t, un1_t, un2_t, un3_t, un4_t, isKG_l, isTG_l, addD_int, subD_int, ltD_int, leD_int, gtD_int, geD_int, negD_int, eqD_int, neD_int, eqD_bl, neD_bl, mkLst_0, mkTup_0, mkLst_1, mkTup_1, mkLst_2, mkTup_2, mkLst_3, mkTup_3, mkLst_4, mkTup_4, mkLst_5, mkTup_5, mkLst_6, mkTup_6, mkLst_7, mkTup_7, mkLst_8, mkTup_8, mkLst_9, mkTup_9, mkLst_10, mkTup_10, mkLst_11, mkTup_11, mkLst_12, mkTup_12, mkLst_13, mkTup_13, mkLst_14, mkTup_14, mkLst_15, mkTup_15, mkLst_16, mkTup_16]
        · rw [if_neg (by rw [decide_eq_true_eq]; exact fun q => c ((str_eq h2).mp q)), if_neg c]
          simp -implicitDefEqProofs only [Option.bind_some, bd2_some, bd3_some, bd4_some, bd5_some, bd6_some, un_2_mk, un_3_mk, un_4_mk, un_5_mk, un_6_mk, flK_rt, flK_nx, asB_bl, asI_int, notD_bl, scG_bl, scG_int, scG_non, scG_str, unL_l, unL_t, un1_t, un2_t, un3_t, un4_t, isKG_l, isTG_l, addD_int, subD_int, ltD_int, leD_int, gtD_int, geD_int, negD_int, eqD_int, neD_int, eqD_bl, neD_bl, mkLst_0, mkTup_0, mkLst_1, mkTup_1, mkLst_2, mkTup_2, mkLst_3, mkTup_3, mkLst_4, mkTup_4, mkLst_5, mkTup_5, mkLst_6, mkTup_6, mkLst_7, mkTup_7, mkLst_8, mkTup_8, mkLst_9, mkTup_9, mkLst_10, mkTup_10, mkLst_11, mkTup_11, mkLst_12, mkTup_12, mkLst_13, mkTup_13, mkLst_14, mkTup_14, mkLst_15, mkTup_15, mkLst_16, mkTup_16]
      · have h2' : (TL.tl w).all fig = false := Bool.eq_false_iff.mpr h2
        simp -implicitDefEqProofs only [Option.bind_some, bd2_some, bd3_some, bd4_some, bd5_some, bd6_some, un_2_mk, un_3_mk, un_4_mk, un_5_mk, un_6_mk, flK_rt, flK_nx, asB_bl, asI_int, notD_bl, scG_bl, scG_int, scG_non, scG_str, unL_l, unL_t, un1_t, un2_t, un3_t, un4_t, isKG_l, isTG_l, addD_int, subD_int, ltD_int, leD_int, gtD_int, geD_int, negD_int, eqD_int, neD_int, eqD_bl, neD_bl, mkLst_0, mkTup_0, mkLst_1, mkTup_1, mkLst_2, mkTup_2, mkLst_3, mkTup_3, mkLst_4, mkTup_4, mkLst_5, mkTup_5, mkLst_6, mkTup_6, mkLst_7, mkTup_7, mkLst_8, mkTup_8, mkLst_9, mkTup_9, mkLst_10, mkTup_10, mkLst_11, mkTup_11, mkLst_12, mkTup_12, mkLst_13, mkTup_13, mkLst_14, mkTup_14, mkLst_15, mkTup_15, mkLst_16, mkTup_16, h2', Bool.not_false, if_true]
        unfold numD
        rw [numW_bad fun q => h2 q.2.1]
    · have e1 : decide ((0 : Int) < (w.length : Int)) = true := decide_eq_true (by omega)
      have e2 : decide ((w.length : Int) ≤ 13) = false := decide_eq_false (by omega)
      simp -implicitDefEqProofs only [Option.bind_some, bd2_some, bd3_some, bd4_some, bd5_some, bd6_some, un_2_mk, un_3_mk, un_4_mk, un_5_mk, un_6_mk, flK_rt, flK_nx, asB_bl, asI_int, notD_bl, scG_bl, scG_int, scG_non, scG_str, unL_l, unL_t, un1_t, un2_t, un3_t, un4_t, isKG_l, isTG_l, addD_int, subD_int, ltD_int, leD_int, gtD_int, geD_int, negD_int, eqD_int, neD_int, eqD_bl, neD_bl, mkLst_0, mkTup_0, mkLst_1, mkTup_1, mkLst_2, mkTup_2, mkLst_3, mkTup_3, mkLst_4, mkTup_4, mkLst_5, mkTup_5, mkLst_6, mkTup_6, mkLst_7, mkTup_7, mkLst_8, mkTup_8, mkLst_9, mkTup_9, mkLst_10, mkTup_10, mkLst_11, mkTup_11, mkLst_12, mkTup_12, mkLst_13, mkTup_13, mkLst_14, mkTup_14, mkLst_15, mkTup_15, mkLst_16, mkTup_16, e1, e2, if_true, Bool.not_false]
      unfold numD
      rw [numW_bad fun q => h1 q.1]
  · have e1 : decide ((0 : Int) < (w.length : Int)) = false := decide_eq_false (by omega)
    simp -implicitDefEqProofs only [Option.bind_some, bd2_some, bd3_some, bd4_some, bd5_some, bd6_some, un_2_mk, un_3_mk, un_4_mk, un_5_mk, un_6_mk, flK_rt, flK_nx, asB_bl, asI_int, notD_bl, scG_bl, scG_int, scG_non, scG_str, unL_l, unL_t, un1_t, un2_t, un3_t, un4_t, isKG_l, isTG_l, addD_int, subD_int, ltD_int, leD_int, gtD_int, geD_int, negD_int, eqD_int, neD_int, eqD_bl, neD_bl, mkLst_0, mkTup_0, mkLst_1, mkTup_1, mkLst_2, mkTup_2, mkLst_3, mkTup_3, mkLst_4, mkTup_4, mkLst_5, mkTup_5, mkLst_6, mkTup_6, mkLst_7, mkTup_7, mkLst_8, mkTup_8, mkLst_9, mkTup_9, mkLst_10, mkTup_10, mkLst_11, mkTup_11, mkLst_12, mkTup_12, mkLst_13, mkTup_13, mkLst_14, mkTup_14, mkLst_15, mkTup_15, mkLst_16, mkTup_16, e1, Bool.false_eq_true, if_false, Bool.not_false, if_true]
    unfold numD
    rw [numW_bad fun q => h0 (by rw [TL.len_tl]; exact List.length_pos_iff.mpr q.2.2)]
theorem lnum_ok {w : Str} (hl : w.length ≤ 1000000) : m_law_number_in (.str w) = some (numD w) := by
  unfold m_law_number_in
  simp -implicitDefEqProofs only [Option.bind_some, bd2_some, bd3_some, bd4_some, bd5_some, bd6_some, un_2_mk, un_3_mk, un_4_mk, un_5_mk, un_6_mk, flK_rt, flK_nx, asB_bl, asI_int, notD_bl, scG_bl, scG_int, scG_non, scG_str, unL_l, unL_t, un1_t, un2_t, un3_t, un4_t, isKG_l, isTG_l, addD_int, subD_int, ltD_int, leD_int, gtD_int, geD_int, negD_int, eqD_int, neD_int, eqD_bl, neD_bl, mkLst_0, mkTup_0, mkLst_1, mkTup_1, mkLst_2, mkTup_2, mkLst_3, mkTup_3, mkLst_4, mkTup_4, mkLst_5, mkTup_5, mkLst_6, mkTup_6, mkLst_7, mkTup_7, mkLst_8, mkTup_8, mkLst_9, mkTup_9, mkLst_10, mkTup_10, mkLst_11, mkTup_11, mkLst_12, mkTup_12, mkLst_13, mkTup_13, mkLst_14, mkTup_14, mkLst_15, mkTup_15, mkLst_16, mkTup_16, eqD_ss]
  by_cases h0 : w = ""
  · simp -implicitDefEqProofs only [Option.bind_some, bd2_some, bd3_some, bd4_some, bd5_some, bd6_some, un_2_mk, un_3_mk, un_4_mk, un_5_mk, un_6_mk, flK_rt, flK_nx, asB_bl, asI_int, notD_bl, scG_bl, scG_int, scG_non, scG_str, unL_l, unL_t, un1_t, un2_t, un3_t, un4_t, isKG_l, isTG_l, addD_int, subD_int, ltD_int, leD_int, gtD_int, geD_int, negD_int, eqD_int, neD_int, eqD_bl, neD_bl, mkLst_0, mkTup_0, mkLst_1, mkTup_1, mkLst_2, mkTup_2, mkLst_3, mkTup_3, mkLst_4, mkTup_4, mkLst_5, mkTup_5, mkLst_6, mkTup_6, mkLst_7, mkTup_7, mkLst_8, mkTup_8, mkLst_9, mkTup_9, mkLst_10, mkTup_10, mkLst_11, mkTup_11, mkLst_12, mkTup_12, mkLst_13, mkTup_13, mkLst_14, mkTup_14, mkLst_15, mkTup_15, mkLst_16, mkTup_16, decide_eq_true h0, if_true]
    unfold numD
    rw [numW_bad fun q => q.2.2 (by rw [h0, tl_nil])]
  · have h3 : TL.tl w ≠ [] := fun q => h0 (TL.ext_tl (by rw [q, tl_nil]))
    simp -implicitDefEqProofs only [Option.bind_some, bd2_some, bd3_some, bd4_some, bd5_some, bd6_some, un_2_mk, un_3_mk, un_4_mk, un_5_mk, un_6_mk, flK_rt, flK_nx, asB_bl, asI_int, notD_bl, scG_bl, scG_int, scG_non, scG_str, unL_l, unL_t, un1_t, un2_t, un3_t, un4_t, isKG_l, isTG_l, addD_int, subD_int, ltD_int, leD_int, gtD_int, geD_int, negD_int, eqD_int, neD_int, eqD_bl, neD_bl, mkLst_0, mkTup_0, mkLst_1, mkTup_1, mkLst_2, mkTup_2, mkLst_3, mkTup_3, mkLst_4, mkTup_4, mkLst_5, mkTup_5, mkLst_6, mkTup_6, mkLst_7, mkTup_7, mkLst_8, mkTup_8, mkLst_9, mkTup_9, mkLst_10, mkTup_10, mkLst_11, mkTup_11, mkLst_12, mkTup_12, mkLst_13, mkTup_13, mkLst_14, mkTup_14, mkLst_15, mkTup_15, mkLst_16, mkTup_16, decide_eq_false h0, Bool.false_eq_true, if_false, len_s hl]
    by_cases h1 : w.length ≤ 13
    · have e2 : decide ((13 : Int) < (w.length : Int)) = false := decide_eq_false (by omega)
      simp -implicitDefEqProofs only [Option.bind_some, bd2_some, bd3_some, bd4_some, bd5_some, bd6_some, un_2_mk, un_3_mk, un_4_mk, un_5_mk, un_6_mk, flK_rt, flK_nx, asB_bl, asI_int, notD_bl, scG_bl, scG_int, scG_non, scG_str, unL_l, unL_t, un1_t, un2_t, un3_t, un4_t, isKG_l, isTG_l, addD_int, subD_int, ltD_int, leD_int, gtD_int, geD_int, negD_int, eqD_int, neD_int, eqD_bl, neD_bl, mkLst_0, mkTup_0, mkLst_1, mkTup_1, mkLst_2, mkTup_2, mkLst_3, mkTup_3, mkLst_4, mkTup_4, mkLst_5, mkTup_5, mkLst_6, mkTup_6, mkLst_7, mkTup_7, mkLst_8, mkTup_8, mkLst_9, mkTup_9, mkLst_10, mkTup_10, mkLst_11, mkTup_11, mkLst_12, mkTup_12, mkLst_13, mkTup_13, mkLst_14, mkTup_14, mkLst_15, mkTup_15, mkLst_16, mkTup_16, e2, Bool.false_eq_true, if_false, unS_s hl, figs_ok, allF_map]
      by_cases h2 : (TL.tl w).all fig = true
      · simp -implicitDefEqProofs only [Option.bind_some, bd2_some, bd3_some, bd4_some, bd5_some, bd6_some, un_2_mk, un_3_mk, un_4_mk, un_5_mk, un_6_mk, flK_rt, flK_nx, asB_bl, asI_int, notD_bl, scG_bl, scG_int, scG_non, scG_str, unL_l, unL_t, un1_t, un2_t, un3_t, un4_t, isKG_l, isTG_l, addD_int, subD_int, ltD_int, leD_int, gtD_int, geD_int, negD_int, eqD_int, neD_int, eqD_bl, neD_bl, mkLst_0, mkTup_0, mkLst_1, mkTup_1, mkLst_2, mkTup_2, mkLst_3, mkTup_3, mkLst_4, mkTup_4, mkLst_5, mkTup_5, mkLst_6, mkTup_6, mkLst_7, mkTup_7, mkLst_8, mkTup_8, mkLst_9, mkTup_9, mkLst_10, mkTup_10, mkLst_11, mkTup_11, mkLst_12, mkTup_12, mkLst_13, mkTup_13, mkLst_14, mkTup_14, mkLst_15, mkTup_15, mkLst_16, mkTup_16, h2, Bool.not_true, Bool.false_eq_true, if_false]
        unfold numD
        rw [numW_good h1 h2 h3]
        obtain ⟨c, r, hc⟩ : ∃ c r, TL.tl w = c :: r := by
          cases q : TL.tl w with
          | nil => exact absurd q h3
          | cons c r => exact ⟨c, r, rfl⟩
        have i0 : ixD (.str w) (.int 0) = some (.str ⟨#[c]⟩) := by
          have : ixD (.str w) (.int 0) = if lim w.length = true then (L2.atI (TL.tl w) 0).map fun c => .str ⟨#[c]⟩ else none := rfl
          rw [this, if_pos (lim_of hl), hc]
          simp [L2.atI, L2.ixN]
        have ec : decide ((⟨#[c]⟩ : Str) = "0") = decide (c = 48) := decide_eq_decide.mpr ⟨fun q => by
          have := congrArg TL.tl q
          rw [tl_zero] at this
          exact (List.cons.inj this).1, fun q => TL.ext_tl (by rw [tl_zero, q])⟩
        have cn := num_canon (figs_all h2) h3
        simp -implicitDefEqProofs only [Option.bind_some, bd2_some, bd3_some, bd4_some, bd5_some, bd6_some, un_2_mk, un_3_mk, un_4_mk, un_5_mk, un_6_mk, flK_rt, flK_nx, asB_bl, asI_int, notD_bl, scG_bl, scG_int, scG_non, scG_str, unL_l, unL_t, un1_t, un2_t, un3_t, un4_t, isKG_l, isTG_l, addD_int, subD_int, ltD_int, leD_int, gtD_int, geD_int, negD_int, eqD_int, neD_int, eqD_bl, neD_bl, mkLst_0, mkTup_0, mkLst_1, mkTup_1, mkLst_2, mkTup_2, mkLst_3, mkTup_3, mkLst_4, mkTup_4, mkLst_5, mkTup_5, mkLst_6, mkTup_6, mkLst_7, mkTup_7, mkLst_8, mkTup_8, mkLst_9, mkTup_9, mkLst_10, mkTup_10, mkLst_11, mkTup_11, mkLst_12, mkTup_12, mkLst_13, mkTup_13, mkLst_14, mkTup_14, mkLst_15, mkTup_15, mkLst_16, mkTup_16, i0, eqD_ss, ec, neD_ss, int_ok h2 h3 h1]
        by_cases c48 : c = 48
        · by_cases hw : w = "0"
          · simp -implicitDefEqProofs only [Option.bind_some, bd2_some, bd3_some, bd4_some, bd5_some, bd6_some, un_2_mk, un_3_mk, un_4_mk, un_5_mk, un_6_mk, flK_rt, flK_nx, asB_bl, asI_int, notD_bl, scG_bl, scG_int, scG_non, scG_str, unL_l, unL_t, un1_t, un2_t, un3_t, un4_t, isKG_l, isTG_l, addD_int, subD_int, ltD_int, leD_int, gtD_int, geD_int, negD_int, eqD_int, neD_int, eqD_bl, neD_bl, mkLst_0, mkTup_0, mkLst_1, mkTup_1, mkLst_2, mkTup_2, mkLst_3, mkTup_3, mkLst_4, mkTup_4, mkLst_5, mkTup_5, mkLst_6, mkTup_6, mkLst_7, mkTup_7, mkLst_8, mkTup_8, mkLst_9, mkTup_9, mkLst_10, mkTup_10, mkLst_11, mkTup_11, mkLst_12, mkTup_12, mkLst_13, mkTup_13, mkLst_14, mkTup_14, mkLst_15, mkTup_15, mkLst_16, mkTup_16, decide_eq_true c48, if_true, decide_eq_true hw, Bool.not_true, Bool.false_eq_true, if_false]
            rw [if_pos (cn.mpr (.inl (by rw [hw, tl_zero])))]
          · simp -implicitDefEqProofs only [Option.bind_some, bd2_some, bd3_some, bd4_some, bd5_some, bd6_some, un_2_mk, un_3_mk, un_4_mk, un_5_mk, un_6_mk, flK_rt, flK_nx, asB_bl, asI_int, notD_bl, scG_bl, scG_int, scG_non, scG_str, unL_l, unL_t, un1_t, un2_t, un3_t, un4_t, isKG_l, isTG_l, addD_int, subD_int, ltD_int, leD_int, gtD_int, geD_int, negD_int, eqD_int, neD_int, eqD_bl, neD_bl, mkLst_0, mkTup_0, mkLst_1, mkTup_1, mkLst_2, mkTup_2, mkLst_3, mkTup_3, mkLst_4, mkTup_4, mkLst_5, mkTup_5, mkLst_6, mkTup_6, mkLst_7, mkTup_7, mkLst_8, mkTup_8, mkLst_9, mkTup_9, mkLst_10, mkTup_10, mkLst_11, mkTup_11, mkLst_12, mkTup_12, mkLst_13, mkTup_13, mkLst_14, mkTup_14, mkLst_15, mkTup_15, mkLst_16, mkTup_16, decide_eq_true c48, if_true, decide_eq_false hw, Bool.not_false]
            rw [if_neg]
            intro q
            rcases cn.mp q with q | q
            · exact hw (TL.ext_tl (by rw [q, tl_zero]))
            · rw [hc, c48] at q; exact q rfl
        · simp -implicitDefEqProofs only [Option.bind_some, bd2_some, bd3_some, bd4_some, bd5_some, bd6_some, un_2_mk, un_3_mk, un_4_mk, un_5_mk, un_6_mk, flK_rt, flK_nx, asB_bl, asI_int, notD_bl, scG_bl, scG_int, scG_non, scG_str, unL_l, unL_t, un1_t, un2_t, un3_t, un4_t, isKG_l, isTG_l, addD_int, subD_int, ltD_int, leD_int, gtD_int, geD_int, negD_int, eqD_int, neD_int, eqD_bl, neD_bl, mkLst_0, mkTup_0, mkLst_1, mkTup_1, mkLst_2, mkTup_2, mkLst_3, mkTup_3, mkLst_4, mkTup_4, mkLst_5, mkTup_5, mkLst_6, mkTup_6, mkLst_7, mkTup_7, mkLst_8, mkTup_8, mkLst_9, mkTup_9, mkLst_10, mkTup_10, mkLst_11, mkTup_11, mkLst_12, mkTup_12, mkLst_13, mkTup_13, mkLst_14, mkTup_14, mkLst_15, mkTup_15, mkLst_16, mkTup_16, decide_eq_false c48, Bool.false_eq_true, if_false]
          rw [if_pos (cn.mpr (.inr (by rw [hc]; intro q; exact c48 (Option.some.inj q))))]
      · have h2' : (TL.tl w).all fig = false := Bool.eq_false_iff.mpr h2
        simp -implicitDefEqProofs only [Option.bind_some, bd2_some, bd3_some, bd4_some, bd5_some, bd6_some, un_2_mk, un_3_mk, un_4_mk, un_5_mk, un_6_mk, flK_rt, flK_nx, asB_bl, asI_int, notD_bl, scG_bl, scG_int, scG_non, scG_str, unL_l, unL_t, un1_t, un2_t, un3_t, un4_t, isKG_l, isTG_l, addD_int, subD_int, ltD_int, leD_int, gtD_int, geD_int, negD_int, eqD_int, neD_int, eqD_bl, neD_bl, mkLst_0, mkTup_0, mkLst_1, mkTup_1, mkLst_2, mkTup_2, mkLst_3, mkTup_3, mkLst_4, mkTup_4, mkLst_5, mkTup_5, mkLst_6, mkTup_6, mkLst_7, mkTup_7, mkLst_8, mkTup_8, mkLst_9, mkTup_9, mkLst_10, mkTup_10, mkLst_11, mkTup_11, mkLst_12, mkTup_12, mkLst_13, mkTup_13, mkLst_14, mkTup_14, mkLst_15, mkTup_15, mkLst_16, mkTup_16, h2', Bool.not_false, if_true]
        unfold numD
        rw [numW_bad fun q => h2 q.2.1]
    · have e2 : decide ((13 : Int) < (w.length : Int)) = true := decide_eq_true (by omega)
      simp -implicitDefEqProofs only [Option.bind_some, bd2_some, bd3_some, bd4_some, bd5_some, bd6_some, un_2_mk, un_3_mk, un_4_mk, un_5_mk, un_6_mk, flK_rt, flK_nx, asB_bl, asI_int, notD_bl, scG_bl, scG_int, scG_non, scG_str, unL_l, unL_t, un1_t, un2_t, un3_t, un4_t, isKG_l, isTG_l, addD_int, subD_int, ltD_int, leD_int, gtD_int, geD_int, negD_int, eqD_int, neD_int, eqD_bl, neD_bl, mkLst_0, mkTup_0, mkLst_1, mkTup_1, mkLst_2, mkTup_2, mkLst_3, mkTup_3, mkLst_4, mkTup_4, mkLst_5, mkTup_5, mkLst_6, mkTup_6, mkLst_7, mkTup_7, mkLst_8, mkTup_8, mkLst_9, mkTup_9, mkLst_10, mkTup_10, mkLst_11, mkTup_11, mkLst_12, mkTup_12, mkLst_13, mkTup_13, mkLst_14, mkTup_14, mkLst_15, mkTup_15, mkLst_16, mkTup_16, e2, if_true]
      unfold numD
      rw [numW_bad fun q => h1 q.1]
end LW
namespace LW
open PySem DL
theorem eqvAll_i : ∀ l m : List Int, PyData.eqvAll (pys (l.map .int)) (pys (m.map .int)) = decide (l = m)
  | [], [] => rfl
  | [], y :: m => by show PyData.eqvAll (pys []) (pys (.int y :: m.map .int)) = _; rw [pys, pys, PyData.eqvAll]; rfl
  | x :: l, [] => by show PyData.eqvAll (pys (.int x :: l.map .int)) (pys []) = _; rw [pys, pys, PyData.eqvAll]; rfl
  | x :: l, y :: m => by
    show PyData.eqvAll (pys (.int x :: l.map .int)) (pys (.int y :: m.map .int)) = _
    rw [pys, pys, PyData.eqvAll, eqv_int, eqvAll_i l m, ← Bool.decide_and]
    exact decide_eq_decide.mpr (by rw [List.cons.injEq])
theorem okD_li (l : List Int) : okD 60 (.lst (l.map .int)) = true := by
  rw [okD_lst, okDs_all]
  intro d hd
  obtain ⟨i, _, rfl⟩ := List.mem_map.mp hd
  exact okD_int
theorem neD_li (l m : List Int) : neD (.lst (l.map .int)) (.lst (m.map .int)) = some (.bl (!decide (l = m))) := by
  have e : neD (.lst (l.map .int)) (.lst (m.map .int)) = if okD 60 (.lst (l.map .int)) && okD 60 (.lst (m.map .int)) then some (.bl (!PyData.eqv (py (.lst (l.map .int))) (py (.lst (m.map .int))))) else none := rfl
  rw [e, okD_li, okD_li, py, py, PyData.eqv, eqvAll_i]; rfl
theorem split_s {x : Str} (h : x.length ≤ 900000) : splitD (.str x) (.str " ") = some (.lst ((Txt.split x spc).map .str)) := by
  have e : splitD (.str x) (.str " ") = if (!(spc.length == 0) && lim (x.length + 2)) = true then some (.lst ((Txt.split x spc).map .str)) else none := rfl
  rw [e, len_spc, lim_of (show x.length + 2 ≤ 1000000 by omega)]
  rfl
theorem cmp_num {ws : List Str} (h : ∀ w ∈ ws, w.length ≤ 1000000) : cmpP (fun d16 => Option.bind (m_number_in d16) fun t17 => some [t17]) (ws.map .str) = some (ws.map numD) :=
  cmpP_lstM numD fun w hw => by rw [num_ok (h w hw)]; rfl
theorem cmp_lnum {ws : List Str} (h : ∀ w ∈ ws, w.length ≤ 1000000) : cmpP (fun d16 => Option.bind (m_law_number_in d16) fun t17 => some [t17]) (ws.map .str) = some (ws.map numD) :=
  cmpP_lstM numD fun w hw => by rw [lnum_ok (h w hw)]; rfl
def noW (w : Str) : Bool := (numW w).isNone
theorem okD_num (w : Str) : okD 7 (numD w) = true := by
  unfold numD
  split <;> rfl
theorem none_in (ws : List Str) : inD false .non (.lst (ws.map numD)) = some (.bl (ws.any noW)) := by
  have e : inD false .non (.lst (ws.map numD)) = if okD 60 .non && okDs 60 (ws.map numD) then some (.bl (((ws.map numD).any fun y => PyData.eqv (py y) (py .non)) != false)) else none := rfl
  have ok : okDs 60 (ws.map numD) = true := okDs_all.mpr fun d hd => by
    obtain ⟨w, _, rfl⟩ := List.mem_map.mp hd
    exact okD_up _ (by omega) (okD_num w)
  rw [e, ok, Bool.bne_false, List.any_map]
  have : ((fun y => PyData.eqv (py y) (py .non)) ∘ numD) = noW := by
    funext w
    show PyData.eqv (py (numD w)) (py .non) = noW w
    unfold numD noW
    cases numW w with
    | none => show PyData.eqv .none .none = true; rw [PyData.eqv]
    | some n => show PyData.eqv (.int _) .none = false; rw [PyData.eqv]
  rw [this]; rfl
theorem all_num : ∀ {ws : List Str}, ws.any noW = false → ws.map numD = nD (ws.filterMap numW)
  | [], _ => rfl
  | w :: ws, h => by
    rw [List.any_cons, Bool.or_eq_false_iff] at h
    have ih := all_num h.2
    cases q : numW w with
    | none => have := h.1; unfold noW at this; rw [q] at this; cases this
    | some n =>
      rw [List.map_cons, ih, List.filterMap_cons, q]
      show numD w :: _ = D.int (n : Int) :: _
      unfold numD
      rw [q]; rfl
def seaWs (ws : List Str) : List Str := ws.take 2 ++ ws.drop 3
def seaBad (ws : List Str) : Bool := decide (ws.length ≤ 3) || !decide (ws[2]? = some (":" : Str)) || (seaWs ws).any noW
def seaR (ws : List Str) : D := if seaBad ws = true then .non else .tup [((seaWs ws).map numD).getD 0 .non, ((seaWs ws).map numD).getD 1 .non, .tup (((seaWs ws).map numD).drop 2)]
theorem sl_2 (xs : List D) : sliceD (.lst xs) none (some 2) = some (.lst (xs.take 2)) := slice_take 2
theorem sl_3 (xs : List D) : sliceD (.lst xs) (some 3) none = some (.lst (xs.drop 3)) := slice_drop 3
theorem sl_2d (xs : List D) : sliceD (.lst xs) (some 2) none = some (.lst (xs.drop 2)) := slice_drop 2
theorem words_add {ws : List Str} (h : ws.length ≤ 900000) : addD (.lst ((ws.map D.str).take 2)) (.lst ((ws.map D.str).drop 3)) = some (.lst ((seaWs ws).map D.str)) := by
  rw [addD_lst (by rw [List.length_take, List.length_drop, List.length_map]; omega), ← List.map_take, ← List.map_drop, ← List.map_append]; rfl
theorem seaWs_mem {ws : List Str} {w : Str} (h : w ∈ seaWs ws) : w ∈ ws := by
  rcases List.mem_append.mp h with h | h
  · exact List.mem_of_mem_take h
  · exact List.mem_of_mem_drop h
theorem seaWs_len {ws : List Str} (h : 3 < ws.length) : 2 < (seaWs ws).length := by
  unfold seaWs; rw [List.length_append, List.length_take, List.length_drop]; omega
theorem len_lw (ws : List Str) : lenF [.lst (ws.map D.str)] = some (.int (ws.length : Int)) := by
  show some (D.int ((ws.map D.str).length : Int)) = _
  rw [List.length_map]
section
variable {x : Str} (hx : x.length ≤ 400000)
include hx
theorem ws_len : (Txt.split x spc).length ≤ 400002 := Nat.le_trans (PyProof.Rows.split_le x spc) (by omega)
theorem ws_word : ∀ w ∈ Txt.split x spc, w.length ≤ 1000000 := fun w hw => Nat.le_trans (word_le hw) (by omega)
theorem lread_sea : m_law_read_sea (.str x) = some (seaR (Txt.split x spc)) := by
  have hl := ws_len hx
  have hw := ws_word hx
  unfold m_law_read_sea
  rw [split_s (by omega)]
  generalize Txt.split x spc = ws at hl hw
  simp -implicitDefEqProofs only [Option.bind_some, bd2_some, bd3_some, bd4_some, bd5_some, bd6_some, un_2_mk, un_3_mk, un_4_mk, un_5_mk, un_6_mk, flK_rt, flK_nx, asB_bl, asI_int, notD_bl, scG_bl, scG_int, scG_non, scG_str, unL_l, unL_t, un1_t, un2_t, un3_t, un4_t, isKG_l, isTG_l, addD_int, subD_int, ltD_int, leD_int, gtD_int, geD_int, negD_int, eqD_int, neD_int, eqD_bl, neD_bl, mkLst_0, mkTup_0, mkLst_1, mkTup_1, mkLst_2, mkTup_2, mkLst_3, mkTup_3, mkLst_4, mkTup_4, mkLst_5, mkTup_5, mkLst_6, mkTup_6, mkLst_7, mkTup_7, mkLst_8, mkTup_8, mkLst_9, mkTup_9, mkLst_10, mkTup_10, mkLst_11, mkTup_11, mkLst_12, mkTup_12, mkLst_13, mkTup_13, mkLst_14, mkTup_14, mkLst_15, mkTup_15, mkLst_16, mkTup_16, sl_2, sl_3, words_add (show ws.length ≤ 900000 by omega), cmp_lnum fun w h => hw w (seaWs_mem h), len_lw]
  unfold seaR seaBad
  by_cases h3 : ws.length ≤ 3
  · have e : decide ((ws.length : Int) < 4) = true := decide_eq_true (by omega)
    simp -implicitDefEqProofs only [Option.bind_some, bd2_some, bd3_some, bd4_some, bd5_some, bd6_some, un_2_mk, un_3_mk, un_4_mk, un_5_mk, un_6_mk, flK_rt, flK_nx, asB_bl, asI_int, notD_bl, scG_bl, scG_int, scG_non, scG_str, unL_l, unL_t, un1_t, un2_t, un3_t, un4_t, isKG_l, isTG_l, addD_int, subD_int, ltD_int, leD_int, gtD_int, geD_int, negD_int, eqD_int, neD_int, eqD_bl, neD_bl, mkLst_0, mkTup_0, mkLst_1, mkTup_1, mkLst_2, mkTup_2, mkLst_3, mkTup_3, mkLst_4, mkTup_4, mkLst_5, mkTup_5, mkLst_6, mkTup_6, mkLst_7, mkTup_7, mkLst_8, mkTup_8, mkLst_9, mkTup_9, mkLst_10, mkTup_10, mkLst_11, mkTup_11, mkLst_12, mkTup_12, mkLst_13, mkTup_13, mkLst_14, mkTup_14, mkLst_15, mkTup_15, mkLst_16, mkTup_16, e, if_true, decide_eq_true h3, Bool.true_or]
  · have e : decide ((ws.length : Int) < 4) = false := decide_eq_false (by omega)
    obtain ⟨v, hv⟩ : ∃ v, ws[2]? = some v := ⟨ws[2], List.getElem?_eq_getElem (by omega)⟩
    have i2 : ixD (.lst (ws.map D.str)) (.int 2) = some (.str v) := by rw [ix_lst2, List.getElem?_map, hv]; rfl
    have ev2 : decide (some v = some (":" : Str)) = decide (v = ":") := decide_eq_decide.mpr (by rw [Option.some.injEq])
    simp -implicitDefEqProofs only [Option.bind_some, bd2_some, bd3_some, bd4_some, bd5_some, bd6_some, un_2_mk, un_3_mk, un_4_mk, un_5_mk, un_6_mk, flK_rt, flK_nx, asB_bl, asI_int, notD_bl, scG_bl, scG_int, scG_non, scG_str, unL_l, unL_t, un1_t, un2_t, un3_t, un4_t, isKG_l, isTG_l, addD_int, subD_int, ltD_int, leD_int, gtD_int, geD_int, negD_int, eqD_int, neD_int, eqD_bl, neD_bl, mkLst_0, mkTup_0, mkLst_1, mkTup_1, mkLst_2, mkTup_2, mkLst_3, mkTup_3, mkLst_4, mkTup_4, mkLst_5, mkTup_5, mkLst_6, mkTup_6, mkLst_7, mkTup_7, mkLst_8, mkTup_8, mkLst_9, mkTup_9, mkLst_10, mkTup_10, mkLst_11, mkTup_11, mkLst_12, mkTup_12, mkLst_13, mkTup_13, mkLst_14, mkTup_14, mkLst_15, mkTup_15, mkLst_16, mkTup_16, e, Bool.false_eq_true, if_false, decide_eq_false h3, Bool.false_or, i2, neD_ss, hv, ev2]
    by_cases hc : v = ":"
    · simp -implicitDefEqProofs only [Option.bind_some, bd2_some, bd3_some, bd4_some, bd5_some, bd6_some, un_2_mk, un_3_mk, un_4_mk, un_5_mk, un_6_mk, flK_rt, flK_nx, asB_bl, asI_int, notD_bl, scG_bl, scG_int, scG_non, scG_str, unL_l, unL_t, un1_t, un2_t, un3_t, un4_t, isKG_l, isTG_l, addD_int, subD_int, ltD_int, leD_int, gtD_int, geD_int, negD_int, eqD_int, neD_int, eqD_bl, neD_bl, mkLst_0, mkTup_0, mkLst_1, mkTup_1, mkLst_2, mkTup_2, mkLst_3, mkTup_3, mkLst_4, mkTup_4, mkLst_5, mkTup_5, mkLst_6, mkTup_6, mkLst_7, mkTup_7, mkLst_8, mkTup_8, mkLst_9, mkTup_9, mkLst_10, mkTup_10, mkLst_11, mkTup_11, mkLst_12, mkTup_12, mkLst_13, mkTup_13, mkLst_14, mkTup_14, mkLst_15, mkTup_15, mkLst_16, mkTup_16, decide_eq_true hc, Bool.not_true, Bool.false_eq_true, if_false, none_in, Bool.false_or]
      cases q : (seaWs ws).any noW with
      | true => simp -implicitDefEqProofs only [Option.bind_some, bd2_some, bd3_some, bd4_some, bd5_some, bd6_some, un_2_mk, un_3_mk, un_4_mk, un_5_mk, un_6_mk, flK_rt, flK_nx, asB_bl, asI_int, notD_bl, scG_bl, scG_int, scG_non, scG_str, unL_l, unL_t, un1_t, un2_t, un3_t, un4_t, isKG_l, isTG_l, addD_int, subD_int, ltD_int, leD_int, gtD_int, geD_int, negD_int, eqD_int, neD_int, eqD_bl, neD_bl, mkLst_0, mkTup_0, mkLst_1, mkTup_1, mkLst_2, mkTup_2, mkLst_3, mkTup_3, mkLst_4, mkTup_4, mkLst_5, mkTup_5, mkLst_6, mkTup_6, mkLst_7, mkTup_7, mkLst_8, mkTup_8, mkLst_9, mkTup_9, mkLst_10, mkTup_10, mkLst_11, mkTup_11, mkLst_12, mkTup_12, mkLst_13, mkTup_13, mkLst_14, mkTup_14, mkLst_15, mkTup_15, mkLst_16, mkTup_16, if_true]
      | false =>
        have l2 := seaWs_len (show 3 < ws.length by omega)
        have ln : ((seaWs ws).map numD).length = (seaWs ws).length := List.length_map ..
        have j0 : ((seaWs ws).map numD)[0]? = some (((seaWs ws).map numD).getD 0 .non) := by rw [List.getD_eq_getElem?_getD, List.getElem?_eq_getElem (by omega)]; rfl
        have j1 : ((seaWs ws).map numD)[1]? = some (((seaWs ws).map numD).getD 1 .non) := by rw [List.getD_eq_getElem?_getD, List.getElem?_eq_getElem (by omega)]; rfl
        simp -implicitDefEqProofs only [Option.bind_some, bd2_some, bd3_some, bd4_some, bd5_some, bd6_some, un_2_mk, un_3_mk, un_4_mk, un_5_mk, un_6_mk, flK_rt, flK_nx, asB_bl, asI_int, notD_bl, scG_bl, scG_int, scG_non, scG_str, unL_l, unL_t, un1_t, un2_t, un3_t, un4_t, isKG_l, isTG_l, addD_int, subD_int, ltD_int, leD_int, gtD_int, geD_int, negD_int, eqD_int, neD_int, eqD_bl, neD_bl, mkLst_0, mkTup_0, mkLst_1, mkTup_1, mkLst_2, mkTup_2, mkLst_3, mkTup_3, mkLst_4, mkTup_4, mkLst_5, mkTup_5, mkLst_6, mkTup_6, mkLst_7, mkTup_7, mkLst_8, mkTup_8, mkLst_9, mkTup_9, mkLst_10, mkTup_10, mkLst_11, mkTup_11, mkLst_12, mkTup_12, mkLst_13, mkTup_13, mkLst_14, mkTup_14, mkLst_15, mkTup_15, mkLst_16, mkTup_16, Bool.false_eq_true, if_false, ix_lst0, ix_lst1, j0, j1, sl_2d]
        rfl
    · simp -implicitDefEqProofs only [Option.bind_some, bd2_some, bd3_some, bd4_some, bd5_some, bd6_some, un_2_mk, un_3_mk, un_4_mk, un_5_mk, un_6_mk, flK_rt, flK_nx, asB_bl, asI_int, notD_bl, scG_bl, scG_int, scG_non, scG_str, unL_l, unL_t, un1_t, un2_t, un3_t, un4_t, isKG_l, isTG_l, addD_int, subD_int, ltD_int, leD_int, gtD_int, geD_int, negD_int, eqD_int, neD_int, eqD_bl, neD_bl, mkLst_0, mkTup_0, mkLst_1, mkTup_1, mkLst_2, mkTup_2, mkLst_3, mkTup_3, mkLst_4, mkTup_4, mkLst_5, mkTup_5, mkLst_6, mkTup_6, mkLst_7, mkTup_7, mkLst_8, mkTup_8, mkLst_9, mkTup_9, mkLst_10, mkTup_10, mkLst_11, mkTup_11, mkLst_12, mkTup_12, mkLst_13, mkTup_13, mkLst_14, mkTup_14, mkLst_15, mkTup_15, mkLst_16, mkTup_16, decide_eq_false hc, Bool.not_false, if_true, Bool.true_or]
theorem mx_sea : mx_sea_in (.str x) = some (seaBad (Txt.split x spc)) := by
  have hl := ws_len hx
  have hw := ws_word hx
  unfold mx_sea_in
  rw [split_s (by omega)]
  generalize Txt.split x spc = ws at hl hw
  simp -implicitDefEqProofs only [Option.bind_some, bd2_some, bd3_some, bd4_some, bd5_some, bd6_some, un_2_mk, un_3_mk, un_4_mk, un_5_mk, un_6_mk, flK_rt, flK_nx, asB_bl, asI_int, notD_bl, scG_bl, scG_int, scG_non, scG_str, unL_l, unL_t, un1_t, un2_t, un3_t, un4_t, isKG_l, isTG_l, addD_int, subD_int, ltD_int, leD_int, gtD_int, geD_int, negD_int, eqD_int, neD_int, eqD_bl, neD_bl, mkLst_0, mkTup_0, mkLst_1, mkTup_1, mkLst_2, mkTup_2, mkLst_3, mkTup_3, mkLst_4, mkTup_4, mkLst_5, mkTup_5, mkLst_6, mkTup_6, mkLst_7, mkTup_7, mkLst_8, mkTup_8, mkLst_9, mkTup_9, mkLst_10, mkTup_10, mkLst_11, mkTup_11, mkLst_12, mkTup_12, mkLst_13, mkTup_13, mkLst_14, mkTup_14, mkLst_15, mkTup_15, mkLst_16, mkTup_16, sl_2, sl_3, words_add (show ws.length ≤ 900000 by omega), cmp_num fun w h => hw w (seaWs_mem h), len_lw]
  unfold seaBad
  by_cases h3 : ws.length ≤ 3
  · have e : decide ((ws.length : Int) ≤ 3) = true := decide_eq_true (by omega)
    simp -implicitDefEqProofs only [Option.bind_some, bd2_some, bd3_some, bd4_some, bd5_some, bd6_some, un_2_mk, un_3_mk, un_4_mk, un_5_mk, un_6_mk, flK_rt, flK_nx, asB_bl, asI_int, notD_bl, scG_bl, scG_int, scG_non, scG_str, unL_l, unL_t, un1_t, un2_t, un3_t, un4_t, isKG_l, isTG_l, addD_int, subD_int, ltD_int, leD_int, gtD_int, geD_int, negD_int, eqD_int, neD_int, eqD_bl, neD_bl, mkLst_0, mkTup_0, mkLst_1, mkTup_1, mkLst_2, mkTup_2, mkLst_3, mkTup_3, mkLst_4, mkTup_4, mkLst_5, mkTup_5, mkLst_6, mkTup_6, mkLst_7, mkTup_7, mkLst_8, mkTup_8, mkLst_9, mkTup_9, mkLst_10, mkTup_10, mkLst_11, mkTup_11, mkLst_12, mkTup_12, mkLst_13, mkTup_13, mkLst_14, mkTup_14, mkLst_15, mkTup_15, mkLst_16, mkTup_16, e, if_true, decide_eq_true h3, Bool.true_or]
  · have e : decide ((ws.length : Int) ≤ 3) = false := decide_eq_false (by omega)
    obtain ⟨v, hv⟩ : ∃ v, ws[2]? = some v := ⟨ws[2], List.getElem?_eq_getElem (by omega)⟩
    have i2 : ixD (.lst (ws.map D.str)) (.int 2) = some (.str v) := by rw [ix_lst2, List.getElem?_map, hv]; rfl
    have ev2 : decide (some v = some (":" : Str)) = decide (v = ":") := decide_eq_decide.mpr (by rw [Option.some.injEq])
    simp -implicitDefEqProofs only [Option.bind_some, bd2_some, bd3_some, bd4_some, bd5_some, bd6_some, un_2_mk, un_3_mk, un_4_mk, un_5_mk, un_6_mk, flK_rt, flK_nx, asB_bl, asI_int, notD_bl, scG_bl, scG_int, scG_non, scG_str, unL_l, unL_t, un1_t, un2_t, un3_t, un4_t, isKG_l, isTG_l, addD_int, subD_int, ltD_int, leD_int, gtD_int, geD_int, negD_int, eqD_int, neD_int, eqD_bl, neD_bl, mkLst_0, mkTup_0, mkLst_1, mkTup_1, mkLst_2, mkTup_2, mkLst_3, mkTup_3, mkLst_4, mkTup_4, mkLst_5, mkTup_5, mkLst_6, mkTup_6, mkLst_7, mkTup_7, mkLst_8, mkTup_8, mkLst_9, mkTup_9, mkLst_10, mkTup_10, mkLst_11, mkTup_11, mkLst_12, mkTup_12, mkLst_13, mkTup_13, mkLst_14, mkTup_14, mkLst_15, mkTup_15, mkLst_16, mkTup_16, e, Bool.false_eq_true, if_false, decide_eq_false h3, Bool.false_or, i2, neD_ss, hv, ev2]
    by_cases hc : v = ":"
    · simp -implicitDefEqProofs only [Option.bind_some, bd2_some, bd3_some, bd4_some, bd5_some, bd6_some, un_2_mk, un_3_mk, un_4_mk, un_5_mk, un_6_mk, flK_rt, flK_nx, asB_bl, asI_int, notD_bl, scG_bl, scG_int, scG_non, scG_str, unL_l, unL_t, un1_t, un2_t, un3_t, un4_t, isKG_l, isTG_l, addD_int, subD_int, ltD_int, leD_int, gtD_int, geD_int, negD_int, eqD_int, neD_int, eqD_bl, neD_bl, mkLst_0, mkTup_0, mkLst_1, mkTup_1, mkLst_2, mkTup_2, mkLst_3, mkTup_3, mkLst_4, mkTup_4, mkLst_5, mkTup_5, mkLst_6, mkTup_6, mkLst_7, mkTup_7, mkLst_8, mkTup_8, mkLst_9, mkTup_9, mkLst_10, mkTup_10, mkLst_11, mkTup_11, mkLst_12, mkTup_12, mkLst_13, mkTup_13, mkLst_14, mkTup_14, mkLst_15, mkTup_15, mkLst_16, mkTup_16, decide_eq_true hc, Bool.not_true, Bool.false_eq_true, if_false, none_in, Bool.false_or]
    · simp -implicitDefEqProofs only [Option.bind_some, bd2_some, bd3_some, bd4_some, bd5_some, bd6_some, un_2_mk, un_3_mk, un_4_mk, un_5_mk, un_6_mk, flK_rt, flK_nx, asB_bl, asI_int, notD_bl, scG_bl, scG_int, scG_non, scG_str, unL_l, unL_t, un1_t, un2_t, un3_t, un4_t, isKG_l, isTG_l, addD_int, subD_int, ltD_int, leD_int, gtD_int, geD_int, negD_int, eqD_int, neD_int, eqD_bl, neD_bl, mkLst_0, mkTup_0, mkLst_1, mkTup_1, mkLst_2, mkTup_2, mkLst_3, mkTup_3, mkLst_4, mkTup_4, mkLst_5, mkTup_5, mkLst_6, mkTup_6, mkLst_7, mkTup_7, mkLst_8, mkTup_8, mkLst_9, mkTup_9, mkLst_10, mkTup_10, mkLst_11, mkTup_11, mkLst_12, mkTup_12, mkLst_13, mkTup_13, mkLst_14, mkTup_14, mkLst_15, mkTup_15, mkLst_16, mkTup_16, decide_eq_false hc, Bool.not_false, if_true, Bool.true_or]
theorem sea_in_ok (hb : seaBad (Txt.split x spc) = false) : m_sea_in (.str x) = some (seaR (Txt.split x spc)) := by
  have hl := ws_len hx
  have hw := ws_word hx
  unfold m_sea_in
  rw [split_s (by omega)]
  generalize Txt.split x spc = ws at hl hw hb
  simp -implicitDefEqProofs only [Option.bind_some, bd2_some, bd3_some, bd4_some, bd5_some, bd6_some, un_2_mk, un_3_mk, un_4_mk, un_5_mk, un_6_mk, flK_rt, flK_nx, asB_bl, asI_int, notD_bl, scG_bl, scG_int, scG_non, scG_str, unL_l, unL_t, un1_t, un2_t, un3_t, un4_t, isKG_l, isTG_l, addD_int, subD_int, ltD_int, leD_int, gtD_int, geD_int, negD_int, eqD_int, neD_int, eqD_bl, neD_bl, mkLst_0, mkTup_0, mkLst_1, mkTup_1, mkLst_2, mkTup_2, mkLst_3, mkTup_3, mkLst_4, mkTup_4, mkLst_5, mkTup_5, mkLst_6, mkTup_6, mkLst_7, mkTup_7, mkLst_8, mkTup_8, mkLst_9, mkTup_9, mkLst_10, mkTup_10, mkLst_11, mkTup_11, mkLst_12, mkTup_12, mkLst_13, mkTup_13, mkLst_14, mkTup_14, mkLst_15, mkTup_15, mkLst_16, mkTup_16, sl_2, sl_3, words_add (show ws.length ≤ 900000 by omega), cmp_num fun w h => hw w (seaWs_mem h), len_lw]
  unfold seaR
  rw [hb]
  unfold seaBad at hb
  rw [Bool.or_eq_false_iff, Bool.or_eq_false_iff, Bool.not_eq_false', decide_eq_false_iff_not, decide_eq_true_eq] at hb
  obtain ⟨⟨h3, hv⟩, q⟩ := hb
  have e : decide ((ws.length : Int) ≤ 3) = false := decide_eq_false (by omega)
  have i2 : ixD (.lst (ws.map D.str)) (.int 2) = some (.str ":") := by rw [ix_lst2, List.getElem?_map, hv]; rfl
  have l2 := seaWs_len (show 3 < ws.length by omega)
  have ln : ((seaWs ws).map numD).length = (seaWs ws).length := List.length_map ..
  have j0 : ((seaWs ws).map numD)[0]? = some (((seaWs ws).map numD).getD 0 .non) := by rw [List.getD_eq_getElem?_getD, List.getElem?_eq_getElem (by omega)]; rfl
  have j1 : ((seaWs ws).map numD)[1]? = some (((seaWs ws).map numD).getD 1 .non) := by rw [List.getD_eq_getElem?_getD, List.getElem?_eq_getElem (by omega)]; rfl
  simp -implicitDefEqProofs only [Option.bind_some, bd2_some, bd3_some, bd4_some, bd5_some, bd6_some, un_2_mk, un_3_mk, un_4_mk, un_5_mk, un_6_mk, flK_rt, flK_nx, asB_bl, asI_int, notD_bl, scG_bl, scG_int, scG_non, scG_str, unL_l, unL_t, un1_t, un2_t, un3_t, un4_t, isKG_l, isTG_l, addD_int, subD_int, ltD_int, leD_int, gtD_int, geD_int, negD_int, eqD_int, neD_int, eqD_bl, neD_bl, mkLst_0, mkTup_0, mkLst_1, mkTup_1, mkLst_2, mkTup_2, mkLst_3, mkTup_3, mkLst_4, mkTup_4, mkLst_5, mkTup_5, mkLst_6, mkTup_6, mkLst_7, mkTup_7, mkLst_8, mkTup_8, mkLst_9, mkTup_9, mkLst_10, mkTup_10, mkLst_11, mkTup_11, mkLst_12, mkTup_12, mkLst_13, mkTup_13, mkLst_14, mkTup_14, mkLst_15, mkTup_15, mkLst_16, mkTup_16, e, Bool.false_eq_true, if_false, i2, neD_ss, decide_true, Bool.not_true, none_in, q, ix_lst0, ix_lst1, j0, j1, sl_2d]
  rfl
end
end LW
namespace LW
open PySem DL
theorem isx1 (t : D) : isXD tbX ["Apart", "BadRow", "Full", "MayNot", "NoDeed", "NoShip"] (.exn "BadText" [("text", t)]) = some (.bl false) := rfl
theorem isx2 (t : D) : isXD tbX ["ValueError"] (.exn "BadText" [("text", t)]) = some (.bl true) := rfl
theorem fld_t (t : D) : fldXC ["BadText"] "text" (.exn "BadText" [("text", t)]) = some t := rfl
theorem isN_x (t : D) : isD (.exn "BadText" [("text", t)]) .non = some (.bl false) := rfl
theorem two_non : mkTup [D.non, D.non] = some (.tup [.non, .non]) := rfl
theorem told_sea_ok {t r : D} (h : fB_sea_in [.v t] = some (.ok r, [.v t])) : m_law_told t .non = some r := by
  unfold m_law_told f_law_told mkFn b_law_told
  simp [two_non, kAsg, gT, gCons, gNil, gV, sTry, bSet, vIf, vCall, callB, argS, slotsOf, wbk, h, fin, putV, isD, isND]
theorem told_sea_ex {t : Str} (h : fB_sea_in [.v (.str t)] = some (.ex ("BadText", [("text", .str t)]), [.v (.str t)])) : m_law_told (.str t) .non = some .non := by
  unfold m_law_told f_law_told mkFn b_law_told
  simp [two_non, kAsg, gT, gCons, gNil, gV, sTry, bSet, vIf, vCall, callB, argS, slotsOf, wbk, h, fin, putV, isN_x, isx1, isx2, fld_t, neD_ss, show isD D.non .non = some (.bl true) from rfl]
theorem told_lot_ok {t s r : D} (hs : isD s .non = some (.bl false)) (h : fB_standing_in [.v s, .v t] = some (.ok r, [.v s, .v t])) : m_law_told t s = some r := by
  unfold m_law_told f_law_told mkFn b_law_told
  simp [two_non, kAsg, gT, gCons, gNil, gV, sTry, bSet, vIf, vCall, callB, argS, slotsOf, wbk, h, hs, fin, putV, show isD D.non .non = some (.bl true) from rfl]
theorem told_lot_ex {t : Str} {s : D} (hs : isD s .non = some (.bl false)) (h : fB_standing_in [.v s, .v (.str t)] = some (.ex ("BadText", [("text", .str t)]), [.v s, .v (.str t)])) : m_law_told (.str t) s = some .non := by
  unfold m_law_told f_law_told mkFn b_law_told
  simp [two_non, kAsg, gT, gCons, gNil, gV, sTry, bSet, vIf, vCall, callB, argS, slotsOf, wbk, h, hs, fin, putV, isN_x, isx1, isx2, fld_t, neD_ss]
theorem told_sea {x : Str} (hx : x.length ≤ 400000) : m_law_told (.str x) .non = some (seaR (Txt.split x spc)) := by
  cases q : seaBad (Txt.split x spc) with
  | true =>
    rw [told_sea_ex (rx_sea_in (by rw [mx_sea hx, q]))]
    unfold seaR
    rw [if_pos q]
  | false => exact told_sea_ok (le_sea_in _ _ (ms_sea_in (sea_in_ok hx q)))
theorem insS_len (x : Int) : ∀ l : List Int, (insS x l).length ≤ l.length + 1
  | [] => Nat.le_refl _
  | y :: r => by
    unfold insS
    split
    · simp
    · split
      · simp
      · have := insS_len x r
        rw [List.length_cons, List.length_cons]; omega
theorem srt_le : ∀ l : List Int, (srt l).length ≤ l.length
  | [] => Nat.le_refl _
  | x :: l => by
    have := insS_len x (srt l)
    have := srt_le l
    show (insS x (srt l)).length ≤ _
    rw [List.length_cons]; omega
def zs (ks : List Nat) : List Int := ks.map fun (i : Nat) => (i : Int)
theorem nD_zs (ks : List Nat) : nD ks = (zs ks).map .int := nD_ints ks
theorem sos_z {ks : List Nat} (h : ks.length ≤ 60) : sosF [.lst (nD ks)] = some (.lst ((srt (zs ks)).map .int)) := by
  have hl : (zs ks).length ≤ 60 := by unfold zs; rw [List.length_map]; exact h
  have h2 := srt_le (zs ks)
  have e : sosF [.lst (nD ks)] = (ints? (nD ks)).bind fun ns => if decide (ns.length ≤ 1000) && decide ((srt ns).length < 64) then some (.lst ((srt ns).map D.int)) else none := rfl
  rw [e, nD_zs, ints_map, Option.bind_some, decide_eq_true (show (zs ks).length ≤ 1000 by omega), decide_eq_true (show (srt (zs ks)).length < 64 by omega)]
  rfl
def rises (ks : List Nat) : Bool := decide (zs ks = srt (zs ks))
theorem ne_rises (ks : List Nat) : neD (.lst (nD ks)) (.lst ((srt (zs ks)).map .int)) = some (.bl (!rises ks)) := by rw [nD_zs, neD_li]; rfl
def shipsR (ws : List Str) : D := if ws.any noW = true then .non else if rises (ws.filterMap numW) = true then .tup (nD (ws.filterMap numW)) else .non
theorem fm_len (ws : List Str) : (ws.filterMap numW).length ≤ ws.length := List.length_filterMap_le _ _
theorem ships_ok {ws : List Str} (hw : ∀ w ∈ ws, w.length ≤ 1000000) (hl : ws.length ≤ 60) : m_ships_in (.lst (ws.map .str)) = some (shipsR ws) := by
  unfold m_ships_in shipsR
  simp -implicitDefEqProofs only [Option.bind_some, bd2_some, bd3_some, bd4_some, bd5_some, bd6_some, un_2_mk, un_3_mk, un_4_mk, un_5_mk, un_6_mk, flK_rt, flK_nx, asB_bl, asI_int, notD_bl, scG_bl, scG_int, scG_non, scG_str, unL_l, unL_t, un1_t, un2_t, un3_t, un4_t, isKG_l, isTG_l, addD_int, subD_int, ltD_int, leD_int, gtD_int, geD_int, negD_int, eqD_int, neD_int, eqD_bl, neD_bl, mkLst_0, mkTup_0, mkLst_1, mkTup_1, mkLst_2, mkTup_2, mkLst_3, mkTup_3, mkLst_4, mkTup_4, mkLst_5, mkTup_5, mkLst_6, mkTup_6, mkLst_7, mkTup_7, mkLst_8, mkTup_8, mkLst_9, mkTup_9, mkLst_10, mkTup_10, mkLst_11, mkTup_11, mkLst_12, mkTup_12, mkLst_13, mkTup_13, mkLst_14, mkTup_14, mkLst_15, mkTup_15, mkLst_16, mkTup_16, cmp_num hw, none_in]
  cases q : ws.any noW with
  | true => simp -implicitDefEqProofs only [Option.bind_some, bd2_some, bd3_some, bd4_some, bd5_some, bd6_some, un_2_mk, un_3_mk, un_4_mk, un_5_mk, un_6_mk, flK_rt, flK_nx, asB_bl, asI_int, notD_bl, scG_bl, scG_int, scG_non, scG_str, unL_l, unL_t, un1_t, un2_t, un3_t, un4_t, isKG_l, isTG_l, addD_int, subD_int, ltD_int, leD_int, gtD_int, geD_int, negD_int, eqD_int, neD_int, eqD_bl, neD_bl, mkLst_0, mkTup_0, mkLst_1, mkTup_1, mkLst_2, mkTup_2, mkLst_3, mkTup_3, mkLst_4, mkTup_4, mkLst_5, mkTup_5, mkLst_6, mkTup_6, mkLst_7, mkTup_7, mkLst_8, mkTup_8, mkLst_9, mkTup_9, mkLst_10, mkTup_10, mkLst_11, mkTup_11, mkLst_12, mkTup_12, mkLst_13, mkTup_13, mkLst_14, mkTup_14, mkLst_15, mkTup_15, mkLst_16, mkTup_16, if_true]
  | false =>
    have hk := Nat.le_trans (fm_len ws) hl
    simp -implicitDefEqProofs only [Option.bind_some, bd2_some, bd3_some, bd4_some, bd5_some, bd6_some, un_2_mk, un_3_mk, un_4_mk, un_5_mk, un_6_mk, flK_rt, flK_nx, asB_bl, asI_int, notD_bl, scG_bl, scG_int, scG_non, scG_str, unL_l, unL_t, un1_t, un2_t, un3_t, un4_t, isKG_l, isTG_l, addD_int, subD_int, ltD_int, leD_int, gtD_int, geD_int, negD_int, eqD_int, neD_int, eqD_bl, neD_bl, mkLst_0, mkTup_0, mkLst_1, mkTup_1, mkLst_2, mkTup_2, mkLst_3, mkTup_3, mkLst_4, mkTup_4, mkLst_5, mkTup_5, mkLst_6, mkTup_6, mkLst_7, mkTup_7, mkLst_8, mkTup_8, mkLst_9, mkTup_9, mkLst_10, mkTup_10, mkLst_11, mkTup_11, mkLst_12, mkTup_12, mkLst_13, mkTup_13, mkLst_14, mkTup_14, mkLst_15, mkTup_15, mkLst_16, mkTup_16, Bool.false_eq_true, if_false, all_num q, sos_z hk, ne_rises]
    cases rises (ws.filterMap numW) with
    | true => simp -implicitDefEqProofs only [Option.bind_some, bd2_some, bd3_some, bd4_some, bd5_some, bd6_some, un_2_mk, un_3_mk, un_4_mk, un_5_mk, un_6_mk, flK_rt, flK_nx, asB_bl, asI_int, notD_bl, scG_bl, scG_int, scG_non, scG_str, unL_l, unL_t, un1_t, un2_t, un3_t, un4_t, isKG_l, isTG_l, addD_int, subD_int, ltD_int, leD_int, gtD_int, geD_int, negD_int, eqD_int, neD_int, eqD_bl, neD_bl, mkLst_0, mkTup_0, mkLst_1, mkTup_1, mkLst_2, mkTup_2, mkLst_3, mkTup_3, mkLst_4, mkTup_4, mkLst_5, mkTup_5, mkLst_6, mkTup_6, mkLst_7, mkTup_7, mkLst_8, mkTup_8, mkLst_9, mkTup_9, mkLst_10, mkTup_10, mkLst_11, mkTup_11, mkLst_12, mkTup_12, mkLst_13, mkTup_13, mkLst_14, mkTup_14, mkLst_15, mkTup_15, mkLst_16, mkTup_16, Bool.not_true, Bool.false_eq_true, if_false, if_true]; rfl
    | false => simp -implicitDefEqProofs only [Option.bind_some, bd2_some, bd3_some, bd4_some, bd5_some, bd6_some, un_2_mk, un_3_mk, un_4_mk, un_5_mk, un_6_mk, flK_rt, flK_nx, asB_bl, asI_int, notD_bl, scG_bl, scG_int, scG_non, scG_str, unL_l, unL_t, un1_t, un2_t, un3_t, un4_t, isKG_l, isTG_l, addD_int, subD_int, ltD_int, leD_int, gtD_int, geD_int, negD_int, eqD_int, neD_int, eqD_bl, neD_bl, mkLst_0, mkTup_0, mkLst_1, mkTup_1, mkLst_2, mkTup_2, mkLst_3, mkTup_3, mkLst_4, mkTup_4, mkLst_5, mkTup_5, mkLst_6, mkTup_6, mkLst_7, mkTup_7, mkLst_8, mkTup_8, mkLst_9, mkTup_9, mkLst_10, mkTup_10, mkLst_11, mkTup_11, mkLst_12, mkTup_12, mkLst_13, mkTup_13, mkLst_14, mkTup_14, mkLst_15, mkTup_15, mkLst_16, mkTup_16, Bool.not_false, Bool.false_eq_true, if_false, if_true]
def tooBig (n : Nat) (d : D) : Bool := match d with
  | .tup ds => ds.any fun z => match z with
    | .int i => decide ((n : Int) ≤ i)
    | _ => false
  | _ => true
def lotR (x : Str) (n : Nat) : D := if x = "-" then .tup [] else if tooBig n (shipsR (Txt.split x spc)) = true then .non else shipsR (Txt.split x spc)
theorem ge_any {n : Nat} (ks : List Nat) : cmpP (fun d22 => Option.bind (geD d22 (.int (n : Int))) fun t23 => some [t23]) (nD ks) = some (ks.map fun k => .bl (decide (n ≤ k))) :=
  cmpP_lstM (e := fun (k : Nat) => D.int (k : Int)) (fun k => D.bl (decide (n ≤ k))) fun k _ => by
    simp -implicitDefEqProofs only [Option.bind_some, bd2_some, bd3_some, bd4_some, bd5_some, bd6_some, un_2_mk, un_3_mk, un_4_mk, un_5_mk, un_6_mk, flK_rt, flK_nx, asB_bl, asI_int, notD_bl, scG_bl, scG_int, scG_non, scG_str, unL_l, unL_t, un1_t, un2_t, un3_t, un4_t, isKG_l, isTG_l, addD_int, subD_int, ltD_int, leD_int, gtD_int, geD_int, negD_int, eqD_int, neD_int, eqD_bl, neD_bl, mkLst_0, mkTup_0, mkLst_1, mkTup_1, mkLst_2, mkTup_2, mkLst_3, mkTup_3, mkLst_4, mkTup_4, mkLst_5, mkTup_5, mkLst_6, mkTup_6, mkLst_7, mkTup_7, mkLst_8, mkTup_8, mkLst_9, mkTup_9, mkLst_10, mkTup_10, mkLst_11, mkTup_11, mkLst_12, mkTup_12, mkLst_13, mkTup_13, mkLst_14, mkTup_14, mkLst_15, mkTup_15, mkLst_16, mkTup_16]
    exact congrArg (fun b => some [D.bl b]) (decide_eq_decide.mpr (by omega))
theorem big_n {n : Nat} (ks : List Nat) : tooBig n (.tup (nD ks)) = ks.any fun k => decide (n ≤ k) := by
  show ((nD ks).any _) = _
  unfold nD
  rw [List.any_map]
  congr 1
  funext k
  exact decide_eq_decide.mpr (by omega)
section
variable {x : Str} (hx : x.length ≤ 400000) (hn : (Txt.split x spc).length ≤ 60) {n : Nat}
include hx hn
theorem lread_lot : m_law_read_lot (.str x) (.int (n : Int)) = some (lotR x n) := by
  have hw := ws_word hx
  unfold m_law_read_lot lotR
  simp -implicitDefEqProofs only [Option.bind_some, bd2_some, bd3_some, bd4_some, bd5_some, bd6_some, un_2_mk, un_3_mk, un_4_mk, un_5_mk, un_6_mk, flK_rt, flK_nx, asB_bl, asI_int, notD_bl, scG_bl, scG_int, scG_non, scG_str, unL_l, unL_t, un1_t, un2_t, un3_t, un4_t, isKG_l, isTG_l, addD_int, subD_int, ltD_int, leD_int, gtD_int, geD_int, negD_int, eqD_int, neD_int, eqD_bl, neD_bl, mkLst_0, mkTup_0, mkLst_1, mkTup_1, mkLst_2, mkTup_2, mkLst_3, mkTup_3, mkLst_4, mkTup_4, mkLst_5, mkTup_5, mkLst_6, mkTup_6, mkLst_7, mkTup_7, mkLst_8, mkTup_8, mkLst_9, mkTup_9, mkLst_10, mkTup_10, mkLst_11, mkTup_11, mkLst_12, mkTup_12, mkLst_13, mkTup_13, mkLst_14, mkTup_14, mkLst_15, mkTup_15, mkLst_16, mkTup_16, eqD_ss]
  by_cases hd : x = "-"
  · simp -implicitDefEqProofs only [Option.bind_some, bd2_some, bd3_some, bd4_some, bd5_some, bd6_some, un_2_mk, un_3_mk, un_4_mk, un_5_mk, un_6_mk, flK_rt, flK_nx, asB_bl, asI_int, notD_bl, scG_bl, scG_int, scG_non, scG_str, unL_l, unL_t, un1_t, un2_t, un3_t, un4_t, isKG_l, isTG_l, addD_int, subD_int, ltD_int, leD_int, gtD_int, geD_int, negD_int, eqD_int, neD_int, eqD_bl, neD_bl, mkLst_0, mkTup_0, mkLst_1, mkTup_1, mkLst_2, mkTup_2, mkLst_3, mkTup_3, mkLst_4, mkTup_4, mkLst_5, mkTup_5, mkLst_6, mkTup_6, mkLst_7, mkTup_7, mkLst_8, mkTup_8, mkLst_9, mkTup_9, mkLst_10, mkTup_10, mkLst_11, mkTup_11, mkLst_12, mkTup_12, mkLst_13, mkTup_13, mkLst_14, mkTup_14, mkLst_15, mkTup_15, mkLst_16, mkTup_16, decide_eq_true hd, if_true, if_pos hd]
  · rw [if_neg hd, split_s (by omega)]
    generalize Txt.split x spc = ws at hw hn
    unfold m_law_ships_in
    simp -implicitDefEqProofs only [Option.bind_some, bd2_some, bd3_some, bd4_some, bd5_some, bd6_some, un_2_mk, un_3_mk, un_4_mk, un_5_mk, un_6_mk, flK_rt, flK_nx, asB_bl, asI_int, notD_bl, scG_bl, scG_int, scG_non, scG_str, unL_l, unL_t, un1_t, un2_t, un3_t, un4_t, isKG_l, isTG_l, addD_int, subD_int, ltD_int, leD_int, gtD_int, geD_int, negD_int, eqD_int, neD_int, eqD_bl, neD_bl, mkLst_0, mkTup_0, mkLst_1, mkTup_1, mkLst_2, mkTup_2, mkLst_3, mkTup_3, mkLst_4, mkTup_4, mkLst_5, mkTup_5, mkLst_6, mkTup_6, mkLst_7, mkTup_7, mkLst_8, mkTup_8, mkLst_9, mkTup_9, mkLst_10, mkTup_10, mkLst_11, mkTup_11, mkLst_12, mkTup_12, mkLst_13, mkTup_13, mkLst_14, mkTup_14, mkLst_15, mkTup_15, mkLst_16, mkTup_16, decide_eq_false hd, Bool.false_eq_true, if_false, cmp_lnum hw, none_in]
    unfold shipsR
    cases q : ws.any noW with
    | true => simp -implicitDefEqProofs only [Option.bind_some, bd2_some, bd3_some, bd4_some, bd5_some, bd6_some, un_2_mk, un_3_mk, un_4_mk, un_5_mk, un_6_mk, flK_rt, flK_nx, asB_bl, asI_int, notD_bl, scG_bl, scG_int, scG_non, scG_str, unL_l, unL_t, un1_t, un2_t, un3_t, un4_t, isKG_l, isTG_l, addD_int, subD_int, ltD_int, leD_int, gtD_int, geD_int, negD_int, eqD_int, neD_int, eqD_bl, neD_bl, mkLst_0, mkTup_0, mkLst_1, mkTup_1, mkLst_2, mkTup_2, mkLst_3, mkTup_3, mkLst_4, mkTup_4, mkLst_5, mkTup_5, mkLst_6, mkTup_6, mkLst_7, mkTup_7, mkLst_8, mkTup_8, mkLst_9, mkTup_9, mkLst_10, mkTup_10, mkLst_11, mkTup_11, mkLst_12, mkTup_12, mkLst_13, mkTup_13, mkLst_14, mkTup_14, mkLst_15, mkTup_15, mkLst_16, mkTup_16, if_true]; rfl
    | false =>
      have hk := Nat.le_trans (fm_len ws) hn
      simp -implicitDefEqProofs only [Option.bind_some, bd2_some, bd3_some, bd4_some, bd5_some, bd6_some, un_2_mk, un_3_mk, un_4_mk, un_5_mk, un_6_mk, flK_rt, flK_nx, asB_bl, asI_int, notD_bl, scG_bl, scG_int, scG_non, scG_str, unL_l, unL_t, un1_t, un2_t, un3_t, un4_t, isKG_l, isTG_l, addD_int, subD_int, ltD_int, leD_int, gtD_int, geD_int, negD_int, eqD_int, neD_int, eqD_bl, neD_bl, mkLst_0, mkTup_0, mkLst_1, mkTup_1, mkLst_2, mkTup_2, mkLst_3, mkTup_3, mkLst_4, mkTup_4, mkLst_5, mkTup_5, mkLst_6, mkTup_6, mkLst_7, mkTup_7, mkLst_8, mkTup_8, mkLst_9, mkTup_9, mkLst_10, mkTup_10, mkLst_11, mkTup_11, mkLst_12, mkTup_12, mkLst_13, mkTup_13, mkLst_14, mkTup_14, mkLst_15, mkTup_15, mkLst_16, mkTup_16, Bool.false_eq_true, if_false, all_num q, sos_z hk, ne_rises]
      cases rises (ws.filterMap numW) with
      | true =>
        simp -implicitDefEqProofs only [Option.bind_some, bd2_some, bd3_some, bd4_some, bd5_some, bd6_some, un_2_mk, un_3_mk, un_4_mk, un_5_mk, un_6_mk, flK_rt, flK_nx, asB_bl, asI_int, notD_bl, scG_bl, scG_int, scG_non, scG_str, unL_l, unL_t, un1_t, un2_t, un3_t, un4_t, isKG_l, isTG_l, addD_int, subD_int, ltD_int, leD_int, gtD_int, geD_int, negD_int, eqD_int, neD_int, eqD_bl, neD_bl, mkLst_0, mkTup_0, mkLst_1, mkTup_1, mkLst_2, mkTup_2, mkLst_3, mkTup_3, mkLst_4, mkTup_4, mkLst_5, mkTup_5, mkLst_6, mkTup_6, mkLst_7, mkTup_7, mkLst_8, mkTup_8, mkLst_9, mkTup_9, mkLst_10, mkTup_10, mkLst_11, mkTup_11, mkLst_12, mkTup_12, mkLst_13, mkTup_13, mkLst_14, mkTup_14, mkLst_15, mkTup_15, mkLst_16, mkTup_16, Bool.not_true, Bool.false_eq_true, if_false, if_true, ge_any, anyF_map, big_n]
        cases (ws.filterMap numW).any fun k => decide (n ≤ k) with
        | true => simp -implicitDefEqProofs only [Option.bind_some, bd2_some, bd3_some, bd4_some, bd5_some, bd6_some, un_2_mk, un_3_mk, un_4_mk, un_5_mk, un_6_mk, flK_rt, flK_nx, asB_bl, asI_int, notD_bl, scG_bl, scG_int, scG_non, scG_str, unL_l, unL_t, un1_t, un2_t, un3_t, un4_t, isKG_l, isTG_l, addD_int, subD_int, ltD_int, leD_int, gtD_int, geD_int, negD_int, eqD_int, neD_int, eqD_bl, neD_bl, mkLst_0, mkTup_0, mkLst_1, mkTup_1, mkLst_2, mkTup_2, mkLst_3, mkTup_3, mkLst_4, mkTup_4, mkLst_5, mkTup_5, mkLst_6, mkTup_6, mkLst_7, mkTup_7, mkLst_8, mkTup_8, mkLst_9, mkTup_9, mkLst_10, mkTup_10, mkLst_11, mkTup_11, mkLst_12, mkTup_12, mkLst_13, mkTup_13, mkLst_14, mkTup_14, mkLst_15, mkTup_15, mkLst_16, mkTup_16, if_true]
        | false => simp -implicitDefEqProofs only [Option.bind_some, bd2_some, bd3_some, bd4_some, bd5_some, bd6_some, un_2_mk, un_3_mk, un_4_mk, un_5_mk, un_6_mk, flK_rt, flK_nx, asB_bl, asI_int, notD_bl, scG_bl, scG_int, scG_non, scG_str, unL_l, unL_t, un1_t, un2_t, un3_t, un4_t, isKG_l, isTG_l, addD_int, subD_int, ltD_int, leD_int, gtD_int, geD_int, negD_int, eqD_int, neD_int, eqD_bl, neD_bl, mkLst_0, mkTup_0, mkLst_1, mkTup_1, mkLst_2, mkTup_2, mkLst_3, mkTup_3, mkLst_4, mkTup_4, mkLst_5, mkTup_5, mkLst_6, mkTup_6, mkLst_7, mkTup_7, mkLst_8, mkTup_8, mkLst_9, mkTup_9, mkLst_10, mkTup_10, mkLst_11, mkTup_11, mkLst_12, mkTup_12, mkLst_13, mkTup_13, mkLst_14, mkTup_14, mkLst_15, mkTup_15, mkLst_16, mkTup_16, Bool.false_eq_true, if_false]; rfl
      | false => simp -implicitDefEqProofs only [Option.bind_some, bd2_some, bd3_some, bd4_some, bd5_some, bd6_some, un_2_mk, un_3_mk, un_4_mk, un_5_mk, un_6_mk, flK_rt, flK_nx, asB_bl, asI_int, notD_bl, scG_bl, scG_int, scG_non, scG_str, unL_l, unL_t, un1_t, un2_t, un3_t, un4_t, isKG_l, isTG_l, addD_int, subD_int, ltD_int, leD_int, gtD_int, geD_int, negD_int, eqD_int, neD_int, eqD_bl, neD_bl, mkLst_0, mkTup_0, mkLst_1, mkTup_1, mkLst_2, mkTup_2, mkLst_3, mkTup_3, mkLst_4, mkTup_4, mkLst_5, mkTup_5, mkLst_6, mkTup_6, mkLst_7, mkTup_7, mkLst_8, mkTup_8, mkLst_9, mkTup_9, mkLst_10, mkTup_10, mkLst_11, mkTup_11, mkLst_12, mkTup_12, mkLst_13, mkTup_13, mkLst_14, mkTup_14, mkLst_15, mkTup_15, mkLst_16, mkTup_16, Bool.not_false, Bool.false_eq_true, if_false, if_true]; rfl
theorem lot_cases {a c : D} {xs : List D} (hxs : xs.length = n) : mx_standing_in (.tup [a, c, .tup xs]) (.str x) = some (decide (x ≠ "-") && tooBig n (shipsR (Txt.split x spc)))
    ∧ ((x = "-" ∨ tooBig n (shipsR (Txt.split x spc)) = false) → m_standing_in (.tup [a, c, .tup xs]) (.str x) = some (lotR x n)) := by
  have hw := ws_word hx
  have it : ixD (.tup [a, c, .tup xs]) (.int 2) = some (.tup xs) := by simp
  have lt : lenF [.tup xs] = some (.int (n : Int)) := by rw [← hxs]; rfl
  have cg : ∀ ks : List Nat, cmpP (fun d21 => Option.bind (lenF [D.tup xs]) fun t24 => Option.bind (geD d21 t24) fun t26 => some [t26]) (nD ks) = some (ks.map fun k => .bl (decide (n ≤ k))) := fun ks => by
    rw [← ge_any (n := n) ks]
    exact cmpP_congr fun d _ => by simp -implicitDefEqProofs only [Option.bind_some, bd2_some, bd3_some, bd4_some, bd5_some, bd6_some, un_2_mk, un_3_mk, un_4_mk, un_5_mk, un_6_mk, flK_rt, flK_nx, asB_bl, asI_int, notD_bl, scG_bl, scG_int, scG_non, scG_str, unL_l, unL_t, un1_t, un2_t, un3_t, un4_t, isKG_l, isTG_l, addD_int, subD_int, ltD_int, leD_int, gtD_int, geD_int, negD_int, eqD_int, neD_int, eqD_bl, neD_bl, mkLst_0, mkTup_0, mkLst_1, mkTup_1, mkLst_2, mkTup_2, mkLst_3, mkTup_3, mkLst_4, mkTup_4, mkLst_5, mkTup_5, mkLst_6, mkTup_6, mkLst_7, mkTup_7, mkLst_8, mkTup_8, mkLst_9, mkTup_9, mkLst_10, mkTup_10, mkLst_11, mkTup_11, mkLst_12, mkTup_12, mkLst_13, mkTup_13, mkLst_14, mkTup_14, mkLst_15, mkTup_15, mkLst_16, mkTup_16, lt]
  by_cases hd : x = "-"
  · have c0 : cmpP (fun d21 => Option.bind (lenF [D.tup xs]) fun t24 => Option.bind (geD d21 t24) fun t26 => some [t26]) [] = some [] := rfl
    constructor
    · unfold mx_standing_in
      simp -implicitDefEqProofs only [Option.bind_some, bd2_some, bd3_some, bd4_some, bd5_some, bd6_some, un_2_mk, un_3_mk, un_4_mk, un_5_mk, un_6_mk, flK_rt, flK_nx, asB_bl, asI_int, notD_bl, scG_bl, scG_int, scG_non, scG_str, unL_l, unL_t, un1_t, un2_t, un3_t, un4_t, isKG_l, isTG_l, addD_int, subD_int, ltD_int, leD_int, gtD_int, geD_int, negD_int, eqD_int, neD_int, eqD_bl, neD_bl, mkLst_0, mkTup_0, mkLst_1, mkTup_1, mkLst_2, mkTup_2, mkLst_3, mkTup_3, mkLst_4, mkTup_4, mkLst_5, mkTup_5, mkLst_6, mkTup_6, mkLst_7, mkTup_7, mkLst_8, mkTup_8, mkLst_9, mkTup_9, mkLst_10, mkTup_10, mkLst_11, mkTup_11, mkLst_12, mkTup_12, mkLst_13, mkTup_13, mkLst_14, mkTup_14, mkLst_15, mkTup_15, mkLst_16, mkTup_16, eqD_ss, decide_eq_true hd, if_true, show isD (D.tup []) .non = some (.bl false) from rfl, Bool.false_eq_true, if_false, it, c0, show anyF [.lst []] = some (.bl false) from rfl]
      rw [decide_eq_false (by simpa using hd)]; rfl
    · intro _
      unfold m_standing_in lotR
      simp -implicitDefEqProofs only [Option.bind_some, bd2_some, bd3_some, bd4_some, bd5_some, bd6_some, un_2_mk, un_3_mk, un_4_mk, un_5_mk, un_6_mk, flK_rt, flK_nx, asB_bl, asI_int, notD_bl, scG_bl, scG_int, scG_non, scG_str, unL_l, unL_t, un1_t, un2_t, un3_t, un4_t, isKG_l, isTG_l, addD_int, subD_int, ltD_int, leD_int, gtD_int, geD_int, negD_int, eqD_int, neD_int, eqD_bl, neD_bl, mkLst_0, mkTup_0, mkLst_1, mkTup_1, mkLst_2, mkTup_2, mkLst_3, mkTup_3, mkLst_4, mkTup_4, mkLst_5, mkTup_5, mkLst_6, mkTup_6, mkLst_7, mkTup_7, mkLst_8, mkTup_8, mkLst_9, mkTup_9, mkLst_10, mkTup_10, mkLst_11, mkTup_11, mkLst_12, mkTup_12, mkLst_13, mkTup_13, mkLst_14, mkTup_14, mkLst_15, mkTup_15, mkLst_16, mkTup_16, eqD_ss, decide_eq_true hd, if_true, show isD (D.tup []) .non = some (.bl false) from rfl, Bool.false_eq_true, if_false, it, c0, show anyF [.lst []] = some (.bl false) from rfl, if_pos hd]
  · rw [decide_eq_true (show x ≠ "-" from hd), Bool.true_and]
    have hs : splitD (.str x) (.str " ") = some (.lst ((Txt.split x spc).map .str)) := split_s (by omega)
    have sh := ships_ok hw hn
    constructor
    · unfold mx_standing_in
      simp -implicitDefEqProofs only [Option.bind_some, bd2_some, bd3_some, bd4_some, bd5_some, bd6_some, un_2_mk, un_3_mk, un_4_mk, un_5_mk, un_6_mk, flK_rt, flK_nx, asB_bl, asI_int, notD_bl, scG_bl, scG_int, scG_non, scG_str, unL_l, unL_t, un1_t, un2_t, un3_t, un4_t, isKG_l, isTG_l, addD_int, subD_int, ltD_int, leD_int, gtD_int, geD_int, negD_int, eqD_int, neD_int, eqD_bl, neD_bl, mkLst_0, mkTup_0, mkLst_1, mkTup_1, mkLst_2, mkTup_2, mkLst_3, mkTup_3, mkLst_4, mkTup_4, mkLst_5, mkTup_5, mkLst_6, mkTup_6, mkLst_7, mkTup_7, mkLst_8, mkTup_8, mkLst_9, mkTup_9, mkLst_10, mkTup_10, mkLst_11, mkTup_11, mkLst_12, mkTup_12, mkLst_13, mkTup_13, mkLst_14, mkTup_14, mkLst_15, mkTup_15, mkLst_16, mkTup_16, eqD_ss, decide_eq_false hd, Bool.false_eq_true, if_false, hs, sh]
      unfold shipsR
      split
      · simp -implicitDefEqProofs only [Option.bind_some, bd2_some, bd3_some, bd4_some, bd5_some, bd6_some, un_2_mk, un_3_mk, un_4_mk, un_5_mk, un_6_mk, flK_rt, flK_nx, asB_bl, asI_int, notD_bl, scG_bl, scG_int, scG_non, scG_str, unL_l, unL_t, un1_t, un2_t, un3_t, un4_t, isKG_l, isTG_l, addD_int, subD_int, ltD_int, leD_int, gtD_int, geD_int, negD_int, eqD_int, neD_int, eqD_bl, neD_bl, mkLst_0, mkTup_0, mkLst_1, mkTup_1, mkLst_2, mkTup_2, mkLst_3, mkTup_3, mkLst_4, mkTup_4, mkLst_5, mkTup_5, mkLst_6, mkTup_6, mkLst_7, mkTup_7, mkLst_8, mkTup_8, mkLst_9, mkTup_9, mkLst_10, mkTup_10, mkLst_11, mkTup_11, mkLst_12, mkTup_12, mkLst_13, mkTup_13, mkLst_14, mkTup_14, mkLst_15, mkTup_15, mkLst_16, mkTup_16, show isD D.non .non = some (.bl true) from rfl, if_true]; rfl
      · split
        · simp -implicitDefEqProofs only [Option.bind_some, bd2_some, bd3_some, bd4_some, bd5_some, bd6_some, un_2_mk, un_3_mk, un_4_mk, un_5_mk, un_6_mk, flK_rt, flK_nx, asB_bl, asI_int, notD_bl, scG_bl, scG_int, scG_non, scG_str, unL_l, unL_t, un1_t, un2_t, un3_t, un4_t, isKG_l, isTG_l, addD_int, subD_int, ltD_int, leD_int, gtD_int, geD_int, negD_int, eqD_int, neD_int, eqD_bl, neD_bl, mkLst_0, mkTup_0, mkLst_1, mkTup_1, mkLst_2, mkTup_2, mkLst_3, mkTup_3, mkLst_4, mkTup_4, mkLst_5, mkTup_5, mkLst_6, mkTup_6, mkLst_7, mkTup_7, mkLst_8, mkTup_8, mkLst_9, mkTup_9, mkLst_10, mkTup_10, mkLst_11, mkTup_11, mkLst_12, mkTup_12, mkLst_13, mkTup_13, mkLst_14, mkTup_14, mkLst_15, mkTup_15, mkLst_16, mkTup_16, show ∀ ds, isD (D.tup ds) .non = some (.bl false) from fun _ => rfl, Bool.false_eq_true, if_false, it, cg, anyF_map, big_n]
        · simp -implicitDefEqProofs only [Option.bind_some, bd2_some, bd3_some, bd4_some, bd5_some, bd6_some, un_2_mk, un_3_mk, un_4_mk, un_5_mk, un_6_mk, flK_rt, flK_nx, asB_bl, asI_int, notD_bl, scG_bl, scG_int, scG_non, scG_str, unL_l, unL_t, un1_t, un2_t, un3_t, un4_t, isKG_l, isTG_l, addD_int, subD_int, ltD_int, leD_int, gtD_int, geD_int, negD_int, eqD_int, neD_int, eqD_bl, neD_bl, mkLst_0, mkTup_0, mkLst_1, mkTup_1, mkLst_2, mkTup_2, mkLst_3, mkTup_3, mkLst_4, mkTup_4, mkLst_5, mkTup_5, mkLst_6, mkTup_6, mkLst_7, mkTup_7, mkLst_8, mkTup_8, mkLst_9, mkTup_9, mkLst_10, mkTup_10, mkLst_11, mkTup_11, mkLst_12, mkTup_12, mkLst_13, mkTup_13, mkLst_14, mkTup_14, mkLst_15, mkTup_15, mkLst_16, mkTup_16, show isD D.non .non = some (.bl true) from rfl, if_true]; rfl
    · intro hb
      have hb : tooBig n (shipsR (Txt.split x spc)) = false := hb.resolve_left hd
      unfold m_standing_in lotR
      simp -implicitDefEqProofs only [Option.bind_some, bd2_some, bd3_some, bd4_some, bd5_some, bd6_some, un_2_mk, un_3_mk, un_4_mk, un_5_mk, un_6_mk, flK_rt, flK_nx, asB_bl, asI_int, notD_bl, scG_bl, scG_int, scG_non, scG_str, unL_l, unL_t, un1_t, un2_t, un3_t, un4_t, isKG_l, isTG_l, addD_int, subD_int, ltD_int, leD_int, gtD_int, geD_int, negD_int, eqD_int, neD_int, eqD_bl, neD_bl, mkLst_0, mkTup_0, mkLst_1, mkTup_1, mkLst_2, mkTup_2, mkLst_3, mkTup_3, mkLst_4, mkTup_4, mkLst_5, mkTup_5, mkLst_6, mkTup_6, mkLst_7, mkTup_7, mkLst_8, mkTup_8, mkLst_9, mkTup_9, mkLst_10, mkTup_10, mkLst_11, mkTup_11, mkLst_12, mkTup_12, mkLst_13, mkTup_13, mkLst_14, mkTup_14, mkLst_15, mkTup_15, mkLst_16, mkTup_16, eqD_ss, decide_eq_false hd, Bool.false_eq_true, if_false, hs, sh, if_neg hd, hb]
      unfold shipsR at hb ⊢
      split at hb
      · cases hb
      · rename_i h1
        split at hb
        · rename_i h2
          rw [big_n] at hb
          simp -implicitDefEqProofs only [Option.bind_some, bd2_some, bd3_some, bd4_some, bd5_some, bd6_some, un_2_mk, un_3_mk, un_4_mk, un_5_mk, un_6_mk, flK_rt, flK_nx, asB_bl, asI_int, notD_bl, scG_bl, scG_int, scG_non, scG_str, unL_l, unL_t, un1_t, un2_t, un3_t, un4_t, isKG_l, isTG_l, addD_int, subD_int, ltD_int, leD_int, gtD_int, geD_int, negD_int, eqD_int, neD_int, eqD_bl, neD_bl, mkLst_0, mkTup_0, mkLst_1, mkTup_1, mkLst_2, mkTup_2, mkLst_3, mkTup_3, mkLst_4, mkTup_4, mkLst_5, mkTup_5, mkLst_6, mkTup_6, mkLst_7, mkTup_7, mkLst_8, mkTup_8, mkLst_9, mkTup_9, mkLst_10, mkTup_10, mkLst_11, mkTup_11, mkLst_12, mkTup_12, mkLst_13, mkTup_13, mkLst_14, mkTup_14, mkLst_15, mkTup_15, mkLst_16, mkTup_16, h2, if_true, if_neg h1, show ∀ ds, isD (D.tup ds) .non = some (.bl false) from fun _ => rfl, Bool.false_eq_true, if_false, it, cg, anyF_map, hb]
        · cases hb
theorem told_lot {a c : D} {xs : List D} (hxs : xs.length = n) : m_law_told (.str x) (.tup [a, c, .tup xs]) = some (lotR x n) := by
  obtain ⟨h1, h2⟩ := lot_cases hx hn (a := a) (c := c) hxs
  have hs : isD (.tup [a, c, .tup xs]) .non = some (.bl false) := rfl
  by_cases hd : x = "-"
  · exact told_lot_ok hs (le_standing_in _ _ (ms_standing_in (h2 (.inl hd))))
  · cases q : tooBig n (shipsR (Txt.split x spc)) with
    | true =>
      rw [told_lot_ex hs (rx_standing_in (by rw [h1, q, decide_eq_true (show x ≠ "-" from hd)]; rfl))]
      unfold lotR
      rw [if_neg hd, if_pos q]
    | false => exact told_lot_ok hs (le_standing_in _ _ (ms_standing_in (h2 (.inr q))))
end
end LW
namespace LW
open PySem DL
theorem spl_count : ∀ (l acc : List Nat), (TL.spl [32] 0 acc l).length = 1 + l.count 32
  | [], acc => rfl
  | c :: r, acc => by
    by_cases h : c = 32
    · subst h
      have : TL.spl [32] 0 acc (32 :: r) = acc :: TL.spl [32] 0 [] r := TL.spl_hit rfl
      rw [this, List.length_cons, spl_count r [], List.count_cons_self]; omega
    · have : TL.spl [32] 0 acc (c :: r) = TL.spl [32] 0 (acc ++ [c]) r := TL.spl_miss (by
        show ([c] == [32]) = false
        rw [beq_eq_false_iff_ne]
        intro e
        exact h (List.cons.inj e).1)
      rw [this, spl_count r, List.count_cons_of_ne h]
theorem words_n (x : Str) : (Txt.split x spc).length = 1 + (TL.tl x).count 32 := by
  have e := TL.split_spl x spc (by rw [tl_spc]; simp) (TL.kind_ok (by decide +kernel))
  rw [← List.length_map (f := TL.tl), e, tl_spc, spl_count]
theorem count_join : ∀ ps : List Str, ps ≠ [] → (TL.tl (Txt.join spc ps)).count 32 + 1 = ps.length + (ps.map fun p => (TL.tl p).count 32).sum := by
  intro ps h
  rw [TL.join_eq, TL.tl_join, tl_spc]
  induction ps with
  | nil => exact absurd rfl h
  | cons p r ih =>
    cases r with
    | nil => show (TL.tl p).count 32 + 1 = _; simp; omega
    | cons q r =>
      have := ih (by simp)
      show (TL.tl p ++ ([32] ++ TL.joinL [32] ((q :: r).map TL.tl))).count 32 + 1 = _
      rw [List.count_append, List.count_append]
      simp only [List.map_cons, List.sum_cons, List.length_cons] at this ⊢
      have e1 : ([32] : List Nat).count 32 = 1 := rfl
      omega
theorem no_blank (x : Str) : ∀ w ∈ Txt.split x spc, (TL.tl w).count 32 = 0 := by
  have e := count_join (Txt.split x spc) (split_ne x spc)
  rw [join_split] at e
  have n := words_n x
  have z : ((Txt.split x spc).map fun p => (TL.tl p).count 32).sum = 0 := by omega
  intro w hw
  have := List.sum_eq_zero_iff_forall_eq_nat.mp z ((TL.tl w).count 32) (List.mem_map.mpr ⟨w, hw, rfl⟩)
  exact this
theorem join_words {ps : List Str} (h : ∀ p ∈ ps, (TL.tl p).count 32 = 0) : (Txt.split (Txt.join spc ps) spc).length ≤ ps.length + 1 := by
  rw [words_n]
  by_cases hp : ps = []
  · subst hp
    show 1 + (TL.tl (Txt.join spc [])).count 32 ≤ _
    rw [TL.join_eq, TL.tl_join]
    exact Nat.le_refl _
  · have e := count_join ps hp
    have z : (ps.map fun p => (TL.tl p).count 32).sum = 0 := List.sum_eq_zero_iff_forall_eq_nat.mpr fun i hi => by
      obtain ⟨p, hp, rfl⟩ := List.mem_map.mp hi
      exact h p hp
    omega
theorem sum_le {ps : List Str} {L : Nat} (h : ∀ p ∈ ps, p.length ≤ L) : (ps.map (·.length)).sum ≤ ps.length * L := by
  induction ps with
  | nil => exact Nat.zero_le _
  | cons p ps ih =>
    have := ih fun q hq => h q (List.mem_cons_of_mem _ hq)
    have := h p List.mem_cons_self
    rw [List.map_cons, List.sum_cons, List.length_cons, Nat.succ_mul]; omega
theorem strs_m (ps : List Str) : strs? (ps.map D.str) = some ps := strs_map ps
theorem join_s {ps : List Str} {L : Nat} (h : ∀ p ∈ ps, p.length ≤ L) (hL : L ≤ 400) (hK : ps.length ≤ 100) : joinD2 (.str " ") (.lst (ps.map .str)) = some (.str (Txt.join spc ps)) := by
  have e : joinD2 (.str " ") (.lst (ps.map .str)) = (strs? (ps.map D.str)).bind fun ys => if (ys.map (·.length)).sum + ys.length * spc.length ≤ 16777216 then some (.str (Txt.join spc ys)) else none := rfl
  have s := sum_le h
  have : ps.length * L ≤ 100 * 400 := Nat.mul_le_mul hK hL
  rw [e, strs_m, Option.bind_some, if_pos (by rw [len_spc]; omega)]
theorem join_l {ps : List Str} {L : Nat} (h : ∀ p ∈ ps, p.length ≤ L) (hL : L ≤ 400) (hK : ps.length ≤ 100) : (Txt.join spc ps).length ≤ 40100 := by
  have s := sum_le h
  have : ps.length * L ≤ 100 * 400 := Nat.mul_le_mul hK hL
  have := join_len spc ps
  rw [len_spc] at this
  omega
theorem cut_to (x : Str) {i : Int} (h : 0 ≤ i) (hl : x.length ≤ 1000000) : ∃ y : Str, sliceS (.str x) none (some i) = some (.str y) ∧ TL.tl y = (TL.tl x).take i.toNat := by
  refine ⟨Txt.slice x none (some i), if_pos (lim_of hl), ?_⟩
  have e := SX.slice_to (a := TL.tl x) h
  rw [SX.S_tl] at e
  rw [e]
theorem cut_from (x : Str) {i : Int} (h : 0 ≤ i) (hl : x.length ≤ 1000000) : ∃ y : Str, sliceS (.str x) (some i) none = some (.str y) ∧ TL.tl y = (TL.tl x).drop i.toNat := by
  refine ⟨Txt.slice x (some i) none, if_pos (lim_of hl), ?_⟩
  have e := SX.slice_from (a := TL.tl x) h
  rw [SX.S_tl] at e
  rw [e]
theorem addD_ss {a b : Str} (h : a.length + b.length ≤ 1000000) : addD (.str a) (.str b) = some (.str (a ++ b)) := by
  show (if lim (a.length + b.length) = true then _ else _) = _
  rw [if_pos (lim_of h)]
theorem len_app (a b : Str) : (a ++ b).length = a.length + b.length := by rw [TL.len_tl, TL.tl_append, List.length_append, ← TL.len_tl, ← TL.len_tl]
end LW
namespace LW
open PySem DL
theorem slice_ij {ys : List D} {i j : Nat} (hi : i ≤ ys.length) : sliceD (.lst ys) (some (i : Int)) (some (j : Int)) = some (.lst ((ys.drop i).take (min j ys.length - i))) := by
  show some (D.lst (cutD ys (some (i : Int)) (some (j : Int)))) = _
  unfold cutD HT.sIx
  simp only []
  rw [if_neg (by omega), if_neg (by omega), Int.toNat_natCast, Int.toNat_natCast, Nat.min_eq_left hi]
def Wd (L : Nat) (p : Str) : Prop := p.length ≤ L ∧ (TL.tl p).count 32 = 0
theorem joined {ps : List Str} {k : Nat} (h : ∀ p ∈ ps, Wd 400 p) (hl : ps.length ≤ k + 2) (hk : k ≤ 50) :
    joinD2 (.str " ") (.lst (ps.map .str)) = some (.str (Txt.join spc ps)) ∧ (Txt.join spc ps).length ≤ 41000 ∧ (Txt.split (Txt.join spc ps) spc).length ≤ k + 3 := by
  have h1 : ∀ p ∈ ps, p.length ≤ 400 := fun p hp => (h p hp).1
  refine ⟨join_s h1 (Nat.le_refl _) (by omega), Nat.le_trans (join_l h1 (Nat.le_refl _) (by omega)) (by omega), ?_⟩
  have := join_words fun p hp => (h p hp).2
  omega
theorem odd_wd (w : Str) (l : List Nat) (h : TL.tl w = l) (h1 : l.length ≤ 400) (h2 : l.count 32 = 0) : Wd 400 w := ⟨by rw [TL.len_tl, h]; exact h1, by rw [h]; exact h2⟩
theorem bent_ok {n : Nat} {b : D} (hb : Box n b) (hn : n < 2 ^ 50) {x : Str} (hx : x.length ≤ 400) (hw : (Txt.split x spc).length ≤ 50) :
    ∃ (y : Str) (b' : D), m_law_bent_text b (.str x) = some (.str y, b') ∧ Box (n + 10) b' ∧ y.length ≤ 41000 ∧ (Txt.split y spc).length ≤ (Txt.split x spc).length + 3 := by
  obtain ⟨r3, b1, e1, r3a, r3b, hb1⟩ := take_ok (s := 7) hb (by omega) (by omega) (by omega)
  obtain ⟨at_, b2, e2, a0, a1, hb2⟩ := take_ok (s := (x.length : Int) + 1) hb1 (by omega) (by omega) (by omega)
  have ls : ("0129-: ab+_." : Str).length = 12 := by rw [TL.len_tl, TL.tl_ofString]; rfl
  have l12 : lenF [.str ("0129-: ab+_." : Str)] = some (.int 12) := by
    rw [len_s (by rw [ls]; omega), ls]; rfl
  obtain ⟨r4, b3, e3, r4a, r4b, hb3⟩ := take_ok (s := 12) hb2 (by omega) (by omega) (by omega)
  obtain ⟨sg, hsg⟩ : ∃ c : Nat, ixD (.str ("0129-: ab+_." : Str)) (.int r4) = some (.str ⟨#[c]⟩) := by
    have hl : ("0129-: ab+_." : Str).cps.toList.length = 12 := by rw [← ls]; exact (TL.len_tl _).symm
    have hr : r4.toNat < ("0129-: ab+_." : Str).cps.toList.length := by omega
    refine ⟨("0129-: ab+_." : Str).cps.toList[r4.toNat], ?_⟩
    have : ixD (.str ("0129-: ab+_." : Str)) (.int r4) = if lim ("0129-: ab+_." : Str).length = true then (L2.atI ("0129-: ab+_." : Str).cps.toList r4).map fun c => .str ⟨#[c]⟩ else none := rfl
    rw [this, if_pos (lim_of (by rw [ls]; omega))]
    unfold L2.atI L2.ixN
    rw [if_pos r4a, if_pos (by rw [hl]; omega)]
    simp
  simp -implicitDefEqProofs only [Option.bind_some, bd2_some, bd3_some, bd4_some, bd5_some, bd6_some, un_2_mk, un_3_mk, un_4_mk, un_5_mk, un_6_mk, flK_rt, flK_nx, asB_bl, asI_int, notD_bl, scG_bl, scG_int, scG_non, scG_str, unL_l, unL_t, un1_t, un2_t, un3_t, un4_t, isKG_l, isTG_l, addD_int, subD_int, ltD_int, leD_int, gtD_int, geD_int, negD_int, eqD_int, neD_int, eqD_bl, neD_bl, mkLst_0, mkTup_0, mkLst_1, mkTup_1, mkLst_2, mkTup_2, mkLst_3, mkTup_3, mkLst_4, mkTup_4, mkLst_5, mkTup_5, mkLst_6, mkTup_6, mkLst_7, mkTup_7, mkLst_8, mkTup_8, mkLst_9, mkTup_9, mkLst_10, mkTup_10, mkLst_11, mkTup_11, mkLst_12, mkTup_12, mkLst_13, mkTup_13, mkLst_14, mkTup_14, mkLst_15, mkTup_15, mkLst_16, mkTup_16, m_law_bent_text, e1, len_s (show x.length ≤ 1000000 by omega), e2, l12, e3, hsg]
  by_cases h3 : r3 < 3
  · rw [if_pos (decide_eq_true h3)]
    obtain ⟨w, hwi, wl, wc⟩ : ∃ w : Str, ixD (.lst [.str ⟨#[sg]⟩, .str "", .str ⟨#[sg]⟩]) (.int r3) = some (.str w) ∧ w.length ≤ 1 ∧ (TL.tl w).count 32 ≤ 1 := by
      have hs : (TL.tl (⟨#[sg]⟩ : Str)).count 32 ≤ 1 := Nat.le_trans List.count_le_length (Nat.le_refl 1)
      have h0 : (TL.tl ("" : Str)).count 32 ≤ 1 := by rw [tl_nil]; exact Nat.zero_le _
      have h0l : ("" : Str).length ≤ 1 := by rw [TL.len_tl, tl_nil]; exact Nat.zero_le _
      have : r3 = 0 ∨ r3 = 1 ∨ r3 = 2 := by omega
      rcases this with rfl | rfl | rfl
      · exact ⟨_, rfl, Nat.le_refl 1, hs⟩
      · exact ⟨_, rfl, h0l, h0⟩
      · exact ⟨_, rfl, Nat.le_refl 1, hs⟩
    obtain ⟨k, hk, k0, k1⟩ : ∃ k : Int, intF [.bl (decide (0 < r3))] = some (.int k) ∧ 0 ≤ k ∧ k ≤ 1 := by
      refine ⟨_, rfl, ?_, ?_⟩ <;> split <;> omega
    obtain ⟨p, hp, tp⟩ := cut_to x a0 (show x.length ≤ 1000000 by omega)
    obtain ⟨q, hq, tq⟩ := cut_from x (show 0 ≤ at_ + k by omega) (show x.length ≤ 1000000 by omega)
    have lx := TL.len_tl x
    have lp : p.length ≤ x.length := by rw [TL.len_tl, tp, List.length_take]; omega
    have lq : q.length ≤ x.length := by rw [TL.len_tl, tq, List.length_drop]; omega
    have lpw := len_app p w
    simp -implicitDefEqProofs only [Option.bind_some, bd2_some, bd3_some, bd4_some, bd5_some, bd6_some, un_2_mk, un_3_mk, un_4_mk, un_5_mk, un_6_mk, flK_rt, flK_nx, asB_bl, asI_int, notD_bl, scG_bl, scG_int, scG_non, scG_str, unL_l, unL_t, un1_t, un2_t, un3_t, un4_t, isKG_l, isTG_l, addD_int, subD_int, ltD_int, leD_int, gtD_int, geD_int, negD_int, eqD_int, neD_int, eqD_bl, neD_bl, mkLst_0, mkTup_0, mkLst_1, mkTup_1, mkLst_2, mkTup_2, mkLst_3, mkTup_3, mkLst_4, mkTup_4, mkLst_5, mkTup_5, mkLst_6, mkTup_6, mkLst_7, mkTup_7, mkLst_8, mkTup_8, mkLst_9, mkTup_9, mkLst_10, mkTup_10, mkLst_11, mkTup_11, mkLst_12, mkTup_12, mkLst_13, mkTup_13, mkLst_14, mkTup_14, mkLst_15, mkTup_15, mkLst_16, mkTup_16, hp, hwi, addD_ss (show p.length + w.length ≤ 1000000 by omega), hk, hq, addD_ss (show (p ++ w).length + q.length ≤ 1000000 by omega)]
    refine ⟨_, _, rfl, hb3.mono (by omega), by rw [len_app]; omega, ?_⟩
    rw [words_n, words_n, TL.tl_append, TL.tl_append, List.count_append, List.count_append, tp, tq]
    have c1 : ((TL.tl x).drop (at_ + k).toNat).count 32 ≤ ((TL.tl x).drop at_.toNat).count 32 := by
      refine List.Sublist.count_le 32 ?_
      rw [show (at_ + k).toNat = at_.toNat + k.toNat by omega, ← List.drop_drop]
      exact List.drop_sublist _ _
    have c2 : ((TL.tl x).take at_.toNat).count 32 + ((TL.tl x).drop at_.toNat).count 32 = (TL.tl x).count 32 := by
      rw [← List.count_append, List.take_append_drop]
    omega
  · rw [if_neg (by rw [decide_eq_true_eq]; exact h3), split_s (by omega)]
    have hne := split_ne x spc
    have hwd : ∀ p ∈ Txt.split x spc, Wd 400 p := fun p hp => ⟨Nat.le_trans (word_le hp) hx, no_blank x p hp⟩
    generalize Txt.split x spc = ws at hw hne hwd
    have h0 : 0 < ws.length := List.length_pos_iff.mpr hne
    obtain ⟨sp, b4, e4, s0, s1, hb4⟩ := take_ok (s := (ws.length : Int)) hb3 (by omega) (by omega) (by omega)
    obtain ⟨k, rfl⟩ : ∃ k : Nat, sp = (k : Int) := ⟨sp.toNat, by omega⟩
    have t0 : sliceD (.lst (ws.map D.str)) none (some (k : Int)) = some (.lst ((ws.take k).map D.str)) := by rw [slice_take, ← List.map_take]
    have t1 : sliceD (.lst (ws.map D.str)) none (some ((k : Int) + 1)) = some (.lst ((ws.take (k + 1)).map D.str)) := by
      have := slice_take (xs := ws.map D.str) (k + 1); rw [← List.map_take] at this; exact this
    have d0 : sliceD (.lst (ws.map D.str)) (some (k : Int)) none = some (.lst ((ws.drop k).map D.str)) := by rw [slice_drop, ← List.map_drop]
    have d1 : sliceD (.lst (ws.map D.str)) (some ((k : Int) + 1)) none = some (.lst ((ws.drop (k + 1)).map D.str)) := by
      have := slice_drop (xs := ws.map D.str) (k + 1); rw [← List.map_drop] at this; exact this
    have d2 : sliceD (.lst (ws.map D.str)) (some ((k : Int) + 2)) none = some (.lst ((ws.drop (k + 2)).map D.str)) := by
      have := slice_drop (xs := ws.map D.str) (k + 2); rw [← List.map_drop] at this; exact this
    have m2 : sliceD (.lst (ws.map D.str)) (some (k : Int)) (some ((k : Int) + 2)) = some (.lst (((ws.drop k).take (min (k + 2) ws.length - k)).map D.str)) := by
      have := slice_ij (ys := ws.map D.str) (i := k) (j := k + 2) (by rw [List.length_map]; omega)
      rw [List.length_map, ← List.map_drop, ← List.map_take] at this; exact this
    have ap : ∀ us vs : List Str, us.length + vs.length ≤ 1000 → addD (.lst (us.map D.str)) (.lst (vs.map D.str)) = some (.lst ((us ++ vs).map D.str)) := fun us vs h => by
      rw [addD_lst (by rw [List.length_map, List.length_map]; omega), List.map_append]
    have tk : ∀ {j : Nat} {p : Str}, p ∈ ws.take j → Wd 400 p := fun h => hwd _ (List.mem_of_mem_take h)
    have dk : ∀ {j : Nat} {p : Str}, p ∈ ws.drop j → Wd 400 p := fun h => hwd _ (List.mem_of_mem_drop h)
    have lt : ∀ j, (ws.take j).length = min j ws.length := fun j => List.length_take ..
    have ld : ∀ j, (ws.drop j).length = ws.length - j := fun j => List.length_drop ..
    simp -implicitDefEqProofs only [Option.bind_some, bd2_some, bd3_some, bd4_some, bd5_some, bd6_some, un_2_mk, un_3_mk, un_4_mk, un_5_mk, un_6_mk, flK_rt, flK_nx, asB_bl, asI_int, notD_bl, scG_bl, scG_int, scG_non, scG_str, unL_l, unL_t, un1_t, un2_t, un3_t, un4_t, isKG_l, isTG_l, addD_int, subD_int, ltD_int, leD_int, gtD_int, geD_int, negD_int, eqD_int, neD_int, eqD_bl, neD_bl, mkLst_0, mkTup_0, mkLst_1, mkTup_1, mkLst_2, mkTup_2, mkLst_3, mkTup_3, mkLst_4, mkTup_4, mkLst_5, mkTup_5, mkLst_6, mkTup_6, mkLst_7, mkTup_7, mkLst_8, mkTup_8, mkLst_9, mkTup_9, mkLst_10, mkTup_10, mkLst_11, mkTup_11, mkLst_12, mkTup_12, mkLst_13, mkTup_13, mkLst_14, mkTup_14, mkLst_15, mkTup_15, mkLst_16, mkTup_16, len_lw, e4]
    by_cases q3 : r3 = 3
    · have ja := joined (ps := ws.take k ++ ws.drop (k + 1)) (k := ws.length) (fun p hp => (List.mem_append.mp hp).elim tk dk) (by rw [List.length_append, lt, ld]; omega) hw
      rw [if_pos (decide_eq_true q3)]
      simp -implicitDefEqProofs only [Option.bind_some, bd2_some, bd3_some, bd4_some, bd5_some, bd6_some, un_2_mk, un_3_mk, un_4_mk, un_5_mk, un_6_mk, flK_rt, flK_nx, asB_bl, asI_int, notD_bl, scG_bl, scG_int, scG_non, scG_str, unL_l, unL_t, un1_t, un2_t, un3_t, un4_t, isKG_l, isTG_l, addD_int, subD_int, ltD_int, leD_int, gtD_int, geD_int, negD_int, eqD_int, neD_int, eqD_bl, neD_bl, mkLst_0, mkTup_0, mkLst_1, mkTup_1, mkLst_2, mkTup_2, mkLst_3, mkTup_3, mkLst_4, mkTup_4, mkLst_5, mkTup_5, mkLst_6, mkTup_6, mkLst_7, mkTup_7, mkLst_8, mkTup_8, mkLst_9, mkTup_9, mkLst_10, mkTup_10, mkLst_11, mkTup_11, mkLst_12, mkTup_12, mkLst_13, mkTup_13, mkLst_14, mkTup_14, mkLst_15, mkTup_15, mkLst_16, mkTup_16, t0, d1, ap _ _ (show (ws.take k).length + (ws.drop (k + 1)).length ≤ 1000 by rw [lt, ld]; omega), ja.1]
      exact ⟨_, _, rfl, hb4.mono (by omega), ja.2.1, ja.2.2⟩
    · rw [if_neg (by rw [decide_eq_true_eq]; exact q3)]
      by_cases q4 : r3 = 4
      · have ja := joined (ps := ws.take (k + 1) ++ ws.drop k) (k := ws.length) (fun p hp => (List.mem_append.mp hp).elim tk dk) (by rw [List.length_append, lt, ld]; omega) hw
        rw [if_pos (decide_eq_true q4)]
        simp -implicitDefEqProofs only [Option.bind_some, bd2_some, bd3_some, bd4_some, bd5_some, bd6_some, un_2_mk, un_3_mk, un_4_mk, un_5_mk, un_6_mk, flK_rt, flK_nx, asB_bl, asI_int, notD_bl, scG_bl, scG_int, scG_non, scG_str, unL_l, unL_t, un1_t, un2_t, un3_t, un4_t, isKG_l, isTG_l, addD_int, subD_int, ltD_int, leD_int, gtD_int, geD_int, negD_int, eqD_int, neD_int, eqD_bl, neD_bl, mkLst_0, mkTup_0, mkLst_1, mkTup_1, mkLst_2, mkTup_2, mkLst_3, mkTup_3, mkLst_4, mkTup_4, mkLst_5, mkTup_5, mkLst_6, mkTup_6, mkLst_7, mkTup_7, mkLst_8, mkTup_8, mkLst_9, mkTup_9, mkLst_10, mkTup_10, mkLst_11, mkTup_11, mkLst_12, mkTup_12, mkLst_13, mkTup_13, mkLst_14, mkTup_14, mkLst_15, mkTup_15, mkLst_16, mkTup_16, t1, d0, ap _ _ (show (ws.take (k + 1)).length + (ws.drop k).length ≤ 1000 by rw [lt, ld]; omega), ja.1]
        exact ⟨_, _, rfl, hb4.mono (by omega), ja.2.1, ja.2.2⟩
      · rw [if_neg (by rw [decide_eq_true_eq]; exact q4)]
        by_cases q5 : r3 = 5
        · have lm : ((ws.drop k).take (min (k + 2) ws.length - k)).reverse.length ≤ min (k + 2) ws.length - k := by rw [List.length_reverse, List.length_take]; omega
          have ja := joined (ps := ws.take k ++ ((ws.drop k).take (min (k + 2) ws.length - k)).reverse ++ ws.drop (k + 2)) (k := ws.length)
            (fun p hp => (List.mem_append.mp hp).elim (fun hp => (List.mem_append.mp hp).elim tk fun h => dk (List.mem_of_mem_take (List.mem_reverse.mp h))) dk)
            (by rw [List.length_append, List.length_append, lt, ld]; omega) hw
          rw [if_pos (decide_eq_true q5)]
          have rv : ∀ us : List Str, revD (.lst (us.map D.str)) = some (.lst (us.reverse.map D.str)) := fun us => by rw [List.map_reverse]; rfl
          simp -implicitDefEqProofs only [Option.bind_some, bd2_some, bd3_some, bd4_some, bd5_some, bd6_some, un_2_mk, un_3_mk, un_4_mk, un_5_mk, un_6_mk, flK_rt, flK_nx, asB_bl, asI_int, notD_bl, scG_bl, scG_int, scG_non, scG_str, unL_l, unL_t, un1_t, un2_t, un3_t, un4_t, isKG_l, isTG_l, addD_int, subD_int, ltD_int, leD_int, gtD_int, geD_int, negD_int, eqD_int, neD_int, eqD_bl, neD_bl, mkLst_0, mkTup_0, mkLst_1, mkTup_1, mkLst_2, mkTup_2, mkLst_3, mkTup_3, mkLst_4, mkTup_4, mkLst_5, mkTup_5, mkLst_6, mkTup_6, mkLst_7, mkTup_7, mkLst_8, mkTup_8, mkLst_9, mkTup_9, mkLst_10, mkTup_10, mkLst_11, mkTup_11, mkLst_12, mkTup_12, mkLst_13, mkTup_13, mkLst_14, mkTup_14, mkLst_15, mkTup_15, mkLst_16, mkTup_16, m2, t0, rv, ap _ _ (show (ws.take k).length + ((ws.drop k).take (min (k + 2) ws.length - k)).reverse.length ≤ 1000 by rw [lt]; omega), d2,
            ap _ _ (show (ws.take k ++ ((ws.drop k).take (min (k + 2) ws.length - k)).reverse).length + (ws.drop (k + 2)).length ≤ 1000 by rw [List.length_append, lt, ld]; omega), ja.1]
          exact ⟨_, _, rfl, hb4.mono (by omega), ja.2.1, ja.2.2⟩
        · rw [if_neg (by rw [decide_eq_true_eq]; exact q5)]
          obtain ⟨xo, b5, e5, ho, hb5⟩ := of_ok (xs := [.str "", .str "-", .str ":", .str "00", .str "1_0", .str "+3", .str "1000000000000", .str "10000000000000", .str "x", .str "7"]) hb4 (by omega) (by simp) (by simp)
          obtain ⟨w, rfl, wd⟩ : ∃ w : Str, xo = .str w ∧ Wd 400 w := by
            simp only [List.mem_cons, List.mem_nil_iff, or_false] at ho
            rcases ho with rfl | rfl | rfl | rfl | rfl | rfl | rfl | rfl | rfl | rfl <;> exact ⟨_, rfl, odd_wd _ _ (TL.tl_ofString _) (by decide) (by decide)⟩
          have ja := joined (ps := ws.take k ++ [w] ++ ws.drop (k + 1)) (k := ws.length)
            (fun p hp => (List.mem_append.mp hp).elim (fun hp => (List.mem_append.mp hp).elim tk fun h => by rw [List.mem_singleton.mp h]; exact wd) dk)
            (by rw [List.length_append, List.length_append, lt, ld, List.length_singleton]; omega) hw
          have a1 : addD (.lst ((ws.take k).map D.str)) (.lst [.str w]) = some (.lst ((ws.take k ++ [w]).map D.str)) := ap (ws.take k) [w] (by rw [lt, List.length_singleton]; omega)
          simp -implicitDefEqProofs only [Option.bind_some, bd2_some, bd3_some, bd4_some, bd5_some, bd6_some, un_2_mk, un_3_mk, un_4_mk, un_5_mk, un_6_mk, flK_rt, flK_nx, asB_bl, asI_int, notD_bl, scG_bl, scG_int, scG_non, scG_str, unL_l, unL_t, un1_t, un2_t, un3_t, un4_t, isKG_l, isTG_l, addD_int, subD_int, ltD_int, leD_int, gtD_int, geD_int, negD_int, eqD_int, neD_int, eqD_bl, neD_bl, mkLst_0, mkTup_0, mkLst_1, mkTup_1, mkLst_2, mkTup_2, mkLst_3, mkTup_3, mkLst_4, mkTup_4, mkLst_5, mkTup_5, mkLst_6, mkTup_6, mkLst_7, mkTup_7, mkLst_8, mkTup_8, mkLst_9, mkTup_9, mkLst_10, mkTup_10, mkLst_11, mkTup_11, mkLst_12, mkTup_12, mkLst_13, mkTup_13, mkLst_14, mkTup_14, mkLst_15, mkTup_15, mkLst_16, mkTup_16, e5, t0, a1, d1, ap _ _ (show (ws.take k ++ [w]).length + (ws.drop (k + 1)).length ≤ 1000 by rw [List.length_append, lt, ld, List.length_singleton]; omega), ja.1]
          exact ⟨_, _, rfl, hb5.mono (by omega), ja.2.1, ja.2.2⟩
end LW
namespace LW
open PySem DL
theorem bad_word {ws : List Str} {w : Str} (hw : w ∈ ws) (h : noW w = true) (hc : w ≠ (":" : Str)) : seaBad ws = true := by
  unfold seaBad
  by_cases h3 : ws.length ≤ 3
  · rw [decide_eq_true h3]; rfl
  · by_cases h2 : ws[2]? = some (":" : Str)
    · have : (seaWs ws).any noW = true := by
        refine List.any_eq_true.mpr ⟨w, ?_, h⟩
        have e : ws = ws.take 2 ++ ws[2] :: ws.drop 3 := by
          rw [← List.drop_eq_getElem_cons (show 2 < ws.length by omega), List.take_append_drop]
        have e2 : ws[2] = (":" : Str) := by
          rw [List.getElem?_eq_getElem (by omega)] at h2
          exact Option.some.inj h2
        rw [e] at hw
        unfold seaWs
        rcases List.mem_append.mp hw with hw | hw
        · exact List.mem_append_left _ hw
        · rcases List.mem_cons.mp hw with hw | hw
          · exact absurd (hw.trans e2) hc
          · exact List.mem_append_right _ hw
      rw [this, Bool.or_true]
    · rw [decide_eq_false h2]
      simp
theorem noW_of {w : Str} {c : Nat} (h : c ∈ TL.tl w) (hc : fig c = false) : noW w = true := by
  unfold noW; rw [numW_no h hc]; rfl
theorem refused_sea {x : Str} (hx : x.length ≤ 400000) (h : 10 ∈ TL.tl x) : m_law_told (.str x) .non = some .non := by
  rw [told_sea hx]
  obtain ⟨w, hw, h10⟩ := word_with h (by decide)
  unfold seaR
  rw [if_pos (bad_word hw (noW_of h10 rfl) fun e => by rw [e, tl_colon] at h10; simp at h10)]
theorem refused_lot {x : Str} (hx : x.length ≤ 400000) (hd : x ≠ ("-" : Str)) (hw : (Txt.split x spc).any noW = true) {a c : D} {xs : List D} : m_law_told (.str x) (.tup [a, c, .tup xs]) = some .non := by
  have hww := ws_word hx
  have hs : splitD (.str x) (.str " ") = some (.lst ((Txt.split x spc).map .str)) := split_s (by omega)
  refine told_lot_ex rfl (rx_standing_in ?_)
  unfold mx_standing_in m_ships_in
  simp -implicitDefEqProofs only [Option.bind_some, bd2_some, bd3_some, bd4_some, bd5_some, bd6_some, un_2_mk, un_3_mk, un_4_mk, un_5_mk, un_6_mk, flK_rt, flK_nx, asB_bl, asI_int, notD_bl, scG_bl, scG_int, scG_non, scG_str, unL_l, unL_t, un1_t, un2_t, un3_t, un4_t, isKG_l, isTG_l, addD_int, subD_int, ltD_int, leD_int, gtD_int, geD_int, negD_int, eqD_int, neD_int, eqD_bl, neD_bl, mkLst_0, mkTup_0, mkLst_1, mkTup_1, mkLst_2, mkTup_2, mkLst_3, mkTup_3, mkLst_4, mkTup_4, mkLst_5, mkTup_5, mkLst_6, mkTup_6, mkLst_7, mkTup_7, mkLst_8, mkTup_8, mkLst_9, mkTup_9, mkLst_10, mkTup_10, mkLst_11, mkTup_11, mkLst_12, mkTup_12, mkLst_13, mkTup_13, mkLst_14, mkTup_14, mkLst_15, mkTup_15, mkLst_16, mkTup_16, eqD_ss, decide_eq_false hd, Bool.false_eq_true, if_false, hs, cmp_num hww, none_in, hw, if_true, show isD D.non .non = some (.bl true) from rfl]
theorem refused_lot10 {x : Str} (hx : x.length ≤ 400000) (h : 10 ∈ TL.tl x) {a c : D} {xs : List D} : m_law_told (.str x) (.tup [a, c, .tup xs]) = some .non := by
  obtain ⟨w, hw, h10⟩ := word_with h (by decide)
  exact refused_lot hx (fun e => by rw [e, tl_dash] at h; simp at h) (List.any_eq_true.mpr ⟨w, hw, noW_of h10 rfl⟩)
theorem none_sea : m_law_told (.str "") .non = some .non := by
  have l0 : ("" : Str).length = 0 := by rw [TL.len_tl, tl_nil]; rfl
  rw [told_sea (by rw [l0]; omega)]
  unfold seaR seaBad
  have : (Txt.split ("" : Str) spc).length = 1 := by rw [words_n, tl_nil]; rfl
  rw [decide_eq_true (show (Txt.split ("" : Str) spc).length ≤ 3 by omega)]
  rfl
theorem none_lot {a c : D} {xs : List D} : m_law_told (.str "") (.tup [a, c, .tup xs]) = some .non := by
  have l0 : ("" : Str).length = 0 := by rw [TL.len_tl, tl_nil]; rfl
  refine refused_lot (by rw [l0]; omega) (fun e => by have := congrArg TL.tl e; rw [tl_nil, tl_dash] at this; cases this) ?_
  obtain ⟨w, hw⟩ := List.exists_mem_of_ne_nil _ (split_ne ("" : Str) spc)
  refine List.any_eq_true.mpr ⟨w, hw, ?_⟩
  unfold noW
  rw [numW_bad fun q => q.2.2 ?_]; rfl
  have := word_le hw
  rw [l0, TL.len_tl] at this
  exact List.length_eq_zero_iff.mp (by omega)
abbrev word (n : Nat) : Str := Str.ofString (toString (n : Int))
abbrev seaN (A C : Nat) (vs : List Nat) : D := .tup [.int (A : Int), .int (C : Int), .tup (nD vs)]
def dw (A C : Nat) (vs : List Nat) : List Str := [word A, word C, (":" : Str)] ++ vs.map word
theorem word_len {n : Nat} (h : n < 10 ^ 13) : (word n).length ≤ 13 := by rw [TL.len_tl, TL.tl_num]; exact TL.numL_len (by decide) h
theorem word_pos (n : Nat) : 0 < (word n).length := by rw [TL.len_tl, TL.tl_num]; exact List.length_pos_iff.mpr (TL.numL_ne n)
theorem str_w {n : Nat} (h : n < 10 ^ 13) : strF [.int (n : Int)] = some (.str (word n)) := str_n h
theorem cmp_str {vs : List Nat} (h : ∀ v ∈ vs, v < 10 ^ 13) : cmpP (fun d => Option.bind (strF [d]) fun t => some [t]) (nD vs) = some ((vs.map word).map D.str) := by
  rw [List.map_map]
  exact cmpP_lstM (e := fun (v : Nat) => D.int (v : Int)) (fun v => D.str (word v)) fun v hv => by rw [str_w (h v hv)]; rfl
section
variable {A C : Nat} {vs : List Nat} (hA : A < 10 ^ 13) (hC : C < 10 ^ 13) (hv : ∀ v ∈ vs, v < 10 ^ 13) (hl : vs.length ≤ 24)
include hA hC hv
theorem dw_wd : ∀ p ∈ dw A C vs, p.length ≤ 13 ∧ 32 ∉ TL.tl p := by
  intro p hp
  unfold dw at hp
  rcases List.mem_append.mp hp with hp | hp
  · simp only [List.mem_cons, List.mem_nil_iff, or_false] at hp
    rcases hp with rfl | rfl | rfl
    · exact ⟨word_len hA, num_free⟩
    · exact ⟨word_len hC, num_free⟩
    · exact ⟨by rw [TL.len_tl, tl_colon]; decide, by rw [tl_colon]; decide⟩
  · obtain ⟨v, hv', rfl⟩ := List.mem_map.mp hp
    exact ⟨word_len (hv v hv'), num_free⟩
include hl
theorem dw_len : (dw A C vs).length = 3 + vs.length := by unfold dw; rw [List.length_append, List.length_map]; rfl
theorem due_join : joinD2 (.str " ") (.lst ((dw A C vs).map .str)) = some (.str (Txt.join spc (dw A C vs))) :=
  join_s (fun p hp => (dw_wd hA hC hv p hp).1) (by omega) (by rw [dw_len hA hC hv hl]; omega)
theorem due_len : (Txt.join spc (dw A C vs)).length ≤ 400 := by
  have s := sum_le fun p hp => (dw_wd hA hC hv p hp).1
  have j := join_len spc (dw A C vs)
  rw [len_spc] at j
  rw [dw_len hA hC hv hl] at s j
  omega
theorem due_split : Txt.split (Txt.join spc (dw A C vs)) spc = dw A C vs := split_back (by unfold dw; simp) fun p hp => (dw_wd hA hC hv p hp).2
theorem text_ok {s t : D} (i0 : ixD s (.int 0) = some (.int (A : Int))) (i1 : ixD s (.int 1) = some (.int (C : Int))) (i2 : ixD s (.int 2) = some t) (ht : unL t = some (nD vs)) :
    m_sea_text s = some (.str (Txt.join spc (dw A C vs))) := by
  have ad : addD (.lst [.str (word A), .str (word C), .str ":"]) (.lst ((vs.map word).map D.str)) = some (.lst ((dw A C vs).map .str)) := by
    rw [addD_lst (by rw [List.length_map, List.length_map]; show 3 + _ ≤ _; omega)]
    unfold dw
    rw [List.map_append]; rfl
  unfold m_sea_text
  simp -implicitDefEqProofs only [Option.bind_some, bd2_some, bd3_some, bd4_some, bd5_some, bd6_some, un_2_mk, un_3_mk, un_4_mk, un_5_mk, un_6_mk, flK_rt, flK_nx, asB_bl, asI_int, notD_bl, scG_bl, scG_int, scG_non, scG_str, unL_l, unL_t, un1_t, un2_t, un3_t, un4_t, isKG_l, isTG_l, addD_int, subD_int, ltD_int, leD_int, gtD_int, geD_int, negD_int, eqD_int, neD_int, eqD_bl, neD_bl, mkLst_0, mkTup_0, mkLst_1, mkTup_1, mkLst_2, mkTup_2, mkLst_3, mkTup_3, mkLst_4, mkTup_4, mkLst_5, mkTup_5, mkLst_6, mkTup_6, mkLst_7, mkTup_7, mkLst_8, mkTup_8, mkLst_9, mkTup_9, mkLst_10, mkTup_10, mkLst_11, mkTup_11, mkLst_12, mkTup_12, mkLst_13, mkTup_13, mkLst_14, mkTup_14, mkLst_15, mkTup_15, mkLst_16, mkTup_16, i0, i1, i2, ht, str_w hA, str_w hC, cmp_str hv, ad, due_join hA hC hv hl]
theorem sea_back (h1 : 1 ≤ vs.length) : seaBad (dw A C vs) = false ∧ seaR (dw A C vs) = seaN A C vs := by
  have e : seaWs (dw A C vs) = word A :: word C :: vs.map word := rfl
  have nw : ∀ {n : Nat}, n < 10 ^ 13 → noW (word n) = false := fun h => by unfold noW; rw [numW_of h]; rfl
  have an : (seaWs (dw A C vs)).any noW = false := by
    rw [e, List.any_cons, List.any_cons, nw hA, nw hC, List.any_map, Bool.false_or, Bool.false_or]
    exact List.any_eq_false.mpr fun v h => by rw [show (noW ∘ word) v = noW (word v) from rfl, nw (hv v h)]; exact Bool.false_ne_true
  have hb : seaBad (dw A C vs) = false := by
    unfold seaBad
    rw [an, dw_len hA hC hv hl, decide_eq_false (show ¬ 3 + vs.length ≤ 3 by omega), decide_eq_true (show (dw A C vs)[2]? = some (":" : Str) from rfl)]
    rfl
  refine ⟨hb, ?_⟩
  unfold seaR
  rw [hb, e, List.map_cons, List.map_cons, numD_of hA, numD_of hC, List.map_map]
  have : vs.map (numD ∘ word) = nD vs := List.map_congr_left fun v h => numD_of (hv v h)
  rw [this]
  rfl
end
def lotT (S : List Nat) : Str := if S = [] then "-" else Txt.join spc (S.map word)
section
variable {n : Nat} {S : List Nat} (hS : IsSt n S) (hn : n ≤ 24)
include hS hn
theorem lot_lt : ∀ v ∈ S, v < 10 ^ 13 := fun v h => Nat.lt_of_lt_of_le (hS.lt h) (by omega)
theorem lot_n : S.length ≤ 24 := by
  obtain ⟨p, rfl⟩ := hS
  have := List.length_filter_le p (List.range n)
  rw [List.length_range] at this
  omega
theorem lw_wd : ∀ p ∈ S.map word, p.length ≤ 13 ∧ 32 ∉ TL.tl p := by
  intro p hp
  obtain ⟨v, hv, rfl⟩ := List.mem_map.mp hp
  exact ⟨word_len (lot_lt hS hn v hv), num_free⟩
theorem lot_join : joinD2 (.str " ") (.lst ((S.map word).map .str)) = some (.str (Txt.join spc (S.map word))) :=
  join_s (fun p hp => (lw_wd hS hn p hp).1) (by omega) (by rw [List.length_map]; have := lot_n hS hn; omega)
theorem lot_len : (Txt.join spc (S.map word)).length ≤ 400 := by
  have s := sum_le fun p hp => (lw_wd hS hn p hp).1
  have j := join_len spc (S.map word)
  have := lot_n hS hn
  rw [len_spc] at j
  rw [List.length_map] at s j
  omega
theorem lotT_len : (lotT S).length ≤ 400 := by
  unfold lotT
  split
  · rw [TL.len_tl, tl_dash]; decide
  · exact lot_len hS hn
theorem lot_split (h0 : S ≠ []) : Txt.split (Txt.join spc (S.map word)) spc = S.map word := split_back (by simpa using h0) fun p hp => (lw_wd hS hn p hp).2
theorem lotT_words : (Txt.split (lotT S) spc).length ≤ 24 := by
  unfold lotT
  split
  · rw [words_n, tl_dash]; decide
  · rename_i h
    rw [lot_split hS hn h, List.length_map]; exact lot_n hS hn
theorem lot_ne (h0 : S ≠ []) : 0 < (Txt.join spc (S.map word)).length := by
  obtain ⟨v, r, rfl⟩ : ∃ v r, S = v :: r := by cases S with
                                              | nil => exact absurd rfl h0
                                              | cons v r => exact ⟨v, r, rfl⟩
  have hp := word_pos v
  rw [TL.join_eq, TL.len_tl, TL.tl_join]
  rw [TL.len_tl] at hp
  cases r with
  | nil => exact hp
  | cons w r =>
    show 0 < (TL.tl (word v) ++ _).length
    rw [List.length_append]; omega
theorem stand_ok {t : D} (ht : unL t = some (nD S)) : m_standing_text t = some (.str (lotT S)) := by
  have jl := lot_len hS hn
  unfold m_standing_text
  simp -implicitDefEqProofs only [Option.bind_some, bd2_some, bd3_some, bd4_some, bd5_some, bd6_some, un_2_mk, un_3_mk, un_4_mk, un_5_mk, un_6_mk, flK_rt, flK_nx, asB_bl, asI_int, notD_bl, scG_bl, scG_int, scG_non, scG_str, unL_l, unL_t, un1_t, un2_t, un3_t, un4_t, isKG_l, isTG_l, addD_int, subD_int, ltD_int, leD_int, gtD_int, geD_int, negD_int, eqD_int, neD_int, eqD_bl, neD_bl, mkLst_0, mkTup_0, mkLst_1, mkTup_1, mkLst_2, mkTup_2, mkLst_3, mkTup_3, mkLst_4, mkTup_4, mkLst_5, mkTup_5, mkLst_6, mkTup_6, mkLst_7, mkTup_7, mkLst_8, mkTup_8, mkLst_9, mkTup_9, mkLst_10, mkTup_10, mkLst_11, mkTup_11, mkLst_12, mkTup_12, mkLst_13, mkTup_13, mkLst_14, mkTup_14, mkLst_15, mkTup_15, mkLst_16, mkTup_16, ht, cmp_str (lot_lt hS hn), lot_join hS hn]
  have e : ∀ z : Str, z.length ≤ 400 → orD (.str z) (.str "-") = some (if z.length = 0 then .str "-" else .str z) := fun z h => if_pos (lim_of (show z.length ≤ 1000000 by omega))
  rw [e _ jl, Option.bind_some]
  unfold lotT
  by_cases h0 : S = []
  · subst h0
    rw [if_pos rfl, if_pos]
    rw [TL.join_eq, TL.len_tl, TL.tl_join]; rfl
  · rw [if_neg h0, if_neg (by have := lot_ne hS hn h0; omega)]
theorem lot_back : (lotT S = ("-" : Str) ∨ tooBig n (shipsR (Txt.split (lotT S) spc)) = false) ∧ lotR (lotT S) n = .tup (nD S) := by
  by_cases h0 : S = []
  · subst h0
    have e : lotT [] = ("-" : Str) := if_pos rfl
    refine ⟨.inl e, ?_⟩
    unfold lotR
    rw [if_pos e]; rfl
  · have e : lotT S = Txt.join spc (S.map word) := if_neg h0
    rw [e, lot_split hS hn h0]
    have nw : (S.map word).any noW = false := by
      rw [List.any_map]
      exact List.any_eq_false.mpr fun v h => by
        rw [show (noW ∘ word) v = noW (word v) from rfl]
        unfold noW
        rw [numW_of (lot_lt hS hn v h)]
        exact Bool.false_ne_true
    have fm : (S.map word).filterMap numW = S := by
      rw [List.filterMap_map]
      have : ∀ l : List Nat, (∀ v ∈ l, v < 10 ^ 13) → l.filterMap (numW ∘ word) = l := fun l => by
        induction l with
        | nil => intro _; rfl
        | cons v l ih =>
          intro h
          rw [List.filterMap_cons, show (numW ∘ word) v = some v from numW_of (h v List.mem_cons_self), ih fun w hw => h w (List.mem_cons_of_mem _ hw)]
      exact this S (lot_lt hS hn)
    have ri : rises S = true := by
      unfold rises zs
      rw [srt_n fun i hi => hS.lt hi]
      refine decide_eq_true (congrArg _ ?_)
      obtain ⟨p, rfl⟩ := hS
      refine (List.filter_congr fun i hi => ?_)
      rw [Bool.eq_iff_iff, List.contains_iff_mem, List.mem_filter]
      exact ⟨fun h => ⟨hi, h⟩, fun h => h.2⟩
    have sh : shipsR (S.map word) = .tup (nD S) := by
      unfold shipsR
      rw [nw, fm, ri]; rfl
    have big : tooBig n (.tup (nD S)) = false := by
      rw [big_n]
      exact List.any_eq_false.mpr fun v h => by rw [decide_eq_true_eq]; have := hS.lt h; omega
    rw [sh, big]
    refine ⟨.inr rfl, ?_⟩
    have nd : Txt.join spc (S.map word) ≠ ("-" : Str) := by
      intro q
      have hm : 45 ∈ TL.tl (Txt.join spc (S.map word)) := by rw [q, tl_dash]; simp
      rw [TL.join_eq, TL.tl_join] at hm
      obtain ⟨p, hp, h45⟩ := mem_joinL (by rw [tl_spc]; decide) hm
      obtain ⟨w, hw, rfl⟩ := List.mem_map.mp hp
      obtain ⟨v, _, rfl⟩ := List.mem_map.mp hw
      rw [TL.tl_num] at h45
      exact TL.numL_free (.inl (by decide)) h45
    unfold lotR
    rw [if_neg nd, lot_split hS hn h0, sh, big]
    rfl
end
end LW
namespace LW
open PySem DL
theorem lists_ok {A C : Nat} {vs : List Nat} : m_law_lists (seaN A C vs) = some (.lst [.int (A : Int), .int (C : Int), .lst (nD vs)]) := by
  have i1 : ∀ (n : Nat) (i : Int), m_law_lists_n (n + 1) (.int i) = some (.int i) := fun n i => rfl
  have ss : ∀ n : Nat, m_law_lists_n (n + 2) (.tup (nD vs)) = some (.lst (nD vs)) := fun n => by
    have cm : cmpP (fun d8 => Option.bind (m_law_lists_n (n + 1) d8) fun t9 => some [t9]) (nD vs) = some (nD vs) :=
      cmpP_lstM (e := fun (v : Nat) => D.int (v : Int)) (fun v => D.int (v : Int)) fun s _ => by rw [i1, Option.bind_some]
    rw [m_law_lists_n, show isiD2 "list" "tuple" (.tup (nD vs)) = some (.bl true) from rfl, Option.bind_some, asB_bl, Option.bind_some, if_pos rfl, show unL (.tup (nD vs)) = some (nD vs) from rfl, Option.bind_some, cm, Option.bind_some, Option.bind_some]
  have cm : cmpP (fun d8 => Option.bind (m_law_lists_n 7 d8) fun t9 => some [t9]) [.int (A : Int), .int (C : Int), .tup (nD vs)] = some [.int (A : Int), .int (C : Int), .lst (nD vs)] := by
    unfold cmpP
    rw [i1, Option.bind_some, Option.bind_some]
    unfold cmpP
    rw [i1, Option.bind_some, Option.bind_some]
    unfold cmpP
    rw [ss 5, Option.bind_some, Option.bind_some]
    rfl
  rw [m_law_lists, m_law_lists_n, show isiD2 "list" "tuple" (seaN A C vs) = some (.bl true) from rfl, Option.bind_some, asB_bl, Option.bind_some, if_pos rfl, show unL (seaN A C vs) = some [.int (A : Int), .int (C : Int), .tup (nD vs)] from rfl, Option.bind_some, cm, Option.bind_some, Option.bind_some]
theorem seaR_ok (ws : List Str) : okD 7 (seaR ws) = true := by
  unfold seaR
  split
  · rfl
  · have dk : ∀ k, okD 6 (((seaWs ws).map numD).getD k .non) = true := fun k => by
      rw [List.getD_eq_getElem?_getD, List.getElem?_map]
      cases (seaWs ws)[k]? with
      | none => rfl
      | some w => show okD 6 (numD w) = true; unfold numD; split <;> rfl
    rw [okD_tup, okDs_all]
    intro d hd
    simp only [List.mem_cons, List.mem_nil_iff, or_false] at hd
    rcases hd with rfl | rfl | rfl
    · exact dk 0
    · exact dk 1
    · rw [okD_tup, okDs_all]
      intro d hd
      obtain ⟨w, _, rfl⟩ := List.mem_map.mp (List.mem_of_mem_drop hd)
      unfold numD; split <;> rfl
theorem shipsR_ok (ws : List Str) : okD 7 (shipsR ws) = true := by
  unfold shipsR
  split
  · rfl
  · split
    · exact okD_nT _
    · rfl
theorem lotR_ok (x : Str) (n : Nat) : okD 7 (lotR x n) = true := by
  unfold lotR
  split
  · rfl
  · split
    · rfl
    · exact shipsR_ok _
theorem seaN_ok (A C : Nat) (vs : List Nat) : okD 6 (seaN A C vs) = true := by
  rw [okD_tup, okDs_all]
  intro d hd
  simp only [List.mem_cons, List.mem_nil_iff, or_false] at hd
  rcases hd with rfl | rfl | rfl
  · rfl
  · rfl
  · exact okD_nT _
theorem repl_s (x : Str) (hx : x.length ≤ 400) : ∃ z : Str, repl1D " " "\n" (.str x) = some (.str z) ∧ z.length ≤ 801 := by
  have ln : ("\n" : Str).length = 1 := by rw [TL.len_tl, tl_nl]; rfl
  refine ⟨Txt.repl1 x " " "\n", ?_, ?_⟩
  · show (if x.length + (x.length + 1) * ("\n" : Str).length ≤ 16777216 then _ else _) = _
    rw [if_pos (by rw [ln]; omega)]
  · have := repl1_len x " " "\n"
    rw [ln] at this
    omega
/-- the sea as it's drawn -/
theorem drawn_ok {n : Nat} {b : D} (hb : Box n b) (hn : n < 2 ^ 50) : ∃ (A C : Nat) (vs : List Nat) (s b' : D), m_law_sea b (.int 24) = some (s, b') ∧ Box (n + 3000) b' ∧ A < 10 ^ 13 ∧ C < 10 ^ 13 ∧ (∀ v ∈ vs, v < 10 ^ 13) ∧ 1 ≤ vs.length ∧ vs.length ≤ 24 ∧ s = seaN A C vs := by
  obtain ⟨a, c, far, xs, b1, e1, l1, l24, f0, f1, a0, a1, c0, c1, hx, hb1⟩ := sea_ok (m := 24) hb hn (by omega) (by omega)
  have e24 : xs.length ≤ 24 := by omega
  refine ⟨a.toNat, c.toNat, xs.map Int.toNat, _, b1, e1, hb1, by omega, by omega, ?_, by rw [List.length_map]; exact l1, by rw [List.length_map]; exact e24, ?_⟩
  · intro v hv
    obtain ⟨x, hx', rfl⟩ := List.mem_map.mp hv
    have := hx x hx'
    omega
  · have : xs.map D.int = nD (xs.map Int.toNat) := by
      unfold nD
      rw [List.map_map]
      refine List.map_congr_left fun x h => ?_
      have := hx x h
      show D.int x = D.int ((x.toNat : Nat) : Int)
      rw [Int.toNat_of_nonneg (by omega)]
    rw [this]
    show _ = D.tup [.int ((a.toNat : Nat) : Int), .int ((c.toNat : Nat) : Int), _]
    rw [Int.toNat_of_nonneg (by omega), Int.toNat_of_nonneg (by omega)]
theorem right_ok {n : Nat} {b : D} (hb : Box n b) (hn : n < 2 ^ 40) : ∃ b', m_law_right b = some (.bl true, b') := by
  obtain ⟨A, C, vs0, s0, b1, e1, hb1, hA, hC, hv0, v1, v24, rfl⟩ := drawn_ok hb (by omega)
  -- the sea that's taken
  obtain ⟨vs, hcut, hv, l1, l24⟩ : ∃ vs : List Nat, (if decide ((A : Int) < 1000000) = true then some (seaN A C vs0) else
      Option.bind (sliceD (seaN A C vs0) none (some 2)) fun t15 => Option.bind (sliceD (.tup (nD vs0)) none (some 10)) fun t21 => Option.bind (addD t15 (D.tup [t21])) fun t25 => some t25) = some (seaN A C vs) ∧ (∀ v ∈ vs, v < 10 ^ 13) ∧ 1 ≤ vs.length ∧ vs.length ≤ 24 := by
    by_cases h : (A : Int) < 1000000
    · exact ⟨vs0, by rw [if_pos (decide_eq_true h)], hv0, v1, v24⟩
    · refine ⟨vs0.take 10, ?_, fun v hv => hv0 v (List.mem_of_mem_take hv), by rw [List.length_take]; omega, by rw [List.length_take]; omega⟩
      rw [if_neg (by rw [decide_eq_true_eq]; exact h)]
      have t1 : sliceD (seaN A C vs0) none (some 2) = some (.tup [.int (A : Int), .int (C : Int)]) := slice_takeT 2
      have t2 : sliceD (.tup (nD vs0)) none (some 10) = some (.tup (nD (vs0.take 10))) := by
        have := slice_takeT (xs := nD vs0) 10
        rw [nD_take] at this
        exact this
      rw [t1, Option.bind_some, t2, Option.bind_some]
      rfl
  have i0 : ixD (seaN A C vs0) (.int 0) = some (.int (A : Int)) := by simp
  have i2 : ixD (seaN A C vs0) (.int 2) = some (.tup (nD vs0)) := by simp
  have j0 : ixD (seaN A C vs) (.int 0) = some (.int (A : Int)) := by simp
  have j1 : ixD (seaN A C vs) (.int 1) = some (.int (C : Int)) := by simp
  have j2 : ixD (seaN A C vs) (.int 2) = some (.tup (nD vs)) := by simp
  have k0 : ixD (.lst [.int (A : Int), .int (C : Int), .lst (nD vs)]) (.int 0) = some (.int (A : Int)) := by simp
  have k1 : ixD (.lst [.int (A : Int), .int (C : Int), .lst (nD vs)]) (.int 1) = some (.int (C : Int)) := by simp
  have k2 : ixD (.lst [.int (A : Int), .int (C : Int), .lst (nD vs)]) (.int 2) = some (.lst (nD vs)) := by simp
  have ln : lenF [.tup (nD vs)] = some (.int (vs.length : Int)) := by
    show some (D.int ((nD vs).length : Int)) = _
    rw [nD_len]
  obtain ⟨S, b2, e2, hS, hb2⟩ := lot_ok (k := vs.length) hb1 (by omega) (by omega)
  -- the texts
  have dj := due_join hA hC hv l24
  have dl := due_len hA hC hv l24
  have ds := due_split hA hC hv l24
  have sb := sea_back hA hC hv l24 l1
  have t1 := text_ok hA hC hv l24 j0 j1 j2 rfl
  have t2 := text_ok hA hC hv l24 k0 k1 k2 rfl
  have dn := dw_len hA hC hv l24
  have si := sea_in_ok (x := Txt.join spc (dw A C vs)) (by omega) (by rw [ds]; exact sb.1)
  rw [ds, sb.2] at si
  have ad : addD (.lst [.str (word A), .str (word C), .str ":"]) (.lst ((vs.map word).map D.str)) = some (.lst ((dw A C vs).map .str)) := by
    rw [addD_lst (by rw [List.length_map, List.length_map]; show 3 + _ ≤ _; omega)]
    unfold dw
    rw [List.map_append]; rfl
  have wd : (Txt.split (Txt.join spc (dw A C vs)) spc).length ≤ 50 := by rw [ds, dn]; omega
  generalize Txt.join spc (dw A C vs) = due at dj dl ds t1 t2 si wd
  have st1 := stand_ok hS l24 (t := .tup (nD S)) rfl
  have st2 := stand_ok hS l24 (t := .lst (nD S)) rfl
  have lj := lot_join hS l24
  have ll := lotT_len hS l24
  have lw := lotT_words hS l24
  have lb := lot_back hS l24
  have sn := (lot_cases (x := lotT S) (n := vs.length) (by omega) (by omega) (a := .int (A : Int)) (c := .int (C : Int)) (xs := nD vs) (nD_len vs)).2 lb.1
  rw [lb.2] at sn
  have ne : neD (.tup (nD S)) (.tup []) = some (.bl (!decide (S = []))) := neD_nt S []
  have hlt := lot_lt hS l24
  have duel : (if (!decide (S = [])) = true then (Option.bind (cmpP (fun d67 => Option.bind (strF [d67]) fun t68 => some [t68]) (nD S)) fun t70 => Option.bind (joinD2 (D.str " ") (D.lst t70)) fun t72 => some t72) else (some (D.str "-"))) = some (.str (lotT S)) := by
    unfold lotT
    by_cases h0 : S = []
    · rw [if_neg (by simp [h0]), if_pos h0]
    · rw [if_pos (by simp [h0]), if_neg h0]
      simp -implicitDefEqProofs only [Option.bind_some, bd2_some, bd3_some, bd4_some, bd5_some, bd6_some, un_2_mk, un_3_mk, un_4_mk, un_5_mk, un_6_mk, flK_rt, flK_nx, asB_bl, asI_int, notD_bl, scG_bl, scG_int, scG_non, scG_str, unL_l, unL_t, un1_t, un2_t, un3_t, un4_t, isKG_l, isTG_l, addD_int, subD_int, ltD_int, leD_int, gtD_int, geD_int, negD_int, eqD_int, neD_int, eqD_bl, neD_bl, mkLst_0, mkTup_0, mkLst_1, mkTup_1, mkLst_2, mkTup_2, mkLst_3, mkTup_3, mkLst_4, mkTup_4, mkLst_5, mkTup_5, mkLst_6, mkTup_6, mkLst_7, mkTup_7, mkLst_8, mkTup_8, mkLst_9, mkTup_9, mkLst_10, mkTup_10, mkLst_11, mkTup_11, mkLst_12, mkTup_12, mkLst_13, mkTup_13, mkLst_14, mkTup_14, mkLst_15, mkTup_15, mkLst_16, mkTup_16, cmp_str hlt, lj]
  have lf : listF [.tup (nD S)] = some (.lst (nD S)) := rfl
  generalize lotT S = lot at ll lw lb sn st1 st2 duel
  have ok1 : ∀ x : Str, okD 7 (.lst [.str x, .str x]) = true := fun _ => rfl
  have ok2 : okD 7 (.lst [seaN A C vs, .tup (nD S)]) = true := by
    rw [okD_lst, okDs_all]
    intro d hd
    simp only [List.mem_cons, List.mem_nil_iff, or_false] at hd
    rcases hd with rfl | rfl
    · exact seaN_ok A C vs
    · exact okD_nT _
  have r12 : rng1 [.val (.int 12)] = some (rngD 0 12) := rng1_ok (j := 12) (by omega) (by omega)
  obtain ⟨b3, e3, hb3⟩ := fldR_of (f := m_law_right_1 (.str due) (.str lot) (seaN A C vs) (.int (vs.length : Int))) (fun k t => Box (n + 4010 + 30 * k) t) (ds := rngD 0 12) (t := b2) (hb2.mono (by omega)) (by
    intro i d hd t ht
    obtain ⟨hi, rfl⟩ := rngD_at hd
    obtain ⟨y, c1, f1, hc1, yl, yw⟩ := bent_ok ht (by omega) dl wd
    obtain ⟨z, c2, f2, hc2, zl, zw⟩ := bent_ok hc1 (by omega) ll (by omega)
    refine ⟨c2, ?_, hc2.mono (by omega)⟩
    simp -implicitDefEqProofs only [Option.bind_some, bd2_some, bd3_some, bd4_some, bd5_some, bd6_some, un_2_mk, un_3_mk, un_4_mk, un_5_mk, un_6_mk, flK_rt, flK_nx, asB_bl, asI_int, notD_bl, scG_bl, scG_int, scG_non, scG_str, unL_l, unL_t, un1_t, un2_t, un3_t, un4_t, isKG_l, isTG_l, addD_int, subD_int, ltD_int, leD_int, gtD_int, geD_int, negD_int, eqD_int, neD_int, eqD_bl, neD_bl, mkLst_0, mkTup_0, mkLst_1, mkTup_1, mkLst_2, mkTup_2, mkLst_3, mkTup_3, mkLst_4, mkTup_4, mkLst_5, mkTup_5, mkLst_6, mkTup_6, mkLst_7, mkTup_7, mkLst_8, mkTup_8, mkLst_9, mkTup_9, mkLst_10, mkTup_10, mkLst_11, mkTup_11, mkLst_12, mkTup_12, mkLst_13, mkTup_13, mkLst_14, mkTup_14, mkLst_15, mkTup_15, mkLst_16, mkTup_16, m_law_right_1, f1, told_sea (show y.length ≤ 400000 by omega), lread_sea (show y.length ≤ 400000 by omega), same_id (seaR_ok _), Bool.not_true, Bool.false_eq_true, if_false, f2,
      told_lot (n := vs.length) (show z.length ≤ 400000 by omega) (show (Txt.split z spc).length ≤ 60 by omega) (a := .int (A : Int)) (c := .int (C : Int)) (xs := nD vs) (nD_len vs), lread_lot (n := vs.length) (show z.length ≤ 400000 by omega) (show (Txt.split z spc).length ≤ 60 by omega), same_id (lotR_ok _ _)])
  -- texts with a line's end
  have nl : ("\n" : Str).length = 1 := by rw [TL.len_tl, tl_nl]; rfl
  have turn : ∀ (g : Str) (w : D), g.length ≤ 400 → (∀ x : Str, x.length ≤ 400000 → 10 ∈ TL.tl x → m_law_told (.str x) w = some .non) → m_law_right_3 b3 (.tup [.str g, w]) () = some (.nx ()) := by
    intro g w hg hw
    obtain ⟨z, ez, zl⟩ := repl_s g hg
    have a1 := len_app g "\n"
    have a2 := len_app "\n" g
    have a3 := len_app z "\n"
    have m10 : ∀ a b : Str, 10 ∈ TL.tl b → 10 ∈ TL.tl (a ++ b) := fun a b h => by rw [TL.tl_append]; exact List.mem_append_right _ h
    have m10' : ∀ a b : Str, 10 ∈ TL.tl a → 10 ∈ TL.tl (a ++ b) := fun a b h => by rw [TL.tl_append]; exact List.mem_append_left _ h
    have h10 : 10 ∈ TL.tl ("\n" : Str) := by rw [tl_nl]; simp
    have one : ∀ x : Str, x.length ≤ 400000 → 10 ∈ TL.tl x → m_law_right_2 w b3 (.str x) () = some (.nx ()) := fun x h1 h2 => by
      simp -implicitDefEqProofs only [Option.bind_some, bd2_some, bd3_some, bd4_some, bd5_some, bd6_some, un_2_mk, un_3_mk, un_4_mk, un_5_mk, un_6_mk, flK_rt, flK_nx, asB_bl, asI_int, notD_bl, scG_bl, scG_int, scG_non, scG_str, unL_l, unL_t, un1_t, un2_t, un3_t, un4_t, isKG_l, isTG_l, addD_int, subD_int, ltD_int, leD_int, gtD_int, geD_int, negD_int, eqD_int, neD_int, eqD_bl, neD_bl, mkLst_0, mkTup_0, mkLst_1, mkTup_1, mkLst_2, mkTup_2, mkLst_3, mkTup_3, mkLst_4, mkTup_4, mkLst_5, mkTup_5, mkLst_6, mkTup_6, mkLst_7, mkTup_7, mkLst_8, mkTup_8, mkLst_9, mkTup_9, mkLst_10, mkTup_10, mkLst_11, mkTup_11, mkLst_12, mkTup_12, mkLst_13, mkTup_13, mkLst_14, mkTup_14, mkLst_15, mkTup_15, mkLst_16, mkTup_16, m_law_right_2, hw x h1 h2, show isnotD D.non .non = some (.bl false) from rfl, Bool.false_eq_true, if_false]
    unfold m_law_right_3
    simp -implicitDefEqProofs only [Option.bind_some, bd2_some, bd3_some, bd4_some, bd5_some, bd6_some, un_2_mk, un_3_mk, un_4_mk, un_5_mk, un_6_mk, flK_rt, flK_nx, asB_bl, asI_int, notD_bl, scG_bl, scG_int, scG_non, scG_str, unL_l, unL_t, un1_t, un2_t, un3_t, un4_t, isKG_l, isTG_l, addD_int, subD_int, ltD_int, leD_int, gtD_int, geD_int, negD_int, eqD_int, neD_int, eqD_bl, neD_bl, mkLst_0, mkTup_0, mkLst_1, mkTup_1, mkLst_2, mkTup_2, mkLst_3, mkTup_3, mkLst_4, mkTup_4, mkLst_5, mkTup_5, mkLst_6, mkTup_6, mkLst_7, mkTup_7, mkLst_8, mkTup_8, mkLst_9, mkTup_9, mkLst_10, mkTup_10, mkLst_11, mkTup_11, mkLst_12, mkTup_12, mkLst_13, mkTup_13, mkLst_14, mkTup_14, mkLst_15, mkTup_15, mkLst_16, mkTup_16, addD_ss (show g.length + ("\n" : Str).length ≤ 1000000 by omega), addD_ss (show ("\n" : Str).length + g.length ≤ 1000000 by omega), ez, addD_ss (show z.length + ("\n" : Str).length ≤ 1000000 by omega)]
    rw [fldR_nx (one _ (by omega) (m10 _ _ h10)), fldR_nx (one _ (by omega) (m10' _ _ h10)), fldR_nx (one _ (by omega) (m10 _ _ h10)), fldR_nx (one _ (by omega) h10), fldR_nil]
    simp -implicitDefEqProofs only [Option.bind_some, bd2_some, bd3_some, bd4_some, bd5_some, bd6_some, un_2_mk, un_3_mk, un_4_mk, un_5_mk, un_6_mk, flK_rt, flK_nx, asB_bl, asI_int, notD_bl, scG_bl, scG_int, scG_non, scG_str, unL_l, unL_t, un1_t, un2_t, un3_t, un4_t, isKG_l, isTG_l, addD_int, subD_int, ltD_int, leD_int, gtD_int, geD_int, negD_int, eqD_int, neD_int, eqD_bl, neD_bl, mkLst_0, mkTup_0, mkLst_1, mkTup_1, mkLst_2, mkTup_2, mkLst_3, mkTup_3, mkLst_4, mkTup_4, mkLst_5, mkTup_5, mkLst_6, mkTup_6, mkLst_7, mkTup_7, mkLst_8, mkTup_8, mkLst_9, mkTup_9, mkLst_10, mkTup_10, mkLst_11, mkTup_11, mkLst_12, mkTup_12, mkLst_13, mkTup_13, mkLst_14, mkTup_14, mkLst_15, mkTup_15, mkLst_16, mkTup_16]
  have u1 := turn due .non dl fun x h1 h2 => refused_sea h1 h2
  have u2 := turn lot (seaN A C vs) ll fun x h1 h2 => refused_lot10 h1 h2
  refine ⟨b3, ?_⟩
  unfold m_law_right
  simp -implicitDefEqProofs only [Option.bind_some, bd2_some, bd3_some, bd4_some, bd5_some, bd6_some, un_2_mk, un_3_mk, un_4_mk, un_5_mk, un_6_mk, flK_rt, flK_nx, asB_bl, asI_int, notD_bl, scG_bl, scG_int, scG_non, scG_str, unL_l, unL_t, un1_t, un2_t, un3_t, un4_t, isKG_l, isTG_l, addD_int, subD_int, ltD_int, leD_int, gtD_int, geD_int, negD_int, eqD_int, neD_int, eqD_bl, neD_bl, mkLst_0, mkTup_0, mkLst_1, mkTup_1, mkLst_2, mkTup_2, mkLst_3, mkTup_3, mkLst_4, mkTup_4, mkLst_5, mkTup_5, mkLst_6, mkTup_6, mkLst_7, mkTup_7, mkLst_8, mkTup_8, mkLst_9, mkTup_9, mkLst_10, mkTup_10, mkLst_11, mkTup_11, mkLst_12, mkTup_12, mkLst_13, mkTup_13, mkLst_14, mkTup_14, mkLst_15, mkTup_15, mkLst_16, mkTup_16, e1, i0, powD_6, i2]
  rw [hcut]
  simp -implicitDefEqProofs only [Option.bind_some, bd2_some, bd3_some, bd4_some, bd5_some, bd6_some, un_2_mk, un_3_mk, un_4_mk, un_5_mk, un_6_mk, flK_rt, flK_nx, asB_bl, asI_int, notD_bl, scG_bl, scG_int, scG_non, scG_str, unL_l, unL_t, un1_t, un2_t, un3_t, un4_t, isKG_l, isTG_l, addD_int, subD_int, ltD_int, leD_int, gtD_int, geD_int, negD_int, eqD_int, neD_int, eqD_bl, neD_bl, mkLst_0, mkTup_0, mkLst_1, mkTup_1, mkLst_2, mkTup_2, mkLst_3, mkTup_3, mkLst_4, mkTup_4, mkLst_5, mkTup_5, mkLst_6, mkTup_6, mkLst_7, mkTup_7, mkLst_8, mkTup_8, mkLst_9, mkTup_9, mkLst_10, mkTup_10, mkLst_11, mkTup_11, mkLst_12, mkTup_12, mkLst_13, mkTup_13, mkLst_14, mkTup_14, mkLst_15, mkTup_15, mkLst_16, mkTup_16, j2, ln, e2, j0, j1, str_w hA, str_w hC, cmp_str hv, ad, dj, ne]
  rw [duel]
  simp -implicitDefEqProofs only [Option.bind_some, bd2_some, bd3_some, bd4_some, bd5_some, bd6_some, un_2_mk, un_3_mk, un_4_mk, un_5_mk, un_6_mk, flK_rt, flK_nx, asB_bl, asI_int, notD_bl, scG_bl, scG_int, scG_non, scG_str, unL_l, unL_t, un1_t, un2_t, un3_t, un4_t, isKG_l, isTG_l, addD_int, subD_int, ltD_int, leD_int, gtD_int, geD_int, negD_int, eqD_int, neD_int, eqD_bl, neD_bl, mkLst_0, mkTup_0, mkLst_1, mkTup_1, mkLst_2, mkTup_2, mkLst_3, mkTup_3, mkLst_4, mkTup_4, mkLst_5, mkTup_5, mkLst_6, mkTup_6, mkLst_7, mkTup_7, mkLst_8, mkTup_8, mkLst_9, mkTup_9, mkLst_10, mkTup_10, mkLst_11, mkTup_11, mkLst_12, mkTup_12, mkLst_13, mkTup_13, mkLst_14, mkTup_14, mkLst_15, mkTup_15, mkLst_16, mkTup_16, t1, lists_ok, t2, same_id (ok1 _), Bool.not_true, Bool.false_eq_true, if_false, st1, lf, st2, si, sn, same_id ok2, r12, e3]
  rw [fldR_nx u1, fldR_nx u2, fldR_nil]
  simp -implicitDefEqProofs only [Option.bind_some, bd2_some, bd3_some, bd4_some, bd5_some, bd6_some, un_2_mk, un_3_mk, un_4_mk, un_5_mk, un_6_mk, flK_rt, flK_nx, asB_bl, asI_int, notD_bl, scG_bl, scG_int, scG_non, scG_str, unL_l, unL_t, un1_t, un2_t, un3_t, un4_t, isKG_l, isTG_l, addD_int, subD_int, ltD_int, leD_int, gtD_int, geD_int, negD_int, eqD_int, neD_int, eqD_bl, neD_bl, mkLst_0, mkTup_0, mkLst_1, mkTup_1, mkLst_2, mkTup_2, mkLst_3, mkTup_3, mkLst_4, mkTup_4, mkLst_5, mkTup_5, mkLst_6, mkTup_6, mkLst_7, mkTup_7, mkLst_8, mkTup_8, mkLst_9, mkTup_9, mkLst_10, mkTup_10, mkLst_11, mkTup_11, mkLst_12, mkTup_12, mkLst_13, mkTup_13, mkLst_14, mkTup_14, mkLst_15, mkTup_15, mkLst_16, mkTup_16, none_sea, none_lot, show isD D.non .non = some (.bl true) from rfl, if_true]
end LW
namespace LW
open PySem DL
theorem law_ok (ns : List Int) (hn : ns.length ≤ 63) : m_law (.scr ns) = some (.bl true) := by
  have e1 : lenF [.scr ns] = some (.int ns.length) := rfl
  obtain ⟨j, hj, j0, j1⟩ : ∃ j : Int, minF [.int 3, .int ns.length] = some (.int j) ∧ 0 ≤ j ∧ j ≤ 3 := by
    refine ⟨_, rfl, ?_, ?_⟩ <;> split <;> omega
  have rg : rng1 [.val (.int (1 + j))] = some (rngD 0 (1 + j).toNat) := rng1_ok (by omega) (by omega)
  simp -implicitDefEqProofs only [Option.bind_some, bd2_some, bd3_some, bd4_some, bd5_some, bd6_some, un_2_mk, un_3_mk, un_4_mk, un_5_mk, un_6_mk, flK_rt, flK_nx, asB_bl, asI_int, notD_bl, scG_bl, scG_int, scG_non, scG_str, unL_l, unL_t, un1_t, un2_t, un3_t, un4_t, isKG_l, isTG_l, addD_int, subD_int, ltD_int, leD_int, gtD_int, geD_int, negD_int, eqD_int, neD_int, eqD_bl, neD_bl, mkLst_0, mkTup_0, mkLst_1, mkTup_1, mkLst_2, mkTup_2, mkLst_3, mkTup_3, mkLst_4, mkTup_4, mkLst_5, mkTup_5, mkLst_6, mkTup_6, mkLst_7, mkTup_7, mkLst_8, mkTup_8, mkLst_9, mkTup_9, mkLst_10, mkTup_10, mkLst_11, mkTup_11, mkLst_12, mkTup_12, mkLst_13, mkTup_13, mkLst_14, mkTup_14, mkLst_15, mkTup_15, mkLst_16, mkTup_16, m_law, e1, hj, rg]
  rw [cmpP_rngM (fun _ => .bl true) (by
    intro i hi
    obtain ⟨b, e, hb⟩ := box_ok ns i (by omega)
    obtain ⟨b', e'⟩ := right_ok hb (by omega)
    simp -implicitDefEqProofs only [Option.bind_some, bd2_some, bd3_some, bd4_some, bd5_some, bd6_some, un_2_mk, un_3_mk, un_4_mk, un_5_mk, un_6_mk, flK_rt, flK_nx, asB_bl, asI_int, notD_bl, scG_bl, scG_int, scG_non, scG_str, unL_l, unL_t, un1_t, un2_t, un3_t, un4_t, isKG_l, isTG_l, addD_int, subD_int, ltD_int, leD_int, gtD_int, geD_int, negD_int, eqD_int, neD_int, eqD_bl, neD_bl, mkLst_0, mkTup_0, mkLst_1, mkTup_1, mkLst_2, mkTup_2, mkLst_3, mkTup_3, mkLst_4, mkTup_4, mkLst_5, mkTup_5, mkLst_6, mkTup_6, mkLst_7, mkTup_7, mkLst_8, mkTup_8, mkLst_9, mkTup_9, mkLst_10, mkTup_10, mkLst_11, mkTup_11, mkLst_12, mkTup_12, mkLst_13, mkTup_13, mkLst_14, mkTup_14, mkLst_15, mkTup_15, mkLst_16, mkTup_16, e, e'])]
  have al : allF [.lst ((List.range (1 + j).toNat).map fun _ => .bl true)] = some (.bl true) := by rw [allF_map (fun _ => true)]; simp
  simp -implicitDefEqProofs only [Option.bind_some, bd2_some, bd3_some, bd4_some, bd5_some, bd6_some, un_2_mk, un_3_mk, un_4_mk, un_5_mk, un_6_mk, flK_rt, flK_nx, asB_bl, asI_int, notD_bl, scG_bl, scG_int, scG_non, scG_str, unL_l, unL_t, un1_t, un2_t, un3_t, un4_t, isKG_l, isTG_l, addD_int, subD_int, ltD_int, leD_int, gtD_int, geD_int, negD_int, eqD_int, neD_int, eqD_bl, neD_bl, mkLst_0, mkTup_0, mkLst_1, mkTup_1, mkLst_2, mkTup_2, mkLst_3, mkTup_3, mkLst_4, mkTup_4, mkLst_5, mkTup_5, mkLst_6, mkTup_6, mkLst_7, mkTup_7, mkLst_8, mkTup_8, mkLst_9, mkTup_9, mkLst_10, mkTup_10, mkLst_11, mkTup_11, mkLst_12, mkTup_12, mkLst_13, mkTup_13, mkLst_14, mkTup_14, mkLst_15, mkTup_15, mkLst_16, mkTup_16, al]
theorem plain (ns : List Int) (hn : ns.length ≤ 63) : ∃ ss, f_law [.v (.scr ns)] = some (.bl true, ss) := ⟨_, ms_law (law_ok ns hn)⟩
end LW
namespace LW
open PySem PySem.Spec PyProof.Rows L2 DL
theorem nb_of {K : PySem.W.Frag} {h : Heap} {mg : Str → Option Value} (X : K.In h) (G : h.Ns mainGlobals mg) (c : He.SaysD fa fn K) : Nb mg := ⟨He.free_ok X G (c.fact 22 (f := .free "len") rfl), He.free_ok X G (c.fact 23 (f := .free "range") rfl), He.free_ok X G (c.fact 24 (f := .free "all") rfl), He.free_ok X G (c.fact 25 (f := .free "any") rfl), He.free_ok X G (c.fact 26 (f := .free "min") rfl), He.free_ok X G (c.fact 27 (f := .free "max") rfl), He.free_ok X G (c.fact 28 (f := .free "abs") rfl), He.free_ok X G (c.fact 29 (f := .free "sum") rfl), He.free_ok X G (c.fact 30 (f := .free "int") rfl), He.free_ok X G (c.fact 31 (f := .free "bool") rfl), He.free_ok X G (c.fact 32 (f := .free "str") rfl), He.free_ok X G (c.fact 33 (f := .free "list") rfl), He.free_ok X G (c.fact 34 (f := .free "tuple") rfl), He.free_ok X G (c.fact 35 (f := .free "sorted") rfl), He.free_ok X G (c.fact 36 (f := .free "enumerate") rfl), He.free_ok X G (c.fact 37 (f := .free "zip") rfl), He.free_ok X G (c.fact 38 (f := .free "isinstance") rfl)⟩
theorem facts {P : Program} {w : World} {K : PySem.W.Frag} {h : Heap} {mg : Str → Option Value} {f : Addr} (X : K.In h) (G : h.Ns mainGlobals mg) (hfa : mg ("law" : Str) = some (.ref f)) (c : He.SaysD fa fn K) (nd : (ln.map fun x => (He.cT K (x, none)).2).Nodup) (xq : xqB K = true) :
    ∃ fd : FuncData, (∀ (s : Shared) (v : Value), BindsTo s fd ⟨[v], []⟩ [("_law_script", v)]) ∧ ∀ base : Heap, K.In base → base.Ns mainGlobals mg → (∀ x ∈ ln, LamX.TabB base mg (He.cT K (x, none)).1 (He.cT K (x, none)).2) → FnOk P w K mg base CX0 11 f fd ["_law_script"] (letI : TabC := tcOf K ln; spF ⟨K, mg⟩ f_law) := by
  have nb := nb_of X G c
  have nx : NbX mg := ⟨He.free_ok X G (c.fact 46 (f := .free "set") rfl), He.free_ok X G (c.fact 47 (f := .free "repr") rfl), He.free_ok X G (c.fact 48 (f := .free "dict") rfl)⟩
  obtain ⟨fd_number_in, F_number_in⟩ := c.def_ 0 (d := d_number_in) rfl
  have g_number_in := He.glo_ok X G (c.fact 0 (f := .glo "number_in") rfl)
  obtain ⟨fd_sea_text, F_sea_text⟩ := c.def_ 1 (d := d_sea_text) rfl
  have g_sea_text := He.glo_ok X G (c.fact 1 (f := .glo "sea_text") rfl)
  obtain ⟨fd_sea_in, F_sea_in⟩ := c.def_ 2 (d := d_sea_in) rfl
  have g_sea_in := He.glo_ok X G (c.fact 2 (f := .glo "sea_in") rfl)
  obtain ⟨fd_standing_text, F_standing_text⟩ := c.def_ 3 (d := d_standing_text) rfl
  have g_standing_text := He.glo_ok X G (c.fact 3 (f := .glo "standing_text") rfl)
  obtain ⟨fd_ships_in, F_ships_in⟩ := c.def_ 4 (d := d_ships_in) rfl
  have g_ships_in := He.glo_ok X G (c.fact 4 (f := .glo "ships_in") rfl)
  obtain ⟨fd_standing_in, F_standing_in⟩ := c.def_ 5 (d := d_standing_in) rfl
  have g_standing_in := He.glo_ok X G (c.fact 5 (f := .glo "standing_in") rfl)
  obtain ⟨fd_law_cell_at, F_law_cell_at⟩ := c.def_ 6 (d := d_law_cell_at) rfl
  have g_law_cell_at := He.glo_ok X G (c.fact 6 (f := .glo "_law_cell_at") rfl)
  obtain ⟨fd_law_box, F_law_box⟩ := c.def_ 7 (d := d_law_box) rfl
  have g_law_box := He.glo_ok X G (c.fact 7 (f := .glo "_law_box") rfl)
  obtain ⟨fd_law_take, F_law_take⟩ := c.def_ 8 (d := d_law_take) rfl
  have g_law_take := He.glo_ok X G (c.fact 8 (f := .glo "_law_take") rfl)
  obtain ⟨fd_law_of, F_law_of⟩ := c.def_ 9 (d := d_law_of) rfl
  have g_law_of := He.glo_ok X G (c.fact 9 (f := .glo "_law_of") rfl)
  obtain ⟨fd_law_same, F_law_same⟩ := c.def_ 10 (d := d_law_same) rfl
  have g_law_same := He.glo_ok X G (c.fact 10 (f := .glo "_law_same") rfl)
  obtain ⟨fd_law_sea, F_law_sea⟩ := c.def_ 11 (d := d_law_sea) rfl
  have g_law_sea := He.glo_ok X G (c.fact 11 (f := .glo "_law_sea") rfl)
  obtain ⟨fd_law_lot, F_law_lot⟩ := c.def_ 12 (d := d_law_lot) rfl
  have g_law_lot := He.glo_ok X G (c.fact 12 (f := .glo "_law_lot") rfl)
  obtain ⟨fd_law_lists, F_law_lists⟩ := c.def_ 13 (d := d_law_lists) rfl
  have g_law_lists := He.glo_ok X G (c.fact 13 (f := .glo "_law_lists") rfl)
  obtain ⟨fd_law_number_in, F_law_number_in⟩ := c.def_ 14 (d := d_law_number_in) rfl
  have g_law_number_in := He.glo_ok X G (c.fact 14 (f := .glo "_law_number_in") rfl)
  obtain ⟨fd_law_ships_in, F_law_ships_in⟩ := c.def_ 15 (d := d_law_ships_in) rfl
  have g_law_ships_in := He.glo_ok X G (c.fact 15 (f := .glo "_law_ships_in") rfl)
  obtain ⟨fd_law_bent_text, F_law_bent_text⟩ := c.def_ 16 (d := d_law_bent_text) rfl
  have g_law_bent_text := He.glo_ok X G (c.fact 16 (f := .glo "_law_bent_text") rfl)
  obtain ⟨fd_law_read_sea, F_law_read_sea⟩ := c.def_ 17 (d := d_law_read_sea) rfl
  have g_law_read_sea := He.glo_ok X G (c.fact 17 (f := .glo "_law_read_sea") rfl)
  obtain ⟨fd_law_read_lot, F_law_read_lot⟩ := c.def_ 18 (d := d_law_read_lot) rfl
  have g_law_read_lot := He.glo_ok X G (c.fact 18 (f := .glo "_law_read_lot") rfl)
  obtain ⟨fd_law_told, F_law_told⟩ := c.def_ 19 (d := d_law_told) rfl
  have g_law_told := He.glo_ok X G (c.fact 19 (f := .glo "_law_told") rfl)
  obtain ⟨fd_law_right, F_law_right⟩ := c.def_ 20 (d := d_law_right) rfl
  have g_law_right := He.glo_ok X G (c.fact 20 (f := .glo "_law_right") rfl)
  obtain ⟨fd_law, F_law⟩ := c.def_ 21 (d := d_law) rfl
  have g_law := He.glo_ok X G (c.fact 21 (f := .glo "law") rfl)
  have g_FIGURES := He.str_ok X G (c.fact 39 (f := .str "FIGURES" "0123456789") rfl)
  have g_MOST_FIGURES := He.int_ok X G (c.fact 40 (f := .int "MOST_FIGURES" 13) rfl)
  have g_BLANK := He.str_ok X G (c.fact 41 (f := .str "BLANK" " ") rfl)
  have g_COLON := He.str_ok X G (c.fact 42 (f := .str "COLON" ":") rfl)
  have g_AHEAD := He.int_ok X G (c.fact 43 (f := .int "AHEAD" 3) rfl)
  have g_DEPTHS := He.int_ok X G (c.fact 44 (f := .int "DEPTHS" 2) rfl)
  have g_NONE := He.str_ok X G (c.fact 45 (f := .str "NONE" "-") rfl)
  simp only [xqB, Bool.and_eq_true, decide_eq_true_eq] at xq
  obtain ⟨⟨⟨⟨xk0, xo_BadText⟩, xi_BadText⟩, xd_text_BadText⟩, xe_BadText⟩ := xq
  have xk : XK K tbX ownX blX := xkB_ok xk0
  have gx : ∀ C ∈ ownX, mg C = some (.ref (He.ga K C)) := by
    intro C hC
    simp only [ownX, List.mem_cons, List.mem_nil_iff, or_false] at hC
    rcases hC with rfl | rfl | rfl | rfl | rfl | rfl | rfl
    · exact He.glo_ok X G (c.fact 49 (f := .glo "MayNot") rfl)
    · exact He.glo_ok X G (c.fact 50 (f := .glo "Apart") rfl)
    · exact He.glo_ok X G (c.fact 51 (f := .glo "BadText") rfl)
    · exact He.glo_ok X G (c.fact 52 (f := .glo "BadRow") rfl)
    · exact He.glo_ok X G (c.fact 53 (f := .glo "NoShip") rfl)
    · exact He.glo_ok X G (c.fact 54 (f := .glo "NoDeed") rfl)
    · exact He.glo_ok X G (c.fact 55 (f := .glo "Full") rfl)
  have nb_ValueError : mg "ValueError" = none := He.free_ok X G (c.fact 56 (f := .free "ValueError") rfl)
  have gb : ∀ T ∈ blX, mg (Str.ofString T) = none := by
    intro T hT
    simp only [blX, List.mem_cons, List.mem_nil_iff, or_false] at hT
    rcases hT with rfl
    · exact nb_ValueError
  obtain ⟨fd_I_BadText, F_I_BadText⟩ := c.def_ 22 (d := d_I_BadText) rfl
  have xf_text : ∀ C ∈ (["BadText"] : List Str), ∃ Ca, mg C = some (.ref Ca) ∧ ExK K Ca ∧ PySem.W.findIn K (.ref Ca) "text" = some none := by
    intro C hC
    simp only [List.mem_cons, List.mem_nil_iff, or_false] at hC
    rcases hC with rfl
    · exact ⟨_, gx _ (by decide), xk.e _ (by decide), xd_text_BadText⟩
  cases hfa.symm.trans g_law
  refine ⟨fd_law, fun s v => FunD.bindsA (ps := ["_law_script"]) F_law (fun _ _ _ _ _ _ us hl => match us, hl with | [_], _ => rfl) s [v] rfl, fun base _ _ tbs => ?_⟩
  letI : TabC := tcOf K ln
  have xc_BadText : XC1 P w K mg base "BadText" "text" := ⟨_, _, _, fd_I_BadText, gx _ (by decide), oexB_ok xo_BadText, (iniB_ok xi_BadText).1, (iniB_ok xi_BadText).2, xe_BadText, F_I_BadText.bindsN (fun _ _ _ _ _ _ us hl => match us, hl with | [_, _], _ => rfl), FunD.kbn F_I_BadText (fun _ _ _ _ _ _ us ws h1 h2 => match us, h1, ws, h2 with | [_], _, [_], _ => rfl), okI_BadText nb_ValueError xk.v F_I_BadText⟩
  have o_number_in : FnOk P w K mg base CX0 1 _ fd_number_in ["word"] (spF ⟨K, mg⟩ f_number_in) := ok_number_in nb g_FIGURES g_MOST_FIGURES F_number_in
  have c_number_in : FnD P w K mg base "number_in" 1 ["word"] f_number_in := FunD.d F_number_in g_number_in (fun _ _ _ _ _ _ us hl => match us, hl with | [_], _ => rfl) o_number_in
  have o_sea_text : FnOk P w K mg base CX0 1 _ fd_sea_text ["sea"] (spF ⟨K, mg⟩ f_sea_text) := ok_sea_text nb g_BLANK g_COLON F_sea_text
  have c_sea_text : FnD P w K mg base "sea_text" 1 ["sea"] f_sea_text := FunD.d F_sea_text g_sea_text (fun _ _ _ _ _ _ us hl => match us, hl with | [_], _ => rfl) o_sea_text
  have k_sea_text_0_sea : FnK P w K mg base "sea_text" 1 ["sea"] ["sea"] 0 [0] f_sea_text := FunD.k F_sea_text g_sea_text (fun _ _ _ _ _ _ us ws h1 h2 => match us, h1, ws, h2 with | [], _, [_], _ => rfl) o_sea_text
  have o_sea_in : FnOk P w K mg base CX0 2 _ fd_sea_in ["text"] (spF ⟨K, mg⟩ f_sea_in) := ok_sea_in nb g_AHEAD g_BLANK g_COLON g_DEPTHS c_number_in F_sea_in
  have c_sea_in : FnD P w K mg base "sea_in" 2 ["text"] f_sea_in := FunD.d F_sea_in g_sea_in (fun _ _ _ _ _ _ us hl => match us, hl with | [_], _ => rfl) o_sea_in
  have cB_sea_in : FnDB P w K mg base "sea_in" 4 ["text"] fB_sea_in := ⟨_, fd_sea_in, g_sea_in, F_sea_in.kp, F_sea_in.bindsN (fun _ _ _ _ _ _ us hl => match us, hl with | [_], _ => rfl), okB_sea_in nb g_AHEAD g_BLANK g_COLON g_DEPTHS xc_BadText c_number_in F_sea_in⟩
  have k_sea_in_0_text : FnK P w K mg base "sea_in" 2 ["text"] ["text"] 0 [0] f_sea_in := FunD.k F_sea_in g_sea_in (fun _ _ _ _ _ _ us ws h1 h2 => match us, h1, ws, h2 with | [], _, [_], _ => rfl) o_sea_in
  have o_standing_text : FnOk P w K mg base CX0 1 _ fd_standing_text ["standing"] (spF ⟨K, mg⟩ f_standing_text) := ok_standing_text nb g_BLANK g_NONE F_standing_text
  have c_standing_text : FnD P w K mg base "standing_text" 1 ["standing"] f_standing_text := FunD.d F_standing_text g_standing_text (fun _ _ _ _ _ _ us hl => match us, hl with | [_], _ => rfl) o_standing_text
  have k_standing_text_0_standing : FnK P w K mg base "standing_text" 1 ["standing"] ["standing"] 0 [0] f_standing_text := FunD.k F_standing_text g_standing_text (fun _ _ _ _ _ _ us ws h1 h2 => match us, h1, ws, h2 with | [], _, [_], _ => rfl) o_standing_text
  have o_ships_in : FnOk P w K mg base CX0 2 _ fd_ships_in ["words"] (spF ⟨K, mg⟩ f_ships_in) := ok_ships_in nb nx c_number_in F_ships_in
  have c_ships_in : FnD P w K mg base "ships_in" 2 ["words"] f_ships_in := FunD.d F_ships_in g_ships_in (fun _ _ _ _ _ _ us hl => match us, hl with | [_], _ => rfl) o_ships_in
  have o_standing_in : FnOk P w K mg base CX0 3 _ fd_standing_in ["sea", "text"] (spF ⟨K, mg⟩ f_standing_in) := ok_standing_in nb g_BLANK g_NONE c_ships_in F_standing_in
  have c_standing_in : FnD P w K mg base "standing_in" 3 ["sea", "text"] f_standing_in := FunD.d F_standing_in g_standing_in (fun _ _ _ _ _ _ us hl => match us, hl with | [_, _], _ => rfl) o_standing_in
  have cB_standing_in : FnDB P w K mg base "standing_in" 4 ["sea", "text"] fB_standing_in := ⟨_, fd_standing_in, g_standing_in, F_standing_in.kp, F_standing_in.bindsN (fun _ _ _ _ _ _ us hl => match us, hl with | [_, _], _ => rfl), okB_standing_in nb g_BLANK g_NONE xc_BadText c_ships_in F_standing_in⟩
  have k_standing_in_0_text_sea : FnK P w K mg base "standing_in" 3 ["sea", "text"] ["text", "sea"] 0 [1, 0] f_standing_in := FunD.k F_standing_in g_standing_in (fun _ _ _ _ _ _ us ws h1 h2 => match us, h1, ws, h2 with | [], _, [_, _], _ => rfl) o_standing_in
  have o_law_cell_at : FnOk P w K mg base CX0 1 _ fd_law_cell_at ["_law_script", "_law_k"] (spF ⟨K, mg⟩ f_law_cell_at) := ok_law_cell_at nb  F_law_cell_at
  have c_law_cell_at : FnD P w K mg base "_law_cell_at" 1 ["_law_script", "_law_k"] f_law_cell_at := FunD.d F_law_cell_at g_law_cell_at (fun _ _ _ _ _ _ us hl => match us, hl with | [_, _], _ => rfl) o_law_cell_at
  have o_law_box : FnOk P w K mg base CX0 2 _ fd_law_box ["_law_script", "_law_k"] (spF ⟨K, mg⟩ f_law_box) := ok_law_box nb c_law_cell_at F_law_box
  have c_law_box : FnD P w K mg base "_law_box" 2 ["_law_script", "_law_k"] f_law_box := FunD.d F_law_box g_law_box (fun _ _ _ _ _ _ us hl => match us, hl with | [_, _], _ => rfl) o_law_box
  have cF_law_box : FnDF P w K mg base "_law_box" 2 ["_law_script", "_law_k"] fF_law_box := FunD.df F_law_box g_law_box (fun _ _ _ _ _ _ us hl => match us, hl with | [_, _], _ => rfl) (okF_law_box nb c_law_cell_at F_law_box)
  have o_law_take : FnOk P w K mg base CX0 1 _ fd_law_take ["_law_box_here", "_law_span"] (spF ⟨K, mg⟩ f_law_take) := ok_law_take nb  F_law_take
  have c_law_take : FnD P w K mg base "_law_take" 1 ["_law_box_here", "_law_span"] f_law_take := FunD.d F_law_take g_law_take (fun _ _ _ _ _ _ us hl => match us, hl with | [_, _], _ => rfl) o_law_take
  have o_law_of : FnOk P w K mg base CX0 2 _ fd_law_of ["_law_box_here", "_law_some"] (spF ⟨K, mg⟩ f_law_of) := ok_law_of nb c_law_take F_law_of
  have c_law_of : FnD P w K mg base "_law_of" 2 ["_law_box_here", "_law_some"] f_law_of := FunD.d F_law_of g_law_of (fun _ _ _ _ _ _ us hl => match us, hl with | [_, _], _ => rfl) o_law_of
  have c_law_same : FnD P w K mg base "_law_same" 9 ["_law_found", "_law_due"] f_law_same := (FunD.d F_law_same g_law_same (fun _ _ _ _ _ _ us hl => match us, hl with | [_, _], _ => rfl) (ok_law_same nb  F_law_same g_law_same 8)).mono (by decide)
  have o_law_sea : FnOk P w K mg base CX0 3 _ fd_law_sea ["_law_box_here", "_law_most"] (spF ⟨K, mg⟩ f_law_sea) := ok_law_sea nb c_law_of c_law_take F_law_sea
  have c_law_sea : FnD P w K mg base "_law_sea" 3 ["_law_box_here", "_law_most"] f_law_sea := FunD.d F_law_sea g_law_sea (fun _ _ _ _ _ _ us hl => match us, hl with | [_, _], _ => rfl) o_law_sea
  have o_law_lot : FnOk P w K mg base CX0 3 _ fd_law_lot ["_law_box_here", "_law_count"] (spF ⟨K, mg⟩ f_law_lot) := ok_law_lot nb c_law_of c_law_take F_law_lot
  have c_law_lot : FnD P w K mg base "_law_lot" 3 ["_law_box_here", "_law_count"] f_law_lot := FunD.d F_law_lot g_law_lot (fun _ _ _ _ _ _ us hl => match us, hl with | [_, _], _ => rfl) o_law_lot
  have c_law_lists : FnD P w K mg base "_law_lists" 9 ["_law_what"] f_law_lists := (FunD.d F_law_lists g_law_lists (fun _ _ _ _ _ _ us hl => match us, hl with | [_], _ => rfl) (ok_law_lists nb  F_law_lists g_law_lists 8)).mono (by decide)
  have o_law_number_in : FnOk P w K mg base CX0 1 _ fd_law_number_in ["_law_word"] (spF ⟨K, mg⟩ f_law_number_in) := ok_law_number_in nb  F_law_number_in
  have c_law_number_in : FnD P w K mg base "_law_number_in" 1 ["_law_word"] f_law_number_in := FunD.d F_law_number_in g_law_number_in (fun _ _ _ _ _ _ us hl => match us, hl with | [_], _ => rfl) o_law_number_in
  have o_law_ships_in : FnOk P w K mg base CX0 2 _ fd_law_ships_in ["_law_words_here", "_law_count"] (spF ⟨K, mg⟩ f_law_ships_in) := ok_law_ships_in nb nx c_law_number_in F_law_ships_in
  have c_law_ships_in : FnD P w K mg base "_law_ships_in" 2 ["_law_words_here", "_law_count"] f_law_ships_in := FunD.d F_law_ships_in g_law_ships_in (fun _ _ _ _ _ _ us hl => match us, hl with | [_, _], _ => rfl) o_law_ships_in
  have o_law_bent_text : FnOk P w K mg base CX0 3 _ fd_law_bent_text ["_law_box_here", "_law_given"] (spF ⟨K, mg⟩ f_law_bent_text) := ok_law_bent_text nb c_law_of c_law_take F_law_bent_text
  have c_law_bent_text : FnD P w K mg base "_law_bent_text" 3 ["_law_box_here", "_law_given"] f_law_bent_text := FunD.d F_law_bent_text g_law_bent_text (fun _ _ _ _ _ _ us hl => match us, hl with | [_, _], _ => rfl) o_law_bent_text
  have o_law_read_sea : FnOk P w K mg base CX0 2 _ fd_law_read_sea ["_law_given"] (spF ⟨K, mg⟩ f_law_read_sea) := ok_law_read_sea nb c_law_number_in F_law_read_sea
  have c_law_read_sea : FnD P w K mg base "_law_read_sea" 2 ["_law_given"] f_law_read_sea := FunD.d F_law_read_sea g_law_read_sea (fun _ _ _ _ _ _ us hl => match us, hl with | [_], _ => rfl) o_law_read_sea
  have o_law_read_lot : FnOk P w K mg base CX0 3 _ fd_law_read_lot ["_law_given", "_law_count"] (spF ⟨K, mg⟩ f_law_read_lot) := ok_law_read_lot nb c_law_ships_in F_law_read_lot
  have c_law_read_lot : FnD P w K mg base "_law_read_lot" 3 ["_law_given", "_law_count"] f_law_read_lot := FunD.d F_law_read_lot g_law_read_lot (fun _ _ _ _ _ _ us hl => match us, hl with | [_, _], _ => rfl) o_law_read_lot
  have o_law_told : FnOk P w K mg base CX0 5 _ fd_law_told ["_law_given", "_law_sea_here"] (spF ⟨K, mg⟩ f_law_told) := ok_law_told nb cB_sea_in cB_standing_in xk gx gb xf_text F_law_told
  have c_law_told : FnD P w K mg base "_law_told" 5 ["_law_given", "_law_sea_here"] f_law_told := FunD.d F_law_told g_law_told (fun _ _ _ _ _ _ us hl => match us, hl with | [_, _], _ => rfl) o_law_told
  have o_law_right : FnOk P w K mg base CX0 10 _ fd_law_right ["_law_box_here"] (spF ⟨K, mg⟩ f_law_right) := ok_law_right nb k_sea_in_0_text k_sea_text_0_sea k_standing_in_0_text_sea k_standing_text_0_standing c_law_bent_text c_law_lists c_law_lot c_law_read_lot c_law_read_sea c_law_same c_law_sea c_law_told c_sea_text c_standing_text F_law_right
  have c_law_right : FnD P w K mg base "_law_right" 10 ["_law_box_here"] f_law_right := FunD.d F_law_right g_law_right (fun _ _ _ _ _ _ us hl => match us, hl with | [_], _ => rfl) o_law_right
  exact ok_law nb cF_law_box c_law_right F_law
end LW
open PySem PySem.W PySem.Calls PyProof.Rows in
theorem PySem.Challenge.cw_shoalmates_k27_seas_and_standings_as_tex_holds : PySem.Challenge.rw_shoalmates_k27_seas_and_standings_as_tex.Holds := by
  w_on; o_law
  refine HandSHeadRun.head_any (r := OpenLaw.row PySem.Challenge.rw_shoalmates_k27_seas_and_standings_as_tex) (q := view (OpenLaw.row PySem.Challenge.rw_shoalmates_k27_seas_and_standings_as_tex).prog [38]) (H := LW.hk) (ob := LW.ob) (M := 4000) (loose := LW.others) (d := HandSHeadRun.topDef (OpenLaw.row PySem.Challenge.rw_shoalmates_k27_seas_and_standings_as_tex).prog 38) (kwd := []) LW.ob_eq
    (by kernel_rfl) (fun s => by kernel_rfl) LW.run (by kernel_rfl) (by kernel_rfl) (by kernel_rfl) (by rfl) (by first | assumption | decide +kernel) (by decide +kernel) ⟨rfl, rfl, rfl, rfl, rfl, by decide +kernel⟩ ?hw ?hc
  case hw => w_witness2
  case hc =>
    refine DL.walk_tabs (l := PySem.Challenge.rw_shoalmates_k27_seas_and_standings_as_tex) (n := 63) (k := 11) (x := "_law_script") rfl (by decide) (by kernel_rfl) ⟨rfl, by decide, by decide⟩ ?F
    intro w mg fa h Y G hmg0
    obtain ⟨K, KX, c⟩ := Y
    have hmg : mg ("law" : PySem.Str) = some (.ref fa) := by
      have e : (HandSHeadRun.topDef (OpenLaw.row PySem.Challenge.rw_shoalmates_k27_seas_and_standings_as_tex).prog 38).name = ("law" : PySem.Str) := by kernel_rfl
      rw [← e]
      exact hmg0
    obtain ⟨fd, hb, hF⟩ := LW.facts (P := (PySem.Challenge.rw_shoalmates_k27_seas_and_standings_as_tex).prog) (w := w) KX G hmg c.t.d (of_decide_eq_true (Bool.and_eq_true_iff.mp c.more).1) (Bool.and_eq_true_iff.mp c.more).2
    letI : DL.TabC := DL.tcOf K LW.ln
    have tfm : ∀ x ∈ LW.ln, ((x, none) : He.Defn) ∈ LW.tf := by decide
    have fmt : ∀ p ∈ LW.tf, p.2 = none ∧ p.1 ∈ LW.ln := by decide
    refine ⟨K, KX, fd, LW.tf.map (He.cT K), _, fun p hp => ?_, fun p hp => ?_, fun p hp => ?_, hb, fun H a ns hl _ hT hS => DL.sp_law hS hl (DL.tabs0 fun x hx => hT _ (List.mem_map.mpr ⟨(x, none), tfm x hx, rfl⟩)) (LW.plain ns hl), fun base h1 h2 h3 => hF base h1 h2 fun x hx => h3 _ (List.mem_map.mpr ⟨(x, none), tfm x hx, rfl⟩)⟩
    · obtain ⟨q, hq, rfl⟩ := List.mem_map.mp hp; exact c.empty q hq
    · obtain ⟨q, hq, rfl⟩ := List.mem_map.mp hp; exact c.out q hq
    · obtain ⟨q, hq, rfl⟩ := List.mem_map.mp hp; exact PySem.W.codeHd_of_K KX (c.hd q hq)
