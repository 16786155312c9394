import PyProof.Rows.All
import Wide.All
import OpenK.AllK
import Wide.FinOn
import HandS.ForMost
import HandS.ForExc
import HandS.Zip
import HandS.Wide
import HandS.IsInst
import HandS.CallSlots
import HandS.Head2
import HandS.HeadEnd
import HandS.HeadHook2
import HandS.Lambda
import KE.KDictWalk
import KE.KeyNested
import HandS.Flow
import HandS.TupMul
import HandS.TupAny
import HandS.EndBits
import HandS.ExcInit
import HandS.ExcField
import HandS.ExcIs
import HandS.ExcOwn
import KE.KExcInit
import HandS.TryMany
import HandS.EndTab
import KE.KExcIs
import KE.KDflt
import HandS.Rev
import HandS.Deep
import PyProof.WalksMore
import KE.KDictKeyed
import HandS.MakeKwOnly
import KE.GoesRaise
import KE.KAsSuite
import HandS.NamedTupGet
import HandS.Text
import HandS.FStr
import HandS.RaiseMore
import PyProof.StrOps2
import HandS.HeadHook3
import KE.KTupSum
import HandS.SortInts
import KE.GoesMore
import KE.KUnpackStar
import HandS.NoneIn
import KE.GoesDict
import HandS.DictComp
import KE.KDictCopyH
import HandS.More
import HandS.Conv
import HandS.List
import PySem.Challenge.RW_lotspring_k13_whole_far_places_of_a_rule
set_option Elab.async false
set_option linter.all false
set_option maxRecDepth 100000
set_option maxHeartbeats 4000000
namespace Ls
open PySem L2 PyProof.Rows
abbrev AlX : Type := He.AlD × Bool
def obsX (fa : List He.Fa) (fn : List He.DefD) (fx : PySem.W.Frag → Bool) (K : PySem.W.Frag) : AlX := (He.obsD fa fn K, fx K)
def obsXG (n : Nat) (fa : List He.Fa) (fn : List He.DefD) (fx : PySem.W.Frag → Bool) (g : Addr → Option Obj) : AlX := obsX fa fn fx (He.frG g (cStatics :: He.asD g n))
def SaysX (fa : List He.Fa) (fn : List He.DefD) (fx : PySem.W.Frag → Bool) (K : PySem.W.Frag) : Prop := obsX fa fn fx K = (He.valD fn, true)
def hookX (n : Nat) (fa : List He.Fa) (fn : List He.DefD) (fx : PySem.W.Frag → Bool) : PySem.W.Hook where
  α := AlX
  obs := fun s => obsXG n fa fn fx s.heap.get?
  val := fun _ => (He.valD fn, true)
  says := fun _ h => ∃ K : PySem.W.Frag, K.In h ∧ SaysX fa fn fx K
  of := fun _ _ e => ⟨_, He.frG_in, e⟩
  keeps := fun _ _ _ ⟨K, hK, c⟩ k => ⟨K, PySem.W.Frag.In.keeps hK k, c⟩
def cutR : List Value → List Value
  | .ref _ :: r => cutR r
  | l => l
def oxC (K : PySem.W.Frag) (C : Addr) (newId : String) (tl : List Value) : Bool := match K.lookup C with
  | some ⟨.type ty, _, .cls cd, sl⟩ => (match cd.mro, sl.toList with
    | .ref C2 :: bm, [_, _, _, _, some (.builtin n), _] => decide (ty = "type") && (decide (C2 = C) && (decide (n = newId) && (!cd.hasDel && (cd.hasDict && cutR bm == tl))))
    | _, _ => false)
  | _ => false
def oxB (K : PySem.W.Frag) (x : Str) (newId : String) (tl : List Value) : Bool := oxC K (He.ga K x) newId tl && (decide (PySem.W.findIn K (.ref (He.ga K x)) "__setattr__" = some (some (.builtin "object.__setattr__"))) && (decide (PySem.W.subIn K (.ref (He.ga K x)) (.type "BaseException") = some true) &&
  (decide (PySem.W.typeIn K (.ref (He.ga K x)) = some (.type "type")) && PySem.W.keepIn K (.ref (He.ga K x)))))
def initA (K : PySem.W.Frag) (x : Str) : Addr := He.ma K (He.ga K x) "__init__"
def oiB (K : PySem.W.Frag) (x : Str) : Bool := PySem.W.readsIn K (He.ga K x) (.type "type") && (decide (PySem.W.specialIn K (.ref (He.ga K x)) "__getattribute__" = some (some (.builtin "type.__getattribute__"))) &&
  ((match PySem.W.findCls K (.ref (He.ga K x)) (.type "type") "__init__" with
    | some (.val v) => v == .ref (initA K x)
    | _ => false) && (PySem.W.handedIn (.ref (initA K x)) && PySem.W.keepIn K (.ref (initA K x)))))
def inB (K : PySem.W.Frag) (x : Str) (fs : List Str) : Bool := decide (PySem.W.findIn K (.ref (He.ga K x)) "__init__" = some (some (.ref (initA K x)))) && (decide (PySem.W.typeIn K (.ref (initA K x)) = some (.type "function")) && fs.all fun f => decide (PySem.W.findIn K (.ref (He.ga K x)) f = some none))
def tlV : List Value := [.type "ValueError", .type "Exception", .type "BaseException", .type "object"]
def tlI : List Value := [.type "IndexError", .type "LookupError", .type "Exception", .type "BaseException", .type "object"]
def clsS (s : Stmt) (j : Nat) : Stmt := match s with
  | .ClassDef _ _ _ b _ _ _ _ _ _ _ => b.getD j (.Pass ⟨0, 0, 0, 0⟩)
  | s => s
end Ls
noncomputable section
namespace Lw
open PySem L2 Ls
def topS (i : Nat) : Stmt := PySem.Challenge.pw_lotspring_k13_whole_far_places_of_a_rule.main.body.getD i (.Pass ⟨0, 0, 0, 0⟩)
abbrev s__law_bag : Stmt := topS 30
abbrev s__law_pull : Stmt := topS 31
abbrev s__law_pick : Stmt := topS 32
abbrev s__law_prime : Stmt := topS 35
abbrev s__law_pegs : Stmt := topS 38
abbrev s_need_prime : Stmt := topS 14
abbrev s_is_whole : Stmt := topS 9
abbrev s_is_within : Stmt := topS 10
abbrev s_is_row_of : Stmt := topS 17
abbrev s_need_kind : Stmt := topS 22
abbrev s_Spring___init__ : Stmt := clsS (topS 28) 0
abbrev s__law_same : Stmt := topS 33
abbrev s__law_next_row : Stmt := topS 39
abbrev s__law_table : Stmt := topS 40
abbrev s_Spring_room : Stmt := clsS (topS 28) 4
abbrev s_unit : Stmt := topS 23
abbrev s_poly_row : Stmt := topS 24
abbrev s_shifted : Stmt := topS 25
abbrev s_joined : Stmt := topS 26
abbrev s_rule_row : Stmt := topS 27
abbrev s_Spring_row : Stmt := clsS (topS 28) 5
abbrev s__law_mix : Stmt := topS 37
abbrev s_Spring_need_seed : Stmt := clsS (topS 28) 7
abbrev s_dot : Stmt := topS 18
abbrev s_Spring_cells : Stmt := clsS (topS 28) 9
abbrev s__law_dot : Stmt := topS 36
abbrev s_law : Stmt := topS 41
abbrev i_LotError : Stmt := clsS (topS 2) 0
abbrev i_BadNumber : Stmt := clsS (topS 3) 0
abbrev i_BadPrime : Stmt := clsS (topS 4) 0
abbrev i_BadSpring : Stmt := clsS (topS 5) 0
abbrev i_NoPlace : Stmt := clsS (topS 7) 0
abbrev i_BadSeed : Stmt := clsS (topS 6) 0
def dd__law_bag : He.DefD := ⟨("_law_bag", none), "_law_bag", "_law_bag", defArgs s__law_bag, defBody s__law_bag, defScope s__law_bag, [], []⟩
def dd__law_pull : He.DefD := ⟨("_law_pull", none), "_law_pull", "_law_pull", defArgs s__law_pull, defBody s__law_pull, defScope s__law_pull, [], []⟩
def dd__law_pick : He.DefD := ⟨("_law_pick", none), "_law_pick", "_law_pick", defArgs s__law_pick, defBody s__law_pick, defScope s__law_pick, [], []⟩
def dd__law_prime : He.DefD := ⟨("_law_prime", none), "_law_prime", "_law_prime", defArgs s__law_prime, defBody s__law_prime, defScope s__law_prime, [], []⟩
def dd__law_pegs : He.DefD := ⟨("_law_pegs", none), "_law_pegs", "_law_pegs", defArgs s__law_pegs, defBody s__law_pegs, defScope s__law_pegs, [], []⟩
def dd_need_prime : He.DefD := ⟨("need_prime", none), "need_prime", "need_prime", defArgs s_need_prime, defBody s_need_prime, defScope s_need_prime, [], []⟩
def dd_is_whole : He.DefD := ⟨("is_whole", none), "is_whole", "is_whole", defArgs s_is_whole, defBody s_is_whole, defScope s_is_whole, [], []⟩
def dd_is_within : He.DefD := ⟨("is_within", none), "is_within", "is_within", defArgs s_is_within, defBody s_is_within, defScope s_is_within, [], []⟩
def dd_is_row_of : He.DefD := ⟨("is_row_of", none), "is_row_of", "is_row_of", defArgs s_is_row_of, defBody s_is_row_of, defScope s_is_row_of, [], []⟩
def dd_need_kind : He.DefD := ⟨("need_kind", none), "need_kind", "need_kind", defArgs s_need_kind, defBody s_need_kind, defScope s_need_kind, [], []⟩
def dd_Spring___init__ : He.DefD := ⟨("Spring", some "__init__"), "__init__", "Spring.__init__", defArgs s_Spring___init__, defBody s_Spring___init__, defScope s_Spring___init__, [], [("kind", .str "bare"), ("taps", .non)]⟩
def dd__law_same : He.DefD := ⟨("_law_same", none), "_law_same", "_law_same", defArgs s__law_same, defBody s__law_same, defScope s__law_same, [], []⟩
def dd__law_next_row : He.DefD := ⟨("_law_next_row", none), "_law_next_row", "_law_next_row", defArgs s__law_next_row, defBody s__law_next_row, defScope s__law_next_row, [], []⟩
def dd__law_table : He.DefD := ⟨("_law_table", none), "_law_table", "_law_table", defArgs s__law_table, defBody s__law_table, defScope s__law_table, [], []⟩
def dd_Spring_room : He.DefD := ⟨("Spring", some "room"), "room", "Spring.room", defArgs s_Spring_room, defBody s_Spring_room, defScope s_Spring_room, [], []⟩
def dd_unit : He.DefD := ⟨("unit", none), "unit", "unit", defArgs s_unit, defBody s_unit, defScope s_unit, [], []⟩
def dd_poly_row : He.DefD := ⟨("poly_row", none), "poly_row", "poly_row", defArgs s_poly_row, defBody s_poly_row, defScope s_poly_row, [], []⟩
def dd_shifted : He.DefD := ⟨("shifted", none), "shifted", "shifted", defArgs s_shifted, defBody s_shifted, defScope s_shifted, [], []⟩
def dd_joined : He.DefD := ⟨("joined", none), "joined", "joined", defArgs s_joined, defBody s_joined, defScope s_joined, [], []⟩
def dd_rule_row : He.DefD := ⟨("rule_row", none), "rule_row", "rule_row", defArgs s_rule_row, defBody s_rule_row, defScope s_rule_row, [], []⟩
def dd_Spring_row : He.DefD := ⟨("Spring", some "row"), "row", "Spring.row", defArgs s_Spring_row, defBody s_Spring_row, defScope s_Spring_row, [], []⟩
def dd__law_mix : He.DefD := ⟨("_law_mix", none), "_law_mix", "_law_mix", defArgs s__law_mix, defBody s__law_mix, defScope s__law_mix, [], []⟩
def dd_Spring_need_seed : He.DefD := ⟨("Spring", some "need_seed"), "need_seed", "Spring.need_seed", defArgs s_Spring_need_seed, defBody s_Spring_need_seed, defScope s_Spring_need_seed, [], []⟩
def dd_dot : He.DefD := ⟨("dot", none), "dot", "dot", defArgs s_dot, defBody s_dot, defScope s_dot, [], []⟩
def dd_Spring_cells : He.DefD := ⟨("Spring", some "cells"), "cells", "Spring.cells", defArgs s_Spring_cells, defBody s_Spring_cells, defScope s_Spring_cells, [], []⟩
def dd__law_dot : He.DefD := ⟨("_law_dot", none), "_law_dot", "_law_dot", defArgs s__law_dot, defBody s__law_dot, defScope s__law_dot, [], []⟩
def dd_law : He.DefD := ⟨("law", none), "law", "law", defArgs s_law, defBody s_law, defScope s_law, [], []⟩
def di_LotError : He.DefD := ⟨("LotError", some "__init__"), "__init__", "LotError.__init__", defArgs i_LotError, defBody i_LotError, defScope i_LotError, [], []⟩
def di_BadNumber : He.DefD := ⟨("BadNumber", some "__init__"), "__init__", "BadNumber.__init__", defArgs i_BadNumber, defBody i_BadNumber, defScope i_BadNumber, [], []⟩
def di_BadPrime : He.DefD := ⟨("BadPrime", some "__init__"), "__init__", "BadPrime.__init__", defArgs i_BadPrime, defBody i_BadPrime, defScope i_BadPrime, [], []⟩
def di_BadSpring : He.DefD := ⟨("BadSpring", some "__init__"), "__init__", "BadSpring.__init__", defArgs i_BadSpring, defBody i_BadSpring, defScope i_BadSpring, [], []⟩
def di_NoPlace : He.DefD := ⟨("NoPlace", some "__init__"), "__init__", "NoPlace.__init__", defArgs i_NoPlace, defBody i_NoPlace, defScope i_NoPlace, [], []⟩
def di_BadSeed : He.DefD := ⟨("BadSeed", some "__init__"), "__init__", "BadSeed.__init__", defArgs i_BadSeed, defBody i_BadSeed, defScope i_BadSeed, [], []⟩
def fnL : List He.DefD := [dd__law_bag, dd__law_pull, dd__law_pick, dd__law_prime, dd__law_pegs, dd_need_prime, dd_is_whole, dd_is_within, dd_is_row_of, dd_need_kind, dd_Spring___init__, dd__law_same, dd__law_next_row, dd__law_table, dd_Spring_room, dd_unit, dd_poly_row, dd_shifted, dd_joined, dd_rule_row, dd_Spring_row, dd__law_mix, dd_Spring_need_seed, dd_dot, dd_Spring_cells, dd__law_dot, dd_law, di_LotError, di_BadNumber, di_BadPrime, di_BadSpring, di_NoPlace, di_BadSeed]
def faL : List He.Fa := [.glo "_law_bag", .glo "_law_pull", .glo "_law_pick", .glo "_law_prime", .glo "_law_pegs", .glo "need_prime", .glo "is_whole", .glo "is_within", .glo "is_row_of", .glo "need_kind", .glo "_law_same", .glo "_law_next_row", .glo "_law_table", .glo "unit", .glo "poly_row", .glo "shifted", .glo "joined", .glo "rule_row", .glo "_law_mix", .glo "dot", .glo "_law_dot", .glo "law", .glo "Spring", .cls "Spring", .mkr "Spring", .meth "Spring" "cells", .meth "Spring" "need_seed", .meth "Spring" "room", .meth "Spring" "row", .noat "Spring" "kind", .noat "Spring" "known_rows", .noat "Spring" "prime", .noat "Spring" "size", .noat "Spring" "taps", .glo "LotError", .glo "BadNumber", .glo "BadPrime", .glo "BadSpring", .glo "NoPlace", .glo "BadSeed", .free "IndexError", .free "ValueError", .free "all", .free "bool", .free "dict", .free "int", .free "isinstance", .free "len", .free "list", .free "range", .free "sum", .free "tuple", .free "zip", .glo "KINDS", .glo "PRIMES", .int "MOST_PLACES" 1000000000000000000, .int "MOST_SIZE" 12]
def v_KINDS : List He.Dv := [.str "bare", .str "poly", .str "rule"]
def v_PRIMES : List He.Dv := [.int 2, .int 3, .int 5, .int 7, .int 11, .int 13, .int 17, .int 19, .int 23, .int 29, .int 31]
def fxs (K : PySem.W.Frag) : List Bool := [He.tupB K "KINDS" v_KINDS, He.tupB K "PRIMES" v_PRIMES, oxB K "LotError" "ValueError.__new__" tlV, oiB K "LotError", inB K "LotError" ["word"], oxB K "BadNumber" "ValueError.__new__" tlV, oiB K "BadNumber", inB K "BadNumber" ["word"], oxB K "BadPrime" "ValueError.__new__" tlV, oiB K "BadPrime", inB K "BadPrime" ["word"], oxB K "BadSpring" "ValueError.__new__" tlV, oiB K "BadSpring", inB K "BadSpring" ["word"], oxB K "NoPlace" "IndexError.__new__" tlI, oiB K "NoPlace", inB K "NoPlace" ["where", "word"], oxB K "BadSeed" "ValueError.__new__" tlV, oiB K "BadSeed", inB K "BadSeed" ["word"]]
def fxL (K : PySem.W.Frag) : Bool := (fxs K).all id
def looseL : List PySem.Str := (["_wall", "LotError", "BadNumber", "BadPrime", "BadSpring", "BadSeed", "NoPlace", "is_whole", "is_within", "raised_to", "PRIMES", "need_prime", "MOST_SIZE", "is_row_of", "dot", "KINDS", "MOST_PLACES", "need_kind", "unit", "poly_row", "shifted", "joined", "rule_row", "Spring", "_law_bag", "_law_pull", "_law_pick", "_law_same", "_law_kind_of", "_law_prime"] : List PySem.Str) ++ (["_law_dot", "_law_mix", "_law_pegs", "_law_next_row", "_law_table"] : List PySem.Str)
abbrev R : PySem.W.OpenRow := PySem.W.OpenLaw.row PySem.Challenge.rw_lotspring_k13_whole_far_places_of_a_rule
abbrev hk : PySem.W.Hook := hookX 4 faL fnL fxL
def ob (s : PySem.W.SharedT) : AlX := obsXG 4 faL fnL fxL (HandSHeadRun.getT s)
theorem run (w : World) : HandSHeadRun.RunEq R (PySem.W.view R.prog [41]) hk ob 6000 looseL w := by
  intro os
  kernel_rfl
end Lw
end
namespace Ls
open PySem L2
class Tb where
  t : List (Addr × Str)
  w : World
  ca : List (Addr × PyData)
  cf : PyData → NestedKey → Option PyData
  cl : ∀ c, ∃ L : List NestedKey, L.length < sizeLine ∧ ∀ k d, cf c k = some d → k ∈ L
  cn : (ca.map (·.1)).Nodup
  ck : PySem.W.Frag
theorem cf_none : ∀ _c : PyData, ∃ L : List NestedKey, L.length < sizeLine ∧ ∀ k d, (none : Option PyData) = some d → k ∈ L := fun _ => ⟨[], by decide, fun _ _ h => by cases h⟩
class Vw where
  vw : Hp
instance (priority := low) tb0 : Tb := ⟨[], ⟨fun _ _ => 0, { strHash := fun _ => 0, shareClass := fun _ => 0, mergeTok := id, idOf := fun _ => 0, idOfShared := fun _ _ => 0, followText := fun _ => false, idOfImm := fun _ => 0 }⟩, [], fun _ _ => none, cf_none, .nil, []⟩
instance (priority := low) vw0 : Vw := ⟨fun _ => none⟩
structure Xn where
  cls : Str
  fs : List (Str × PyData)
inductive O where
  | fz (d : PyData)
  | raw (v : V)
  | lst (xs : List O)
  | exn (a : Addr) (cls : Value) (d : Option Addr) (x : Xn)
  | ins (c : Str) (fn : List Str) (os : List O)
  | dct (ks : List PyData) (os : List O)
  | vu (o : O)
abbrev En := List (Option O)
inductive Out (α : Type) where
  | ok (a : α) (ρ : En)
  | exc (x : Xn) (ρ : En)
  | bad
inductive SO where
  | nx (ρ : En) | rt (o : O) (ρ : En) | bk (ρ : En) | ct (ρ : En) | exc (x : Xn) (ρ : En) | bad
inductive FO where
  | ok (o : O) (as : List O) | exc (x : Xn) (as : List O) | bad
def objKv (c : Str) (fn : List Str) (ds : List PyData) : List (PyData × PyData) := (.list [.str c], .none) :: (fn.map PyData.str).zip ds
mutual
def noLst : PyData → Bool
  | .none => true
  | .bool _ => true
  | .int _ => true
  | .str _ => true
  | .tuple ds => noLsts ds
  | .list _ => false
  | .dict _ => false
def noLsts : List PyData → Bool
  | [] => true
  | d :: ds => noLst d && noLsts ds
end
def cchKv (c : PyData) : List (PyData × PyData) := [(.list [], c)]
mutual
def frz : O → Option PyData
  | .fz d => some d
  | .raw _ => none
  | .exn _ _ _ _ => none
  | .lst xs => (frzs xs).map .list
  | .ins c fn os => (frzs os).map fun ds => .dict (objKv c fn ds)
  | .dct ks os => (frzs os).map fun ds => .dict (ks.zip ds)
  | .vu _ => none
def frzs : List O → Option (List PyData)
  | [] => some []
  | x :: xs => (frz x).bind fun d => (frzs xs).map fun ds => d :: ds
end
abbrev Fp := Addr → Nat
def Fp.z : Fp := fun _ => 0
def Fp.one (a : Addr) : Fp := fun b => if b = a then 1 else 0
def Fp.add (A B : Fp) : Fp := fun b => A b + B b
instance : Add Fp := ⟨Fp.add⟩
theorem add_at (A B : Fp) (b : Addr) : (A + B) b = A b + B b := rfl
theorem z_at (b : Addr) : Fp.z b = 0 := rfl
theorem one_same (a : Addr) : Fp.one a a = 1 := if_pos rfl
theorem one_ne {a b : Addr} (h : b ≠ a) : Fp.one a b = 0 := if_neg h
mutual
def keyOf : PyData → Option NestedKey
  | .none => some .none
  | .bool b => some (.num (if b then 1 else 0))
  | .int i => some (.num i)
  | .str x => some (.text x)
  | .tuple ds => (keysOf ds).map .tup
  | .list _ => none
  | .dict _ => none
def keysOf : List PyData → Option (List NestedKey)
  | [] => some []
  | d :: ds => (keyOf d).bind fun k => (keysOf ds).map fun ks => k :: ks
end
def dX (a : Addr) (es : Array DictEntry) (ep : Nat) : HO := .ext fun h => h.DictRaw a es ep
inductive Ents (w : World) : List DictEntry → List V → List V → List PyData → Prop
  | nil : Ents w [] [] [] []
  | cons {e : DictEntry} {u v : V} {d : PyData} {k : NestedKey} {es : List DictEntry} {us vs : List V} {ds : List PyData} : keyOf d = some k → k.depth ≤ 8 → e.hash = k.hash w → RelV u e.key → RelV v e.val → Ents w es us vs ds → Ents w (e :: es) (u :: us) (v :: vs) (d :: ds)
structure DctOk (w : World) (a : Addr) (es : Array DictEntry) (us vs : List V) (ks : List PyData) : Prop where
  en : Ents w es.toList us vs ks
  nd : (ks.map keyOf).Nodup
  sz : ks.length ≤ sizeLine
  ns : (a == sysModules) = false
section
variable [Tb] (K : PySem.W.Frag) (H : Hp)
mutual
inductive Dp : V → PyData → Prop
  | non : Dp .non .none
  | bl (b : Bool) : Dp (.bl b) (.bool b)
  | int (i : Int) : Dp (.int i) (.int i)
  | str (x : Str) : Dp (.str x) (.str x)
  | lst {a : Addr} {xs : List V} {ds : List PyData} : SqL K H a xs → DpAll xs ds → Dp (.ref a) (.list ds)
  | tup {a : Addr} {xs : List V} {ds : List PyData} : SqT K H a xs → DpAll xs ds → Dp (.ref a) (.tuple ds)
  | dct {a : Addr} {es : Array DictEntry} {ep : Nat} {us vs : List V} {ks ds : List PyData} {kvs : List (PyData × PyData)} : H a = some (dX a es ep) → DctOk Tb.w a es us vs ks → DpAll us ks → DpAll vs ds → kvs = ks.zip ds → Dp (.ref a) (.dict kvs)
  | obj {a dx : Addr} {c : Str} {fn : List Str} {vs : List V} {ds : List PyData} {kvs : List (PyData × PyData)} : H a = some (.ins (He.ga K c) dx (fn.zip vs)) → vs.length = fn.length ∧ fn.Nodup ∧ fn.length ≤ 50 → DpAll vs ds → kvs = objKv c fn ds → Dp (.ref a) (.dict kvs)
  | cch {a : Addr} {c : PyData} {kvs : List (PyData × PyData)} : (a, c) ∈ Tb.ca → kvs = cchKv c → Dp (.ref a) (.dict kvs)
inductive DpAll : List V → List PyData → Prop
  | nil : DpAll [] []
  | cons {v : V} {vs : List V} {d : PyData} {ds : List PyData} : Dp v d → DpAll vs ds → DpAll (v :: vs) (d :: ds)
end
end
def XR [Tb] (K : PySem.W.Frag) (S : Hp) (x : Xn) (cls : Value) (d : Option Addr) : Prop :=
  cls = .ref (He.ga K x.cls) ∧ ∃ a fs, d = some a ∧ S a = some (.xd fs) ∧ ∀ f t, x.fs.lookup f = some t → ∃ v, fs.lookup f = some v ∧ Dp K S v t
section
variable [Tb] [vwI : Vw] (K : PySem.W.Frag) (S : Hp)
mutual
inductive OR : Hp → V → O → Fp → Prop
  | fz {H : Hp} {v : V} {d : PyData} {A : Fp} : Dp K S v d → (∀ b, A b = 0) → OR H v (.fz d) A
  | raw {H : Hp} {v : V} {A : Fp} : (∀ b, A b = 0) → OR H v (.raw v) A
  | exn {H : Hp} {a : Addr} {cls : Value} {d : Option Addr} {x : Xn} {A : Fp} : XR K S x cls d → (∀ b, A b = 0) → OR H (.ref a) (.exn a cls d x) A
  | lst {H : Hp} {a : Addr} {vs : List V} {xs : List O} {A B : Fp} : H a = some (.lst vs) → ORs H vs xs B → (∀ b, A b = Fp.one a b + B b) → OR H (.ref a) (.lst xs) A
  | ins {H : Hp} {a dx : Addr} {c : Str} {fn : List Str} {vs : List V} {xs : List O} {A B : Fp} : H a = some (.ins (He.ga K c) dx (fn.zip vs)) → H dx = some (.own a) → vs.length = fn.length ∧ fn.Nodup ∧ fn.length ≤ 50 → ORs H vs xs B → (∀ b, A b = Fp.one a b + (Fp.one dx b + B b)) → OR H (.ref a) (.ins c fn xs) A
  | dct {H : Hp} {a : Addr} {es : Array DictEntry} {ep : Nat} {us vs : List V} {ks : List PyData} {xs : List O} {A B : Fp} : H a = some (dX a es ep) → DctOk Tb.w a es us vs ks → DpAll K S us ks → ORs H vs xs B → (∀ b, A b = Fp.one a b + B b) → OR H (.ref a) (.dct ks xs) A
  | vu {H : Hp} {v : V} {x : O} {A B : Fp} : OR Vw.vw v x B → (∀ b, A b = 0) → OR H v (.vu x) A
inductive ORs : Hp → List V → List O → Fp → Prop
  | nil {H : Hp} {A : Fp} : (∀ b, A b = 0) → ORs H [] [] A
  | cons {H : Hp} {v : V} {vs : List V} {x : O} {xs : List O} {A B C : Fp} : OR H v x B → ORs H vs xs C → (∀ b, A b = B b + C b) → ORs H (v :: vs) (x :: xs) A
end
variable (H : Hp)
inductive ER : St → En → Fp → Prop
  | nil {A : Fp} : (∀ b, A b = 0) → ER [] [] A
  | non {w : Option V} {σ : St} {ρ : En} {A : Fp} : ER σ ρ A → ER (w :: σ) (none :: ρ) A
  | som {v : V} {o : O} {σ : St} {ρ : En} {A B C : Fp} : OR K S H v o B → ER σ ρ C → (∀ b, A b = B b + C b) → ER (some v :: σ) (some o :: ρ) A
end
def Tl (H : Hp) (a : Addr) : Prop := ∃ ps, H a = some (.tbl ps)
def IsCode (u : HO) : Prop := ∃ c q, u = LamX.CodeO c q
def Odd (u : HO) : Prop := IsCode u ∨ ∃ ps, u = .tbl ps
theorem odd_lst {xs : List V} : ¬ Odd (.lst xs) := fun h => h.elim (fun ⟨c, q, h⟩ => by unfold LamX.CodeO at h; cases h) fun ⟨_, h⟩ => by cases h
theorem odd_tup {xs : List V} : ¬ Odd (.tup xs) := fun h => h.elim (fun ⟨c, q, h⟩ => by unfold LamX.CodeO at h; cases h) fun ⟨_, h⟩ => by cases h
theorem odd_ins {C dx : Addr} {fs : List (Str × V)} : ¬ Odd (.ins C dx fs) := fun h => h.elim (fun ⟨c, q, h⟩ => by unfold LamX.CodeO at h; cases h) fun ⟨_, h⟩ => by cases h
theorem odd_own {x : Addr} : ¬ Odd (.own x) := fun h => h.elim (fun ⟨c, q, h⟩ => by unfold LamX.CodeO at h; cases h) fun ⟨_, h⟩ => by cases h
theorem odd_dX {a : Addr} {es : Array DictEntry} {ep : Nat} : ¬ Odd (dX a es ep) := fun h => h.elim (fun ⟨c, q, h⟩ => by
  unfold LamX.CodeO dX at h
  injection h with h
  let o : Obj := { cls := .type "dict", data := .dict es ep }
  let h0 : Heap := { objs := Array.replicate (a + 1) o }
  have g : ∀ b ob, h0.get? b = some ob → ob = o := fun b ob e => by
    unfold Heap.get? at e
    have e2 : h0.objs[b]? = (Array.replicate (a + 1) o)[b]? := rfl
    rw [e2, Array.getElem?_replicate] at e
    by_cases z : b < a + 1
    · rw [if_pos z] at e; cases e; rfl
    · rw [if_neg z] at e; cases e
  have p : h0.DictRaw a es ep := ⟨o, by
    unfold Heap.get?
    have e2 : h0.objs[a]? = (Array.replicate (a + 1) o)[a]? := rfl
    rw [e2, Array.getElem?_replicate, if_pos (Nat.lt_succ_self a)], ⟨rfl, rfl, rfl⟩, rfl⟩
  obtain ⟨oc, vs, t, e1, e2, _⟩ := (congrFun h h0).mp p
  rw [g _ _ e1] at e2
  cases e2) fun ⟨_, h⟩ => by unfold dX at h; cases h
theorem odd_xd {fs : List (Str × V)} : ¬ Odd (.xd fs) := fun h => h.elim (fun ⟨c, q, h⟩ => by unfold LamX.CodeO at h; cases h) fun ⟨_, h⟩ => by cases h
variable [Tb] [Vw]
structure CaOk (S H : Hp) (A : Fp) (a : Addr) (c : PyData) : Prop where
  na : A a = 0
  ns : S a = none
  nv : Vw.vw a = none
  ex : ∃ es ep us vs ks ds, H a = some (dX a es ep) ∧ DctOk Tb.w a es us vs ks ∧ DpAll Tb.ck S us ks ∧ DpAll Tb.ck S vs ds ∧ (∀ p ∈ ks.zip ds, ∃ k, keyOf p.1 = some k ∧ Tb.cf c k = some p.2) ∧ noLsts ks = true ∧ noLsts ds = true
def Cd (a : Addr) : Prop := ∃ c, (a, c) ∈ Tb.ca
structure WF (S H : Hp) (A : Fp) : Prop where
  sub : ∀ a u, S a = some u → H a = some u
  one : ∀ b, A b ≤ 1
  dj : ∀ b, 0 < A b → S b = none
  th : ∀ b, 0 < A b → H b ≠ none
  tb : ∀ p ∈ Tb.t, LamX.TabS H p.1 p.2
  ta : ∀ b, Tl H b → A b = 0 ∧ S b = none
  co : ∀ c u, H c = some u → IsCode u → A c = 0
  vs : ∀ a u, Vw.vw a = some u → H a = some u ∧ A a = 0 ∧ ¬ Tl H a
  ca : ∀ p ∈ Tb.ca, CaOk S H A p.1 p.2
def Wob (a : Addr) (u : HO) : Prop := (∃ ps, u = .tbl ps) ∨ (Cd a ∧ ∃ es ep, u = dX a es ep)
structure Tr (S H : Hp) (A : Fp) (S' H' : Hp) (A' : Fp) : Prop where
  fz : ∀ a u, S a = some u → S' a = some u
  keep : ∀ a u, ¬ Wob a u → A a = 0 → H a = some u → H' a = some u
  new : ∀ a u, S' a = some u → S a = some u ∨ 0 < A a ∨ H a = none ∨ Tl H a
  own : ∀ a, 0 < A' a → 0 < A a ∨ H a = none ∨ Tl H a
  cd : ∀ a, Cd a → (∃ es ep, H a = some (dX a es ep)) → ∃ es ep, H' a = some (dX a es ep)
theorem dX_tbl {a : Addr} {es : Array DictEntry} {ep : Nat} {ps : Array Value} : dX a es ep ≠ .tbl ps := fun h => by unfold dX at h; cases h
theorem Tr.refl {S H : Hp} {A : Fp} : Tr S H A S H A := ⟨fun _ _ h => h, fun _ _ _ _ h => h, fun _ _ h => .inl h, fun _ h => .inl h, fun _ _ h => h⟩
theorem Tr.trans {S H S1 H1 S2 H2 : Hp} {A A1 A2 : Fp} (p : Tr S H A S1 H1 A1) (q : Tr S1 H1 A1 S2 H2 A2) : Tr S H A S2 H2 A2 := by
  have nn : ∀ a, H1 a = none ∨ Tl H1 a → 0 < A a ∨ H a = none ∨ Tl H a := fun a h => by
    by_cases z : A a = 0
    · refine .inr ?_
      cases e : H a with
      | none => exact .inl rfl
      | some u =>
        by_cases ht : ∃ ps, u = .tbl ps
        · obtain ⟨ps, rfl⟩ := ht
          exact .inr ⟨ps, e⟩
        · by_cases hc : Cd a ∧ ∃ es ep, u = dX a es ep
          · obtain ⟨hc, es, ep, rfl⟩ := hc
            obtain ⟨es', ep', k⟩ := p.cd a hc ⟨es, ep, e⟩
            rcases h with h | ⟨ps, h⟩
            · rw [k] at h; cases h
            · rw [k] at h; exact absurd (Option.some.inj h) dX_tbl
          · have k := p.keep a u (fun e => e.elim ht hc) z e
            rcases h with h | ⟨ps, h⟩
            · rw [k] at h; cases h
            · rw [k] at h; cases h; exact absurd ⟨ps, rfl⟩ ht
    · exact .inl (by omega)
  refine ⟨fun a u h => q.fz a u (p.fz a u h), fun a u nt z h => q.keep a u nt ?_ (p.keep a u nt z h), fun a u h => ?_, fun a h => ?_, fun a c h => q.cd a c (p.cd a c h)⟩
  · by_cases y : A1 a = 0
    · exact y
    · rcases p.own a (by omega) with w | w | ⟨ps, w⟩
      · omega
      · rw [h] at w; cases w
      · rw [h] at w; cases w; exact absurd (.inl ⟨ps, rfl⟩) nt
  · rcases q.new a u h with w | w | w
    · exact p.new a u w
    · exact .inr (p.own a w)
    · exact .inr (nn a w)
  · rcases q.own a h with w | w
    · exact p.own a w
    · exact nn a w
theorem Tr.frame {S H S' H' : Hp} {A A' B : Fp} (p : Tr S H A S' H' A') (w : WF S H (A + B)) (w' : WF S' H' A') : WF S' H' (A' + B) ∧ (∀ a, 0 < B a → H' a = H a ∧ S' a = none) := by
  have kb : ∀ a, 0 < B a → A a = 0 := fun a h => by have := w.one a; rw [add_at] at this; omega
  have nt : ∀ a, 0 < B a → ¬ Tl H a := fun a h t => by have := (w.ta a t).1; rw [add_at] at this; omega
  have hb : ∀ a, 0 < B a → H' a = H a ∧ S' a = none := fun a h => by
    have t := w.th a (by rw [add_at]; omega)
    cases e : H a with
    | none => exact absurd e t
    | some u =>
      have nc : ¬ Cd a := fun ⟨c, hc⟩ => by have := (w.ca _ hc).na; rw [add_at] at this; dsimp only at this; omega
      refine ⟨p.keep a u (fun z => z.elim (fun ⟨ps, e2⟩ => nt a h ⟨ps, by rw [e, e2]⟩) fun z => nc z.1) (kb a h) e, ?_⟩
      cases q : S' a with
      | none => rfl
      | some z =>
        rcases p.new a z q with x | x | x | x
        · rw [w.dj a (by rw [add_at]; omega)] at x; cases x
        · have := kb a h; omega
        · rw [e] at x; cases x
        · exact absurd x (nt a h)
  refine ⟨⟨w'.sub, fun a => ?_, fun a h => ?_, fun a h => ?_, w'.tb, fun a t => ⟨?_, (w'.ta a t).2⟩, fun c u hc hu => ?_, fun a u hv => ?_, fun p hp => ?_⟩, hb⟩
  · rw [add_at]
    by_cases z : B a = 0
    · have := w'.one a; omega
    · have h1 := w.one a
      rw [add_at] at h1
      by_cases y : A' a = 0
      · omega
      · have t := w.th a (by rw [add_at]; omega)
        rcases p.own a (by omega) with x | x | x
        · omega
        · exact absurd x t
        · exact absurd x (nt a (by omega))
  · rw [add_at] at h
    by_cases z : B a = 0
    · exact w'.dj a (by omega)
    · exact (hb a (by omega)).2
  · rw [add_at] at h
    by_cases z : B a = 0
    · exact w'.th a (by omega)
    · rw [(hb a (by omega)).1]
      exact w.th a (by rw [add_at]; omega)
  · have h2 := (w'.ta a t).1
    rw [add_at]
    by_cases z : B a = 0
    · omega
    · obtain ⟨ps, e⟩ := t
      rw [(hb a (by omega)).1] at e
      exact absurd ⟨ps, e⟩ (nt a (by omega))
  · have h2 := w'.co c u hc hu
    rw [add_at]
    by_cases z : B c = 0
    · omega
    · have h3 := w.co c u (by rw [← (hb c (by omega)).1]; exact hc) hu
      rw [add_at] at h3
      omega
  · have h2 := w'.vs a u hv
    have h1 := (w.vs a u hv).2.1
    rw [add_at] at h1 ⊢
    exact ⟨h2.1, by have := h2.2.1; omega, h2.2.2⟩
  · have h2 := w'.ca p hp
    have h1 := (w.ca p hp).na
    rw [add_at] at h1
    exact ⟨by have := h2.na; rw [add_at]; omega, h2.ns, h2.nv, h2.ex⟩
theorem Tr.frameTr {S H S' H' : Hp} {A A' B : Fp} (p : Tr S H A S' H' A') : Tr S H (A + B) S' H' (A' + B) :=
  ⟨p.fz, fun a u nt z h => p.keep a u nt (by rw [add_at] at z; omega) h, fun a u h => (p.new a u h).elim .inl fun x => x.elim (fun y => .inr (.inl (by rw [add_at]; omega))) fun y => .inr (.inr y), fun a h => by
    rw [add_at] at h
    by_cases z : B a = 0
    · rcases p.own a (by omega) with x | x
      · exact .inl (by rw [add_at]; omega)
      · exact .inr x
    · exact .inl (by rw [add_at]; omega), p.cd⟩
theorem Tr.less {S H S' H' : Hp} {A A' B : Fp} (p : Tr S H A S' H' A') (h : ∀ a, B a ≤ A' a) : Tr S H A S' H' B := ⟨p.fz, p.keep, p.new, fun a z => p.own a (by have := h a; omega), p.cd⟩
theorem WF.less {S H : Hp} {A B : Fp} (w : WF S H A) (h : ∀ a, B a ≤ A a) : WF S H B :=
  ⟨w.sub, fun b => by have := h b; have := w.one b; omega, fun b z => w.dj b (by have := h b; omega), fun b z => w.th b (by have := h b; omega), w.tb, fun r hr => ⟨by have := h r; have := (w.ta r hr).1; omega, (w.ta r hr).2⟩, fun c u hc hu => by have := h c; have := w.co c u hc hu; omega, fun a u hv => ⟨(w.vs a u hv).1, by have := h a; have := (w.vs a u hv).2.1; omega, (w.vs a u hv).2.2⟩, fun p hp => ⟨by have := h p.1; have := (w.ca p hp).na; omega, (w.ca p hp).ns, (w.ca p hp).nv, (w.ca p hp).ex⟩⟩
end Ls
namespace Ls
open PySem L2
variable [Tb] [Vw]
section
variable {K : PySem.W.Frag} {S S' H H' : Hp}
theorem rd_mono (h : ∀ a u, S a = some u → S' a = some u) {a : Addr} {u : HO} (r : Rd S a u) : Rd S' a u := by
  rcases r with r | ⟨o, r⟩
  · exact .inl (h _ _ r)
  · exact .inr ⟨o, h _ _ r⟩
theorem sqL_mono (h : ∀ a u, S a = some u → S' a = some u) {a : Addr} {xs : List V} (r : SqL K S a xs) : SqL K S' a xs := r.elim (fun z => .inl (rd_mono h z)) .inr
theorem sqT_mono (h : ∀ a u, S a = some u → S' a = some u) {a : Addr} {xs : List V} (r : SqT K S a xs) : SqT K S' a xs := r.elim (fun z => .inl (rd_mono h z)) .inr
mutual
theorem dp_mono (h : ∀ a u, S a = some u → S' a = some u) : ∀ {v : V} {d : PyData}, Dp K S v d → Dp K S' v d
  | _, _, .non => .non
  | _, _, .bl b => .bl b
  | _, _, .int i => .int i
  | _, _, .str x => .str x
  | _, _, .lst q r => .lst (sqL_mono h q) (dpa_mono h r)
  | _, _, .tup q r => .tup (sqT_mono h q) (dpa_mono h r)
  | _, _, .dct e k r t z => .dct (h _ _ e) k (dpa_mono h r) (dpa_mono h t) z
  | _, _, .obj e l r z => .obj (h _ _ e) l (dpa_mono h r) z
  | _, _, .cch e z => .cch e z
theorem dpa_mono (h : ∀ a u, S a = some u → S' a = some u) : ∀ {vs : List V} {ds : List PyData}, DpAll K S vs ds → DpAll K S' vs ds
  | _, _, .nil => .nil
  | _, _, .cons q r => .cons (dp_mono h q) (dpa_mono h r)
end
theorem xr_mono (h : ∀ a u, S a = some u → S' a = some u) {x : Xn} {cls : Value} {d : Option Addr} (q : XR K S x cls d) : XR K S' x cls d :=
  let ⟨q1, a, fs, q2, q3, q4⟩ := q
  ⟨q1, a, fs, q2, h _ _ q3, fun f t hf => let ⟨v, h1, h2⟩ := q4 f t hf; ⟨v, h1, dp_mono h h2⟩⟩
mutual
theorem or_keep (h : ∀ a u, S a = some u → S' a = some u) : ∀ {H H' : Hp} {v : V} {o : O} {A : Fp}, (∀ a, 0 < A a → H' a = H a) → OR K S H v o A → OR K S' H' v o A
  | _, _, _, _, _, _, .fz q z => .fz (dp_mono h q) z
  | _, _, _, _, _, _, .raw z => .raw z
  | _, _, _, _, _, _, .exn q z => .exn (xr_mono h q) z
  | _, _, _, _, A, k, .lst (a := a) (B := B) e r z => .lst ((k a (by rw [z a, one_same]; omega)).trans e) (ors_keep h (fun b hb => k b (by rw [z b]; omega)) r) z
  | _, _, _, _, A, k, .ins (a := a) (dx := dx) (B := B) e e2 l r z => .ins ((k a (by rw [z a, one_same]; omega)).trans e) ((k dx (by rw [z dx, one_same]; omega)).trans e2) l (ors_keep h (fun b hb => k b (by rw [z b]; omega)) r) z
  | _, _, _, _, A, k, .dct (a := a) (B := B) e dk r t z => .dct ((k a (by rw [z a, one_same]; omega)).trans e) dk (dpa_mono h r) (ors_keep h (fun b hb => k b (by rw [z b]; omega)) t) z
  | _, _, _, _, A, k, .vu q z => .vu (or_keep h (fun _ _ => rfl) q) z
theorem ors_keep (h : ∀ a u, S a = some u → S' a = some u) : ∀ {H H' : Hp} {vs : List V} {os : List O} {A : Fp}, (∀ a, 0 < A a → H' a = H a) → ORs K S H vs os A → ORs K S' H' vs os A
  | _, _, _, _, _, _, .nil z => .nil z
  | _, _, _, _, _, k, .cons (B := B) (C := C) q r z => .cons (or_keep h (fun b hb => k b (by rw [z b]; omega)) q) (ors_keep h (fun b hb => k b (by rw [z b]; omega)) r) z
end
theorem er_keep (h : ∀ a u, S a = some u → S' a = some u) {σ : St} {ρ : En} {A : Fp} (e : ER K S H σ ρ A) : (∀ a, 0 < A a → H' a = H a) → ER K S' H' σ ρ A := by
  induction e with
  | nil z => exact fun _ => .nil z
  | non _ ih => exact fun k => .non (ih k)
  | som q _ z ih => exact fun k => .som (or_keep h (fun b hb => k b (by rw [z b]; omega)) q) (ih fun b hb => k b (by rw [z b]; omega)) z
theorem ors_fp {vs : List V} {os : List O} {A A' : Fp} (q : ORs K S H vs os A) (h : ∀ b, A' b = A b) : ORs K S H vs os A' := by
  cases q with
  | nil z => exact .nil fun b => (h b).trans (z b)
  | cons q r z => exact .cons q r fun b => (h b).trans (z b)
theorem er_fp {σ : St} {ρ : En} {A A' : Fp} (e : ER K S H σ ρ A) : (∀ b, A' b = A b) → ER K S H σ ρ A' := by
  induction e generalizing A' with
  | nil z => exact fun h => .nil fun b => (h b).trans (z b)
  | non _ ih => exact fun h => .non (ih h)
  | som q r z => exact fun h => .som q r fun b => (h b).trans (z b)
theorem er_len {σ : St} {ρ : En} {A : Fp} (e : ER K S H σ ρ A) : σ.length = ρ.length := by
  induction e with
  | nil => rfl
  | non _ ih => simp [ih]
  | som _ _ _ ih => simp [ih]
theorem er_get {σ : St} {ρ : En} {A : Fp} (e : ER K S H σ ρ A) : ∀ {i : Nat} {o : O}, ρ[i]? = some (some o) → ∃ v B C, σ[i]? = some (some v) ∧ OR K S H v o B ∧ ER K S H σ (ρ.set i none) C ∧ ∀ b, A b = B b + C b := by
  induction e with
  | nil => intro i o h; simp at h
  | non e ih =>
    intro i o h
    cases i with
    | zero => simp at h
    | succ i =>
      obtain ⟨v, B, C, h1, h2, h3, h4⟩ := ih (i := i) (o := o) (by simpa using h)
      exact ⟨v, B, C, by simpa using h1, h2, .non h3, h4⟩
  | @som v o σ ρ A B C q e z ih =>
    intro i o' h
    cases i with
    | zero =>
      have e' : o = o' := by simpa using h
      subst e'
      exact ⟨v, B, C, rfl, q, .non e, z⟩
    | succ i =>
      obtain ⟨v', B', C', h1, h2, h3, h4⟩ := ih (i := i) (o := o') (by simpa using h)
      exact ⟨v', B', fun b => B b + C' b, by simpa using h1, h2, .som q h3 fun _ => rfl, fun b => by show A b = B' b + (B b + C' b); rw [z b, h4 b]; omega⟩
theorem er_put {σ : St} {ρ : En} {C : Fp} (e : ER K S H σ ρ C) : ∀ {i : Nat} {v : V} {o : O} {B : Fp}, i < σ.length → OR K S H v o B → ρ[i]? = some none → ER K S H (σ.set i (some v)) (ρ.set i (some o)) (fun b => B b + C b) := by
  induction e with
  | nil => intro i v o B hi; simp at hi
  | @non w σ ρ A e ih =>
    intro i v o B hi q h
    cases i with
    | zero => exact .som q e fun _ => rfl
    | succ i => exact .non (ih (i := i) (by simpa using hi) q (by simpa using h))
  | @som v' o' σ ρ A B' C' q' e z ih =>
    intro i v o B hi q h
    cases i with
    | zero => simp at h
    | succ i => exact .som q' (ih (i := i) (by simpa using hi) q (by simpa using h)) fun b => by rw [z b]; omega
theorem er_drop {σ : St} {ρ : En} {A : Fp} (e : ER K S H σ ρ A) : ∀ (i : Nat) (w : Option V), ∃ C, ER K S H (σ.set i w) (ρ.set i none) C ∧ ∀ b, C b ≤ A b := by
  induction e with
  | nil z => intro i w; exact ⟨Fp.z, ER.nil fun _ => rfl, fun b => Nat.zero_le _⟩
  | @non w' σ ρ A e ih =>
    intro i w
    cases i with
    | zero => exact ⟨A, .non e, fun b => Nat.le_refl _⟩
    | succ i =>
      obtain ⟨C, h1, h2⟩ := ih i w
      exact ⟨C, .non h1, h2⟩
  | @som v o σ ρ A B C q e z ih =>
    intro i w
    cases i with
    | zero => exact ⟨C, .non e, fun b => by rw [z b]; omega⟩
    | succ i =>
      obtain ⟨C', h1, h2⟩ := ih i w
      exact ⟨fun b => B b + C' b, .som q h1 fun _ => rfl, fun b => by show B b + C' b ≤ A b; rw [z b]; have := h2 b; omega⟩
theorem er_back {σ : St} {ρ : En} {C : Fp} {i : Nat} {v : V} {o : O} {B : Fp} (e : ER K S H σ ρ C) (hv : σ[i]? = some (some v)) (h : ρ[i]? = some none) (q : OR K S H v o B) : ER K S H σ (ρ.set i (some o)) (fun b => B b + C b) := by
  have hi : i < σ.length := (List.getElem?_eq_some_iff.mp hv).1
  have r := er_put e hi q h
  have e2 : σ.set i (some v) = σ := by
    apply List.ext_getElem?
    intro j
    by_cases hj : i = j
    · subst hj
      rw [List.getElem?_set_self hi, hv]
    · rw [List.getElem?_set_ne hj]
  rw [e2] at r
  exact r
theorem set_none_get {ρ : En} {i : Nat} {x : Option O} (h : ρ[i]? = some x) : (ρ.set i none)[i]? = some none := List.getElem?_set_self (List.getElem?_eq_some_iff.mp h).1
mutual
theorem dp_l2 : ∀ {v : V} {d : PyData}, Dp K H v d → d.canLay0 = true → L2.Dp K H v d
  | _, _, .non, _ => .non
  | _, _, .bl b, _ => .bl b
  | _, _, .int i, _ => .int i
  | _, _, .str x, _ => .str x
  | _, _, .lst q r, h => .lst q (dpa_l2 r (by simpa [PyData.canLay0] using h))
  | _, _, .tup q r, h => .tup q (dpa_l2 r (by simpa [PyData.canLay0] using h))
  | _, _, .dct _ _ _ _ _, h => by simp [PyData.canLay0] at h
  | _, _, .obj _ _ _ _, h => by simp [PyData.canLay0] at h
theorem dpa_l2 : ∀ {vs : List V} {ds : List PyData}, DpAll K H vs ds → PyData.canLayAll0 ds = true → L2.DpAll K H vs ds
  | _, _, .nil, _ => .nil
  | _, _, .cons q r, h => by
    rw [PyData.canLayAll0, Bool.and_eq_true] at h
    exact .cons (dp_l2 q h.1) (dpa_l2 r h.2)
end
theorem dp_sh {v : V} {d : PyData} (q : Dp K H v d) (h : SeqAt.shaped d = true) : L2.Dp K H v d := dp_l2 q (SeqAt.canLay_of_shaped h)
theorem dpall_len : ∀ {vs : List V} {ds : List PyData}, DpAll K S vs ds → vs.length = ds.length
  | _, _, .nil => rfl
  | _, _, .cons _ r => by simp [dpall_len r]
theorem ors_len : ∀ {vs : List V} {os : List O} {A : Fp}, ORs K S H vs os A → vs.length = os.length
  | _, _, _, .nil _ => rfl
  | _, _, _, .cons _ r _ => by simp [ors_len r]
theorem ents_len {w : World} : ∀ {es : List DictEntry} {us vs : List V} {ks : List PyData}, Ents w es us vs ks → us.length = ks.length ∧ vs.length = ks.length ∧ es.length = ks.length
  | _, _, _, _, .nil => ⟨rfl, rfl, rfl⟩
  | _, _, _, _, .cons _ _ _ _ _ r => by have := ents_len r; simp [this]
mutual
theorem or_peekT : ∀ {H T : Hp} {v : V} {o : O} {A : Fp} {d : PyData}, (∀ a u, S a = some u → T a = some u) → (∀ a u, H a = some u → T a = some u) → OR K S H v o A → frz o = some d → Dp K T v d
  | _, _, _, _, _, _, sub, _, .fz q _, h => by
    have e := Option.some.inj (show some _ = some _ from h)
    subst e
    exact dp_mono sub q
  | _, _, _, _, _, _, _, _, .raw _, h => by cases h
  | _, _, _, _, _, _, _, _, .exn _ _, h => by cases h
  | _, _, _, _, _, _, _, _, .vu _ _, h => by cases h
  | _, _, _, _, _, d, sub, hh, .lst (xs := xs) e r _, h => by
    obtain ⟨ds, q, e2⟩ := Option.map_eq_some_iff.mp (show (frzs xs).map PyData.list = some d from h)
    subst e2
    exact .lst (SqL.of (hh _ _ e)) (ors_peekT sub hh r q)
  | _, _, _, _, _, d, sub, hh, .ins (c := c) (fn := fn) (xs := xs) e e2 l r _, h => by
    obtain ⟨ds, q, e2⟩ := Option.map_eq_some_iff.mp (show ((frzs xs).map fun ds => PyData.dict (objKv c fn ds)) = some d from h)
    subst e2
    exact .obj (hh _ _ e) l (ors_peekT sub hh r q) rfl
  | _, _, _, _, _, d, sub, hh, .dct (ks := ks) (xs := xs) e k r t _, h => by
    obtain ⟨ds, q, e2⟩ := Option.map_eq_some_iff.mp (show ((frzs xs).map fun ds => PyData.dict (ks.zip ds)) = some d from h)
    subst e2
    exact .dct (hh _ _ e) k (dpa_mono sub r) (ors_peekT sub hh t q) rfl
theorem ors_peekT : ∀ {H T : Hp} {vs : List V} {os : List O} {A : Fp} {ds : List PyData}, (∀ a u, S a = some u → T a = some u) → (∀ a u, H a = some u → T a = some u) → ORs K S H vs os A → frzs os = some ds → DpAll K T vs ds
  | _, _, _, _, _, _, _, _, .nil _, h => by
    have e := Option.some.inj (show some _ = some _ from h)
    subst e
    exact .nil
  | _, _, _, _, _, ds, sub, hh, .cons (x := x) (xs := xs) q r _, h => by
    have h' : ((frz x).bind fun d => (frzs xs).map fun ds => d :: ds) = some ds := h
    cases e1 : frz x with
    | none => rw [e1] at h'; cases h'
    | some d =>
      rw [e1] at h'
      cases e2 : frzs xs with
      | none => rw [e2] at h'; cases h'
      | some ds' =>
        rw [e2] at h'
        have e3 : d :: ds' = ds := Option.some.inj h'
        subst e3
        exact .cons (or_peekT sub hh q e1) (ors_peekT sub hh r e2)
end
theorem or_peek {v : V} {o : O} {A : Fp} {d : PyData} (sub : ∀ a u, S a = some u → H a = some u) (q : OR K S H v o A) (h : frz o = some d) : Dp K H v d := or_peekT sub (fun _ _ h => h) q h
def rdz : O → Option PyData
  | .vu o => frz o
  | o => frz o
theorem or_rdz {v : V} {o : O} {A T : Fp} {d : PyData} (w : WF S H T) (q : OR K S H v o A) (h : rdz o = some d) : Dp K H v d := by
  cases q with
  | vu q z => exact or_peekT w.sub (fun a u e => (w.vs a u e).1) q h
  | fz q z => exact or_peek w.sub (.fz q z) h
  | raw z => cases h
  | exn q z => cases h
  | lst e r z => exact or_peek w.sub (.lst e r z) h
  | ins e e2 l r z => exact or_peek w.sub (.ins e e2 l r z) h
  | dct e k r t z => exact or_peek w.sub (.dct e k r t z) h
def settle (S H : Hp) (A : Fp) : Hp := fun b => if 0 < A b then H b else S b
theorem settle_in {A : Fp} {b : Addr} (h : 0 < A b) : settle S H A b = H b := if_pos h
theorem settle_out {A : Fp} {b : Addr} (h : ¬ 0 < A b) : settle S H A b = S b := if_neg h
mutual
theorem or_settle : ∀ {H : Hp} {A U : Fp} {v : V} {o : O} {d : PyData}, (∀ b, 0 < U b → S b = none) → (∀ b, A b ≤ U b) → OR K S H v o A → frz o = some d → Dp K (settle S H U) v d
  | _, _, _, _, _, _, dj, _, .fz q _, h => by
    have e := Option.some.inj (show some _ = some _ from h)
    subst e
    refine dp_mono (fun a u x => ?_) q
    rw [settle_out (fun z => by rw [dj a z] at x; cases x)]
    exact x
  | _, _, _, _, _, _, _, _, .raw _, h => by cases h
  | _, _, _, _, _, _, _, _, .exn _ _, h => by cases h
  | _, _, _, _, _, _, _, _, .vu _ _, h => by cases h
  | _, _, _, _, _, d, dj, le, .lst (a := a) (xs := xs) e r z, h => by
    obtain ⟨ds, q, e2⟩ := Option.map_eq_some_iff.mp (show (frzs xs).map PyData.list = some d from h)
    subst e2
    refine .lst (SqL.of ?_) (ors_settle dj (fun b => by have := le b; rw [z b] at this; omega) r q)
    rw [settle_in (by have := le a; rw [z a, one_same] at this; omega)]
    exact e
  | H, _, U, _, _, d, dj, le, .ins (a := a) (c := c) (fn := fn) (xs := xs) e e2 l r z, h => by
    obtain ⟨ds, q, e2⟩ := Option.map_eq_some_iff.mp (show ((frzs xs).map fun ds => PyData.dict (objKv c fn ds)) = some d from h)
    subst e2
    have f : settle S H U a = some _ := (settle_in (S := S) (H := H) (A := U) (by have := le a; rw [z a, one_same] at this; omega)).trans e
    exact .obj f l (ors_settle dj (fun b => by have := le b; rw [z b] at this; omega) r q) rfl
  | H, _, U, _, _, d, dj, le, .dct (a := a) (ks := ks) (xs := xs) e k r t z, h => by
    obtain ⟨ds, q, e2⟩ := Option.map_eq_some_iff.mp (show ((frzs xs).map fun ds => PyData.dict (ks.zip ds)) = some d from h)
    subst e2
    have f : settle S H U a = some _ := (settle_in (S := S) (H := H) (A := U) (by have := le a; rw [z a, one_same] at this; omega)).trans e
    exact .dct f k (dpa_mono (fun a u x => (settle_out (fun z => by rw [dj a z] at x; cases x)).trans x) r) (ors_settle dj (fun b => by have := le b; rw [z b] at this; omega) t q) rfl
theorem ors_settle : ∀ {H : Hp} {A U : Fp} {vs : List V} {os : List O} {ds : List PyData}, (∀ b, 0 < U b → S b = none) → (∀ b, A b ≤ U b) → ORs K S H vs os A → frzs os = some ds → DpAll K (settle S H U) vs ds
  | _, _, _, _, _, _, _, _, .nil _, h => by
    have e := Option.some.inj (show some _ = some _ from h)
    subst e
    exact .nil
  | _, _, _, _, _, ds, dj, le, .cons (x := x) (xs := xs) q r z, h => by
    have h' : ((frz x).bind fun d => (frzs xs).map fun ds => d :: ds) = some ds := h
    cases e1 : frz x with
    | none => rw [e1] at h'; cases h'
    | some d =>
      rw [e1] at h'
      cases e2 : frzs xs with
      | none => rw [e2] at h'; cases h'
      | some ds' =>
        rw [e2] at h'
        have e3 : d :: ds' = ds := Option.some.inj h'
        subst e3
        exact .cons (or_settle dj (fun b => by have := le b; rw [z b] at this; omega) q e1) (ors_settle dj (fun b => by have := le b; rw [z b] at this; omega) r e2)
end
theorem settle_wf {A B : Fp} (w : WF S H (A + B)) : WF (settle S H B) H A ∧ Tr S H (A + B) (settle S H B) H A ∧ (∀ a u, S a = some u → settle S H B a = some u) := by
  have sub : ∀ a u, S a = some u → settle S H B a = some u := fun a u h => by
    rw [settle_out (fun z => by rw [w.dj a (by rw [add_at]; omega)] at h; cases h)]
    exact h
  refine ⟨⟨fun a u h => ?_, fun b => by have := w.one b; rw [add_at] at this; omega, fun b h => ?_, fun b h => w.th b (by rw [add_at]; omega), w.tb, fun r hr => ⟨by have := (w.ta r hr).1; rw [add_at] at this; omega, by rw [settle_out (by have := (w.ta r hr).1; rw [add_at] at this; omega)]; exact (w.ta r hr).2⟩, fun c u hc hu => by have := w.co c u hc hu; rw [add_at] at this; omega, fun a u hv => ⟨(w.vs a u hv).1, by have := (w.vs a u hv).2.1; rw [add_at] at this; omega, (w.vs a u hv).2.2⟩, fun p hp => ⟨by have := (w.ca p hp).na; rw [add_at] at this; omega, by rw [settle_out (by have := (w.ca p hp).na; rw [add_at] at this; omega)]; exact (w.ca p hp).ns, (w.ca p hp).nv, let ⟨es, ep, us, vs, ks, ds, h1, h2, h3, h4, h5⟩ := (w.ca p hp).ex; ⟨es, ep, us, vs, ks, ds, h1, h2, dpa_mono sub h3, dpa_mono sub h4, h5⟩⟩⟩, ⟨sub, fun _ _ _ _ h => h, fun a u h => ?_, fun a h => .inl (by rw [add_at]; omega), fun _ _ h => h⟩, sub⟩
  · by_cases z : 0 < B a
    · rw [settle_in z] at h; exact h
    · rw [settle_out z] at h; exact w.sub a u h
  · have h1 := w.one b
    rw [add_at] at h1
    rw [settle_out (by omega)]
    exact w.dj b (by rw [add_at]; omega)
  · by_cases z : 0 < B a
    · exact .inr (.inl (by rw [add_at]; omega))
    · rw [settle_out z] at h; exact .inl h
end
end Ls
namespace Ls
open PySem L2
variable [Tb] [Vw]
abbrev RR (β α : Type) := St → Hp → Hp → β → α → Fp → Prop
def PostV {β α : Type} (K : PySem.W.Frag) (R : RR β α) (σ : St) (S H : Hp) (A : Fp) (a : α) (ρ' : En) (Q : β → Hp → Prop) : Prop :=
  ∀ v S' H' A' B, WF S' H' (A' + B) → ER K S' H' σ ρ' A' → R σ S' H' v a B → Tr S H A S' H' (A' + B) → Q v H'
def PostX (K : PySem.W.Frag) (W : WX) (σ : St) (S H : Hp) (A : Fp) (x : Xn) (ρ' : En) : Prop :=
  ∀ cls d S' H' A', WF S' H' A' → ER K S' H' σ ρ' A' → XR K S' x cls d → Tr S H A S' H' A' → W cls d σ H'
def OutOk {β α : Type} (K : PySem.W.Frag) (W : WX) (R : RR β α) (t : St → Hp → (β → Hp → Prop) → Prop) (σ : St) (S H : Hp) (A : Fp) : Out α → Prop
  | .ok a ρ' => ∀ Q, PostV K R σ S H A a ρ' Q → t σ H Q
  | .exc x ρ' => ∀ Q, PostX K W σ S H A x ρ' → t σ H Q
  | .bad => True
def Snd {β α : Type} (K : PySem.W.Frag) (W : WX) (R : RR β α) (t : St → Hp → (β → Hp → Prop) → Prop) (f : En → Out α) : Prop :=
  ∀ σ ρ S H A, WF S H A → ER K S H σ ρ A → OutOk K W R t σ S H A (f ρ)
def Stays {β α : Type} (R : RR β α) : Prop := ∀ σ S H S' H' v a B, (∀ b u, S b = some u → S' b = some u) → (∀ b, 0 < B b → H' b = H b) → R σ S H v a B → R σ S' H' v a B
def Out.bind {α γ : Type} (o : Out α) (k : α → En → Out γ) : Out γ := match o with
  | .ok a ρ => k a ρ
  | .exc x ρ => .exc x ρ
  | .bad => .bad
theorem snd_bind {β α β' α' : Type} {K : PySem.W.Frag} {W : WX} {R : RR β α} {R' : RR β' α'} {t : St → Hp → (β → Hp → Prop) → Prop} {u : β → St → Hp → (β' → Hp → Prop) → Prop} {f : En → Out α} {k : α → En → Out α'} (h : Snd K W R t f)
    (hk : ∀ v a σ ρ S H A B, WF S H (A + B) → ER K S H σ ρ A → R σ S H v a B → OutOk K W R' (u v) σ S H (A + B) (k a ρ)) :
    Snd K W R' (fun σ H Q => t σ H fun v H1 => u v σ H1 Q) fun ρ => (f ρ).bind k := by
  intro σ ρ S H A w e
  have h1 := h σ ρ S H A w e
  show OutOk K W R' _ σ S H A ((f ρ).bind k)
  cases hf : f ρ with
  | bad => exact True.intro
  | exc x ρ' =>
    rw [hf] at h1
    exact fun Q q => h1 _ q
  | ok a ρ1 =>
    rw [hf] at h1
    show OutOk _ _ _ _ _ _ _ _ (k a ρ1)
    cases hk2 : k a ρ1 with
    | bad => exact True.intro
    | exc x ρ' =>
      intro Q q
      refine h1 _ fun v S1 H1 A1 B1 w1 e1 r1 t1 => ?_
      have h2 := hk v a σ ρ1 S1 H1 A1 B1 w1 e1 r1
      rw [hk2] at h2
      exact h2 Q fun cls d S2 H2 A2 w2 e2 x2 t2 => q cls d S2 H2 A2 w2 e2 x2 (t1.trans t2)
    | ok a' ρ' =>
      intro Q q
      refine h1 _ fun v S1 H1 A1 B1 w1 e1 r1 t1 => ?_
      have h2 := hk v a σ ρ1 S1 H1 A1 B1 w1 e1 r1
      rw [hk2] at h2
      exact h2 Q fun v' S2 H2 A2 B2 w2 e2 r2 t2 => q v' S2 H2 A2 B2 w2 e2 r2 (t1.trans t2)
theorem snd_beside {β α : Type} {K : PySem.W.Frag} {W : WX} {R : RR β α} {t : St → Hp → (β → Hp → Prop) → Prop} {f : En → Out α} (h : Snd K W R t f) {σ : St} {ρ : En} {S H : Hp} {A B : Fp} (w : WF S H (A + B)) (e : ER K S H σ ρ A) :
    match f ρ with
    | .ok a ρ' => ∀ Q, (∀ v S' H' A' C, WF S' H' (A' + C + B) → ER K S' H' σ ρ' A' → R σ S' H' v a C → Tr S H (A + B) S' H' (A' + C + B) → (∀ b u, S b = some u → S' b = some u) → (∀ b, 0 < B b → H' b = H b) → Q v H') → t σ H Q
    | .exc x ρ' => ∀ Q, PostX K W σ S H (A + B) x ρ' → t σ H Q
    | .bad => True := by
  have h1 := h σ ρ S H A (w.less fun a => by rw [add_at]; omega) e
  cases hf : f ρ with
  | bad => exact True.intro
  | exc x ρ' =>
    rw [hf] at h1
    intro Q q
    refine h1 Q fun cls d S' H' A' w' e' x' t' => ?_
    have fr := t'.frame w w'
    refine q cls d S' H' A' w' e' x' ((t'.frameTr (B := B)).less fun a => by rw [add_at]; omega)
  | ok a ρ' =>
    rw [hf] at h1
    intro Q q
    refine h1 Q fun v S' H' A' C w' e' r' t' => ?_
    have fr := t'.frame w w'
    exact q v S' H' A' C fr.1 e' r' t'.frameTr t'.fz fun b hb => (fr.2 b hb).1
inductive Pk where
  | v (i : Nat) | o (o : O)
def pkO (ρ : En) : Pk → Option O
  | .v i => (ρ[i]?).bind id
  | .o o => some o
def pkD (ρ : En) (p : Pk) : Option PyData := (pkO ρ p).bind rdz
inductive RPk (K : PySem.W.Frag) : RR V Pk
  | v {σ : St} {S H : Hp} {v : V} {i : Nat} {B : Fp} : σ[i]? = some (some v) → (∀ b, B b = 0) → RPk K σ S H v (.v i) B
  | o {σ : St} {S H : Hp} {v : V} {o : O} {B : Fp} : OR K S H v o B → RPk K σ S H v (.o o) B
def ROr (K : PySem.W.Frag) : RR V O := fun _ S H v o B => OR K S H v o B
def REq (α : Type) : RR α α := fun _ _ _ v a B => v = a ∧ ∀ b, B b = 0
theorem stays_pk {K : PySem.W.Frag} : Stays (RPk K) := fun σ S H S' H' v a B h k r => by
  cases r with
  | v h1 z => exact .v h1 z
  | o q => exact .o (or_keep h k q)
theorem stays_or {K : PySem.W.Frag} : Stays (ROr K) := fun σ S H S' H' v a B h k r => or_keep h k r
theorem pk_peek {K : PySem.W.Frag} {σ : St} {ρ : En} {S H : Hp} {A B T : Fp} {v : V} {p : Pk} {d : PyData} (w : WF S H T) (e : ER K S H σ ρ A) (r : RPk K σ S H v p B) (h : pkD ρ p = some d) : Dp K H v d := by
  cases r with
  | o q => exact or_rdz w q h
  | @v _ _ _ _ i _ h1 z =>
    have h : ((ρ[i]?).bind id).bind rdz = some d := h
    cases hi : ρ[i]? with
    | none => rw [hi] at h; cases h
    | some x =>
      cases x with
      | none => rw [hi] at h; cases h
      | some o =>
        rw [hi] at h
        obtain ⟨v', B', C', e1, q, _, _⟩ := er_get e hi
        rw [h1] at e1
        cases e1
        exact or_rdz w q h
abbrev FE := En → Out O
abbrev FP := En → Out Pk
abbrev FT := En → Out Bool
abbrev FA := En → Out (List O)
abbrev SndE (K : PySem.W.Frag) (W : WX) (t : TE) (f : FE) : Prop := Snd K W (ROr K) t f
abbrev SndP (K : PySem.W.Frag) (W : WX) (t : TE) (f : FP) : Prop := Snd K W (RPk K) t f
abbrev SndT (K : PySem.W.Frag) (W : WX) (t : TT) (f : FT) : Prop := Snd K W (REq Bool) t f
section
variable {K : PySem.W.Frag} {W : WX}
def Sc (v : V) (d : PyData) : Prop := ∀ (K : PySem.W.Frag) (S : Hp), Dp K S v d
theorem Sc.int (i : Int) : Sc (.int i) (.int i) := fun _ _ => .int i
theorem Sc.bl (b : Bool) : Sc (.bl b) (.bool b) := fun _ _ => .bl b
theorem Sc.str (x : Str) : Sc (.str x) (.str x) := fun _ _ => .str x
theorem Sc.non : Sc .non .none := fun _ _ => .non
def pVar (i : Nat) : FP := fun ρ => match ρ[i]? with
  | some (some _) => .ok (.v i) ρ
  | _ => .bad
def pE (f : FE) : FP := fun ρ => (f ρ).bind fun o ρ' => .ok (.o o) ρ'
theorem sndP_var {i : Nat} : SndP K W (tVar i) (pVar i) := by
  intro σ ρ S H A w e
  unfold pVar
  cases hi : ρ[i]? with
  | none => exact True.intro
  | some x =>
    cases x with
    | none => exact True.intro
    | some o =>
      obtain ⟨v, B, C, e1, q, _, _⟩ := er_get e hi
      intro Q k
      have z : A + Fp.z = A := funext fun b => rfl
      exact ⟨v, e1, k v S H A Fp.z (by rw [z]; exact w) e (.v e1 fun _ => rfl) (by rw [z]; exact Tr.refl)⟩
theorem sndP_e {t : TE} {f : FE} (h : SndE K W t f) : SndP K W t (pE f) := by
  intro σ ρ S H A w e
  have h1 := h σ ρ S H A w e
  show OutOk K W (RPk K) _ σ S H A ((f ρ).bind _)
  cases hf : f ρ with
  | bad => exact True.intro
  | exc x ρ' => rw [hf] at h1; exact h1
  | ok a ρ' =>
    rw [hf] at h1
    exact fun Q k => h1 Q fun v S' H' A' B w' e' r' t' => k v S' H' A' B w' e' (.o r') t'
def eVar (i : Nat) : FE := fun ρ => match ρ[i]? with
  | some (some (.fz d)) => .ok (.fz d) ρ
  | some (some (.raw v)) => .ok (.raw v) ρ
  | some (some (.vu o)) => .ok (.vu o) ρ
  | some (some o) => (match frz o with
    | some d => .ok (.fz d) (ρ.set i (some (.fz d)))
    | none => .bad)
  | _ => .bad
def isNil : O → Bool
  | .fz _ | .raw _ | .vu _ | .exn _ _ _ _ => true
  | _ => false
theorem or_zero {S H : Hp} {v : V} {o : O} {A : Fp} (q : OR K S H v o A) (h : isNil o = true) : ∀ b, A b = 0 := by
  cases q with
  | fz _ z => exact z
  | raw z => exact z
  | vu _ z => exact z
  | exn _ z => exact z
  | _ => cases h
theorem addz (A : Fp) : A + Fp.z = A := funext fun b => rfl
theorem sndE_var {i : Nat} : SndE K W (tVar i) (eVar i) := by
  intro σ ρ S H A w e
  unfold eVar
  cases hi : ρ[i]? with
  | none => exact True.intro
  | some x =>
    cases x with
    | none => exact True.intro
    | some o =>
      obtain ⟨v, B, C, e1, q, e2, z⟩ := er_get e hi
      have still : (∀ b, B b = 0) → ∀ Q, PostV K (ROr K) σ S H A o ρ Q → tVar i σ H Q := fun z2 Q k => by
        have : A + B = A := funext fun b => by rw [add_at, z2 b]; rfl
        exact ⟨v, e1, k v S H A B (by rw [this]; exact w) e q (by rw [this]; exact Tr.refl)⟩
      have own : OutOk K W (ROr K) (tVar i) σ S H A (match frz o with
          | some d => Out.ok (.fz d) (ρ.set i (some (.fz d)))
          | none => .bad) := by
        cases hz : frz o with
        | none => exact True.intro
        | some d =>
          intro Q k
          have eA : A = C + B := funext fun b => by rw [z b, add_at]; omega
          rw [eA] at w
          obtain ⟨w2, t2, sub⟩ := settle_wf w
          have q2 : Dp K (settle S H B) v d := or_settle (fun b hb => w.dj b (by rw [add_at]; omega)) (fun b => Nat.le_refl _) q hz
          have e3 := er_back (er_keep sub e2 fun _ _ => rfl) e1 (set_none_get hi) (.fz q2 (A := Fp.z) fun _ => rfl)
          rw [List.set_set] at e3
          have ez : (fun b => Fp.z b + C b) = C := funext fun b => by rw [z_at]; omega
          rw [ez] at e3
          exact ⟨v, e1, k v _ H C Fp.z (by rw [addz]; exact w2) e3 (.fz q2 fun _ => rfl) (by rw [addz, eA]; exact t2)⟩
      cases o with
      | fz d => exact still (or_zero q rfl)
      | raw u => exact still (or_zero q rfl)
      | vu u => exact still (or_zero q rfl)
      | exn a c d y => exact True.intro
      | lst xs => exact own
      | ins c fn xs => exact own
      | dct ks xs => exact own
def eC (d : PyData) : FE := fun ρ => .ok (.fz d) ρ
theorem sndE_c {v : V} {d : PyData} (h : ∀ S, Dp K S v d) : SndE K W (tC v) (eC d) := by
  intro σ ρ S H A w e Q k
  exact k v S H A Fp.z (by rw [addz]; exact w) e (.fz (h S) fun _ => rfl) (by rw [addz]; exact Tr.refl)
def OpS (K : PySem.W.Frag) (r : R2) (g : PyData → PyData → Option PyData) : Prop :=
  ∀ x y H a b c, Dp K H x a → Dp K H y b → g a b = some c → ∀ Q : VK, (∀ v, Sc v c → Q v H) → r x y H Q
def eOp (g : PyData → PyData → Option PyData) (fa fb : FP) : FE := fun ρ => (fa ρ).bind fun a ρ1 => (fb ρ1).bind fun b ρ2 =>
  match (pkD ρ2 a).bind fun x => (pkD ρ2 b).bind fun y => g x y with
  | some c => .ok (.fz c) ρ2
  | none => .bad
theorem sndE_op {r : R2} {g : PyData → PyData → Option PyData} {ta tb : TE} {fa fb : FP} (ho : OpS K r g) (ha : SndP K W ta fa) (hb : SndP K W tb fb) : SndE K W (tOp r ta tb) (eOp g fa fb) := by
  refine snd_bind (u := fun x σ H Q => tb σ H fun y H2 => r x y H2 Q) ha fun x a σ ρ S H A B w e ra => ?_
  have h2 := snd_beside hb w e
  show OutOk K W (ROr K) _ σ S H (A + B) ((fb ρ).bind _)
  cases hf : fb ρ with
  | bad => exact True.intro
  | exc x' ρ' =>
    rw [hf] at h2
    exact fun Q k => h2 _ k
  | ok b ρ2 =>
    rw [hf] at h2
    show OutOk K W (ROr K) _ σ S H (A + B) (match (pkD ρ2 a).bind fun x => (pkD ρ2 b).bind fun y => g x y with
      | some c => Out.ok (O.fz c) ρ2
      | none => .bad)
    cases hc : (pkD ρ2 a).bind fun x => (pkD ρ2 b).bind fun y => g x y with
    | none => exact True.intro
    | some c =>
      intro Q k
      refine h2 _ fun y S' H' A' C w' e' rb t' sub kp => ?_
      obtain ⟨da, e1, hc⟩ := Option.bind_eq_some_iff.mp hc
      obtain ⟨db, e2, hc⟩ := Option.bind_eq_some_iff.mp hc
      have ra' := stays_pk σ S H S' H' x a B sub kp ra
      refine ho x y H' da db c (pk_peek w' e' ra' e1) (pk_peek w' e' rb e2) hc _ fun v hv => ?_
      have le : ∀ b, A' b ≤ (A' + C + B) b := fun b => by rw [add_at, add_at]; omega
      exact k v S' H' A' Fp.z (by rw [addz]; exact w'.less le) e' (.fz (hv K S') fun _ => rfl) (by rw [addz]; exact t'.less le)
end
end Ls
namespace Ls
open PySem L2
variable [Tb] [Vw]
structure EV (X : Cx) (W : WX) (e : Expr) (f : FE) : Prop where
  ex : ∃ t, PE X e t ∧ SndE X.K W t f
structure PV (X : Cx) (W : WX) (e : Expr) (f : FP) : Prop where
  ex : ∃ t, PE X e t ∧ SndP X.K W t f
structure TV (X : Cx) (W : WX) (e : Expr) (f : FT) : Prop where
  ex : ∃ t, PT X e t ∧ SndT X.K W t f
structure WV (X : Cx) (W : WX) (e : Expr) (f : FT) : Prop where
  ex : ∃ t, PW X e t ∧ SndT X.K W t f
def dAdd : PyData → PyData → Option PyData
  | .int i, .int j => some (.int (i + j))
  | _, _ => none
def dSub : PyData → PyData → Option PyData
  | .int i, .int j => some (.int (i - j))
  | _, _ => none
def CMulG (i j : Int) : Prop := i.natAbs.log2 + j.natAbs.log2 < 100000000
theorem CMulG.ok {i j : Int} (h : CMulG i j) : IntMulOk i j := by
  have b : ∀ x : Int, Builtin.Int.intBits x ≤ x.natAbs.log2 + 1 := fun x => by
    unfold Builtin.Int.intBits; split <;> omega
  have h1 := b i
  have h2 := b j
  have h3 : i.natAbs.log2 + j.natAbs.log2 < 100000000 := h
  have e : bitsLine = 134217728 := by decide
  unfold IntMulOk
  intro z
  have z2 := (Bool.and_eq_true _ _ ▸ z).2
  unfold Builtin.Int.intTooBig at z2
  have z3 := of_decide_eq_true z2
  rw [e] at z3; omega
theorem op_mulG {X : Cx} : OpR X (binaryOp .Mult) (rI CMulG fun i j => .int (i * j)) := opI fun _ _ _ _ _ _ _ hc q => PyProof.Rows.mul_int q hc.ok
def dMul : PyData → PyData → Option PyData
  | .int i, .int j => if i.natAbs.log2 + j.natAbs.log2 < 100000000 then some (.int (i * j)) else none
  | _, _ => none
def dDiv : PyData → PyData → Option PyData
  | .int i, .int j => if j ≠ 0 ∧ j.natAbs.log2 < 9000 then some (.int (i.fdiv j)) else none
  | _, _ => none
def dMod : PyData → PyData → Option PyData
  | .int i, .int j => if j ≠ 0 then some (.int (i.fmod j)) else none
  | _, _ => none
def dPow : PyData → PyData → Option PyData
  | .int i, .int j => if 0 ≤ j ∧ j ≤ 1000000 ∧ i.natAbs < 2 ^ 64 then some (.int (i ^ j.toNat)) else none
  | _, _ => none
def dLt : PyData → PyData → Option PyData
  | .int i, .int j => some (.bool (decide (i < j)))
  | _, _ => none
def dLe : PyData → PyData → Option PyData
  | .int i, .int j => some (.bool (decide (i ≤ j)))
  | _, _ => none
def dGt : PyData → PyData → Option PyData
  | .int i, .int j => some (.bool (decide (j < i)))
  | _, _ => none
def dGe : PyData → PyData → Option PyData
  | .int i, .int j => some (.bool (decide (j ≤ i)))
  | _, _ => none
def dEq (a b : PyData) : Option PyData := if SeqAt.shaped a && SeqAt.shaped b then some (.bool (PyData.eqv a b)) else none
def dNe (a b : PyData) : Option PyData := if SeqAt.shaped a && SeqAt.shaped b then some (.bool (!PyData.eqv a b)) else none
def isN : PyData → Bool
  | .none => true
  | _ => false
def dIs (a b : PyData) : Option PyData := if isN b then some (.bool (isN a)) else none
def dIsNot (a b : PyData) : Option PyData := if isN b then some (.bool (!isN a)) else none
def flat : PyData → Bool
  | .none | .bool _ | .int _ | .str _ => true
  | _ => false
def items : PyData → Option (List PyData)
  | .list xs | .tuple xs => some xs
  | _ => none
def dNotIn (a b : PyData) : Option PyData := (items b).bind fun xs => if flat a && xs.all flat then some (.bool (!xs.any fun y => PyData.eqv y a)) else none
section
variable {K : PySem.W.Frag}
theorem dp_int {S : Hp} {v : V} {i : Int} (h : Dp K S v (.int i)) : v = .int i := by cases h; rfl
theorem dp_bl {S : Hp} {v : V} {b : Bool} (h : Dp K S v (.bool b)) : v = .bl b := by cases h; rfl
theorem dp_non {S : Hp} {v : V} (h : Dp K S v .none) : v = .non := by cases h; rfl
theorem opS_I0 {g : Int → Int → V} {g' : PyData → PyData → Option PyData} (h : ∀ i j c, g' (.int i) (.int j) = some c → Sc (g i j) c) (hn : ∀ a b c, g' a b = some c → ∃ i j, a = .int i ∧ b = .int j) : OpS K (rI0 g) g' := by
  intro x y H a b c ha hb hc Q k
  obtain ⟨i, j, rfl, rfl⟩ := hn a b c hc
  exact ⟨i, j, dp_int ha, dp_int hb, k _ (h i j c hc)⟩
theorem opS_I {C : Int → Int → Prop} {g : Int → Int → V} {g' : PyData → PyData → Option PyData} (h : ∀ i j c, g' (.int i) (.int j) = some c → C i j ∧ Sc (g i j) c) (hn : ∀ a b c, g' a b = some c → ∃ i j, a = .int i ∧ b = .int j) : OpS K (rI C g) g' := by
  intro x y H a b c ha hb hc Q k
  obtain ⟨i, j, rfl, rfl⟩ := hn a b c hc
  exact ⟨i, j, dp_int ha, dp_int hb, (h i j c hc).1, k _ (h i j c hc).2⟩
theorem opS_add : OpS K (rI0 fun i j => .int (i + j)) dAdd := opS_I0 (fun i j c h => by cases h; exact Sc.int _) fun a b c h => by cases a <;> cases b <;> first | exact ⟨_, _, rfl, rfl⟩ | cases h
theorem opS_sub : OpS K (rI0 fun i j => .int (i - j)) dSub := opS_I0 (fun i j c h => by cases h; exact Sc.int _) fun a b c h => by cases a <;> cases b <;> first | exact ⟨_, _, rfl, rfl⟩ | cases h
theorem opS_mul : OpS K (rI CMulG fun i j => .int (i * j)) dMul := opS_I (fun i j c h => by
  by_cases z : i.natAbs.log2 + j.natAbs.log2 < 100000000
  · have h : (if i.natAbs.log2 + j.natAbs.log2 < 100000000 then some (PyData.int (i * j)) else none) = some c := h
    rw [if_pos z] at h; cases h; exact ⟨z, Sc.int _⟩
  · have h : (if i.natAbs.log2 + j.natAbs.log2 < 100000000 then some (PyData.int (i * j)) else none) = some c := h
    rw [if_neg z] at h; cases h) fun a b c h => by cases a <;> cases b <;> first | exact ⟨_, _, rfl, rfl⟩ | cases h
def CDivX (_ j : Int) : Prop := j ≠ 0 ∧ j.natAbs.log2 < 9000
theorem op_divX {X : Cx} : OpR X (binaryOp .FloorDiv) (rI CDivX fun i j => .int (i.fdiv j)) := opI fun i j _ _ _ _ _ hc q => PyProof.Rows.floordiv_int hc.1 q (.inl (PyProof.noPylong_of_log2 hc.2))
theorem opS_div : OpS K (rI CDivX fun i j => .int (i.fdiv j)) dDiv := opS_I (fun i j c h => by
  by_cases z : j ≠ 0 ∧ j.natAbs.log2 < 9000
  · have h : (if j ≠ 0 ∧ j.natAbs.log2 < 9000 then some (PyData.int (i.fdiv j)) else none) = some c := h
    rw [if_pos z] at h; cases h; exact ⟨z, Sc.int _⟩
  · have h : (if j ≠ 0 ∧ j.natAbs.log2 < 9000 then some (PyData.int (i.fdiv j)) else none) = some c := h
    rw [if_neg z] at h; cases h) fun a b c h => by cases a <;> cases b <;> first | exact ⟨_, _, rfl, rfl⟩ | cases h
theorem opS_mod : OpS K (rI (fun _ j => j ≠ 0) fun i j => .int (i.fmod j)) dMod := opS_I (fun i j c h => by
  by_cases z : j ≠ 0
  · have h : (if j ≠ 0 then some (PyData.int (i.fmod j)) else none) = some c := h
    rw [if_pos z] at h; cases h; exact ⟨z, Sc.int _⟩
  · have h : (if j ≠ 0 then some (PyData.int (i.fmod j)) else none) = some c := h
    rw [if_neg z] at h; cases h) fun a b c h => by cases a <;> cases b <;> first | exact ⟨_, _, rfl, rfl⟩ | cases h
theorem opS_pow : OpS K (rI CPow fun i j => .int (i ^ j.toNat)) dPow := opS_I (fun i j c h => by
  by_cases z : 0 ≤ j ∧ j ≤ 1000000 ∧ i.natAbs < 2 ^ 64
  · have h : (if 0 ≤ j ∧ j ≤ 1000000 ∧ i.natAbs < 2 ^ 64 then some (PyData.int (i ^ j.toNat)) else none) = some c := h
    rw [if_pos z] at h; cases h; exact ⟨z, Sc.int _⟩
  · have h : (if 0 ≤ j ∧ j ≤ 1000000 ∧ i.natAbs < 2 ^ 64 then some (PyData.int (i ^ j.toNat)) else none) = some c := h
    rw [if_neg z] at h; cases h) fun a b c h => by cases a <;> cases b <;> first | exact ⟨_, _, rfl, rfl⟩ | cases h
theorem opS_lt : OpS K (rI0 fun i j => .bl (decide (i < j))) dLt := opS_I0 (fun i j c h => by cases h; exact Sc.bl _) fun a b c h => by cases a <;> cases b <;> first | exact ⟨_, _, rfl, rfl⟩ | cases h
theorem opS_le : OpS K (rI0 fun i j => .bl (decide (i ≤ j))) dLe := opS_I0 (fun i j c h => by cases h; exact Sc.bl _) fun a b c h => by cases a <;> cases b <;> first | exact ⟨_, _, rfl, rfl⟩ | cases h
theorem opS_gt : OpS K (rI0 fun i j => .bl (decide (j < i))) dGt := opS_I0 (fun i j c h => by cases h; exact Sc.bl _) fun a b c h => by cases a <;> cases b <;> first | exact ⟨_, _, rfl, rfl⟩ | cases h
theorem opS_ge : OpS K (rI0 fun i j => .bl (decide (j ≤ i))) dGe := opS_I0 (fun i j c h => by cases h; exact Sc.bl _) fun a b c h => by cases a <;> cases b <;> first | exact ⟨_, _, rfl, rfl⟩ | cases h
theorem opS_eq : OpS K (rEqD K) dEq := by
  intro x y H a b c ha hb hc Q k
  unfold dEq at hc
  by_cases z : (SeqAt.shaped a && SeqAt.shaped b) = true
  · rw [if_pos z] at hc; cases hc
    obtain ⟨z1, z2⟩ := Bool.and_eq_true_iff.mp z
    exact ⟨a, b, dp_sh ha z1, dp_sh hb z2, z1, z2, k _ (Sc.bl _)⟩
  · rw [if_neg z] at hc; cases hc
theorem opS_ne : OpS K (rNeD K) dNe := by
  intro x y H a b c ha hb hc Q k
  unfold dNe at hc
  by_cases z : (SeqAt.shaped a && SeqAt.shaped b) = true
  · rw [if_pos z] at hc; cases hc
    obtain ⟨z1, z2⟩ := Bool.and_eq_true_iff.mp z
    exact ⟨a, b, dp_sh ha z1, dp_sh hb z2, z1, z2, k _ (Sc.bl _)⟩
  · rw [if_neg z] at hc; cases hc
theorem isN_dp {S : Hp} {v : V} {d : PyData} (h : Dp K S v d) : decide (v = .non) = isN d := by
  cases h <;> first | rfl | exact decide_eq_false (fun z => nomatch z)
abbrev rIsNo : R2 := fun x y H Q => y = .non ∧ Q (.bl (decide (x = .non))) H
abbrev rIsNotNo : R2 := fun x y H Q => y = .non ∧ Q (.bl (!decide (x = .non))) H
theorem isN_eq {b : PyData} (h : isN b = true) : b = .none := by cases b <;> first | rfl | cases h
theorem opS_is : OpS K rIsNo dIs := by
  intro x y H a b c ha hb hc Q k
  unfold dIs at hc
  by_cases z : isN b = true
  · rw [if_pos z] at hc; cases hc
    have e := isN_eq z
    subst e
    exact ⟨dp_non hb, by rw [isN_dp ha]; exact k _ (Sc.bl _)⟩
  · rw [if_neg z] at hc; cases hc
theorem opS_isNot : OpS K rIsNotNo dIsNot := by
  intro x y H a b c ha hb hc Q k
  unfold dIsNot at hc
  by_cases z : isN b = true
  · rw [if_pos z] at hc; cases hc
    have e := isN_eq z
    subst e
    exact ⟨dp_non hb, by rw [isN_dp ha]; exact k _ (Sc.bl _)⟩
  · rw [if_neg z] at hc; cases hc
theorem flat_dp {S : Hp} {v : V} {d : PyData} (h : Dp K S v d) (f : flat d = true) : flatV v = true ∧ ∀ {v' : V} {d' : PyData} {S' : Hp}, Dp K S' v' d' → flat d' = true → eqV v v' = PyData.eqv d d' := by
  cases h with
  | non => exact ⟨rfl, fun h' f' => by cases h' <;> first | rfl | cases f'⟩
  | bl b => exact ⟨rfl, fun h' f' => by cases h' <;> first | (cases b <;> rfl) | cases f'⟩
  | int i => exact ⟨rfl, fun h' f' => by
      cases h' with
      | bl b => cases b <;> rfl
      | lst _ _ => cases f'
      | tup _ _ => cases f'
      | dct _ _ _ _ _ => cases f'
      | obj _ _ _ _ => cases f'
      | cch _ _ => cases f'
      | _ => rfl⟩
  | str x => exact ⟨rfl, fun h' f' => by cases h' <;> first | rfl | cases f'⟩
  | lst _ _ => cases f
  | tup _ _ => cases f
  | dct _ _ _ _ _ => cases f
  | obj _ _ _ _ => cases f
  | cch _ _ => cases f
theorem flat_all {S S' : Hp} {x : V} {a : PyData} (hx : Dp K S' x a) (fa : flat a = true) : ∀ {vs : List V} {ds : List PyData}, DpAll K S vs ds → ds.all flat = true → vs.all flatV = true ∧ vs.any (fun y => eqV y x) = ds.any fun y => PyData.eqv y a
  | _, _, .nil, _ => ⟨rfl, rfl⟩
  | _, _, .cons (v := v) (d := d) q r, h => by
    rw [List.all_cons, Bool.and_eq_true] at h
    obtain ⟨h1, h2⟩ := flat_all hx fa r h.2
    obtain ⟨f1, f2⟩ := flat_dp q h.1
    rw [List.all_cons, List.any_cons, List.any_cons, f1, h1, h2, f2 hx fa]
    exact ⟨rfl, rfl⟩
theorem dp_items {S : Hp} {v : V} {d : PyData} {ds : List PyData} (h : Dp K S v d) (e : items d = some ds) : ∃ a vs, v = .ref a ∧ (SqL K S a vs ∨ SqT K S a vs) ∧ DpAll K S vs ds := by
  cases h with
  | lst q r => cases e; exact ⟨_, _, rfl, .inl q, r⟩
  | tup q r => cases e; exact ⟨_, _, rfl, .inr q, r⟩
  | _ => cases e
theorem opS_notIn : OpS K (rIn K true) dNotIn := by
  intro x y H a b c ha hb hc Q k
  obtain ⟨ds, e, hc⟩ := Option.bind_eq_some_iff.mp hc
  obtain ⟨p, vs, ev, sq, da⟩ := dp_items hb e
  by_cases z : (flat a && ds.all flat) = true
  · rw [if_pos z] at hc; cases hc
    obtain ⟨z1, z2⟩ := Bool.and_eq_true_iff.mp z
    obtain ⟨f1, f2⟩ := flat_all ha z1 da z2
    refine ⟨p, vs, ev, sq, (flat_dp ha z1).1, f1, ?_⟩
    show Q (.bl (!inV x vs)) H
    unfold inV
    rw [f2]
    exact k _ (Sc.bl _)
  · rw [if_neg z] at hc; cases hc
end
section
variable {X : Cx} {W : WX} {a b : Expr} {fa fb : FP} {pos : Pos}
theorem pv_var (i : Nat) {x : Str} {pos : Pos} (hN : X.N[i]? = some x := by rfl) (hv : Vis X.env.scope x := by first | exact Or.inl rfl | exact Or.inr (Or.inl rfl) | exact Or.inr (Or.inr rfl)) (hd : (x == ("__debug__" : Str)) = false := by decide)
    (hcd : (x == ("__classdict__" : Str)) = false := by decide) : PV X W (.Name x pos) (pVar i) := ⟨_, pe_var hN hv hd hcd, sndP_var⟩
theorem pv_e {e : Expr} {f : FE} (h : EV X W e f) : PV X W e (pE f) := let ⟨t, h1, h2⟩ := h.ex; ⟨t, h1, sndP_e h2⟩
theorem ev_var (i : Nat) {x : Str} {pos : Pos} (hN : X.N[i]? = some x := by rfl) (hv : Vis X.env.scope x := by first | exact Or.inl rfl | exact Or.inr (Or.inl rfl) | exact Or.inr (Or.inr rfl)) (hd : (x == ("__debug__" : Str)) = false := by decide)
    (hcd : (x == ("__classdict__" : Str)) = false := by decide) : EV X W (.Name x pos) (eVar i) := ⟨_, pe_var hN hv hd hcd, sndE_var⟩
theorem ev_int {i : Int} {j pos} : EV X W (.Constant (.int i) j pos) (eC (.int i)) := ⟨_, pe_int, sndE_c fun _ => .int i⟩
theorem ev_bl {b : Bool} {j pos} : EV X W (.Constant (.bool b) j pos) (eC (.bool b)) := ⟨_, pe_bl, sndE_c fun _ => .bl b⟩
theorem ev_non {j pos} : EV X W (.Constant .none j pos) (eC .none) := ⟨_, pe_non, sndE_c fun _ => .non⟩
theorem ev_str {x : Str} {j pos} : EV X W (.Constant (.str x) j pos) (eC (.str x)) := ⟨_, pe_str, sndE_c fun _ => .str x⟩
theorem ev_glob {x : Str} {v : V} {u : Value} {d : PyData} {pos : Pos} (hg : Gl X x) (hm : X.mg x = some u) (r : RelV v u) (h : ∀ S, Dp X.K S v d) (hd : (x == ("__debug__" : Str)) = false := by decide) : EV X W (.Name x pos) (eC d) := ⟨_, pe_glob hg hm r hd, sndE_c h⟩
theorem ev_bin {op : Operator} {r : R2} {g : PyData → PyData → Option PyData} (ho : OpR X (binaryOp op) r) (hs : OpS X.K r g) (ha : PV X W a fa) (hb : PV X W b fb) : EV X W (.BinOp a op b pos) (eOp g fa fb) :=
  let ⟨ta, a1, a2⟩ := ha.ex; let ⟨tb, b1, b2⟩ := hb.ex; ⟨_, pe_op ho a1 b1, sndE_op hs a2 b2⟩
theorem ev_add (ha : PV X W a fa) (hb : PV X W b fb) : EV X W (.BinOp a .Add b pos) (eOp dAdd fa fb) := ev_bin op_add opS_add ha hb
theorem ev_sub (ha : PV X W a fa) (hb : PV X W b fb) : EV X W (.BinOp a .Sub b pos) (eOp dSub fa fb) := ev_bin op_sub opS_sub ha hb
theorem ev_mul (ha : PV X W a fa) (hb : PV X W b fb) : EV X W (.BinOp a .Mult b pos) (eOp dMul fa fb) := ev_bin op_mulG opS_mul ha hb
theorem ev_div (ha : PV X W a fa) (hb : PV X W b fb) : EV X W (.BinOp a .FloorDiv b pos) (eOp dDiv fa fb) := ev_bin op_divX opS_div ha hb
theorem ev_mod (ha : PV X W a fa) (hb : PV X W b fb) : EV X W (.BinOp a .Mod b pos) (eOp dMod fa fb) := ev_bin op_modN opS_mod ha hb
theorem ev_pow (ha : PV X W a fa) (hb : PV X W b fb) : EV X W (.BinOp a .Pow b pos) (eOp dPow fa fb) := ev_bin op_pow opS_pow ha hb
theorem ev_cmp {op : CmpOp} {r : R2} {g : PyData → PyData → Option PyData} (ho : OpR X (compareOp op) r) (hs : OpS X.K r g) (ha : PV X W a fa) (hb : PV X W b fb) (hm : behindInMarks op b = false) : EV X W (.Compare a [op] [b] pos) (eOp g fa fb) :=
  let ⟨ta, a1, a2⟩ := ha.ex; let ⟨tb, b1, b2⟩ := hb.ex; ⟨_, pe_cmpR ho a1 b1 hm, sndE_op hs a2 b2⟩
def tOf (f : FE) : FT := fun ρ => (f ρ).bind fun o ρ' => match o with
  | .fz (.bool b) => .ok b ρ'
  | _ => .bad
theorem sndT_of {t : TE} {f : FE} {K : PySem.W.Frag} (h : SndE K W t f) : SndT K W (tTest t) (tOf f) := by
  refine snd_bind (u := fun x _ H Q => ∃ k, x = .bl k ∧ Q k H) h fun x o σ ρ S H A B w e r => ?_
  cases o with
  | fz d =>
    cases d with
    | bool b =>
      intro Q k
      cases r with
      | fz q z =>
        refine ⟨b, dp_bl q, k b S H A B w e ⟨rfl, z⟩ Tr.refl⟩
    | _ => exact True.intro
  | _ => exact True.intro
theorem tv_cmp {op : CmpOp} {r : R2} {g : PyData → PyData → Option PyData} (ho : OpR X (compareOp op) r) (hs : OpS X.K r g) (ha : PV X W a fa) (hb : PV X W b fb) (hm : behindInMarks op b = false) : TV X W (.Compare a [op] [b] pos) (tOf (eOp g fa fb)) :=
  let ⟨ta, a1, a2⟩ := ha.ex; let ⟨tb, b1, b2⟩ := hb.ex; ⟨_, pt_cmpR ho a1 b1 hm, sndT_of (sndE_op hs a2 b2)⟩
theorem tv_val {e : Expr} {f : FE} (h : EV X W e f) (he : ∀ whole, isTrue e X.env whole = (do let v ← whole; standAt e.pos; holding [v] (truthy v)) := by intro _; rfl) : TV X W e (tOf f) :=
  let ⟨t, h1, h2⟩ := h.ex; ⟨_, pt_val h1 he, sndT_of h2⟩
def dTru : PyData → Option Bool
  | .none => some false
  | .bool b => some b
  | .int i => some (i != 0)
  | .str x => if x.length ≤ sizeLine then some ((x.length : Int) != 0) else none
  | .list xs => some !xs.isEmpty
  | .tuple xs => some !xs.isEmpty
  | .dict _ => none
def tTru (f : FP) : FT := fun ρ => (f ρ).bind fun p ρ' => match (pkD ρ' p).bind dTru with
  | some b => .ok b ρ'
  | none => .bad
theorem dpall_empty {K : PySem.W.Frag} {S : Hp} {vs : List V} {ds : List PyData} (h : DpAll K S vs ds) : vs.isEmpty = ds.isEmpty := by cases h <;> rfl
theorem tru_dp {K : PySem.W.Frag} {H : Hp} {v : V} {d : PyData} {b : Bool} (h : Dp K H v d) (e : dTru d = some b) : TruV K v H b := by
  cases h with
  | non => cases e; exact rfl
  | bl b => cases e; exact rfl
  | int i => cases e; exact rfl
  | str x =>
    have e : (if x.length ≤ sizeLine then some ((x.length : Int) != 0) else none) = some b := e
    by_cases z : x.length ≤ sizeLine
    · rw [if_pos z] at e; cases e; exact ⟨z, rfl⟩
    · rw [if_neg z] at e; cases e
  | lst q r => cases e; exact .inl ⟨_, q, by rw [dpall_empty r]⟩
  | tup q r => cases e; exact .inr (.inl ⟨_, q, by rw [dpall_empty r]⟩)
  | dct _ _ _ _ _ => cases e
  | obj _ _ _ _ => cases e
  | cch _ _ => cases e
theorem sndT_tru {t : TE} {f : FP} {K : PySem.W.Frag} (h : SndP K W t f) : SndT K W (fun σ H Q => t σ H fun x H' => ∃ k, TruV K x H' k ∧ Q k H') (tTru f) := by
  refine snd_bind (u := fun x _ H Q => ∃ k, TruV K x H k ∧ Q k H) h fun x p σ ρ S H A B w e r => ?_
  show OutOk K W (REq Bool) _ σ S H (A + B) (match (pkD ρ p).bind dTru with
    | some b => Out.ok b ρ
    | none => .bad)
  cases hb : (pkD ρ p).bind dTru with
  | none => exact True.intro
  | some b =>
    obtain ⟨d, e1, e2⟩ := Option.bind_eq_some_iff.mp hb
    intro Q k
    refine ⟨b, tru_dp (pk_peek w e r e1) e2, k b S H A Fp.z ?_ e ⟨rfl, fun _ => rfl⟩ ?_⟩
    · rw [addz]; exact w.less fun b => by rw [add_at]; omega
    · rw [addz]; exact Tr.refl.less fun b => by rw [add_at]; omega
def tNotF (f : FT) : FT := fun ρ => (f ρ).bind fun b ρ' => .ok (!b) ρ'
def tAndF (f g : FT) : FT := fun ρ => (f ρ).bind fun b ρ' => if b then g ρ' else .ok false ρ'
def tOrF (f g : FT) : FT := fun ρ => (f ρ).bind fun b ρ' => if b then .ok true ρ' else g ρ'
theorem okEnd {K : PySem.W.Frag} {σ : St} {ρ : En} {S H : Hp} {A B : Fp} {b : Bool} {Q : Bool → Hp → Prop} (w : WF S H (A + B)) (e : ER K S H σ ρ A) (k : PostV K (REq Bool) σ S H (A + B) b ρ Q) : Q b H :=
  k b S H A Fp.z (by rw [addz]; exact w.less fun b => by rw [add_at]; omega) e ⟨rfl, fun _ => rfl⟩ (by rw [addz]; exact Tr.refl.less fun b => by rw [add_at]; omega)
theorem snd_behind {β α : Type} {K : PySem.W.Frag} {R : RR β α} {t : St → Hp → (β → Hp → Prop) → Prop} {f : En → Out α} (h : Snd K W R t f) {σ : St} {ρ : En} {S H : Hp} {A B : Fp} (w : WF S H (A + B)) (e : ER K S H σ ρ A) : OutOk K W R t σ S H (A + B) (f ρ) := by
  have le : ∀ b, A b ≤ (A + B) b := fun b => by rw [add_at]; omega
  have h1 := h σ ρ S H A (w.less le) e
  have tr : Tr S H (A + B) S H A := Tr.refl.less le
  cases hf : f ρ with
  | bad => exact True.intro
  | exc x ρ' =>
    rw [hf] at h1
    exact fun Q q => h1 Q fun cls d S' H' A' w' e' x' t' => q cls d S' H' A' w' e' x' (tr.trans t')
  | ok a ρ' =>
    rw [hf] at h1
    exact fun Q q => h1 Q fun v S' H' A' C w' e' r' t' => q v S' H' A' C w' e' r' (tr.trans t')
theorem sndT_not {K : PySem.W.Frag} {t : TT} {f : FT} (h : SndT K W t f) : SndT K W (tNot t) (tNotF f) := by
  refine snd_bind (u := fun x _ H Q => Q (!x) H) h fun x b σ ρ S H A B w e r => ?_
  obtain ⟨rfl, _⟩ := r
  exact fun Q k => okEnd w e k
theorem sndT_and {K : PySem.W.Frag} {t u : TT} {f g : FT} (h : SndT K W t f) (h2 : SndT K W u g) : SndT K W (tAnd t u) (tAndF f g) := by
  refine snd_bind (u := fun c σ H Q => if c = true then u σ H Q else Q false H) h fun x b σ ρ S H A B w e r => ?_
  obtain ⟨rfl, _⟩ := r
  cases x with
  | true => exact snd_behind h2 w e
  | false => exact fun Q k => okEnd w e k
theorem sndT_or {K : PySem.W.Frag} {t u : TT} {f g : FT} (h : SndT K W t f) (h2 : SndT K W u g) : SndT K W (tOr t u) (tOrF f g) := by
  refine snd_bind (u := fun c σ H Q => if c = true then Q true H else u σ H Q) h fun x b σ ρ S H A B w e r => ?_
  obtain ⟨rfl, _⟩ := r
  cases x with
  | true => exact fun Q k => okEnd w e k
  | false => exact snd_behind h2 w e
variable {f g : FT} {rest : List Expr}
theorem tv_not (h : TV X W a f) : TV X W (.UnaryOp .Not a pos) (tNotF f) := let ⟨t, h1, h2⟩ := h.ex; ⟨_, pt_not h1, sndT_not h2⟩
theorem wv_and1 (h : TV X W a f) : WV X W (.BoolOp .And [a] pos) f := let ⟨t, h1, h2⟩ := h.ex; ⟨_, pw_and1 h1, h2⟩
theorem wv_or1 (h : TV X W a f) : WV X W (.BoolOp .Or [a] pos) f := let ⟨t, h1, h2⟩ := h.ex; ⟨_, pw_or1 h1, h2⟩
theorem wv_and (h : TV X W a f) (r : WV X W (.BoolOp .And (b :: rest) pos) g) : WV X W (.BoolOp .And (a :: b :: rest) pos) (tAndF f g) :=
  let ⟨t, h1, h2⟩ := h.ex; let ⟨u, r1, r2⟩ := r.ex; ⟨_, pw_and h1 r1, sndT_and h2 r2⟩
theorem wv_or (h : TV X W a f) (r : WV X W (.BoolOp .Or (b :: rest) pos) g) : WV X W (.BoolOp .Or (a :: b :: rest) pos) (tOrF f g) :=
  let ⟨t, h1, h2⟩ := h.ex; let ⟨u, r1, r2⟩ := r.ex; ⟨_, pw_or h1 r1, sndT_or h2 r2⟩
theorem tv_w {e : Expr} (h : WV X W e f) : TV X W e f := let ⟨t, h1, h2⟩ := h.ex; ⟨_, h1.pt, h2⟩
end
end Ls
namespace Ls
open PySem L2
variable [Tb] [Vw]
section
variable {X : Cx} {W : WX} {K : PySem.W.Frag} {a b : Expr} {pos : Pos} {rest : List Expr}
def eAnd (f g : FE) : FE := fun ρ => (tOf f ρ).bind fun b ρ' => if b then g ρ' else .ok (.fz (.bool false)) ρ'
def eNot (f : FP) : FE := fun ρ => (tTru f ρ).bind fun b ρ' => .ok (.fz (.bool !b)) ρ'
def eIf (c : FT) (f g : FE) : FE := fun ρ => (c ρ).bind fun b ρ' => if b then f ρ' else g ρ'
theorem fzEnd {σ : St} {ρ : En} {S H : Hp} {A B : Fp} {v : V} {d : PyData} {Q : VK} (w : WF S H (A + B)) (e : ER K S H σ ρ A) (hv : Dp K S v d) (k : PostV K (ROr K) σ S H (A + B) (.fz d) ρ Q) : Q v H :=
  k v S H A Fp.z (by rw [addz]; exact w.less fun b => by rw [add_at]; omega) e (.fz hv fun _ => rfl) (by rw [addz]; exact Tr.refl.less fun b => by rw [add_at]; omega)
theorem sndE_and {ta tb : TE} {f g : FE} (h : SndE K W ta f) (h2 : SndE K W tb g) : SndE K W (tAndV ta tb) (eAnd f g) := by
  have h1 : SndE K W (fun σ H Q => tTest ta σ H fun c H1 => if c = true then tb σ H1 Q else Q (.bl false) H1) (eAnd f g) := by
    refine snd_bind (u := fun c σ H Q => if c = true then tb σ H Q else Q (.bl false) H) (sndT_of h) fun x b σ ρ S H A B w e r => ?_
    obtain ⟨rfl, _⟩ := r
    cases x with
    | true => exact snd_behind h2 w e
    | false => exact fun Q k => fzEnd w e (.bl false) k
  exact h1
theorem sndE_not {ta : TE} {f : FP} (h : SndP K W ta f) : SndE K W (tNotT K ta) (eNot f) := by
  have h1 : SndE K W (fun σ H Q => (fun σ H Q => ta σ H fun x H' => ∃ k, TruV K x H' k ∧ Q k H') σ H fun k H1 => Q (.bl (!k)) H1) (eNot f) := by
    refine snd_bind (u := fun (c : Bool) (σ : St) (H : Hp) (Q : VK) => Q (V.bl (!c)) H) (sndT_tru h) fun x b σ ρ S H A B w e r => ?_
    obtain ⟨rfl, _⟩ := r
    exact fun Q k => fzEnd w e (.bl _) k
  exact h1
theorem sndE_if {c : TT} {ta tb : TE} {fc : FT} {f g : FE} (hc : SndT K W c fc) (h1 : SndE K W ta f) (h2 : SndE K W tb g) : SndE K W (tIf c ta tb) (eIf fc f g) := by
  refine snd_bind (u := fun c σ H Q => if c = true then ta σ H Q else tb σ H Q) hc fun x b σ ρ S H A B w e r => ?_
  obtain ⟨rfl, _⟩ := r
  cases x with
  | true => exact snd_behind h1 w e
  | false => exact snd_behind h2 w e
variable {f g : FE}
theorem ev_one {op} (h : EV X W a f) : EV X W (.BoolOp op [a] pos) f := let ⟨_, h1, h2⟩ := h.ex; ⟨_, pe_one h1, h2⟩
theorem ev_and (h : EV X W a f) (r : EV X W (.BoolOp .And (b :: rest) pos) g) : EV X W (.BoolOp .And (a :: b :: rest) pos) (eAnd f g) :=
  let ⟨_, h1, h2⟩ := h.ex; let ⟨_, r1, r2⟩ := r.ex; ⟨_, pe_and h1 r1, sndE_and h2 r2⟩
theorem ev_not {f : FP} (h : PV X W a f) : EV X W (.UnaryOp .Not a pos) (eNot f) := let ⟨_, h1, h2⟩ := h.ex; ⟨_, pe_notT h1, sndE_not h2⟩
theorem ev_if {c : Expr} {fc : FT} (hc : TV X W c fc) (h : EV X W a f) (r : EV X W b g) : EV X W (.IfExp c a b pos) (eIf fc f g) :=
  let ⟨_, c1, c2⟩ := hc.ex; let ⟨_, h1, h2⟩ := h.ex; let ⟨_, r1, r2⟩ := r.ex; ⟨_, pe_ifExp c1 h1 r1, sndE_if c2 h2 r2⟩
def eNeg (f : FP) : FE := fun ρ => (f ρ).bind fun p ρ' => match pkD ρ' p with
  | some (.int i) => .ok (.fz (.int (-i))) ρ'
  | _ => .bad
theorem sndE_neg {ta : TE} {f : FP} (h : SndP K W ta f) : SndE K W (tUn (rU fun i => .int (-i)) ta) (eNeg f) := by
  refine snd_bind (u := fun x σ H Q => rU (fun i => .int (-i)) x H Q) h fun x p σ ρ S H A B w e r => ?_
  show OutOk K W (ROr K) _ σ S H (A + B) (match pkD ρ p with
    | some (.int i) => Out.ok (.fz (.int (-i))) ρ
    | _ => .bad)
  cases hp : pkD ρ p with
  | none => exact True.intro
  | some d =>
    cases d with
    | int i => exact fun Q k => ⟨i, dp_int (pk_peek w e r hp), fzEnd w e (.int _) k⟩
    | _ => exact True.intro
theorem ev_neg {f : FP} (h : PV X W a f) : EV X W (.UnaryOp .USub a pos) (eNeg f) := let ⟨_, h1, h2⟩ := h.ex; ⟨_, pe_un un_neg h1, sndE_neg h2⟩
def eChain (g g' : PyData → PyData → Option PyData) (fa fb fc : FP) : FE := fun ρ => (fa ρ).bind fun a ρ1 => (fb ρ1).bind fun b ρ2 =>
  match (pkD ρ2 a).bind fun x => (pkD ρ2 b).bind fun y => g x y with
  | some (.bool true) => (fc ρ2).bind fun c ρ3 => (match (pkD ρ3 b).bind fun y => (pkD ρ3 c).bind fun z => g' y z with
    | some d => .ok (.fz d) ρ3
    | none => .bad)
  | some (.bool false) => .ok (.fz (.bool false)) ρ2
  | _ => .bad
theorem sndE_chain {r r' : R2} {g g' : PyData → PyData → Option PyData} {ta tb tc : TE} {fa fb fc : FP} (ho : OpS K r g) (ho' : OpS K r' g') (ha : SndP K W ta fa) (hb : SndP K W tb fb) (hc : SndP K W tc fc) : SndE K W (tChain r r' ta tb tc) (eChain g g' fa fb fc) := by
  refine snd_bind (u := fun x σ H Q => tb σ H fun y H2 => r x y H2 fun z H3 => ∃ k, z = .bl k ∧ if k = true then tc σ H3 fun z H4 => r' y z H4 Q else Q (.bl false) H3) ha fun x a σ ρ S H A B w e ra => ?_
  have h2 := snd_beside hb w e
  show OutOk K W (ROr K) _ σ S H (A + B) ((fb ρ).bind _)
  cases hf : fb ρ with
  | bad => exact True.intro
  | exc x' ρ' =>
    rw [hf] at h2
    exact fun Q k => h2 _ k
  | ok b ρ2 =>
    rw [hf] at h2
    show OutOk K W (ROr K) _ σ S H (A + B) (match (pkD ρ2 a).bind fun x => (pkD ρ2 b).bind fun y => g x y with
      | some (.bool true) => (fc ρ2).bind fun c ρ3 => (match (pkD ρ3 b).bind fun y => (pkD ρ3 c).bind fun z => g' y z with
        | some d => Out.ok (.fz d) ρ3
        | none => .bad)
      | some (.bool false) => .ok (.fz (.bool false)) ρ2
      | _ => .bad)
    cases hg : (pkD ρ2 a).bind fun x => (pkD ρ2 b).bind fun y => g x y with
    | none => exact True.intro
    | some d =>
      cases d with
      | bool k0 =>
        obtain ⟨da, e1, hg1⟩ := Option.bind_eq_some_iff.mp hg
        obtain ⟨db, e2, hg2⟩ := Option.bind_eq_some_iff.mp hg1
        cases k0 with
        | false =>
          intro Q k
          refine h2 _ fun y S' H' A' C w' e' rb t' sub kp => ?_
          have ra' := stays_pk σ S H S' H' x a B sub kp ra
          refine ho x y H' da db _ (pk_peek w' e' ra' e1) (pk_peek w' e' rb e2) hg2 _ fun v hv => ⟨false, dp_bl (hv K S'), ?_⟩
          have le : ∀ b, A' b ≤ (A' + C + B) b := fun b => by simp only [add_at]; omega
          exact k _ S' H' A' Fp.z (by rw [addz]; exact w'.less le) e' (.fz (.bl false) fun _ => rfl) (by rw [addz]; exact t'.less le)
        | true =>
          show OutOk K W (ROr K) _ σ S H (A + B) ((fc ρ2).bind _)
          have key : ∀ y S' H' A' C, WF S' H' (A' + C + B) → ER K S' H' σ ρ2 A' → RPk K σ S' H' y b C → Tr S H (A + B) S' H' (A' + C + B) → (∀ b u, S b = some u → S' b = some u) → (∀ b, 0 < B b → H' b = H b) → ∀ Q : VK, (∀ H3, H3 = H' → (if true = true then tc σ H3 fun z H4 => r' y z H4 Q else Q (.bl false) H3)) →
              r x y H' fun z H3 => ∃ k, z = .bl k ∧ if k = true then tc σ H3 fun z H4 => r' y z H4 Q else Q (.bl false) H3 := fun y S' H' A' C w' e' rb t' sub kp Q q => by
            have ra' := stays_pk σ S H S' H' x a B sub kp ra
            exact ho x y H' da db _ (pk_peek w' e' ra' e1) (pk_peek w' e' rb e2) hg2 _ fun v hv => ⟨true, dp_bl (hv K S'), q H' rfl⟩
          cases hf3 : fc ρ2 with
          | bad => exact True.intro
          | exc x3 ρ3 =>
            intro Q k
            refine h2 _ fun y S' H' A' C w' e' rb t' sub kp => key y S' H' A' C w' e' rb t' sub kp Q fun H3 eh => ?_
            subst eh
            have w2 : WF S' H3 (A' + C) := w'.less fun b => by simp only [add_at]; omega
            have h3 := snd_beside hc w2 e'
            rw [hf3] at h3
            refine h3 _ fun cls d S4 H4 A4 w4 e4 x4 t4 => k cls d S4 H4 A4 w4 e4 x4 ((t'.less fun b => by simp only [add_at]; omega).trans t4)
          | ok c ρ3 =>
            show OutOk K W (ROr K) _ σ S H (A + B) (match (pkD ρ3 b).bind fun y => (pkD ρ3 c).bind fun z => g' y z with
              | some d => Out.ok (.fz d) ρ3
              | none => .bad)
            cases hg3 : (pkD ρ3 b).bind fun y => (pkD ρ3 c).bind fun z => g' y z with
            | none => exact True.intro
            | some d =>
              obtain ⟨db3, e3, hg4⟩ := Option.bind_eq_some_iff.mp hg3
              obtain ⟨dc, e4', hg5⟩ := Option.bind_eq_some_iff.mp hg4
              intro Q k
              refine h2 _ fun y S' H' A' C w' e' rb t' sub kp => key y S' H' A' C w' e' rb t' sub kp Q fun H3 eh => ?_
              subst eh
              have w2 : WF S' H3 (A' + C) := w'.less fun b => by simp only [add_at]; omega
              have h3 := snd_beside hc w2 e'
              rw [hf3] at h3
              refine h3 _ fun z S4 H4 A4 C4 w4 e4 rc t4 sub4 kp4 => ?_
              have rb' := stays_pk σ S' H3 S4 H4 y b C sub4 kp4 rb
              refine ho' y z H4 db3 dc d (pk_peek w4 e4 rb' e3) (pk_peek w4 e4 rc e4') hg5 _ fun v hv => ?_
              have le : ∀ b, A4 b ≤ (A4 + C4 + C) b := fun b => by simp only [add_at]; omega
              exact k v S4 H4 A4 Fp.z (by rw [addz]; exact w4.less le) e4 (.fz (hv K S4) fun _ => rfl) (by rw [addz]; exact ((t'.less fun b => by simp only [add_at]; omega).trans t4).less le)
      | _ => exact True.intro
theorem ev_chain {op op' : CmpOp} {r r' : R2} {g g' : PyData → PyData → Option PyData} {c : Expr} {fa fb fc : FP} (ho : OpR X (compareOp op) r) (ho' : OpR X (compareOp op') r') (hs : OpS X.K r g) (hs' : OpS X.K r' g') (ha : PV X W a fa) (hb : PV X W b fb) (hc : PV X W c fc)
    (hm : lastMarks [op, op'] [b, c] = false := by with_unfolding_all rfl) : EV X W (.Compare a [op, op'] [b, c] pos) (eChain g g' fa fb fc) :=
  let ⟨_, a1, a2⟩ := ha.ex; let ⟨_, b1, b2⟩ := hb.ex; let ⟨_, c1, c2⟩ := hc.ex; ⟨_, pe_chain ho ho' a1 b1 c1 hm, sndE_chain hs hs' a2 b2 c2⟩
theorem tv_chain {op op' : CmpOp} {r r' : R2} {g g' : PyData → PyData → Option PyData} {c : Expr} {fa fb fc : FP} (ho : OpR X (compareOp op) r) (ho' : OpR X (compareOp op') r') (hs : OpS X.K r g) (hs' : OpS X.K r' g') (ha : PV X W a fa) (hb : PV X W b fb) (hc : PV X W c fc)
    (hm : lastMarks [op, op'] [b, c] = false := by with_unfolding_all rfl) : TV X W (.Compare a [op, op'] [b, c] pos) (tOf (eChain g g' fa fb fc)) :=
  let ⟨_, a1, a2⟩ := ha.ex; let ⟨_, b1, b2⟩ := hb.ex; let ⟨_, c1, c2⟩ := hc.ex; ⟨_, pt_chain ho ho' a1 b1 c1 hm, sndT_of (sndE_chain hs hs' a2 b2 c2)⟩
end
end Ls
namespace Ls
open PySem L2
variable [Tb] [Vw]
theorem le1 {A B : Fp} : ∀ b, A b ≤ (A + B) b := fun b => by simp only [add_at]; omega
theorem le3 {A B C : Fp} : ∀ b, A b ≤ (A + C + B) b := fun b => by simp only [add_at]; omega
theorem le4 {A B : Fp} : ∀ b, B b ≤ (A + B) b := fun b => by simp only [add_at]; omega
theorem add_comm' (A B : Fp) : A + B = B + A := funext fun b => by simp only [add_at]; omega
theorem add_assoc' (A B C : Fp) : A + B + C = A + (B + C) := funext fun b => by simp only [add_at]; omega
section
variable {K : PySem.W.Frag} {S H : Hp} {A B : Fp} {p : Addr} {u : HO}
theorem WF.free (w : WF S H A) (h : H p = none) : S p = none ∧ A p = 0 := by
  refine ⟨?_, ?_⟩
  · cases e : S p with
    | none => rfl
    | some o => rw [w.sub p o e] at h; cases h
  · by_cases z : 0 < A p
    · exact absurd h (w.th p z)
    · omega
theorem sub_upd {T : Hp} (h : T p = none) : ∀ a o, T a = some o → upd T p u a = some o := fun a o e => by rw [upd_ne (ne_of_none e h)]; exact e
theorem newV {A' : Fp} (w : WF S H A) (h : H p = none) (hA : ∀ a, a ≠ p → A' a = A a) : ∀ a o, Vw.vw a = some o → upd H p u a = some o ∧ A' a = 0 ∧ ¬ Tl (upd H p u) a := fun a o hv => by
  obtain ⟨h1, h2, h3⟩ := w.vs a o hv
  have ne : a ≠ p := fun e => by rw [e, h] at h1; cases h1
  exact ⟨by rw [upd_ne ne]; exact h1, by rw [hA a ne]; exact h2, fun ⟨ps, t⟩ => h3 ⟨ps, by rw [upd_ne ne] at t; exact t⟩⟩
theorem CaOk.fresh {S' : Hp} {A' : Fp} {a : Addr} {c : PyData} (w : CaOk S H A a c) (h : H p = none) (sub : ∀ a u, S a = some u → S' a = some u) (hA : a ≠ p → A' a = A a) (hs : S' a = S a := by rfl) : CaOk S' (upd H p u) A' a c := by
  obtain ⟨es, ep, us, vs, ks, ds, h1, h2, h3, h4, h5⟩ := w.ex
  have ne : a ≠ p := fun e => by rw [e, h] at h1; cases h1
  exact ⟨by rw [hA ne]; exact w.na, by rw [hs]; exact w.ns, w.nv, es, ep, us, vs, ks, ds, by rw [upd_ne ne]; exact h1, h2, dpa_mono sub h3, dpa_mono sub h4, h5⟩
theorem CaOk.freshF {A' : Fp} {a : Addr} {c : PyData} (w : CaOk S H A a c) (h : H p = none) (hs : S p = none) (hA : a ≠ p → A' a = A a) : CaOk (upd S p u) (upd H p u) A' a c := by
  obtain ⟨es, ep, us, vs, ks, ds, h1, _⟩ := w.ex
  have ne : a ≠ p := fun e => by rw [e, h] at h1; cases h1
  exact w.fresh h (sub_upd hs) hA (upd_ne ne)
theorem newO (w : WF S H A) (h : H p = none) (hu : ¬ Odd u := by first | exact odd_lst | exact odd_tup | exact odd_xd | exact odd_ins | exact odd_own | exact odd_dX) : WF S (upd H p u) (Fp.one p + A) ∧ Tr S H A S (upd H p u) (Fp.one p + A) ∧ ∀ a, 0 < A a → upd H p u a = H a := by
  obtain ⟨hs, ha⟩ := w.free h
  have ne : ∀ a, 0 < A a → a ≠ p := fun a z e => by rw [e] at z; omega
  refine ⟨⟨fun a o e => sub_upd h a o (w.sub a o e), fun a => ?_, fun a z => ?_, fun a z => ?_, fun r hr => (w.tb r hr).ext (sub_upd h), fun a t => ?_, fun c o hc ho => ?_, newV w h fun a ne => by rw [add_at, one_ne ne]; omega, fun r hr => (w.ca r hr).fresh h (fun _ _ e => e) fun ne => by rw [add_at, one_ne ne]; omega⟩, ⟨fun _ _ e => e, fun a o _ z e => sub_upd h a o e, fun _ _ e => .inl e, fun a z => ?_, fun a _ ⟨es, ep, e⟩ => ⟨es, ep, sub_upd h a _ e⟩⟩, fun a z => upd_ne (ne a z)⟩
  · have h1 := w.one a
    rw [add_at]
    by_cases e : a = p
    · subst e; rw [one_same]; omega
    · rw [one_ne e]; omega
  · rw [add_at] at z
    by_cases e : a = p
    · subst e; exact hs
    · rw [one_ne e] at z; exact w.dj a (by omega)
  · rw [add_at] at z
    by_cases e : a = p
    · subst e; rw [upd_same]; exact fun y => nomatch y
    · rw [one_ne e] at z; rw [upd_ne e]; exact w.th a (by omega)
  · obtain ⟨ps, t⟩ := t
    by_cases e : a = p
    · subst e; rw [upd_same] at t; cases t; exact absurd (.inr ⟨ps, rfl⟩) hu
    · rw [upd_ne e] at t; exact ⟨by rw [add_at, one_ne e, (w.ta a ⟨ps, t⟩).1], (w.ta a ⟨ps, t⟩).2⟩
  · by_cases e : c = p
    · subst e; rw [upd_same] at hc; cases hc; exact absurd (.inl ho) hu
    · rw [upd_ne e] at hc; rw [add_at, one_ne e, w.co c o hc ho]
  · rw [add_at] at z
    by_cases e : a = p
    · subst e; exact .inr (.inl h)
    · rw [one_ne e] at z; exact .inl (by omega)
theorem newF (w : WF S H A) (h : H p = none) (hu : ¬ Odd u := by first | exact odd_lst | exact odd_tup | exact odd_xd | exact odd_ins | exact odd_own | exact odd_dX) : WF (upd S p u) (upd H p u) A ∧ Tr S H A (upd S p u) (upd H p u) A ∧ (∀ a, 0 < A a → upd H p u a = H a) ∧ ∀ a o, S a = some o → upd S p u a = some o := by
  obtain ⟨hs, ha⟩ := w.free h
  have ne : ∀ a, 0 < A a → a ≠ p := fun a z e => by rw [e] at z; omega
  refine ⟨⟨fun a o e => ?_, w.one, fun a z => by rw [upd_ne (ne a z)]; exact w.dj a z, fun a z => by rw [upd_ne (ne a z)]; exact w.th a z, fun r hr => (w.tb r hr).ext (sub_upd h), fun a t => ?_, fun c o hc ho => ?_, newV w h fun _ _ => rfl, fun r hr => (w.ca r hr).freshF h hs (fun _ => rfl)⟩, ⟨sub_upd hs, fun a o _ z e => sub_upd h a o e, fun a o e => ?_, fun a z => .inl z, fun a _ ⟨es, ep, e⟩ => ⟨es, ep, sub_upd h a _ e⟩⟩, fun a z => upd_ne (ne a z), sub_upd hs⟩
  · by_cases z : a = p
    · subst z; rw [upd_same] at e ⊢; exact e
    · rw [upd_ne z] at e ⊢; exact w.sub a o e
  · obtain ⟨ps, t⟩ := t
    by_cases e : a = p
    · subst e; rw [upd_same] at t; cases t; exact absurd (.inr ⟨ps, rfl⟩) hu
    · rw [upd_ne e] at t ⊢; exact w.ta a ⟨ps, t⟩
  · by_cases e : c = p
    · subst e; exact ha
    · rw [upd_ne e] at hc; exact w.co c o hc ho
  · by_cases z : a = p
    · subst z; exact .inr (.inr (.inl h))
    · rw [upd_ne z] at e; exact .inl e
end
def ArgAt (σ : St) : List (Option Nat) → List V → Prop
  | [], _ => True
  | some i :: ls, v :: vs => σ[i]? = some (some v) ∧ ArgAt σ ls vs
  | none :: ls, _ :: vs => ArgAt σ ls vs
  | _ :: _, [] => False
def RArgs (K : PySem.W.Frag) (ls : List (Option Nat)) : RR (List V) (List O) := fun σ S H vs os B => ORs K S H vs os B ∧ ArgAt σ ls vs ∧ vs.length = ls.length
structure AV (X : Cx) (W : WX) (es : List Expr) (ls : List (Option Nat)) (f : FA) : Prop where
  ex : ∃ t, PA X es t ∧ Snd X.K W (RArgs X.K ls) t f
def aNil : FA := fun ρ => .ok [] ρ
def aCons (f : FE) (r : FA) : FA := fun ρ => (f ρ).bind fun o ρ1 => (r ρ1).bind fun os ρ2 => .ok (o :: os) ρ2
section
variable {K : PySem.W.Frag} {W : WX} {X : Cx} {e : Expr} {es : List Expr} {ls : List (Option Nat)}
theorem snd_anil : Snd K W (RArgs K []) tNil aNil := by
  intro σ ρ S H A w e Q k
  exact k [] S H A Fp.z (by rw [addz]; exact w) e ⟨.nil fun _ => rfl, True.intro, rfl⟩ (by rw [addz]; exact Tr.refl)
theorem snd_acons {te : TE} {tr : TA} {f : FE} {r : FA} {l : Option Nat} (R : RR V O) (hR : ∀ σ S H v o B, R σ S H v o B → OR K S H v o B ∧ ∀ i, l = some i → σ[i]? = some (some v)) (sR : Stays R) (h1 : Snd K W R te f) (h2 : Snd K W (RArgs K ls) tr r) : Snd K W (RArgs K (l :: ls)) (tCons te tr) (aCons f r) := by
  refine snd_bind (u := fun x σ H Q => tr σ H fun xs H2 => Q (x :: xs) H2) h1 fun x o σ ρ S H A B w e ra => ?_
  have h3 := snd_beside h2 w e
  show OutOk K W (RArgs K (l :: ls)) _ σ S H (A + B) ((r ρ).bind _)
  cases hf : r ρ with
  | bad => exact True.intro
  | exc x' ρ' =>
    rw [hf] at h3
    exact fun Q k => h3 _ k
  | ok os ρ2 =>
    rw [hf] at h3
    intro Q k
    refine h3 _ fun xs S' H' A' C w' e' rb t' sub kp => ?_
    have ra' := sR σ S H S' H' x o B sub kp ra
    obtain ⟨q1, q2⟩ := hR σ S' H' x o B ra'
    have eA : A' + C + B = A' + (B + C) := funext fun b => by simp only [add_at]; omega
    rw [eA] at w' t'
    refine k (x :: xs) S' H' A' (B + C) w' e' ⟨.cons q1 rb.1 fun b => add_at B C b, ?_, by simp [rb.2.2]⟩ t'
    cases l with
    | none => exact rb.2.1
    | some i => exact ⟨q2 i rfl, rb.2.1⟩
theorem av_nil : AV X W [] [] aNil := ⟨_, pa_nil, snd_anil⟩
theorem av_cons {f : FE} {r : FA} (h : EV X W e f) (hr : AV X W es ls r) (hs : starEach (e :: es) X.env = (false, eval e X.env) :: starEach es X.env := by rfl) : AV X W (e :: es) (none :: ls) (aCons f r) :=
  let ⟨_, h1, h2⟩ := h.ex; let ⟨_, r1, r2⟩ := hr.ex; ⟨_, pa_cons h1 r1 hs, snd_acons (l := none) (ROr X.K) (fun _ _ _ _ _ _ q => ⟨q, fun _ z => nomatch z⟩) stays_or h2 r2⟩
def eLend (i : Nat) : FE := fun ρ => match ρ[i]? with
  | some (some (.fz d)) => .ok (.fz d) ρ
  | some (some (.raw v)) => .ok (.raw v) ρ
  | some (some (.vu o)) => .ok (.vu o) ρ
  | some (some (.exn _ _ _ _)) => .bad
  | some (some o) => .ok o (ρ.set i none)
  | _ => .bad
def RLend (K : PySem.W.Frag) (i : Nat) : RR V O := fun σ S H v o B => OR K S H v o B ∧ σ[i]? = some (some v)
theorem snd_lend {i : Nat} : Snd K W (RLend K i) (tVar i) (eLend i) := by
  intro σ ρ S H A w e
  unfold eLend
  cases hi : ρ[i]? with
  | none => exact True.intro
  | some x =>
    cases x with
    | none => exact True.intro
    | some o =>
      obtain ⟨v, B, C, e1, q, e2, z⟩ := er_get e hi
      have eA : A = C + B := funext fun b => by rw [z b, add_at]; omega
      have no : (∀ b, B b = 0) → A + B = A := fun z2 => funext fun b => by rw [add_at, z2 b]; rfl
      cases o with
      | fz d =>
        intro Q k
        have z2 : ∀ b, B b = 0 := by cases q with | fz q z2 => exact z2
        exact ⟨v, e1, k v S H A B (by rw [no z2]; exact w) e ⟨q, e1⟩ (by rw [no z2]; exact Tr.refl)⟩
      | exn a c d y => exact True.intro
      | raw u =>
        intro Q k
        have z2 : ∀ b, B b = 0 := by cases q with | raw z2 => exact z2
        exact ⟨v, e1, k v S H A B (by rw [no z2]; exact w) e ⟨q, e1⟩ (by rw [no z2]; exact Tr.refl)⟩
      | vu u =>
        intro Q k
        have z2 := or_zero q rfl
        exact ⟨v, e1, k v S H A B (by rw [no z2]; exact w) e ⟨q, e1⟩ (by rw [no z2]; exact Tr.refl)⟩
      | lst xs =>
        intro Q k
        exact ⟨v, e1, k v S H C B (by rw [← eA]; exact w) e2 ⟨q, e1⟩ (by rw [← eA]; exact Tr.refl)⟩
      | ins _ _ _ =>
        intro Q k
        exact ⟨v, e1, k v S H C B (by rw [← eA]; exact w) e2 ⟨q, e1⟩ (by rw [← eA]; exact Tr.refl)⟩
      | dct _ _ =>
        intro Q k
        exact ⟨v, e1, k v S H C B (by rw [← eA]; exact w) e2 ⟨q, e1⟩ (by rw [← eA]; exact Tr.refl)⟩
theorem av_lend (i : Nat) {x : Str} {pos : Pos} {r : FA} (hr : AV X W es ls r) (hN : X.N[i]? = some x := by rfl) (hv : Vis X.env.scope x := by first | exact Or.inl rfl | exact Or.inr (Or.inl rfl) | exact Or.inr (Or.inr rfl)) (hd : (x == ("__debug__" : Str)) = false := by decide)
    (hcd : (x == ("__classdict__" : Str)) = false := by decide) (hs : starEach (.Name x pos :: es) X.env = (false, eval (.Name x pos) X.env) :: starEach es X.env := by rfl) : AV X W (.Name x pos :: es) (some i :: ls) (aCons (eLend i) r) :=
  let ⟨_, r1, r2⟩ := hr.ex
  ⟨_, pa_cons (pe_var hN hv hd hcd) r1 hs, snd_acons (l := some i) (RLend X.K i) (fun _ _ _ _ _ _ q => ⟨q.1, fun j z => by cases z; exact q.2⟩) (fun σ S H S' H' v a B h k r => ⟨or_keep h k r.1, r.2⟩) snd_lend r2⟩
def backs : List (Option Nat) → List O → En → En
  | some i :: ls, o :: os, ρ => backs ls os (match ρ[i]? with
    | some none => ρ.set i (some o)
    | _ => ρ)
  | none :: ls, _ :: os, ρ => backs ls os ρ
  | _, _, ρ => ρ
theorem er_backs {S H : Hp} {σ : St} : ∀ (ls : List (Option Nat)) {vs : List V} {os : List O} {ρ : En} {A B : Fp}, ER K S H σ ρ A → ORs K S H vs os B → ArgAt σ ls vs → ∃ A', ER K S H σ (backs ls os ρ) A' ∧ ∀ b, A' b ≤ (A + B) b
  | [], _, _, ρ, A, B, e, r, h => ⟨A, by cases r <;> exact e, le1⟩
  | l :: ls, _, _, ρ, A, B, e, .nil z, h => ⟨A, by cases l <;> exact e, le1⟩
  | none :: ls, _, _, ρ, A, B, e, .cons q r z, h => by
    obtain ⟨A', h1, h2⟩ := er_backs ls e r h
    exact ⟨A', h1, fun b => by have := h2 b; simp only [add_at] at this ⊢; rw [z b]; omega⟩
  | some i :: ls, _, _, ρ, A, B, e, .cons (x := x) (xs := xs) (B := B1) (C := C1) q r z, h => by
    show ∃ A', ER K S H σ (backs ls xs (match ρ[i]? with
      | some none => ρ.set i (some x)
      | _ => ρ)) A' ∧ ∀ b, A' b ≤ (A + B) b
    cases hi : ρ[i]? with
    | none =>
      obtain ⟨A', h1, h2⟩ := er_backs ls e r h.2
      exact ⟨A', h1, fun b => by have := h2 b; simp only [add_at] at this ⊢; rw [z b]; omega⟩
    | some y =>
      cases y with
      | some y =>
        obtain ⟨A', h1, h2⟩ := er_backs ls e r h.2
        exact ⟨A', h1, fun b => by have := h2 b; simp only [add_at] at this ⊢; rw [z b]; omega⟩
      | none =>
        obtain ⟨A', h1, h2⟩ := er_backs ls (er_back e h.1 hi q) r h.2
        exact ⟨A', h1, fun b => by have := h2 b; simp only [add_at] at this ⊢; rw [z b]; omega⟩
def spOf (K : PySem.W.Frag) (n : Nat) (F : List O → FO) : Sp := fun vs H Q E => vs.length = n ∧ ∃ S A as, WF S H A ∧ ORs K S H vs as A ∧
  match F as with
  | .ok o as' => ∀ v S' H' A' B, WF S' H' (A' + B) → ORs K S' H' vs as' A' → OR K S' H' v o B → Tr S H A S' H' (A' + B) → Q v H'
  | .exc x as' => ∀ cls d S' H' A', WF S' H' A' → ORs K S' H' vs as' A' → XR K S' x cls d → Tr S H A S' H' A' → E cls d H'
  | .bad => False
def eCall (F : List O → FO) (ls : List (Option Nat)) (dd : List PyData) (fa : FA) : FE := fun ρ => (fa ρ).bind fun os ρ1 => match F (os ++ dd.map O.fz) with
  | .ok o as' => .ok o (backs ls as' ρ1)
  | .exc x as' => .exc x (backs ls as' ρ1)
  | .bad => .bad
theorem ors_append {S H : Hp} : ∀ {vs : List V} {os : List O} {A : Fp} {dvs : List V} {dd : List PyData}, ORs K S H vs os A → DpAll K S dvs dd → ORs K S H (vs ++ dvs) (os ++ dd.map O.fz) A
  | _, _, _, _, _, .nil z, .nil => .nil z
  | _, _, A, _, _, .nil z, .cons q r => .cons (B := Fp.z) (C := A) (.fz q fun _ => rfl) (ors_append (.nil z) r) fun b => by rw [z_at]; omega
  | _, _, _, _, _, .cons q r z, d => .cons q (ors_append r d) z
theorem argAt_more {σ : St} : ∀ {ls : List (Option Nat)} {vs ws : List V}, ArgAt σ ls vs → ArgAt σ ls (vs ++ ws)
  | [], _, _, _ => True.intro
  | some i :: ls, v :: vs, _, h => ⟨h.1, argAt_more h.2⟩
  | none :: ls, v :: vs, _, h => argAt_more (ls := ls) (vs := vs) h
  | some i :: ls, [], _, h => h.elim
  | none :: ls, [], _, h => h.elim
theorem sndE_call {n : Nat} {F : List O → FO} {ta : TA} {fa : FA} {dvs : List V} {dd : List PyData} (ha : Snd K W (RArgs K ls) ta fa) (hd : ∀ S, DpAll K S dvs dd) (hn : ls.length + dvs.length = n) :
    SndE K W (tCallSD (spOf K n F) dvs (WE W) ta) (eCall F ls dd fa) := by
  refine snd_bind (u := fun vs σ H Q => spOf K n F (vs ++ dvs) H Q (WE W σ)) ha fun vs os σ ρ S H A B w e r => ?_
  show OutOk K W (ROr K) _ σ S H (A + B) (match F (os ++ dd.map O.fz) with
    | .ok o as' => Out.ok o (backs ls as' ρ)
    | .exc x as' => .exc x (backs ls as' ρ)
    | .bad => .bad)
  have hor := ors_append r.1 (hd S)
  have w1 : WF S H B := w.less le4
  have w2 : WF S H (B + A) := by rw [add_comm']; exact w
  cases hF : F (os ++ dd.map O.fz) with
  | bad => exact True.intro
  | ok o as' =>
    intro Q k
    refine ⟨by rw [List.length_append, r.2.2]; exact hn, S, B, _, w1, hor, ?_⟩
    rw [hF]
    intro v S' H' A' C w' r' q' t'
    obtain ⟨w3, k3⟩ := t'.frame w2 w'
    have e3 := er_keep (K := K) t'.fz e fun b hb => (k3 b hb).1
    obtain ⟨A2, e4, l4⟩ := er_backs ls e3 r' (argAt_more r.2.1)
    have t4 : Tr S H (A + B) S' H' (A' + C + A) := by rw [add_comm' A B]; exact t'.frameTr
    have l5 : ∀ b, (A2 + C) b ≤ (A' + C + A) b := fun b => by have := l4 b; simp only [add_at] at this ⊢; omega
    exact k v S' H' A2 C (w3.less l5) e4 q' (t4.less l5)
  | exc x as' =>
    intro Q k
    refine ⟨by rw [List.length_append, r.2.2]; exact hn, S, B, _, w1, hor, ?_⟩
    rw [hF]
    intro cls d S' H' A' w' r' x' t'
    obtain ⟨w3, k3⟩ := t'.frame w2 w'
    have e3 := er_keep (K := K) t'.fz e fun b hb => (k3 b hb).1
    obtain ⟨A2, e4, l4⟩ := er_backs ls e3 r' (argAt_more r.2.1)
    have t4 : Tr S H (A + B) S' H' (A' + A) := by rw [add_comm' A B]; exact t'.frameTr
    have l5 : ∀ b, A2 b ≤ (A' + A) b := fun b => by have := l4 b; simp only [add_at] at this ⊢; omega
    exact k cls d S' H' A2 (w3.less l5) e4 x' (t4.less l5)
theorem ev_call {k : Nat} {f : Addr} {fd : FuncData} {ps : List Str} {n : Nat} {F : List O → FO} {ds : List Value} {dvs : List V} {dd : List PyData} {fa : FA} {x : Str} {p pos : Pos} (G : FnOk X.prog X.w X.K X.mg X.base (L2.CX X.prog X.w) k f fd ps (spOf X.K n F)) (hr : Room k X.A) (tk : Takes X W)
    (hg : Gl X x) (hm : X.mg x = some (.ref f)) (hk : PySem.W.keepIn X.K (.ref f) = true) (hb : Binds X.K fd ps ds) (hd : Vals dvs ds) (hdd : ∀ S, DpAll X.K S dvs dd) (ha : AV X W (e :: es) ls fa) (hn : ls.length + dvs.length = n := by rfl)
    (hdb : (x == ("__debug__" : Str)) = false := by decide) (he : starEach (e :: es) X.env = (false, eval e X.env) :: starEach es X.env := by rfl) (hpl : (backTo pos (starEach es X.env)).any (·.1) = false := by rfl) :
    EV X W (.Call (.Name x p) (e :: es) [] pos) (eCall F ls dd fa) :=
  let ⟨_, a1, a2⟩ := ha.ex; ⟨_, pe_callSD G hr hg hm hk hb hd (fun σ => passAt tk σ) a1 hdb he hpl, sndE_call a2 hdd hn⟩
end
end Ls
namespace Ls
open PySem L2
variable [Tb] [Vw]
def allFz : List O → Option (List PyData)
  | [] => some []
  | .fz d :: xs => (allFz xs).map fun ds => d :: ds
  | _ :: _ => none
def itemsO0 : O → Option (Bool × List PyData)
  | .fz (.list ds) => some (true, ds)
  | .fz (.tuple ds) => some (false, ds)
  | .lst xs => (allFz xs).map fun ds => (true, ds)
  | _ => none
def itemsO : O → Option (Bool × List PyData)
  | .vu o => itemsO0 o
  | o => itemsO0 o
def SqB (K : PySem.W.Frag) (H : Hp) (a : Addr) (vs : List V) : Bool → Prop
  | true => SqL K H a vs
  | false => SqT K H a vs
section
variable {K : PySem.W.Frag} {W : WX} {S H : Hp} {A B C : Fp} {σ : St} {ρ : En}
theorem ors_allFz : ∀ {vs : List V} {xs : List O} {B : Fp} {ds : List PyData}, ORs K S H vs xs B → allFz xs = some ds → DpAll K S vs ds ∧ ∀ b, B b = 0
  | _, _, _, _, .nil z, h => by cases h; exact ⟨.nil, z⟩
  | _, _, _, _, .cons (x := x) (xs := xs) q r z, h => by
    cases q with
    | fz q z1 =>
      obtain ⟨ds', e1, e2⟩ := Option.map_eq_some_iff.mp (show (allFz xs).map _ = some _ from h)
      subst e2
      obtain ⟨h1, h2⟩ := ors_allFz r e1
      exact ⟨.cons q h1, fun b => by rw [z b, z1 b, h2 b]⟩
    | raw z1 => cases h
    | exn _ z1 => cases h
    | ins _ _ _ _ _ => cases h
    | dct _ _ _ _ _ => cases h
    | vu _ _ => cases h
    | lst _ _ _ => cases h
theorem or_items0 {H T : Hp} {v : V} {o : O} {l : Bool} {ds : List PyData} (sub : ∀ a u, S a = some u → T a = some u) (hh : ∀ a u, H a = some u → T a = some u) (q : OR K S H v o B) (h : itemsO0 o = some (l, ds)) : ∃ a vs, v = .ref a ∧ SqB K T a vs l ∧ DpAll K S vs ds := by
  cases q with
  | fz q z =>
    cases q with
    | lst s r => cases h; exact ⟨_, _, rfl, sqL_mono sub s, r⟩
    | tup s r => cases h; exact ⟨_, _, rfl, sqT_mono sub s, r⟩
    | _ => cases h
  | raw z => cases h
  | exn _ z => cases h
  | ins _ _ _ _ _ => cases h
  | dct _ _ _ _ _ => cases h
  | vu _ _ => cases h
  | lst e r z =>
    obtain ⟨ds', e1, e2⟩ := Option.map_eq_some_iff.mp (show (allFz _).map _ = some _ from h)
    cases e2
    exact ⟨_, _, rfl, SqL.of (hh _ _ e), (ors_allFz r e1).1⟩
theorem or_items {T : Fp} {v : V} {o : O} {l : Bool} {ds : List PyData} (w : WF S H T) (q : OR K S H v o B) (h : itemsO o = some (l, ds)) : ∃ a vs, v = .ref a ∧ SqB K H a vs l ∧ DpAll K S vs ds := by
  have go : itemsO0 o = some (l, ds) → ∃ a vs, v = .ref a ∧ SqB K H a vs l ∧ DpAll K S vs ds := or_items0 w.sub (fun _ _ h => h) q
  cases q with
  | vu q z => exact or_items0 w.sub (fun a u e => (w.vs a u e).1) q h
  | _ => exact go h
theorem pk_or {v : V} {p : Pk} {o : O} (e : ER K S H σ ρ A) (r : RPk K σ S H v p B) (h : pkO ρ p = some o) : ∃ B', OR K S H v o B' := by
  cases r with
  | o q => cases h; exact ⟨_, q⟩
  | @v _ _ _ _ i _ h1 z =>
    have h : (ρ[i]?).bind id = some o := h
    cases hi : ρ[i]? with
    | none => rw [hi] at h; cases h
    | some x =>
      rw [hi] at h
      cases x with
      | none => cases h
      | some o' =>
        cases h
        obtain ⟨v', B', C', e1, q, _, _⟩ := er_get e hi
        rw [h1] at e1
        cases e1
        exact ⟨B', q⟩
theorem dpall_get : ∀ {vs : List V} {ds : List PyData} {j : Nat} {d : PyData}, DpAll K S vs ds → ds[j]? = some d → ∃ v, vs[j]? = some v ∧ Dp K S v d
  | _, _, _, _, .nil, h => by simp at h
  | _, _, 0, _, .cons q _, h => by simp at h; subst h; exact ⟨_, rfl, q⟩
  | _, _, j + 1, d, .cons _ r, h => by
    obtain ⟨v, h1, h2⟩ := dpall_get (j := j) r (by simpa using h)
    exact ⟨v, by simpa using h1, h2⟩
theorem dpall_at {vs : List V} {ds : List PyData} {i : Int} {d : PyData} (h : DpAll K S vs ds) (e : atI ds i = some d) : ∃ v, atI vs i = some v ∧ Dp K S v d := by
  unfold atI at e ⊢
  rw [dpall_len h]
  obtain ⟨j, e1, e2⟩ := Option.bind_eq_some_iff.mp e
  obtain ⟨v, h1, h2⟩ := dpall_get h e2
  exact ⟨v, by rw [e1]; exact h1, h2⟩
def ixO : O → Int → Option PyData
  | .fz (.str z), i => if z.length ≤ sizeLine then (atI z.cps.toList i).map fun c => .str ⟨#[c]⟩ else none
  | o, i => (itemsO o).bind fun p => atI p.2 i
theorem ixO_eq {o : O} {i : Int} (h : ∀ z, o ≠ .fz (.str z)) : ixO o i = (itemsO o).bind fun p => atI p.2 i := by
  cases o with
  | fz d => cases d <;> first | rfl | exact absurd rfl (h _)
  | _ => rfl
def eIx (fa fb : FP) : FE := fun ρ => (fa ρ).bind fun a ρ1 => (fb ρ1).bind fun b ρ2 => match pkO ρ2 a, pkD ρ2 b with
  | some o, some (.int i) => (match ixO o i with
    | some d => .ok (.fz d) ρ2
    | none => .bad)
  | _, _ => .bad
theorem ix_rule {x y : V} {o : O} {i : Int} {d : PyData} {T : Fp} (w : WF S H T) (q : OR K S H x o B) (hy : y = .int i) (h : ixO o i = some d) : ∀ Q : VK, (∀ v, Dp K S v d → Q v H) → rIx K x y H Q := by
  intro Q k
  by_cases hs : ∃ z, o = .fz (.str z)
  · obtain ⟨z, rfl⟩ := hs
    have h : (if z.length ≤ sizeLine then (atI z.cps.toList i).map fun c => PyData.str ⟨#[c]⟩ else none) = some d := h
    by_cases hz : z.length ≤ sizeLine
    · rw [if_pos hz] at h
      obtain ⟨c, e1, e2⟩ := Option.map_eq_some_iff.mp h
      subst e2
      cases q with
      | fz q _ =>
        cases q
        exact .inr (.inr ⟨z, i, c, rfl, hy, hz, e1, k _ (.str _)⟩)
    · rw [if_neg hz] at h; cases h
  · rw [ixO_eq fun z e => hs ⟨z, e⟩] at h
    obtain ⟨⟨l, ds⟩, e1, e2⟩ := Option.bind_eq_some_iff.mp h
    obtain ⟨a, vs, ev, sq, da⟩ := or_items w q e1
    obtain ⟨v, h1, h2⟩ := dpall_at da e2
    cases l with
    | true => exact .inl ⟨a, vs, i, v, ev, hy, sq, h1, k v h2⟩
    | false => exact .inr (.inl ⟨a, vs, i, v, ev, hy, sq, h1, k v h2⟩)
theorem snd_two {β α : Type} {R : RR β α} {ta tb : TE} {fa fb : FP} {r : V → V → Hp → (β → Hp → Prop) → Prop} {k : Pk → Pk → En → Out α} (ha : SndP K W ta fa) (hb : SndP K W tb fb)
    (hk : ∀ x y a b σ ρ S H A B, WF S H (A + B) → ER K S H σ ρ A → (∀ o, pkO ρ a = some o → ∃ B', OR K S H x o B') → (∀ o, pkO ρ b = some o → ∃ B', OR K S H y o B') → OutOk K W R (fun _ H Q => r x y H Q) σ S H (A + B) (k a b ρ)) :
    Snd K W R (fun σ H Q => ta σ H fun x H1 => tb σ H1 fun y H2 => r x y H2 Q) fun ρ => (fa ρ).bind fun a ρ1 => (fb ρ1).bind fun b ρ2 => k a b ρ2 := by
  refine snd_bind (u := fun x σ H Q => tb σ H fun y H2 => r x y H2 Q) ha fun x a σ ρ S H A B w e ra => ?_
  have h2 := snd_beside hb w e
  show OutOk K W R _ σ S H (A + B) ((fb ρ).bind _)
  cases hf : fb ρ with
  | bad => exact True.intro
  | exc x' ρ' =>
    rw [hf] at h2
    exact fun Q k => h2 _ k
  | ok b ρ2 =>
    rw [hf] at h2
    show OutOk K W R _ σ S H (A + B) (k a b ρ2)
    cases hk2 : k a b ρ2 with
    | bad => exact True.intro
    | exc x' ρ' =>
      intro Q q
      refine h2 _ fun y S' H' A' C w' e' rb t' sub kp => ?_
      have ra' := stays_pk σ S H S' H' x a B sub kp ra
      rw [add_assoc'] at w' t'
      have h3 := hk x y a b σ ρ2 S' H' A' (C + B) w' e' (fun o ho => pk_or e' ra' ho) fun o ho => pk_or e' rb ho
      rw [hk2] at h3
      exact h3 Q fun cls d S4 H4 A4 w4 e4 x4 t4 => q cls d S4 H4 A4 w4 e4 x4 (t'.trans t4)
    | ok c ρ' =>
      intro Q q
      refine h2 _ fun y S' H' A' C w' e' rb t' sub kp => ?_
      have ra' := stays_pk σ S H S' H' x a B sub kp ra
      rw [add_assoc'] at w' t'
      have h3 := hk x y a b σ ρ2 S' H' A' (C + B) w' e' (fun o ho => pk_or e' ra' ho) fun o ho => pk_or e' rb ho
      rw [hk2] at h3
      exact h3 Q fun v S4 H4 A4 B4 w4 e4 r4 t4 => q v S4 H4 A4 B4 w4 e4 r4 (t'.trans t4)
theorem pkD_or {x : V} {p : Pk} {d : PyData} {T : Fp} (w : WF S H T) (h : ∀ o, pkO ρ p = some o → ∃ B', OR K S H x o B') (e : pkD ρ p = some d) : Dp K H x d := by
  obtain ⟨o, e1, e2⟩ := Option.bind_eq_some_iff.mp e
  obtain ⟨B', q⟩ := h o e1
  exact or_rdz w q e2
theorem sndE_ix {ta tb : TE} {fa fb : FP} (ha : SndP K W ta fa) (hb : SndP K W tb fb) : SndE K W (tOp (rIx K) ta tb) (eIx fa fb) := by
  refine snd_two (r := rIx K) ha hb fun x y a b σ ρ S H A B w e ra rb => ?_
  cases h1 : pkO ρ a with
  | none => exact True.intro
  | some o =>
    cases h2 : pkD ρ b with
    | none => exact True.intro
    | some d =>
      cases d with
      | int i =>
        show OutOk K W (ROr K) _ σ S H (A + B) (match ixO o i with
          | some d => Out.ok (.fz d) ρ
          | none => .bad)
        cases h3 : ixO o i with
        | none => exact True.intro
        | some d =>
          intro Q k
          obtain ⟨B', q⟩ := ra o h1
          exact ix_rule w q (dp_int (pkD_or w rb h2)) h3 Q fun v hv => fzEnd w e hv k
      | _ => exact True.intro
def eTup (fa : FA) : FE := fun ρ => (fa ρ).bind fun os ρ1 => match frzs os with
  | some ds => .ok (.fz (.tuple ds)) ρ1
  | none => .bad
def eLst (fa : FA) : FE := fun ρ => (fa ρ).bind fun os ρ1 => .ok (.lst os) ρ1
theorem tupEnd {p : Addr} {vs : List V} {os : List O} {ds : List PyData} {Q : VK} (w : WF S H (A + B)) (e : ER K S H σ ρ A) (r : ORs K S H vs os B) (h : frzs os = some ds) (hp : H p = none) (k : PostV K (ROr K) σ S H (A + B) (.fz (.tuple ds)) ρ Q) : Q (.ref p) (upd H p (.tup vs)) := by
  obtain ⟨w1, t1, sub1⟩ := settle_wf w
  have d1 := ors_settle (fun b hb => w.dj b (by rw [add_at]; omega)) (fun b => Nat.le_refl _) r h
  obtain ⟨w2, t2, k2, sub2⟩ := newF (u := .tup vs) w1 hp
  refine k _ _ _ A Fp.z (by rw [addz]; exact w2) (er_keep sub2 (er_keep sub1 e fun _ _ => rfl) k2) (.fz (.tup (SqT.of upd_same) (dpa_mono sub2 d1)) fun _ => rfl) (by rw [addz]; exact t1.trans t2)
theorem lstEnd {p : Addr} {vs : List V} {os : List O} {Q : VK} (w : WF S H (A + B)) (e : ER K S H σ ρ A) (r : ORs K S H vs os B) (hp : H p = none) (k : PostV K (ROr K) σ S H (A + B) (.lst os) ρ Q) : Q (.ref p) (upd H p (.lst vs)) := by
  obtain ⟨w1, t1, k1⟩ := newO (u := .lst vs) w hp
  have eA : Fp.one p + (A + B) = A + (Fp.one p + B) := funext fun b => by simp only [add_at]; omega
  rw [eA] at w1 t1
  refine k _ _ _ A (Fp.one p + B) w1 (er_keep (fun _ _ h => h) e fun a z => k1 a (by rw [add_at]; omega)) (.lst upd_same (ors_keep (fun _ _ h => h) (fun a z => k1 a (by rw [add_at]; omega)) r) fun b => add_at _ _ b) t1
theorem ors_fz : ∀ {vs : List V} {ds : List PyData}, DpAll K S vs ds → ORs K S H vs (ds.map O.fz) Fp.z
  | _, _, .nil => .nil fun _ => rfl
  | _, _, .cons q r => .cons (B := Fp.z) (C := Fp.z) (.fz q fun _ => rfl) (ors_fz r) fun _ => rfl
theorem lstFz {p : Addr} {vs : List V} {ds : List PyData} {Q : VK} (w : WF S H (A + B)) (e : ER K S H σ ρ A) (r : DpAll K S vs ds) (hp : H p = none) (k : PostV K (ROr K) σ S H (A + B) (.lst (ds.map O.fz)) ρ Q) : Q (.ref p) (upd H p (.lst vs)) := by
  have w1 : WF S H (A + Fp.z) := by rw [addz]; exact w.less le1
  refine lstEnd w1 e (ors_fz r) hp fun v S' H' A' B' w' e' r' t' => k v S' H' A' B' w' e' r' ?_
  rw [addz] at t'
  exact (Tr.refl.less le1).trans t'
theorem tupFz {p : Addr} {vs : List V} {ds : List PyData} {Q : VK} (w : WF S H (A + B)) (e : ER K S H σ ρ A) (r : DpAll K S vs ds) (hp : H p = none) (k : PostV K (ROr K) σ S H (A + B) (.fz (.tuple ds)) ρ Q) : Q (.ref p) (upd H p (.tup vs)) := by
  have w1 : WF S H (A + Fp.z) := by rw [addz]; exact w.less le1
  have hz : frzs (ds.map O.fz) = some ds := by
    clear r k
    induction ds with
    | nil => rfl
    | cons d ds ih =>
      show ((frz (O.fz d)).bind fun d => (frzs (ds.map O.fz)).map fun ds => d :: ds) = some (d :: ds)
      rw [ih]
      rfl
  refine tupEnd w1 e (ors_fz r) hz hp fun v S' H' A' B' w' e' r' t' => k v S' H' A' B' w' e' r' ?_
  rw [addz] at t'
  exact (Tr.refl.less le1).trans t'
theorem sndE_tup {ls : List (Option Nat)} {ta : TA} {fa : FA} (ha : Snd K W (RArgs K ls) ta fa) (hn : ls.length ≤ sizeLine) : SndE K W (tTup ta) (eTup fa) := by
  refine snd_bind (u := fun (vs : List V) (σ : St) (H : Hp) (Q : VK) => vs.length ≤ sizeLine ∧ ∀ p, H p = none → Q (V.ref p) (upd H p (.tup vs))) ha fun vs os σ ρ S H A B w e r => ?_
  show OutOk K W (ROr K) _ σ S H (A + B) (match frzs os with
    | some ds => Out.ok (.fz (.tuple ds)) ρ
    | none => .bad)
  cases h : frzs os with
  | none => exact True.intro
  | some ds => exact fun Q k => ⟨by rw [r.2.2]; exact hn, fun p hp => tupEnd w e r.1 h hp k⟩
theorem sndE_lst {ls : List (Option Nat)} {ta : TA} {fa : FA} (ha : Snd K W (RArgs K ls) ta fa) (hn : ls.length ≤ sizeLine) : SndE K W (tLst ta) (eLst fa) := by
  refine snd_bind (u := fun (vs : List V) (σ : St) (H : Hp) (Q : VK) => vs.length ≤ sizeLine ∧ ∀ p, H p = none → Q (V.ref p) (upd H p (.lst vs))) ha fun vs os σ ρ S H A B w e r => ?_
  exact fun Q k => ⟨by rw [r.2.2]; exact hn, fun p hp => lstEnd w e r.1 hp k⟩
end
section
variable {X : Cx} {W : WX} {a b : Expr} {fa fb : FP} {pos : Pos} {es : List Expr} {ls : List (Option Nat)} {f : FA}
theorem ev_ix (ha : PV X W a fa) (hb : PV X W b fb) (hs : PlainIx b := by exact fun _ _ => rfl) : EV X W (.Subscript a b pos) (eIx fa fb) := let ⟨_, a1, a2⟩ := ha.ex; let ⟨_, b1, b2⟩ := hb.ex; ⟨_, pe_ix ix_seq a1 b1 hs, sndE_ix a2 b2⟩
theorem ev_tup {x1} (h : AV X W es ls f) (hn : ls.length ≤ sizeLine := by decide) : EV X W (.Tuple es x1 pos) (eTup f) := let ⟨_, a1, a2⟩ := h.ex; ⟨_, pe_tup a1, sndE_tup a2 hn⟩
theorem ev_lst (h : AV X W es ls f) (hn : ls.length ≤ sizeLine := by decide) : EV X W (.List es pos) (eLst f) := let ⟨_, a1, a2⟩ := h.ex; ⟨_, pe_lst a1, sndE_lst a2 hn⟩
end
end Ls
namespace Ls
open PySem L2
variable [Tb] [Vw]
section
variable {K : PySem.W.Frag} {W : WX} {S H : Hp} {A B C : Fp} {σ : St} {ρ : En}
theorem snd_one {β α : Type} {R : RR β α} {ta : TE} {fa : FP} {r : V → Hp → (β → Hp → Prop) → Prop} {k : Pk → En → Out α} (ha : SndP K W ta fa)
    (hk : ∀ x a σ ρ S H A B, WF S H (A + B) → ER K S H σ ρ A → (∀ o, pkO ρ a = some o → ∃ B', OR K S H x o B') → OutOk K W R (fun _ H Q => r x H Q) σ S H (A + B) (k a ρ)) :
    Snd K W R (fun σ H Q => ta σ H fun x H1 => r x H1 Q) fun ρ => (fa ρ).bind fun a ρ1 => k a ρ1 :=
  snd_bind (u := fun x _ H Q => r x H Q) ha fun x a σ ρ S H A B w e ra => hk x a σ ρ S H A B w e fun o ho => pk_or e ra ho
def BiS (K : PySem.W.Frag) (r : List V → Hp → VK → Prop) (g : O → Option PyData) : Prop :=
  ∀ x S H o B c T, WF S H T → OR K S H x o B → g o = some c → ∀ Q : VK, (∀ v, Sc v c → Q v H) → r [x] H Q
def eB1 (g : O → Option PyData) (fa : FP) : FE := fun ρ => (fa ρ).bind fun a ρ1 => match (pkO ρ1 a).bind g with
  | some c => .ok (.fz c) ρ1
  | none => .bad
theorem sndE_b1 {r : List V → Hp → VK → Prop} {g : O → Option PyData} {ta : TE} {fa : FP} (hg : BiS K r g) (ha : SndP K W ta fa) : SndE K W (tCB r (tCons ta tNil)) (eB1 g fa) := by
  refine snd_one (r := fun x H Q => r [x] H Q) ha fun x a σ ρ S H A B w e ra => ?_
  cases h : (pkO ρ a).bind g with
  | none => exact True.intro
  | some c =>
    obtain ⟨o, h1, h2⟩ := Option.bind_eq_some_iff.mp h
    obtain ⟨B', q⟩ := ra o h1
    exact fun Q k => hg x S H o B' c _ w q h2 Q fun v hv => fzEnd w e (hv K S) k
def lenO0 : O → Option PyData
  | .fz (.list xs) => some (.int xs.length)
  | .fz (.tuple xs) => some (.int xs.length)
  | .fz (.str z) => if z.length ≤ sizeLine then some (.int z.length) else none
  | .lst xs => some (.int xs.length)
  | _ => none
def lenO : O → Option PyData
  | .vu o => lenO0 o
  | o => lenO0 o
theorem lenV_of {H T : Hp} {x : V} {o : O} {c : PyData} (sub : ∀ a u, S a = some u → T a = some u) (hh : ∀ a u, H a = some u → T a = some u) (q : OR K S H x o B) (h : lenO0 o = some c) : ∃ n, LenV K x T n ∧ c = .int n := by
  cases q with
  | fz q z =>
    cases q with
    | lst s r => cases h; exact ⟨_, .inl ⟨_, sqL_mono sub s, (dpall_len r).symm⟩, rfl⟩
    | tup s r => cases h; exact ⟨_, .inr ⟨_, sqT_mono sub s, (dpall_len r).symm⟩, rfl⟩
    | str z =>
      have h : (if z.length ≤ sizeLine then some (PyData.int z.length) else none) = some c := h
      by_cases hz : z.length ≤ sizeLine
      · rw [if_pos hz] at h; cases h; exact ⟨_, ⟨hz, rfl⟩, rfl⟩
      · rw [if_neg hz] at h; cases h
    | _ => cases h
  | raw z => cases h
  | exn _ z => cases h
  | ins _ _ _ _ _ => cases h
  | dct _ _ _ _ _ => cases h
  | vu _ _ => cases h
  | lst e r z => cases h; exact ⟨_, .inl ⟨_, SqL.of (hh _ _ e), (ors_len r).symm⟩, rfl⟩
theorem biS_len : BiS K (fun xs H Q => ∃ x n, xs = [x] ∧ LenV K x H n ∧ Q (.int n) H) lenO := by
  intro x S H o B c T w q h Q k
  have go : ∃ n, LenV K x H n ∧ c = .int n := by
    have go0 : lenO0 o = some c → ∃ n, LenV K x H n ∧ c = .int n := lenV_of w.sub (fun _ _ h => h) q
    cases q with
    | vu q z => exact lenV_of w.sub (fun a u e => (w.vs a u e).1) q h
    | _ => exact go0 h
  obtain ⟨n, h1, rfl⟩ := go
  exact ⟨_, _, rfl, h1, k _ (Sc.int _)⟩
def intsD : List PyData → Option (List Int)
  | [] => some []
  | .int i :: ds => (intsD ds).map fun ns => i :: ns
  | _ :: _ => none
def bolsD : List PyData → Option (List Bool)
  | [] => some []
  | .bool b :: ds => (bolsD ds).map fun bs => b :: bs
  | _ :: _ => none
theorem dpall_ints : ∀ {vs : List V} {ds : List PyData} {ns : List Int}, DpAll K S vs ds → intsD ds = some ns → vs = ns.map V.int
  | _, _, _, .nil, h => by cases h; rfl
  | _, _, _, .cons q r, h => by
    cases q with
    | int i =>
      obtain ⟨ns', e1, e2⟩ := Option.map_eq_some_iff.mp (show (intsD _).map _ = some _ from h)
      subst e2
      rw [dpall_ints r e1]; rfl
    | _ => cases h
theorem dpall_bols : ∀ {vs : List V} {ds : List PyData} {ns : List Bool}, DpAll K S vs ds → bolsD ds = some ns → vs = ns.map V.bl
  | _, _, _, .nil, h => by cases h; rfl
  | _, _, _, .cons q r, h => by
    cases q with
    | bl i =>
      obtain ⟨ns', e1, e2⟩ := Option.map_eq_some_iff.mp (show (bolsD _).map _ = some _ from h)
      subst e2
      rw [dpall_bols r e1]; rfl
    | _ => cases h
def lstI (o : O) : Option (List PyData) := match itemsO o with
  | some (true, ds) => some ds
  | _ => none
theorem or_lst {x : V} {o : O} {ds : List PyData} {T : Fp} (w : WF S H T) (q : OR K S H x o B) (h : lstI o = some ds) : ∃ a vs, x = .ref a ∧ SqL K H a vs ∧ DpAll K S vs ds := by
  unfold lstI at h
  cases e : itemsO o with
  | none => rw [e] at h; cases h
  | some p =>
    obtain ⟨l, ds'⟩ := p
    rw [e] at h
    cases l with
    | false => cases h
    | true => cases h; exact or_items w q e
def sumO (o : O) : Option PyData := ((lstI o).bind intsD).map fun ns => .int ns.sum
def allO (o : O) : Option PyData := ((lstI o).bind bolsD).map fun bs => .bool (bs.all id)
theorem biS_sum : BiS K (rSum K) sumO := by
  intro x S H o B c T w q h Q k
  obtain ⟨ns, e1, e2⟩ := Option.map_eq_some_iff.mp h
  obtain ⟨ds, e3, e4⟩ := Option.bind_eq_some_iff.mp e1
  obtain ⟨a, vs, ev, sq, da⟩ := or_lst w q e3
  subst e2
  rw [dpall_ints da e4] at sq
  exact ⟨a, ns, by rw [ev], sq, k _ (Sc.int _)⟩
theorem biS_all : BiS K (rAll K) allO := by
  intro x S H o B c T w q h Q k
  obtain ⟨ns, e1, e2⟩ := Option.map_eq_some_iff.mp h
  obtain ⟨ds, e3, e4⟩ := Option.bind_eq_some_iff.mp e1
  obtain ⟨a, vs, ev, sq, da⟩ := or_lst w q e3
  subst e2
  rw [dpall_bols da e4] at sq
  exact ⟨a, ns, by rw [ev], sq, k _ (Sc.bl _)⟩
def absO : O → Option PyData
  | .fz (.int i) => some (.int (if i < 0 then -i else i))
  | _ => none
def intO : O → Option PyData
  | .fz (.int i) => some (.int i)
  | .fz (.bool b) => some (.int (if b then 1 else 0))
  | _ => none
theorem biS_int : BiS K (fun xs H Q => (∃ i, xs = [.int i] ∧ Q (.int i) H) ∨ ∃ k, xs = [.bl k] ∧ Q (.int (if k then 1 else 0)) H) intO := by
  intro x S H o B c T w q h Q k
  cases q with
  | fz q z =>
    cases q with
    | int i => cases h; exact .inl ⟨i, rfl, k _ (Sc.int _)⟩
    | bl b => cases h; exact .inr ⟨b, rfl, k _ (Sc.int _)⟩
    | _ => cases h
  | _ => cases h
def tyO : O → Option String
  | .fz .none => some "NoneType"
  | .fz (.bool _) => some "bool"
  | .fz (.int _) => some "int"
  | .fz (.str _) => some "str"
  | .fz (.list _) => some "list"
  | .fz (.tuple _) => some "tuple"
  | .lst _ => some "list"
  | .vu (.lst _) => some "list"
  | _ => none
def isiO (n : String) (o : O) : Option PyData := ((tyO o).bind fun t => kitB t n).map PyData.bool
theorem tyx_of {x : V} {o : O} {t : String} {T : Fp} (w : WF S H T) (q : OR K S H x o B) (h : tyO o = some t) : TyX K H x (.type t) := by
  cases q with
  | fz q z =>
    cases q with
    | non => cases h; exact .base .non
    | bl b => cases h; exact .base (.bl b)
    | int i => cases h; exact .base (.int i)
    | str y => cases h; exact .base (.str y)
    | lst s r =>
      cases h
      rcases s with (s | ⟨o, s⟩) | ⟨o, its, n, s, c, _⟩
      · exact .base (.lst (w.sub _ _ s))
      · exact .base (.frz (w.sub _ _ s))
      · exact .kList s c
    | tup s r =>
      cases h
      rcases s with (s | ⟨o, s⟩) | ⟨o, its, n, s, c, _⟩
      · exact .base (.tup (w.sub _ _ s))
      · exact .fTuple (w.sub _ _ s)
      · exact .kTuple s c
    | dct _ _ _ _ _ => cases h
    | obj _ _ _ _ => cases h
    | cch _ _ => cases h
  | raw z => cases h
  | exn _ z => cases h
  | ins _ _ _ _ _ => cases h
  | dct _ _ _ _ _ => cases h
  | vu q z =>
    cases q with
    | lst e r z => cases h; exact .base (.lst (w.vs _ _ e).1)
    | fz q z => cases h
    | raw z => cases h
    | exn _ z => cases h
    | ins _ _ _ _ _ => cases h
    | dct _ _ _ _ _ => cases h
    | vu _ _ => cases h
  | lst e r z => cases h; exact .base (.lst e)
def eIsi (n : String) (fa : FP) : FE := eB1 (isiO n) fa
theorem sndE_isi {n : String} {ta : TE} {fa : FP} (ha : SndP K W ta fa) : SndE K W (tCB (rIsi K) (tCons ta (tCons (tC (.ty n)) tNil))) (eIsi n fa) := by
  refine snd_one (r := fun x H Q => rIsi K [x, .ty n] H Q) ha fun x a σ ρ S H A B w e ra => ?_
  cases h : (pkO ρ a).bind (isiO n) with
  | none => exact True.intro
  | some c =>
    obtain ⟨o, h1, h2⟩ := Option.bind_eq_some_iff.mp h
    obtain ⟨B', q⟩ := ra o h1
    obtain ⟨b, h3, h4⟩ := Option.map_eq_some_iff.mp h2
    obtain ⟨t, h5, h6⟩ := Option.bind_eq_some_iff.mp h3
    subst h4
    exact fun Q k => ⟨x, .ty n, .type t, .type n, b, rfl, .ty n, tyx_of w q h5, kit_ty h6, fzEnd w e (.bl b) k⟩
def eList (fa : FP) : FE := fun ρ => (fa ρ).bind fun a ρ1 => match (pkO ρ1 a).bind itemsO with
  | some (_, ds) => .ok (.lst (ds.map O.fz)) ρ1
  | none => .bad
theorem sqB_or {a : Addr} {vs : List V} {l : Bool} (h : SqB K H a vs l) : SqL K H a vs ∨ SqT K H a vs := by cases l; exact .inr h; exact .inl h
theorem sndE_list {ta : TE} {fa : FP} (ha : SndP K W ta fa) : SndE K W (tCB (fun xs H Q => ∃ p ys, xs = [.ref p] ∧ (SqL K H p ys ∨ SqT K H p ys) ∧ ∀ l, H l = none → Q (.ref l) (upd H l (.lst ys))) (tCons ta tNil)) (eList fa) := by
  refine snd_one (r := fun (x : V) (H : Hp) (Q : VK) => ∃ p ys, [x] = [V.ref p] ∧ (SqL K H p ys ∨ SqT K H p ys) ∧ ∀ l, H l = none → Q (.ref l) (upd H l (.lst ys))) ha fun x a σ ρ S H A B w e ra => ?_
  cases h : (pkO ρ a).bind itemsO with
  | none => exact True.intro
  | some c =>
    obtain ⟨l, ds⟩ := c
    obtain ⟨o, h1, h2⟩ := Option.bind_eq_some_iff.mp h
    obtain ⟨B', q⟩ := ra o h1
    obtain ⟨p, vs, ev, sq, da⟩ := or_items w q h2
    exact fun Q k => ⟨p, vs, by rw [ev], sqB_or sq, fun l hl => lstFz w e da hl k⟩
def eTuple (fa : FP) : FE := fun ρ => (fa ρ).bind fun a ρ1 => match (pkO ρ1 a).bind itemsO with
  | some (_, ds) => .ok (.fz (.tuple ds)) ρ1
  | none => .bad
theorem items_tup0 {H : Hp} {B : Fp} {x : V} {o : O} {ds : List PyData} (q : OR K S H x o B) (h : itemsO0 o = some (false, ds)) : Dp K S x (.tuple ds) := by
  cases q with
  | fz q z =>
    cases q with
    | tup s r => cases h; exact .tup s r
    | _ => cases h
  | raw z => cases h
  | exn _ z => cases h
  | ins _ _ _ _ _ => cases h
  | dct _ _ _ _ _ => cases h
  | vu _ _ => cases h
  | lst e r z =>
    obtain ⟨_, _, e2⟩ := Option.map_eq_some_iff.mp (show (allFz _).map _ = some _ from h)
    cases e2
theorem items_tup {x : V} {o : O} {ds : List PyData} (q : OR K S H x o B) (h : itemsO o = some (false, ds)) : Dp K S x (.tuple ds) := by
  have go : itemsO0 o = some (false, ds) → Dp K S x (.tuple ds) := items_tup0 q
  cases q with
  | vu q z => exact items_tup0 q h
  | _ => exact go h
theorem sndE_tuple {ta : TE} {fa : FP} (ha : SndP K W ta fa) : SndE K W (tCB (fun xs H Q => ∃ p ys, xs = [.ref p] ∧ ((SqL K H p ys ∧ ∀ l, H l = none → Q (.ref l) (upd H l (.tup ys))) ∨ (SqT K H p ys ∧ Q (.ref p) H))) (tCons ta tNil)) (eTuple fa) := by
  refine snd_one (r := fun (x : V) (H : Hp) (Q : VK) => ∃ p ys, [x] = [V.ref p] ∧ ((SqL K H p ys ∧ ∀ l, H l = none → Q (.ref l) (upd H l (.tup ys))) ∨ (SqT K H p ys ∧ Q (.ref p) H))) ha fun x a σ ρ S H A B w e ra => ?_
  cases h : (pkO ρ a).bind itemsO with
  | none => exact True.intro
  | some c =>
    obtain ⟨l, ds⟩ := c
    obtain ⟨o, h1, h2⟩ := Option.bind_eq_some_iff.mp h
    obtain ⟨B', q⟩ := ra o h1
    obtain ⟨p, vs, ev, sq, da⟩ := or_items w q h2
    intro Q k
    refine ⟨p, vs, by rw [ev], ?_⟩
    cases l with
    | true => exact .inl ⟨sq, fun l hl => tupFz w e da hl k⟩
    | false => exact .inr ⟨sq, by rw [← ev]; exact fzEnd w e (items_tup q h2) k⟩
def rCatS (K : PySem.W.Frag) : R2 := fun x y H Q => ∃ l b xs zs, x = .ref l ∧ y = .ref b ∧ SqL K H l xs ∧ SqL K H b zs ∧ xs.length + zs.length ≤ sizeLine ∧ ∀ p, H p = none → Q (.ref p) (upd H p (.lst (xs ++ zs)))
theorem op_catS {X : Cx} : OpR X (binaryOp .Add) (rCatS X.K) := by
  intro pins s σ H x y v u Q I rx ry h
  obtain ⟨l, b, xs, zs, rfl, rfl, h1, h2, hz, q⟩ := h
  cases rx
  cases ry
  obtain ⟨i1, r1, ⟨⟨c1, d1, t1, s1⟩, n1, e1, k1, k2, k3⟩, _⟩ := I.list h1
  obtain ⟨i2, r2, ⟨⟨c2, d2, t2, s2⟩, n2, e2, j1, j2, j3⟩, _⟩ := I.list h2
  dsimp only at k1 k2 k3 j1 j2 j3
  subst k1 k2 k3 j1 j2 j3
  have hs : i1.toArray.size + i2.toArray.size ≤ sizeLine := by
    have a := r1.length
    have b := r2.length
    rw [List.size_toArray, List.size_toArray]; omega
  refine concat_meets ⟨_, e1, rfl⟩ ⟨_, e2, rfl⟩ noFill_list_add seq_list_add PySem.F.slot_list_add PySem.F.entry_list_add (PySem.F.args_list_add_2 _ _) (PyProof.Rows.list_addW l b i1.toArray i2.toArray n1 n2 none none s1 s2 hs) ⟨e1, e2, ?_⟩
  have ea : i1.toArray ++ i2.toArray = (i1 ++ i2).toArray := by simp
  rw [ea]
  exact ⟨.ref _, _, I.lnew (t' := s.toks) (r1.append r2) (by rw [List.length_append]; exact hz), rfl, q _ I.fresh⟩
theorem dpall_app : ∀ {vs ws : List V} {ds es : List PyData}, DpAll K S vs ds → DpAll K S ws es → DpAll K S (vs ++ ws) (ds ++ es)
  | _, _, _, _, .nil, h => h
  | _, _, _, _, .cons q r, h => .cons q (dpall_app r h)
theorem dpall_rep {vs : List V} {ds : List PyData} (h : DpAll K S vs ds) : ∀ n : Nat, DpAll K S (List.replicate n vs).flatten (List.replicate n ds).flatten
  | 0 => .nil
  | n + 1 => by
    rw [List.replicate_succ, List.replicate_succ, List.flatten_cons, List.flatten_cons]
    exact dpall_app h (dpall_rep h n)
def eCat (fa fb : FP) : FE := fun ρ => (fa ρ).bind fun a ρ1 => (fb ρ1).bind fun b ρ2 => match (pkO ρ2 a).bind lstI, (pkO ρ2 b).bind lstI with
  | some ds, some es => if ds.length + es.length ≤ sizeLine then .ok (.lst ((ds ++ es).map O.fz)) ρ2 else .bad
  | _, _ => .bad
theorem sndE_cat {ta tb : TE} {fa fb : FP} (ha : SndP K W ta fa) (hb : SndP K W tb fb) : SndE K W (tOp (rCatS K) ta tb) (eCat fa fb) := by
  refine snd_two (r := rCatS K) ha hb fun x y a b σ ρ S H A B w e ra rb => ?_
  cases h1 : (pkO ρ a).bind lstI with
  | none => exact True.intro
  | some ds =>
    cases h2 : (pkO ρ b).bind lstI with
    | none => exact True.intro
    | some es =>
      show OutOk K W (ROr K) _ σ S H (A + B) (if ds.length + es.length ≤ sizeLine then Out.ok (.lst ((ds ++ es).map O.fz)) ρ else .bad)
      by_cases hz : ds.length + es.length ≤ sizeLine
      · rw [if_pos hz]
        obtain ⟨o1, a1, a2⟩ := Option.bind_eq_some_iff.mp h1
        obtain ⟨o2, b1, b2⟩ := Option.bind_eq_some_iff.mp h2
        obtain ⟨B1, q1⟩ := ra o1 a1
        obtain ⟨B2, q2⟩ := rb o2 b1
        obtain ⟨p, vs, ev, sq, da⟩ := or_lst w q1 a2
        obtain ⟨p2, vs2, ev2, sq2, da2⟩ := or_lst w q2 b2
        exact fun Q k => ⟨p, p2, vs, vs2, ev, ev2, sq, sq2, by rw [dpall_len da, dpall_len da2]; exact hz, fun l hl => lstFz w e (dpall_app da da2) hl k⟩
      · rw [if_neg hz]; exact True.intro
theorem mulW (l : Addr) (vs : Array Value) (n : Nat) (sl : Array (Option Value)) (x : Int) (u : Tok) (g0 : ¬(!Builtin.List.listFitsIndex x) = true) (g1 : ¬vs.size * x.toNat > (2 ^ 63 - 1) / 8) (g2 : ¬Builtin.List.listTooLong (vs.size * x.toNat) = true) :
    Meets (Builtin.«list.__mul__» ⟨[.ref l, .int x u], []⟩) (fun _ R s => s.heap.get? l = some { cls := .type "list", dict := none, data := .seq vs n, slots := sl } ∧ R (.ok (.ret (Value.ref s.heap.objs.size))) { s with heap := s.heap.push { cls := Value.type "list", data := Data.seq (List.foldl (fun p q => p ++ q) #[] (List.replicate (if vs.isEmpty = true then 0 else x.toNat) vs)) }, toks := s.toks }) :=
  .of_wp fun prog w A R s h => by
    obtain ⟨hp, g, d, tk, os⟩ := s
    obtain ⟨hl, h⟩ := h
    have f1 := AutoSeq1.idx_int
    have big := AutoListH.joined_fits g2
    wp_walk using wpAny_loadPart' hl
    refine wpAny_ite_false (decide_eq_false (Nat.not_lt.mpr big)) ?_
    wp_walk using wpAny_loadPart' hl
    exact ⟨_, rfl, h⟩
theorem rmulW (a : Int) (t : Tok) (l : Addr) (vs : Array Value) (n : Nat) (sl : Array (Option Value)) :
    Meets (Builtin.«int.__rmul__» ⟨[.int a t, .ref l], []⟩) (fun _ R s => s.heap.get? l = some { cls := .type "list", dict := none, data := .seq vs n, slots := sl } ∧ R (.ok (.ret Value.notImplemented)) s) :=
  .of_wp fun prog w A R s h => by
    obtain ⟨hp, g, d, tk, os⟩ := s
    obtain ⟨hl, h⟩ := h
    wp_walk using wpAny_loadPart' hl
    exact ⟨_, rfl, h⟩
theorem fold_rep (vs : List Value) : ∀ (m : Nat) (acc : List Value), List.foldl (fun p q => p ++ q) acc.toArray (List.replicate m vs.toArray) = (acc ++ (List.replicate m vs).flatten).toArray
  | 0, acc => by simp
  | m + 1, acc => by
    rw [List.replicate_succ, List.foldl_cons, show acc.toArray ++ vs.toArray = (acc ++ vs).toArray by simp, fold_rep vs m, List.replicate_succ, List.flatten_cons, List.append_assoc]
theorem fold_rep0 (vs : List Value) (m : Nat) : List.foldl (fun p q => p ++ q) #[] (List.replicate (if vs.toArray.isEmpty = true then 0 else m) vs.toArray) = (List.replicate m vs).flatten.toArray := by
  have h : ∀ m, List.foldl (fun p q => p ++ q) #[] (List.replicate m vs.toArray) = (List.replicate m vs).flatten.toArray := fun m => by
    have := fold_rep vs m []
    rw [List.nil_append] at this
    exact this
  rw [h]
  cases vs with
  | nil => simp
  | cons a r => rw [if_neg (by simp)]
def rRepS (K : PySem.W.Frag) : R2 := fun x y H Q => ∃ l n xs, x = .ref l ∧ y = .int n ∧ SqL K H l xs ∧ (-(2 ^ 63) ≤ n ∧ n < 2 ^ 63 ∧ xs.length * n.toNat ≤ sizeLine) ∧ ∀ p, H p = none → Q (.ref p) (upd H p (.lst (List.replicate n.toNat xs).flatten))
theorem op_repS {X : Cx} : OpR X (binaryOp .Mult) (rRepS X.K) := by
  intro pins s σ H x y v u Q I rx ry h
  obtain ⟨l, n, xs, rfl, rfl, hs, ⟨n1, n2, hz⟩, q⟩ := h
  cases rx
  obtain ⟨t, rfl⟩ := ry
  obtain ⟨i1, r1, ⟨⟨c1, d1, t1, s1⟩, m1, e1, k1, k2, k3⟩, _⟩ := I.list hs
  dsimp only at k1 k2 k3
  subst k1 k2 k3
  have hl := r1.length
  have hsz : i1.toArray.size * n.toNat ≤ sizeLine := by rw [List.size_toArray, ← hl]; exact hz
  have g0 : ¬ (!Builtin.List.listFitsIndex n) = true := by rw [fitsIndex_both n1 n2]; decide
  have g1 : ¬ i1.toArray.size * n.toNat > (2 ^ 63 - 1) / 8 := by
    have : (sizeLine : Nat) ≤ (2 ^ 63 - 1) / 8 := by decide
    omega
  have g2 : ¬ Builtin.List.listTooLong (i1.toArray.size * n.toNat) = true := by rw [notLongL hsz]; decide
  have st : s.TypeIs (.ref l) "list" := ⟨_, e1, rfl⟩
  refine wpAny_binaryOp_repeat_ref (T := "list") (U := "int") (by decide) st (fun z => typeIs_int z n t) noFill_list_mul F.fills_int_mul F.slot_int_rmul repeat_list F.slot_int_index.lookup ?_
  refine call_meets F.slot_int_rmul (typeIs_int s n t) F.entry_int_rmul (F.args_int_rmul_2 _ _) (rmulW n t l i1.toArray m1 s1) ⟨e1, rfl, st, ?_⟩
  refine call_meets F.slot_list_mul st F.entry_list_mul (F.args_list_mul_2 _ _) (mulW l i1.toArray m1 s1 n t g0 g1 g2) ⟨e1, ?_⟩
  rw [fold_rep0]
  refine ⟨.ref _, _, I.lnew (t' := s.toks) (r1.rep n.toNat) ?_, rfl, q _ I.fresh⟩
  rw [PyProof.Rows.lm_len_rep_flat, Nat.mul_comm]
  exact hz
def eRep (fa fb : FP) : FE := fun ρ => (fa ρ).bind fun a ρ1 => (fb ρ1).bind fun b ρ2 => match (pkO ρ2 a).bind lstI, pkD ρ2 b with
  | some ds, some (.int n) => if -(2 ^ 63) ≤ n ∧ n < 2 ^ 63 ∧ ds.length * n.toNat ≤ sizeLine then .ok (.lst ((List.replicate n.toNat ds).flatten.map O.fz)) ρ2 else .bad
  | _, _ => .bad
theorem sndE_rep {ta tb : TE} {fa fb : FP} (ha : SndP K W ta fa) (hb : SndP K W tb fb) : SndE K W (tOp (rRepS K) ta tb) (eRep fa fb) := by
  refine snd_two (r := rRepS K) ha hb fun x y a b σ ρ S H A B w e ra rb => ?_
  cases h1 : (pkO ρ a).bind lstI with
  | none => exact True.intro
  | some ds =>
    cases h2 : pkD ρ b with
    | none => exact True.intro
    | some d =>
      cases d with
      | int n =>
        show OutOk K W (ROr K) _ σ S H (A + B) (if -(2 ^ 63) ≤ n ∧ n < 2 ^ 63 ∧ ds.length * n.toNat ≤ sizeLine then Out.ok (.lst ((List.replicate n.toNat ds).flatten.map O.fz)) ρ else .bad)
        by_cases hz : -(2 ^ 63) ≤ n ∧ n < 2 ^ 63 ∧ ds.length * n.toNat ≤ sizeLine
        · rw [if_pos hz]
          obtain ⟨o1, a1, a2⟩ := Option.bind_eq_some_iff.mp h1
          obtain ⟨B1, q1⟩ := ra o1 a1
          obtain ⟨p, vs, ev, sq, da⟩ := or_lst w q1 a2
          exact fun Q k => ⟨p, n, vs, ev, dp_int (pkD_or w rb h2), sq, ⟨hz.1, hz.2.1, by rw [dpall_len da]; exact hz.2.2⟩, fun l hl => lstFz w e (dpall_rep da _) hl k⟩
        · rw [if_neg hz]; exact True.intro
      | _ => exact True.intro
end
end Ls
namespace Ls
open PySem L2
variable [Tb] [Vw]
def tupI (o : O) : Option (List PyData) := match itemsO o with
  | some (false, ds) => some ds
  | _ => none
section
variable {K : PySem.W.Frag} {W : WX} {S H : Hp} {A B C : Fp} {σ : St} {ρ : En}
theorem or_tup {x : V} {o : O} {ds : List PyData} {T : Fp} (w : WF S H T) (q : OR K S H x o B) (h : tupI o = some ds) : Dp K S x (.tuple ds) ∧ ∃ a vs, x = .ref a ∧ SqT K H a vs ∧ DpAll K S vs ds := by
  unfold tupI at h
  cases e : itemsO o with
  | none => rw [e] at h; cases h
  | some p =>
    obtain ⟨l, ds'⟩ := p
    rw [e] at h
    cases l with
    | true => cases h
    | false => cases h; exact ⟨items_tup q e, or_items w q e⟩
def eRepT (fa fb : FP) : FE := fun ρ => (fa ρ).bind fun a ρ1 => (fb ρ1).bind fun b ρ2 => match (pkO ρ2 a).bind tupI, pkD ρ2 b with
  | some ds, some (.int n) => if ds ≠ [] ∧ 1 ≤ n ∧ n ≤ 1000 ∧ ds.length ≤ 1000 then .ok (.fz (.tuple (List.replicate n.toNat ds).flatten)) ρ2 else .bad
  | _, _ => .bad
def eCatT (fa fb : FP) : FE := fun ρ => (fa ρ).bind fun a ρ1 => (fb ρ1).bind fun b ρ2 => match (pkO ρ2 a).bind tupI, (pkO ρ2 b).bind tupI with
  | some ds, some es => if ds.length + es.length ≤ sizeLine then .ok (.fz (.tuple (ds ++ es))) ρ2 else .bad
  | _, _ => .bad
theorem sndE_catT {ta tb : TE} {fa fb : FP} (ha : SndP K W ta fa) (hb : SndP K W tb fb) : SndE K W (tOp (rCatA K) ta tb) (eCatT fa fb) := by
  refine snd_two (r := rCatA K) ha hb fun x y a b σ ρ S H A B w e ra rb => ?_
  cases h1 : (pkO ρ a).bind tupI with
  | none => exact True.intro
  | some ds =>
    cases h2 : (pkO ρ b).bind tupI with
    | none => exact True.intro
    | some es =>
      show OutOk K W (ROr K) _ σ S H (A + B) (if ds.length + es.length ≤ sizeLine then Out.ok (.fz (.tuple (ds ++ es))) ρ else .bad)
      by_cases hz : ds.length + es.length ≤ sizeLine
      · rw [if_pos hz]
        obtain ⟨o1, a1, a2⟩ := Option.bind_eq_some_iff.mp h1
        obtain ⟨o2, b1, b2⟩ := Option.bind_eq_some_iff.mp h2
        obtain ⟨B1, q1⟩ := ra o1 a1
        obtain ⟨B2, q2⟩ := rb o2 b1
        obtain ⟨hd, p, vs, ev, sq, da⟩ := or_tup w q1 a2
        obtain ⟨hd2, p2, vs2, ev2, sq2, da2⟩ := or_tup w q2 b2
        have nil : ∀ {vs : List V} {ds : List PyData}, DpAll K S vs ds → vs = [] → ds = [] := fun h z => List.eq_nil_of_length_eq_zero (by rw [← dpall_len h, z]; rfl)
        intro Q k
        refine ⟨p, p2, vs, vs2, ev, ev2, sq, sq2, by rw [dpall_len da, dpall_len da2]; exact hz, fun z => ?_, fun _ z => ?_, fun _ _ l hl => tupFz w e (dpall_app da da2) hl k⟩
        · rw [nil da z, List.nil_append] at k
          rw [← ev2]
          exact fzEnd w e hd2 k
        · rw [nil da2 z, List.append_nil] at k
          rw [← ev]
          exact fzEnd w e hd k
      · rw [if_neg hz]; exact True.intro
def cutG {α : Type} (xs : List α) (lo hi : Option Int) : List α := (xs.drop (HT.sIx xs.length 0 lo)).take (HT.sIx xs.length xs.length hi - HT.sIx xs.length 0 lo)
theorem dpall_drop : ∀ {vs : List V} {ds : List PyData} (n : Nat), DpAll K S vs ds → DpAll K S (vs.drop n) (ds.drop n)
  | _, _, 0, h => h
  | _, _, _ + 1, .nil => .nil
  | _, _, n + 1, .cons _ r => dpall_drop n r
theorem dpall_take : ∀ {vs : List V} {ds : List PyData} (n : Nat), DpAll K S vs ds → DpAll K S (vs.take n) (ds.take n)
  | _, _, 0, h => .nil
  | _, _, _ + 1, .nil => .nil
  | _, _, n + 1, .cons q r => .cons q (dpall_take n r)
theorem dpall_cut {vs : List V} {ds : List PyData} (h : DpAll K S vs ds) (lo hi : Option Int) : DpAll K S (cutV vs lo hi) (cutG ds lo hi) := by
  unfold cutV cutG
  rw [dpall_len h]
  exact dpall_take _ (dpall_drop _ h)
abbrev FN := En → Out (Option Int)
abbrev SndN (K : PySem.W.Frag) (W : WX) (t : TO) (f : FN) : Prop := Snd K W (REq (Option Int)) t f
def nNo : FN := fun ρ => .ok none ρ
def nE (f : FP) : FN := fun ρ => (f ρ).bind fun p ρ1 => match pkD ρ1 p with
  | some (.int i) => .ok (some i) ρ1
  | _ => .bad
theorem sndN_no : SndN K W tNoPart nNo := by
  intro σ ρ S H A w e Q k
  exact k none S H A Fp.z (by rw [addz]; exact w) e ⟨rfl, fun _ => rfl⟩ (by rw [addz]; exact Tr.refl)
theorem sndN_e {t : TE} {f : FP} (h : SndP K W t f) : SndN K W (tPart t) (nE f) := by
  refine snd_one (r := fun x H Q => ∃ i, x = .int i ∧ Q (some i) H) h fun x a σ ρ S H A B w e ra => ?_
  cases h1 : pkD ρ a with
  | none => exact True.intro
  | some d =>
    cases d with
    | int i => exact fun Q k => ⟨i, dp_int (pkD_or w ra h1), k (some i) S H A Fp.z (by rw [addz]; exact w.less le1) e ⟨rfl, fun _ => rfl⟩ (by rw [addz]; exact Tr.refl.less le1)⟩
    | _ => exact True.intro
def slO (o : O) (lo hi : Option Int) : Option O := match o with
  | .fz (.str z) => if z.length ≤ sizeLine then some (.fz (.str (cutS z lo hi))) else none
  | o => (match itemsO o with
    | some (true, ds) => some (.lst ((cutG ds lo hi).map O.fz))
    | some (false, ds) => if HT.sIx ds.length 0 lo = 0 ∧ HT.sIx ds.length ds.length hi = ds.length then none else some (.fz (.tuple (cutG ds lo hi)))
    | none => none)
def eSl (fa : FP) (fl fh : FN) : FE := fun ρ => (fa ρ).bind fun a ρ1 => (fl ρ1).bind fun l ρ2 => (fh ρ2).bind fun h ρ3 => match (pkO ρ3 a).bind fun o => slO o l h with
  | some o => .ok o ρ3
  | none => .bad
def rSlX (K : PySem.W.Frag) : V → Option Int → Option Int → Hp → VK → Prop := fun x lo hi H Q => rSlL K x lo hi H Q ∨ (rSlT K x lo hi H Q ∨ (∃ z, x = .str z ∧ z.length ≤ sizeLine ∧ Q (.str (cutS z lo hi)) H))
theorem sl_end {x : V} {o c : O} {lo hi : Option Int} {Q : VK} (w : WF S H (A + B)) (e : ER K S H σ ρ A) (q : ∃ B', OR K S H x o B') (h : slO o lo hi = some c) (k : PostV K (ROr K) σ S H (A + B) c ρ Q) : rSlX K x lo hi H Q := by
  obtain ⟨B', q⟩ := q
  by_cases hs : ∃ z, o = .fz (.str z)
  · obtain ⟨z, rfl⟩ := hs
    have h : (if z.length ≤ sizeLine then some (O.fz (.str (cutS z lo hi))) else none) = some c := h
    by_cases hz : z.length ≤ sizeLine
    · rw [if_pos hz] at h
      cases h
      cases q with
      | fz q _ =>
        cases q
        exact .inr (.inr ⟨z, rfl, hz, fzEnd w e (.str _) k⟩)
    · rw [if_neg hz] at h; cases h
  · have h : (match itemsO o with
        | some (true, ds) => some (O.lst ((cutG ds lo hi).map O.fz))
        | some (false, ds) => if HT.sIx ds.length 0 lo = 0 ∧ HT.sIx ds.length ds.length hi = ds.length then none else some (.fz (.tuple (cutG ds lo hi)))
        | none => none) = some c := by
      rw [← h]
      cases o with
      | fz d => cases d <;> first | rfl | exact absurd ⟨_, rfl⟩ hs
      | _ => rfl
    cases hi' : itemsO o with
    | none => rw [hi'] at h; cases h
    | some p =>
      obtain ⟨l, ds⟩ := p
      obtain ⟨a, vs, ev, sq, da⟩ := or_items w q hi'
      rw [hi'] at h
      cases l with
      | true =>
        cases h
        exact .inl ⟨a, vs, ev, sq, fun p hp => lstFz w e (dpall_cut da lo hi) hp k⟩
      | false =>
        have h : (if HT.sIx ds.length 0 lo = 0 ∧ HT.sIx ds.length ds.length hi = ds.length then none else some (O.fz (.tuple (cutG ds lo hi)))) = some c := h
        by_cases hz : HT.sIx ds.length 0 lo = 0 ∧ HT.sIx ds.length ds.length hi = ds.length
        · rw [if_pos hz] at h; cases h
        · rw [if_neg hz] at h
          cases h
          exact .inr (.inl ⟨a, vs, ev, sq, by rw [dpall_len da]; exact hz, fun p hp => tupFz w e (dpall_cut da lo hi) hp k⟩)
theorem sndE_sl {te : TE} {tl th : TO} {fa : FP} {fl fh : FN} (ha : SndP K W te fa) (hl : SndN K W tl fl) (hh : SndN K W th fh) : SndE K W (tSl (rSlX K) te tl th) (eSl fa fl fh) := by
  refine snd_bind (u := fun x σ H Q => tl σ H fun l H2 => th σ H2 fun u H3 => rSlX K x l u H3 Q) ha fun x a σ ρ S H A B w e ra => ?_
  have h2 := snd_beside hl w e
  show OutOk K W (ROr K) _ σ S H (A + B) ((fl ρ).bind _)
  cases hf : fl ρ with
  | bad => exact True.intro
  | exc x' ρ' =>
    rw [hf] at h2
    exact fun Q k => h2 _ k
  | ok l ρ2 =>
    rw [hf] at h2
    show OutOk K W (ROr K) _ σ S H (A + B) ((fh ρ2).bind _)
    cases hf3 : fh ρ2 with
    | bad => exact True.intro
    | exc x' ρ' =>
      intro Q k
      refine h2 _ fun l' S' H' A' C w' e' rb t' sub kp => ?_
      have w2 : WF S' H' (A' + B) := w'.less fun b => by simp only [add_at]; omega
      have h3 := snd_beside hh w2 e'
      rw [hf3] at h3
      have t2 : Tr S H (A + B) S' H' (A' + B) := t'.less fun b => by simp only [add_at]; omega
      exact h3 _ fun cls d S4 H4 A4 w4 e4 x4 t4 => k cls d S4 H4 A4 w4 e4 x4 (t2.trans t4)
    | ok u ρ3 =>
      show OutOk K W (ROr K) _ σ S H (A + B) (match (pkO ρ3 a).bind fun o => slO o l u with
        | some o => Out.ok o ρ3
        | none => .bad)
      cases h3 : (pkO ρ3 a).bind fun o => slO o l u with
      | none => exact True.intro
      | some c =>
        obtain ⟨o, h4, h5⟩ := Option.bind_eq_some_iff.mp h3
        intro Q k
        refine h2 _ fun l' S' H' A' C w' e' rb t' sub kp => ?_
        obtain ⟨rfl, _⟩ := rb
        have w2 : WF S' H' (A' + B) := w'.less fun b => by simp only [add_at]; omega
        have h3' := snd_beside hh w2 e'
        rw [hf3] at h3'
        have t2 : Tr S H (A + B) S' H' (A' + B) := t'.less fun b => by simp only [add_at]; omega
        refine h3' _ fun u' S4 H4 A4 C4 w4 e4 r4 t4 sub4 kp4 => ?_
        obtain ⟨rfl, _⟩ := r4
        have ra' := stays_pk σ S' H' S4 H4 x a B sub4 kp4 (stays_pk σ S H S' H' x a B sub kp ra)
        have w5 : WF S4 H4 (A4 + B) := w4.less fun b => by simp only [add_at]; omega
        refine sl_end w5 e4 (pk_or e4 ra' h4) h5 fun v S6 H6 A6 B6 w6 e6 r6 t6 => k v S6 H6 A6 B6 w6 e6 r6 ((t2.trans (t4.less fun b => by simp only [add_at]; omega)).trans t6)
end
section
variable {X : Cx} {W : WX} {a b : Expr} {fa fb : FP} {pos p : Pos} {x : Str}
theorem ev_cat (ha : PV X W a fa) (hb : PV X W b fb) : EV X W (.BinOp a .Add b pos) (eCat fa fb) := let ⟨_, a1, a2⟩ := ha.ex; let ⟨_, b1, b2⟩ := hb.ex; ⟨_, pe_op op_catS a1 b1, sndE_cat a2 b2⟩
theorem ev_rep (ha : PV X W a fa) (hb : PV X W b fb) : EV X W (.BinOp a .Mult b pos) (eRep fa fb) := let ⟨_, a1, a2⟩ := ha.ex; let ⟨_, b1, b2⟩ := hb.ex; ⟨_, pe_op op_repS a1 b1, sndE_rep a2 b2⟩
theorem ev_catT (ha : PV X W a fa) (hb : PV X W b fb) : EV X W (.BinOp a .Add b pos) (eCatT fa fb) := let ⟨_, a1, a2⟩ := ha.ex; let ⟨_, b1, b2⟩ := hb.ex; ⟨_, pe_op op_catA a1 b1, sndE_catT a2 b2⟩
structure NV (X : Cx) (W : WX) (e : Option Expr) (f : FN) : Prop where
  ex : ∃ t, PO X e t ∧ SndN X.K W t f
theorem nv_no : NV X W none nNo := ⟨_, po_none, sndN_no⟩
theorem nv_e (h : PV X W a fa) : NV X W (some a) (nE fa) := let ⟨_, h1, h2⟩ := h.ex; ⟨_, po_some h1, sndN_e h2⟩
theorem ev_sl {lo hi : Option Expr} {fl fh : FN} {p2 : Pos} (ha : PV X W a fa) (hl : NV X W lo fl) (hh : NV X W hi fh) : EV X W (.Subscript a (.Slice lo hi none p2) pos) (eSl fa fl fh) :=
  let ⟨_, a1, a2⟩ := ha.ex; let ⟨_, l1, l2⟩ := hl.ex; let ⟨_, h1, h2⟩ := hh.ex; ⟨_, pe_slice (sl_list.or (sl_tup.or sl_str)) a1 l1 h1, sndE_sl a2 l2 h2⟩
theorem ev_b1 {id : String} {r : List V → Hp → VK → Prop} {g : O → Option PyData} (hc : CallR X (.builtin id) r) (hg2 : BiS X.K r g) (hg : Gl X x) (hm : X.mg x = none) (hv : bootBuiltins x = some (.builtin id)) (ha : PV X W a fa) (hn : x ≠ "__name__" := by decide) (hdb : (x == ("__debug__" : Str)) = false := by decide)
    (he : starEach [a] X.env = [(false, eval a X.env)] := by rfl) : EV X W (.Call (.Name x p) [a] [] pos) (eB1 g fa) :=
  let ⟨_, a1, a2⟩ := ha.ex; ⟨_, pe_callB hc hg hm hv (pa_cons a1 pa_nil he) hn hdb he, sndE_b1 hg2 a2⟩
theorem ev_t1 {T : String} {r : List V → Hp → VK → Prop} {g : O → Option PyData} (hc : CallR X (.type T) r) (hg2 : BiS X.K r g) (hg : Gl X x) (hm : X.mg x = none) (hv : bootBuiltins x = some (.type T)) (ha : PV X W a fa) (hn : x ≠ "__name__" := by decide) (hdb : (x == ("__debug__" : Str)) = false := by decide)
    (he : starEach [a] X.env = [(false, eval a X.env)] := by rfl) : EV X W (.Call (.Name x p) [a] [] pos) (eB1 g fa) :=
  let ⟨_, a1, a2⟩ := ha.ex; ⟨_, pe_callTy hc hg hm hv (pa_cons a1 pa_nil he) hn hdb he, sndE_b1 hg2 a2⟩
theorem ev_len (hg : Gl X "len") (hm : X.mg "len" = none) (ha : PV X W a fa) (he : starEach [a] X.env = [(false, eval a X.env)] := by rfl) : EV X W (.Call (.Name "len" p) [a] [] pos) (eB1 lenO fa) := ev_b1 call_len biS_len hg hm boot_len ha (he := he)
theorem ev_sum (hc : X.calm = true) (hg : Gl X "sum") (hm : X.mg "sum" = none) (ha : PV X W a fa) (he : starEach [a] X.env = [(false, eval a X.env)] := by rfl) : EV X W (.Call (.Name "sum" p) [a] [] pos) (eB1 sumO fa) := ev_b1 (cr_sum hc) biS_sum hg hm (by decide +kernel) ha (he := he)
theorem ev_all (hc : X.calm = true) (hg : Gl X "all") (hm : X.mg "all" = none) (ha : PV X W a fa) (he : starEach [a] X.env = [(false, eval a X.env)] := by rfl) : EV X W (.Call (.Name "all" p) [a] [] pos) (eB1 allO fa) := ev_b1 (cr_all hc) biS_all hg hm (by decide +kernel) ha (he := he)
theorem ev_intc (hg : Gl X "int") (hm : X.mg "int" = none) (ha : PV X W a fa) (he : starEach [a] X.env = [(false, eval a X.env)] := by rfl) : EV X W (.Call (.Name "int" p) [a] [] pos) (eB1 intO fa) := ev_t1 call_int1 biS_int hg hm (by decide +kernel) ha (he := he)
theorem ev_list (hg : Gl X "list") (hm : X.mg "list" = none) (ha : PV X W a fa) (he : starEach [a] X.env = [(false, eval a X.env)] := by rfl) : EV X W (.Call (.Name "list" p) [a] [] pos) (eList fa) :=
  let ⟨_, a1, a2⟩ := ha.ex; ⟨_, pe_callTy call_list_of hg hm (by decide +kernel) (pa_cons a1 pa_nil he) (he := he), sndE_list a2⟩
theorem ev_tuple (hg : Gl X "tuple") (hm : X.mg "tuple" = none) (ha : PV X W a fa) (he : starEach [a] X.env = [(false, eval a X.env)] := by rfl) : EV X W (.Call (.Name "tuple" p) [a] [] pos) (eTuple fa) :=
  let ⟨_, a1, a2⟩ := ha.ex; ⟨_, pe_callTy call_tuple_of hg hm (by decide +kernel) (pa_cons a1 pa_nil he) (he := he), sndE_tuple a2⟩
theorem ev_isi {T : String} {y : Str} {p2 : Pos} (hg : Gl X "isinstance") (hm : X.mg "isinstance" = none) (hy : Gl X y) (hmy : X.mg y = none) (hv : bootBuiltins y = some (.type T)) (ha : PV X W a fa) (hn : y ≠ "__name__" := by decide) (hdb : (y == ("__debug__" : Str)) = false := by decide)
    (he : starEach [a, .Name y p2] X.env = (false, eval a X.env) :: starEach [.Name y p2] X.env := by rfl) (he2 : starEach [.Name y p2] X.env = [(false, eval (.Name y p2) X.env)] := by rfl) (hpl : (backTo pos (starEach [.Name y p2] X.env)).any (·.1) = false := by rfl) : EV X W (.Call (.Name "isinstance" p) [a, .Name y p2] [] pos) (eIsi T fa) :=
  let ⟨_, a1, a2⟩ := ha.ex; ⟨_, pe_callB call_isi hg hm (by decide +kernel) (pa_cons a1 (pa_cons (pe_bltn (v := .ty T) hy hmy hv rfl hn hdb) pa_nil he2) he) (he := he) (hpl := hpl), sndE_isi a2⟩
end
end Ls
namespace Ls
open PySem L2
variable [Tb] [Vw]
inductive Sr where
  | st (l : Bool) (ds : List PyData) | sl (l : Bool) (i : Nat) | rg (lo : Int) (n : Nat) | zp (a b : Sr) | en (a : Sr)
def rgD (lo : Int) (n : Nat) : List PyData := (List.range n).map fun i => .int (lo + (i : Nat))
def enD (xs : List PyData) : List PyData := xs.zipIdx.map fun p => .tuple [.int (p.2 : Nat), p.1]
def zpD (xs ys : List PyData) : List PyData := (xs.zip ys).map fun p => .tuple [p.1, p.2]
def Sr.at (ρ : En) : Sr → Option (List PyData)
  | .st _ ds => some ds
  | .sl l i => ((ρ[i]?).bind id).bind fun o => (itemsO o).bind fun p => if p.1 = l then some p.2 else none
  | .rg lo n => some (rgD lo n)
  | .zp a b => (a.at ρ).bind fun xs => (b.at ρ).map fun ys => zpD xs ys
  | .en a => (a.at ρ).map enD
def Sr.kind : Sr → Option Bool
  | .st l _ => some l
  | .sl l _ => some l
  | _ => none
def Sr.slots : Sr → List Nat
  | .st _ _ => []
  | .sl _ i => [i]
  | .rg _ _ => []
  | .zp a b => a.slots ++ b.slots
  | .en a => a.slots
def Src (K : PySem.W.Frag) (σ : St) (S0 : Hp) (J : It) (s : Sr) : Prop := ∀ σ' ρ S H A T j ds, (∀ i ∈ s.slots, σ'[i]? = σ[i]?) → (∀ a u, S0 a = some u → S a = some u) → WF S H T → (∀ b, A b ≤ T b) → ER K S H σ' ρ A → s.at ρ = some ds →
  (∀ d, ds[j]? = some d → J.go j H ∧ ∀ x H', J.yld j H x H' → ∃ S', WF S' H' T ∧ Tr S H T S' H' T ∧ (∀ a, 0 < T a → H' a = H a) ∧ Dp K S' x d) ∧ (ds.length ≤ j → J.stop j H)
def RSr (K : PySem.W.Frag) : RR It Sr := fun σ S H J s B => Src K σ S J s ∧ ∀ b, B b = 0
abbrev FI := En → Out Sr
abbrev SndI (K : PySem.W.Frag) (W : WX) (t : TI) (f : FI) : Prop := Snd K W (RSr K) t f
structure IV (X : Cx) (W : WX) (tg iter : Expr) (f : FI) : Prop where
  ex : ∃ t, PI X tg iter t ∧ SndI X.K W t f
section
variable {K : PySem.W.Frag} {W : WX} {S H : Hp} {A B C : Fp} {σ : St} {ρ : En}
def srOf (ρ : En) : Pk → Option Sr
  | .v i => (((ρ[i]?).bind id).bind itemsO).map fun p => .sl p.1 i
  | .o o => match frz o with
    | some (.list ds) => some (.st true ds)
    | some (.tuple ds) => some (.st false ds)
    | some _ => none
    | none => match o with
      | .vu u => (itemsO0 u).map fun p => .st p.1 p.2
      | _ => none
def SqW (K : PySem.W.Frag) (σ : St) (S0 : Hp) (a : Addr) (l : Bool) (s : Sr) : Prop := ∀ σ' ρ S H A T ds, (∀ i ∈ s.slots, σ'[i]? = σ[i]?) → (∀ a u, S0 a = some u → S a = some u) → WF S H T → (∀ b, A b ≤ T b) → ER K S H σ' ρ A → s.at ρ = some ds → ∃ vs, SqB K H a vs l ∧ DpAll K S vs ds
def RSeq (K : PySem.W.Frag) : RR V Sr := fun σ S H v s B => (∀ b, B b = 0) ∧ ∃ a l, s.kind = some l ∧ v = .ref a ∧ SqW K σ S a l s
def fSeq (f : FP) : FI := fun ρ => (f ρ).bind fun p ρ1 => match srOf ρ1 p with
  | some s => .ok s ρ1
  | none => .bad
theorem srOf_at {p : Pk} {s : Sr} (h : srOf ρ p = some s) : ∃ ds, s.at ρ = some ds := by
  cases p with
  | v i =>
    obtain ⟨⟨l, ds⟩, a1, a2⟩ := Option.map_eq_some_iff.mp (show (((ρ[i]?).bind id).bind itemsO).map _ = some s from h)
    subst a2
    obtain ⟨o, b1, b2⟩ := Option.bind_eq_some_iff.mp a1
    refine ⟨ds, ?_⟩
    show ((ρ[i]?).bind id).bind (fun o => (itemsO o).bind fun p => if p.1 = l then some p.2 else none) = some ds
    rw [b1]
    show (itemsO o).bind (fun p => if p.1 = l then some p.2 else none) = some ds
    rw [b2]
    exact if_pos rfl
  | o o =>
    unfold srOf at h
    dsimp only at h
    split at h
    · cases h; exact ⟨_, rfl⟩
    · cases h; exact ⟨_, rfl⟩
    · cases h
    · split at h
      · obtain ⟨p, _, a2⟩ := Option.map_eq_some_iff.mp h
        subst a2
        exact ⟨_, rfl⟩
      · cases h
theorem sqW_mono {S1 : Hp} {a : Addr} {l : Bool} {s : Sr} (h : SqW K σ S a l s) (m : ∀ a u, S a = some u → S1 a = some u) : SqW K σ S1 a l s := fun σ' ρ S' H A T ds h1 h2 => h σ' ρ S' H A T ds h1 fun a u z => h2 a u (m a u z)
theorem sqB_mono {S' : Hp} (h : ∀ a u, S a = some u → S' a = some u) {a : Addr} {vs : List V} {l : Bool} (r : SqB K S a vs l) : SqB K S' a vs l := by
  cases l
  · exact sqT_mono h r
  · exact sqL_mono h r
theorem snd_seq {t : TE} {f : FP} (h : SndP K W t f) : Snd K W (RSeq K) t (fSeq f) := by
  intro σ ρ S H A w e
  have h1 := h σ ρ S H A w e
  show OutOk K W (RSeq K) t σ S H A ((f ρ).bind _)
  cases hf : f ρ with
  | bad => exact True.intro
  | exc x ρ' => rw [hf] at h1; exact h1
  | ok p ρ1 =>
    rw [hf] at h1
    show OutOk K W (RSeq K) t σ S H A (match srOf ρ1 p with
      | some s => Out.ok s ρ1
      | none => .bad)
    cases hs : srOf ρ1 p with
    | none => exact True.intro
    | some s =>
      intro Q k
      refine h1 Q fun v S1 H1 A1 B1 w1 e1 r1 t1 => ?_
      cases r1 with
      | @v _ _ _ _ i _ g1 z =>
        obtain ⟨⟨l, ds⟩, a1, a2⟩ := Option.map_eq_some_iff.mp (show (((ρ1[i]?).bind id).bind itemsO).map _ = some s from hs)
        subst a2
        have key : ∀ σ' ρ S H A T ds, σ'[i]? = σ[i]? → WF S H T → (∀ b, A b ≤ T b) → ER K S H σ' ρ A → (Sr.sl l i).at ρ = some ds → ∃ a vs, v = .ref a ∧ SqB K H a vs l ∧ DpAll K S vs ds := by
          intro σ' ρ S H A T ds g2 w le e hd
          obtain ⟨o, a1, a2⟩ := Option.bind_eq_some_iff.mp (show ((ρ[i]?).bind id).bind _ = some ds from hd)
          obtain ⟨y, b1, b2⟩ := Option.bind_eq_some_iff.mp a1
          have b2 : y = some o := b2
          subst b2
          obtain ⟨v', B', C', e1', q, _, _⟩ := er_get e b1
          rw [g2, g1] at e1'
          cases e1'
          obtain ⟨⟨l', ds'⟩, c1, c2⟩ := Option.bind_eq_some_iff.mp a2
          have c2 : (if l' = l then some ds' else none) = some ds := c2
          by_cases hl : l' = l
          · rw [if_pos hl] at c2
            cases c2
            rw [← hl]
            exact or_items w q c1
          · rw [if_neg hl] at c2; cases c2
        obtain ⟨ds, hds⟩ := srOf_at hs
        obtain ⟨a, vs, ev, sq, da⟩ := key σ ρ1 S1 H1 A1 (A1 + B1) ds rfl w1 le1 e1 hds
        subst ev
        refine k _ S1 H1 A1 B1 w1 e1 ⟨z, a, l, rfl, rfl, fun σ' ρ S H A T ds g2 sub w le e hd => ?_⟩ t1
        obtain ⟨a', vs', ev', sq', da'⟩ := key σ' ρ S H A T ds (g2 i (List.mem_singleton.mpr rfl)) w le e hd
        cases ev'
        exact ⟨vs', sq', da'⟩
      | @o _ _ _ _ o _ q =>
        by_cases hvu : ∃ u, o = .vu u
        · obtain ⟨u, rfl⟩ := hvu
          obtain ⟨⟨l, ds⟩, c1, c2⟩ := Option.map_eq_some_iff.mp (show (itemsO0 u).map (fun p => Sr.st p.1 p.2) = some s from hs)
          subst c2
          cases q with
          | vu q z =>
            obtain ⟨a, vs, ev, sq, da⟩ := or_items0 w1.sub (fun a u e => (w1.vs a u e).1) q c1
            subst ev
            have eB : A1 + B1 = A1 + Fp.z := funext fun b => by rw [add_at, add_at, z b]; rfl
            rw [eB] at w1 t1
            refine k _ S1 H1 A1 Fp.z w1 e1 ⟨fun _ => rfl, a, l, rfl, rfl, fun σ' ρ S H A T ds' g2 sub w le e hd => ?_⟩ t1
            cases hd
            obtain ⟨a2, vs2, ev2, sq2, da2⟩ := or_items0 w.sub (fun a u e => (w.vs a u e).1) (or_keep sub (fun _ _ => rfl) q) c1
            cases ev2
            exact ⟨vs2, sq2, da2⟩
        obtain ⟨d, a1, a2⟩ : ∃ d, frz o = some d ∧ (match d with
            | .list ds => some (Sr.st true ds)
            | .tuple ds => some (.st false ds)
            | _ => none) = some s := by
          unfold srOf at hs
          dsimp only at hs
          split at hs
          · rename_i h; exact ⟨_, h, hs⟩
          · rename_i h; exact ⟨_, h, hs⟩
          · cases hs
          · split at hs
            · rename_i u; exact absurd ⟨_, rfl⟩ hvu
            · cases hs
        obtain ⟨w2, t2, sub2⟩ := settle_wf w1
        have dq := or_settle (fun b hb => w1.dj b (by rw [add_at]; omega)) (fun b => Nat.le_refl _) q a1
        obtain ⟨a, vs, l, ds, ev, sq, da, es⟩ : ∃ a vs l ds, v = .ref a ∧ SqB K (settle S1 H1 B1) a vs l ∧ DpAll K (settle S1 H1 B1) vs ds ∧ s = .st l ds := by
          cases dq with
          | lst qq rr => cases a2; exact ⟨_, _, true, _, rfl, qq, rr, rfl⟩
          | tup qq rr => cases a2; exact ⟨_, _, false, _, rfl, qq, rr, rfl⟩
          | _ => cases a2
        subst ev es
        refine k _ (settle S1 H1 B1) H1 A1 Fp.z (by rw [addz]; exact w2) (er_keep sub2 e1 fun _ _ => rfl) ⟨fun _ => rfl, a, l, rfl, rfl, fun σ' ρ S H A T ds' g2 sub w le e hd => ?_⟩ (by rw [addz]; exact t1.trans t2)
        cases hd
        exact ⟨vs, sqB_mono (fun a u z => w.sub a u (sub a u z)) sq, dpa_mono sub da⟩
def itB (K : PySem.W.Frag) (a : Addr) : Bool → It
  | true => Itl K a
  | false => Itt K a
theorem src_seq {a : Addr} {l : Bool} {s : Sr} (h : SqW K σ S a l s) : Src K σ S (itB K a l) s := by
  intro σ' ρ S' H A T j ds g2 sub w le e hd
  obtain ⟨vs, sq, da⟩ := h σ' ρ S' H A T ds g2 sub w le e hd
  cases l with
  | true =>
    refine ⟨fun d hj => ?_, fun hj => ⟨vs, sq, by rw [dpall_len da]; exact hj⟩⟩
    obtain ⟨v, h1, h2⟩ := dpall_get da hj
    refine ⟨⟨vs, v, sq, h1⟩, fun x H' y => ?_⟩
    obtain ⟨rfl, y2⟩ := y
    have e2 := y2 vs sq
    rw [h1] at e2
    cases e2
    exact ⟨S', w, Tr.refl, fun _ _ => rfl, h2⟩
  | false =>
    refine ⟨fun d hj => ?_, fun hj => ⟨vs, sq, by rw [dpall_len da]; exact hj⟩⟩
    obtain ⟨v, h1, h2⟩ := dpall_get da hj
    refine ⟨⟨vs, v, sq, h1⟩, fun x H' y => ?_⟩
    obtain ⟨rfl, y2⟩ := y
    have e2 := y2 vs sq
    rw [h1] at e2
    cases e2
    exact ⟨S', w, Tr.refl, fun _ _ => rfl, h2⟩
def iSeq (K : PySem.W.Frag) (tl : TE) : TI := fun σ H R => tl σ H fun x H1 => ∃ a l, x = .ref a ∧ (∃ xs, SqB K H1 a xs l) ∧ R (itB K a l) H1
theorem fSeq_at {f : FP} {s : Sr} {ρ1 : En} (h : fSeq f ρ = .ok s ρ1) : ∃ ds, s.at ρ1 = some ds := by
  have h : (f ρ).bind (fun p ρ1 => match srOf ρ1 p with
    | some s => Out.ok s ρ1
    | none => .bad) = .ok s ρ1 := h
  cases hf : f ρ with
  | bad => rw [hf] at h; cases h
  | exc x ρ' => rw [hf] at h; cases h
  | ok p ρ2 =>
    rw [hf] at h
    have h : (match srOf ρ2 p with
      | some s => Out.ok s ρ2
      | none => .bad) = .ok s ρ1 := h
    cases hs : srOf ρ2 p with
    | none => rw [hs] at h; cases h
    | some s' =>
      rw [hs] at h
      cases h
      exact srOf_at hs
theorem sndI_seq {t : TE} {f : FP} (h : SndP K W t f) : SndI K W (iSeq K t) (fSeq f) := by
  have h1 := snd_seq h
  intro σ ρ S H A w e
  have h2 := h1 σ ρ S H A w e
  cases hf : fSeq f ρ with
  | bad => exact True.intro
  | exc x ρ' =>
    rw [hf] at h2
    exact fun Q k => h2 _ k
  | ok s ρ1 =>
    rw [hf] at h2
    obtain ⟨ds, hds⟩ := fSeq_at hf
    intro Q k
    refine h2 _ fun v S1 H1 A1 B1 w1 e1 r1 t1 => ?_
    obtain ⟨z, a, l, _, ev, sw⟩ := r1
    obtain ⟨vs, sq, _⟩ := sw σ ρ1 S1 H1 A1 (A1 + B1) ds (fun _ _ => rfl) (fun _ _ h => h) w1 le1 e1 hds
    exact ⟨a, l, ev, ⟨vs, sq⟩, k _ S1 H1 A1 B1 w1 e1 ⟨src_seq sw, z⟩ t1⟩
def fRg1 (f : FP) : FI := fun ρ => (f ρ).bind fun p ρ1 => match pkD ρ1 p with
  | some (.int j) => if -(2 ^ 62) ≤ j ∧ j < 2 ^ 62 then .ok (.rg 0 j.toNat) ρ1 else .bad
  | _ => .bad
theorem src_rg {lo : Int} {n : Nat} : Src K σ S (Itr lo n) (.rg lo n) := by
  intro σ' ρ S' H A T j ds g2 sub w le e hd
  have hd : rgD lo n = ds := Option.some.inj hd
  subst hd
  have hl : (rgD lo n).length = n := by unfold rgD; rw [List.length_map, List.length_range]
  refine ⟨fun d hj => ?_, fun hj => by rw [hl] at hj; exact hj⟩
  have lt : j < n := by
    have := (List.getElem?_eq_some_iff.mp hj).1
    rw [hl] at this
    exact this
  have ed : d = .int (lo + (j : Nat)) := by
    unfold rgD at hj
    rw [List.getElem?_map, List.getElem?_range lt] at hj
    exact (Option.some.inj hj).symm
  refine ⟨lt, fun x H' y => ?_⟩
  obtain ⟨rfl, rfl⟩ := y
  subst ed
  exact ⟨S', w, Tr.refl, fun _ _ => rfl, .int _⟩
theorem sndI_rg1 {t : TE} {f : FP} (h : SndP K W t f) : SndI K W (iRng1 (tCons t tNil)) (fRg1 f) := by
  refine snd_one (r := fun x H R => ∃ j : Int, [x] = [V.int j] ∧ -(2 ^ 62) ≤ j ∧ j < 2 ^ 62 ∧ R (Itr 0 j.toNat) H) h fun x a σ ρ S H A B w e ra => ?_
  cases h1 : pkD ρ a with
  | none => exact True.intro
  | some d =>
    cases d with
    | int j =>
      show OutOk K W (RSr K) _ σ S H (A + B) (if -(2 ^ 62) ≤ j ∧ j < 2 ^ 62 then Out.ok (.rg 0 j.toNat) ρ else .bad)
      by_cases hz : -(2 ^ 62) ≤ j ∧ j < 2 ^ 62
      · rw [if_pos hz]
        exact fun Q k => ⟨j, by rw [dp_int (pkD_or w ra h1)], hz.1, hz.2, k _ S H A Fp.z (by rw [addz]; exact w.less le1) e ⟨src_rg, fun _ => rfl⟩ (by rw [addz]; exact Tr.refl.less le1)⟩
      · rw [if_neg hz]; exact True.intro
    | _ => exact True.intro
def itZ (K : PySem.W.Frag) (a b : Addr) : Bool → It
  | true => Itz K a b
  | false => RZ.ItzT K a b
theorem pairNew {T : Fp} {p : Addr} {x y : V} {d1 d2 : PyData} (w : WF S H T) (hp : H p = none) (h1 : Dp K S x d1) (h2 : Dp K S y d2) : ∃ S', WF S' (upd H p (.tup [x, y])) T ∧ Tr S H T S' (upd H p (.tup [x, y])) T ∧ (∀ a, 0 < T a → upd H p (.tup [x, y]) a = H a) ∧ Dp K S' (.ref p) (.tuple [d1, d2]) := by
  obtain ⟨w2, t2, k2, sub2⟩ := newF (u := .tup [x, y]) w hp
  exact ⟨_, w2, t2, k2, .tup (SqT.of upd_same) (.cons (dp_mono sub2 h1) (.cons (dp_mono sub2 h2) .nil))⟩
theorem src_zp {a b : Addr} {l : Bool} {s1 s2 : Sr} (h1 : SqW K σ S a l s1) (h2 : SqW K σ S b l s2) : Src K σ S (itZ K a b l) (.zp s1 s2) := by
  intro σ' ρ S' H A T j ds g2 sub w le e hd
  obtain ⟨xs, a1, a2⟩ := Option.bind_eq_some_iff.mp (show (s1.at ρ).bind _ = some ds from hd)
  obtain ⟨ys, b1, b2⟩ := Option.map_eq_some_iff.mp a2
  subst b2
  obtain ⟨vs, sq1, da1⟩ := h1 σ' ρ S' H A T xs (fun i hi => g2 i (List.mem_append_left _ hi)) sub w le e a1
  obtain ⟨ws, sq2, da2⟩ := h2 σ' ρ S' H A T ys (fun i hi => g2 i (List.mem_append_right _ hi)) sub w le e b1
  have split : ∀ d, (zpD xs ys)[j]? = some d → ∃ x y, xs[j]? = some x ∧ ys[j]? = some y ∧ d = .tuple [x, y] := fun d hj => by
    unfold zpD at hj
    rw [List.getElem?_map] at hj
    obtain ⟨⟨x, y⟩, c1, c2⟩ := Option.map_eq_some_iff.mp hj
    obtain ⟨c3, c4⟩ := List.getElem?_zip_eq_some.mp c1
    exact ⟨x, y, c3, c4, c2.symm⟩
  have stop : (zpD xs ys).length ≤ j → vs.length ≤ j ∨ ws.length ≤ j := fun hj => by
    unfold zpD at hj
    rw [List.length_map, List.length_zip] at hj
    rw [dpall_len da1, dpall_len da2]
    omega
  cases l with
  | true =>
    refine ⟨fun d hj => ?_, fun hj => ⟨vs, ws, sq1, sq2, stop hj⟩⟩
    obtain ⟨x, y, c1, c2, c3⟩ := split d hj
    obtain ⟨v, e1, e2⟩ := dpall_get da1 c1
    obtain ⟨u, e3, e4⟩ := dpall_get da2 c2
    refine ⟨⟨vs, ws, v, u, sq1, sq2, e1, e3⟩, fun z H' hy => ?_⟩
    obtain ⟨p, x', y', rfl, hp, rfl, y1, y2⟩ := hy
    have z1 := y1 vs sq1
    have z2 := y2 ws sq2
    rw [e1] at z1
    rw [e3] at z2
    cases z1
    cases z2
    rw [c3]
    exact pairNew w hp e2 e4
  | false =>
    refine ⟨fun d hj => ?_, fun hj => ⟨vs, ws, sq1, sq2, stop hj⟩⟩
    obtain ⟨x, y, c1, c2, c3⟩ := split d hj
    obtain ⟨v, e1, e2⟩ := dpall_get da1 c1
    obtain ⟨u, e3, e4⟩ := dpall_get da2 c2
    refine ⟨⟨vs, ws, v, u, sq1, sq2, e1, e3⟩, fun z H' hy => ?_⟩
    obtain ⟨p, x', y', rfl, hp, rfl, y1, y2⟩ := hy
    have z1 := y1 vs sq1
    have z2 := y2 ws sq2
    rw [e1] at z1
    rw [e3] at z2
    cases z1
    cases z2
    rw [c3]
    exact pairNew w hp e2 e4
theorem stays_seq : Stays (RSeq K) := fun σ S H S' H' v a B h k r => by
  obtain ⟨z, p, l, kd, ev, sw⟩ := r
  exact ⟨z, p, l, kd, ev, sqW_mono sw h⟩
def fZip (f g : FP) : FI := fun ρ => (fSeq f ρ).bind fun a ρ1 => (fSeq g ρ1).bind fun b ρ2 => match (Sr.zp a b).at ρ2 with
  | some _ => if a.kind = b.kind then .ok (.zp a b) ρ2 else .bad
  | none => .bad
theorem sndI_zip {t u : TE} {f g : FP} (h : SndP K W t f) (h' : SndP K W u g) : SndI K W (RZ.iZipA K (tCons t (tCons u tNil))) (fZip f g) := by
  refine snd_bind (u := fun x σ H R => u σ H fun y H2 => ∃ a b xs ys, [x, y] = [V.ref a, V.ref b] ∧ ((SqL K H2 a xs ∧ SqL K H2 b ys ∧ R (Itz K a b) H2) ∨ (SqT K H2 a xs ∧ SqT K H2 b ys ∧ R (RZ.ItzT K a b) H2))) (snd_seq h) fun x s1 σ ρ S H A B w e ra => ?_
  have h2 := snd_beside (snd_seq h') w e
  show OutOk K W (RSr K) _ σ S H (A + B) ((fSeq g ρ).bind _)
  cases hf : fSeq g ρ with
  | bad => exact True.intro
  | exc x' ρ' =>
    rw [hf] at h2
    exact fun Q k => h2 _ k
  | ok s2 ρ2 =>
    rw [hf] at h2
    show OutOk K W (RSr K) _ σ S H (A + B) (match (Sr.zp s1 s2).at ρ2 with
      | some _ => if s1.kind = s2.kind then Out.ok (.zp s1 s2) ρ2 else .bad
      | none => .bad)
    cases hz : (Sr.zp s1 s2).at ρ2 with
    | none => exact True.intro
    | some ds =>
      show OutOk K W (RSr K) _ σ S H (A + B) (if s1.kind = s2.kind then Out.ok (.zp s1 s2) ρ2 else .bad)
      by_cases hk : s1.kind = s2.kind
      · rw [if_pos hk]
        intro Q k
        refine h2 _ fun y S' H' A' C w' e' rb t' sub kp => ?_
        obtain ⟨z1, a, l1, k1, ev1, sw1⟩ := stays_seq σ S H S' H' x s1 B sub kp ra
        obtain ⟨z2, b, l2, k2, ev2, sw2⟩ := rb
        have el : l1 = l2 := by rw [k1, k2] at hk; exact Option.some.inj hk
        subst el
        obtain ⟨xs, a1, a2⟩ := Option.bind_eq_some_iff.mp (show (s1.at ρ2).bind _ = some ds from hz)
        obtain ⟨ys, b1, b2⟩ := Option.map_eq_some_iff.mp a2
        obtain ⟨vs, sq1, _⟩ := sw1 σ ρ2 S' H' A' (A' + C + B) xs (fun _ _ => rfl) (fun _ _ h => h) w' le3 e' a1
        obtain ⟨ws, sq2, _⟩ := sw2 σ ρ2 S' H' A' (A' + C + B) ys (fun _ _ => rfl) (fun _ _ h => h) w' le3 e' b1
        have fin := k (itZ K a b l1) S' H' A' Fp.z (by rw [addz]; exact w'.less le3) e' ⟨src_zp sw1 sw2, fun _ => rfl⟩ (by rw [addz]; exact t'.less le3)
        refine ⟨a, b, vs, ws, by rw [ev1, ev2], ?_⟩
        cases l1 with
        | true => exact .inl ⟨sq1, sq2, fin⟩
        | false => exact .inr ⟨sq1, sq2, fin⟩
      · rw [if_neg hk]; exact True.intro
end
section
variable {X : Cx} {W : WX} {tg a b : Expr} {fa fb : FP} {pos p tpos : Pos} {elts : List Expr} {kk : Nat}
theorem pi_seq {l : Expr} {tl : TE} (hl : PE X l tl) : PI X tg l (iSeq X.K tl) := by
  refine ⟨fun pins s σ H R I h => ?_⟩
  refine thn (hl.run pins s σ H _ I h) fun v s1 ⟨x, H1, I1, r1, a, l, ev, ⟨xs, sq⟩, q⟩ => ?_
  subst ev
  cases r1
  have fresh : ∀ b ∈ [s1.heap.objs.size], FpOk X pins H1 b := fun b hb => by
    have e : b = s1.heap.objs.size := List.mem_singleton.mp hb
    subst e
    exact I1.fpOk (Nat.le_refl _) (I1.hok.fresh (Nat.le_refl _))
  cases l with
  | true =>
    obtain ⟨its, rv, pl, _⟩ := I1.list sq
    exact wpAny_pyIter_list pl.isList ⟨s1.heap.objs.size, _, _, _, H1, rfl, I1.kept (t' := s1.toks) fun b o e => Heap.get?_push_of_some _ e, turn_list a _, ⟨_, Heap.get?_push_size _ rfl, rfl, rfl⟩, fresh, q⟩
  | false =>
    obtain ⟨its, rv, pt, _⟩ := I1.tuple sq
    exact wpAny_pyIter_tuple (show s1.heap.IsTuple a its.toArray from pt) ⟨s1.heap.objs.size, _, _, _, H1, rfl, I1.kept (t' := s1.toks) fun b o e => Heap.get?_push_of_some _ e, turn_tuple a _, ⟨_, Heap.get?_push_size _ rfl, rfl, rfl⟩, fresh, q⟩
theorem iv_seq (h : PV X W a fa) : IV X W tg a (fSeq fa) := let ⟨_, h1, h2⟩ := h.ex; ⟨_, pi_seq h1, sndI_seq h2⟩
theorem iv_rg1 (hg : Gl X "range") (hm : X.mg "range" = none) (h : PV X W a fa) (hs : starEach [a] X.env = [(false, eval a X.env)] := by rfl) : IV X W tg (.Call (.Name "range" p) [a] [] pos) (fRg1 fa) :=
  let ⟨_, h1, h2⟩ := h.ex; ⟨_, pi_range1 hg hm (pa_cons h1 pa_nil hs) hs, sndI_rg1 h2⟩
theorem iv_zip (hg : Gl X "zip") (hm : X.mg "zip" = none) (h : PV X W a fa) (h' : PV X W b fb) (hs : starEach [a, b] X.env = (false, eval a X.env) :: starEach [b] X.env := by rfl) (hs2 : starEach [b] X.env = [(false, eval b X.env)] := by rfl) (hpl : (backTo pos (starEach [b] X.env)).any (·.1) = false := by rfl) : IV X W (.Tuple elts kk tpos) (.Call (.Name "zip" p) [a, b] [] pos) (fZip fa fb) :=
  let ⟨_, h1, h2⟩ := h.ex; let ⟨_, g1, g2⟩ := h'.ex; ⟨_, RZ.pi_zipA hg hm (pa_cons h1 (pa_cons g1 pa_nil hs2) hs) hs hpl, sndI_zip h2 g2⟩
end
end Ls
namespace Ls
open PySem L2
variable [Tb] [Vw]
def rdV {β α : Type} (K : PySem.W.Frag) (W : WX) (R : RR β α) (f : En → Out α) : St → Hp → (β → Hp → Prop) → Prop := fun σ H Q => ∃ ρ S A, WF S H A ∧ ER K S H σ ρ A ∧ (match f ρ with
  | .ok a ρ' => PostV K R σ S H A a ρ' Q
  | .exc x ρ' => PostX K W σ S H A x ρ'
  | .bad => False)
section
variable {K : PySem.W.Frag} {W : WX} {S H : Hp} {A B C : Fp} {σ : St} {ρ : En}
theorem of_rd {β α : Type} {R : RR β α} {t : St → Hp → (β → Hp → Prop) → Prop} {f : En → Out α} (h : Snd K W R t f) {Q : β → Hp → Prop} (r : rdV K W R f σ H Q) : t σ H Q := by
  obtain ⟨ρ, S, A, w, e, q⟩ := r
  have h1 := h σ ρ S H A w e
  cases hf : f ρ with
  | ok a ρ' => rw [hf] at h1 q; exact h1 Q q
  | exc x ρ' => rw [hf] at h1 q; exact h1 Q q
  | bad => rw [hf] at q; exact q.elim
theorem snd_rd {β α : Type} {R : RR β α} {f : En → Out α} : Snd K W R (rdV K W R f) f := by
  intro σ ρ S H A w e
  cases hf : f ρ with
  | ok a ρ' => exact fun Q k => ⟨ρ, S, A, w, e, by rw [hf]; exact k⟩
  | exc x ρ' => exact fun Q k => ⟨ρ, S, A, w, e, by rw [hf]; exact k⟩
  | bad => exact True.intro
theorem EV.pe {X : Cx} {e : Expr} {f : FE} (h : EV X W e f) : PE X e (rdV X.K W (ROr X.K) f) := by
  obtain ⟨t, h1, h2⟩ := h.ex
  exact ⟨fun pins s σ H Q I q => h1.run pins s σ H Q I (of_rd h2 q)⟩
theorem TV.pt {X : Cx} {e : Expr} {f : FT} (h : TV X W e f) : PT X e (rdV X.K W (REq Bool) f) := by
  obtain ⟨t, h1, h2⟩ := h.ex
  exact ⟨fun pins s σ H Q I q => h1.run pins s σ H Q I (of_rd h2 q)⟩
abbrev FG := PyData → En → Option En
abbrev FGs := List PyData → En → Option En
def PostG (K : PySem.W.Frag) (σ : St) (S H : Hp) (A : Fp) (vs : List Nat) (ρ' : En) (Q : St → Hp → Prop) : Prop := ∀ σ' A', ER K S H σ' ρ' A' → (∀ b, A' b ≤ A b) → σ'.length = σ.length → (∀ i, i ∉ vs → σ'[i]? = σ[i]?) → Q σ' H
def SndG (K : PySem.W.Frag) (g : TG) (gF : FG) (vs : List Nat) : Prop := ∀ v d σ ρ S H A T ρ', WF S H T → (∀ b, A b ≤ T b) → ER K S H σ ρ A → Dp K S v d → gF d ρ = some ρ' → ∀ Q, PostG K σ S H A vs ρ' Q → g v σ H Q
def SndGs (K : PySem.W.Frag) (g : TGs) (gF : FGs) (vs : List Nat) : Prop := ∀ xs ds σ ρ S H A T ρ', WF S H T → (∀ b, A b ≤ T b) → ER K S H σ ρ A → DpAll K S xs ds → gF ds ρ = some ρ' → ∀ Q, PostG K σ S H A vs ρ' Q → g xs σ H Q
structure GV (X : Cx) (tg : Expr) (vs : List Nat) (gF : FG) : Prop where
  ex : ∃ g, PG X tg g ∧ SndG X.K g gF vs
structure GsV (X : Cx) (ts : List Expr) (vs : List Nat) (gF : FGs) : Prop where
  ex : ∃ g, PGs X ts g ∧ SndGs X.K g gF vs
def gfN (i : Nat) : FG := fun d ρ => if i < ρ.length then some (ρ.set i (some (.fz d))) else none
theorem er_store {v : V} {o : O} {i : Nat} (e : ER K S H σ ρ A) (q : OR K S H v o B) (hi : i < ρ.length) : ∃ C, ER K S H (σ.set i (some v)) (ρ.set i (some o)) (B + C) ∧ ∀ b, C b ≤ A b := by
  obtain ⟨C, e1, l1⟩ := er_drop e i none
  have hl := er_len e
  have e2 := er_put e1 (i := i) (v := v) (o := o) (B := B) (by rw [List.length_set, hl]; exact hi) q (List.getElem?_set_self hi)
  rw [List.set_set, List.set_set] at e2
  exact ⟨C, e2, l1⟩
theorem sndG_name {i : Nat} : SndG K (gName i) (gfN i) [i] := by
  intro v d σ ρ S H A T ρ' w le e hv hg Q k
  unfold gfN at hg
  by_cases hi : i < ρ.length
  · rw [if_pos hi] at hg
    cases hg
    obtain ⟨C, e1, l1⟩ := er_store e (OR.fz hv (A := Fp.z) fun _ => rfl) hi
    refine k _ _ e1 (fun b => by rw [add_at, z_at]; have := l1 b; omega) (List.length_set) fun j hj => ?_
    exact List.getElem?_set_ne fun z => hj (List.mem_singleton.mpr z.symm)
  · rw [if_neg hi] at hg; cases hg
def gsN : FGs := fun ds ρ => match ds with
  | [] => some ρ
  | _ => none
def gsC (g : FG) (gs : FGs) : FGs := fun ds ρ => match ds with
  | d :: r => (g d ρ).bind fun ρ1 => gs r ρ1
  | [] => none
theorem sndGs_nil : SndGs K gNil gsN [] := by
  intro xs ds σ ρ S H A T ρ' w le e hv hg Q k
  cases hv with
  | nil => cases hg; exact ⟨rfl, k σ A e (fun _ => Nat.le_refl _) rfl fun _ _ => rfl⟩
  | cons _ _ => cases hg
theorem sndGs_cons {g : TG} {gs : TGs} {gF : FG} {gsF : FGs} {vs ws : List Nat} (h1 : SndG K g gF vs) (h2 : SndGs K gs gsF ws) : SndGs K (gCons g gs) (gsC gF gsF) (vs ++ ws) := by
  intro xs ds σ ρ S H A T ρ' w le e hv hg Q k
  cases hv with
  | nil => cases hg
  | cons q r =>
    obtain ⟨ρ1, a1, a2⟩ := Option.bind_eq_some_iff.mp (show (gF _ ρ).bind _ = some ρ' from hg)
    refine ⟨_, _, rfl, h1 _ _ σ ρ S H A T ρ1 w le e q a1 _ fun σ1 A1 e1 l1 n1 k1 => ?_⟩
    refine h2 _ _ σ1 ρ1 S H A1 T ρ' w (fun b => Nat.le_trans (l1 b) (le b)) e1 r a2 _ fun σ2 A2 e2 l2 n2 k2 => ?_
    refine k σ2 A2 e2 (fun b => Nat.le_trans (l2 b) (l1 b)) (n2.trans n1) fun i hi => ?_
    rw [k2 i fun z => hi (List.mem_append_right _ z), k1 i fun z => hi (List.mem_append_left _ z)]
def gfT (n : Nat) (gs : FGs) : FG := fun d ρ => match d with
  | .tuple ds => if ds.length = n then gs ds ρ else none
  | _ => none
theorem sndG_tup {n : Nat} {gs : TGs} {gsF : FGs} {vs : List Nat} (h : SndGs K gs gsF vs) : SndG K (gTup K n gs) (gfT n gsF) vs := by
  intro v d σ ρ S H A T ρ' w le e hv hg Q k
  cases hv with
  | tup q r =>
    have hg : (if _ = n then gsF _ ρ else none) = some ρ' := hg
    split at hg
    · rename_i hn
      exact ⟨_, _, rfl, sqT_mono w.sub q, by rw [dpall_len r]; exact hn, h _ _ σ ρ S H A T ρ' w le e r hg Q k⟩
    · cases hg
  | _ => cases hg
def rdG (K : PySem.W.Frag) (gF : FG) (vs : List Nat) : TG := fun v σ H Q => ∃ d ρ S A T ρ', WF S H T ∧ (∀ b, A b ≤ T b) ∧ ER K S H σ ρ A ∧ Dp K S v d ∧ gF d ρ = some ρ' ∧ PostG K σ S H A vs ρ' Q
theorem GV.pg {X : Cx} {tg : Expr} {vs : List Nat} {gF : FG} (h : GV X tg vs gF) : PG X tg (rdG X.K gF vs) := by
  obtain ⟨g, h1, h2⟩ := h.ex
  exact ⟨fun pins s σ H v u Q I r ⟨d, ρ, S, A, T, ρ', w, le, e, hv, hg, k⟩ => h1.run pins s σ H v u Q I r (h2 v d σ ρ S H A T ρ' w le e hv hg Q k)⟩
def wipeE (ρ : En) : List Nat → En
  | [] => ρ
  | v :: vs => (wipeE ρ vs).set v none
abbrev W0 : WX := fun _ _ _ _ => False
def compF (s : Sr) (gF : FG) (test : FT) (elt : FE) (vs : List Nat) : Nat → Nat → En → List O → Out (List O)
  | 0, _, _, _ => .bad
  | n + 1, j, ρ, acc => match s.at ρ with
    | none => .bad
    | some ds => (match ds[j]? with
      | none => .ok acc ρ
      | some d => (match gF d ρ with
        | none => .bad
        | some ρ1 => (match test ρ1 with
          | .ok true ρ2 => (match elt ρ2 with
            | .ok o ρ3 => if acc.length < sizeLine then compF s gF test elt vs n (j + 1) (wipeE ρ3 vs) (acc ++ [o]) else .bad
            | _ => .bad)
          | .ok false ρ2 => compF s gF test elt vs n (j + 1) (wipeE ρ2 vs) acc
          | _ => .bad)))
def eComp (fi : FI) (gF : FG) (test : FT) (elt : FE) (vs : List Nat) : FE := fun ρ => (fi ρ).bind fun s ρ1 => if s.slots.all fun i => !vs.contains i then (match s.at (wipeE ρ1 vs) with
    | some ds => (match compF s gF test elt vs (ds.length + 1) 0 (wipeE ρ1 vs) [] with
      | .ok os ρ2 => .ok (.lst os) ρ2
      | _ => .bad)
    | none => .bad) else .bad
def tYesF : FT := fun ρ => .ok true ρ
theorem er_any {σ' : St} (e : ER K S H σ ρ A) (hl : σ'.length = σ.length) (h : ∀ (i : Nat) (o : O), ρ[i]? = some (some o) → σ'[i]? = σ[i]?) : ER K S H σ' ρ A := by
  induction e generalizing σ' with
  | nil z =>
    cases σ' with
    | nil => exact .nil z
    | cons _ _ => cases hl
  | non e ih =>
    cases σ' with
    | nil => cases hl
    | cons w' σ' => exact .non (ih (by simpa using hl) fun i o hi => by simpa using h (i + 1) o (by simpa using hi))
  | @som v o _ _ _ _ _ q e z ih =>
    cases σ' with
    | nil => cases hl
    | cons w' σ' =>
      have h0 := h 0 _ rfl
      have h0 : w' = some v := by simpa using h0
      subst h0
      exact .som q (ih (by simpa using hl) fun i o hi => by simpa using h (i + 1) o (by simpa using hi)) z
theorem wipeE_get (ρ : En) : ∀ (vs : List Nat) (i : Nat) (o : O), (wipeE ρ vs)[i]? = some (some o) → i ∉ vs ∧ ρ[i]? = some (some o)
  | [], i, o, h => ⟨by simp, h⟩
  | v :: vs, i, o, h => by
    unfold wipeE at h
    by_cases hi : v = i
    · subst hi
      by_cases hv : v < (wipeE ρ vs).length
      · rw [List.getElem?_set_self hv] at h; cases h
      · rw [List.getElem?_eq_none (by simpa using hv)] at h; cases h
    · rw [List.getElem?_set_ne hi] at h
      obtain ⟨h1, h2⟩ := wipeE_get ρ vs i o h
      exact ⟨by simp only [List.mem_cons, not_or]; exact ⟨fun e => hi e.symm, h1⟩, h2⟩
theorem er_wipe (e : ER K S H σ ρ A) : ∀ vs : List Nat, ∃ C, ER K S H σ (wipeE ρ vs) C ∧ ∀ b, C b ≤ A b
  | [] => ⟨A, e, fun _ => Nat.le_refl _⟩
  | v :: vs => by
    obtain ⟨C, e1, l1⟩ := er_wipe e vs
    obtain ⟨C2, e2, l2⟩ := er_drop e1 v (σ.getD v none)
    refine ⟨C2, ?_, fun b => Nat.le_trans (l2 b) (l1 b)⟩
    refine er_any e2 (by rw [List.length_set]) fun i o hi => ?_
    by_cases hv : v = i
    · subst hv
      have := (wipeE_get (wipeE ρ vs) [v] v o hi).1
      exact absurd (List.mem_singleton.mpr rfl) this
    · exact (List.getElem?_set_ne hv).symm
theorem wipe_get (σ : St) : ∀ (vs : List Nat) (i : Nat), i ∉ vs → (wipe σ vs)[i]? = σ[i]?
  | [], _, _ => rfl
  | v :: vs, i, h => by
    unfold wipe
    simp only [List.mem_cons, not_or] at h
    rw [List.getElem?_set_ne (Ne.symm h.1), wipe_get σ vs i h.2]
theorem wipe_in (σ : St) : ∀ (vs : List Nat) (i : Nat), i ∈ vs → i < σ.length → (wipe σ vs)[i]? = some none
  | v :: vs, i, h, hl => by
    unfold wipe
    by_cases hv : v = i
    · subst hv
      exact List.getElem?_set_self (by rw [wipe_length]; exact hl)
    · rw [List.getElem?_set_ne hv]
      exact wipe_in σ vs i ((List.mem_cons.mp h).resolve_left fun z => hv z.symm) hl
theorem wipe_eq {σ σ' : St} {vs : List Nat} (hl : σ'.length = σ.length) (h : ∀ i, i ∉ vs → σ'[i]? = σ[i]?) : wipe σ' vs = wipe σ vs := by
  apply List.ext_getElem?
  intro i
  by_cases hi : i ∈ vs
  · by_cases hb : i < σ.length
    · rw [wipe_in σ vs i hi hb, wipe_in σ' vs i hi (by omega)]
    · rw [List.getElem?_eq_none (by rw [wipe_length]; omega), List.getElem?_eq_none (by rw [wipe_length]; omega)]
  · rw [wipe_get σ vs i hi, wipe_get σ' vs i hi, h i hi]
theorem ors_snoc : ∀ {vs : List V} {os : List O} {A : Fp} {v : V} {o : O} {B : Fp}, ORs K S H vs os A → OR K S H v o B → ORs K S H (vs ++ [v]) (os ++ [o]) (A + B)
  | _, _, A, _, _, B, .nil z, q => .cons q (.nil (A := Fp.z) fun _ => rfl) fun b => by rw [add_at, z b, z_at]; omega
  | _, _, A, _, _, B, .cons q r z, q' => .cons q (ors_snoc r q') fun b => by simp only [add_at]; rw [z b]; omega
theorem mutO {D : Addr} {u : HO} {T : Fp} (w : WF S H T) (h : 0 < T D) (hu : ¬ Odd u := by first | exact odd_lst | exact odd_tup | exact odd_xd | exact odd_ins | exact odd_own | exact odd_dX) : WF S (upd H D u) T ∧ Tr S H T S (upd H D u) T := by
  have hs := w.dj D h
  have nt : ∀ a, Tl H a → a ≠ D := fun a t e => by have := (w.ta a t).1; rw [e] at this; omega
  refine ⟨⟨fun a o e => ?_, w.one, w.dj, fun a z => ?_, fun r hr => ?_, fun a t => ?_, fun c o hc ho => ?_, fun a o hv => ?_, fun r hr => ?_⟩, ⟨fun _ _ e => e, fun a o _ z e => ?_, fun _ _ e => .inl e, fun _ z => .inl z, fun a hc ⟨es, ep, e⟩ => ?_⟩⟩
  · rw [upd_ne (ne_of_none e hs)]; exact w.sub a o e
  · by_cases e : a = D
    · subst e; rw [upd_same]; exact fun y => nomatch y
    · rw [upd_ne e]; exact w.th a z
  · obtain ⟨ps, h1, h2, h3⟩ := w.tb r hr
    refine ⟨ps, by rw [upd_ne (nt _ ⟨ps, h1⟩)]; exact h1, h2, fun pos cv hc => ?_⟩
    obtain ⟨c, e1, e2⟩ := h3 pos cv hc
    exact ⟨c, e1, by rw [upd_ne (fun e => by have := w.co c _ e2 ⟨_, _, rfl⟩; rw [e] at this; omega)]; exact e2⟩
  · obtain ⟨ps, t⟩ := t
    by_cases e : a = D
    · subst e; rw [upd_same] at t; cases t; exact absurd (.inr ⟨ps, rfl⟩) hu
    · rw [upd_ne e] at t; exact w.ta a ⟨ps, t⟩
  · by_cases e : c = D
    · subst e; rw [upd_same] at hc; cases hc; exact absurd (.inl ho) hu
    · rw [upd_ne e] at hc; exact w.co c o hc ho
  · obtain ⟨h1, h2, h3⟩ := w.vs a o hv
    have ne : a ≠ D := fun e2 => by rw [e2] at h2; omega
    exact ⟨by rw [upd_ne ne]; exact h1, h2, fun ⟨ps, t⟩ => h3 ⟨ps, by rw [upd_ne ne] at t; exact t⟩⟩
  · have h1 := w.ca r hr
    have ne : r.1 ≠ D := fun e2 => by have := h1.na; rw [e2] at this; omega
    obtain ⟨es, ep, us, vs, ks, ds, q1, q2⟩ := h1.ex
    exact ⟨h1.na, h1.ns, h1.nv, es, ep, us, vs, ks, ds, by rw [upd_ne ne]; exact q1, q2⟩
  · have ne : a ≠ D := fun e2 => by rw [e2] at z; omega
    rw [upd_ne ne]; exact e
  · obtain ⟨c, hc⟩ := hc
    have ne : a ≠ D := fun e2 => by have := (w.ca _ hc).na; dsimp only at this; rw [e2] at this; omega
    exact ⟨es, ep, by rw [upd_ne ne]; exact e⟩
theorem sndT_yes : SndT K W tYes tYesF := by
  intro σ ρ S H A w e Q k
  exact k true S H A Fp.z (by rw [addz]; exact w) e ⟨rfl, fun _ => rfl⟩ (by rw [addz]; exact Tr.refl)
theorem sndE_comp {wi : TI} {g : TG} {tt : TT} {te : TE} {fi : FI} {gF : FG} {test : FT} {elt : FE} {vs : List Nat} (hi : SndI K W wi fi) (hg : SndG K g gF vs) (ht : SndT K W0 tt test) (he : SndE K W0 te elt) : SndE K W (tLc wi g tt te vs) (eComp fi gF test elt vs) := by
  refine snd_bind (u := fun J σ H Q => ∀ D, H D = none → ∃ Wv : Nat → Nat → Hp → Prop, (∃ m, Wv 0 m (upd H D (.lst []))) ∧ ∀ i m H, Wv i m H →
    (J.stop i H ∧ Q (V.ref D) H) ∨ (J.go i H ∧ ∃ Nx : Hp → Prop, (∀ H', Nx H' → ∃ m', m' < m ∧ Wv (i + 1) m' H') ∧ ∀ x H', J.yld i H x H' → g x (wipe σ vs) H' fun σ2 H2 => wipe σ2 vs = wipe σ vs ∧ tt σ2 H2 fun b H3 =>
      if b = true then te σ2 H3 fun y H4 => ∃ acc, H4 D = some (.lst acc) ∧ acc.length < sizeLine ∧ Nx (upd H4 D (.lst (acc ++ [y]))) else Nx H3)) hi fun J s σ ρ S H A B w e r => ?_
  obtain ⟨src, _⟩ := r
  show OutOk K W (ROr K) _ σ S H (A + B) (if s.slots.all fun i => !vs.contains i then (match s.at (wipeE ρ vs) with
    | some ds => (match compF s gF test elt vs (ds.length + 1) 0 (wipeE ρ vs) [] with
      | .ok os ρ2 => Out.ok (.lst os) ρ2
      | _ => .bad)
    | none => .bad) else .bad)
  by_cases hsl : (s.slots.all fun i => !vs.contains i) = true
  · rw [if_pos hsl]
    cases hat : s.at (wipeE ρ vs) with
    | none => exact True.intro
    | some ds =>
      show OutOk K W (ROr K) _ σ S H (A + B) (match compF s gF test elt vs (ds.length + 1) 0 (wipeE ρ vs) [] with
        | .ok os ρ2 => Out.ok (.lst os) ρ2
        | _ => .bad)
      cases hc : compF s gF test elt vs (ds.length + 1) 0 (wipeE ρ vs) [] with
      | bad => exact True.intro
      | exc _ _ => exact True.intro
      | ok os ρ2 =>
        intro Q k D hD
        have slotOk : ∀ σ' : St, (∀ i, i ∉ vs → σ'[i]? = σ[i]?) → ∀ i ∈ s.slots, σ'[i]? = σ[i]? := fun σ' h i hi => h i fun z => by
          have h1 := List.all_eq_true.mp hsl i hi
          rw [List.contains_iff_mem.mpr z] at h1
          cases h1
        obtain ⟨C0, e0, l0⟩ := er_wipe e vs
        refine ⟨fun j m H' => ∃ ρ' acc va S' A' Ba, WF S' H' (A' + (Fp.one D + Ba)) ∧ ER K S' H' σ ρ' A' ∧ H' D = some (.lst va) ∧ ORs K S' H' va acc Ba ∧ Tr S H (A + B) S' H' (A' + (Fp.one D + Ba)) ∧ compF s gF test elt vs m j ρ' acc = .ok os ρ2 ∧ (∀ (i : Nat) (o : O), ρ'[i]? = some (some o) → i ∉ vs) ∧ (∀ a u, S a = some u → S' a = some u), ⟨ds.length + 1, ?_⟩, ?_⟩
        · obtain ⟨w1, t1, k1⟩ := newO (u := .lst []) w hD
          have l1 : ∀ b, (C0 + (Fp.one D + Fp.z)) b ≤ (Fp.one D + (A + B)) b := fun b => by have := l0 b; simp only [add_at, z_at]; omega
          exact ⟨wipeE ρ vs, [], [], S, C0, Fp.z, w1.less l1, er_keep (fun _ _ h => h) e0 fun a z => k1 a (by have := l0 a; rw [add_at]; omega), upd_same, .nil fun _ => rfl, t1.less l1, hc, fun i o hi => (wipeE_get ρ vs i o hi).1, fun _ _ h => h⟩
        · rintro j m H1 ⟨ρ', acc, va, S', A', Ba, w1, e1, hD1, r1, t1, hcomp, hno, sub0⟩
          cases m with
          | zero => cases hcomp
          | succ n =>
            unfold compF at hcomp
            cases hat1 : s.at ρ' with
            | none => rw [hat1] at hcomp; cases hcomp
            | some ds1 =>
              rw [hat1] at hcomp
              dsimp only at hcomp
              have hsrc := src σ ρ' S' H1 A' (A' + (Fp.one D + Ba)) j ds1 (slotOk σ fun _ _ => rfl) sub0 w1 le1 e1 hat1
              cases hj : ds1[j]? with
              | none =>
                rw [hj] at hcomp
                dsimp only at hcomp
                cases hcomp
                refine .inl ⟨hsrc.2 (List.getElem?_eq_none_iff.mp hj), ?_⟩
                exact k _ S' H1 A' (Fp.one D + Ba) w1 e1 (.lst hD1 r1 fun b => add_at _ _ b) t1
              | some d =>
                rw [hj] at hcomp
                dsimp only at hcomp
                obtain ⟨go, yl⟩ := hsrc.1 d hj
                refine .inr ⟨go, fun H' => ∃ ρ' acc va S' A' Ba, WF S' H' (A' + (Fp.one D + Ba)) ∧ ER K S' H' σ ρ' A' ∧ H' D = some (.lst va) ∧ ORs K S' H' va acc Ba ∧ Tr S H (A + B) S' H' (A' + (Fp.one D + Ba)) ∧ compF s gF test elt vs n (j + 1) ρ' acc = .ok os ρ2 ∧ (∀ (i : Nat) (o : O), ρ'[i]? = some (some o) → i ∉ vs) ∧ (∀ a u, S a = some u → S' a = some u), fun H' h => ⟨n, Nat.lt_succ_self n, h⟩, fun x H2 hy => ?_⟩
                obtain ⟨S2, w2, t2, k2, hx⟩ := yl x H2 hy
                cases hgf : gF d ρ' with
                | none => rw [hgf] at hcomp; cases hcomp
                | some ρ3 =>
                  rw [hgf] at hcomp
                  dsimp only at hcomp
                  have e2 : ER K S2 H2 σ ρ' A' := er_keep t2.fz e1 fun a z => k2 a (by rw [add_at]; omega)
                  have e2' : ER K S2 H2 (wipe σ vs) ρ' A' := er_any e2 (wipe_length σ vs) fun i o hi => wipe_get σ vs i (hno i o hi)
                  have r2 : ORs K S2 H2 va acc Ba := ors_keep t2.fz (fun a z => k2 a (by simp only [add_at]; omega)) r1
                  have hD2 : H2 D = some (.lst va) := (k2 D (by simp only [add_at, one_same]; omega)).trans hD1
                  refine hg x d (wipe σ vs) ρ' S2 H2 A' _ ρ3 w2 le1 e2' hx hgf _ fun σ3 A3 e3 l3 n3 k3 => ?_
                  have ag : ∀ i, i ∉ vs → σ3[i]? = σ[i]? := fun i hi => (k3 i hi).trans (wipe_get σ vs i hi)
                  have len3 : σ3.length = σ.length := n3.trans (wipe_length σ vs)
                  refine ⟨wipe_eq len3 ag, ?_⟩
                  have w3 : WF S2 H2 (A3 + (Fp.one D + Ba)) := w2.less fun b => by have := l3 b; simp only [add_at]; omega
                  have t3 : Tr S H (A + B) S2 H2 (A3 + (Fp.one D + Ba)) := (t1.trans t2).less fun b => by have := l3 b; simp only [add_at]; omega
                  have ht1 := snd_beside ht w3 e3
                  cases htf : test ρ3 with
                  | bad => rw [htf] at hcomp; cases hcomp
                  | exc _ _ => rw [htf] at hcomp; cases hcomp
                  | ok b ρ4 =>
                    rw [htf] at hcomp ht1
                    refine ht1 _ fun b' S4 H4 A4 C4 w4 e4 rb t4 sub4 kp4 => ?_
                    obtain ⟨rfl, _⟩ := rb
                    have l4 : ∀ b, (A4 + (Fp.one D + Ba)) b ≤ (A4 + C4 + (Fp.one D + Ba)) b := fun b => by simp only [add_at]; omega
                    have w4' := w4.less l4
                    have t4' := (t3.trans t4).less l4
                    have hD4 : H4 D = some (.lst va) := (kp4 D (by simp only [add_at, one_same]; omega)).trans hD2
                    have r4 : ORs K S4 H4 va acc Ba := ors_keep sub4 (fun a z => kp4 a (by simp only [add_at]; omega)) r2
                    have back : ∀ {S5 H5 : Hp} {ρ5 : En} {A5 : Fp}, ER K S5 H5 σ3 ρ5 A5 → ∃ C, ER K S5 H5 σ (wipeE ρ5 vs) C ∧ ∀ b, C b ≤ A5 b := fun {S5 H5 ρ5 A5} e5 => by
                      obtain ⟨C, c1, c2⟩ := er_wipe e5 vs
                      exact ⟨C, er_any c1 len3.symm fun i o hi => (ag i (wipeE_get ρ5 vs i o hi).1).symm, c2⟩
                    cases b' with
                    | false =>
                      dsimp only at hcomp
                      obtain ⟨C, c1, c2⟩ := back e4
                      have lc : ∀ b, (C + (Fp.one D + Ba)) b ≤ (A4 + (Fp.one D + Ba)) b := fun b => by have := c2 b; simp only [add_at]; omega
                      exact ⟨_, _, va, S4, C, Ba, w4'.less lc, c1, hD4, r4, t4'.less lc, hcomp, fun i o hi => (wipeE_get ρ4 vs i o hi).1, fun a u z => sub4 a u (t2.fz a u (sub0 a u z))⟩
                    | true =>
                      dsimp only at hcomp
                      have he1 := snd_beside he w4' e4
                      cases hef : elt ρ4 with
                      | bad => rw [hef] at hcomp; cases hcomp
                      | exc _ _ => rw [hef] at hcomp; cases hcomp
                      | ok o ρ5 =>
                        rw [hef] at hcomp he1
                        dsimp only at hcomp
                        by_cases hz : acc.length < sizeLine
                        · rw [if_pos hz] at hcomp
                          show te σ3 H4 _
                          refine he1 _ fun y S5 H5 A5 C5 w5 e5 ry t5 sub5 kp5 => ?_
                          have hD5 : H5 D = some (.lst va) := (kp5 D (by simp only [add_at, one_same]; omega)).trans hD4
                          have r5 : ORs K S5 H5 va acc Ba := ors_keep sub5 (fun a z => kp5 a (by simp only [add_at]; omega)) r4
                          have oneD := w5.one D
                          simp only [add_at, one_same] at oneD
                          obtain ⟨w6, t6⟩ := mutO (D := D) (u := .lst (va ++ [y])) w5 (by simp only [add_at, one_same]; omega)
                          have ne : ∀ {F : Fp}, F D = 0 → ∀ a, 0 < F a → upd H5 D (.lst (va ++ [y])) a = H5 a := fun {F} hF a z => upd_ne fun ea => by rw [ea] at z; omega
                          obtain ⟨C, c1, c2⟩ := back (er_keep (K := K) (S' := S5) (H' := upd H5 D (.lst (va ++ [y]))) (fun _ _ h => h) e5 (ne (by omega)))
                          have lc : ∀ b, (C + (Fp.one D + (Ba + C5))) b ≤ (A5 + C5 + (Fp.one D + Ba)) b := fun b => by have := c2 b; simp only [add_at]; omega
                          refine ⟨va, hD5, by rw [ors_len r5]; exact hz, _, _, va ++ [y], S5, C, Ba + C5, w6.less lc, c1, upd_same, ?_, ((t4'.trans t5).trans t6).less lc, hcomp, fun i o hi => (wipeE_get ρ5 vs i o hi).1, fun a u z => sub5 a u (sub4 a u (t2.fz a u (sub0 a u z)))⟩
                          exact ors_keep (fun _ _ h => h) (ne (by simp only [add_at]; omega)) (ors_snoc r5 ry)
                        · rw [if_neg hz] at hcomp; cases hcomp
  · rw [if_neg hsl]; exact True.intro
end
section
variable {X : Cx} {W : WX}
theorem gv_name (i : Nat) {x : Str} {pos : Pos} (hN : X.N.Nodup) (hi : X.N[i]? = some x := by rfl) (hx : Loc X.env.scope x := by first | exact Or.inl rfl | exact Or.inr rfl) (hf : X.fn x = true ∨ X.env.scope.names.lookup x = some .local := by first | exact .inl rfl | exact .inr rfl | assumption) : GV X (.Name x pos) [i] (gfN i) := ⟨_, pg_name hN hi hx hf, sndG_name⟩
theorem gs_nil : GsV X [] [] gsN := ⟨_, pgs_nil, sndGs_nil⟩
theorem gs_cons {e : Expr} {es : List Expr} {vs ws : List Nat} {g : FG} {gs : FGs} (h : GV X e vs g) (r : GsV X es ws gs) (hs : (assignEach (e :: es) X.env).map (·.2) = assign e X.env :: (assignEach es X.env).map (·.2) := by rfl) : GsV X (e :: es) (vs ++ ws) (gsC g gs) :=
  let ⟨_, h1, h2⟩ := h.ex; let ⟨_, r1, r2⟩ := r.ex; ⟨_, pgs_cons h1 r1 hs, sndGs_cons h2 r2⟩
theorem gv_tup {es : List Expr} {k n : Nat} {pos : Pos} {vs : List Nat} {gs : FGs} (hc : X.calm = true) (h : GsV X es vs gs) (hn : (assignEach es X.env).length = n := by rfl) (hst : (assignEach es X.env).findIdx? (·.1) = none := by rfl) : GV X (.Tuple es k pos) vs (gfT n gs) :=
  let ⟨_, h1, h2⟩ := h.ex; ⟨_, pg_tup hc h1 hn hst, sndG_tup h2⟩
theorem sndG_rd {K : PySem.W.Frag} {gF : FG} {vs : List Nat} : SndG K (rdG K gF vs) gF vs := fun v d σ ρ S H A T ρ' w le e hv hgf Q k => ⟨d, ρ, S, A, T, ρ', w, le, e, hv, hgf, k⟩
theorem ev_lc {elt tg iter : Expr} {scope : Scope} {own : List (Str × Nat)} {vs : List Nat} {pos : Pos} {fi : FI} {gF : FG} {f : FE} (hc : X.calm = true) (hN : X.N.Nodup) (hi : IV X W tg iter fi) (ok : BlkOk X.N X.env.scope scope own)
    (hg : ∀ (s : Shared) (H : Hp) (C : Addr) (cl : List (Str × Addr)) (fp : List Addr), GV (X.blk s H scope (compEnvC scope cl C X.env) fp) tg vs gF)
    (he : ∀ (s : Shared) (H : Hp) (C : Addr) (cl : List (Str × Addr)) (fp : List Addr), EV (X.blk s H scope (compEnvC scope cl C X.env) fp) W0 elt f) (hvs : own.map (·.2) = vs := by rfl) (hs : ∀ x, foldedSetIterable iter X.env x = pure x := by intro _; rfl) :
    EV X W (.ListComp elt [⟨tg, iter, [], 0⟩] scope pos) (eComp fi gF tYesF f vs) :=
  by
  subst hvs
  obtain ⟨_, i1, i2⟩ := hi.ex
  exact ⟨_, pe_lc (g := rdG X.K gF (own.map (·.2))) (te := rdV X.K W0 (ROr X.K) f) hc hN i1 ok (fun s H C cl fp => (hg s H C cl fp).pg) (fun _ _ _ _ _ => pts_nil) (fun s H C cl fp => (he s H C cl fp).pe) hs, sndE_comp i2 sndG_rd sndT_yes snd_rd⟩
end
end Ls
namespace Ls
open PySem L2
variable [Tb] [Vw]
abbrev FS := En → SO
def Kp (P : List Nat) (σ σ' : St) : Prop := σ'.length = σ.length ∧ ∀ i ∈ P, σ'[i]? = σ[i]?
theorem Kp.refl {P : List Nat} {σ : St} : Kp P σ σ := ⟨rfl, fun _ _ => rfl⟩
theorem Kp.trans {P : List Nat} {σ σ1 σ2 : St} (a : Kp P σ σ1) (b : Kp P σ1 σ2) : Kp P σ σ2 := ⟨b.1.trans a.1, fun i hi => (b.2 i hi).trans (a.2 i hi)⟩
theorem Kp.less {P P' : List Nat} {σ σ' : St} (a : Kp P σ σ') (h : ∀ i ∈ P', i ∈ P) : Kp P' σ σ' := ⟨a.1, fun i hi => a.2 i (h i hi)⟩
section
variable (K : PySem.W.Frag) (W : WX) (P : List Nat) (σ : St) (S H : Hp) (A : Fp)
def PostS (ρ' : En) (q : St → Hp → Prop) : Prop := ∀ σ' S' H' A', WF S' H' A' → ER K S' H' σ' ρ' A' → Tr S H A S' H' A' → Kp P σ σ' → q σ' H'
def PostR (o : O) (ρ' : En) (q : VK) : Prop := ∀ v σ' S' H' A' B, WF S' H' (A' + B) → ER K S' H' σ' ρ' A' → OR K S' H' v o B → Tr S H A S' H' (A' + B) → Kp P σ σ' → q v H'
def PostXS (x : Xn) (ρ' : En) : Prop := ∀ cls d σ' S' H' A', WF S' H' A' → ER K S' H' σ' ρ' A' → XR K S' x cls d → Tr S H A S' H' A' → Kp P σ σ' → W cls d σ' H'
def SOk (t : TS) : SO → Prop
  | .nx ρ' => ∀ D : Ends, PostS K P σ S H A ρ' D.nx → t D σ H
  | .rt o ρ' => ∀ D : Ends, PostR K P σ S H A o ρ' D.rt → t D σ H
  | .bk ρ' => ∀ D : Ends, PostS K P σ S H A ρ' D.bk → t D σ H
  | .ct ρ' => ∀ D : Ends, PostS K P σ S H A ρ' D.ct → t D σ H
  | .exc x ρ' => ∀ D : Ends, PostXS K W P σ S H A x ρ' → t D σ H
  | .bad => True
end
def SndS (K : PySem.W.Frag) (W : WX) (P : List Nat) (t : TS) (f : FS) : Prop := ∀ σ ρ S H A, WF S H A → ER K S H σ ρ A → SOk K W P σ S H A t (f ρ)
structure SV (X : Cx) (W : WX) (P : List Nat) (st : Stmt) (f : FS) : Prop where
  ex : ∃ t, PS X st t ∧ SndS X.K W P t f
structure BV (X : Cx) (W : WX) (P : List Nat) (sts : List Stmt) (f : FS) : Prop where
  ex : ∃ t, PSs X sts t ∧ SndS X.K W P t f
def SO.then (o : SO) (k : En → SO) : SO := match o with
  | .nx ρ => k ρ
  | o => o
def Out.toS {α : Type} (o : Out α) (k : α → En → SO) : SO := match o with
  | .ok a ρ => k a ρ
  | .exc x ρ => .exc x ρ
  | .bad => .bad
section
variable {K : PySem.W.Frag} {W : WX} {P : List Nat} {S H : Hp} {A B C : Fp} {σ : St} {ρ : En}
def sNil : FS := fun ρ => .nx ρ
def sSeq (f g : FS) : FS := fun ρ => (f ρ).then g
theorem sndS_nil : SndS K W P tNext sNil := fun σ ρ S H A w e D k => k σ S H A w e Tr.refl Kp.refl
theorem sndS_never : SndS K W P tNever (fun _ => .bad) := fun _ _ _ _ _ _ _ => True.intro
theorem sndS_seq {t u : TS} {f g : FS} (h1 : SndS K W P t f) (h2 : SndS K W P u g) : SndS K W P (tSeq t u) (sSeq f g) := by
  intro σ ρ S H A w e
  have q := h1 σ ρ S H A w e
  show SOk K W P σ S H A _ ((f ρ).then g)
  cases hf : f ρ with
  | bad => exact True.intro
  | rt o ρ' => rw [hf] at q; exact fun D k => q _ k
  | bk ρ' => rw [hf] at q; exact fun D k => q _ k
  | ct ρ' => rw [hf] at q; exact fun D k => q _ k
  | exc x ρ' => rw [hf] at q; exact fun D k => q _ k
  | nx ρ' =>
    rw [hf] at q
    show SOk K W P σ S H A _ (g ρ')
    cases hg : g ρ' with
    | bad => exact True.intro
    | nx ρ2 =>
      exact fun D k => q { D with nx := u D } fun σ1 S1 H1 A1 w1 e1 t1 k1 => by
        have q2 := h2 σ1 ρ' S1 H1 A1 w1 e1
        rw [hg] at q2
        exact q2 D fun σ2 S2 H2 A2 w2 e2 t2 k2 => k σ2 S2 H2 A2 w2 e2 (t1.trans t2) (k1.trans k2)
    | bk ρ2 =>
      exact fun D k => q { D with nx := u D } fun σ1 S1 H1 A1 w1 e1 t1 k1 => by
        have q2 := h2 σ1 ρ' S1 H1 A1 w1 e1
        rw [hg] at q2
        exact q2 D fun σ2 S2 H2 A2 w2 e2 t2 k2 => k σ2 S2 H2 A2 w2 e2 (t1.trans t2) (k1.trans k2)
    | ct ρ2 =>
      exact fun D k => q { D with nx := u D } fun σ1 S1 H1 A1 w1 e1 t1 k1 => by
        have q2 := h2 σ1 ρ' S1 H1 A1 w1 e1
        rw [hg] at q2
        exact q2 D fun σ2 S2 H2 A2 w2 e2 t2 k2 => k σ2 S2 H2 A2 w2 e2 (t1.trans t2) (k1.trans k2)
    | rt o ρ2 =>
      exact fun D k => q { D with nx := u D } fun σ1 S1 H1 A1 w1 e1 t1 k1 => by
        have q2 := h2 σ1 ρ' S1 H1 A1 w1 e1
        rw [hg] at q2
        exact q2 D fun v σ2 S2 H2 A2 B2 w2 e2 r2 t2 k2 => k v σ2 S2 H2 A2 B2 w2 e2 r2 (t1.trans t2) (k1.trans k2)
    | exc x ρ2 =>
      exact fun D k => q { D with nx := u D } fun σ1 S1 H1 A1 w1 e1 t1 k1 => by
        have q2 := h2 σ1 ρ' S1 H1 A1 w1 e1
        rw [hg] at q2
        exact q2 D fun cls d σ2 S2 H2 A2 w2 e2 x2 t2 k2 => k cls d σ2 S2 H2 A2 w2 e2 x2 (t1.trans t2) (k1.trans k2)
theorem sndS_bind {β α : Type} {R : RR β α} {t : St → Hp → (β → Hp → Prop) → Prop} {u : β → Ends → St → Hp → Prop} {f : En → Out α} {k : α → En → SO} (h : Snd K W R t f)
    (hk : ∀ v a σ ρ S H A B, WF S H (A + B) → ER K S H σ ρ A → R σ S H v a B → SOk K W P σ S H (A + B) (u v) (k a ρ)) : SndS K W P (fun D σ H => t σ H fun v H1 => u v D σ H1) fun ρ => (f ρ).toS k := by
  intro σ ρ S H A w e
  have q := h σ ρ S H A w e
  show SOk K W P σ S H A _ ((f ρ).toS k)
  cases hf : f ρ with
  | bad => exact True.intro
  | exc x ρ' =>
    rw [hf] at q
    exact fun D k => q _ fun cls d S' H' A' w' e' x' t' => k cls d σ S' H' A' w' e' x' t' Kp.refl
  | ok a ρ' =>
    rw [hf] at q
    show SOk K W P σ S H A _ (k a ρ')
    cases hk2 : k a ρ' with
    | bad => exact True.intro
    | nx ρ2 =>
      exact fun D z => q _ fun v S1 H1 A1 B1 w1 e1 r1 t1 => by
        have q2 := hk v a σ ρ' S1 H1 A1 B1 w1 e1 r1
        rw [hk2] at q2
        exact q2 D fun σ2 S2 H2 A2 w2 e2 t2 k2 => z σ2 S2 H2 A2 w2 e2 (t1.trans t2) k2
    | bk ρ2 =>
      exact fun D z => q _ fun v S1 H1 A1 B1 w1 e1 r1 t1 => by
        have q2 := hk v a σ ρ' S1 H1 A1 B1 w1 e1 r1
        rw [hk2] at q2
        exact q2 D fun σ2 S2 H2 A2 w2 e2 t2 k2 => z σ2 S2 H2 A2 w2 e2 (t1.trans t2) k2
    | ct ρ2 =>
      exact fun D z => q _ fun v S1 H1 A1 B1 w1 e1 r1 t1 => by
        have q2 := hk v a σ ρ' S1 H1 A1 B1 w1 e1 r1
        rw [hk2] at q2
        exact q2 D fun σ2 S2 H2 A2 w2 e2 t2 k2 => z σ2 S2 H2 A2 w2 e2 (t1.trans t2) k2
    | rt o ρ2 =>
      exact fun D z => q _ fun v S1 H1 A1 B1 w1 e1 r1 t1 => by
        have q2 := hk v a σ ρ' S1 H1 A1 B1 w1 e1 r1
        rw [hk2] at q2
        exact q2 D fun v2 σ2 S2 H2 A2 B2 w2 e2 r2 t2 k2 => z v2 σ2 S2 H2 A2 B2 w2 e2 r2 (t1.trans t2) k2
    | exc x ρ2 =>
      exact fun D z => q _ fun v S1 H1 A1 B1 w1 e1 r1 t1 => by
        have q2 := hk v a σ ρ' S1 H1 A1 B1 w1 e1 r1
        rw [hk2] at q2
        exact q2 D fun cls d σ2 S2 H2 A2 w2 e2 x2 t2 k2 => z cls d σ2 S2 H2 A2 w2 e2 x2 (t1.trans t2) k2
theorem sOk_less {t : TS} {f : FS} (h : SndS K W P t f) (w : WF S H (A + B)) (e : ER K S H σ ρ A) : SOk K W P σ S H (A + B) t (f ρ) := by
  have q := h σ ρ S H A (w.less le1) e
  have t0 : Tr S H (A + B) S H A := Tr.refl.less le1
  cases hf : f ρ with
  | bad => exact True.intro
  | nx ρ2 => rw [hf] at q; exact fun D z => q D fun σ2 S2 H2 A2 w2 e2 t2 k2 => z σ2 S2 H2 A2 w2 e2 (t0.trans t2) k2
  | bk ρ2 => rw [hf] at q; exact fun D z => q D fun σ2 S2 H2 A2 w2 e2 t2 k2 => z σ2 S2 H2 A2 w2 e2 (t0.trans t2) k2
  | ct ρ2 => rw [hf] at q; exact fun D z => q D fun σ2 S2 H2 A2 w2 e2 t2 k2 => z σ2 S2 H2 A2 w2 e2 (t0.trans t2) k2
  | rt o ρ2 => rw [hf] at q; exact fun D z => q D fun v2 σ2 S2 H2 A2 B2 w2 e2 r2 t2 k2 => z v2 σ2 S2 H2 A2 B2 w2 e2 r2 (t0.trans t2) k2
  | exc x ρ2 => rw [hf] at q; exact fun D z => q D fun cls d σ2 S2 H2 A2 w2 e2 x2 t2 k2 => z cls d σ2 S2 H2 A2 w2 e2 x2 (t0.trans t2) k2
def sIf (c : FT) (f g : FS) : FS := fun ρ => (c ρ).toS fun b ρ' => if b then f ρ' else g ρ'
theorem sndS_if {c : TT} {t u : TS} {fc : FT} {f g : FS} (hc : SndT K W c fc) (h1 : SndS K W P t f) (h2 : SndS K W P u g) : SndS K W P (tIfS c t u) (sIf fc f g) := by
  refine sndS_bind (u := fun b D σ H => if b = true then t D σ H else u D σ H) hc fun b b' σ ρ S H A B w e r => ?_
  obtain ⟨rfl, _⟩ := r
  cases b with
  | true => exact sOk_less h1 w e
  | false => exact sOk_less h2 w e
def sRet (f : FE) : FS := fun ρ => (f ρ).toS fun o ρ' => .rt o ρ'
theorem sndS_ret {t : TE} {f : FE} (h : SndE K W t f) : SndS K W P (tRet t) (sRet f) :=
  sndS_bind (u := fun v D _ H => D.rt v H) h fun v o σ ρ S H A B w e r D k => k v σ S H A B w e r Tr.refl Kp.refl
def sDrop (f : FE) : FS := fun ρ => (f ρ).toS fun _ ρ' => .nx ρ'
theorem sndS_drop {t : TE} {f : FE} (h : SndE K W t f) : SndS K W P (tDrop t) (sDrop f) :=
  sndS_bind (u := fun _ D σ H => D.nx σ H) h fun v o σ ρ S H A B w e r D k => k σ S H A (w.less le1) e (Tr.refl.less le1) Kp.refl
def sSet (i : Nat) (f : FE) : FS := fun ρ => (f ρ).toS fun o ρ' => if i < ρ'.length then .nx (ρ'.set i (some o)) else .bad
theorem kp_set {i : Nat} {w : Option V} (h : P.contains i = false) : Kp P σ (σ.set i w) := ⟨List.length_set, fun j hj => List.getElem?_set_ne fun z => by
  subst z
  rw [List.contains_iff_mem.mpr hj] at h
  cases h⟩
theorem sndS_set {i : Nat} {t : TE} {f : FE} (h : SndE K W t f) (hP : P.contains i = false) : SndS K W P (tAsg t (gName i)) (sSet i f) := by
  refine sndS_bind (u := fun v D σ H => D.nx (σ.set i (some v)) H) h fun v o σ ρ S H A B w e r => ?_
  show SOk K W P σ S H (A + B) _ (if i < ρ.length then SO.nx (ρ.set i (some o)) else .bad)
  by_cases hi : i < ρ.length
  · rw [if_pos hi]
    intro D k
    obtain ⟨C, e1, l1⟩ := er_store e r hi
    have l2 : ∀ b, (B + C) b ≤ (A + B) b := fun b => by have := l1 b; simp only [add_at]; omega
    exact k _ S H _ (w.less l2) e1 (Tr.refl.less l2) (kp_set hP)
  · rw [if_neg hi]; exact True.intro
end
section
variable {X : Cx} {W : WX} {P : List Nat} {st : Stmt} {sts : List Stmt} {f g : FS} {e : Expr} {fe : FE} {pos : Pos}
theorem bv_nil : BV X W P [] sNil := ⟨_, pss_nil, sndS_nil⟩
theorem bv_cons (h : SV X W P st f) (r : BV X W P sts g) : BV X W P (st :: sts) (sSeq f g) := let ⟨_, h1, h2⟩ := h.ex; let ⟨_, r1, r2⟩ := r.ex; ⟨_, pss_cons h1 r1, sndS_seq h2 r2⟩
theorem bv_one (h : SV X W P st f) : BV X W P [st] f := let ⟨_, h1, h2⟩ := h.ex; ⟨_, pss_one h1, h2⟩
theorem sv_ret (h : EV X W e fe) : SV X W P (.Return (some e) pos) (sRet fe) := let ⟨_, h1, h2⟩ := h.ex; ⟨_, ps_ret h1, sndS_ret h2⟩
theorem sv_if {c : Expr} {a b : List Stmt} {fc : FT} (hc : TV X W c fc) (ha : BV X W P a f) (hb : BV X W P b g) : SV X W P (.If c a b pos) (sIf fc f g) :=
  let ⟨_, c1, c2⟩ := hc.ex; let ⟨_, a1, a2⟩ := ha.ex; let ⟨_, b1, b2⟩ := hb.ex; ⟨_, ps_if c1 a1 b1, sndS_if c2 a2 b2⟩
theorem sv_expr (h : EV X W e fe) (hs : swapsWith e none pos.line X.env = pure false := by rfl) : SV X W P (.Expr e pos) (sDrop fe) := let ⟨_, h1, h2⟩ := h.ex; ⟨_, ps_expr h1 hs, sndS_drop h2⟩
theorem sv_set (i : Nat) {x : Str} {pos' : Pos} (hN : X.N.Nodup) (h : EV X W e fe) (hP : P.contains i = false := by rfl) (hi : X.N[i]? = some x := by rfl) (hx : Loc X.env.scope x := by first | exact Or.inl rfl | exact Or.inr rfl) (hs : swapsWith e (some (.Name x pos')) pos.line X.env = pure false := by rfl) (hf : X.fn x = true ∨ X.env.scope.names.lookup x = some .local := by first | exact .inl rfl | exact .inr rfl | assumption) :
    SV X W P (.Assign [.Name x pos'] e pos) (sSet i fe) := let ⟨_, h1, h2⟩ := h.ex; ⟨_, ps_set hN hi hx h1 hs hf, sndS_set h2 hP⟩
end
end Ls
namespace Ls
open PySem L2
variable [Tb] [Vw]
section
variable {K : PySem.W.Frag} {W : WX} {P : List Nat} {S H : Hp} {A B C : Fp} {σ : St} {ρ : En}
theorem slot_own {j : Nat} {xs : List O} (e : ER K S H σ ρ A) (hj : ρ[j]? = some (some (.lst xs))) : ∃ a vs Bx C, σ[j]? = some (some (.ref a)) ∧ H a = some (.lst vs) ∧ ORs K S H vs xs Bx ∧ ER K S H σ (ρ.set j none) C ∧ ∀ b, A b = Fp.one a b + Bx b + C b := by
  obtain ⟨v, B, C, e1, q, e2, z⟩ := er_get e hj
  cases q with
  | @lst _ a vs _ _ Bx eh r z2 => exact ⟨a, vs, Bx, C, e1, eh, r, e2, fun b => by rw [z b, z2 b]⟩
theorem slot_set {j : Nat} {a : Addr} {ws : List V} {ys : List O} {By T : Fp} (w : WF S H T) (h1 : σ[j]? = some (some (.ref a))) (hj : ∃ x, ρ[j]? = some x) (e : ER K S H σ (ρ.set j none) C) (r : ORs K S H ws ys By) (hT : ∀ b, Fp.one a b + By b + C b ≤ T b) :
    ∃ A', WF S (upd H a (.lst ws)) A' ∧ ER K S (upd H a (.lst ws)) σ (ρ.set j (some (.lst ys))) A' ∧ Tr S H T S (upd H a (.lst ws)) A' := by
  have ta : 0 < T a := by have := hT a; rw [one_same] at this; omega
  have t1 := w.one a
  have h2 := hT a
  rw [one_same] at h2
  obtain ⟨w2, t2⟩ := mutO (u := .lst ws) w ta
  have ne : ∀ {F : Fp}, F a = 0 → ∀ b, 0 < F b → upd H a (.lst ws) b = H b := fun {F} hF b z => upd_ne fun eb => by rw [eb] at z; omega
  have e2 := er_keep (K := K) (S' := S) (H' := upd H a (.lst ws)) (fun _ _ h => h) e (ne (by omega))
  have q2 : OR K S (upd H a (.lst ws)) (.ref a) (.lst ys) (Fp.one a + By) := .lst upd_same (ors_keep (fun _ _ h => h) (ne (by omega)) r) fun b => add_at _ _ b
  obtain ⟨x, hx⟩ := hj
  have e3 := er_back e2 h1 (set_none_get hx) q2
  rw [List.set_set] at e3
  have le : ∀ b, (fun b => (Fp.one a + By) b + C b) b ≤ T b := fun b => by have := hT b; simp only [add_at]; omega
  exact ⟨_, w2.less le, e3, t2.less le⟩
def appK (j : Nat) (o : O) (ρ1 : En) : SO := match ρ1[j]? with
  | some (some (.lst xs)) => if xs.length < sizeLine then .nx (ρ1.set j (some (.lst (xs ++ [o])))) else .bad
  | _ => .bad
def sApp (j : Nat) (f : FE) : FS := fun ρ => match ρ[j]? with
  | some (some (.lst _)) => (f ρ).toS (appK j)
  | _ => .bad
theorem sndS_app {j : Nat} {te : TE} {f : FE} (h : SndE K W te f) : SndS K W P (tDrop (tBM K "list" rAppend (tVar j) (tCons te tNil))) (sApp j f) := by
  intro σ ρ S H A w e
  have q := h σ ρ S H A w e
  unfold sApp
  cases hj : ρ[j]? with
  | none => exact True.intro
  | some x =>
    cases x with
    | none => exact True.intro
    | some o =>
      cases o with
      | fz _ => exact True.intro
      | raw _ => exact True.intro
      | exn _ _ _ _ => exact True.intro
      | ins _ _ _ => exact True.intro
      | dct _ _ => exact True.intro
      | vu _ => exact True.intro
      | lst xs0 =>
        obtain ⟨a, vs0, _, _, hs, hH, _, _, _⟩ := slot_own e hj
        show SOk K W P σ S H A _ ((f ρ).toS (appK j))
        cases hf : f ρ with
        | bad => exact True.intro
        | exc x ρ' =>
          rw [hf] at q
          exact fun D k => ⟨_, hs, Or.inl ⟨rfl, _, SqL.of hH⟩, q _ fun cls d S' H' A' w' e' x' t' => k cls d σ S' H' A' w' e' x' t' Kp.refl⟩
        | ok o ρ1 =>
          rw [hf] at q
          show SOk K W P σ S H A _ (appK j o ρ1)
          unfold appK
          cases hj1 : ρ1[j]? with
          | none => exact True.intro
          | some x =>
            cases x with
            | none => exact True.intro
            | some o' =>
              cases o' with
              | fz _ => exact True.intro
              | raw _ => exact True.intro
              | exn _ _ _ _ => exact True.intro
              | ins _ _ _ => exact True.intro
              | dct _ _ => exact True.intro
              | vu _ => exact True.intro
              | lst xs =>
                show SOk K W P σ S H A _ (if xs.length < sizeLine then SO.nx (ρ1.set j (some (.lst (xs ++ [o])))) else .bad)
                by_cases hz : xs.length < sizeLine
                · rw [if_pos hz]
                  intro D k
                  refine ⟨_, hs, Or.inl ⟨rfl, _, SqL.of hH⟩, q _ fun y S1 H1 A1 B1 w1 e1 r1 t1 => ?_⟩
                  obtain ⟨a', vs, Bx, C, hs1, hH1, rx, e2, z2⟩ := slot_own e1 hj1
                  rw [hs] at hs1
                  cases hs1
                  refine ⟨a, vs, y, rfl, rfl, hH1, by rw [ors_len rx]; exact hz, ?_⟩
                  obtain ⟨A', w3, e3, t3⟩ := slot_set w1 hs ⟨_, hj1⟩ e2 (ors_snoc rx r1) fun b => by simp only [add_at]; rw [z2 b]; omega
                  exact k σ S1 _ A' w3 e3 (t1.trans t3) Kp.refl
                · rw [if_neg hz]; exact True.intro
theorem ors_set : ∀ {vs : List V} {os : List O} {A : Fp} {v : V} {o : O} {B : Fp} (n : Nat), ORs K S H vs os A → OR K S H v o B → ∃ C, ORs K S H (vs.set n v) (os.set n o) C ∧ ∀ b, C b ≤ A b + B b
  | _, _, A, _, _, B, n, .nil z, q => ⟨A, .nil z, fun b => by omega⟩
  | _, _, A, _, _, B, 0, .cons (B := B1) (C := C1) q r z, q' => ⟨B + C1, .cons q' r fun b => add_at _ _ b, fun b => by rw [add_at, z b]; omega⟩
  | _, _, A, _, _, B, n + 1, .cons (B := B1) q r z, q' => by
    obtain ⟨C, h1, h2⟩ := ors_set n r q'
    exact ⟨B1 + C, .cons q h1 fun b => add_at _ _ b, fun b => by rw [add_at, z b]; have := h2 b; omega⟩
def ixK (j : Nat) (o : O) (p : Pk) (ρ2 : En) : SO := match ρ2[j]?, pkD ρ2 p with
  | some (some (.lst xs)), some (.int k) => (match ixN xs.length k with
    | some n => .nx (ρ2.set j (some (.lst (xs.set n o))))
    | none => .bad)
  | _, _ => .bad
def sIx (j : Nat) (fi : FP) (f : FE) : FS := fun ρ => (f ρ).toS fun o ρ1 => match ρ1[j]? with
  | some (some _) => (fi ρ1).toS (ixK j o)
  | _ => .bad
theorem sndS_ix {j : Nat} {te ti : TE} {fi : FP} {f : FE} (h : SndE K W te f) (hi : SndP K W ti fi) : SndS K W P (tAsg te (gSub (tVar j) ti rSetL)) (sIx j fi f) := by
  refine sndS_bind (u := fun v D σ H => gSub (tVar j) ti rSetL v σ H D.nx) h fun v o σ ρ S H A B w e r => ?_
  have q := snd_beside hi w e
  cases hj : ρ[j]? with
  | none => exact True.intro
  | some x =>
    cases x with
    | none => exact True.intro
    | some o0 =>
      obtain ⟨u, _, _, hs, _, _, _⟩ := er_get e hj
      show SOk K W P σ S H (A + B) _ ((fi ρ).toS (ixK j o))
      cases hf : fi ρ with
      | bad => exact True.intro
      | exc x ρ' =>
        rw [hf] at q
        exact fun D k => ⟨u, hs, q _ fun cls d S' H' A' w' e' x' t' => k cls d σ S' H' A' w' e' x' t' Kp.refl⟩
      | ok p ρ2 =>
        rw [hf] at q
        show SOk K W P σ S H (A + B) _ (ixK j o p ρ2)
        unfold ixK
        cases hj1 : ρ2[j]? with
        | none => exact True.intro
        | some x =>
          cases x with
          | none => exact True.intro
          | some o' =>
            cases o' with
            | fz _ => exact True.intro
            | raw _ => exact True.intro
            | exn _ _ _ _ => exact True.intro
            | ins _ _ _ => exact True.intro
            | dct _ _ => exact True.intro
            | vu _ => exact True.intro
            | lst xs =>
              cases hp : pkD ρ2 p with
              | none => exact True.intro
              | some d =>
                cases d with
                | int i =>
                  show SOk K W P σ S H (A + B) _ (match ixN xs.length i with
                    | some n => SO.nx (ρ2.set j (some (.lst (xs.set n o))))
                    | none => .bad)
                  cases hn : ixN xs.length i with
                  | none => exact True.intro
                  | some n =>
                    intro D k
                    refine ⟨u, hs, q _ fun y S1 H1 A1 C1 w1 e1 rp t1 sub1 kp1 => ?_⟩
                    obtain ⟨a, vs, Bx, C, hs1, hH1, rx, e2, z2⟩ := slot_own e1 hj1
                    rw [hs] at hs1
                    cases hs1
                    have r1 : OR K S1 H1 v o B := or_keep sub1 kp1 r
                    obtain ⟨By, r2, l2⟩ := ors_set n rx r1
                    have hy := dp_int (pk_peek w1 e1 rp hp)
                    refine ⟨a, vs, i, n, rfl, hy, hH1, by rw [ors_len rx]; exact hn, ?_⟩
                    obtain ⟨A', w3, e3, t3⟩ := slot_set w1 hs ⟨_, hj1⟩ e2 r2 fun b => by have := l2 b; simp only [add_at]; rw [z2 b]; omega
                    exact k σ S1 _ A' w3 e3 (t1.trans t3) Kp.refl
                | _ => exact True.intro
def augK (i : Nat) (a : PyData) (g : PyData → PyData → Option PyData) (p : Pk) (ρ1 : En) : SO := match (pkD ρ1 p).bind fun b => g a b with
  | some c => if i < ρ1.length then .nx (ρ1.set i (some (.fz c))) else .bad
  | none => .bad
def sAug (i : Nat) (g : PyData → PyData → Option PyData) (f : FP) : FS := fun ρ => match ρ[i]? with
  | some (some (.fz (.int n))) => (f ρ).toS (augK i (.int n) g)
  | _ => .bad
theorem sndS_aug {i : Nat} {te : TE} {f : FP} {r : R2} {g : PyData → PyData → Option PyData} (ho : OpS K r g) (h : SndP K W te f) (hP : P.contains i = false) : SndS K W P (tAug i te r) (sAug i g f) := by
  intro σ ρ S H A w e
  have q := h σ ρ S H A w e
  unfold sAug
  cases hj : ρ[i]? with
  | none => exact True.intro
  | some x =>
    cases x with
    | none => exact True.intro
    | some o =>
      cases o with
      | raw _ => exact True.intro
      | exn _ _ _ _ => exact True.intro
      | ins _ _ _ => exact True.intro
      | dct _ _ => exact True.intro
      | vu _ => exact True.intro
      | lst _ => exact True.intro
      | fz d =>
        cases d with
        | int n =>
          obtain ⟨v, _, _, hs, qv, _, _⟩ := er_get e hj
          have ev : v = .int n := by
            cases qv with
            | fz q _ => exact dp_int q
          subst ev
          show SOk K W P σ S H A _ ((f ρ).toS (augK i (.int n) g))
          cases hf : f ρ with
          | bad => exact True.intro
          | exc x ρ' =>
            rw [hf] at q
            exact fun D k => ⟨_, hs, q _ fun cls d S' H' A' w' e' x' t' => k cls d σ S' H' A' w' e' x' t' Kp.refl⟩
          | ok p ρ1 =>
            rw [hf] at q
            show SOk K W P σ S H A _ (augK i (.int n) g p ρ1)
            unfold augK
            cases hg : (pkD ρ1 p).bind fun b => g (.int n) b with
            | none => exact True.intro
            | some c =>
              obtain ⟨b, g1, g2⟩ := Option.bind_eq_some_iff.mp hg
              show SOk K W P σ S H A _ (if i < ρ1.length then SO.nx (ρ1.set i (some (.fz c))) else .bad)
              by_cases hi : i < ρ1.length
              · rw [if_pos hi]
                intro D k
                refine ⟨_, hs, q _ fun y S1 H1 A1 B1 w1 e1 rp t1 => ?_⟩
                refine ho _ y H1 _ b c (.int n) (pk_peek w1 e1 rp g1) g2 _ fun z hz => ?_
                obtain ⟨C, e2, l2⟩ := er_store e1 (OR.fz (hz K S1) (A := Fp.z) fun _ => rfl) hi
                have l3 : ∀ b, (Fp.z + C) b ≤ (A1 + B1) b := fun b => by have := l2 b; simp only [add_at, z_at]; omega
                exact k _ S1 H1 _ (w1.less l3) e2 (t1.less l3) (kp_set hP)
              · rw [if_neg hi]; exact True.intro
        | _ => exact True.intro
def forF (s : Sr) (gF : FG) (body : FS) : Nat → Nat → En → SO
  | 0, _, _ => .bad
  | n + 1, j, ρ => match s.at ρ with
    | none => .bad
    | some ds => (match ds[j]? with
      | none => .nx ρ
      | some d => (match gF d ρ with
        | none => .bad
        | some ρ1 => (match body ρ1 with
          | .nx ρ2 => forF s gF body n (j + 1) ρ2
          | .ct ρ2 => forF s gF body n (j + 1) ρ2
          | .bk ρ2 => .nx ρ2
          | r => r)))
def sFor (Z : List Nat) (fi : FI) (gF : FG) (body : FS) : FS := fun ρ => (fi ρ).toS fun s ρ1 => if s.slots.all fun i => Z.contains i then (match s.at ρ1 with
    | some ds => forF s gF body (ds.length + 1) 0 ρ1
    | none => .bad) else .bad
def EndS (K : PySem.W.Frag) (W : WX) (P : List Nat) (σ : St) (S H : Hp) (A : Fp) (D : Ends) : SO → Prop
  | .nx ρ' => PostS K P σ S H A ρ' D.nx
  | .rt o ρ' => PostR K P σ S H A o ρ' D.rt
  | .bk ρ' => PostS K P σ S H A ρ' D.bk
  | .ct ρ' => PostS K P σ S H A ρ' D.ct
  | .exc x ρ' => PostXS K W P σ S H A x ρ'
  | .bad => False
theorem sOk_of {t : TS} {out : SO} (h : out ≠ .bad → ∀ D, EndS K W P σ S H A D out → t D σ H) : SOk K W P σ S H A t out := by
  cases out with
  | bad => exact True.intro
  | nx ρ' => exact fun D k => h (fun z => nomatch z) D k
  | rt o ρ' => exact fun D k => h (fun z => nomatch z) D k
  | bk ρ' => exact fun D k => h (fun z => nomatch z) D k
  | ct ρ' => exact fun D k => h (fun z => nomatch z) D k
  | exc x ρ' => exact fun D k => h (fun z => nomatch z) D k
theorem sndS_for {wi : TI} {g : TG} {tb : TS} {Z vs : List Nat} {fi : FI} {gF : FG} {body : FS} (hi : SndI K W wi fi) (hg : SndG K g gF vs) (hb : SndS K W (Z ++ P) tb body) (hv : vs.all (fun i => !(Z ++ P).contains i) = true) : SndS K W P (tFor wi g tb) (sFor Z fi gF body) := by
  refine sndS_bind (u := fun J D σ H => ∃ Wv : Nat → Nat → St → Hp → Prop, (∃ m, Wv 0 m σ H) ∧ ∀ i m σ H, Wv i m σ H →
    (J.stop i H ∧ D.nx σ H) ∨ (J.go i H ∧ ∃ Nx : St → Hp → Prop, (∀ σ' H', Nx σ' H' → ∃ m', m' < m ∧ Wv (i + 1) m' σ' H') ∧ ∀ x H', J.yld i H x H' → g x σ H' fun σ2 H2 => tb { D with nx := Nx, ct := Nx, bk := D.nx } σ2 H2)) hi fun J s σ ρ S H A B w e r => ?_
  obtain ⟨src, _⟩ := r
  show SOk K W P σ S H (A + B) _ (if s.slots.all fun i => Z.contains i then (match s.at ρ with
    | some ds => forF s gF body (ds.length + 1) 0 ρ
    | none => .bad) else .bad)
  by_cases hz : (s.slots.all fun i => Z.contains i) = true
  · rw [if_pos hz]
    cases hat : s.at ρ with
    | none => exact True.intro
    | some ds =>
      show SOk K W P σ S H (A + B) _ (forF s gF body (ds.length + 1) 0 ρ)
      refine sOk_of fun nb D k => ?_
      generalize hout : forF s gF body (ds.length + 1) 0 ρ = out at nb k
      have slotOk : ∀ σ', Kp (Z ++ P) σ σ' → ∀ i ∈ s.slots, σ'[i]? = σ[i]? := fun σ' h i hi => h.2 i (List.mem_append_left _ (List.contains_iff_mem.mp (List.all_eq_true.mp hz i hi)))
      have PL : ∀ i ∈ P, i ∈ Z ++ P := fun i hi => List.mem_append_right _ hi
      refine ⟨fun j m σ' H' => ∃ ρ' S' A', WF S' H' A' ∧ ER K S' H' σ' ρ' A' ∧ Tr S H (A + B) S' H' A' ∧ Kp (Z ++ P) σ σ' ∧ forF s gF body m j ρ' = out, ⟨ds.length + 1, ρ, S, A, w.less le1, e, Tr.refl.less le1, Kp.refl, hout⟩, ?_⟩
      rintro j m σ1 H1 ⟨ρ1, S1, A1, w1, e1, t1, k1, hfor⟩
      cases m with
      | zero => exact absurd hfor.symm nb
      | succ n =>
        unfold forF at hfor
        cases hat1 : s.at ρ1 with
        | none => rw [hat1] at hfor; exact absurd hfor.symm nb
        | some ds1 =>
          rw [hat1] at hfor
          dsimp only at hfor
          have hsrc := src σ1 ρ1 S1 H1 A1 A1 j ds1 (slotOk σ1 k1) t1.fz w1 (fun _ => Nat.le_refl _) e1 hat1
          cases hj : ds1[j]? with
          | none =>
            rw [hj] at hfor
            dsimp only at hfor
            rw [← hfor] at k
            exact .inl ⟨hsrc.2 (List.getElem?_eq_none_iff.mp hj), k σ1 S1 H1 A1 w1 e1 t1 (k1.less PL)⟩
          | some d =>
            rw [hj] at hfor
            dsimp only at hfor
            obtain ⟨go, yl⟩ := hsrc.1 d hj
            refine .inr ⟨go, fun σ' H' => ∃ ρ' S' A', WF S' H' A' ∧ ER K S' H' σ' ρ' A' ∧ Tr S H (A + B) S' H' A' ∧ Kp (Z ++ P) σ σ' ∧ forF s gF body n (j + 1) ρ' = out, fun σ' H' h => ⟨n, Nat.lt_succ_self n, h⟩, fun x H2 hy => ?_⟩
            obtain ⟨S2, w2, t2, k2, hx⟩ := yl x H2 hy
            cases hgf : gF d ρ1 with
            | none => rw [hgf] at hfor; exact absurd hfor.symm nb
            | some ρ3 =>
              rw [hgf] at hfor
              dsimp only at hfor
              refine hg x d σ1 ρ1 S2 H2 A1 A1 ρ3 w2 (fun _ => Nat.le_refl _) (er_keep t2.fz e1 k2) hx hgf _ fun σ3 A3 e3 l3 n3 k3 => ?_
              have w3 := w2.less l3
              have t3 : Tr S H (A + B) S2 H2 A3 := (t1.trans t2).less l3
              have kp3 : Kp (Z ++ P) σ1 σ3 := ⟨n3, fun i hi => k3 i fun z => by
                have h1 := List.all_eq_true.mp hv i z
                rw [List.contains_iff_mem.mpr hi] at h1
                cases h1⟩
              have q := hb σ3 ρ3 S2 H2 A3 w3 e3
              cases hbody : body ρ3 with
              | bad => rw [hbody] at hfor; exact absurd hfor.symm nb
              | nx ρ4 =>
                rw [hbody] at hfor q
                exact q _ fun σ4 S4 H4 A4 w4 e4 t4 k4 => ⟨ρ4, S4, A4, w4, e4, t3.trans t4, (k1.trans kp3).trans k4, hfor⟩
              | ct ρ4 =>
                rw [hbody] at hfor q
                exact q _ fun σ4 S4 H4 A4 w4 e4 t4 k4 => ⟨ρ4, S4, A4, w4, e4, t3.trans t4, (k1.trans kp3).trans k4, hfor⟩
              | bk ρ4 =>
                rw [hbody] at hfor q
                dsimp only at hfor
                rw [← hfor] at k
                exact q _ fun σ4 S4 H4 A4 w4 e4 t4 k4 => k σ4 S4 H4 A4 w4 e4 (t3.trans t4) (((k1.trans kp3).trans k4).less PL)
              | rt o ρ4 =>
                rw [hbody] at hfor q
                dsimp only at hfor
                rw [← hfor] at k
                exact q _ fun v σ4 S4 H4 A4 B4 w4 e4 r4 t4 k4 => k v σ4 S4 H4 A4 B4 w4 e4 r4 (t3.trans t4) (((k1.trans kp3).trans k4).less PL)
              | exc y ρ4 =>
                rw [hbody] at hfor q
                dsimp only at hfor
                rw [← hfor] at k
                exact q _ fun cls d σ4 S4 H4 A4 w4 e4 x4 t4 k4 => k cls d σ4 S4 H4 A4 w4 e4 x4 (t3.trans t4) (((k1.trans kp3).trans k4).less PL)
  · rw [if_neg hz]; exact True.intro
def whF (c : FT) (body : FS) : Nat → En → SO
  | 0, _ => .bad
  | n + 1, ρ => (c ρ).toS fun b ρ1 => if b then (match body ρ1 with
      | .nx ρ2 => whF c body n ρ2
      | .ct ρ2 => whF c body n ρ2
      | .bk ρ2 => .nx ρ2
      | r => r) else .nx ρ1
open Classical in
noncomputable def sWh (c : FT) (body : FS) : FS := fun ρ => if h : ∃ n, whF c body n ρ ≠ .bad then whF c body (Classical.choose h) ρ else .bad
theorem whF_mono {c : FT} {body : FS} : ∀ (n : Nat) (ρ : En), whF c body n ρ ≠ .bad → whF c body (n + 1) ρ = whF c body n ρ
  | 0, _, h => absurd rfl h
  | n + 1, ρ, h => by
    have e1 : whF c body (n + 1) ρ = (c ρ).toS fun b ρ1 => if b then (match body ρ1 with
      | .nx ρ2 => whF c body n ρ2
      | .ct ρ2 => whF c body n ρ2
      | .bk ρ2 => .nx ρ2
      | r => r) else .nx ρ1 := rfl
    have e2 : whF c body (n + 1 + 1) ρ = (c ρ).toS fun b ρ1 => if b then (match body ρ1 with
      | .nx ρ2 => whF c body (n + 1) ρ2
      | .ct ρ2 => whF c body (n + 1) ρ2
      | .bk ρ2 => .nx ρ2
      | r => r) else .nx ρ1 := rfl
    rw [e1] at h
    rw [e2, e1]
    cases hc : c ρ with
    | bad => rfl
    | exc x ρ' => rfl
    | ok b ρ1 =>
      rw [hc] at h
      cases b with
      | false => rfl
      | true =>
        dsimp only [Out.toS] at h ⊢
        cases hb : body ρ1 with
        | nx ρ2 => rw [hb] at h; exact whF_mono n ρ2 h
        | ct ρ2 => rw [hb] at h; exact whF_mono n ρ2 h
        | _ => rfl
theorem whF_le {c : FT} {body : FS} {n : Nat} {ρ : En} (h : whF c body n ρ ≠ .bad) : ∀ k, whF c body (n + k) ρ = whF c body n ρ
  | 0 => rfl
  | k + 1 => by
    have i := whF_le h k
    rw [← i, ← whF_mono (n + k) ρ (by rw [i]; exact h)]
    rfl
theorem sWh_eq {c : FT} {body : FS} {n : Nat} {ρ : En} (h : whF c body n ρ ≠ .bad) : sWh c body ρ = whF c body n ρ := by
  have hx : ∃ n, whF c body n ρ ≠ .bad := ⟨n, h⟩
  unfold sWh
  rw [dif_pos hx]
  have h2 := Classical.choose_spec hx
  have a := whF_le h (Classical.choose hx)
  have b := whF_le h2 n
  rw [Nat.add_comm] at a
  rw [← b, a]
theorem sndS_wh {t : TT} {tb : TS} {c : FT} {body : FS} (hc : SndT K W t c) (hb : SndS K W P tb body) : SndS K W P (tWhile t tb) (sWh c body) := by
  intro σ ρ S H A w e
  unfold sWh
  by_cases hx : ∃ n, whF c body n ρ ≠ .bad
  · rw [dif_pos hx]
    refine sOk_of fun nb D k => ?_
    generalize hout : whF c body (Classical.choose hx) ρ = out at nb k
    refine ⟨fun m σ' H' => ∃ ρ' S' A', WF S' H' A' ∧ ER K S' H' σ' ρ' A' ∧ Tr S H A S' H' A' ∧ Kp P σ σ' ∧ whF c body m ρ' = out, ⟨_, ρ, S, A, w, e, Tr.refl, Kp.refl, hout⟩, ?_⟩
    rintro m σ1 H1 ⟨ρ1, S1, A1, w1, e1, t1, k1, hwh⟩
    cases m with
    | zero => exact absurd hwh.symm nb
    | succ n =>
      have hwh : (c ρ1).toS (fun b ρ1 => if b then (match body ρ1 with
        | .nx ρ2 => whF c body n ρ2
        | .ct ρ2 => whF c body n ρ2
        | .bk ρ2 => .nx ρ2
        | r => r) else .nx ρ1) = out := hwh
      have q := hc σ1 ρ1 S1 H1 A1 w1 e1
      cases hcf : c ρ1 with
      | bad => rw [hcf] at hwh; exact absurd hwh.symm nb
      | exc x ρ2 =>
        rw [hcf] at hwh q
        have hwh : SO.exc x ρ2 = out := hwh
        rw [← hwh] at k
        exact q _ fun cls d S' H' A' w' e' x' t' => k cls d σ1 S' H' A' w' e' x' (t1.trans t') k1
      | ok b ρ2 =>
        rw [hcf] at hwh q
        refine q _ fun b' S2 H2 A2 B2 w2 e2 r2 t2 => ?_
        obtain ⟨rfl, _⟩ := r2
        have w2' := w2.less (B := A2) le1
        have t2' : Tr S H A S2 H2 A2 := (t1.trans t2).less le1
        cases b' with
        | false =>
          have hwh : SO.nx ρ2 = out := hwh
          rw [← hwh] at k
          exact k σ1 S2 H2 A2 w2' e2 t2' k1
        | true =>
          dsimp only [Out.toS] at hwh
          refine ⟨fun σ' H' => ∃ ρ' S' A', WF S' H' A' ∧ ER K S' H' σ' ρ' A' ∧ Tr S H A S' H' A' ∧ Kp P σ σ' ∧ whF c body n ρ' = out, fun σ' H' h => ⟨n, Nat.lt_succ_self n, h⟩, ?_⟩
          have q2 := hb σ1 ρ2 S2 H2 A2 w2' e2
          cases hbody : body ρ2 with
          | bad => rw [hbody] at hwh; exact absurd hwh.symm nb
          | nx ρ4 =>
            rw [hbody] at hwh q2
            exact q2 _ fun σ4 S4 H4 A4 w4 e4 t4 k4 => ⟨ρ4, S4, A4, w4, e4, t2'.trans t4, k1.trans k4, hwh⟩
          | ct ρ4 =>
            rw [hbody] at hwh q2
            exact q2 _ fun σ4 S4 H4 A4 w4 e4 t4 k4 => ⟨ρ4, S4, A4, w4, e4, t2'.trans t4, k1.trans k4, hwh⟩
          | bk ρ4 =>
            rw [hbody] at hwh q2
            dsimp only at hwh
            rw [← hwh] at k
            exact q2 _ fun σ4 S4 H4 A4 w4 e4 t4 k4 => k σ4 S4 H4 A4 w4 e4 (t2'.trans t4) (k1.trans k4)
          | rt o ρ4 =>
            rw [hbody] at hwh q2
            dsimp only at hwh
            rw [← hwh] at k
            exact q2 _ fun v σ4 S4 H4 A4 B4 w4 e4 r4 t4 k4 => k v σ4 S4 H4 A4 B4 w4 e4 r4 (t2'.trans t4) (k1.trans k4)
          | exc y ρ4 =>
            rw [hbody] at hwh q2
            dsimp only at hwh
            rw [← hwh] at k
            exact q2 _ fun cls d σ4 S4 H4 A4 w4 e4 x4 t4 k4 => k cls d σ4 S4 H4 A4 w4 e4 x4 (t2'.trans t4) (k1.trans k4)
  · rw [dif_neg hx]; exact True.intro
end
end Ls
namespace Ls
open PySem L2
variable [Tb] [Vw]
section
variable {X : Cx} {W : WX} {P : List Nat} {e i : Expr} {fe : FE} {fi : FP} {pos : Pos}
theorem sv_app (j : Nat) {x : Str} {p1 p2 cpos : Pos} (h : EV X W e fe) (hN : X.N[j]? = some x := by rfl) (hv : Vis X.env.scope x := by first | exact Or.inl rfl | exact Or.inr (Or.inl rfl) | exact Or.inr (Or.inr rfl)) (hd : (x == ("__debug__" : Str)) = false := by decide) (hcd : (x == ("__classdict__" : Str)) = false := by decide)
    (hbase : attributeBase (.Name x p1) "append" X.env (eval (.Name x p1) X.env) = eval (.Name x p1) X.env := by rfl)
    (hfew : ((backTo cpos (starEach [e] X.env)).all (fun x => !x.1) && (backToKw cpos (keywordEach [] X.env)).all (fun x => x.1.isSome)
      && decide ([e].length + ([] : List Keyword).length + (if ([] : List Keyword).isEmpty then 0 else 1) < 30)) = true := by rfl)
    (hline : (p2.endLine == cpos.line) = true := by rfl) (hs : starEach [e] X.env = (false, eval e X.env) :: starEach [] X.env := by rfl) (hplain : (backTo cpos (starEach [] X.env)).any (·.1) = false := by rfl)
    (hsw : swapsWith (.Call (.Attribute (.Name x p1) "append" p2) [e] [] cpos) none pos.line X.env = pure false := by rfl) :
    SV X W P (.Expr (.Call (.Attribute (.Name x p1) "append" p2) [e] [] cpos) pos) (sApp j fe) :=
  let ⟨_, h1, h2⟩ := h.ex
  ⟨_, ps_expr (pe_bm PySem.F.plainAttrs_list PySem.F.slot_list_append PySem.F.type_list_append mt_append (pe_var hN hv hd hcd) (pa_cons h1 pa_nil hs) hbase hfew hline hs hplain) hsw, sndS_app h2⟩
theorem sv_ix (j : Nat) {x : Str} {p1 p2 : Pos} (h : EV X W e fe) (hi : PV X W i fi) (hN : X.N[j]? = some x := by rfl) (hv : Vis X.env.scope x := by first | exact Or.inl rfl | exact Or.inr (Or.inl rfl) | exact Or.inr (Or.inr rfl)) (hd : (x == ("__debug__" : Str)) = false := by decide) (hcd : (x == ("__classdict__" : Str)) = false := by decide)
    (ha : ∀ v, assign (.Subscript (.Name x p1) i p2) X.env v = (do
      let ov ← holding [v] (eval (.Name x p1) X.env)
      let iv ← holding [v, ov] (eval i X.env)
      standAt p2
      holding [v, ov, iv] (setItem ov iv v)
      release [v, ov, iv] []) := by intro _; rfl)
    (hs : swapsWithSole [.Subscript (.Name x p1) i p2] e pos.line X.env = pure false := by rfl) (hw : swappedStores [.Subscript (.Name x p1) i p2] e X.env = pure none := by rfl)
    (h1 : (assignEach [.Subscript (.Name x p1) i p2] X.env).map (·.2) = [assign (.Subscript (.Name x p1) i p2) X.env] := by rfl) : SV X W P (.Assign [.Subscript (.Name x p1) i p2] e pos) (sIx j fi fe) :=
  let ⟨_, e1, e2⟩ := h.ex; let ⟨_, i1, i2⟩ := hi.ex
  ⟨_, ps_asg e1 (pg_sub (pe_var hN hv hd hcd) i1 set_list ha) hs hw h1, sndS_ix e2 i2⟩
theorem ip_of {op : Operator} {r : R2} (h : OpR X (inplaceOp op) r) : PIp X op r := h
theorem iop_div : OpR X (inplaceOp .FloorDiv) (rI CDivX fun i j => .int (i.fdiv j)) := opI fun _ _ _ _ _ _ _ hc q => PyProof.Rows.ifloordiv_int hc.1 q (.inl (PyProof.noPylong_of_log2 hc.2))
theorem sv_aug (j : Nat) {op : Operator} {r : R2} {g : PyData → PyData → Option PyData} {x : Str} {pos' : Pos} (hN : X.N.Nodup) (ho : OpR X (inplaceOp op) r) (hs : OpS X.K r g) (h : PV X W e fi) (hP : P.contains j = false := by rfl) (hi : X.N[j]? = some x := by rfl) (hx : Loc X.env.scope x := by first | exact Or.inl rfl | exact Or.inr rfl) (hf : X.fn x = true ∨ X.env.scope.names.lookup x = some .local := by first | exact .inl rfl | exact .inr rfl | assumption) :
    SV X W P (.AugAssign (.Name x pos') op e pos) (sAug j g fi) := let ⟨_, e1, e2⟩ := h.ex; ⟨_, ps_aug hN hi hx e1 (ip_of ho) hf, sndS_aug hs e2 hP⟩
theorem sv_for {tg iter : Expr} {body : List Stmt} {Z vs : List Nat} {f : FI} {gF : FG} {fb : FS} (hp : PassesOwn (model X.prog X.w) X.A X.env X.xe) (hc : X.calm = true) (hi : IV X W tg iter f) (hg : GV X tg vs gF) (hb : BV X W (Z ++ P) body fb) (hv : vs.all (fun i => !(Z ++ P).contains i) = true := by rfl)
    (hs : ∀ x, foldedSetIterable iter X.env x = pure x := by intro _; rfl) : SV X W P (.For tg iter body [] pos) (sFor Z f gF fb) :=
  let ⟨_, i1, i2⟩ := hi.ex; let ⟨_, g1, g2⟩ := hg.ex; let ⟨_, b1, b2⟩ := hb.ex; ⟨_, ps_for hp hc i1 g1 b1 hs, sndS_for i2 g2 b2 hv⟩
theorem sv_wh {c : Expr} {body : List Stmt} {fc : FT} {fb : FS} (hp : PassesOwn (model X.prog X.w) X.A X.env X.xe) (hc : TV X W c fc) (hb : BV X W P body fb) : SV X W P (.While c body [] pos) (sWh fc fb) :=
  let ⟨_, c1, c2⟩ := hc.ex; let ⟨_, b1, b2⟩ := hb.ex; ⟨_, ps_while hp c1 b1, sndS_wh c2 b2⟩
theorem ev_move (j : Nat) {x : Str} (hN : X.N[j]? = some x := by rfl) (hv : Vis X.env.scope x := by first | exact Or.inl rfl | exact Or.inr (Or.inl rfl) | exact Or.inr (Or.inr rfl)) (hd : (x == ("__debug__" : Str)) = false := by decide) (hcd : (x == ("__classdict__" : Str)) = false := by decide) : EV X W (.Name x pos) (eLend j) := by
  refine ⟨_, pe_var hN hv hd hcd, fun σ ρ S H A w e => ?_⟩
  have q := snd_lend (K := X.K) (W := W) (i := j) σ ρ S H A w e
  cases hf : eLend j ρ with
  | bad => exact True.intro
  | exc x ρ' => rw [hf] at q; exact q
  | ok o ρ' => rw [hf] at q; exact fun Q k => q Q fun v S' H' A' B w' e' r' t' => k v S' H' A' B w' e' r'.1 t'
theorem sv_setLc (j : Nat) {y : Str} {py : Pos} {elt tg iter : Expr} {scope : Scope} {own : List (Str × Nat)} {vs : List Nat} {cpos : Pos} {fi : FI} {gF : FG} {f : FE} (hc : X.calm = true) (hN : X.N.Nodup) (hi : IV X W tg iter fi) (ok : BlkOk X.N X.env.scope scope own)
    (hg : ∀ (s : Shared) (H : Hp) (C : Addr) (cl : List (Str × Addr)) (fp : List Addr), GV (X.blk s H scope (compEnvC scope cl C X.env) fp) tg vs gF)
    (he : ∀ (s : Shared) (H : Hp) (C : Addr) (cl : List (Str × Addr)) (fp : List Addr), EV (X.blk s H scope (compEnvC scope cl C X.env) fp) W0 elt f)
    (hsw : swapsWith (.ListComp elt [⟨tg, iter, [], 0⟩] scope cpos) (some (.Name y py)) pos.line X.env = pure true) (hP : P.contains j = false := by rfl) (hy : X.N[j]? = some y := by rfl) (hyl : X.env.scope.names.lookup y = some .local := by rfl) (hvs : own.map (·.2) = vs := by rfl) (hs : ∀ x, foldedSetIterable iter X.env x = pure x := by intro _; rfl) :
    SV X W P (.Assign [.Name y py] (.ListComp elt [⟨tg, iter, [], 0⟩] scope cpos) pos) (sSet j (eComp fi gF tYesF f vs)) :=
  by
  subst hvs
  obtain ⟨_, i1, i2⟩ := hi.ex
  exact ⟨_, ps_setLc (g := rdG X.K gF (own.map (·.2))) (te := rdV X.K W0 (ROr X.K) f) hc hN hy hyl hsw i1 ok (fun s H C cl fp => (hg s H C cl fp).pg) (fun _ _ _ _ _ => pts_nil) (fun s H C cl fp => (he s H C cl fp).pe) hs, sndS_set (sndE_comp i2 sndG_rd sndT_yes snd_rd) hP⟩
end
def isFz : O → Bool
  | .fz _ => true
  | .raw _ => true
  | .vu _ => true
  | _ => false
def finA (prot : List Nat) (ρ' : En) : Nat → List O → Option (List O)
  | _, [] => some []
  | i, a :: as => (if prot.contains i then (ρ'[i]?).bind id else if isFz a then some a else none).bind fun o => (finA prot ρ' (i + 1) as).map fun os => o :: os
def entry (m : Nat) (as : List O) : En := as.map some ++ List.replicate (m - as.length) none
def runFn (m : Nat) (prot : List Nat) (body : FS) : List O → FO := fun as => match body (entry m as) with
  | .nx ρ' => (match finA prot ρ' 0 as with
    | some as' => .ok (.fz .none) as'
    | none => .bad)
  | .rt o ρ' => (match finA prot ρ' 0 as with
    | some as' => .ok o as'
    | none => .bad)
  | .exc x ρ' => (match finA prot ρ' 0 as with
    | some as' => .exc x as'
    | none => .bad)
  | _ => .bad
section
variable {K : PySem.W.Frag} {S H S' H' : Hp} {A : Fp}
theorem er_repl : ∀ n : Nat, ER K S H (List.replicate n none) (List.replicate n none) Fp.z
  | 0 => .nil fun _ => rfl
  | n + 1 => .non (er_repl n)
theorem er_entry : ∀ {vs : List V} {as : List O} {A : Fp} {n : Nat}, ORs K S H vs as A → ER K S H (vs.map some ++ List.replicate n none) (as.map some ++ List.replicate n none) A
  | _, _, _, n, .nil z => er_fp (er_repl n) z
  | _, _, _, n, .cons q r z => .som q (er_entry r) z
theorem or_fz {v : V} {o : O} (q : OR K S H v o A) (h : isFz o = true) (sub : ∀ a u, S a = some u → S' a = some u) : OR K S' H' v o Fp.z := by
  cases q with
  | fz q _ => exact .fz (dp_mono sub q) fun _ => rfl
  | raw _ => exact .raw fun _ => rfl
  | exn _ _ => cases h
  | ins _ _ _ _ _ => cases h
  | dct _ _ _ _ _ => cases h
  | vu q _ => exact .vu (or_keep sub (fun _ _ => rfl) q) fun _ => rfl
  | lst _ _ _ => cases h
theorem er_args {prot : List Nat} {σ' : St} {ρ0 : En} (sub : ∀ a u, S a = some u → S' a = some u) : ∀ {vs : List V} {as as' : List O} {A A' : Fp} {i : Nat} {ρ' : En}, ORs K S H vs as A → (∀ j v, vs[j]? = some v → (i + j) ∈ prot → σ'[i + j]? = some (some v)) → ER K S' H' σ' ρ' A' → (∀ j, i ≤ j → ρ'[j]? = ρ0[j]?) → finA prot ρ0 i as = some as' → ∃ A'', ORs K S' H' vs as' A'' ∧ ∀ b, A'' b ≤ A' b
  | _, _, as', _, A', i, ρ', .nil _, _, _, _, hf => by
    cases hf
    exact ⟨Fp.z, .nil fun _ => rfl, fun b => Nat.zero_le _⟩
  | _, _, as', _, A', i, ρ', .cons (v := v) (vs := vs) (x := a) (xs := as) q r z, hk, e, hρ, hf => by
    have hf : (if prot.contains i then (ρ0[i]?).bind id else if isFz a then some a else none).bind (fun o => (finA prot ρ0 (i + 1) as).map fun os => o :: os) = some as' := hf
    obtain ⟨o, a1, a2⟩ := Option.bind_eq_some_iff.mp hf
    obtain ⟨os, b1, b2⟩ := Option.map_eq_some_iff.mp a2
    subst b2
    have hk' : ∀ j u, vs[j]? = some u → (i + 1 + j) ∈ prot → σ'[i + 1 + j]? = some (some u) := fun j u hj hm => by
      have := hk (j + 1) u (by simpa using hj) (by rw [show i + (j + 1) = i + 1 + j by omega]; exact hm)
      rw [show i + (j + 1) = i + 1 + j by omega] at this
      exact this
    by_cases hp : prot.contains i = true
    · rw [if_pos hp] at a1
      obtain ⟨y, c1, c2⟩ := Option.bind_eq_some_iff.mp a1
      have c2 : y = some o := c2
      subst c2
      obtain ⟨v', B, C, h1, q', e', z'⟩ := er_get e (i := i) (o := o) (by rw [hρ i (Nat.le_refl _)]; exact c1)
      have h2 := hk 0 v rfl (List.contains_iff_mem.mp hp)
      rw [Nat.add_zero, h1] at h2
      cases h2
      obtain ⟨A2, r2, l2⟩ := er_args sub r hk' e' (fun j hj => by rw [List.getElem?_set_ne (by omega)]; exact hρ j (by omega)) b1
      exact ⟨B + A2, .cons q' r2 fun b => add_at _ _ b, fun b => by rw [add_at, z' b]; have := l2 b; omega⟩
    · rw [if_neg hp] at a1
      by_cases hz : isFz a = true
      · rw [if_pos hz] at a1
        cases a1
        obtain ⟨A2, r2, l2⟩ := er_args sub r hk' e (fun j hj => hρ j (by omega)) b1
        exact ⟨Fp.z + A2, .cons (or_fz q hz sub) r2 fun b => add_at _ _ b, fun b => by rw [add_at, z_at]; have := l2 b; omega⟩
      · rw [if_neg hz] at a1; cases a1
end
section
variable {P : Program} {w : World} {K : PySem.W.Frag} {mg : Str → Option Value} {base : Heap} {x qual : Str} {params : Arguments} {body : List Stmt} {scope : Scope} {dvs : List V} {kws : List (Str × V)} {f : Addr} {fd : FuncData}
abbrev WF' (E : XK) : WX := fun cls d _ H => E cls d H
theorem mkFnC {N ps : List Str} {k : Nat} {prot : List Nat} {fb : FS} (F : FunD K x qual params body scope dvs kws f fd) (Sc : FnScope N ps scope) (hp : prot.all (fun i => decide (i < ps.length)) = true)
    (h : ∀ (cdv : Value), cdv = fd.code → ∀ (A : Around) (outer : List Env) (s : Shared) (H : Hp) (E : XK), Room k (A.deeper (PyProof.Rows.envOfC qual scope s.heap.objs.size f cdv)) → BV (cxOf (L2.CX P w) P w K mg base N qual scope f cdv A outer s H E) (WF' E) prot body fb) :
    FnOk P w K mg base (L2.CX P w) (k + 1) f fd ps (spOf K ps.length (runFn N.length prot fb)) := by
  obtain ⟨oc, od, dV, kV, doc, pm, an, cdv, ct, osl, rfl, lk, hcd, _, _⟩ := F.ex
  refine fn_of lk hcd Sc (fun vs H Q E q => q.1) fun A outer s H vs Q E hr q => ?_
  have h := fun A outer s H E hr => h cdv rfl A outer s H E hr
  obtain ⟨t, h1, h2⟩ := (h A outer s H E hr).ex
  refine ⟨t, h1, ?_⟩
  obtain ⟨hl, S, A0, as, w0, r0, q⟩ := q
  have la := ors_len r0
  have e0 : ER K S H (L2.start N vs) (entry N.length as) A0 := by
    unfold L2.start entry
    rw [← la]
    exact er_entry r0
  have ok := h2 _ _ S H A0 w0 e0
  have args : ∀ {σ' : St} {S' H' : Hp} {ρ' : En} {A' : Fp} {as' : List O}, Kp prot (L2.start N vs) σ' → (∀ a u, S a = some u → S' a = some u) → ER K S' H' σ' ρ' A' → finA prot ρ' 0 as = some as' → ∃ A'', ORs K S' H' vs as' A'' ∧ ∀ b, A'' b ≤ A' b := fun {σ' S' H' ρ' A' as'} kp sub e hf => by
    refine er_args sub r0 (i := 0) (fun j v hj hm => ?_) e (fun _ _ => rfl) hf
    rw [Nat.zero_add] at hm ⊢
    rw [kp.2 j hm]
    unfold L2.start
    rw [List.getElem?_append_left (by rw [List.length_map]; exact (List.getElem?_eq_some_iff.mp hj).1), List.getElem?_map, hj]
    rfl
  unfold runFn at q
  cases hb : fb (entry N.length as) with
  | bad => rw [hb] at q; exact q.elim
  | bk ρ' => rw [hb] at q; exact q.elim
  | ct ρ' => rw [hb] at q; exact q.elim
  | nx ρ' =>
    rw [hb] at q ok
    dsimp only at q
    cases hf : finA prot ρ' 0 as with
    | none => rw [hf] at q; exact q.elim
    | some as' =>
      rw [hf] at q
      refine ok _ fun σ' S' H' A' w' e' t' k' => ?_
      obtain ⟨A2, r2, l2⟩ := args k' t'.fz e' hf
      exact q .non S' H' A2 Fp.z (by rw [addz]; exact w'.less l2) r2 (.fz .non fun _ => rfl) (by rw [addz]; exact t'.less l2)
  | rt o ρ' =>
    rw [hb] at q ok
    dsimp only at q
    cases hf : finA prot ρ' 0 as with
    | none => rw [hf] at q; exact q.elim
    | some as' =>
      rw [hf] at q
      refine ok _ fun v σ' S' H' A' B w' e' r' t' k' => ?_
      obtain ⟨A2, r2, l2⟩ := args k' t'.fz e' hf
      have l3 : ∀ b, (A2 + B) b ≤ (A' + B) b := fun b => by have := l2 b; simp only [add_at]; omega
      exact q v S' H' A2 B (w'.less l3) r2 r' (t'.less l3)
  | exc y ρ' =>
    rw [hb] at q ok
    dsimp only at q
    cases hf : finA prot ρ' 0 as with
    | none => rw [hf] at q; exact q.elim
    | some as' =>
      rw [hf] at q
      refine ok _ fun cls d σ' S' H' A' w' e' x' t' k' => ?_
      obtain ⟨A2, r2, l2⟩ := args k' t'.fz e' hf
      exact q cls d S' H' A2 (w'.less l2) r2 x' (t'.less l2)
theorem mkFn {N ps : List Str} {k : Nat} {prot : List Nat} {fb : FS} (F : FunD K x qual params body scope dvs kws f fd) (Sc : FnScope N ps scope) (hp : prot.all (fun i => decide (i < ps.length)) = true)
    (h : ∀ (cdv : Value) (A : Around) (outer : List Env) (s : Shared) (H : Hp) (E : XK), Room k (A.deeper (PyProof.Rows.envOfC qual scope s.heap.objs.size f cdv)) → BV (cxOf (L2.CX P w) P w K mg base N qual scope f cdv A outer s H E) (WF' E) prot body fb) :
    FnOk P w K mg base (L2.CX P w) (k + 1) f fd ps (spOf K ps.length (runFn N.length prot fb)) := mkFnC F Sc hp fun cdv _ => h cdv
end
end Ls
namespace Ls
open PySem L2
variable [Tb] [Vw]
theorem obsXG_eq {n : Nat} {fa : List He.Fa} {fn : List He.DefD} {fx : PySem.W.Frag → Bool} {g : Addr → Option Obj} {s : Shared} (h : ∀ a, g a = s.heap.get? a) : obsXG n fa fn fx g = (hookX n fa fn fx).obs s := by
  have e : g = s.heap.get? := funext h
  rw [e]
  rfl
theorem SaysX.d {fa : List He.Fa} {fn : List He.DefD} {fx : PySem.W.Frag → Bool} {K : PySem.W.Frag} (c : SaysX fa fn fx K) : He.SaysD fa fn K := congrArg (fun z : AlX => z.1) c
theorem SaysX.x {fa : List He.Fa} {fn : List He.DefD} {fx : PySem.W.Frag → Bool} {K : PySem.W.Frag} (c : SaysX fa fn fx K) : fx K = true := congrArg (fun z : AlX => z.2) c
theorem bits_log {ns : List Int} (h : ∀ n ∈ ns, Builtin.Int.intBits n ≤ 1048576) : ∀ k ∈ ns, k.natAbs.log2 ≤ 1048576 := fun k hk => by
  have := h k hk
  unfold Builtin.Int.intBits at this
  split at this
  · rename_i e
    rw [show k = 0 by simpa using e]; decide
  · omega
theorem walkX {l : PySem.W.OpenLaw} {n k : Nat} {q : Program} {loose : List Str} {XP : (Str → Option Value) → Heap → Prop} {YP : World → Heap → Prop} {d : DefRec} {CX : World → CXT} {x : Str}
    (hn : l.most = some n) (hn2 : n ≤ sizeLine) (hdf : d.params.defaults = []) (hr : Room k callerA)
    (F : ∀ (w : World) (mg : Str → Option Value) (fa : Addr) (h : Heap), YP w h → h.Ns mainGlobals mg → mg d.name = some (.ref fa) →
      ∃ (K : PySem.W.Frag) (fd : FuncData) (sp : Sp), K.In h ∧ (∀ (s : Shared) (u : Value), BindsTo s fd ⟨[u], []⟩ [(x, u)]) ∧
        (∀ (H : Hp) (a : Addr) (ns : List Int), ns.length ≤ n → (∀ k ∈ ns, k.natAbs.log2 ≤ 1048576) → Only H → SqL K H a (ns.map V.int) → sp [.ref a] H (fun v _ => v = .bl true) fun _ _ _ => False) ∧
        ∀ base : Heap, K.In base → base.Ns mainGlobals mg → FnOk l.prog w K mg base (CX w) k fa fd [x] sp)
    (hCX : ∀ (w : World) (H : Hp) (s : Shared) (e : Value) (s' : Shared), CX w [] H s (fun _ _ _ => False) e s' → False) :
    PySem.W.WalkO q loose XP YP l.row.toRowW d [] (fun f vs => PySem.call f vs) := by
  refine Att.attach_callB hn hdf fun w s₀ s₁ mg mb fa o pm cd doc a vs ns G Y ho hd hcd hmg hobj hints hlen hbits hg => ?_
  obtain ⟨K, fd, sp, KX, hb, hsp, hF⟩ := F w mg fa _ Y G.T.g hmg
  exact law_call KX G.T.g G.T.b G.T.builtins G.T.nolimit hg hobj hints (Nat.le_trans hlen hn2) hr hF hb (fun H hO hS => hsp H a ns hlen (bits_log hbits) hO hS) fun H e s' => hCX w H s₁ e s'
theorem cxNo (P : Program) (w : World) (H : Hp) (s : Shared) (e : Value) (s' : Shared) (h : L2.CX P w [] H s (fun _ _ _ => False) e s') : False := by
  obtain ⟨_, _, _, _, _, _, _, _, _, _, _, _, z⟩ := h
  exact z
theorem lawSpT {K : PySem.W.Frag} {H : Hp} {a : Addr} {ns : List Int} {F : List O → FO} (hca : Tb.ca = []) (hv : ∀ a, Vw.vw a = none) (hT : ∀ p ∈ Tb.t, H p.1 = some (.tbl #[])) (hS : SqL K H a (ns.map V.int)) (h : ∃ as', F [.fz (.list (ns.map PyData.int))] = .ok (.fz (.bool true)) as') : spOf K 1 F [.ref a] H (fun v _ => v = .bl true) fun _ _ _ => False := by
  obtain ⟨as', h⟩ := h
  have da : ∀ (S : Hp) (l : List Int), DpAll K S (l.map V.int) (l.map PyData.int) := fun S l => by
    induction l with
    | nil => exact .nil
    | cons x l ih => exact .cons (.int x) ih
  let S : Hp := fun b => match H b with
    | some (.tbl _) => none
    | u => u
  have sin : ∀ b, Tl H b → S b = none := fun b ⟨ps, e⟩ => by show (match H b with | some (.tbl _) => none | u => u) = none; rw [e]
  have sout : ∀ b u, H b = some u → (∀ ps, u ≠ .tbl ps) → S b = some u := fun b u e n => by
    show (match H b with | some (.tbl _) => none | u => u) = some u
    rw [e]
    cases u <;> first | rfl | exact absurd rfl (n _)
  have hS' : SqL K S a (ns.map V.int) := by
    rcases hS with (r | ⟨o, r⟩) | r
    · exact .inl (.inl (sout a _ r fun ps z => by cases z))
    · exact .inl (.inr ⟨o, sout a _ r fun ps z => by cases z⟩)
    · exact .inr r
  have sub : ∀ b u, S b = some u → H b = some u := fun b u e => by
    cases hb : H b with
    | none =>
      have e2 : (match H b with | some (.tbl _) => none | u => u) = some u := e
      rw [hb] at e2; cases e2
    | some z =>
      by_cases ht : ∃ ps, z = .tbl ps
      · obtain ⟨ps, rfl⟩ := ht
        rw [sin b ⟨ps, hb⟩] at e; cases e
      · rw [sout b z hb fun ps e => ht ⟨ps, e⟩] at e; exact e
  refine ⟨rfl, S, Fp.z, [.fz (.list (ns.map PyData.int))], ⟨sub, fun _ => Nat.zero_le _, fun b z => absurd z (Nat.lt_irrefl 0), fun b z => absurd z (Nat.lt_irrefl 0), fun p hp => LamX.TabS.nil (hT p hp), fun b t => ⟨rfl, sin b t⟩, fun _ _ _ _ => rfl, fun b u hb => (by rw [hv b] at hb; cases hb), fun p hp => (by rw [hca] at hp; cases hp)⟩, .cons (B := Fp.z) (C := Fp.z) (.fz (.lst hS' (da S ns)) fun _ => rfl) (.nil fun _ => rfl) fun _ => rfl, ?_⟩
  rw [h]
  intro v S' H' A' B w' r' q' t'
  cases q' with
  | fz q _ => exact dp_bl q
@[reducible] def tbOf (w : World) : Tb := ⟨[], w, [], fun _ _ => none, cf_none, .nil, []⟩
omit [Tb] [Vw] in
theorem lawSp {w : World} {K : PySem.W.Frag} {H : Hp} {a : Addr} {ns : List Int} {F : List O → FO} (hS : SqL K H a (ns.map V.int)) (h : ∃ as', F [.fz (.list (ns.map PyData.int))] = .ok (.fz (.bool true)) as') : @spOf (tbOf w) vw0 K 1 F [.ref a] H (fun v _ => v = .bl true) fun _ _ _ => False := @lawSpT (tbOf w) vw0 K H a ns F rfl (fun _ => rfl) (fun p hp => nomatch hp) hS h
theorem fn_bad {P : Program} {w : World} {K : PySem.W.Frag} {mg : Str → Option Value} {base : Heap} {CX : CXT} {k : Nat} {f : Addr} {fd : FuncData} {ps : List Str} : FnOk P w K mg base CX k f fd ps (spOf K ps.length fun _ => .bad) :=
  ⟨fun _ _ _ _ h => h.1, fun _ _ _ _ _ _ _ _ _ _ _ _ _ h => by
    obtain ⟨_, _, _, _, _, _, z⟩ := h
    exact z.elim⟩
theorem bv_never {X : Cx} {W : WX} {P : List Nat} {sts : List Stmt} : BV X W P sts (fun _ => .bad) := ⟨_, pss_never, sndS_never⟩
theorem dp_top {K : PySem.W.Frag} {x : Str} {vs : List He.Dv} {ds : List PyData} (h : He.tupB K x vs = true) (hd : ∀ S, DpAll K S (vs.map (He.Dv.v K)) ds) (S : Hp) : Dp K S (.ref (He.ga K x)) (.tuple ds) := .tup (He.tupB_ok h S) (hd S)
def eZ (f : FE) : FE := fun ρ => (f ρ).bind fun o ρ' => match frz o with
  | some d => .ok (.fz d) ρ'
  | none => .bad
theorem sndE_z {K : PySem.W.Frag} {W : WX} {t : TE} {f : FE} (h : SndE K W t f) : SndE K W t (eZ f) := by
  intro σ ρ S H A w e
  have q := h σ ρ S H A w e
  show OutOk K W (ROr K) t σ S H A ((f ρ).bind _)
  cases hf : f ρ with
  | bad => exact True.intro
  | exc x ρ' => rw [hf] at q; exact q
  | ok o ρ' =>
    rw [hf] at q
    show OutOk K W (ROr K) t σ S H A (match frz o with
      | some d => Out.ok (.fz d) ρ'
      | none => .bad)
    cases hz : frz o with
    | none => exact True.intro
    | some d =>
      intro Q k
      refine q Q fun v S' H' A' B w' e' r' t' => ?_
      obtain ⟨w2, t2, sub2⟩ := settle_wf w'
      have dq := or_settle (fun b hb => w'.dj b (by rw [add_at]; omega)) (fun b => Nat.le_refl _) r' hz
      exact k v _ H' A' Fp.z (by rw [addz]; exact w2) (er_keep sub2 e' fun _ _ => rfl) (.fz dq fun _ => rfl) (by rw [addz]; exact t'.trans t2)
theorem ev_z {X : Cx} {W : WX} {e : Expr} {f : FE} (h : EV X W e f) : EV X W e (eZ f) := let ⟨_, h1, h2⟩ := h.ex; ⟨_, h1, sndE_z h2⟩
end Ls
namespace Ls
open PySem L2
section
variable {ρ ρ1 ρ2 ρ3 : En} {o o1 o2 : O} {p q : Pk} {d d1 d2 c : PyData} {f g h : FE} {fa fb fc : FP} {t u : FT} {a b : Bool} {i j : Nat} {os : List O}
theorem r_c : eC d ρ = .ok (.fz d) ρ := rfl
theorem r_pv (h : ρ[i]? = some (some o)) : pVar i ρ = .ok (.v i) ρ := by unfold pVar; rw [h]
theorem r_pe (h : f ρ = .ok o ρ1) : pE f ρ = .ok (.o o) ρ1 := by unfold pE; rw [h]; rfl
theorem r_ev (h : ρ[i]? = some (some (.fz d))) : eVar i ρ = .ok (.fz d) ρ := by unfold eVar; rw [h]
theorem r_op {g : PyData → PyData → Option PyData} (h1 : fa ρ = .ok p ρ1) (h2 : fb ρ1 = .ok q ρ2) (e1 : pkD ρ2 p = some d1) (e2 : pkD ρ2 q = some d2) (hg : g d1 d2 = some c) : eOp g fa fb ρ = .ok (.fz c) ρ2 := by
  unfold eOp; rw [h1]; dsimp only [Out.bind]; rw [h2]; dsimp only [Out.bind]; rw [e1, e2]; dsimp only [Option.bind]; rw [hg]
theorem r_ix {k : Int} (h1 : fa ρ = .ok p ρ1) (h2 : fb ρ1 = .ok q ρ2) (e1 : pkO ρ2 p = some o) (e2 : pkD ρ2 q = some (.int k)) (hg : ixO o k = some c) : eIx fa fb ρ = .ok (.fz c) ρ2 := by
  unfold eIx; rw [h1]; dsimp only [Out.bind]; rw [h2]; dsimp only [Out.bind]; rw [e1, e2]; dsimp only; rw [hg]
theorem r_b1 {g : O → Option PyData} (h1 : fa ρ = .ok p ρ1) (e1 : pkO ρ1 p = some o) (hg : g o = some c) : eB1 g fa ρ = .ok (.fz c) ρ1 := by
  unfold eB1; rw [h1]; dsimp only [Out.bind]; rw [e1]; dsimp only [Option.bind]; rw [hg]
theorem r_isi {n : String} (h1 : fa ρ = .ok p ρ1) (e1 : pkO ρ1 p = some o) (hg : isiO n o = some c) : eIsi n fa ρ = .ok (.fz c) ρ1 := r_b1 h1 e1 hg
theorem r_list {l : Bool} {ds : List PyData} (h1 : fa ρ = .ok p ρ1) (e1 : pkO ρ1 p = some o) (hg : itemsO o = some (l, ds)) : eList fa ρ = .ok (.lst (ds.map O.fz)) ρ1 := by
  unfold eList; rw [h1]; dsimp only [Out.bind]; rw [e1]; dsimp only [Option.bind]; rw [hg]
theorem r_tuple {l : Bool} {ds : List PyData} (h1 : fa ρ = .ok p ρ1) (e1 : pkO ρ1 p = some o) (hg : itemsO o = some (l, ds)) : eTuple fa ρ = .ok (.fz (.tuple ds)) ρ1 := by
  unfold eTuple; rw [h1]; dsimp only [Out.bind]; rw [e1]; dsimp only [Option.bind]; rw [hg]
theorem r_z (h1 : f ρ = .ok o ρ1) (hz : frz o = some d) : eZ f ρ = .ok (.fz d) ρ1 := by
  unfold eZ; rw [h1]; simp only [Out.bind, hz]
theorem r_anil : aNil ρ = .ok [] ρ := rfl
theorem r_acons {r : FA} (h1 : f ρ = .ok o ρ1) (h2 : r ρ1 = .ok os ρ2) : aCons f r ρ = .ok (o :: os) ρ2 := by
  unfold aCons; rw [h1]; dsimp only [Out.bind]; rw [h2]
theorem r_lendF (h : ρ[i]? = some (some (.fz d))) : eLend i ρ = .ok (.fz d) ρ := by unfold eLend; rw [h]
theorem r_lendL {xs : List O} (h : ρ[i]? = some (some (.lst xs))) : eLend i ρ = .ok (.lst xs) (ρ.set i none) := by unfold eLend; rw [h]
theorem r_lst {r : FA} (h : r ρ = .ok os ρ1) : eLst r ρ = .ok (.lst os) ρ1 := by unfold eLst; rw [h]; rfl
theorem r_call {F : List O → FO} {ls : List (Option Nat)} {dd : List PyData} {r : FA} {as' : List O} (h : r ρ = .ok os ρ1) (hF : F (os ++ dd.map O.fz) = .ok o as') (hb : backs ls as' ρ1 = ρ2) : eCall F ls dd r ρ = .ok o ρ2 := by
  unfold eCall; rw [h]; dsimp only [Out.bind]; rw [hF]; dsimp only; rw [hb]
theorem r_rep {ds : List PyData} {k : Int} (h1 : fa ρ = .ok p ρ1) (h2 : fb ρ1 = .ok q ρ2) (e1 : pkO ρ2 p = some o1) (e2 : pkD ρ2 q = some (.int k)) (g1 : lstI o1 = some ds) (hz : -(2 ^ 63) ≤ k ∧ k < 2 ^ 63 ∧ ds.length * k.toNat ≤ sizeLine) : eRep fa fb ρ = .ok (.lst ((List.replicate k.toNat ds).flatten.map O.fz)) ρ2 := by
  unfold eRep; rw [h1]; dsimp only [Out.bind]; rw [h2]; dsimp only [Out.bind]; rw [e1, e2]; dsimp only [Option.bind]; rw [g1]; dsimp only; rw [if_pos hz]
theorem r_nno : nNo ρ = .ok none ρ := rfl
theorem r_ne {k : Int} (h1 : fa ρ = .ok p ρ1) (e1 : pkD ρ1 p = some (.int k)) : nE fa ρ = .ok (some k) ρ1 := by
  unfold nE; rw [h1]; dsimp only [Out.bind]; rw [e1]
theorem r_sl {fl fh : FN} {l u : Option Int} (h1 : fa ρ = .ok p ρ1) (h2 : fl ρ1 = .ok l ρ2) (h3 : fh ρ2 = .ok u ρ3) (e1 : pkO ρ3 p = some o) (hg : slO o l u = some o1) : eSl fa fl fh ρ = .ok o1 ρ3 := by
  unfold eSl; rw [h1]; dsimp only [Out.bind]; rw [h2]; dsimp only [Out.bind]; rw [h3]; dsimp only [Out.bind]; rw [e1]; dsimp only [Option.bind]; rw [hg]
theorem r_tof (h1 : f ρ = .ok (.fz (.bool b)) ρ1) : tOf f ρ = .ok b ρ1 := by unfold tOf; rw [h1]; rfl
theorem r_ttru (h1 : fa ρ = .ok p ρ1) (e1 : pkD ρ1 p = some d) (e2 : dTru d = some b) : tTru fa ρ = .ok b ρ1 := by
  unfold tTru; rw [h1]; dsimp only [Out.bind]; rw [e1]; dsimp only [Option.bind]; rw [e2]
theorem r_tnot (h1 : t ρ = .ok b ρ1) : tNotF t ρ = .ok (!b) ρ1 := by unfold tNotF; rw [h1]; rfl
theorem r_tandT (h1 : t ρ = .ok a ρ1) (ha : a = true) (h2 : u ρ1 = .ok b ρ2) : tAndF t u ρ = .ok b ρ2 := by unfold tAndF; rw [h1, ha]; exact h2
theorem r_tandF (h1 : t ρ = .ok a ρ1) (ha : a = false) : tAndF t u ρ = .ok false ρ1 := by unfold tAndF; rw [h1, ha]; rfl
theorem r_torT (h1 : t ρ = .ok a ρ1) (ha : a = true) : tOrF t u ρ = .ok true ρ1 := by unfold tOrF; rw [h1, ha]; rfl
theorem r_torF (h1 : t ρ = .ok a ρ1) (ha : a = false) (h2 : u ρ1 = .ok b ρ2) : tOrF t u ρ = .ok b ρ2 := by unfold tOrF; rw [h1, ha]; exact h2
theorem r_eandT (h1 : f ρ = .ok (.fz (.bool a)) ρ1) (ha : a = true) (h2 : g ρ1 = .ok o ρ2) : eAnd f g ρ = .ok o ρ2 := by unfold eAnd; rw [r_tof h1, ha]; exact h2
theorem r_eandF (h1 : f ρ = .ok (.fz (.bool a)) ρ1) (ha : a = false) : eAnd f g ρ = .ok (.fz (.bool false)) ρ1 := by unfold eAnd; rw [r_tof h1, ha]; rfl
theorem r_enot (h1 : fa ρ = .ok p ρ1) (e1 : pkD ρ1 p = some d) (e2 : dTru d = some b) : eNot fa ρ = .ok (.fz (.bool !b)) ρ1 := by unfold eNot; rw [r_ttru h1 e1 e2]; rfl
theorem r_chainT {g g' : PyData → PyData → Option PyData} {r : Pk} {d3 d4 : PyData} (h1 : fa ρ = .ok p ρ1) (h2 : fb ρ1 = .ok q ρ2) (e1 : pkD ρ2 p = some d1) (e2 : pkD ρ2 q = some d2) (hg : g d1 d2 = some (.bool a)) (ha : a = true) (h3 : fc ρ2 = .ok r ρ3) (e3 : pkD ρ3 q = some d3) (e4 : pkD ρ3 r = some d4) (hg' : g' d3 d4 = some c) : eChain g g' fa fb fc ρ = .ok (.fz c) ρ3 := by
  unfold eChain; rw [h1]; dsimp only [Out.bind]; rw [h2]; dsimp only [Out.bind]; rw [e1, e2]; dsimp only [Option.bind]; rw [hg, ha]; dsimp only; rw [h3]; dsimp only; rw [e3, e4]; dsimp only; rw [hg']
theorem r_nil : sNil ρ = .nx ρ := rfl
variable {s r : FS} {out : SO}
theorem r_seq (h1 : s ρ = .nx ρ1) (h2 : r ρ1 = out) : sSeq s r ρ = out := by unfold sSeq; rw [h1]; exact h2
theorem r_seqR (h1 : s ρ = .rt o ρ1) : sSeq s r ρ = .rt o ρ1 := by unfold sSeq; rw [h1]; rfl
theorem r_ifT (h1 : t ρ = .ok a ρ1) (ha : a = true) (h2 : s ρ1 = out) : sIf t s r ρ = out := by unfold sIf; rw [h1, ha]; exact h2
theorem r_ifF (h1 : t ρ = .ok a ρ1) (ha : a = false) (h2 : r ρ1 = out) : sIf t s r ρ = out := by unfold sIf; rw [h1, ha]; exact h2
theorem r_ret (h1 : f ρ = .ok o ρ1) : sRet f ρ = .rt o ρ1 := by unfold sRet; rw [h1]; rfl
theorem r_set (h1 : f ρ = .ok o ρ1) (hi : i < ρ1.length) (h2 : ρ1.set i (some o) = ρ2) : sSet i f ρ = .nx ρ2 := by unfold sSet; rw [h1]; dsimp only [Out.toS]; rw [if_pos hi, h2]
theorem r_six {xs : List O} {k : Int} {n : Nat} (h1 : f ρ = .ok o ρ1) (h0 : ρ1[j]? = some (some o2)) (h2 : fa ρ1 = .ok p ρ2) (h3 : ρ2[j]? = some (some (.lst xs))) (e1 : pkD ρ2 p = some (.int k)) (hn : ixN xs.length k = some n) (h4 : ρ2.set j (some (.lst (xs.set n o))) = ρ3) : sIx j fa f ρ = .nx ρ3 := by
  unfold sIx; rw [h1]; dsimp only [Out.toS]; rw [h0]; dsimp only; rw [h2]; dsimp only [Out.toS]; unfold ixK; rw [h3, e1]; dsimp only; rw [hn]; dsimp only; rw [h4]
theorem r_runR {m : Nat} {prot : List Nat} {body : FS} {as as' : List O} (h1 : body (entry m as) = .rt o ρ1) (h2 : finA prot ρ1 0 as = some as') : runFn m prot body as = .ok o as' := by
  unfold runFn; rw [h1]; dsimp only; rw [h2]
theorem r_fseqV {l : Bool} {ds : List PyData} (h1 : fa ρ = .ok (.v i) ρ1) (e1 : ρ1[i]? = some (some o)) (e2 : itemsO o = some (l, ds)) : fSeq fa ρ = .ok (.sl l i) ρ1 := by
  unfold fSeq; rw [h1]; dsimp only [Out.bind]; unfold srOf; dsimp only; rw [e1]; dsimp only [Option.bind, id]; rw [e2]; rfl
theorem r_rg1 {k : Int} (h1 : fa ρ = .ok p ρ1) (e1 : pkD ρ1 p = some (.int k)) (hz : -(2 ^ 62) ≤ k ∧ k < 2 ^ 62) : fRg1 fa ρ = .ok (.rg 0 k.toNat) ρ1 := by
  unfold fRg1; rw [h1]; dsimp only [Out.bind]; rw [e1]; dsimp only; rw [if_pos hz]
theorem r_zip {s1 s2 : Sr} {ds : List PyData} (h1 : fSeq fa ρ = .ok s1 ρ1) (h2 : fSeq fb ρ1 = .ok s2 ρ2) (e1 : (Sr.zp s1 s2).at ρ2 = some ds) (hk : s1.kind = s2.kind) : fZip fa fb ρ = .ok (.zp s1 s2) ρ2 := by
  unfold fZip; rw [h1]; dsimp only [Out.bind]; rw [h2]; dsimp only [Out.bind]; rw [e1]; dsimp only; rw [if_pos hk]
theorem r_for {Z : List Nat} {fi : FI} {gF : FG} {body : FS} {sr : Sr} {ds : List PyData} (h1 : fi ρ = .ok sr ρ1) (hz : (sr.slots.all fun i => Z.contains i) = true) (e1 : sr.at ρ1 = some ds) (h2 : forF sr gF body (ds.length + 1) 0 ρ1 = out) : sFor Z fi gF body ρ = out := by
  unfold sFor; rw [h1]; dsimp only [Out.toS]; rw [if_pos hz, e1]; exact h2
theorem r_comp {fi : FI} {gF : FG} {sr : Sr} {ds : List PyData} {vs : List Nat} (h1 : fi ρ = .ok sr ρ1) (hz : (sr.slots.all fun i => !vs.contains i) = true) (e1 : sr.at (wipeE ρ1 vs) = some ds) (h2 : compF sr gF t f vs (ds.length + 1) 0 (wipeE ρ1 vs) [] = .ok os ρ2) : eComp fi gF t f vs ρ = .ok (.lst os) ρ2 := by
  unfold eComp; rw [h1]; dsimp only [Out.bind]; rw [if_pos hz, e1]; dsimp only; rw [h2]
end
end Ls
namespace Ls
open PySem L2
section
variable {ρ ρ1 ρ2 : En} {s r : FS} {f : FE}
theorem seqE {P : En → Prop} {G : SO → Prop} (h1 : ∃ ρ1, s ρ = .nx ρ1 ∧ P ρ1) (h2 : ∀ ρ1, P ρ1 → G (r ρ1)) : G (sSeq s r ρ) := by
  obtain ⟨ρ1, e, p⟩ := h1
  rw [r_seq e rfl]; exact h2 ρ1 p
end
theorem comp_inv {sr : Sr} {gF : FG} {test : FT} {elt : FE} {vs : List Nat} {ds : List PyData} (I : Nat → List PyData → En → Prop) (hat : ∀ j acc ρ, I j acc ρ → sr.at ρ = some ds)
    (hs : ∀ j acc ρ d, ds[j]? = some d → I j acc ρ → ∃ ρ1 ρ2 ρ3 e, gF d ρ = some ρ1 ∧ test ρ1 = .ok true ρ2 ∧ elt ρ2 = .ok (.fz e) ρ3 ∧ I (j + 1) (acc ++ [e]) (wipeE ρ3 vs)) (hz : ds.length ≤ sizeLine) :
    ∀ (n j : Nat) (ρ : En) (acc : List PyData), n + j = ds.length → acc.length = j → I j acc ρ → ∃ acc' ρ', compF sr gF test elt vs (n + 1) j ρ (acc.map O.fz) = .ok (acc'.map O.fz) ρ' ∧ acc'.length = ds.length ∧ I ds.length acc' ρ'
  | 0, j, ρ, acc, hn, hl, r => by
    have ej : j = ds.length := by omega
    refine ⟨acc, ρ, ?_, by omega, by rw [← ej]; exact r⟩
    unfold compF
    rw [hat j acc ρ r]
    dsimp only
    rw [List.getElem?_eq_none (by omega)]
  | n + 1, j, ρ, acc, hn, hl, r => by
    have hj : j < ds.length := by omega
    have e : ds[j]? = some ds[j] := List.getElem?_eq_getElem hj
    obtain ⟨ρ1, ρ2, ρ3, x, g1, t1, e1, r1⟩ := hs j acc ρ ds[j] e r
    obtain ⟨acc', ρ', h1, h2, h3⟩ := comp_inv I hat hs hz n (j + 1) (wipeE ρ3 vs) (acc ++ [x]) (by omega) (by simp [hl]) r1
    refine ⟨acc', ρ', ?_, h2, h3⟩
    unfold compF
    rw [hat j acc ρ r]
    dsimp only
    rw [e]
    dsimp only
    rw [g1]
    dsimp only
    rw [t1]
    dsimp only
    rw [e1]
    dsimp only
    rw [if_pos (by rw [List.length_map]; omega)]
    rw [List.map_append] at h1
    exact h1
theorem for_inv {sr : Sr} {gF : FG} {body : FS} {ds : List PyData} (I : Nat → En → Prop) (hat : ∀ j ρ, j ≤ ds.length → I j ρ → sr.at ρ = some ds)
    (hs : ∀ j ρ d, ds[j]? = some d → I j ρ → ∃ ρ1 ρ2, gF d ρ = some ρ1 ∧ (body ρ1 = .nx ρ2 ∨ body ρ1 = .ct ρ2) ∧ I (j + 1) ρ2) :
    ∀ (n j : Nat) (ρ : En), n + j = ds.length → I j ρ → ∃ ρ', forF sr gF body (n + 1) j ρ = .nx ρ' ∧ I ds.length ρ'
  | 0, j, ρ, hn, r => by
    have ej : j = ds.length := by omega
    refine ⟨ρ, ?_, by rw [← ej]; exact r⟩
    unfold forF
    rw [hat _ ρ (by omega) r]
    dsimp only
    rw [List.getElem?_eq_none (by omega)]
  | n + 1, j, ρ, hn, r => by
    have hj : j < ds.length := by omega
    have e : ds[j]? = some ds[j] := List.getElem?_eq_getElem hj
    obtain ⟨ρ1, ρ2, g1, b1, r1⟩ := hs j ρ ds[j] e r
    obtain ⟨ρ', h1, h2⟩ := for_inv I hat hs n (j + 1) ρ2 (by omega) r1
    refine ⟨ρ', ?_, h2⟩
    unfold forF
    rw [hat j ρ (by omega) r]
    dsimp only
    rw [e]
    dsimp only
    rw [g1]
    dsimp only
    rcases b1 with b1 | b1 <;> rw [b1] <;> exact h1
def RT (out : SO) (P : O → En → Prop) : Prop := ∃ o ρ, out = .rt o ρ ∧ P o ρ
def NX (out : SO) (P : En → Prop) : Prop := ∃ ρ, out = .nx ρ ∧ P ρ
theorem rt_of {out : SO} {P : O → En → Prop} {o : O} {ρ : En} (h : out = .rt o ρ) (p : P o ρ) : RT out P := ⟨o, ρ, h, p⟩
theorem nx_of {out : SO} {P : En → Prop} {ρ : En} (h : out = .nx ρ) (p : P ρ) : NX out P := ⟨ρ, h, p⟩
theorem seqNX {s r : FS} {ρ : En} {P : En → Prop} {G : SO → Prop} (h1 : NX (s ρ) P) (h2 : ∀ ρ1, P ρ1 → G (r ρ1)) : G (sSeq s r ρ) := seqE h1 h2
theorem run_rt {m : Nat} {prot : List Nat} {body : FS} {as : List O} {Q : O → List O → Prop} (h : RT (body (entry m as)) fun o ρ => ∃ as', finA prot ρ 0 as = some as' ∧ Q o as') : ∃ o as', runFn m prot body as = .ok o as' ∧ Q o as' := by
  obtain ⟨o, ρ, h1, as', h2, h3⟩ := h
  exact ⟨o, as', r_runR h1 h2, h3⟩
theorem log2_lt {n k : Nat} (h : n < 2 ^ k) (hk : 0 < k) : n.log2 < k := by
  by_cases h0 : n = 0
  · subst h0; simpa using hk
  · exact (Nat.log2_lt h0).mpr h
theorem dMul_ok {i j : Int} (hi : i.natAbs < 2 ^ 100) (hj : j.natAbs < 2 ^ 100) : dMul (.int i) (.int j) = some (.int (i * j)) := by
  have a := log2_lt hi (by decide)
  have b := log2_lt hj (by decide)
  exact if_pos (by omega)
theorem dMod_ok {i j : Int} (hj : j ≠ 0) : dMod (.int i) (.int j) = some (.int (i.fmod j)) := if_pos hj
theorem dDiv_ok {i j : Int} (hj : j ≠ 0) (hj2 : j.natAbs < 2 ^ 100) : dDiv (.int i) (.int j) = some (.int (i.fdiv j)) := if_pos ⟨hj, by have := log2_lt hj2 (by decide); omega⟩
theorem dEq_int {i j : Int} : dEq (.int i) (.int j) = some (.bool (decide (i = j))) := by
  by_cases h : i = j <;> simp [dEq, SeqAt.shaped, PyData.eqv, PyData.canLay0, PyData.depth, h]
theorem dNe_int {i j : Int} : dNe (.int i) (.int j) = some (.bool (!decide (i = j))) := by
  by_cases h : i = j <;> simp [dNe, SeqAt.shaped, PyData.eqv, PyData.canLay0, PyData.depth, h]
theorem fmodA {x k : Int} (h : 0 < k) (h2 : k < 2 ^ 100) : (x.fmod k).natAbs < 2 ^ 100 := by
  have a := Int.fmod_nonneg_of_pos x h
  have b := Int.fmod_lt_of_pos x h
  omega
theorem atN {α : Type} {xs : List α} {k : Nat} {x : α} (h : xs[k]? = some x) : atI xs (k : Int) = some x := by
  have hk : k < xs.length := (List.getElem?_eq_some_iff.mp h).1
  simp only [atI, ixN]
  rw [if_pos (by omega), if_pos (by omega)]
  simpa using h
theorem allFz_map : ∀ ds : List PyData, allFz (ds.map O.fz) = some ds
  | [] => rfl
  | d :: ds => by show (allFz (ds.map O.fz)).map _ = _; rw [allFz_map ds]; rfl
theorem items_map (ds : List PyData) : itemsO (.lst (ds.map O.fz)) = some (true, ds) := by
  show (allFz _).map _ = _; rw [allFz_map]; rfl
theorem frzs_map : ∀ ds : List PyData, frzs (ds.map O.fz) = some ds
  | [] => by simp [frzs]
  | d :: ds => by simp [frzs, frz, frzs_map ds]
theorem frz_map (ds : List PyData) : frz (.lst (ds.map O.fz)) = some (.list ds) := by simp [frz, frzs_map]
end Ls
namespace Ls
open PySem L2
section
variable {ρ ρ1 ρ2 : En} {s r : FS} {f : FE} {G : SO → Prop} {P : O → En → Prop} {o : O} {i : Nat}
theorem seqS (h1 : s ρ = .nx ρ1) (h2 : G (r ρ1)) : G (sSeq s r ρ) := by rw [r_seq h1 rfl]; exact h2
theorem lendO {xs : List O} (h : ρ[i]? = some (some o)) (hl : o = .lst xs) (h2 : ρ.set i none = ρ1) : eLend i ρ = .ok o ρ1 := by subst hl; rw [r_lendL h, h2]
theorem compM {α : Type} {fi : FI} {gF : FG} {vs : List Nat} {sr : Sr} {ρ4 : En} (ks : List α) (q g : α → PyData) (h1 : fi ρ = .ok sr ρ1) (hz : (sr.slots.all fun i => !vs.contains i) = true) (h4 : wipeE ρ1 vs = ρ4) (e1 : sr.at ρ4 = some (ks.map q))
    (hs : ∀ k, k ∈ ks → ∃ ρ2 ρ3, gF (q k) ρ4 = some ρ2 ∧ f ρ2 = .ok (.fz (g k)) ρ3 ∧ wipeE ρ3 vs = ρ4) (hl : ks.length ≤ sizeLine) : eComp fi gF tYesF f vs ρ = .ok (.lst ((ks.map g).map O.fz)) ρ4 := by
  subst h4
  obtain ⟨acc', ρ', a1, a2, a3⟩ := comp_inv (sr := sr) (gF := gF) (test := tYesF) (elt := f) (vs := vs) (ds := ks.map q) (fun j acc ρ' => ρ' = wipeE ρ1 vs ∧ acc = (ks.take j).map g) (fun j acc ρ' h => by rw [h.1]; exact e1) (fun j acc ρ' d hd h => by
    rw [List.getElem?_map] at hd
    obtain ⟨k, b1, b2⟩ := Option.map_eq_some_iff.mp hd
    subst b2
    obtain ⟨ρ1, ρ3, a1, a2, a3⟩ := hs k (List.mem_of_getElem? b1)
    refine ⟨ρ1, ρ1, ρ3, g k, by rw [h.1]; exact a1, rfl, a2, a3, ?_⟩
    rw [h.2, List.take_add_one, b1]; simp) (by rw [List.length_map]; exact hl) (ks.map q).length 0 (wipeE ρ1 vs) [] rfl rfl ⟨rfl, rfl⟩
  rw [List.map_nil] at a1
  rw [r_comp h1 hz e1 a1, a3.1, a3.2, List.length_map, List.take_length]
theorem nxFor {Z : List Nat} {fi : FI} {gF : FG} {body : FS} {sr : Sr} {ds : List PyData} {P : En → Prop} (I : Nat → En → Prop) (h1 : fi ρ = .ok sr ρ1) (hz : (sr.slots.all fun i => Z.contains i) = true) (e1 : sr.at ρ1 = some ds) (h0 : I 0 ρ1)
    (hat : ∀ j ρ, j ≤ ds.length → I j ρ → sr.at ρ = some ds)
    (hs : ∀ j ρ d, ds[j]? = some d → I j ρ → ∃ ρ1, gF d ρ = some ρ1 ∧ NX (body ρ1) (I (j + 1))) (hP : ∀ ρ, I ds.length ρ → P ρ) : NX (sFor Z fi gF body ρ) P := by
  obtain ⟨ρ', a1, a2⟩ := for_inv (body := body) (gF := gF) I hat (fun j ρ d hd hi => by
    obtain ⟨ρ1, b1, ρ2, b2, b3⟩ := hs j ρ d hd hi
    exact ⟨ρ1, ρ2, b1, Or.inl b2, b3⟩) ds.length 0 ρ1 rfl h0
  exact ⟨ρ', r_for h1 hz e1 a1, hP _ a2⟩
end
theorem allFz_len : ∀ (xs : List O) (ds : List PyData), allFz xs = some ds → xs.length = ds.length := by
  intro xs
  induction xs with
  | nil => intro ds h; cases h; rfl
  | cons x xs ih =>
    intro ds h
    cases x with
    | fz d =>
      obtain ⟨ds', e1, e2⟩ := Option.map_eq_some_iff.mp (show (allFz xs).map _ = some _ from h)
      cases e2
      simp [ih _ e1]
    | raw v => cases h
    | exn _ _ _ _ => cases h
    | ins _ _ _ => cases h
    | dct _ _ => cases h
    | vu _ => cases h
    | lst v => cases h
theorem len_items {o : O} {l : Bool} {ds : List PyData} (h : itemsO o = some (l, ds)) : lenO o = some (.int ds.length) := by
  have go : ∀ o, itemsO0 o = some (l, ds) → lenO0 o = some (.int ds.length) := fun o h => by
    cases o with
    | fz d => cases d <;> first | (cases h; rfl) | cases h
    | raw v => cases h
    | exn _ _ _ _ => cases h
    | ins _ _ _ => cases h
    | dct _ _ => cases h
    | vu _ => cases h
    | lst xs =>
      obtain ⟨ds', e1, e2⟩ := Option.map_eq_some_iff.mp (show (allFz xs).map _ = some _ from h)
      cases e2
      show some (PyData.int xs.length) = _
      rw [allFz_len _ _ e1]
  cases o with
  | vu u => exact go u h
  | fz d => exact go (.fz d) h
  | raw v => exact go (.raw v) h
  | exn a b c d => exact go (.exn a b c d) h
  | lst xs => exact go (.lst xs) h
  | ins a b c => exact go (.ins a b c) h
  | dct a b => exact go (.dct a b) h
theorem ix_items {o : O} {l : Bool} {ds : List PyData} {k : Nat} {d : PyData} (h : itemsO o = some (l, ds)) (hk : ds[k]? = some d) : ixO o (k : Int) = some d := by
  rw [ixO_eq, h]
  · exact atN hk
  · intro z e; subst e; cases h
theorem ix_itemsI {o : O} {l : Bool} {ds : List PyData} {v : Int} {d : PyData} (h : itemsO o = some (l, ds)) (h0 : 0 ≤ v) (hk : ds[v.toNat]? = some d) : ixO o v = some d := by
  have := ix_items h hk
  rwa [Int.toNat_of_nonneg h0] at this
theorem mem_range {d : PyData} {n : Nat} (h : d ∈ rgD 0 n) : ∃ k : Nat, d = .int (k : Int) ∧ k < n := by
  obtain ⟨k, h1, h2⟩ := List.mem_map.mp h
  exact ⟨k, by rw [← h2]; simp, List.mem_range.mp h1⟩
theorem gN {i : Nat} {d : PyData} {ρ ρ1 : En} (h : i < ρ.length) (h2 : ρ.set i (some (.fz d)) = ρ1) : gfN i d ρ = some ρ1 := by unfold gfN; rw [if_pos h, h2]
theorem exEl {gF : FG} {f : FE} {vs : List Nat} {ρ ρ2 ρ3 ρ4 : En} {d e : PyData} (h1 : gF d ρ = some ρ2) (h2 : f ρ2 = .ok (.fz e) ρ3) (h3 : wipeE ρ3 vs = ρ4) : ∃ ρ2 ρ3, gF d ρ = some ρ2 ∧ f ρ2 = .ok (.fz e) ρ3 ∧ wipeE ρ3 vs = ρ4 := ⟨_, _, h1, h2, h3⟩
theorem exFor {gF : FG} {body : FS} {ρ ρ1 : En} {d : PyData} {P : En → Prop} (h1 : gF d ρ = some ρ1) (h2 : NX (body ρ1) P) : ∃ ρ1, gF d ρ = some ρ1 ∧ NX (body ρ1) P := ⟨_, h1, h2⟩
theorem le_line {n : Nat} (h : n ≤ 1000) : n ≤ sizeLine := by unfold sizeLine; omega
theorem flat_rep {α : Type} (x : α) : ∀ n : Nat, (List.replicate n [x]).flatten = List.replicate n x
  | 0 => rfl
  | n + 1 => by rw [List.replicate_succ, List.flatten_cons, flat_rep x n]; rfl
theorem intO_bool {b : Bool} : intO (.fz (.bool b)) = some (.int (if b then 1 else 0)) := by cases b <;> rfl
theorem rg_at {ρ : En} {n : Nat} : (Sr.rg 0 (Int.toNat (n : Int))).at ρ = some ((List.range n).map fun i : Nat => PyData.int (i : Int)) := by simp [Sr.at, rgD]
end Ls
namespace Ls
open PySem L2
def Sh (n : Nat) (d : PyData) : Prop := d.canLay0 = true ∧ d.depth ≤ n
theorem sh_int {n : Nat} {i : Int} : Sh n (.int i) := ⟨rfl, by simp [PyData.depth]⟩
theorem canAll {ds : List PyData} (h : ∀ d ∈ ds, d.canLay0 = true) : PyData.canLayAll0 ds = true := by
  induction ds with
  | nil => simp [PyData.canLayAll0]
  | cons d ds ih =>
    simp only [PyData.canLayAll0, Bool.and_eq_true]
    exact ⟨h d (by simp), ih fun e he => h e (by simp [he])⟩
theorem canAll_mem {ds : List PyData} (h : PyData.canLayAll0 ds = true) : ∀ d ∈ ds, d.canLay0 = true := by
  induction ds with
  | nil => intro d hd; cases hd
  | cons d ds ih =>
    simp only [PyData.canLayAll0, Bool.and_eq_true] at h
    intro e he
    rcases List.mem_cons.mp he with rfl | he
    · exact h.1
    · exact ih h.2 e he
theorem depAll {n : Nat} {ds : List PyData} (h : ∀ d ∈ ds, d.depth ≤ n) : PyData.depthAll ds ≤ n := by
  induction ds with
  | nil => simp [PyData.depthAll]
  | cons d ds ih =>
    simp only [PyData.depthAll]
    exact Nat.max_le.mpr ⟨h d (by simp), ih fun e he => h e (by simp [he])⟩
theorem depAll_mem {n : Nat} {ds : List PyData} (h : PyData.depthAll ds ≤ n) : ∀ d ∈ ds, d.depth ≤ n := by
  induction ds with
  | nil => intro d hd; cases hd
  | cons d ds ih =>
    simp only [PyData.depthAll] at h
    have h := Nat.max_le.mp h
    intro e he
    rcases List.mem_cons.mp he with rfl | he
    · exact h.1
    · exact ih h.2 e he
theorem sh_list {n : Nat} {ds : List PyData} (h : ∀ d ∈ ds, Sh n d) : Sh (n + 1) (.list ds) := ⟨by simp only [PyData.canLay0]; exact canAll fun d hd => (h d hd).1, by simp only [PyData.depth]; exact Nat.succ_le_succ (depAll fun d hd => (h d hd).2)⟩
theorem sh_tuple {n : Nat} {ds : List PyData} (h : ∀ d ∈ ds, Sh n d) : Sh (n + 1) (.tuple ds) := ⟨by simp only [PyData.canLay0]; exact canAll fun d hd => (h d hd).1, by simp only [PyData.depth]; exact Nat.succ_le_succ (depAll fun d hd => (h d hd).2)⟩
theorem sh_listI {n : Nat} {ds : List PyData} (h : Sh (n + 1) (.list ds)) : ∀ d ∈ ds, Sh n d := fun d hd => ⟨canAll_mem (by simpa only [PyData.canLay0] using h.1) d hd, depAll_mem (Nat.le_of_succ_le_succ (by simpa only [PyData.depth] using h.2)) d hd⟩
theorem sh_tupleI {n : Nat} {ds : List PyData} (h : Sh (n + 1) (.tuple ds)) : ∀ d ∈ ds, Sh n d := fun d hd => ⟨canAll_mem (by simpa only [PyData.canLay0] using h.1) d hd, depAll_mem (Nat.le_of_succ_le_succ (by simpa only [PyData.depth] using h.2)) d hd⟩
theorem sh_shaped {n : Nat} {d : PyData} (h : Sh n d) (hn : n ≤ 64) : SeqAt.shaped d = true := by
  unfold SeqAt.shaped
  rw [h.1, Bool.true_and]
  exact decide_eq_true (Nat.le_trans h.2 hn)
theorem dEq_self {n : Nat} {d : PyData} (h : Sh n d) (hn : n ≤ 64) : dEq d d = some (.bool true) := by
  unfold dEq
  rw [sh_shaped h hn]
  simp [SeqAt.eqv_refl d h.1]
theorem dNe_bool {a b : Bool} : dNe (.bool a) (.bool b) = some (.bool (a != b)) := by
  cases a <;> cases b <;> simp [dNe, SeqAt.shaped, PyData.eqv, PyData.canLay0, PyData.depth]
theorem dEq_bool {a b : Bool} : dEq (.bool a) (.bool b) = some (.bool (a == b)) := by
  cases a <;> cases b <;> simp [dEq, SeqAt.shaped, PyData.eqv, PyData.canLay0, PyData.depth]
theorem bols_map : ∀ bs : List Bool, bolsD (bs.map PyData.bool) = some bs
  | [] => rfl
  | b :: bs => by show (bolsD (bs.map PyData.bool)).map _ = _; rw [bols_map bs]; rfl
theorem ints_map : ∀ bs : List Int, intsD (bs.map PyData.int) = some bs
  | [] => rfl
  | b :: bs => by show (intsD (bs.map PyData.int)).map _ = _; rw [ints_map bs]; rfl
theorem allO_map (bs : List Bool) : allO (.lst ((bs.map PyData.bool).map O.fz)) = some (.bool (bs.all id)) := by
  unfold allO lstI
  rw [items_map]
  simp only [Option.bind, bols_map, Option.map]
theorem sumO_map (bs : List Int) : sumO (.lst ((bs.map PyData.int).map O.fz)) = some (.int bs.sum) := by
  unfold sumO lstI
  rw [items_map]
  simp only [Option.bind, ints_map, Option.map]
section
variable {ρ ρ1 : En} {s r : FS} {t : FT} {a : Bool} {G : SO → Prop}
end
inductive Is : O → PyData → Prop
  | fz (d : PyData) : Is (.fz d) d
  | lst (ds : List PyData) : Is (.lst (ds.map O.fz)) (.list ds)
end Ls
namespace Ls
open PySem PySem.Spec PyProof.Rows L2
variable [Tb] [Vw]
section
open Builtin Builtin.ObjectAttr PySem.W PySem.Calls PySem.HandSPX
theorem cut_has (X : String) : ∀ l : List Value, l.contains (.type X) = (cutR l).contains (.type X)
  | [] => rfl
  | .ref c :: r => by
    rw [List.contains_cons, cut_has X r]
    rfl
  | .none :: _ => rfl
  | .ellipsis :: _ => rfl
  | .notImplemented :: _ => rfl
  | .bool _ :: _ => rfl
  | .int _ _ :: _ => rfl
  | .float _ _ :: _ => rfl
  | .str _ _ :: _ => rfl
  | .bytes _ _ :: _ => rfl
  | .type _ :: _ => rfl
  | .builtin _ :: _ => rfl
theorem cut_pass (self : Value) (n : String) : ∀ l : List Value, refuseLoop self n l = refuseLoop self n (cutR l)
  | [] => rfl
  | .ref c :: r => by
    rw [refuseLoop_ref, cut_pass self n r]
    rfl
  | .none :: _ => rfl
  | .ellipsis :: _ => rfl
  | .notImplemented :: _ => rfl
  | .bool _ :: _ => rfl
  | .int _ _ :: _ => rfl
  | .float _ _ :: _ => rfl
  | .str _ _ :: _ => rfl
  | .bytes _ _ :: _ => rfl
  | .type _ :: _ => rfl
  | .builtin _ :: _ => rfl
structure BaseX (B newId initId : String) (tl : List Value) : Prop where
  ef : ExcBaseFacts B newId initId tl
  pass : ∀ self, refuseLoop self "__setattr__" tl = pure ()
  ob : tl.contains (.type "object") = true
  ty : typeOf (.type B) = pure (.type "type")
  st : Manifest.isStub B = false
  hd : handedIn (.builtin initId) = true
  boot : bootBuiltins B = some (.type B)
variable {prog : Program} {w : World} {A : Around} {E : Value → Shared → Prop} {R : Result → Shared → Prop} {hp : Heap} {g : Array GenState} {d : Drawn} {t : Nat} {os : OsState} {tl : List Value}
theorem osaNew {K : W.Frag} {f : Str} {tk : Tok} {v : Value} {x C : Addr} {fv : Array Value} {cd : ClassData} (hpa : ∀ self, refuseLoop self "__setattr__" tl = pure ()) (hto : tl.contains (.type "object") = true) (X : K.In hp)
    (hx : hp.get? x = some { cls := .ref C, data := .fields fv }) (hcd : W.clsIn K C = some cd) (hm : cutR cd.mro = tl) (hh : cd.hasDict = true) (ha : W.findIn K (.ref C) f = some none)
    (hq : ∀ h' tk' dx, (∀ b o, b ≠ x → hp.get? b = some o → h'.get? b = some o) → hp.objs.size ≤ dx → dx ≠ x → h'.get? x = some { cls := .ref C, dict := some dx, data := .fields fv } → h'.Ns1 dx (fun y => if y = f then some v else none) → R (.ok (.ret .none)) ⟨h', g, d, tk', os⟩) :
    codeAny (model prog w) A (.call (.builtin "object.__setattr__") ⟨[.ref x, .str f tk, v], []⟩) R ⟨hp, g, d, t, os⟩ := by
  have I : W.InstAt hp x { cls := .ref C, data := .fields fv } C none := ⟨hx, rfl, rfl, True.intro⟩
  have so := F.store_object
  have hob : cd.mro.contains (.type "object") = true := by rw [cut_has, hm]; exact hto
  have hne : cd.mro.isEmpty = false := by cases q : cd.mro with | nil => rw [q] at hob; cases hob | cons _ _ => rfl
  have hxs : x ≠ hp.objs.size := Nat.ne_of_lt (Heap.lt_size hx)
  have isO : W.Looks (model prog w) hp (isInstance (.ref x) (.type "object")) true := I.type.andThen (W.looks_mroIn X (by unfold W.mroIn; rw [hcd, Option.bind_some, if_neg (by rw [hne]; decide), hob]))
  refine codeAny_call_builtin so.slot.plain so.entry (@W.check_slot (model prog w) _ _ ⟨hp, g, d, t, os⟩ "object.__setattr__" "object" "__setattr__" (.ref x) [.str f tk, v] [] _ so.kind so.split isO (so.args (.ref x) (.str f tk) v) ?_)
  have lm : W.Looks (model prog w) hp (mroOf (.ref C)) cd.mro := (W.looks_clsIn X hcd).andThen .now
  have ls : W.Looks (model prog w) hp (storeTaker? none) none := .now
  have lc : W.Looks (model prog w) hp (classData C) cd := W.looks_clsIn X hcd
  rw [W.osa_eq, refuse_eq]
  refine wpAny_bind (wpAny_bind (I.type.at (wpAny_bind (lm.at ?_))))
  rw [cut_pass, hm, hpa]
  refine wpAny_pure (wpAny_bind (I.type.at (wpAny_bind ((W.looks_findIn X ha).at (wpAny_bind (ls.at ?_))))))
  show wpAny _ _ (storeInOwnDict (.ref x) (.ref C) (.str f tk) f v false) _ _ _
  obtain ⟨c1, c2, c3, c4, c5, c6, c7, c8, c9, c10, c11⟩ := cd
  dsimp only at hh; subst hh; unfold storeInOwnDict ownDictForStores
  repeat (first | with_reducible refine store_in_new ?_ ?_ | with_reducible refine wpAny_loadPart_at hx ?_ | with_reducible refine lc.at ?_ | wp_step)
  · exact ⟨_, #[], _, (Heap.get?_update_ne _ _ _ _ (Ne.symm hxs)).trans (Heap.get?_push_at rfl rfl), rfl, fun _ he => absurd he (by simp), fun _ => rfl⟩
  · intro h' tk' hn' hs
    have hx1 : (hp.push { cls := .type "dict", data := .dict #[] }).get? x = some { cls := .ref C, data := .fields fv } := Heap.get?_push_of_some _ hx
    exact hq h' tk' hp.objs.size (fun b o hb ho => (hs.2 b (Nat.ne_of_lt (Heap.lt_size ho))).trans ((Heap.get?_update_ne _ _ _ _ hb).trans (Heap.get?_push_of_some _ ho))) (Nat.le_refl _) hxs.symm ((hs.2 x hxs).trans (Heap.get?_update_self _ hx1 rfl)) hn'
theorem osaOld {K : W.Frag} {f : Str} {tk : Tok} {v : Value} {x C dx : Addr} {fv : Array Value} {cd : ClassData} {m0 : Str → Option Value} {nl : List Str} (hpa : ∀ self, refuseLoop self "__setattr__" tl = pure ()) (hto : tl.contains (.type "object") = true) (X : K.In hp)
    (hx : hp.get? x = some { cls := .ref C, dict := some dx, data := .fields fv }) (hns : hp.Ns1 dx m0) (hw : Within m0 nl) (hz : nl.length ≤ 1000) (hcd : W.clsIn K C = some cd) (hm : cutR cd.mro = tl) (hh : cd.hasDict = true) (ha : W.findIn K (.ref C) f = some none)
    (hq : ∀ h' tk', (∀ b o, b ≠ dx → hp.get? b = some o → h'.get? b = some o) → h'.Ns1 dx (fun y => if y = f then some v else m0 y) → R (.ok (.ret .none)) ⟨h', g, d, tk', os⟩) :
    codeAny (model prog w) A (.call (.builtin "object.__setattr__") ⟨[.ref x, .str f tk, v], []⟩) R ⟨hp, g, d, t, os⟩ := by
  obtain ⟨oD, _, _, hoD, _, _⟩ := hns.count hw
  have I : W.InstAt hp x { cls := .ref C, dict := some dx, data := .fields fv } C (some oD) := ⟨hx, rfl, rfl, hoD⟩
  have so := F.store_object
  have hob : cd.mro.contains (.type "object") = true := by rw [cut_has, hm]; exact hto
  have hne : cd.mro.isEmpty = false := by cases q : cd.mro with | nil => rw [q] at hob; cases hob | cons _ _ => rfl
  have isO : W.Looks (model prog w) hp (isInstance (.ref x) (.type "object")) true := I.type.andThen (W.looks_mroIn X (by unfold W.mroIn; rw [hcd, Option.bind_some, if_neg (by rw [hne]; decide), hob]))
  refine codeAny_call_builtin so.slot.plain so.entry (@W.check_slot (model prog w) _ _ ⟨hp, g, d, t, os⟩ "object.__setattr__" "object" "__setattr__" (.ref x) [.str f tk, v] [] _ so.kind so.split isO (so.args (.ref x) (.str f tk) v) ?_)
  have lm : W.Looks (model prog w) hp (mroOf (.ref C)) cd.mro := (W.looks_clsIn X hcd).andThen .now
  have ls : W.Looks (model prog w) hp (storeTaker? none) none := .now
  have lc : W.Looks (model prog w) hp (classData C) cd := W.looks_clsIn X hcd
  rw [W.osa_eq, refuse_eq]
  refine wpAny_bind (wpAny_bind (I.type.at (wpAny_bind (lm.at ?_))))
  rw [cut_pass, hm, hpa]
  refine wpAny_pure (wpAny_bind (I.type.at (wpAny_bind ((W.looks_findIn X ha).at (wpAny_bind (ls.at ?_))))))
  show wpAny _ _ (storeInOwnDict (.ref x) (.ref C) (.str f tk) f v false) _ _ _
  obtain ⟨c1, c2, c3, c4, c5, c6, c7, c8, c9, c10, c11⟩ := cd
  dsimp only at hh; subst hh; unfold storeInOwnDict ownDictForStores
  repeat (first | with_reducible refine PySem.OEX.store_in_old hns hw hz ?_ | with_reducible refine wpAny_loadPart_at hx ?_ | with_reducible refine lc.at ?_ | wp_step)
  exact fun h' tk' hn' hs => hq h' tk' (fun b o hb ho => (hs.2 b hb).trans ho) hn'
end
structure OX (K : PySem.W.Frag) (C : Addr) (newId : String) (tl : List Value) : Prop where
  cls : ∃ nm q N bs bm sn sub ab col dd k0 k1 k2 k3 k5, K.lookup C = some (excClassObj nm q C N bs bm true sn sub ab col dd k0 k1 k2 k3 k5 newId) ∧ cutR bm = tl
  sa : PySem.W.findIn K (.ref C) "__setattr__" = some (some (.builtin "object.__setattr__"))
  exC : PySem.W.subIn K (.ref C) (.type "BaseException") = some true
  tyC : PySem.W.typeIn K (.ref C) = some (.type "type")
  kC : PySem.W.keepIn K (.ref C) = true
section
variable {X : Cx} {pins : List (Addr × Obj)} {σ : L2.St} {H : Hp} {s : Shared} {a C dx : Addr} {f : Str} {y : V} {u : Value} {fs : List (Str × V)} {Q : Unit → Shared → Prop} {E : Value → Shared → Prop} {A : Around} {B newId initId : String} {tl : List Value}
theorem ostN (F : BaseX B newId initId tl) (T : OX X.K C newId tl) (I : Inv X pins σ H s) (e : H a = some (exo a C none)) (hno : PySem.W.findIn X.K (.ref C) f = some none) (ry : RelV y u)
    (h : ∀ dx s', H dx = none → dx ≠ a → Inv X pins σ (upd (upd H dx (exd dx [(f, y)])) a (exo a C (some dx))) s' → Q () s') : wpAny (model X.prog X.w) A (setAttr (.ref a) f u) Q E s := by
  obtain ⟨c1, c2, c3, c4, bm, c5, c6, c7, c8, c9, j0, j1, j2, j3, j5, hC, hbm⟩ := T.cls
  have hcl : PySem.W.clsIn X.K C = some { name := c1, bases := c4, mro := .ref C :: bm, ns := c3, qualname := c2, hasDict := true, slotNames := c5, subclasses := c6, abstract := c7, collection := c8, hasDel := false } := by unfold PySem.W.clsIn; rw [hC] <;> rfl
  obtain ⟨t1, ho⟩ := exo_at I.hok e
  obtain ⟨hp, gg, dd, t, os⟩ := s
  refine PySem.W.set_plain I.kIn (od := none) (ox := { cls := .ref C, dict := none, data := .fields #[.ref t1, .none, .none, .none, .bool false, .none] }) ⟨ho, rfl, rfl, True.intro⟩ T.sa ?_
  refine osaNew F.pass F.ob I.kIn ho hcl (show cutR (.ref C :: bm) = tl from hbm) rfl hno fun h' tk' dx k dn dne hx hn => ?_
  have hnd : H dx = none := I.hok.fresh dn
  have nd : ∀ {b : Addr} {o : Obj}, hp.get? b = some o → b ≠ dx := fun q => Nat.ne_of_lt (Nat.lt_of_lt_of_le (Heap.lt_size q) dn)
  have na : ∀ {b : Addr}, H b = none → b ≠ a := fun n z => by rw [z, e] at n; cases n
  have U : Un X.fs [] H (upd (upd H dx (exd dx [(f, y)])) a (exo a C (some dx))) hp h' :=
    ⟨fun b o q n _ _ => k b o (na n) q, fun b o q n _ _ => ⟨o.slots, k b o (na n) q⟩, fun b o q n _ => by rw [upd_ne (na n), upd_ne (nd q)]; exact n,
      fun b o q _ => (Classical.em (b = a)).elim (fun hb => ⟨_, (congrArg h'.get? hb).trans hx⟩) fun hb => ⟨o, k b o hb q⟩,
      fun b xs q => by rw [upd_ne (at_ne e q exo_tup), upd_ne (ne_of_none q hnd)]; exact q,
      fun b o v q => by rw [upd_ne (at_ne e q exo_frz), upd_ne (ne_of_none q hnd)]; exact q,
      fun b ps q => ⟨#[], by rw [upd_ne (at_ne e q exo_tbl), upd_ne (ne_of_none q hnd), q]; simp⟩⟩
  refine h dx _ hnd dne (I.un (t' := tk') U fun b o q => ?_)
  by_cases hb : b = a
  · subst hb; rw [upd_same] at q; cases q; exact exo_ok hx
  · rw [upd_ne hb] at q
    by_cases hd : b = dx
    · subst hd; rw [upd_same] at q; cases q; exact exd_ok hn (relO_put (fs := []) ry fun _ => True.intro)
    · rw [upd_ne hd] at q
      exact (I.hok b o q).stay (fun c v hc z => k c v (hc.elim (fun hc => by rw [hc]; exact hb) fun hc => at_ne e hc exo_own) z)
        (fun c hc => by rw [upd_ne (at_ne e hc exo_own), upd_ne (ne_of_none hc hnd)]; exact hc) fun c xs hc => by rw [upd_ne (at_ne e hc exo_tup), upd_ne (ne_of_none hc hnd)]; exact hc
theorem ostO (F : BaseX B newId initId tl) (T : OX X.K C newId tl) (I : Inv X pins σ H s) (e : H a = some (exo a C (some dx))) (ed : H dx = some (exd dx fs)) (hl : fs.length ≤ 900) (hno : PySem.W.findIn X.K (.ref C) f = some none) (ry : RelV y u)
    (h : ∀ s', Inv X pins σ (upd H dx (exd dx ((f, y) :: fs))) s' → Q () s') : wpAny (model X.prog X.w) A (setAttr (.ref a) f u) Q E s := by
  obtain ⟨c1, c2, c3, c4, bm, c5, c6, c7, c8, c9, j0, j1, j2, j3, j5, hC, hbm⟩ := T.cls
  have hcl : PySem.W.clsIn X.K C = some { name := c1, bases := c4, mro := .ref C :: bm, ns := c3, qualname := c2, hasDict := true, slotNames := c5, subclasses := c6, abstract := c7, collection := c8, hasDel := false } := by unfold PySem.W.clsIn; rw [hC] <;> rfl
  obtain ⟨t1, ho⟩ := exo_at I.hok e
  obtain ⟨mA, hns, rel⟩ := exd_at I.hok ed
  obtain ⟨hp, gg, dd, t, os⟩ := s
  obtain ⟨oD, _, _, hoD, _, _⟩ := hns.count (within_of rel)
  refine PySem.W.set_plain I.kIn (od := some oD) (ox := { cls := .ref C, dict := some dx, data := .fields #[.ref t1, .none, .none, .none, .bool false, .none] }) ⟨ho, rfl, rfl, hoD⟩ T.sa ?_
  refine osaOld F.pass F.ob I.kIn ho hns (within_of rel) (by rw [List.length_map]; omega) hcl (show cutR (.ref C :: bm) = tl from hbm) rfl hno fun h' tk' k hn => ?_
  exact h _ (I.write (t' := tk') (x := dx) (e := dx) (o := exd dx ((f, y) :: fs)) (by rw [ed]; exact True.intro) (.inl rfl) k (let ⟨o, _, _, e', _⟩ := hn; ⟨o, e'⟩) (exd_ok hn (relO_put ry rel)))
theorem oinitG {us : List Value} {Q : Value → Shared → Prop} (F : BaseX B newId initId tl) (T : OX X.K C newId tl) (I : Inv X pins σ H s) (e : H a = some (exo a C none)) (hl : us.length ≤ sizeLine) (h : ∀ s', Inv X pins σ H s' → Q .none s') :
    wpAny (model X.prog X.w) A (call (.builtin initId) (.ref a :: us)) Q E s := by
  obtain ⟨c1, c2, c3, c4, bm, c5, c6, c7, c8, c9, j0, j1, j2, j3, j5, hC, hbm⟩ := T.cls
  obtain ⟨t1, ho⟩ := exo_at I.hok e
  obtain ⟨hp, gg, dd, t, os⟩ := s
  refine wpAny_call (PySem.HandSPX.init_base F.ef (fun Y => by rw [cut_has Y bm, hbm]) (I.kIn _ _ hC) ho hl fun h' t2 k hx => ?_)
  have J := I.write (t' := t) (x := a) (e := a) (o := exo a C none) (by rw [e]; exact True.intro) (.inl rfl) k ⟨_, hx⟩ (exo_ok hx)
  have eu : upd H a (exo a C none) = H := funext fun b => if hb : b = a then by rw [hb, upd_same, e] else by rw [upd_ne hb]
  rw [eu] at J; exact h _ J
end
def tBI (K : PySem.W.Frag) (newId : String) (tl : List Value) (ta : TA) : TE := fun σ H Q => ta σ H fun vs H1 => ∃ (a C : Addr) (ws : List V), vs = .ref a :: ws ∧ ws.length ≤ 1000 ∧ OX K C newId tl ∧ H1 a = some (exo a C none) ∧ Q .non H1
def tST (K : PySem.W.Frag) (newId : String) (tl : List Value) (f : Str) (to te : TE) : TS := fun D σ H => te σ H fun y H1 => to σ H1 fun x H2 => ∃ a C : Addr, x = .ref a ∧ OX K C newId tl ∧ PySem.W.findIn K (.ref C) f = some none ∧
  ((H2 a = some (exo a C none) ∧ ∀ dx, H2 dx = none → dx ≠ a → D.nx σ (upd (upd H2 dx (exd dx [(f, y)])) a (exo a C (some dx)))) ∨ ∃ (dx : Addr) (fs : List (Str × V)), H2 a = some (exo a C (some dx)) ∧ H2 dx = some (exd dx fs) ∧ fs.length ≤ 900 ∧ D.nx σ (upd H2 dx (exd dx ((f, y) :: fs))))
section
variable {X : Cx} {o e : Expr} {es : List Expr} {to te : TE} {ta : TA} {f : Str} {p p' p1 p2 pos : Pos} {B newId initId : String} {tl : List Value}
theorem pe_binit {pl : Sem Bool} {x : Str} (F : BaseX B newId initId tl) (hx : x = (B : Str)) (hg : Gl X x) (hm : X.mg x = none) (hb : bootBuiltins x = some (.type B)) (vV : PySem.W.findCls X.K (.type B) (.type "type") "__init__" = some (.val (.builtin initId))) (ha : PA X (e :: es) ta)
    (hc : eval (.Call (.Attribute (.Name x p1) "__init__" p2) (e :: es) [] pos) X.env = (do
      let ov ← eval (.Name x p1) X.env
      standAt p2.atName
      let (f, first) ← holding [ov] (getMethod ov "__init__" pl)
      callWith pos f first (backTo pos (starEach (e :: es) X.env)) (backToKw pos (keywordEach [] X.env))) := by rfl)
    (hn : x ≠ "__name__" := by decide) (hdb : (x == ("__debug__" : Str)) = false := by decide) (he : starEach (e :: es) X.env = (false, eval e X.env) :: starEach es X.env := by rfl) (hpl : (backTo pos (starEach es X.env)).any (·.1) = false := by rfl) :
    PE X (.Call (.Attribute (.Name x p1) "__init__" p2) (e :: es) [] pos) (tBI X.K newId tl ta) := by
  refine ⟨fun pins s σ H Q I h => PySem.W.methodCall_KW (ld_blt I hg hm hb ?_ hn hdb) hc⟩
  obtain ⟨m, fr⟩ := I.fr
  refine PySem.W.method_type fr I.ok.mod.kin F.ty F.st vV F.hd ?_
  show wpAny _ _ (callWith pos (Value.builtin initId) [] (backTo pos (starEach (e :: es) X.env)) []) _ _ _
  refine PyProof.Rows.callWith_method1 (thn (ha.run pos pins _ σ H _ (I.tok _) h) fun us s1 ⟨vs, H1, I1, r1, a, C, ws, ev, hl, T, ea, q⟩ => ?_) he hpl
  subst ev
  cases r1 with
  | @cons _ u0 _ ur ra rw' =>
    obtain rfl : u0 = Value.ref a := ra
    exact oinitG F T I1 ea (by rw [← Paired.length rw', sizeLine_eq]; omega) fun s' J => ⟨.non, H1, J, rfl, q⟩
theorem ps_st (F : BaseX B newId initId tl) (ho : PE X o to) (he : PE X e te) (hs : swapsWith e (some (.Attribute o f p')) pos.line X.env = pure false := by rfl) : PS X (.Assign [.Attribute o f p'] e pos) (tST X.K newId tl f to te) := by
  refine ⟨fun pins s σ H D I h => plainObj_wpAny_Assign_Attribute (thn (he.run pins s σ H _ I h) fun v s1 ⟨y, H1, I1, r1, q1⟩ => thn (ho.run pins s1 σ H1 _ I1 q1) fun u s2 ⟨x, H2, I2, r2, a, C, ex, T, hno, q⟩ => ?_) hs⟩
  subst ex
  obtain rfl : u = Value.ref a := r2
  rcases q with ⟨ea, q⟩ | ⟨dx, fs, ea, ed, hl, q⟩
  · exact ostN F T I2 ea hno r1 fun dx s' n ne J => ⟨σ, _, J, q dx n ne⟩
  · exact ostO F T I2 ea ed hl hno r1 fun s' J => ⟨σ, _, J, q⟩
structure OI (K : PySem.W.Frag) (C fI : Addr) : Prop where
  rd : PySem.W.readsIn K C (.type "type") = true
  ga : PySem.W.specialIn K (.ref C) "__getattribute__" = some (some (.builtin "type.__getattribute__"))
  at_ : PySem.W.findCls K (.ref C) (.type "type") "__init__" = some (.val (.ref fI))
  hd : PySem.W.handedIn (.ref fI) = true
  kp : PySem.W.keepIn K (.ref fI) = true
theorem pe_oinit {CX : CXT} {pl : Sem Bool} {x : Str} {C fI : Addr} {k : Nat} {fd : FuncData} {ps : List Str} {sp : Sp} {E : L2.St → XK} (T : OI X.K C fI) (G : FnOk X.prog X.w X.K X.mg X.base CX k fI fd ps sp) (hr : Room k X.A) (hg : Gl X x) (hm : X.mg x = some (.ref C)) (hb : Binds X.K fd ps []) (hx : ∀ σ, PassesAt CX X σ (E σ)) (ha : PA X (e :: es) ta)
    (hc : eval (.Call (.Attribute (.Name x p1) "__init__" p2) (e :: es) [] pos) X.env = (do
      let ov ← eval (.Name x p1) X.env
      standAt p2.atName
      let (f, first) ← holding [ov] (getMethod ov "__init__" pl)
      callWith pos f first (backTo pos (starEach (e :: es) X.env)) (backToKw pos (keywordEach [] X.env))) := by rfl)
    (hdb : (x == ("__debug__" : Str)) = false := by decide) (he : starEach (e :: es) X.env = (false, eval e X.env) :: starEach es X.env := by rfl) (hpl : (backTo pos (starEach es X.env)).any (·.1) = false := by rfl) :
    PE X (.Call (.Attribute (.Name x p1) "__init__" p2) (e :: es) [] pos) (tCallS sp E ta) := by
  refine ⟨fun pins s σ H Q I h => PySem.W.methodCall_KW (ld_glob I hg hm ?_ hdb) hc⟩
  refine PySem.W.method_cls I.kIn T.ga (PySem.W.cls_value I.kIn T.rd T.at_ T.hd ?_)
  show wpAny _ _ (callWith pos (Value.ref fI) [] (backTo pos (starEach (e :: es) X.env)) []) _ _ _
  refine PySem.W.callWith_K (h₀ := X.base) I.ok.mod.kin T.kp (thn (ha.run pos pins _ σ H _ (I.tok _) h) fun us s1 ⟨vs, H1, I1, r, q⟩ => ⟨I1.kIn, ?_⟩) he hpl
  exact run_fnS G hr hb (hx σ) I1 r q
end
end Ls
namespace Ls
open PySem PySem.Spec PyProof.Rows L2
variable [Tb] [Vw]
abbrev VE := L2.St → Option V
abbrev VL := L2.St → Option (List V)
structure VV (X : Cx) (e : Expr) (g : VE) : Prop where
  ex : ∃ te, PE X e te ∧ ∀ σ H (Q : VK) y, g σ = some y → Q y H → te σ H Q
structure VA (X : Cx) (es : List Expr) (g : VL) : Prop where
  ex : ∃ ta, PA X es ta ∧ ∀ σ H (Q : List V → Hp → Prop) ys, g σ = some ys → Q ys H → ta σ H Q
def gV (i : Nat) : VE := fun σ => (σ[i]?).bind id
def gS (z : Str) : VE := fun _ => some (.str z)
def gNil : VL := fun _ => some []
def gCons (g : VE) (r : VL) : VL := fun σ => (g σ).bind fun y => (r σ).map fun ys => y :: ys
section
variable {X : Cx} {e : Expr} {es : List Expr} {g : VE} {r : VL} {pos : Pos}
theorem vv_var (i : Nat) {x : Str} (hN : X.N[i]? = some x := by rfl) (hv : Vis X.env.scope x := by first | exact Or.inl rfl | exact Or.inr (Or.inl rfl) | exact Or.inr (Or.inr rfl)) (hd : (x == ("__debug__" : Str)) = false := by decide)
    (hcd : (x == ("__classdict__" : Str)) = false := by decide) : VV X (.Name x pos) (gV i) :=
  ⟨_, pe_var hN hv hd hcd, fun σ H Q y h q => by
    unfold gV at h
    cases hi : σ[i]? with
    | none => rw [hi] at h; cases h
    | some o => rw [hi] at h; have h : o = some y := h; subst h; exact ⟨y, hi, q⟩⟩
theorem vv_str {z : Str} {j : Nat} : VV X (.Constant (.str z) j pos) (gS z) := ⟨_, pe_str, fun σ H Q y h q => by cases h; exact q⟩
theorem va_nil : VA X [] gNil := ⟨_, pa_nil, fun σ H Q y h q => by cases h; exact q⟩
theorem va_cons (h : VV X e g) (hr : VA X es r) (hs : starEach (e :: es) X.env = (false, eval e X.env) :: starEach es X.env := by rfl) : VA X (e :: es) (gCons g r) := by
  obtain ⟨te, h1, h2⟩ := h.ex
  obtain ⟨ta, r1, r2⟩ := hr.ex
  refine ⟨_, pa_cons h1 r1 hs, fun σ H Q ys q k => ?_⟩
  obtain ⟨y, q1, q2⟩ := Option.bind_eq_some_iff.mp q
  obtain ⟨zs, q3, q4⟩ := Option.map_eq_some_iff.mp q2
  subst q4
  exact h2 σ H _ y q1 (r2 σ H _ zs q3 k)
end
def iSp (K : PySem.W.Frag) (newId : String) (tl : List Value) (n : Nat) (mk : List V → Option (List (Str × V))) : Sp := fun vs H Q _ => ∃ a C ws fs, vs = .ref a :: ws ∧ ws.length = n ∧ OX K C newId tl ∧ (∀ p ∈ fs, PySem.W.findIn K (.ref C) p.1 = some none) ∧ fs.length ≤ 100 ∧
  H a = some (exo a C none) ∧ mk ws = some fs ∧ ∀ dx, H dx = none → dx ≠ a → Q .non (upd (upd H dx (exd dx fs)) a (exo a C (some dx)))
structure AO (X : Cx) (newId : String) (tl : List Value) (b : List Stmt) (l : L2.St → Option (List (Str × V))) : Prop where
  ex : ∃ t, PSs X b t ∧ ∀ σ H (D : Ends) a C dx fs new, σ[0]? = some (some (.ref a)) → OX X.K C newId tl → H a = some (exo a C (some dx)) → H dx = some (exd dx fs) → a ≠ dx → fs.length + new.length ≤ 900 → l σ = some new → (∀ p ∈ new, PySem.W.findIn X.K (.ref C) p.1 = some none) →
    D.nx σ (upd H dx (exd dx (new ++ fs))) → t D σ H
def lNil : L2.St → Option (List (Str × V)) := fun _ => some []
def lCons (f : Str) (g : VE) (r : L2.St → Option (List (Str × V))) : L2.St → Option (List (Str × V)) := fun σ => (g σ).bind fun y => (r σ).map fun new => new ++ [(f, y)]
theorem upd_at {H : Hp} {a : Addr} {o : HO} (h : H a = some o) : upd H a o = H := funext fun b => if hb : b = a then by rw [hb, upd_same, h] else by rw [upd_ne hb]
theorem upd_upd {H : Hp} {a : Addr} {o u : HO} : upd (upd H a o) a u = upd H a u := funext fun b => if hb : b = a then by rw [hb, upd_same, upd_same] else by rw [upd_ne hb, upd_ne hb, upd_ne hb]
section
variable {X : Cx} {B newId initId : String} {tl : List Value} {o e : Expr} {g : VE} {l : L2.St → Option (List (Str × V))} {f : Str} {b : List Stmt} {p' pos : Pos}
theorem ao_nil : AO X newId tl [] lNil := ⟨_, pss_nil, fun σ H D a C dx fs new _ _ ea ed _ _ h _ q => by
  cases h
  rw [List.nil_append, upd_at ed] at q
  exact q⟩
theorem ao_cons (F : BaseX B newId initId tl) (ho : VV X o (gV 0)) (he : VV X e g) (hr : AO X newId tl b l) (hs : swapsWith e (some (.Attribute o f p')) pos.line X.env = pure false := by rfl) : AO X newId tl (.Assign [.Attribute o f p'] e pos :: b) (lCons f g l) := by
  obtain ⟨to, o1, o2⟩ := ho.ex
  obtain ⟨te, e1, e2⟩ := he.ex
  obtain ⟨t, t1, t2⟩ := hr.ex
  refine ⟨_, pss_cons (ps_st F o1 e1 hs) t1, fun σ H D a C dx fs new h0 T ea ed ne hl h hno q => ?_⟩
  obtain ⟨y, q1, q2⟩ := Option.bind_eq_some_iff.mp h
  obtain ⟨rest, q3, q4⟩ := Option.map_eq_some_iff.mp q2
  subst q4
  rw [List.length_append, List.length_singleton] at hl
  refine e2 σ H _ y q1 (o2 σ H _ (.ref a) (by unfold gV; rw [h0]; rfl) ⟨a, C, rfl, T, hno (f, y) (by simp), .inr ⟨dx, fs, ea, ed, by omega, ?_⟩⟩)
  refine t2 σ _ D a C dx ((f, y) :: fs) rest h0 T (by rw [upd_ne ne]; exact ea) upd_same ne (by rw [List.length_cons]; omega) q3 (fun p hp => hno p (by simp [hp])) ?_
  rw [upd_upd, show rest ++ (f, y) :: fs = rest ++ [(f, y)] ++ fs by simp]
  exact q
end
section
variable {P : Program} {w : World} {K : PySem.W.Frag} {mg : Str → Option Value} {base : Heap} {x qual : Str} {params : Arguments} {scope : Scope} {kws : List (Str × V)} {dvs : List V} {f : Addr} {fd : FuncData} {B newId initId : String} {tl : List Value}
theorem start0 {N : List Str} {v : V} {vs : List V} : (L2.start N (v :: vs))[0]? = some (some v) := rfl
theorem ok_bi {N ps : List Str} {k n : Nat} {mk : List V → Option (List (Str × V))} {l : L2.St → Option (List (Str × V))} {g : VE} {gs : VL} {fld : Str} {y : Str} {body : List Stmt} (F : FunD K x qual params body scope dvs kws f fd) (Sc : FnScope N ps scope) (FB : BaseX B newId initId tl) (hn : n + 1 = ps.length)
    (hmk : ∀ a ws fs, mk ws = some fs → ∃ us u new, gs (L2.start N (.ref a :: ws)) = some us ∧ us.length ≤ 1000 ∧ g (L2.start N (.ref a :: ws)) = some u ∧ l (L2.start N (.ref a :: ws)) = some new ∧ fs = new ++ [(fld, u)])
    (h : ∀ (cdv : Value) (A : Around) (outer : List Env) (s : Shared) (H : Hp) (E : XK), ∃ (o e0 e : Expr) (es : List Expr) (p p1 p2 p' pos q : Pos) (b : List Stmt), body = .Expr (.Call (.Attribute (.Name y p1) "__init__" p2) (e0 :: es) [] p) q :: .Assign [.Attribute o fld p'] e pos :: b ∧
      let X := cxOf (L2.CX P w) P w K mg base N qual scope f cdv A outer s H E
      (∃ ta, PE X (.Call (.Attribute (.Name y p1) "__init__" p2) (e0 :: es) [] p) (tBI X.K newId tl ta) ∧ ∀ σ H (Q : List V → Hp → Prop) ys, (gCons (gV 0) gs) σ = some ys → Q ys H → ta σ H Q) ∧ swapsWith (.Call (.Attribute (.Name y p1) "__init__" p2) (e0 :: es) [] p) none q.line X.env = pure false ∧
      VV X o (gV 0) ∧ VV X e g ∧ swapsWith e (some (.Attribute o fld p')) pos.line X.env = pure false ∧ AO X newId tl b l) :
    FnOk P w K mg base (L2.CX P w) (k + 1) f fd ps (iSp K newId tl n mk) := by
  refine F.ok Sc (fun vs H Q E ⟨a, C, ws, fs, e1, e2, _⟩ => by rw [e1, List.length_cons, e2, hn]) fun cdv A outer s H vs Q E hr q => ?_
  obtain ⟨o, e0, e, es, p, p1, p2, p', pos, q', b, hbd, ⟨ta, c1, c2⟩, hsw, ho, he, hs, hb⟩ := h cdv A outer s H E
  obtain ⟨a, C, ws, fs, rfl, _, T, hno, hlen, ea, hm, k1⟩ := q
  obtain ⟨to, o1, o2⟩ := ho.ex
  obtain ⟨te, e1, e2⟩ := he.ex
  obtain ⟨t, t1, t2⟩ := hb.ex
  obtain ⟨us, u, new, m1, m2, m3, m4, rfl⟩ := hmk a ws fs hm
  subst hbd
  refine ⟨_, pss_cons (ps_expr c1 hsw) (pss_cons (ps_st FB o1 e1 hs) t1), ?_⟩
  refine c2 _ H _ (.ref a :: us) (by unfold gCons gV; rw [start0, m1]; rfl) ⟨a, C, us, rfl, m2, T, ea, ?_⟩
  refine e2 _ H _ u m3 (o2 _ H _ (.ref a) (by unfold gV; rw [start0]; rfl) ⟨a, C, rfl, T, hno (fld, u) (by simp), .inl ⟨ea, fun dx hd ne => ?_⟩⟩)
  have hl2 : new.length + 1 ≤ 100 := by simpa using hlen
  refine t2 _ _ _ a C dx [(fld, u)] new start0 T upd_same (by rw [upd_ne ne, upd_same]) (Ne.symm ne) (by simp; omega) m4 (fun p hp => hno p (by simp [hp])) ?_
  have eu : upd (upd (upd H dx (exd dx [(fld, u)])) a (exo a C (some dx))) dx (exd dx (new ++ [(fld, u)])) = upd (upd H dx (exd dx (new ++ [(fld, u)]))) a (exo a C (some dx)) := funext fun b => by
    by_cases h1 : b = dx
    · rw [h1, upd_same, upd_ne ne, upd_same]
    · rw [upd_ne h1]
      by_cases h2 : b = a
      · rw [h2, upd_same, upd_same]
      · rw [upd_ne h2, upd_ne h1, upd_ne h2, upd_ne h1]
  rw [eu]
  exact k1 dx hd ne
theorem ok_oi {N ps : List Str} {k n : Nat} {mk mkB : List V → Option (List (Str × V))} {nB : Nat} {l : L2.St → Option (List (Str × V))} {gs : VL} {body : List Stmt} (F : FunD K x qual params body scope dvs kws f fd) (Sc : FnScope N ps scope) (hn : n + 1 = ps.length)
    (hmk : ∀ a ws fs, mk ws = some fs → ∃ us new fs0, gs (L2.start N (.ref a :: ws)) = some us ∧ us.length = nB ∧ mkB us = some fs0 ∧ l (L2.start N (.ref a :: ws)) = some new ∧ fs = new ++ fs0)
    (h : ∀ (cdv : Value) (A : Around) (outer : List Env) (s : Shared) (H : Hp) (E : XK), Room k (A.deeper (PyProof.Rows.envOfC qual scope s.heap.objs.size f cdv)) → ∃ (c : Expr) (q : Pos) (b : List Stmt), body = .Expr c q :: b ∧
      let X := cxOf (L2.CX P w) P w K mg base N qual scope f cdv A outer s H E
      (∃ ta E', PE X c (tCallS (iSp K newId tl nB mkB) E' ta) ∧ ∀ σ H (Q : List V → Hp → Prop) ys, (gCons (gV 0) gs) σ = some ys → Q ys H → ta σ H Q) ∧ swapsWith c none q.line X.env = pure false ∧ AO X newId tl b l) :
    FnOk P w K mg base (L2.CX P w) (k + 1) f fd ps (iSp K newId tl n mk) := by
  refine F.ok Sc (fun vs H Q E ⟨a, C, ws, fs, e1, e2, _⟩ => by rw [e1, List.length_cons, e2, hn]) fun cdv A outer s H vs Q E hr q => ?_
  obtain ⟨c, q', b, hbd, ⟨ta, E', c1, c2⟩, hsw, hb⟩ := h cdv A outer s H E hr
  obtain ⟨a, C, ws, fs, rfl, _, T, hno, hlen, ea, hm, k1⟩ := q
  obtain ⟨t, t1, t2⟩ := hb.ex
  obtain ⟨us, new, fs0, m1, m2, m3, m4, rfl⟩ := hmk a ws fs hm
  subst hbd
  refine ⟨_, pss_cons (ps_expr c1 hsw) t1, ?_⟩
  have hl2 : new.length + fs0.length ≤ 100 := by simpa using hlen
  refine c2 _ H _ (.ref a :: us) (by unfold gCons gV; rw [start0, m1]; rfl) ⟨a, C, us, fs0, rfl, m2, T, fun p hp => hno p (by simp [hp]), by omega, ea, m3, fun dx hd ne => ?_⟩
  refine t2 _ _ _ a C dx fs0 new start0 T upd_same (by rw [upd_ne ne, upd_same]) (Ne.symm ne) (by omega) m4 (fun p hp => hno p (by simp [hp])) ?_
  have eu : upd (upd (upd H dx (exd dx fs0)) a (exo a C (some dx))) dx (exd dx (new ++ fs0)) = upd (upd H dx (exd dx (new ++ fs0))) a (exo a C (some dx)) := funext fun b => by
    by_cases h1 : b = dx
    · rw [h1, upd_same, upd_ne ne, upd_same]
    · rw [upd_ne h1]
      by_cases h2 : b = a
      · rw [h2, upd_same, upd_same]
      · rw [upd_ne h2, upd_ne h1, upd_ne h2, upd_ne h1]
  rw [eu]
  exact k1 dx hd ne
end
end Ls
namespace Ls
open PySem PySem.Spec PyProof.Rows L2
variable [Tb] [Vw]
def tNewX (C : Addr) (mk : List V → Option (List (Str × V))) (ta : TA) : L2.St → Hp → XK → Prop := fun σ H Q => ta σ H fun vs H1 => vs.length ≤ 1000 ∧ ∃ fs, mk vs = some fs ∧ ∀ d, H1 d = none → Q (.ref C) (some d) (upd H1 d (.xd fs))
structure RX (X : Cx) (CX : CXT) (C : Addr) (mk : List V → Option (List (Str × V))) : Prop where
  ex : ∃ B newId initId tl fI k fd ps n, BaseX B newId initId tl ∧ OX X.K C newId tl ∧ PySem.W.findIn X.K (.ref C) "__init__" = some (some (.ref fI)) ∧ PySem.W.typeIn X.K (.ref fI) = some (.type "function") ∧
    FnOk X.prog X.w X.K X.mg X.base CX k fI fd ps (iSp X.K newId tl n mk) ∧ Room (k + 1) X.A ∧ Binds X.K fd ps [] ∧ (∀ ws fs, mk ws = some fs → ws.length = n ∧ fs.length ≤ 100 ∧ ∀ p ∈ fs, PySem.W.findIn X.K (.ref C) p.1 = some none)
section
variable {X : Cx} {CX : CXT} {C : Addr} {mk : List V → Option (List (Str × V))} {x : Str} {e : Expr} {es : List Expr} {ta : TA} {p pos : Pos}
theorem mkCore {pins : List (Addr × Obj)} {s : Shared} {σ : L2.St} {H : Hp} {Q : XK} {vs : List V} {us : List Value} {fs : List (Str × V)} (T : RX X CX C mk) (hx : Passes CX X (fun _ _ _ => False)) (I : Inv X pins σ H s) (r1 : Vals vs us) (hz : vs.length ≤ 1000) (hm : mk vs = some fs)
    (q : ∀ d, H d = none → Q (.ref C) (some d) (upd H d (.xd fs))) : wpAny (model X.prog X.w) X.A (call (.ref C) us) (MkP X pins σ Q) X.xe s := by
  obtain ⟨B, newId, initId, tl, fI, k, fd, ps, n, FB, TC, iC, tI, F1, hr, hb, hfs⟩ := T.ex
  obtain ⟨c1, c2, c3, c4, bm, c5, c6, c7, c8, c9, j0, j1, j2, j3, j5, hC, hbm⟩ := TC.cls
  obtain ⟨hp, g, dr, tk, os⟩ := s
  have hsz : hp.objs.size ≤ hp.objs.size + 1 := Nat.le_succ _
  have hn : H (hp.objs.size + 1) = none := I.hok.fresh hsz
  obtain ⟨f1, f2, f3⟩ := hfs vs fs hm
  have hq : iSp X.K newId tl n mk (.ref (hp.objs.size + 1) :: vs) (upd H (hp.objs.size + 1) (exo (hp.objs.size + 1) C none)) (fun v H2 => v = .non ∧ ∃ (d : Addr) (fs : List (Str × V)), H2 (hp.objs.size + 1) = some (exo (hp.objs.size + 1) C (some d)) ∧ H2 d = some (exd d fs) ∧ H d = none ∧ Q (.ref C) (some d) (upd (del H2 (hp.objs.size + 1)) d (.xd fs))) (fun _ _ _ => False) := by
    refine ⟨_, C, vs, fs, rfl, f1, TC, f3, f2, upd_same, hm, fun dx hd ne => ⟨rfl, dx, fs, upd_same, by rw [upd_ne ne, upd_same], by rw [upd_ne ne] at hd; exact hd, ?_⟩⟩
    rw [upd_ne ne] at hd
    have eu : upd (del (upd (upd (upd H (hp.objs.size + 1) (exo (hp.objs.size + 1) C none)) dx (exd dx fs)) (hp.objs.size + 1) (exo (hp.objs.size + 1) C (some dx))) (hp.objs.size + 1)) dx (.xd fs) = upd H dx (.xd fs) := funext fun b => by
      by_cases h1 : b = dx
      · rw [h1, upd_same, upd_same]
      · rw [upd_ne h1, upd_ne h1]
        by_cases h2 : b = hp.objs.size + 1
        · rw [h2, del_same, hn]
        · rw [del_ne h2, upd_ne h2, upd_ne h1, upd_ne h2]
    rw [eu]; exact q dx hd
  have kk : ∀ b o, hp.get? b = some o → ((hp.push (PySem.W.kdv_tup us)).push (PySem.HandSPX.excO C hp.objs.size)).get? b = some o := fun _ _ z => Heap.get?_push_of_some _ (Heap.get?_push_of_some _ z)
  have hget : ((hp.push (PySem.W.kdv_tup us)).push (PySem.HandSPX.excO C hp.objs.size)).get? (hp.objs.size + 1) = some (PySem.HandSPX.excO C hp.objs.size) := by first | heap_get | skip
  have I2 : Inv X pins σ (upd H (hp.objs.size + 1) (exo (hp.objs.size + 1) C none)) ⟨(hp.push (PySem.W.kdv_tup us)).push (PySem.HandSPX.excO C hp.objs.size), g, dr, tk, os⟩ := I.laid (o := exo (hp.objs.size + 1) C none) (a := hp.objs.size + 1) (t' := tk) (h' := (hp.push (PySem.W.kdv_tup us)).push (PySem.HandSPX.excO C hp.objs.size)) kk hsz (exo_ok hget)
  have r2 : Vals (V.ref (hp.objs.size + 1) :: vs) (Value.ref (hp.objs.size + 1) :: us) := .cons rfl r1
  have hl : (Value.ref (hp.objs.size + 1) :: us ++ []).length = ps.length := by rw [List.append_nil, ← r2.length, F1.len _ _ _ _ hq]
  have hb2 := hb _ (Value.ref (hp.objs.size + 1) :: us) I2.kIn hl
  rw [List.append_nil] at hb2
  have hus : us.length ≤ sizeLine := by rw [← Paired.length r1, sizeLine_eq]; omega
  refine wpAny_call (PySem.HandSPX.call_own FB.ef (fun Y => by rw [cut_has Y bm, hbm]) (I.kIn _ _ hC) (PySem.W.looks_findIn I.kIn iC) (fun self => PySem.W.bind_fn I.kIn self tI) hus
    (codeAny_mono (F1.run _ X.stack _ _ ⟨Value.ref (hp.objs.size + 1) :: us, []⟩ (Value.ref (hp.objs.size + 1) :: us) _ _ (fun _ _ _ => False) (hr.make C us []) (I2.env0.make C us []) hb2 r2 hq) fun rr s' hq' => ?_))
  cases rr with
  | error er => exact hx pins σ _ _ er s' I2 hq'
  | ok fl =>
    cases fl with
    | ret u =>
      obtain ⟨v, H2, os2, bare2, un2, hok2, rv, ev, d, fs2, ea, ed, hd1, q2⟩ := hq'
      subst ev
      obtain ⟨h2, g2, d2, t2, os'⟩ := s'
      exact ⟨rv, mk_end (raises_own TC.exC TC.tyC) I hsz kk un2 hok2 os2 bare2 ea ed hd1 q2⟩
    | next => exact hq'.elim
    | brk => exact hq'.elim
    | cont => exact hq'.elim
theorem kC_of (T : RX X CX C mk) : PySem.W.keepIn X.K (.ref C) = true := by
  obtain ⟨B, newId, initId, tl, fI, k, fd, ps, n, FB, TC, _⟩ := T.ex
  exact TC.kC
theorem pmk_x (T : RX X CX C mk) (hx : Passes CX X (fun _ _ _ => False)) (hg : Gl X x) (hm : X.mg x = some (.ref C)) (ha : PA X (e :: es) ta) (hdb : (x == ("__debug__" : Str)) = false := by decide)
    (he : starEach (e :: es) X.env = (false, eval e X.env) :: starEach es X.env := by rfl) (hpl : (backTo pos (starEach es X.env)).any (·.1) = false := by rfl) : PMk X (.Call (.Name x p) (e :: es) [] pos) (tNewX C mk ta) := by
  intro pins s σ H Q I h
  exact wpAny_Call_Name_kw (ld_glob I hg hm (PySem.W.callWith_K (h₀ := X.base) I.ok.mod.kin (kC_of T) (thn (ha.run pos pins s σ H _ I h) fun us s1 ⟨vs, H1, I1, r1, hz, fs, hmk, q⟩ => ⟨I1.kIn, mkCore T hx I1 r1 hz hmk q⟩) he hpl) hdb)
theorem pmk_x0 (T : RX X CX C mk) (hx : Passes CX X (fun _ _ _ => False)) (hg : Gl X x) (hm : X.mg x = some (.ref C)) (hdb : (x == ("__debug__" : Str)) = false := by decide) : PMk X (.Call (.Name x p) [] [] pos) (tNewX C mk tNil) := by
  intro pins s σ H Q I h
  obtain ⟨hz, fs, hmk, q⟩ := h
  exact wpAny_Call_Name_kw (ld_glob I hg hm (PySem.W.callWith_K0 I.kIn (kC_of T) (mkCore T hx I .nil hz hmk q)) hdb)
end
def sRaise (c : Str) (mk : List PyData → Option (List (Str × PyData))) (fa : FA) : FS := fun ρ => (fa ρ).toS fun os ρ1 => match (frzs os).bind mk with
  | some fs => .exc ⟨c, fs⟩ ρ1
  | none => .bad
def MkR (K : PySem.W.Frag) (mk : List V → Option (List (Str × V))) (mkD : List PyData → Option (List (Str × PyData))) : Prop := ∀ S vs ds fs, DpAll K S vs ds → mkD ds = some fs → ∃ fv, mk vs = some fv ∧ ∀ f t, fs.lookup f = some t → ∃ v, fv.lookup f = some v ∧ Dp K S v t
section
variable {K : PySem.W.Frag} {W : WX} {P : List Nat}
theorem sndS_raise {ls : List (Option Nat)} {c : Str} {mk : List V → Option (List (Str × V))} {mkD : List PyData → Option (List (Str × PyData))} {ta : TA} {fa : FA} (h : Snd K W (RArgs K ls) ta fa) (hl : ls.length ≤ 1000) (hmk : MkR K mk mkD) :
    SndS K W P (fun _ σ H => tNewX (He.ga K c) mk ta σ H fun cls d H' => W cls d σ H') (sRaise c mkD fa) := by
  refine sndS_bind (u := fun vs _ σ H => vs.length ≤ 1000 ∧ ∃ fs, mk vs = some fs ∧ ∀ d, H d = none → W (.ref (He.ga K c)) (some d) σ (upd H d (.xd fs))) h fun vs os σ ρ S H A B w e r => ?_
  show SOk K W P σ S H (A + B) _ (match (frzs os).bind mkD with
    | some fs => .exc ⟨c, fs⟩ ρ
    | none => .bad)
  cases hf : (frzs os).bind mkD with
  | none => exact True.intro
  | some fs =>
    obtain ⟨ds, f1, f2⟩ := Option.bind_eq_some_iff.mp hf
    intro D k
    obtain ⟨w2, t2, sub⟩ := settle_wf w
    have hd := ors_settle (fun b hb => w.dj b (by rw [add_at]; omega)) (fun b => Nat.le_refl _) r.1 f1
    obtain ⟨fv, g1, g2⟩ := hmk _ vs ds fs hd f2
    refine ⟨by rw [r.2.2]; exact hl, fv, g1, fun d hn => ?_⟩
    obtain ⟨w3, t3, k3, s3⟩ := newF (u := .xd fv) w2 hn
    exact k (.ref (He.ga K c)) (some d) σ _ _ A w3 (er_keep s3 (er_keep sub e fun _ _ => rfl) k3) ⟨rfl, d, fv, rfl, upd_same, fun f t q => let ⟨v, q1, q2⟩ := g2 f t q; ⟨v, q1, dp_mono s3 q2⟩⟩ (t2.trans t3) Kp.refl
end
section
variable {X : Cx} {W : WX} {P : List Nat} {mk : List V → Option (List (Str × V))} {mkD : List PyData → Option (List (Str × PyData))} {x : Str} {e : Expr} {es : List Expr} {ls : List (Option Nat)} {fa : FA} {p pos pos' : Pos}
theorem sv_raise (hc : X.calm = true) (tk : Takes X W) (T : RX X (L2.CX X.prog X.w) (He.ga X.K x) mk) (hx : Passes (L2.CX X.prog X.w) X (fun _ _ _ => False)) (hg : Gl X x) (hm : X.mg x = some (.ref (He.ga X.K x))) (hmk : MkR X.K mk mkD) (ha : AV X W (e :: es) ls fa) (hl : ls.length ≤ 1000 := by decide) (hdb : (x == ("__debug__" : Str)) = false := by decide)
    (he : starEach (e :: es) X.env = (false, eval e X.env) :: starEach es X.env := by rfl) (hpl : (backTo pos (starEach es X.env)).any (·.1) = false := by rfl) : SV X W P (.Raise (some (.Call (.Name x p) (e :: es) [] pos)) none pos') (sRaise x mkD fa) :=
  let ⟨_, a1, a2⟩ := ha.ex; ⟨_, ps_raise hc tk (pmk_x T hx hg hm a1 hdb he hpl), sndS_raise a2 hl hmk⟩
theorem sv_raise0 (hc : X.calm = true) (tk : Takes X W) (T : RX X (L2.CX X.prog X.w) (He.ga X.K x) mk) (hx : Passes (L2.CX X.prog X.w) X (fun _ _ _ => False)) (hg : Gl X x) (hm : X.mg x = some (.ref (He.ga X.K x))) (hmk : MkR X.K mk mkD) (hdb : (x == ("__debug__" : Str)) = false := by decide) : SV X W P (.Raise (some (.Call (.Name x p) [] [] pos)) none pos') (sRaise x mkD aNil) :=
  ⟨_, ps_raise hc tk (pmk_x0 T hx hg hm hdb), sndS_raise (ls := []) snd_anil (by decide) hmk⟩
end
end Ls
namespace Ls
open PySem PySem.Spec PyProof.Rows L2
variable [Tb] [Vw]
abbrev Cl := (Value → Option Bool) × Option Nat × (Addr → Value → Option Addr → TS)
section
variable {M : Model} {K : PySem.W.Frag} {h : Heap}
end
section
variable {X : Cx} {body : List Stmt} {h₀ : ExceptHandler} {hds : List ExceptHandler} {l : List Cl} {pos : Pos} {tb : WX → TS} {W : WX}
end
end Ls
namespace Ls
open PySem L2
variable [Tb] [Vw]
section
variable {K : PySem.W.Frag} {W : WX} {P : List Nat} {S H : Hp} {A B C : Fp} {σ : St} {ρ : En}
abbrev Su := Addr → Value → Option Addr → FS
structure Hd where
  m : Str → Option Bool
  i : Option Nat
  su : Su
end
end Ls
namespace Ls
open PySem PySem.Spec PyProof.Rows L2
variable [Tb] [Vw]
section
variable {K : PySem.W.Frag} {W : WX}
end
section
variable {X : Cx} {W : WX} {P : List Nat}
end
end Ls
namespace Ls
open PySem PySem.Spec PyProof.Rows L2
variable [Tb] [Vw]
theorem oxC_ok {K : PySem.W.Frag} {C : Addr} {newId : String} {tl : List Value} (h : oxC K C newId tl = true) : ∃ nm q N bs bm sn sub ab col dd k0 k1 k2 k3 k5, K.lookup C = some (excClassObj nm q C N bs bm true sn sub ab col dd k0 k1 k2 k3 k5 newId) ∧ cutR bm = tl := by
  unfold oxC at h
  split at h
  · rename_i ty dd cd sl ho
    split at h
    · rename_i C2 bm k0 k1 k2 k3 n k5 hm hs
      simp only [Bool.and_eq_true, decide_eq_true_eq, Bool.not_eq_true', beq_iff_eq] at h
      obtain ⟨rfl, rfl, rfl, hdel, hdict, hc⟩ := h
      obtain ⟨nm, bs, mro, ns, qn, hd, sn, sub, ab, col, del⟩ := cd
      dsimp only at hm hdel hdict
      subst hm hdel hdict
      have hsl : sl = #[k0, k1, k2, k3, some (.builtin n), k5] := by
        obtain ⟨l⟩ := sl
        simp only at hs
        rw [hs]
      subst hsl
      exact ⟨nm, qn, ns, bs, bm, sn, sub, ab, col, dd, k0, k1, k2, k3, k5, ho, hc⟩
    · cases h
  · cases h
theorem oxB_ok {K : PySem.W.Frag} {x : Str} {newId : String} {tl : List Value} (h : oxB K x newId tl = true) : OX K (He.ga K x) newId tl := by
  unfold oxB at h
  simp only [Bool.and_eq_true, decide_eq_true_eq] at h
  exact ⟨oxC_ok h.1, h.2.1, h.2.2.1, h.2.2.2.1, h.2.2.2.2⟩
theorem oiB_ok {K : PySem.W.Frag} {x : Str} (h : oiB K x = true) : OI K (He.ga K x) (initA K x) := by
  unfold oiB at h
  simp only [Bool.and_eq_true, decide_eq_true_eq] at h
  obtain ⟨h1, h2, h3, h4, h5⟩ := h
  refine ⟨h1, h2, ?_, h4, h5⟩
  split at h3
  · rename_i v e
    rw [e, beq_iff_eq.mp h3]
  · cases h3
theorem inB_ok {K : PySem.W.Frag} {x : Str} {fs : List Str} (h : inB K x fs = true) : PySem.W.findIn K (.ref (He.ga K x)) "__init__" = some (some (.ref (initA K x))) ∧ PySem.W.typeIn K (.ref (initA K x)) = some (.type "function") ∧ ∀ f ∈ fs, PySem.W.findIn K (.ref (He.ga K x)) f = some none := by
  unfold inB at h
  simp only [Bool.and_eq_true, decide_eq_true_eq] at h
  exact ⟨h.1, h.2.1, fun f hf => of_decide_eq_true (List.all_eq_true.mp h.2.2 f hf)⟩
theorem baseV : BaseX "ValueError" "ValueError.__new__" "ValueError.__init__" tlV := ⟨PySem.F.excBase_ValueError, fun self => PySem.F.store_ValueError.passes self, by decide +kernel, by kernel_rfl, by decide +kernel, by decide +kernel, PyProof.Rows.Boot.«ValueError»⟩
theorem baseI : BaseX "IndexError" "IndexError.__new__" "IndexError.__init__" tlI := ⟨PySem.F.excBase_IndexError, fun self => PySem.F.store_IndexError.passes self, by decide +kernel, by kernel_rfl, by decide +kernel, by decide +kernel, PyProof.Rows.Boot.«IndexError»⟩
theorem vvV (K : PySem.W.Frag) : PySem.W.findCls K (.type "ValueError") (.type "type") "__init__" = some (.val (.builtin "ValueError.__init__")) := (show PySem.W.findCls [] (.type "ValueError") (.type "type") "__init__" = some (.val (.builtin "ValueError.__init__")) by kernel_rfl)
theorem vvI (K : PySem.W.Frag) : PySem.W.findCls K (.type "IndexError") (.type "type") "__init__" = some (.val (.builtin "IndexError.__init__")) := (show PySem.W.findCls [] (.type "IndexError") (.type "type") "__init__" = some (.val (.builtin "IndexError.__init__")) by kernel_rfl)
theorem passes0 {X : Cx} {W : WX} (tk : Takes X W) : Passes (L2.CX X.prog X.w) X (fun _ _ _ => False) := fun _ _ _ _ e s' I c => tk e s' (XE.of_call I (fun _ _ _ h => h.elim) c)
inductive FR (K : PySem.W.Frag) (S : Hp) : List (Str × PyData) → List (Str × V) → Prop
  | nil : FR K S [] []
  | cons {f : Str} {t : PyData} {v : V} {fs : List (Str × PyData)} {fv : List (Str × V)} : Dp K S v t → FR K S fs fv → FR K S ((f, t) :: fs) ((f, v) :: fv)
theorem fr_look {K : PySem.W.Frag} {S : Hp} {fs : List (Str × PyData)} {fv : List (Str × V)} (h : FR K S fs fv) : ∀ f t, fs.lookup f = some t → ∃ v, fv.lookup f = some v ∧ Dp K S v t := by
  induction h with
  | nil => intro f t h; cases h
  | @cons g u v fs fv q _ ih =>
    intro f t h
    by_cases e : f = g
    · subst e
      simp only [List.lookup, beq_self_eq_true] at h ⊢
      cases h
      exact ⟨v, rfl, q⟩
    · have e' : (f == g) = false := by simpa using e
      simp only [List.lookup, e'] at h ⊢
      exact ih f t h
section
variable {X : Cx} {e : Expr} {es : List Expr} {gs : VL} {p1 p2 pos : Pos} {B newId initId : String} {tl : List Value}
theorem bI {pl : Sem Bool} {x : Str} (F : BaseX B newId initId tl) (hx : x = (B : Str)) (vV : PySem.W.findCls X.K (.type B) (.type "type") "__init__" = some (.val (.builtin initId))) (hm : X.mg x = none) (hb : bootBuiltins x = some (.type B)) (ha : VA X (e :: es) (gCons (gV 0) gs)) (hg : Gl X x := by rfl)
    (hc : eval (.Call (.Attribute (.Name x p1) "__init__" p2) (e :: es) [] pos) X.env = (do
      let ov ← eval (.Name x p1) X.env
      standAt p2.atName
      let (f, first) ← holding [ov] (getMethod ov "__init__" pl)
      callWith pos f first (backTo pos (starEach (e :: es) X.env)) (backToKw pos (keywordEach [] X.env))) := by rfl)
    (hn : x ≠ "__name__" := by decide) (hdb : (x == ("__debug__" : Str)) = false := by decide) (he : starEach (e :: es) X.env = (false, eval e X.env) :: starEach es X.env := by rfl) (hpl : (backTo pos (starEach es X.env)).any (·.1) = false := by rfl) :
    ∃ ta, PE X (.Call (.Attribute (.Name x p1) "__init__" p2) (e :: es) [] pos) (tBI X.K newId tl ta) ∧ ∀ σ H (Q : List V → Hp → Prop) ys, (gCons (gV 0) gs) σ = some ys → Q ys H → ta σ H Q :=
  let ⟨_, v1, v2⟩ := ha.ex; ⟨_, pe_binit F hx hg hm hb vV v1 hc hn hdb he hpl, v2⟩
theorem oI {W : WX} {pl : Sem Bool} {x : Str} {C fI : Addr} {k nB : Nat} {fd : FuncData} {ps : List Str} {mkB : List V → Option (List (Str × V))} (T : OI X.K C fI) (G : FnOk X.prog X.w X.K X.mg X.base (L2.CX X.prog X.w) k fI fd ps (iSp X.K newId tl nB mkB)) (hr : Room k X.A) (tk : Takes X W) (hm : X.mg x = some (.ref C)) (hb : Binds X.K fd ps []) (ha : VA X (e :: es) (gCons (gV 0) gs)) (hg : Gl X x := by rfl)
    (hc : eval (.Call (.Attribute (.Name x p1) "__init__" p2) (e :: es) [] pos) X.env = (do
      let ov ← eval (.Name x p1) X.env
      standAt p2.atName
      let (f, first) ← holding [ov] (getMethod ov "__init__" pl)
      callWith pos f first (backTo pos (starEach (e :: es) X.env)) (backToKw pos (keywordEach [] X.env))) := by rfl)
    (hdb : (x == ("__debug__" : Str)) = false := by decide) (he : starEach (e :: es) X.env = (false, eval e X.env) :: starEach es X.env := by rfl) (hpl : (backTo pos (starEach es X.env)).any (·.1) = false := by rfl) :
    ∃ ta E', PE X (.Call (.Attribute (.Name x p1) "__init__" p2) (e :: es) [] pos) (tCallS (iSp X.K newId tl nB mkB) E' ta) ∧ ∀ σ H (Q : List V → Hp → Prop) ys, (gCons (gV 0) gs) σ = some ys → Q ys H → ta σ H Q :=
  let ⟨_, v1, v2⟩ := ha.ex; ⟨_, WE W, pe_oinit T G hr hg hm hb (fun σ => passAt tk σ) v1 hc hdb he hpl, v2⟩
end
end Ls
namespace Ls
open PySem PySem.Spec PyProof.Rows L2
variable [Tb] [Vw]
structure KV (X : Cx) (W : WX) (kws : List Keyword) (ls : List (Option Nat)) (f : FA) : Prop where
  ex : ∃ t, PK X kws t ∧ Snd X.K W (RArgs X.K ls) t f
def RA2 (K : PySem.W.Frag) (ls ms : List (Option Nat)) : RR (List V × List V) (List O) := fun σ S H p os B => p.1.length = ls.length ∧ p.2.length = ms.length ∧ ORs K S H (p.1 ++ p.2) os B ∧ ArgAt σ (ls ++ ms) (p.1 ++ p.2)
def aApp (f g : FA) : FA := fun ρ => (f ρ).bind fun os ρ1 => (g ρ1).bind fun us ρ2 => .ok (os ++ us) ρ2
section
variable {K : PySem.W.Frag} {W : WX} {S H : Hp}
theorem ors_app : ∀ {vs ws : List V} {os us : List O} {A B : Fp}, ORs K S H vs os A → ORs K S H ws us B → ORs K S H (vs ++ ws) (os ++ us) (A + B)
  | _, _, _, _, A, B, .nil z, r => ors_fp r fun b => by rw [add_at, z b]; omega
  | _, _, _, _, A, B, .cons q r z, r2 => .cons q (ors_app r r2) fun b => by rw [add_at, add_at, z b]; omega
theorem arg_app {σ : L2.St} : ∀ {ls ms : List (Option Nat)} {vs ws : List V}, vs.length = ls.length → ArgAt σ ls vs → ArgAt σ ms ws → ArgAt σ (ls ++ ms) (vs ++ ws)
  | [], _, [], _, _, _, h => h
  | none :: ls, ms, v :: vs, ws, hl, h, h2 => by
    have h : ArgAt σ ls vs := h
    show ArgAt σ (ls ++ ms) (vs ++ ws)
    exact arg_app (ls := ls) (ms := ms) (vs := vs) (ws := ws) (by simpa using hl) h h2
  | some i :: ls, _, v :: vs, _, hl, h, h2 => ⟨h.1, arg_app (by simpa using hl) h.2 h2⟩
theorem snd_app {ls ms : List (Option Nat)} {t tk : TA} {f g : FA} (h1 : Snd K W (RArgs K ls) t f) (h2 : Snd K W (RArgs K ms) tk g) : Snd K W (RA2 K ls ms) (fun σ H Q => t σ H fun vs H1 => tk σ H1 fun zs H2 => Q (vs, zs) H2) (aApp f g) := by
  refine snd_bind (u := fun vs σ H Q => tk σ H fun zs H2 => Q (vs, zs) H2) h1 fun vs os σ ρ S H A B w e ra => ?_
  have h3 := snd_beside h2 w e
  show OutOk K W (RA2 K ls ms) _ σ S H (A + B) ((g ρ).bind _)
  cases hf : g ρ with
  | bad => exact True.intro
  | exc x' ρ' => rw [hf] at h3; exact fun Q k => h3 _ k
  | ok us ρ2 =>
    rw [hf] at h3
    intro Q k
    refine h3 _ fun zs S' H' A' C w' e' rb t' sub kp => ?_
    have eA : A' + C + B = A' + (B + C) := funext fun b => by simp only [add_at]; omega
    rw [eA] at w' t'
    exact k (vs, zs) S' H' A' (B + C) w' e' ⟨ra.2.2, rb.2.2, ors_app (ors_keep sub kp ra.1) rb.1, arg_app ra.2.2 ra.2.1 rb.2.1⟩ t'
end
section
variable {X : Cx} {W : WX} {e : Expr} {es : List Expr} {kws : List Keyword} {ls ms : List (Option Nat)} {f : FE} {r g : FA} {nm : Option Str} {kpos pos : Pos}
theorem kv_nil : KV X W [] [] aNil := ⟨_, pk_nil, snd_anil⟩
theorem kv_cons (h : EV X W e f) (hr : KV X W kws ls r) : KV X W (⟨nm, e, kpos⟩ :: kws) (none :: ls) (aCons f r) :=
  let ⟨_, h1, h2⟩ := h.ex; let ⟨_, r1, r2⟩ := hr.ex; ⟨_, pk_cons h1 r1, snd_acons (l := none) (ROr X.K) (fun _ _ _ _ _ _ q => ⟨q, fun _ z => nomatch z⟩) stays_or h2 r2⟩
theorem kv_lend (i : Nat) {x : Str} (hr : KV X W kws ls r) (hN : X.N[i]? = some x := by rfl) (hv : Vis X.env.scope x := by first | exact Or.inl rfl | exact Or.inr (Or.inl rfl) | exact Or.inr (Or.inr rfl)) (hd : (x == ("__debug__" : Str)) = false := by decide)
    (hcd : (x == ("__classdict__" : Str)) = false := by decide) : KV X W (⟨nm, .Name x pos, kpos⟩ :: kws) (some i :: ls) (aCons (eLend i) r) :=
  let ⟨_, r1, r2⟩ := hr.ex
  ⟨_, pk_cons (pe_var hN hv hd hcd) r1, snd_acons (l := some i) (RLend X.K i) (fun _ _ _ _ _ _ q => ⟨q.1, fun j z => by cases z; exact q.2⟩) (fun σ S H S' H' v a B h k r => ⟨or_keep h k r.1, r.2⟩) snd_lend r2⟩
end
end Ls
namespace Ls
open PySem PySem.Spec PyProof.Rows L2
variable [Tb] [Vw]
end Ls
namespace Ls
open PySem L2
section
variable {ρ ρ1 ρ2 : En} {o o1 o2 : O} {p q : Pk} {d d1 d2 c : PyData} {f g h : FE} {fa fb fc : FP} {t u : FT} {a b : Bool} {i j : Nat} {os : List O} {x : Xn} {α : Type}
def sel (b : Bool) (f g : En → α) (ρ : En) : α := if b then f ρ else g ρ
theorem x_selT {f g : En → α} : sel true f g ρ = f ρ := rfl
theorem x_selF {f g : En → α} : sel false f g ρ = g ρ := rfl
theorem x_selDF {f g : En → α} {P : Prop} [Decidable P] (h : ¬ P) : sel (decide P) f g ρ = g ρ := by unfold sel; rw [decide_eq_false h]; rfl
def rYes : FT := fun ρ => .ok true ρ
def rNo : FT := fun ρ => .ok false ρ
def rNoE : FE := fun ρ => .ok (.fz (.bool false)) ρ
theorem x_rYes : rYes ρ = .ok true ρ := rfl
theorem x_rNo : rNo ρ = .ok false ρ := rfl
theorem x_yes : tYesF ρ = .ok true ρ := rfl
theorem x2 : pkO ρ (.v i) = (ρ[i]?).bind id := rfl
theorem x3 : pkO ρ (.o o) = some o := rfl
theorem x4 : pkD ρ p = (pkO ρ p).bind rdz := rfl
theorem x_obind {α β : Type} {x : α} {f : α → Option β} : (some x).bind f = f x := rfl
theorem x_omap {α β : Type} {x : α} {f : α → β} : (some x).map f = some (f x) := rfl
theorem x_id {α : Type} {x : α} : id x = x := rfl
theorem x5 : frz (.fz d) = some d := rfl
theorem x6 : frz (.lst os) = (frzs os).map .list := rfl
theorem x9 : rdz (.fz d) = some d := rfl
theorem x13 : rdz (.vu o) = frz o := rfl
theorem x_frzs0 : frzs [] = some [] := by simp [frzs]
theorem x_frzs1 : frzs (.fz d :: os) = (frzs os).map fun ds => d :: ds := by simp [frzs, frz]
theorem x_frzs2 {ds : List PyData} : frzs (ds.map O.fz) = some ds := frzs_map ds
theorem x_get0 {y : Option O} {l : En} : (y :: l)[0]? = some y := rfl
theorem x_getS {y : Option O} {l : En} {n : Nat} : (y :: l)[n + 1]? = l[n]? := rfl
theorem x_set0 {y z : Option O} {l : En} : List.set (y :: l) 0 z = z :: l := rfl
theorem x_setS {y z : Option O} {l : En} {n : Nat} : List.set (y :: l) (n + 1) z = y :: List.set l n z := rfl
theorem x_app0 {l : List O} : ([] ++ l) = l := rfl
theorem x_appS {y : O} {k l : List O} : ((y :: k) ++ l) = y :: (k ++ l) := rfl
theorem x_appN {l : List O} : (l ++ []) = l := List.append_nil l
theorem x_lapp0 {l : List (Option Nat)} : ([] ++ l) = l := rfl
theorem x_lappS {y : Option Nat} {k l : List (Option Nat)} : ((y :: k) ++ l) = y :: (k ++ l) := rfl
theorem x_map0 : List.map O.fz [] = [] := rfl
def putE : En → Nat → O → Option En
  | [], _, _ => none
  | _ :: l, 0, o => some (some o :: l)
  | y :: l, n + 1, o => (putE l n o).map fun l => y :: l
theorem putE_eq : ∀ (ρ : En) (i : Nat) (o : O), putE ρ i o = if i < ρ.length then some (ρ.set i (some o)) else none
  | [], _, _ => rfl
  | _ :: l, 0, o => by simp [putE]
  | y :: l, n + 1, o => by
    unfold putE
    rw [putE_eq l n o]
    by_cases h : n < l.length <;> simp [h]
theorem x_put0 {y : Option O} {l : En} : putE (y :: l) 0 o = some (some o :: l) := rfl
theorem x_putS {y : Option O} {l : En} {n : Nat} : putE (y :: l) (n + 1) o = (putE l n o).map fun l => y :: l := rfl
theorem x14 : eC d ρ = .ok (.fz d) ρ := rfl
def kPV (z : Option (Option O)) (i : Nat) (ρ : En) : Out Pk := match z with
  | some (some _) => .ok (.v i) ρ
  | _ => .bad
theorem x15 : pVar i ρ = kPV ρ[i]? i ρ := rfl
theorem x16 : kPV (some (some o)) i ρ = .ok (.v i) ρ := rfl
def kPE (z : Out O) : Out Pk := match z with
  | .ok o ρ => .ok (.o o) ρ
  | .exc x ρ => .exc x ρ
  | .bad => .bad
theorem x17 : pE f ρ = kPE (f ρ) := by unfold pE kPE; cases f ρ <;> rfl
theorem x18 : kPE (.ok o ρ) = .ok (.o o) ρ := rfl
def kEV (z : Option (Option O)) (i : Nat) (ρ : En) : Out O := match z with
  | some (some (.fz d)) => .ok (.fz d) ρ
  | some (some (.raw v)) => .ok (.raw v) ρ
  | some (some (.vu o)) => .ok (.vu o) ρ
  | some (some o) => (match frz o with
    | some d => .ok (.fz d) (ρ.set i (some (.fz d)))
    | none => .bad)
  | _ => .bad
theorem x20 : eVar i ρ = kEV ρ[i]? i ρ := rfl
theorem x21 : kEV (some (some (.fz d))) i ρ = .ok (.fz d) ρ := rfl
def kEV2 (z : Option PyData) (i : Nat) (ρ : En) : Out O := match z with
  | some d => .ok (.fz d) (ρ.set i (some (.fz d)))
  | none => .bad
theorem x25 : kEV (some (some (.lst os))) i ρ = kEV2 (frz (.lst os)) i ρ := rfl
theorem x26 : kEV2 (some d) i ρ = .ok (.fz d) (ρ.set i (some (.fz d))) := rfl
def kLend (z : Option (Option O)) (i : Nat) (ρ : En) : Out O := match z with
  | some (some (.fz d)) => .ok (.fz d) ρ
  | some (some (.raw v)) => .ok (.raw v) ρ
  | some (some (.vu o)) => .ok (.vu o) ρ
  | some (some (.exn _ _ _ _)) => .bad
  | some (some o) => .ok o (ρ.set i none)
  | _ => .bad
theorem x27 : eLend i ρ = kLend ρ[i]? i ρ := rfl
theorem x28 : kLend (some (some (.fz d))) i ρ = .ok (.fz d) ρ := rfl
theorem x29 : kLend (some (some (.lst os))) i ρ = .ok (.lst os) (ρ.set i none) := rfl
theorem x30 : kLend (some (some (.vu o))) i ρ = .ok (.vu o) ρ := rfl
theorem x31 {cn : Str} {fn : List Str} : kLend (some (some (.ins cn fn os))) i ρ = .ok (.ins cn fn os) (ρ.set i none) := rfl
variable {op op' : PyData → PyData → Option PyData}
def kOp1 (op : PyData → PyData → Option PyData) (fb : FP) (z : Out Pk) : Out O := z.bind fun a ρ1 => (fb ρ1).bind fun b ρ2 => match (pkD ρ2 a).bind fun x => (pkD ρ2 b).bind fun y => op x y with
  | some c => .ok (.fz c) ρ2
  | none => .bad
theorem x33 : eOp op fa fb ρ = kOp1 op fb (fa ρ) := rfl
def kOp2 (op : PyData → PyData → Option PyData) (a : Pk) (z : Out Pk) : Out O := z.bind fun b ρ2 => match (pkD ρ2 a).bind fun x => (pkD ρ2 b).bind fun y => op x y with
  | some c => .ok (.fz c) ρ2
  | none => .bad
theorem x34 : kOp1 op fb (.ok p ρ) = kOp2 op p (fb ρ) := rfl
def kOp3 (op : PyData → PyData → Option PyData) (a b : Option PyData) (ρ : En) : Out O := match a.bind fun x => b.bind fun y => op x y with
  | some c => .ok (.fz c) ρ
  | none => .bad
theorem x36 : kOp2 op p (.ok q ρ) = kOp3 op (pkD ρ p) (pkD ρ q) ρ := rfl
def kD (z : Option PyData) (ρ : En) : Out O := match z with
  | some c => .ok (.fz c) ρ
  | none => .bad
theorem x38 : kOp3 op (some d) (some c) ρ = kD (op d c) ρ := rfl
theorem x39 : kD (some c) ρ = .ok (.fz c) ρ := rfl
def kO (z : Option O) (ρ : En) : Out O := match z with
  | some c => .ok c ρ
  | none => .bad
theorem x40 : kO (some o) ρ = .ok o ρ := rfl
def kTof (z : Out O) : Out Bool := z.bind fun o ρ' => match o with
  | .fz (.bool b) => .ok b ρ'
  | _ => .bad
theorem x41 : tOf f ρ = kTof (f ρ) := rfl
theorem x42 : kTof (.ok (.fz (.bool b)) ρ) = .ok b ρ := rfl
def kNot (z : Out Bool) : Out Bool := z.bind fun b ρ' => .ok (!b) ρ'
theorem x48 : tNotF t ρ = kNot (t ρ) := rfl
theorem x49 : kNot (.ok b ρ) = .ok (!b) ρ := rfl
def kSel {α : Type} (f g : En → Out α) (z : Out Bool) : Out α := z.bind fun b ρ' => sel b f g ρ'
theorem x51 {f g : En → Out α} : kSel f g (.ok b ρ) = sel b f g ρ := rfl
theorem x53 : tAndF t u ρ = kSel u rNo (t ρ) := rfl
theorem x54 : tOrF t u ρ = kSel rYes u (t ρ) := rfl
theorem x55 : eAnd f g ρ = kSel g rNoE (tOf f ρ) := rfl
theorem x57 : eIf t f g ρ = kSel f g (t ρ) := rfl
def kNeg (z : Out Pk) : Out O := z.bind fun p ρ' => match pkD ρ' p with
  | some (.int i) => .ok (.fz (.int (-i))) ρ'
  | _ => .bad
theorem x61 : eNeg fa ρ = kNeg (fa ρ) := rfl
def kNeg2 (z : Option PyData) (ρ : En) : Out O := match z with
  | some (.int i) => .ok (.fz (.int (-i))) ρ
  | _ => .bad
theorem x63 : kNeg (.ok p ρ) = kNeg2 (pkD ρ p) ρ := rfl
theorem x64 {k : Int} : kNeg2 (some (.int k)) ρ = .ok (.fz (.int (-k))) ρ := rfl
def kCh0 (op op' : PyData → PyData → Option PyData) (b : Pk) (fc : FP) (z : Option PyData) (ρ2 : En) : Out O := match z with
  | some (.bool true) => (fc ρ2).bind fun c ρ3 => (match (pkD ρ3 b).bind fun y => (pkD ρ3 c).bind fun z => op' y z with
    | some d => .ok (.fz d) ρ3
    | none => .bad)
  | some (.bool false) => .ok (.fz (.bool false)) ρ2
  | _ => .bad
def kChB (op' : PyData → PyData → Option PyData) (b : Pk) (fc : FP) (ρ : En) : Out O := kOp2 op' b (fc ρ)
theorem x65 : kChB op' p fc ρ = kOp2 op' p (fc ρ) := rfl
theorem x66 : kCh0 op op' p fc (some (.bool b)) ρ = sel b (kChB op' p fc) rNoE ρ := by cases b <;> rfl
def kCh1 (op op' : PyData → PyData → Option PyData) (fb fc : FP) (z : Out Pk) : Out O := z.bind fun a ρ1 => (fb ρ1).bind fun b ρ2 => kCh0 op op' b fc ((pkD ρ2 a).bind fun x => (pkD ρ2 b).bind fun y => op x y) ρ2
theorem x67 : eChain op op' fa fb fc ρ = kCh1 op op' fb fc (fa ρ) := rfl
def kCh2 (op op' : PyData → PyData → Option PyData) (fc : FP) (a : Pk) (z : Out Pk) : Out O := z.bind fun b ρ2 => kCh0 op op' b fc ((pkD ρ2 a).bind fun x => (pkD ρ2 b).bind fun y => op x y) ρ2
theorem x69 : kCh1 op op' fb fc (.ok p ρ) = kCh2 op op' fc p (fb ρ) := rfl
theorem x71 : kCh2 op op' fc p (.ok q ρ) = kCh0 op op' q fc ((pkD ρ p).bind fun x => (pkD ρ q).bind fun y => op x y) ρ := rfl
variable {r s : FA}
theorem x72 : aNil ρ = .ok [] ρ := rfl
def kA1 (r : FA) (z : Out O) : Out (List O) := z.bind fun o ρ1 => (r ρ1).bind fun os ρ2 => .ok (o :: os) ρ2
theorem x73 : aCons f r ρ = kA1 r (f ρ) := rfl
def kA2 (o : O) (z : Out (List O)) : Out (List O) := z.bind fun os ρ2 => .ok (o :: os) ρ2
theorem x75 : kA1 r (.ok o ρ) = kA2 o (r ρ) := rfl
theorem x76 : kA2 o (.ok os ρ) = .ok (o :: os) ρ := rfl
def kApp1 (s : FA) (z : Out (List O)) : Out (List O) := z.bind fun os ρ1 => (s ρ1).bind fun us ρ2 => .ok (os ++ us) ρ2
theorem x78 : aApp r s ρ = kApp1 s (r ρ) := rfl
def kApp2 (os : List O) (z : Out (List O)) : Out (List O) := z.bind fun us ρ2 => .ok (os ++ us) ρ2
theorem x80 : kApp1 s (.ok os ρ) = kApp2 os (s ρ) := rfl
theorem x81 {us : List O} : kApp2 os (.ok us ρ) = .ok (os ++ us) ρ := rfl
variable {ls : List (Option Nat)}
def kBk (z : Option (Option O)) (i : Nat) (o : O) (ρ : En) : En := match z with
  | some none => ρ.set i (some o)
  | _ => ρ
theorem x83 : backs (some i :: ls) (o :: os) ρ = backs ls os (kBk ρ[i]? i o ρ) := rfl
theorem x84 : backs (none :: ls) (o :: os) ρ = backs ls os ρ := rfl
theorem x86 : backs ls [] ρ = ρ := by cases ls <;> simp [backs]
theorem x87 : kBk (some none) i o ρ = ρ.set i (some o) := rfl
theorem x88 : kBk (some (some o1)) i o ρ = ρ := rfl
variable {F : List O → FO} {dd : List PyData}
def kC1 (F : List O → FO) (ls : List (Option Nat)) (dd : List PyData) (z : Out (List O)) : Out O := z.bind fun os ρ1 => match F (os ++ dd.map O.fz) with
  | .ok o as' => .ok o (backs ls as' ρ1)
  | .exc x as' => .exc x (backs ls as' ρ1)
  | .bad => .bad
theorem x89 : eCall F ls dd r ρ = kC1 F ls dd (r ρ) := rfl
def kC2 (ls : List (Option Nat)) (z : FO) (ρ1 : En) : Out O := match z with
  | .ok o as' => .ok o (backs ls as' ρ1)
  | .exc x as' => .exc x (backs ls as' ρ1)
  | .bad => .bad
theorem x91 : kC1 F ls dd (.ok os ρ) = kC2 ls (F (os ++ dd.map O.fz)) ρ := rfl
theorem x92 : kC2 ls (.ok o os) ρ = .ok o (backs ls os ρ) := rfl
def kIx1 (fb : FP) (z : Out Pk) : Out O := z.bind fun a ρ1 => (fb ρ1).bind fun b ρ2 => match pkO ρ2 a, pkD ρ2 b with
  | some o, some (.int i) => (match ixO o i with
    | some d => .ok (.fz d) ρ2
    | none => .bad)
  | _, _ => .bad
theorem x94 : eIx fa fb ρ = kIx1 fb (fa ρ) := rfl
def kIx2 (a : Pk) (z : Out Pk) : Out O := z.bind fun b ρ2 => match pkO ρ2 a, pkD ρ2 b with
  | some o, some (.int i) => (match ixO o i with
    | some d => .ok (.fz d) ρ2
    | none => .bad)
  | _, _ => .bad
theorem x96 : kIx1 fb (.ok p ρ) = kIx2 p (fb ρ) := rfl
def kIx3 (z : Option O) (y : Option PyData) (ρ2 : En) : Out O := match z, y with
  | some o, some (.int i) => (match ixO o i with
    | some d => .ok (.fz d) ρ2
    | none => .bad)
  | _, _ => .bad
theorem x98 : kIx2 p (.ok q ρ) = kIx3 (pkO ρ p) (pkD ρ q) ρ := rfl
theorem x99 {k : Int} : kIx3 (some o) (some (.int k)) ρ = kD (ixO o k) ρ := rfl
def kTup (z : Out (List O)) : Out O := z.bind fun os ρ1 => match frzs os with
  | some ds => .ok (.fz (.tuple ds)) ρ1
  | none => .bad
theorem x100 : eTup r ρ = kTup (r ρ) := rfl
def kTup2 (z : Option (List PyData)) (ρ : En) : Out O := match z with
  | some ds => .ok (.fz (.tuple ds)) ρ
  | none => .bad
theorem x102 : kTup (.ok os ρ) = kTup2 (frzs os) ρ := rfl
theorem x103 {ds : List PyData} : kTup2 (some ds) ρ = .ok (.fz (.tuple ds)) ρ := rfl
def kLst (z : Out (List O)) : Out O := z.bind fun os ρ1 => .ok (.lst os) ρ1
theorem x104 : eLst r ρ = kLst (r ρ) := rfl
theorem x105 : kLst (.ok os ρ) = .ok (.lst os) ρ := rfl
variable {gB : O → Option PyData} {nm : String}
def kB1 (gB : O → Option PyData) (z : Out Pk) : Out O := z.bind fun a ρ1 => match (pkO ρ1 a).bind gB with
  | some c => .ok (.fz c) ρ1
  | none => .bad
theorem x107 : eB1 gB fa ρ = kB1 gB (fa ρ) := rfl
theorem x108 : eIsi nm fa ρ = kB1 (isiO nm) (fa ρ) := rfl
theorem x109 : kB1 gB (.ok p ρ) = kD ((pkO ρ p).bind gB) ρ := rfl
def kLs (z : Out Pk) : Out O := z.bind fun a ρ1 => match (pkO ρ1 a).bind itemsO with
  | some (_, ds) => .ok (.lst (ds.map O.fz)) ρ1
  | none => .bad
theorem x111 : eList fa ρ = kLs (fa ρ) := rfl
def kLs2 (z : Option (Bool × List PyData)) (ρ1 : En) : Out O := match z with
  | some (_, ds) => .ok (.lst (ds.map O.fz)) ρ1
  | none => .bad
theorem x113 : kLs (.ok p ρ) = kLs2 ((pkO ρ p).bind itemsO) ρ := rfl
theorem x114 {ds : List PyData} : kLs2 (some (b, ds)) ρ = .ok (.lst (ds.map O.fz)) ρ := rfl
def kTp (z : Out Pk) : Out O := z.bind fun a ρ1 => match (pkO ρ1 a).bind itemsO with
  | some (_, ds) => .ok (.fz (.tuple ds)) ρ1
  | none => .bad
theorem x115 : eTuple fa ρ = kTp (fa ρ) := rfl
def kTp2 (z : Option (Bool × List PyData)) (ρ1 : En) : Out O := match z with
  | some (_, ds) => .ok (.fz (.tuple ds)) ρ1
  | none => .bad
theorem x117 : kTp (.ok p ρ) = kTp2 ((pkO ρ p).bind itemsO) ρ := rfl
theorem x118 {ds : List PyData} : kTp2 (some (b, ds)) ρ = .ok (.fz (.tuple ds)) ρ := rfl
def kCat1 (fb : FP) (z : Out Pk) : Out O := z.bind fun a ρ1 => (fb ρ1).bind fun b ρ2 => match (pkO ρ2 a).bind lstI, (pkO ρ2 b).bind lstI with
  | some ds, some es => if ds.length + es.length ≤ sizeLine then .ok (.lst ((ds ++ es).map O.fz)) ρ2 else .bad
  | _, _ => .bad
theorem x123 : eCat fa fb ρ = kCat1 fb (fa ρ) := rfl
def kCat2 (a : Pk) (z : Out Pk) : Out O := z.bind fun b ρ2 => match (pkO ρ2 a).bind lstI, (pkO ρ2 b).bind lstI with
  | some ds, some es => if ds.length + es.length ≤ sizeLine then .ok (.lst ((ds ++ es).map O.fz)) ρ2 else .bad
  | _, _ => .bad
theorem x125 : kCat1 fb (.ok p ρ) = kCat2 p (fb ρ) := rfl
def kCat3 (z : Option (List PyData)) (y : Option (List PyData)) (ρ : En) : Out O := match z, y with
  | some ds, some es => if ds.length + es.length ≤ sizeLine then .ok (.lst ((ds ++ es).map O.fz)) ρ else .bad
  | _, _ => .bad
theorem x127 : kCat2 p (.ok q ρ) = kCat3 ((pkO ρ p).bind lstI) ((pkO ρ q).bind lstI) ρ := rfl
theorem x128 {ds es : List PyData} (h : ds.length + es.length ≤ sizeLine) : kCat3 (some ds) (some es) ρ = .ok (.lst ((ds ++ es).map O.fz)) ρ := by unfold kCat3; exact if_pos h
def kCatT1 (fb : FP) (z : Out Pk) : Out O := z.bind fun a ρ1 => (fb ρ1).bind fun b ρ2 => match (pkO ρ2 a).bind tupI, (pkO ρ2 b).bind tupI with
  | some ds, some es => if ds.length + es.length ≤ sizeLine then .ok (.fz (.tuple (ds ++ es))) ρ2 else .bad
  | _, _ => .bad
theorem x129 : eCatT fa fb ρ = kCatT1 fb (fa ρ) := rfl
def kCatT2 (a : Pk) (z : Out Pk) : Out O := z.bind fun b ρ2 => match (pkO ρ2 a).bind tupI, (pkO ρ2 b).bind tupI with
  | some ds, some es => if ds.length + es.length ≤ sizeLine then .ok (.fz (.tuple (ds ++ es))) ρ2 else .bad
  | _, _ => .bad
theorem x131 : kCatT1 fb (.ok p ρ) = kCatT2 p (fb ρ) := rfl
def kCatT3 (z : Option (List PyData)) (y : Option (List PyData)) (ρ : En) : Out O := match z, y with
  | some ds, some es => if ds.length + es.length ≤ sizeLine then .ok (.fz (.tuple (ds ++ es))) ρ else .bad
  | _, _ => .bad
theorem x133 : kCatT2 p (.ok q ρ) = kCatT3 ((pkO ρ p).bind tupI) ((pkO ρ q).bind tupI) ρ := rfl
theorem x134 {ds es : List PyData} (h : ds.length + es.length ≤ sizeLine) : kCatT3 (some ds) (some es) ρ = .ok (.fz (.tuple (ds ++ es))) ρ := by unfold kCatT3; exact if_pos h
def kRep1 (fb : FP) (z : Out Pk) : Out O := z.bind fun a ρ1 => (fb ρ1).bind fun b ρ2 => match (pkO ρ2 a).bind lstI, pkD ρ2 b with
  | some ds, some (.int n) => if -(2 ^ 63) ≤ n ∧ n < 2 ^ 63 ∧ ds.length * n.toNat ≤ sizeLine then .ok (.lst ((List.replicate n.toNat ds).flatten.map O.fz)) ρ2 else .bad
  | _, _ => .bad
theorem x135 : eRep fa fb ρ = kRep1 fb (fa ρ) := rfl
def kRep2 (a : Pk) (z : Out Pk) : Out O := z.bind fun b ρ2 => match (pkO ρ2 a).bind lstI, pkD ρ2 b with
  | some ds, some (.int n) => if -(2 ^ 63) ≤ n ∧ n < 2 ^ 63 ∧ ds.length * n.toNat ≤ sizeLine then .ok (.lst ((List.replicate n.toNat ds).flatten.map O.fz)) ρ2 else .bad
  | _, _ => .bad
theorem x137 : kRep1 fb (.ok p ρ) = kRep2 p (fb ρ) := rfl
def kRep3 (z : Option (List PyData)) (y : Option PyData) (ρ : En) : Out O := match z, y with
  | some ds, some (.int n) => if -(2 ^ 63) ≤ n ∧ n < 2 ^ 63 ∧ ds.length * n.toNat ≤ sizeLine then .ok (.lst ((List.replicate n.toNat ds).flatten.map O.fz)) ρ else .bad
  | _, _ => .bad
theorem x139 : kRep2 p (.ok q ρ) = kRep3 ((pkO ρ p).bind lstI) (pkD ρ q) ρ := rfl
theorem x140 {ds : List PyData} {n : Int} (h : -(2 ^ 63) ≤ n ∧ n < 2 ^ 63 ∧ ds.length * n.toNat ≤ sizeLine) : kRep3 (some ds) (some (.int n)) ρ = .ok (.lst ((List.replicate n.toNat ds).flatten.map O.fz)) ρ := by unfold kRep3; exact if_pos h
theorem x147 : nNo ρ = .ok none ρ := rfl
def kN (z : Out Pk) : Out (Option Int) := z.bind fun p ρ1 => match pkD ρ1 p with
  | some (.int i) => .ok (some i) ρ1
  | _ => .bad
theorem x148 : nE fa ρ = kN (fa ρ) := rfl
def kN2 (z : Option PyData) (ρ1 : En) : Out (Option Int) := match z with
  | some (.int i) => .ok (some i) ρ1
  | _ => .bad
theorem x150 : kN (.ok p ρ) = kN2 (pkD ρ p) ρ := rfl
theorem x151 {k : Int} : kN2 (some (.int k)) ρ = .ok (some k) ρ := rfl
variable {fl fh : FN} {lo hi : Option Int}
def kSl1 (fl fh : FN) (z : Out Pk) : Out O := z.bind fun a ρ1 => (fl ρ1).bind fun l ρ2 => (fh ρ2).bind fun h ρ3 => match (pkO ρ3 a).bind fun o => slO o l h with
  | some o => .ok o ρ3
  | none => .bad
theorem x152 : eSl fa fl fh ρ = kSl1 fl fh (fa ρ) := rfl
def kSl2 (fh : FN) (a : Pk) (z : Out (Option Int)) : Out O := z.bind fun l ρ2 => (fh ρ2).bind fun h ρ3 => match (pkO ρ3 a).bind fun o => slO o l h with
  | some o => .ok o ρ3
  | none => .bad
theorem x154 : kSl1 fl fh (.ok p ρ) = kSl2 fh p (fl ρ) := rfl
def kSl3 (a : Pk) (l : Option Int) (z : Out (Option Int)) : Out O := z.bind fun h ρ3 => match (pkO ρ3 a).bind fun o => slO o l h with
  | some o => .ok o ρ3
  | none => .bad
theorem x155 : kSl2 fh p (.ok lo ρ) = kSl3 p lo (fh ρ) := rfl
theorem x156 : kSl3 p lo (.ok hi ρ) = kO ((pkO ρ p).bind fun o => slO o lo hi) ρ := rfl
def kZ (z : Out O) : Out O := z.bind fun o ρ' => match frz o with
  | some d => .ok (.fz d) ρ'
  | none => .bad
theorem x157 : eZ f ρ = kZ (f ρ) := rfl
theorem x158 : kZ (.ok o ρ) = kD (frz o) ρ := rfl
variable {sr sr2 : Sr}
def kSq (z : Out Pk) : Out Sr := z.bind fun p ρ1 => match srOf ρ1 p with
  | some s => .ok s ρ1
  | none => .bad
theorem x160 : fSeq fa ρ = kSq (fa ρ) := rfl
def kSq2 (z : Option Sr) (ρ : En) : Out Sr := match z with
  | some s => .ok s ρ
  | none => .bad
theorem x162 : kSq (.ok p ρ) = kSq2 (srOf ρ p) ρ := rfl
theorem x163 : kSq2 (some sr) ρ = .ok sr ρ := rfl
theorem x164 : srOf ρ (.v i) = (((ρ[i]?).bind id).bind itemsO).map fun p => .sl p.1 i := rfl
def kSq3 (z : Option PyData) (o : O) : Option Sr := match z with
    | some (.list ds) => some (.st true ds)
    | some (.tuple ds) => some (.st false ds)
    | some _ => none
    | none => match o with
      | .vu u => (itemsO0 u).map fun p => .st p.1 p.2
      | _ => none
theorem x165 : srOf ρ (.o o) = kSq3 (frz o) o := rfl
theorem x166 {ds : List PyData} : kSq3 (some (.list ds)) o = some (.st true ds) := rfl
def kRg (z : Out Pk) : Out Sr := z.bind fun p ρ1 => match pkD ρ1 p with
  | some (.int j) => if -(2 ^ 62) ≤ j ∧ j < 2 ^ 62 then .ok (.rg 0 j.toNat) ρ1 else .bad
  | _ => .bad
theorem x174 : fRg1 fa ρ = kRg (fa ρ) := rfl
def kRg2 (z : Option PyData) (ρ1 : En) : Out Sr := match z with
  | some (.int j) => if -(2 ^ 62) ≤ j ∧ j < 2 ^ 62 then .ok (.rg 0 j.toNat) ρ1 else .bad
  | _ => .bad
theorem x176 : kRg (.ok p ρ) = kRg2 (pkD ρ p) ρ := rfl
theorem x177 {k : Int} (h : -(2 ^ 62) ≤ k ∧ k < 2 ^ 62) : kRg2 (some (.int k)) ρ = .ok (.rg 0 k.toNat) ρ := by unfold kRg2; exact if_pos h
def kZp1 (fb : FP) (z : Out Sr) : Out Sr := z.bind fun a ρ1 => (fSeq fb ρ1).bind fun b ρ2 => match (Sr.zp a b).at ρ2 with
  | some _ => if a.kind = b.kind then .ok (.zp a b) ρ2 else .bad
  | none => .bad
theorem x184 : fZip fa fb ρ = kZp1 fb (fSeq fa ρ) := rfl
def kZp2 (a : Sr) (z : Out Sr) : Out Sr := z.bind fun b ρ2 => match (Sr.zp a b).at ρ2 with
  | some _ => if a.kind = b.kind then .ok (.zp a b) ρ2 else .bad
  | none => .bad
theorem x186 : kZp1 fb (.ok sr ρ) = kZp2 sr (fSeq fb ρ) := rfl
def kZp3 (a b : Sr) (z : Option (List PyData)) (ρ2 : En) : Out Sr := match z with
  | some _ => if a.kind = b.kind then .ok (.zp a b) ρ2 else .bad
  | none => .bad
theorem x187 : kZp2 sr (.ok sr2 ρ) = kZp3 sr sr2 ((Sr.zp sr sr2).at ρ) ρ := rfl
theorem x188 {ds : List PyData} (h : sr.kind = sr2.kind) : kZp3 sr sr2 (some ds) ρ = .ok (.zp sr sr2) ρ := by unfold kZp3; exact if_pos h
theorem x192 {l : Bool} {ds : List PyData} : Sr.at ρ (.st l ds) = some ds := rfl
theorem x194 {l : Bool} : Sr.at ρ (.sl l i) = ((ρ[i]?).bind id).bind fun o => (itemsO o).bind fun p => if p.1 = l then some p.2 else none := rfl
theorem x195 : Sr.at ρ (.zp sr sr2) = (sr.at ρ).bind fun xs => (sr2.at ρ).map fun ys => zpD xs ys := rfl
variable {gF : FG} {gs : FGs}
theorem x204 : gfN i d ρ = putE ρ i (.fz d) := by unfold gfN; rw [putE_eq]
theorem x205 : gsN [] ρ = some ρ := rfl
theorem x206 {ds : List PyData} : gsC gF gs (d :: ds) ρ = (gF d ρ).bind fun ρ1 => gs ds ρ1 := rfl
theorem x207 {ds : List PyData} {n : Nat} (h : ds.length = n) : gfT n gs (.tuple ds) ρ = gs ds ρ := by unfold gfT; exact if_pos h
theorem x208 : wipeE ρ [] = ρ := rfl
theorem x209 {v : Nat} {vs : List Nat} : wipeE ρ (v :: vs) = (wipeE ρ vs).set v none := rfl
variable {st st2 body : FS} {out : SO}
theorem x210 : sNil ρ = .nx ρ := rfl
def kSeq (z : SO) (g : FS) : SO := z.then g
theorem x211 : sSeq st st2 ρ = kSeq (st ρ) st2 := rfl
theorem x212 : kSeq (.nx ρ) st = st ρ := rfl
theorem x213 : kSeq (.rt o ρ) st = .rt o ρ := rfl
def kIf (z : Out Bool) (f g : FS) : SO := z.toS fun b ρ' => sel b f g ρ'
theorem x217 : sIf t st st2 ρ = kIf (t ρ) st st2 := rfl
theorem x218 : kIf (.ok b ρ) st st2 = sel b st st2 ρ := rfl
def kRt (z : Out O) : SO := z.toS fun o ρ' => .rt o ρ'
theorem x220 : sRet f ρ = kRt (f ρ) := rfl
theorem x221 : kRt (.ok o ρ) = .rt o ρ := rfl
def kDr (z : Out O) : SO := z.toS fun _ ρ' => .nx ρ'
theorem x224 : sDrop f ρ = kDr (f ρ) := rfl
theorem x225 : kDr (.ok o ρ) = .nx ρ := rfl
def kNx (z : Option En) : SO := match z with
  | some ρ => .nx ρ
  | none => .bad
theorem x227 : kNx (some ρ) = .nx ρ := rfl
def kSt (i : Nat) (z : Out O) : SO := z.toS fun o ρ' => kNx (putE ρ' i o)
theorem x228 : sSet i f ρ = kSt i (f ρ) := by
  unfold sSet kSt
  cases f ρ with
  | ok o ρ1 => show (if i < ρ1.length then SO.nx _ else .bad) = kNx (putE ρ1 i o); rw [putE_eq]; by_cases h : i < ρ1.length <;> simp [h, kNx]
  | exc x ρ1 => rfl
  | bad => rfl
theorem x229 : kSt i (.ok o ρ) = kNx (putE ρ i o) := rfl
def kAp0 (z : Option (Option O)) (j : Nat) (f : FE) (ρ : En) : SO := match z with
  | some (some (.lst _)) => (f ρ).toS (appK j)
  | _ => .bad
theorem x237 : sApp j f ρ = kAp0 ρ[j]? j f ρ := rfl
def kAp1 (j : Nat) (z : Out O) : SO := z.toS (appK j)
theorem x238 : kAp0 (some (some (.lst os))) j f ρ = kAp1 j (f ρ) := rfl
def kAp2 (z : Option (Option O)) (j : Nat) (o : O) (ρ1 : En) : SO := match z with
  | some (some (.lst xs)) => if xs.length < sizeLine then .nx (ρ1.set j (some (.lst (xs ++ [o])))) else .bad
  | _ => .bad
theorem x240 : kAp1 j (.ok o ρ) = kAp2 ρ[j]? j o ρ := rfl
theorem x241 (h : os.length < sizeLine) : kAp2 (some (some (.lst os))) j o ρ = .nx (ρ.set j (some (.lst (os ++ [o])))) := by unfold kAp2; exact if_pos h
def kAu0 (z : Option (Option O)) (i : Nat) (op : PyData → PyData → Option PyData) (fa : FP) (ρ : En) : SO := match z with
  | some (some (.fz (.int n))) => (fa ρ).toS (augK i (.int n) op)
  | _ => .bad
theorem x250 : sAug i op fa ρ = kAu0 ρ[i]? i op fa ρ := rfl
def kAu1 (i : Nat) (n : Int) (op : PyData → PyData → Option PyData) (z : Out Pk) : SO := z.toS (augK i (.int n) op)
theorem x251 {n : Int} : kAu0 (some (some (.fz (.int n)))) i op fa ρ = kAu1 i n op (fa ρ) := rfl
def kAu2 (z : Option PyData) (i : Nat) (ρ : En) : SO := match z with
  | some c => kNx (putE ρ i (.fz c))
  | none => .bad
theorem x253 {n : Int} : kAu1 i n op (.ok p ρ) = kAu2 ((pkD ρ p).bind fun b => op (.int n) b) i ρ := by
  show augK i (.int n) op p ρ = _
  unfold augK kAu2
  cases (pkD ρ p).bind fun b => op (.int n) b with
  | none => rfl
  | some c => show (if i < ρ.length then SO.nx _ else .bad) = kNx (putE ρ i (.fz c)); rw [putE_eq]; by_cases h : i < ρ.length <;> simp [h, kNx]
theorem x254 : kAu2 (some c) i ρ = kNx (putE ρ i (.fz c)) := rfl
variable {cn : Str} {mk : List PyData → Option (List (Str × PyData))} {hd : Hd} {hs : List Hd}
variable {m : Nat} {prot : List Nat} {as as2 : List O}
def kRun (z : SO) (prot : List Nat) (as : List O) : FO := match z with
  | .nx ρ' => (match finA prot ρ' 0 as with
    | some as' => .ok (.fz .none) as'
    | none => .bad)
  | .rt o ρ' => (match finA prot ρ' 0 as with
    | some as' => .ok o as'
    | none => .bad)
  | .exc x ρ' => (match finA prot ρ' 0 as with
    | some as' => .exc x as'
    | none => .bad)
  | _ => .bad
theorem x269 : runFn m prot st as = kRun (st (entry m as)) prot as := rfl
def kFin (z : Option (List O)) (o : O) : FO := match z with
    | some as' => .ok o as'
    | none => .bad
theorem x270 : kRun (.rt o ρ) prot as = kFin (finA prot ρ 0 as) o := rfl
theorem x271 : kRun (.nx ρ) prot as = kFin (finA prot ρ 0 as) (.fz .none) := rfl
theorem x272 : kFin (some as) o = .ok o as := rfl
theorem x275 : finA prot ρ i [] = some [] := rfl
def kFa (c : Bool) (z : Option (Option O)) (o : O) : Option O := if c then z.bind id else if isFz o then some o else none
theorem x276 : finA prot ρ i (o :: as) = (kFa (prot.contains i) ρ[i]? o).bind fun o => (finA prot ρ (i + 1) as).map fun os => o :: os := rfl
theorem x277 {z : Option (Option O)} : kFa true z o = z.bind id := rfl
theorem x_ent : entry m as = as.map some ++ List.replicate (m - as.length) none := rfl
theorem x_enm0 : List.map some ([] : List O) = [] := rfl
theorem x_enmS : List.map some (o :: os) = some o :: List.map some os := rfl
theorem x_ena0 {l : En} : ([] ++ l) = l := rfl
theorem x_enaS {y : Option O} {k l : En} : ((y :: k) ++ l) = y :: (k ++ l) := rfl
theorem x_olen0 : List.length ([] : List O) = 0 := rfl
theorem x_olenS : List.length (o :: os) = List.length os + 1 := rfl
theorem x_rep0 : List.replicate 0 (none : Option O) = [] := rfl
theorem x_repS {n : Nat} : List.replicate (n + 1) (none : Option O) = none :: List.replicate n none := rfl
variable {k l : Int} {ds es : List PyData}
theorem x279 : dAdd (.int k) (.int l) = some (.int (k + l)) := rfl
theorem x280 : dSub (.int k) (.int l) = some (.int (k - l)) := rfl
theorem x281 : dLt (.int k) (.int l) = some (.bool (decide (k < l))) := rfl
theorem x282 : dLe (.int k) (.int l) = some (.bool (decide (k ≤ l))) := rfl
theorem x283 : dGt (.int k) (.int l) = some (.bool (decide (l < k))) := rfl
theorem x_mod (h : l ≠ 0) : dMod (.int k) (.int l) = some (.int (k.fmod l)) := dMod_ok h
theorem x_deq : dEq (.int k) (.int l) = some (.bool (decide (k = l))) := dEq_int
theorem x_dne : dNe (.int k) (.int l) = some (.bool (!decide (k = l))) := dNe_int
theorem x_deqb : dEq (.bool a) (.bool b) = some (.bool (a == b)) := by cases a <;> cases b <;> rfl
theorem x_dneb : dNe (.bool a) (.bool b) = some (.bool (a != b)) := by cases a <;> cases b <;> rfl
theorem x285 : dIs .none .none = some (.bool true) := rfl
theorem x287 : dIs (.bool b) .none = some (.bool false) := rfl
theorem x289 : dIs (.int k) .none = some (.bool false) := rfl
theorem x295 {z : Str} : dIs (.str z) .none = some (.bool false) := rfl
theorem x305 : allFz [] = some [] := rfl
theorem x306 : allFz (.fz d :: os) = (allFz os).map fun ds => d :: ds := rfl
theorem x309 : lstI (.lst os) = allFz os := by unfold lstI; rw [show itemsO (.lst os) = (allFz os).map fun ds => (true, ds) from rfl]; cases allFz os <;> rfl
theorem x310 : tupI (.fz (.tuple ds)) = some ds := rfl
theorem x_div (h : l ≠ 0) (h2 : l.natAbs < 2 ^ 400) : dDiv (.int k) (.int l) = some (.int (k.fdiv l)) := if_pos ⟨h, by have := log2_lt h2 (by decide); omega⟩
theorem x_mul (h : k.natAbs < 2 ^ 400) (h2 : l.natAbs < 2 ^ 400) : dMul (.int k) (.int l) = some (.int (k * l)) := if_pos (by have := log2_lt h2 (by decide); have := log2_lt h (by decide); omega)
end
end Ls
namespace Ls
open PySem L2
def stepF (gF : FG) (body : FS) (d : PyData) (ρ : En) : SO := match gF d ρ with
  | some ρ1 => body ρ1
  | none => .bad
def loopF (gF : FG) (body : FS) : List PyData → En → SO
  | [], ρ => .nx ρ
  | d :: ds, ρ => match stepF gF body d ρ with
    | .nx ρ2 => loopF gF body ds ρ2
    | .ct ρ2 => loopF gF body ds ρ2
    | .bk ρ2 => .nx ρ2
    | r => r
def kStp (z : Option En) (body : FS) : SO := match z with
  | some ρ1 => body ρ1
  | none => .bad
section
variable {ρ ρ1 ρ2 : En} {gF : FG} {body : FS} {d : PyData} {ds : List PyData} {sr : Sr} {o : O} {x : Xn} {Z : List Nat} {l : Bool} {lo : Int} {n i : Nat} {t : FT} {f : FE} {vs : List Nat} {os us : List O}
theorem x_stp : stepF gF body d ρ = kStp (gF d ρ) body := rfl
theorem x_stp1 : kStp (some ρ) body = body ρ := rfl
theorem for_loop (J : En → Prop) (hat : ∀ ρ, J ρ → sr.at ρ = some ds) (hs : ∀ d ρ ρ2, J ρ → (stepF gF body d ρ = .nx ρ2 ∨ stepF gF body d ρ = .ct ρ2) → J ρ2) : ∀ (n j : Nat) (ρ : En), n + j = ds.length → J ρ → forF sr gF body (n + 1) j ρ = loopF gF body (ds.drop j) ρ
  | 0, j, ρ, hn, hj => by
    unfold forF
    rw [hat ρ hj]
    dsimp only
    rw [List.getElem?_eq_none (by omega), List.drop_eq_nil_of_le (by omega)]
    rfl
  | n + 1, j, ρ, hn, hj => by
    have hlt : j < ds.length := by omega
    unfold forF
    rw [hat ρ hj]
    dsimp only
    rw [List.getElem?_eq_getElem hlt, List.drop_eq_getElem_cons hlt]
    dsimp only
    unfold loopF
    have hst : stepF gF body ds[j] ρ = match gF ds[j] ρ with
      | some ρ1 => body ρ1
      | none => .bad := rfl
    cases hg : gF ds[j] ρ with
    | none =>
      rw [hg] at hst
      rw [hst]
    | some ρ1 =>
      rw [hg] at hst
      dsimp only at hst ⊢
      rw [hst]
      cases hb : body ρ1 with
      | nx ρ2 => exact for_loop J hat hs n (j + 1) ρ2 (by omega) (hs ds[j] ρ ρ2 hj (.inl (hst.trans hb)))
      | ct ρ2 => exact for_loop J hat hs n (j + 1) ρ2 (by omega) (hs ds[j] ρ ρ2 hj (.inr (hst.trans hb)))
      | _ => rfl
theorem x_forSt : forF (.st l ds) gF body (ds.length + 1) 0 ρ = loopF gF body ds ρ := for_loop (fun _ => True) (fun _ _ => rfl) (fun _ _ _ _ _ => trivial) ds.length 0 ρ (by omega) trivial
theorem x_forRg : forF (.rg lo n) gF body ((rgD lo n).length + 1) 0 ρ = loopF gF body (rgD lo n) ρ := for_loop (sr := .rg lo n) (ds := rgD lo n) (fun _ => True) (fun _ _ => rfl) (fun _ _ _ _ _ => trivial) (rgD lo n).length 0 ρ (Nat.add_zero _) trivial
def kFor (Z : List Nat) (gF : FG) (body : FS) (z : Out Sr) : SO := z.toS fun s ρ1 => if s.slots.all fun i => Z.contains i then (match s.at ρ1 with
    | some ds => forF s gF body (ds.length + 1) 0 ρ1
    | none => .bad) else .bad
variable {fi : FI}
theorem x_for : sFor Z fi gF body ρ = kFor Z gF body (fi ρ) := rfl
theorem x_for1 : kFor Z gF body (.ok (.st l ds) ρ) = loopF gF body ds ρ := x_forSt
theorem x_for2 : kFor Z gF body (.ok (.rg lo n) ρ) = loopF gF body (rgD lo n) ρ := x_forRg
def NC (out : SO) (P : En → Prop) : Prop := ∃ ρ, (out = .nx ρ ∨ out = .ct ρ) ∧ P ρ
theorem nc_nx {P : En → Prop} (h : P ρ) : NC (.nx ρ) P := ⟨ρ, .inl rfl, h⟩
theorem nx_mk {P : En → Prop} (h : P ρ) : NX (.nx ρ) P := ⟨ρ, rfl, h⟩
theorem loop_inv (I : Nat → En → Prop) (hs : ∀ j d ρ, ds[j]? = some d → I j ρ → NC (stepF gF body d ρ) (I (j + 1))) (h0 : I 0 ρ) : NX (loopF gF body ds ρ) (I ds.length) := by
  have go : ∀ (n j : Nat) (ρ : En), n + j = ds.length → I j ρ → NX (loopF gF body (ds.drop j) ρ) (I ds.length) := by
    intro n
    induction n with
    | zero =>
      intro j ρ hn hi
      rw [List.drop_eq_nil_of_le (by omega)]
      have : j = ds.length := by omega
      subst this
      exact ⟨ρ, rfl, hi⟩
    | succ n ih =>
      intro j ρ hn hi
      have hlt : j < ds.length := by omega
      obtain ⟨ρ2, h2, i2⟩ := hs j ds[j] ρ (List.getElem?_eq_getElem hlt) hi
      rw [List.drop_eq_getElem_cons hlt]
      unfold loopF
      rcases h2 with h2 | h2 <;> rw [h2] <;> exact ih (j + 1) ρ2 (by omega) i2
  exact go ds.length 0 ρ (by omega) h0
theorem loop_ret (I : Nat → En → Prop) {Q : SO → Prop} (hs : ∀ j d ρ, ds[j]? = some d → I j ρ → NC (stepF gF body d ρ) (I (j + 1)) ∨ (∃ o ρ', stepF gF body d ρ = .rt o ρ' ∧ Q (.rt o ρ'))) (h0 : I 0 ρ) (hQ : ∀ ρ, I ds.length ρ → Q (.nx ρ)) : Q (loopF gF body ds ρ) := by
  have go : ∀ (n j : Nat) (ρ : En), n + j = ds.length → I j ρ → Q (loopF gF body (ds.drop j) ρ) := by
    intro n
    induction n with
    | zero =>
      intro j ρ hn hi
      rw [List.drop_eq_nil_of_le (by omega)]
      have : j = ds.length := by omega
      subst this
      exact hQ ρ hi
    | succ n ih =>
      intro j ρ hn hi
      have hlt : j < ds.length := by omega
      rw [List.drop_eq_getElem_cons hlt]
      unfold loopF
      rcases hs j ds[j] ρ (List.getElem?_eq_getElem hlt) hi with ⟨ρ2, h2, i2⟩ | ⟨o, ρ', h2, q⟩
      · rcases h2 with h2 | h2 <;> rw [h2] <;> exact ih (j + 1) ρ2 (by omega) i2
      · rw [h2]; exact q
  exact go ds.length 0 ρ (by omega) h0
def stepC (gF : FG) (t : FT) (f : FE) (vs : List Nat) (d : PyData) (ρ : En) : Out (Option O) := match gF d ρ with
  | none => .bad
  | some ρ1 => (match t ρ1 with
    | .ok true ρ2 => (match f ρ2 with
      | .ok o ρ3 => .ok (some o) (wipeE ρ3 vs)
      | _ => .bad)
    | .ok false ρ2 => .ok none (wipeE ρ2 vs)
    | _ => .bad)
def loopC (gF : FG) (t : FT) (f : FE) (vs : List Nat) : List PyData → En → List O → Out (List O)
  | [], ρ, acc => .ok acc ρ
  | d :: ds, ρ, acc => match stepC gF t f vs d ρ with
    | .ok (some o) ρ1 => if acc.length < sizeLine then loopC gF t f vs ds ρ1 (acc ++ [o]) else .bad
    | .ok none ρ1 => loopC gF t f vs ds ρ1 acc
    | _ => .bad
theorem comp_loop (J : En → Prop) (hat : ∀ ρ, J ρ → sr.at ρ = some ds) (hs : ∀ d ρ u ρ2, J ρ → stepC gF t f vs d ρ = .ok u ρ2 → J ρ2) : ∀ (n j : Nat) (ρ : En) (acc : List O), n + j = ds.length → J ρ → compF sr gF t f vs (n + 1) j ρ acc = loopC gF t f vs (ds.drop j) ρ acc
  | 0, j, ρ, acc, hn, hj => by
    unfold compF
    rw [hat ρ hj]
    dsimp only
    rw [List.getElem?_eq_none (by omega), List.drop_eq_nil_of_le (by omega)]
    rfl
  | n + 1, j, ρ, acc, hn, hj => by
    have hlt : j < ds.length := by omega
    unfold compF
    rw [hat ρ hj]
    dsimp only
    rw [List.getElem?_eq_getElem hlt, List.drop_eq_getElem_cons hlt]
    dsimp only
    unfold loopC
    have hst : stepC gF t f vs ds[j] ρ = match gF ds[j] ρ with
      | none => .bad
      | some ρ1 => (match t ρ1 with
        | .ok true ρ2 => (match f ρ2 with
          | .ok o ρ3 => .ok (some o) (wipeE ρ3 vs)
          | _ => .bad)
        | .ok false ρ2 => .ok none (wipeE ρ2 vs)
        | _ => .bad) := rfl
    cases hg : gF ds[j] ρ with
    | none => rw [hg] at hst; rw [hst]
    | some ρ1 =>
      rw [hg] at hst
      dsimp only at hst ⊢
      cases ht : t ρ1 with
      | bad => rw [ht] at hst; rw [hst]
      | exc x ρ2 => rw [ht] at hst; rw [hst]
      | ok b ρ2 =>
        rw [ht] at hst
        cases b with
        | false =>
          dsimp only at hst ⊢
          rw [hst]
          exact comp_loop J hat hs n (j + 1) _ acc (by omega) (hs ds[j] ρ _ _ hj hst)
        | true =>
          dsimp only at hst ⊢
          cases hf : f ρ2 with
          | bad => rw [hf] at hst; rw [hst]
          | exc x ρ3 => rw [hf] at hst; rw [hst]
          | ok o ρ3 =>
            rw [hf] at hst
            dsimp only at hst ⊢
            rw [hst]
            dsimp only
            rw [comp_loop J hat hs n (j + 1) _ (acc ++ [o]) (by omega) (hs ds[j] ρ _ _ hj hst)]
def kComp (gF : FG) (t : FT) (f : FE) (vs : List Nat) (z : Out Sr) : Out O := z.bind fun s ρ1 => if s.slots.all fun i => !vs.contains i then (match s.at (wipeE ρ1 vs) with
    | some ds => (match compF s gF t f vs (ds.length + 1) 0 (wipeE ρ1 vs) [] with
      | .ok os ρ2 => .ok (.lst os) ρ2
      | _ => .bad)
    | none => .bad) else .bad
def kLc (z : Out (List O)) : Out O := match z with
  | .ok os ρ2 => .ok (.lst os) ρ2
  | _ => .bad
theorem x_comp : eComp fi gF t f vs ρ = kComp gF t f vs (fi ρ) := rfl
theorem x_lc : kLc (.ok os ρ) = .ok (.lst os) ρ := rfl
theorem compAny (J : En → Prop) (h0 : J (wipeE ρ vs)) (hz : (sr.slots.all fun i => !vs.contains i) = true) (hat : ∀ ρ, J ρ → sr.at ρ = some ds) (hs : ∀ d ρ u ρ2, J ρ → stepC gF t f vs d ρ = .ok u ρ2 → J ρ2) : kComp gF t f vs (.ok sr ρ) = kLc (loopC gF t f vs ds (wipeE ρ vs) []) := by
  show (if (sr.slots.all fun i => !vs.contains i) = true then _ else _) = _
  rw [if_pos hz, hat _ h0]
  dsimp only
  rw [comp_loop J hat hs ds.length 0 _ [] (by omega) h0]
  rfl
theorem x_comp2 : kComp gF t f vs (.ok (.rg lo n) ρ) = kLc (loopC gF t f vs (rgD lo n) (wipeE ρ vs) []) := compAny (fun _ => True) trivial rfl (fun _ _ => rfl) fun _ _ _ _ _ _ => trivial
def kSc (vs : List Nat) (t : FT) (f : FE) (z : Option En) : Out (Option O) := match z with
  | none => .bad
  | some ρ1 => (match t ρ1 with
    | .ok true ρ2 => (match f ρ2 with
      | .ok o ρ3 => .ok (some o) (wipeE ρ3 vs)
      | _ => .bad)
    | .ok false ρ2 => .ok none (wipeE ρ2 vs)
    | _ => .bad)
def kSc2 (vs : List Nat) (f : FE) (z : Out Bool) : Out (Option O) := match z with
    | .ok true ρ2 => (match f ρ2 with
      | .ok o ρ3 => .ok (some o) (wipeE ρ3 vs)
      | _ => .bad)
    | .ok false ρ2 => .ok none (wipeE ρ2 vs)
    | _ => .bad
def kSc3 (vs : List Nat) (z : Out O) : Out (Option O) := match z with
      | .ok o ρ3 => .ok (some o) (wipeE ρ3 vs)
      | _ => .bad
def ySc (vs : List Nat) (f : FE) : En → Out (Option O) := fun ρ => kSc3 vs (f ρ)
def nSc (vs : List Nat) : En → Out (Option O) := fun ρ => .ok none (wipeE ρ vs)
theorem x_sc : stepC gF t f vs d ρ = kSc vs t f (gF d ρ) := rfl
theorem x_sc1 : kSc vs t f (some ρ) = kSc2 vs f (t ρ) := rfl
theorem x_sc2 {b : Bool} : kSc2 vs f (.ok b ρ) = sel b (ySc vs f) (nSc vs) ρ := by cases b <;> rfl
theorem x_sc3 : kSc3 vs (.ok o ρ) = .ok (some o) (wipeE ρ vs) := rfl
theorem x_sc4 : ySc vs f ρ = kSc3 vs (f ρ) := rfl
def CO {α : Type} (out : Out α) (P : α → En → Prop) : Prop := ∃ a ρ, out = .ok a ρ ∧ P a ρ
theorem co_mk {α : Type} {a : α} {P : α → En → Prop} (h : P a ρ) : CO (.ok a ρ) P := ⟨a, ρ, rfl, h⟩
theorem lc_inv (I : Nat → List PyData → En → Prop) (hz : ds.length ≤ sizeLine) (hs : ∀ j acc d ρ, ds[j]? = some d → acc.length ≤ j → I j acc ρ → CO (stepC gF t f vs d ρ) fun u ρ' => (u = none ∧ I (j + 1) acc ρ') ∨ ∃ e, u = some (.fz e) ∧ I (j + 1) (acc ++ [e]) ρ') (h0 : I 0 [] ρ) : CO (loopC gF t f vs ds ρ []) fun os ρ' => ∃ acc, os = acc.map O.fz ∧ acc.length ≤ ds.length ∧ I ds.length acc ρ' := by
  have go : ∀ (n j : Nat) (acc : List PyData) (ρ : En), n + j = ds.length → acc.length ≤ j → I j acc ρ → CO (loopC gF t f vs (ds.drop j) ρ (acc.map O.fz)) fun os ρ' => ∃ acc, os = acc.map O.fz ∧ acc.length ≤ ds.length ∧ I ds.length acc ρ' := by
    intro n
    induction n with
    | zero =>
      intro j acc ρ hn hl hi
      rw [List.drop_eq_nil_of_le (by omega)]
      have : j = ds.length := by omega
      subst this
      exact ⟨_, ρ, rfl, acc, rfl, hl, hi⟩
    | succ n ih =>
      intro j acc ρ hn hl hi
      have hlt : j < ds.length := by omega
      obtain ⟨u, ρ2, h2, q⟩ := hs j acc ds[j] ρ (List.getElem?_eq_getElem hlt) hl hi
      rw [List.drop_eq_getElem_cons hlt]
      unfold loopC
      rw [h2]
      rcases q with ⟨rfl, q⟩ | ⟨e, rfl, q⟩
      · exact ih (j + 1) acc ρ2 (by omega) (by omega) q
      · dsimp only
        rw [if_pos (by rw [List.length_map]; omega)]
        have := ih (j + 1) (acc ++ [e]) ρ2 (by omega) (by simp; omega) q
        rw [List.map_append] at this
        exact this
  exact go ds.length 0 [] ρ (by omega) (Nat.le_refl _) h0
theorem lc_map {α : Type} (ks : List α) (q g : α → PyData) (hz : ks.length ≤ sizeLine) (hs : ∀ k, k ∈ ks → stepC gF t f vs (q k) ρ = .ok (some (.fz (g k))) ρ) : loopC gF t f vs (ks.map q) ρ [] = .ok ((ks.map g).map O.fz) ρ := by
  have go : ∀ (ks : List α) (acc : List O), acc.length + ks.length ≤ sizeLine → (∀ k, k ∈ ks → stepC gF t f vs (q k) ρ = .ok (some (.fz (g k))) ρ) → loopC gF t f vs (ks.map q) ρ acc = .ok (acc ++ (ks.map g).map O.fz) ρ := by
    intro ks
    induction ks with
    | nil => intro acc _ _; simp [loopC]
    | cons k ks ih =>
      intro acc hl hs
      rw [List.map_cons]
      unfold loopC
      rw [hs k (by simp)]
      dsimp only
      rw [if_pos (by simp only [List.length_cons] at hl; omega), ih (acc ++ [O.fz (g k)]) (by simp only [List.length_append, List.length_cons, List.length_nil] at hl ⊢; omega) fun k hk => hs k (by simp [hk])]
      simp
  have := go ks [] (by simpa using hz) hs
  simpa using this
theorem whEnd {c : FT} (h : c ρ = .ok false ρ1) : sWh c body ρ = .nx ρ1 := by
  have e : whF c body 1 ρ = .nx ρ1 := by unfold whF; rw [h]; rfl
  rw [sWh_eq (n := 1) (by rw [e]; exact fun z => nomatch z), e]
theorem whF_of {c : FT} (h : sWh c body ρ ≠ .bad) : ∃ n, whF c body n ρ = sWh c body ρ ∧ whF c body n ρ ≠ .bad := by
  unfold sWh at h ⊢
  split at h
  · rename_i hh
    rw [dif_pos hh]
    exact ⟨_, rfl, Classical.choose_spec hh⟩
  · exact absurd rfl h
theorem whGo {c : FT} (h : c ρ = .ok true ρ1) (hb : body ρ1 = .nx ρ2) (hr : sWh c body ρ2 ≠ .bad) : sWh c body ρ = sWh c body ρ2 := by
  obtain ⟨n, e1, e2⟩ := whF_of hr
  have e : whF c body (n + 1) ρ = whF c body n ρ2 := by
    unfold whF
    rw [h]
    simp only [Out.toS, if_true]
    rw [hb]
    cases n <;> rfl
  rw [sWh_eq (n := n + 1) (by rw [e]; exact e2), e, e1]
theorem lc_rg (g : Nat → PyData) (hz : n ≤ sizeLine) (hs : ∀ k : Nat, k < n → stepC gF t f vs (.int (k : Int)) ρ = .ok (some (.fz (g k))) ρ) : loopC gF t f vs (rgD 0 n) ρ [] = .ok (((List.range n).map g).map O.fz) ρ := by
  have e : rgD 0 n = (List.range n).map fun k : Nat => PyData.int (k : Int) := by simp [rgD]
  rw [e]
  exact lc_map (List.range n) _ g (by rw [List.length_range]; exact hz) fun k hk => hs k (List.mem_range.mp hk)
theorem nat_line {n : Nat} (h : n ≤ 100000) : n ≤ sizeLine := by unfold sizeLine; omega
end
end Ls
namespace Ls
open PySem L2
section
variable {ρ ρ1 ρ2 : En} {gF : FG} {body : FS} {d : PyData} {ds : List PyData} {sr : Sr} {o : O} {x : Xn} {Z : List Nat} {l : Bool} {lo : Int} {n i : Nat} {t : FT} {f : FE} {vs : List Nat} {os us : List O}
theorem x_ift {α : Type} {a b : α} : (if True then a else b) = a := if_pos trivial
theorem forG {G : SO → Prop} (I : Nat → En → Prop) (hz : (sr.slots.all fun i => Z.contains i) = true) (hat : ∀ j ρ, I j ρ → sr.at ρ = some ds) (hs : ∀ j d ρ, ds[j]? = some d → I j ρ → NC (stepF gF body d ρ) (I (j + 1))) (h0 : I 0 ρ) (hG : ∀ ρ, I ds.length ρ → G (.nx ρ)) : G (kFor Z gF body (.ok sr ρ)) := by
  have e : kFor Z gF body (.ok sr ρ) = forF sr gF body (ds.length + 1) 0 ρ := by
    show (if (sr.slots.all fun i => Z.contains i) = true then _ else _) = _
    rw [if_pos hz, hat 0 ρ h0]
  rw [e]
  obtain ⟨ρ', h1, h2⟩ := for_inv (sr := sr) (gF := gF) (body := body) (ds := ds) I (fun j ρ _ h => hat j ρ h) (fun j ρ d hd hi => by
    obtain ⟨ρ2, h3, h4⟩ := hs j d ρ hd hi
    cases hg : gF d ρ with
    | none => unfold stepF at h3; rw [hg] at h3; rcases h3 with h3 | h3 <;> cases h3
    | some ρ1 => unfold stepF at h3; rw [hg] at h3; exact ⟨ρ1, ρ2, rfl, h3, h4⟩) ds.length 0 ρ (by omega) h0
  rw [h1]; exact hG ρ' h2
theorem forM {α : Type} {xs : List α} {q : α → PyData} {G : SO → Prop} (I : Nat → En → Prop) (hz : (sr.slots.all fun i => Z.contains i) = true) (hat : ∀ j ρ, I j ρ → sr.at ρ = some (xs.map q)) (hs : ∀ (j : Nat) ρ (h : j < xs.length), I j ρ → NC (stepF gF body (q xs[j]) ρ) (I (j + 1))) (h0 : I 0 ρ) (hG : ∀ ρ, I xs.length ρ → G (.nx ρ)) : G (kFor Z gF body (.ok sr ρ)) :=
  forG I hz hat (fun j d ρ hd hi => by
    rw [List.getElem?_map] at hd
    obtain ⟨y, h1, h2⟩ := Option.map_eq_some_iff.mp hd
    obtain ⟨h3, h4⟩ := List.getElem?_eq_some_iff.mp h1
    subst h4; subst h2
    exact hs j ρ h3 hi) h0 fun ρ h => hG ρ (by rw [List.length_map] at h; exact h)
theorem compS {α : Type} (ks : List α) (q g : α → PyData) (h4 : wipeE ρ vs = ρ1) (hz : (sr.slots.all fun i => !vs.contains i) = true) (hat : sr.at ρ1 = some (ks.map q)) (hl : ks.length ≤ sizeLine) (hs : ∀ k, k ∈ ks → stepC gF t f vs (q k) ρ1 = .ok (some (.fz (g k))) ρ1) : kComp gF t f vs (.ok sr ρ) = .ok (.lst ((ks.map g).map O.fz)) ρ1 := by
  subst h4
  have go : ∀ (n j : Nat) (acc : List PyData), n + j = ks.length → acc = (ks.take j).map g → compF sr gF t f vs (n + 1) j (wipeE ρ vs) (acc.map O.fz) = .ok ((ks.map g).map O.fz) (wipeE ρ vs) := by
    intro n
    induction n with
    | zero =>
      intro j acc hn ha
      unfold compF
      rw [hat]
      dsimp only
      rw [List.getElem?_eq_none (by rw [List.length_map]; omega), ha, List.take_of_length_le (by omega)]
    | succ n ih =>
      intro j acc hn ha
      have hj : j < ks.length := by omega
      have hk := hs ks[j] (List.getElem_mem hj)
      unfold compF
      rw [hat]
      dsimp only
      rw [List.getElem?_map, List.getElem?_eq_getElem hj]
      simp only [Option.map]
      have hst : stepC gF t f vs (q ks[j]) (wipeE ρ vs) = match gF (q ks[j]) (wipeE ρ vs) with
        | none => .bad
        | some ρ1 => (match t ρ1 with
          | .ok true ρ2 => (match f ρ2 with
            | .ok o ρ3 => .ok (some o) (wipeE ρ3 vs)
            | _ => .bad)
          | .ok false ρ2 => .ok none (wipeE ρ2 vs)
          | _ => .bad) := rfl
      rw [hk] at hst
      cases hg : gF (q ks[j]) (wipeE ρ vs) with
      | none => rw [hg] at hst; cases hst
      | some ρ2 =>
        rw [hg] at hst
        dsimp only at hst ⊢
        cases ht : t ρ2 with
        | bad => rw [ht] at hst; cases hst
        | exc x r => rw [ht] at hst; cases hst
        | ok b ρ3 =>
          rw [ht] at hst
          cases b with
          | false => cases hst
          | true =>
            dsimp only at hst ⊢
            cases hf : f ρ3 with
            | bad => rw [hf] at hst; cases hst
            | exc x r => rw [hf] at hst; cases hst
            | ok o ρ4 =>
              rw [hf] at hst
              dsimp only at hst ⊢
              injection hst with e1 e2
              injection e1 with e1
              subst e1
              rw [← e2, if_pos (by rw [List.length_map, ha, List.length_map, List.length_take]; omega)]
              have := ih (j + 1) (acc ++ [g ks[j]]) (by omega) (by rw [ha, List.take_add_one, List.getElem?_eq_getElem hj, List.map_append]; rfl)
              rw [List.map_append] at this
              exact this
  show (if (sr.slots.all fun i => !vs.contains i) = true then _ else _) = _
  rw [if_pos hz, hat]
  dsimp only
  rw [List.length_map]
  have := go ks.length 0 [] rfl rfl
  rw [List.map_nil] at this
  rw [this]
theorem compG {α : Type} {xs : List α} {q : α → PyData} {G : Out O → Prop} (I : Nat → List PyData → En → Prop) (hz : (sr.slots.all fun i => !vs.contains i) = true) (hat : ∀ j acc ρ, I j acc ρ → sr.at ρ = some (xs.map q)) (hl : xs.length ≤ sizeLine)
    (hs : ∀ (j : Nat) acc ρ (h : j < xs.length), acc.length = j → I j acc ρ → CO (stepC gF tYesF f vs (q xs[j]) ρ) fun u ρ' => ∃ e, u = some (.fz e) ∧ I (j + 1) (acc ++ [e]) ρ') (h0 : I 0 [] (wipeE ρ vs)) (hG : ∀ acc ρ', acc.length = xs.length → I xs.length acc ρ' → G (.ok (.lst (acc.map O.fz)) ρ')) : G (kComp gF tYesF f vs (.ok sr ρ)) := by
  have key : ∃ acc ρ', compF sr gF tYesF f vs ((xs.map q).length + 1) 0 (wipeE ρ vs) (([] : List PyData).map O.fz) = .ok (acc.map O.fz) ρ' ∧ acc.length = (xs.map q).length ∧ (acc.length = (xs.map q).length ∧ I (xs.map q).length acc ρ') := by
    refine comp_inv (fun j acc ρ => acc.length = j ∧ I j acc ρ) (fun j acc ρ h => hat j acc ρ h.2) (fun j acc ρ d hd hi => ?_) (by rw [List.length_map]; exact hl) (xs.map q).length 0 (wipeE ρ vs) [] rfl rfl ⟨rfl, h0⟩
    rw [List.getElem?_map] at hd
    obtain ⟨y, h1, h2⟩ := Option.map_eq_some_iff.mp hd
    obtain ⟨h3, h4⟩ := List.getElem?_eq_some_iff.mp h1
    subst h4; subst h2
    obtain ⟨u, ρ', e, x, rfl, hx⟩ := hs j acc ρ h3 hi.1 hi.2
    unfold stepC at e
    cases hg : gF (q xs[j]) ρ with
    | none => rw [hg] at e; cases e
    | some ρ1 =>
      rw [hg] at e
      dsimp only [tYesF] at e
      cases hf : f ρ1 with
      | bad => rw [hf] at e; cases e
      | exc x r => rw [hf] at e; cases e
      | ok o ρ3 =>
        rw [hf] at e
        injection e with e1 e2
        injection e1 with e1
        subst e1
        exact ⟨ρ1, ρ1, ρ3, x, rfl, rfl, hf, by simp [hi.1], by rw [e2]; exact hx⟩
  obtain ⟨acc, ρ', k1, k2, k3⟩ := key
  have e : kComp gF tYesF f vs (.ok sr ρ) = .ok (.lst (acc.map O.fz)) ρ' := by
    show (if (sr.slots.all fun i => !vs.contains i) = true then _ else _) = _
    rw [if_pos hz, hat 0 [] _ h0]
    dsimp only
    rw [List.map_nil] at k1
    rw [k1]
  rw [e]
  rw [List.length_map] at k3
  exact hG acc ρ' k3.1 k3.2
end
end Ls
namespace Ls
open PySem L2
variable [Tb] [Vw]
def aLate (i : Nat) (r : FA) : FA := fun ρ => match ρ[i]? with
  | some (some _) => (r ρ).bind fun os ρ2 => (eLend i ρ2).bind fun o ρ3 => .ok (o :: os) ρ3
  | _ => .bad
section
variable {K : PySem.W.Frag} {W : WX} {X : Cx} {e : Expr} {es : List Expr} {ls : List (Option Nat)}
theorem lend_at {S H : Hp} {σ : L2.St} {ρ ρ3 : En} {A : Fp} {i : Nat} {o2 : O} (e : ER K S H σ ρ A) (hl : eLend i ρ = .ok o2 ρ3) : ∃ v B A2, σ[i]? = some (some v) ∧ OR K S H v o2 B ∧ ER K S H σ ρ3 A2 ∧ ∀ b, A b = A2 b + B b := by
  unfold eLend at hl
  cases hi : ρ[i]? with
  | none => rw [hi] at hl; cases hl
  | some x =>
    rw [hi] at hl
    cases x with
    | none => cases hl
    | some o =>
      obtain ⟨v, B, C, e1, q, e2, z⟩ := er_get e hi
      cases o with
      | fz d =>
        injection hl with h1 h2
        subst h1; subst h2
        have z2 : ∀ b, B b = 0 := by cases q with | fz q z2 => exact z2
        exact ⟨v, B, A, e1, q, e, fun b => by rw [z2 b]; rfl⟩
      | raw u =>
        injection hl with h1 h2
        subst h1; subst h2
        have z2 : ∀ b, B b = 0 := by cases q with | raw z2 => exact z2
        exact ⟨v, B, A, e1, q, e, fun b => by rw [z2 b]; rfl⟩
      | exn a c d y => cases hl
      | vu u =>
        injection hl with h1 h2
        subst h1; subst h2
        have z2 := or_zero q rfl
        exact ⟨v, B, A, e1, q, e, fun b => by rw [z2 b]; rfl⟩
      | lst xs =>
        injection hl with h1 h2
        subst h1; subst h2
        exact ⟨v, B, C, e1, q, e2, fun b => by rw [z b]; omega⟩
      | ins _ _ _ =>
        injection hl with h1 h2
        subst h1; subst h2
        exact ⟨v, B, C, e1, q, e2, fun b => by rw [z b]; omega⟩
      | dct _ _ =>
        injection hl with h1 h2
        subst h1; subst h2
        exact ⟨v, B, C, e1, q, e2, fun b => by rw [z b]; omega⟩
theorem snd_late {i : Nat} {tr : TA} {r : FA} (h2 : Snd K W (RArgs K ls) tr r) : Snd K W (RArgs K (some i :: ls)) (tCons (tVar i) tr) (aLate i r) := by
  intro σ ρ S H A w e
  unfold aLate
  cases hi : ρ[i]? with
  | none => exact True.intro
  | some x =>
    cases x with
    | none => exact True.intro
    | some o =>
      obtain ⟨v, B, C, e1, q, e2, z⟩ := er_get e hi
      have h3 := h2 σ ρ S H A w e
      show OutOk K W (RArgs K (some i :: ls)) _ σ S H A ((r ρ).bind _)
      cases hf : r ρ with
      | bad => exact True.intro
      | exc x' ρ' =>
        rw [hf] at h3
        exact fun Q k => ⟨v, e1, h3 _ k⟩
      | ok os ρ2 =>
        rw [hf] at h3
        show OutOk K W (RArgs K (some i :: ls)) _ σ S H A ((eLend i ρ2).bind _)
        cases hl : eLend i ρ2 with
        | bad => exact True.intro
        | exc x' ρ' =>
          exfalso
          unfold eLend at hl
          split at hl <;> cases hl
        | ok o2 ρ3 =>
          intro Q k
          refine ⟨v, e1, h3 _ fun xs S' H' A' D w' e' rb t' => ?_⟩
          obtain ⟨v3, B3, A3, e5, q5, e6, z6⟩ := lend_at e' hl
          rw [e1] at e5
          cases e5
          have eA : A' + D = A3 + (B3 + D) := funext fun b => by simp only [add_at]; rw [z6 b]; omega
          rw [eA] at w' t'
          exact k (v :: xs) S' H' A3 (B3 + D) w' e6 ⟨.cons q5 rb.1 fun b => add_at _ _ b, ⟨e1, rb.2.1⟩, by simp [rb.2.2]⟩ t'
theorem av_late (i : Nat) {x : Str} {pos : Pos} {r : FA} (hr : AV X W es ls r) (hN : X.N[i]? = some x := by rfl) (hv : Vis X.env.scope x := by first | exact Or.inl rfl | exact Or.inr (Or.inl rfl) | exact Or.inr (Or.inr rfl)) (hd : (x == ("__debug__" : Str)) = false := by decide)
    (hcd : (x == ("__classdict__" : Str)) = false := by decide) (hs : starEach (.Name x pos :: es) X.env = (false, eval (.Name x pos) X.env) :: starEach es X.env := by rfl) : AV X W (.Name x pos :: es) (some i :: ls) (aLate i r) :=
  let ⟨_, r1, r2⟩ := hr.ex
  ⟨_, pa_cons (pe_var hN hv hd hcd) r1 hs, snd_late r2⟩
variable {ρ : En} {i : Nat} {o : O} {os : List O} {x : Xn} {r : FA}
def kLa0 (z : Option (Option O)) (i : Nat) (r : FA) (ρ : En) : Out (List O) := match z with
  | some (some _) => (r ρ).bind fun os ρ2 => (eLend i ρ2).bind fun o ρ3 => .ok (o :: os) ρ3
  | _ => .bad
def kLa1 (i : Nat) (z : Out (List O)) : Out (List O) := z.bind fun os ρ2 => (eLend i ρ2).bind fun o ρ3 => .ok (o :: os) ρ3
def kLa2 (os : List O) (z : Out O) : Out (List O) := z.bind fun o ρ3 => .ok (o :: os) ρ3
theorem x_la : aLate i r ρ = kLa0 ρ[i]? i r ρ := rfl
theorem x_la0 : kLa0 (some (some o)) i r ρ = kLa1 i (r ρ) := rfl
theorem x_la1 : kLa1 i (.ok os ρ) = kLa2 os (eLend i ρ) := rfl
theorem x_la2 : kLa2 os (.ok o ρ) = .ok (o :: os) ρ := rfl
end
end Ls
namespace Ls
open PySem PySem.Spec PyProof.Rows L2
variable [Tb] [Vw]
section
variable {K : PySem.W.Frag} {W : WX} {S H H1 : Hp} {A : Fp} {σ : L2.St} {ρ : En}
end
section
variable {K : PySem.W.Frag} {W : WX} {n : Nat} {hs : List Hd} {rest : FS} {th : FE} {t : XK → TE}
end
section
variable {X : Cx} {W : WX}
end
omit [Tb]
end Ls
namespace Ls
open PySem PySem.Spec PyProof.Rows L2
variable [Tb] [Vw]
section
variable {K : PySem.W.Frag} {W : WX}
end
section
variable {X : Cx} {W : WX} {m : Str → Option Bool} {a : Addr} {oe : Obj} {cls : Value} {d : Option Addr} {pn : List (Addr × Obj)} {x y : Str} {p p1 p2 pos : Pos}
end
omit [Tb]
end Ls
namespace Ls
open PySem L2
section
variable {ρ ρ1 : En} {o : O} {x : Xn} {n i : Nat} {hs : List Hd} {rest : FS} {th : FE} {a : Addr} {cls : Value} {d : Option Addr} {fl : Str} {known : Str → Bool} {m : Str → Option Bool} {b : Bool} {t : PyData}
theorem seqK {G : SO → Prop} {z : SO} {rest : FS} (P : En → Prop) (h1 : NX z P) (h2 : ∀ ρ, P ρ → G (rest ρ)) : G (kSeq z rest) := by
  obtain ⟨ρ, e, h⟩ := h1
  rw [e]; exact h2 ρ h
theorem whS {α : Type} {c : FT} {body : FS} {G : SO → Prop} (I : α → En) (f : α → Nat) (P : α → Prop) (hs : ∀ s, P s → (c (I s) = .ok false (I s) ∧ G (.nx (I s))) ∨ ∃ s', c (I s) = .ok true (I s) ∧ body (I s) = .nx (I s') ∧ P s' ∧ f s' < f s) (s : α) (h0 : P s) : G (sWh c body (I s)) := by
  have go : ∀ (n : Nat) (s : α), f s ≤ n → P s → G (sWh c body (I s)) ∧ sWh c body (I s) ≠ .bad := by
    intro n
    induction n with
    | zero =>
      intro s hn hp
      rcases hs s hp with ⟨h1, h2⟩ | ⟨s', h1, h2, h3, h4⟩
      · rw [whEnd h1]; exact ⟨h2, fun z => nomatch z⟩
      · omega
    | succ n ih =>
      intro s hn hp
      rcases hs s hp with ⟨h1, h2⟩ | ⟨s', h1, h2, h3, h4⟩
      · rw [whEnd h1]; exact ⟨h2, fun z => nomatch z⟩
      · obtain ⟨g1, g2⟩ := ih s' (by omega) h3
        rw [whGo h1 h2 g2]
        exact ⟨g1, g2⟩
  exact (go (f s) s (Nat.le_refl _) h0).1
end
end Ls
namespace Ls
open PySem PySem.Spec PyProof.Rows L2
variable [Tb] [Vw]
section
variable {K : PySem.W.Frag} {W : WX} {n : Nat} {hs : List Hd} {w : Str} {th : FE} {t : XK → TE}
end
section
variable {X : Cx} {W : WX}
end
section
variable {X : Cx} {W : WX} {a b : Expr} {fa fb : FP} {p pos : Pos} {K : PySem.W.Frag}
end
end Ls
namespace LamD
open PySem PySem.Spec PyProof.Rows L2 LamX
section
variable {X : Cx} {pins : List (Addr × Obj)} {σ : L2.St} {H HZ : Hp} {s s1 : Shared}
end
end LamD
namespace Ls
open PySem PySem.Spec PyProof.Rows L2
variable [Tb] [Vw]
section
omit [Tb]
variable {ρ ρ1 : En} {x : Xn} {i : Nat} {known : Str → Bool} {f g : Str} {hs : List Hd} {h : Hd} {o : O} {t u : PyData}
end
end Ls
namespace Ls
open PySem PySem.Spec PyProof.Rows L2
variable [Tb] [Vw]
section
variable {K : PySem.W.Frag} {W : WX} {P : List Nat} {S H : Hp} {A B C : Fp} {σ : L2.St} {ρ : En}
end
section
variable {X : Cx} {W : WX} {P : List Nat} {tg a : Expr} {fe : FE} {pos p : Pos}
end
end Ls
namespace Ls
open PySem L2
section
variable {ρ ρ1 : En} {o y : O} {os : List O} {x : Xn} {n i : Nat} {hs : List Hd} {w : Str} {th : FE} {d : PyData} {k l : Int}
theorem x_bnes {b : Bool} : (b != b) = false := by cases b <;> rfl
end
end Ls
namespace Ls
open PySem L2
mutual
def noVu : O → Bool
  | .fz _ => true
  | .raw _ => true
  | .exn _ _ _ _ => true
  | .lst xs => noVus xs
  | .ins _ _ xs => noVus xs
  | .dct _ xs => noVus xs
  | .vu _ => false
def noVus : List O → Bool
  | [] => true
  | x :: xs => noVu x && noVus xs
end
section
variable [Tb]
variable {K : PySem.W.Frag} {S H : Hp}
mutual
theorem or_there [Vw] : ∀ {H : Hp} {v : V} {o : O} {A : Fp}, OR K S H v o A → ∀ b, 0 < A b → ∃ u, H b = some u
  | _, _, _, _, .fz _ z, b, h => by rw [z b] at h; omega
  | _, _, _, _, .raw z, b, h => by rw [z b] at h; omega
  | _, _, _, _, .exn _ z, b, h => by rw [z b] at h; omega
  | _, _, _, _, .vu _ z, b, h => by rw [z b] at h; omega
  | _, _, _, _, .lst (a := a) e r z, b, h => by
    by_cases q : b = a
    · exact ⟨_, by rw [q]; exact e⟩
    · rw [z b, one_ne q] at h; exact ors_there r b (by omega)
  | _, _, _, _, .ins (a := a) (dx := dx) e e2 l r z, b, h => by
    by_cases q : b = a
    · exact ⟨_, by rw [q]; exact e⟩
    · by_cases q2 : b = dx
      · exact ⟨_, by rw [q2]; exact e2⟩
      · rw [z b, one_ne q, one_ne q2] at h; exact ors_there r b (by omega)
  | _, _, _, _, .dct (a := a) e k r t z, b, h => by
    by_cases q : b = a
    · exact ⟨_, by rw [q]; exact e⟩
    · rw [z b, one_ne q] at h; exact ors_there t b (by omega)
theorem ors_there [Vw] : ∀ {H : Hp} {vs : List V} {os : List O} {A : Fp}, ORs K S H vs os A → ∀ b, 0 < A b → ∃ u, H b = some u
  | _, _, _, _, .nil z, b, h => by rw [z b] at h; omega
  | _, _, _, _, .cons (B := B) q r z, b, h => by
    by_cases q2 : 0 < B b
    · exact or_there q b q2
    · exact ors_there r b (by rw [z b] at h; omega)
end
def VLe (V V' : Vw) : Prop := ∀ b u, V.vw b = some u → V'.vw b = some u
mutual
theorem or_more {V' V : Vw} (hv : VLe V V') : ∀ {H : Hp} {v : L2.V} {o : O} {A : Fp}, @OR _ V K S H v o A → @OR _ V' K S H v o A
  | _, _, _, _, .fz q z => .fz (vwI := V') q z
  | _, _, _, _, .raw z => .raw (vwI := V') z
  | _, _, _, _, .exn q z => .exn (vwI := V') q z
  | _, _, _, _, .lst e r z => .lst (vwI := V') e (ors_more hv r) z
  | _, _, _, _, .ins e e2 l r z => .ins (vwI := V') e e2 l (ors_more hv r) z
  | _, _, _, _, .dct e k r t z => .dct (vwI := V') e k r (ors_more hv t) z
  | _, _, _, _, .vu q z => .vu (vwI := V') (@or_keep _ V' _ _ _ (fun _ _ h => h) _ _ _ _ _ (fun b hb => by
      obtain ⟨u, hu⟩ := or_there q b hb
      rw [hu]; exact hv b u hu) (or_more hv q)) z
theorem ors_more {V' V : Vw} (hv : VLe V V') : ∀ {H : Hp} {vs : List L2.V} {os : List O} {A : Fp}, @ORs _ V K S H vs os A → @ORs _ V' K S H vs os A
  | _, _, _, _, .nil z => .nil (vwI := V') z
  | _, _, _, _, .cons q r z => .cons (vwI := V') (or_more hv q) (ors_more hv r) z
end
mutual
theorem or_less {V V' : Vw} : ∀ {H : Hp} {v : L2.V} {o : O} {A : Fp}, @OR _ V' K S H v o A → noVu o = true → @OR _ V K S H v o A
  | _, _, _, _, .fz q z, _ => .fz (vwI := V) q z
  | _, _, _, _, .raw z, _ => .raw (vwI := V) z
  | _, _, _, _, .exn q z, _ => .exn (vwI := V) q z
  | _, _, _, _, .lst e r z, h => .lst (vwI := V) e (ors_less r (by simpa [noVu] using h)) z
  | _, _, _, _, .ins e e2 l r z, h => .ins (vwI := V) e e2 l (ors_less r (by simpa [noVu] using h)) z
  | _, _, _, _, .dct e k r t z, h => .dct (vwI := V) e k r (ors_less t (by simpa [noVu] using h)) z
  | _, _, _, _, .vu q z, h => by simp [noVu] at h
theorem ors_less {V V' : Vw} : ∀ {H : Hp} {vs : List L2.V} {os : List O} {A : Fp}, @ORs _ V' K S H vs os A → noVus os = true → @ORs _ V K S H vs os A
  | _, _, _, _, .nil z, _ => .nil (vwI := V) z
  | _, _, _, _, .cons q r z, h => by
    rw [noVus, Bool.and_eq_true] at h
    exact .cons (vwI := V) (or_less q h.1) (ors_less r h.2) z
end
theorem wf_less {V V' : Vw} (hv : VLe V V') {A : Fp} (w : @WF _ V' S H A) : @WF _ V S H A := @WF.mk _ V S H A w.sub w.one w.dj w.th w.tb w.ta w.co (fun a u e => w.vs a u (hv a u e)) fun p hp =>
  have c := w.ca p hp
  @CaOk.mk _ V S H A p.1 p.2 c.na c.ns (by
    cases e : V.vw p.1 with
    | none => rfl
    | some u =>
      have h := hv _ u e
      rw [c.nv] at h
      cases h) c.ex
@[reducible] def seeB (V : Vw) (H : Hp) (B : Fp) : Vw := ⟨fun b => if 0 < B b then H b else V.vw b⟩
end
end Ls
namespace Ls
open PySem L2
def roO : O → O
  | .lst xs => .vu (.lst xs)
  | .ins c fn xs => .vu (.ins c fn xs)
  | .dct ks xs => .vu (.dct ks xs)
  | o => o
def roE (ρ : En) : En := ρ.map fun x => x.map roO
def roK {α : Type} (ok : α → Bool) (ρ : En) : Out α → Out α
  | .ok a _ => if ok a then .ok a ρ else .bad
  | .exc x _ => .exc x ρ
  | .bad => .bad
def roF {α : Type} (ok : α → Bool) (f : En → Out α) : En → Out α := fun ρ => roK ok ρ (f (roE ρ))
section
variable [Tb] {K : PySem.W.Frag} {S H : Hp}
theorem or_ro {V : Vw} {v : L2.V} {o : O} {A B : Fp} (q : @OR _ V K S H v o B) (hv : VLe V (seeB V H A)) (hB : ∀ b, B b ≤ A b) : @OR _ (seeB V H A) K S H v (roO o) Fp.z := by
  have q' := or_more hv q
  have see : ∀ b, 0 < B b → (seeB V H A).vw b = H b := fun b hb => if_pos (by have := hB b; omega)
  have kp : ∀ {o : O}, @OR _ (seeB V H A) K S H v o B → @OR _ (seeB V H A) K S H v (.vu o) Fp.z := fun q => .vu (vwI := seeB V H A) (@or_keep _ (seeB V H A) _ _ _ (fun _ _ h => h) _ _ _ _ _ see q) fun _ => rfl
  cases q with
  | fz q z => exact .fz (vwI := seeB V H A) q fun _ => rfl
  | raw z => exact .raw (vwI := seeB V H A) fun _ => rfl
  | exn q z => exact .exn (vwI := seeB V H A) q fun _ => rfl
  | lst e r z => exact kp q'
  | ins e e2 l r z => exact kp q'
  | dct e k r t z => exact kp q'
  | vu q z =>
    cases q' with
    | vu q' z => exact .vu (vwI := seeB V H A) q' fun _ => rfl
theorem er_ro {V : Vw} {σ : L2.St} {ρ : En} {A B : Fp} (e : @ER _ V K S H σ ρ B) (hv : VLe V (seeB V H A)) : (∀ b, B b ≤ A b) → @ER _ (seeB V H A) K S H σ (roE ρ) Fp.z := by
  induction e with
  | nil z => exact fun _ => .nil (vwI := seeB V H A) fun _ => rfl
  | non _ ih => exact fun h => .non (vwI := seeB V H A) (ih h)
  | som q _ z ih => exact fun h => .som (vwI := seeB V H A) (or_ro q hv fun b => by have := h b; rw [z b] at this; omega) (ih fun b => by have := h b; rw [z b] at this; omega) fun _ => rfl
def SndK [Vw] {β α : Type} (K : PySem.W.Frag) (W : WX) (R : RR β α) (t : L2.St → Hp → (β → Hp → Prop) → Prop) (f : En → Out α) : Prop := ∀ σ ρ S H A, WF S H A → ER K S H σ ρ A → match f ρ with
  | .ok a ρ' => ρ' = ρ ∧ ∀ Q, (∀ v S' H' B, WF S' H' (A + B) → (∀ b, 0 < A b → H' b = H b) → (∀ b u, S b = some u → S' b = some u) → R σ S' H' v a B → Tr S H A S' H' (A + B) → Q v H') → t σ H Q
  | .exc x ρ' => ρ' = ρ ∧ ∀ Q, (∀ cls d S' H', WF S' H' A → (∀ b, 0 < A b → H' b = H b) → (∀ b u, S b = some u → S' b = some u) → XR K S' x cls d → Tr S H A S' H' A → W cls d σ H') → t σ H Q
  | .bad => True
theorem SndK.snd [Vw] {β α : Type} {W : WX} {R : RR β α} {t : L2.St → Hp → (β → Hp → Prop) → Prop} {f : En → Out α} (h : SndK K W R t f) : Snd K W R t f := by
  intro σ ρ S H A w e
  have q := h σ ρ S H A w e
  cases hf : f ρ with
  | bad => exact True.intro
  | exc x ρ1 =>
    rw [hf] at q
    obtain ⟨rfl, q⟩ := q
    exact fun Q k => q Q fun cls d S' H' w' kp sub x' t' => k cls d S' H' A w' (er_keep sub e kp) x' t'
  | ok a ρ1 =>
    rw [hf] at q
    obtain ⟨rfl, q⟩ := q
    exact fun Q k => q Q fun v S' H' B w' kp sub r' t' => k v S' H' A B w' (er_keep sub e kp) r' t'
theorem snd_roK [Vw] {β α : Type} {W : WX} {R : Vw → RR β α} {ok : α → Bool} {t : L2.St → Hp → (β → Hp → Prop) → Prop} {f : En → Out α} (hR : ∀ (V V' : Vw) σ S H v a B, ok a = true → R V' σ S H v a B → R V σ S H v a B) (h : ∀ V' : Vw, @Snd _ V' β α K W (R V') t f) : SndK K W (R inferInstance) t (roF ok f) := by
  rename_i V
  intro σ ρ S H A w e
  have hv : VLe V (seeB V H A) := fun b u hb => by
    show (if 0 < A b then H b else V.vw b) = some u
    by_cases z : 0 < A b
    · have := (w.vs b u hb).2.1; omega
    · rw [if_neg z]; exact hb
  have w1 : @WF _ (seeB V H A) S H Fp.z := by
    have w0 : WF S H Fp.z := w.less fun _ => Nat.zero_le _
    refine @WF.mk _ (seeB V H A) S H Fp.z w0.sub w0.one w0.dj w0.th w0.tb w0.ta w0.co (fun b u hb => ?_) fun p hp => @CaOk.mk _ (seeB V H A) S H Fp.z p.1 p.2 rfl (w.ca p hp).ns (by show (if 0 < A p.1 then H p.1 else V.vw p.1) = none; rw [if_neg (by have := (w.ca p hp).na; omega)]; exact (w.ca p hp).nv) (w.ca p hp).ex
    have hb : (if 0 < A b then H b else V.vw b) = some u := hb
    by_cases z : 0 < A b
    · rw [if_pos z] at hb
      exact ⟨hb, rfl, fun t => by have := (w.ta b t).1; omega⟩
    · rw [if_neg z] at hb
      exact ⟨(w.vs b u hb).1, rfl, (w.vs b u hb).2.2⟩
  have e1 := er_ro e hv fun _ => Nat.le_refl _
  have h1 := h (seeB V H A) σ (roE ρ) S H Fp.z w1 e1
  have wz : WF S H (Fp.z + A) := by rw [add_comm', addz]; exact w
  have tz : ∀ {S' H' : Hp} {B : Fp}, Tr S H (Fp.z + A) S' H' B → Tr S H A S' H' B := fun t => by rw [add_comm', addz] at t; exact t
  unfold roF
  cases hf : f (roE ρ) with
  | bad => exact True.intro
  | exc x ρ1 =>
    rw [hf] at h1
    refine ⟨rfl, fun Q k => h1 Q fun cls d S' H' A' w' e' x' t' => ?_⟩
    have fr := (t'.less (B := Fp.z) fun _ => Nat.zero_le _).frame wz (wf_less hv ((@WF.less _ (seeB V H A) _ _ _ _ w' fun _ => Nat.zero_le _)))
    refine k cls d S' H' (fr.1.less fun b => by rw [add_at]; omega) (fun b hb => (fr.2 b hb).1) t'.fz x' ?_
    exact tz ((t'.less (B := Fp.z) fun _ => Nat.zero_le _).frameTr.less fun b => by rw [add_at]; omega)
  | ok a ρ1 =>
    rw [hf] at h1
    show (match (if ok a then Out.ok a ρ else Out.bad) with
      | .ok a ρ' => ρ' = ρ ∧ ∀ Q, (∀ v S' H' B, WF S' H' (A + B) → (∀ b, 0 < A b → H' b = H b) → (∀ b u, S b = some u → S' b = some u) → R V σ S' H' v a B → Tr S H A S' H' (A + B) → Q v H') → t σ H Q
      | .exc x ρ' => ρ' = ρ ∧ ∀ Q, (∀ cls d S' H', WF S' H' A → (∀ b, 0 < A b → H' b = H b) → (∀ b u, S b = some u → S' b = some u) → XR K S' x cls d → Tr S H A S' H' A → W cls d σ H') → t σ H Q
      | .bad => True)
    by_cases ho : ok a = true
    · rw [if_pos ho]
      refine ⟨rfl, fun Q k => h1 Q fun v S' H' A' B w' e' r' t' => ?_⟩
      have lB : ∀ b, B b ≤ (A' + B) b := fun b => by rw [add_at]; omega
      have fr := (t'.less lB).frame wz (wf_less hv (@WF.less _ (seeB V H A) _ _ _ _ w' lB))
      refine k v S' H' B (fr.1.less fun b => by simp only [add_at]; omega) (fun b hb => (fr.2 b hb).1) t'.fz (hR V _ σ S' H' v a B ho r') ?_
      exact tz ((t'.less lB).frameTr.less fun b => by simp only [add_at]; omega)
    · rw [if_neg ho]; exact True.intro
end
variable [Tb] [Vw]
section
variable {X : Cx} {W : WX} {e : Expr} {es : List Expr}
def eRO (f : FE) : FE := roF noVu f
def tRO (f : FT) : FT := roF (fun _ => true) f
theorem snd_imp {β α : Type} {K : PySem.W.Frag} {W : WX} {R : RR β α} {t t' : L2.St → Hp → (β → Hp → Prop) → Prop} {f : En → Out α} (hi : ∀ σ H Q, t σ H Q → t' σ H Q) (h : Snd K W R t f) : Snd K W R t' f := by
  intro σ ρ S H A w e
  have q := h σ ρ S H A w e
  cases hf : f ρ with
  | bad => exact True.intro
  | exc x ρ1 => rw [hf] at q; exact fun Q k => hi _ _ _ (q Q k)
  | ok a ρ1 => rw [hf] at q; exact fun Q k => hi _ _ _ (q Q k)
structure EVr (X : Cx) (W : WX) (e : Expr) (f : FE) : Prop where
  ex : ∃ t, PE X e t ∧ SndK X.K W (ROr X.K) t f
theorem evr_ro {f : FE} (h : ∀ V' : Vw, @EV _ V' X W e f) : EVr X W e (eRO f) := by
  refine ⟨fun σ H Q => ∃ V' : Vw, @rdV _ V' _ _ X.K W (@ROr _ V' X.K) f σ H Q, ⟨fun pins s σ H Q I ⟨V', q⟩ => (@EV.pe _ V' _ _ _ _ (h V')).run pins s σ H Q I q⟩, ?_⟩
  exact snd_roK (R := fun V' => @ROr _ V' X.K) (fun V V' σ S H v a B ho r => or_less r ho) fun V' => @snd_imp _ V' _ _ _ _ _ _ _ _ (fun σ H Q q => ⟨V', q⟩) (@snd_rd _ V' _ _ _ _ _ _)
theorem EVr.ev {f : FE} (h : EVr X W e f) : EV X W e f := let ⟨t, h1, h2⟩ := h.ex; ⟨t, h1, h2.snd⟩
theorem ev_ro {f : FE} (h : ∀ V' : Vw, @EV _ V' X W e f) : EV X W e (eRO f) := (evr_ro h).ev
theorem tv_ro {f : FT} (h : ∀ V' : Vw, @TV _ V' X W e f) : TV X W e (tRO f) := by
  refine ⟨fun σ H Q => ∃ V' : Vw, @rdV _ V' _ _ X.K W (REq Bool) f σ H Q, ⟨fun pins s σ H Q I ⟨V', q⟩ => (@TV.pt _ V' _ _ _ _ (h V')).run pins s σ H Q I q⟩, ?_⟩
  exact (snd_roK (R := fun _ => REq Bool) (fun V V' σ S H v a B ho r => r) fun V' => @snd_imp _ V' _ _ _ _ _ _ _ _ (fun σ H Q q => ⟨V', q⟩) (@snd_rd _ V' _ _ _ _ _ _)).snd
end
end Ls
namespace Ls
open PySem L2
variable [Tb] [Vw]
def fldAt : List Str → List O → Str → Nat → Option O
  | g :: _, o :: _, f, 0 => if g = f then some o else none
  | _ :: fn, _ :: os, f, k + 1 => fldAt fn os f k
  | _, _, _, _ => none
def objF (cn f : Str) (k : Nat) : List (PyData × PyData) → Option PyData
  | (.list [.str c], .none) :: r => if c = cn then (match r[k]? with
    | some (.str g, d) => if g = f then some d else none
    | _ => none) else none
  | _ => none
def seeO : O → Option O
  | .fz d => some (.fz d)
  | .raw v => some (.raw v)
  | _ => none
def fldO (cn f : Str) (k : Nat) : O → Option O
  | .ins c fn os => if c = cn then (fldAt fn os f k).bind seeO else none
  | .vu (.ins c fn os) => if c = cn then (fldAt fn os f k).map roO else none
  | .fz (.dict kvs) => (objF cn f k kvs).map .fz
  | _ => none
structure ClF (K : PySem.W.Frag) (cn f : Str) : Prop where
  cl : Cls K (He.ga K cn)
  no : NoAttr K (He.ga K cn) f
def eFld (cn f : Str) (k : Nat) (fa : FP) : FE := fun ρ => (fa ρ).bind fun a ρ1 => match (pkO ρ1 a).bind (fldO cn f k) with
  | some o => .ok o ρ1
  | none => .bad
section
variable {K : PySem.W.Frag} {W : WX} {S H : Hp} {A B : Fp} {σ : L2.St} {ρ : En}
theorem lookup_zip {β : Type} : ∀ {fn : List Str} {vs : List β} {f : Str} {k : Nat} {v : β}, fn.Nodup → fn[k]? = some f → vs[k]? = some v → (fn.zip vs).lookup f = some v
  | [], _, _, _, _, _, h, _ => by simp at h
  | _ :: _, [], _, _, _, _, _, h => by simp at h
  | g :: fn, u :: vs, f, 0, v, _, h, h2 => by
    simp at h h2
    subst h; subst h2
    simp [List.lookup]
  | g :: fn, u :: vs, f, k + 1, v, nd, h, h2 => by
    simp at h h2
    have ne : (f == g) = false := by
      have hm : f ∈ fn := List.mem_of_getElem? h
      have := (List.nodup_cons.mp nd).1
      exact beq_eq_false_iff_ne.mpr fun e => this (e ▸ hm)
    rw [List.zip_cons_cons, List.lookup_cons, ne]
    exact lookup_zip (List.nodup_cons.mp nd).2 h h2
theorem fldAt_get : ∀ {fn : List Str} {os : List O} {f : Str} {k : Nat} {o : O}, fldAt fn os f k = some o → fn[k]? = some f ∧ os[k]? = some o
  | [], _, _, _, _, h => by simp [fldAt] at h
  | _ :: _, [], _, k, _, h => by cases k <;> simp [fldAt] at h
  | g :: fn, o' :: os, f, 0, o, h => by
    have h : (if g = f then some o' else none) = some o := h
    by_cases z : g = f
    · rw [if_pos z] at h; cases h; subst z; exact ⟨rfl, rfl⟩
    · rw [if_neg z] at h; cases h
  | g :: fn, o' :: os, f, k + 1, o, h => by
    have := fldAt_get (fn := fn) (os := os) (show fldAt fn os f k = some o from h)
    simpa using this
theorem ors_get : ∀ {H : Hp} {vs : List V} {os : List O} {B : Fp} {k : Nat} {o : O}, ORs K S H vs os B → os[k]? = some o → ∃ v B', vs[k]? = some v ∧ OR K S H v o B'
  | _, _, _, _, _, _, .nil _, h => by simp at h
  | _, _, _, _, 0, _, .cons q r z, h => by simp at h; subst h; exact ⟨_, _, rfl, q⟩
  | _, _, _, _, k + 1, _, .cons q r z, h => by
    obtain ⟨v, B', h1, h2⟩ := ors_get r (by simpa using h)
    exact ⟨v, B', by simpa using h1, h2⟩
theorem fld_ins {H : Hp} {fn : List Str} {vs : List V} {os : List O} {B : Fp} {f : Str} {k : Nat} {o : O} (r : ORs K S H vs os B) (l : vs.length = fn.length ∧ fn.Nodup ∧ fn.length ≤ 50) (h : fldAt fn os f k = some o) : ∃ v B', (fn.zip vs).lookup f = some v ∧ OR K S H v o B' := by
  obtain ⟨h1, h2⟩ := fldAt_get h
  obtain ⟨v, B', h3, h4⟩ := ors_get r h2
  exact ⟨v, B', lookup_zip l.2.1 h1 h3, h4⟩
theorem zip_get {ks : List PyData} {ds : List PyData} {k : Nat} {a b : PyData} (h : (ks.zip ds)[k]? = some (a, b)) : ks[k]? = some a ∧ ds[k]? = some b := by
  rw [List.getElem?_zip_eq_some] at h
  exact h
theorem fld_or {T : Fp} {x : V} {o o' : O} {cn f : Str} {k : Nat} (w : WF S H T) (q : OR K S H x o B) (h : fldO cn f k o = some o') : ∃ a dx fs v, x = .ref a ∧ H a = some (.ins (He.ga K cn) dx fs) ∧ fs.lookup f = some v ∧ OR K S H v o' Fp.z := by
  cases q with
  | @ins _ _ _ c _ _ _ _ _ e e2 l r z =>
    have hh : (if c = cn then (fldAt _ _ f k).bind seeO else none) = some o' := h
    by_cases hc : c = cn
    · rw [if_pos hc] at hh
      subst hc
      obtain ⟨o1, h1, h2⟩ := Option.bind_eq_some_iff.mp hh
      obtain ⟨v, B', h3, h4⟩ := fld_ins r l h1
      refine ⟨_, _, _, v, rfl, e, h3, ?_⟩
      cases h4 with
      | fz q z => cases h2; exact .fz q fun _ => rfl
      | raw z => cases h2; exact .raw fun _ => rfl
      | _ => cases h2
    · rw [if_neg hc] at hh; cases hh
  | vu q z =>
    cases q with
    | @ins _ _ _ c _ _ _ _ _ e e2 l r z =>
      have hh : (if c = cn then (fldAt _ _ f k).map roO else none) = some o' := h
      by_cases hc : c = cn
      · rw [if_pos hc] at hh
        subst hc
        obtain ⟨o1, h1, h2⟩ := Option.map_eq_some_iff.mp hh
        subst h2
        obtain ⟨v, B', h3, h4⟩ := fld_ins r l h1
        refine ⟨_, _, _, v, rfl, (w.vs _ _ e).1, h3, ?_⟩
        cases h4 with
        | fz q z => exact .fz q fun _ => rfl
        | raw z => exact .raw fun _ => rfl
        | exn q z => exact .exn q fun _ => rfl
        | lst a b c => exact .vu (.lst a b c) fun _ => rfl
        | ins a b c d e => exact .vu (.ins a b c d e) fun _ => rfl
        | dct a b c d e => exact .vu (.dct a b c d e) fun _ => rfl
        | vu q z => exact .vu q fun _ => rfl
      · rw [if_neg hc] at hh; cases hh
    | fz q z => cases h
    | raw z => cases h
    | exn q z => cases h
    | lst a b c => cases h
    | dct a b c d e => cases h
    | vu q z => cases h
  | @fz _ _ d _ q z =>
    cases d with
    | dict kvs =>
      obtain ⟨d, h1, h2⟩ := Option.map_eq_some_iff.mp (show (objF cn f k kvs).map O.fz = some o' from h)
      subst h2
      cases q with
      | cch _ z => subst z; cases h1
      | dct a b c d e =>
        subst e
        exfalso
        unfold objF at h1
        split at h1
        · rename_i c' r hz
          have h0 := congrArg (fun l : List (PyData × PyData) => l[0]?) hz
          obtain ⟨hk, _⟩ := zip_get (show _ = some (PyData.list [PyData.str c'], PyData.none) from h0)
          have bk := b.en
          revert hk
          generalize (Array.toList _) = es at bk
          cases bk with
          | nil => intro hk; simp at hk
          | cons k1 _ _ _ _ _ => intro hk; simp at hk; subst hk; simp [keyOf] at k1
        · cases h1
      | @obj a dx c fn vs ds _ e l r z =>
        subst z
        have hh : (if c = cn then (match ((fn.map PyData.str).zip ds)[k]? with
          | some (.str g, d) => if g = f then some d else none
          | _ => none) else none) = some d := h1
        clear h1
        by_cases hc : c = cn
        · rw [if_pos hc] at hh
          subst hc
          split at hh
          · rename_i g d' hz
            by_cases hg : g = f
            · rw [if_pos hg] at hh
              subst hg
              cases hh
              obtain ⟨hk, hd⟩ := zip_get hz
              rw [List.getElem?_map] at hk
              obtain ⟨g', hk1, hk2⟩ := Option.map_eq_some_iff.mp hk
              cases hk2
              obtain ⟨v, hv, hdp⟩ := dpall_get r hd
              exact ⟨_, _, _, v, rfl, w.sub _ _ e, lookup_zip l.2.1 hk1 hv, .fz hdp fun _ => rfl⟩
            · rw [if_neg hg] at hh; cases hh
          · cases hh
        · rw [if_neg hc] at hh; cases hh
    | _ => cases h
  | _ => cases h
theorem sndE_fld {cn f : Str} {k : Nat} {ta : TE} {fa : FP} (hc : ClF K cn f) (ha : SndP K W ta fa) : SndE K W (tFld K ta f) (eFld cn f k fa) := by
  refine snd_one (r := fun x H Q => ∃ a C dx fs v, x = .ref a ∧ H a = some (.ins C dx fs) ∧ Cls K C ∧ NoAttr K C f ∧ fs.lookup f = some v ∧ Q v H) ha fun x a σ ρ S H A B w e ra => ?_
  cases h : (pkO ρ a).bind (fldO cn f k) with
  | none => exact True.intro
  | some o' =>
    obtain ⟨o, h1, h2⟩ := Option.bind_eq_some_iff.mp h
    obtain ⟨B', q⟩ := ra o h1
    obtain ⟨a, dx, fs, v, ex, hH, hl, q'⟩ := fld_or w q h2
    intro Q k
    exact ⟨a, _, dx, fs, v, ex, hH, hc.cl, hc.no, hl, k v S H A Fp.z (by rw [addz]; exact w.less le1) e q' (by rw [addz]; exact Tr.refl.less le1)⟩
end
section
variable {X : Cx} {W : WX} {a : Expr} {fa : FP} {pos : Pos}
theorem ev_fld {cn f : Str} (k : Nat) (hc : ClF X.K cn f) (ha : PV X W a fa) (hb : attributeBase a f X.env (eval a X.env) = eval a X.env := by rfl) : EV X W (.Attribute a f pos) (eFld cn f k fa) := let ⟨_, a1, a2⟩ := ha.ex; ⟨_, pe_fld a1 hb, sndE_fld hc a2⟩
end
end Ls
namespace Ls
open PySem L2
variable [Tb] [Vw]
def putAt2 : List Str → List O → Str → Nat → O → Option (List O)
  | g :: _, _ :: os, f, 0, o => if g = f then some (o :: os) else none
  | _ :: fn, x :: os, f, k + 1, o => (putAt2 fn os f k o).map fun os => x :: os
  | _, _, _, _, _ => none
def setF (cn f : Str) (k : Nat) (o : O) : O → Option O
  | .ins c fn os => if c = cn then (putAt2 fn os f k o).map fun os => .ins c fn os else none
  | _ => none
def newFOk (fn : List Str) (f : Str) : Bool := decide (fn.length < 50) && !fn.contains f
def addF (cn f : Str) (o : O) : O → Option O
  | .ins c fn os => if c = cn then (if newFOk fn f then some (.ins c (fn ++ [f]) (os ++ [o])) else none) else none
  | _ => none
def sFldK (g : O → O → Option O) (i : Nat) (fe : FE) : FS := fun ρ => (fe ρ).toS fun o ρ1 => match ((ρ1[i]?).bind id).bind (g o) with
  | some o' => .nx (ρ1.set i (some o'))
  | none => .bad
def sFldN (cn f : Str) (i : Nat) (fe : FE) : FS := sFldK (addF cn f) i fe
section
variable {K : PySem.W.Frag} {W : WX} {P : List Nat} {S H : Hp} {A B : Fp} {σ : L2.St} {ρ : En}
theorem putF_old {f : Str} {y : V} : ∀ {fn : List Str} {vs : List V} {k : Nat}, fn.Nodup → vs.length = fn.length → fn[k]? = some f → putF f y (fn.zip vs) = fn.zip (vs.set k y)
  | [], _, _, _, _, h => by simp at h
  | _ :: _, [], _, _, l, _ => by simp at l
  | g :: fn, u :: vs, 0, _, _, h => by
    simp at h
    subst h
    rw [List.zip_cons_cons, putF, if_pos rfl]
    rfl
  | g :: fn, u :: vs, k + 1, nd, l, h => by
    simp at h l
    have hm : f ∈ fn := List.mem_of_getElem? h
    have ne : g ≠ f := fun e => (List.nodup_cons.mp nd).1 (e ▸ hm)
    rw [List.zip_cons_cons, putF, if_neg ne, putF_old (List.nodup_cons.mp nd).2 l h]
    rfl
theorem putF_new {f : Str} {y : V} : ∀ {fn : List Str} {vs : List V}, vs.length = fn.length → f ∉ fn → putF f y (fn.zip vs) = (fn ++ [f]).zip (vs ++ [y])
  | [], [], _, _ => rfl
  | [], _ :: _, l, _ => by simp at l
  | _ :: _, [], l, _ => by simp at l
  | g :: fn, u :: vs, l, h => by
    have ne : g ≠ f := fun e => h (e ▸ List.mem_cons_self)
    rw [List.zip_cons_cons, putF, if_neg ne, putF_new (by simpa using l) fun z => h (List.mem_cons_of_mem _ z)]
    rfl
theorem putAt2_get : ∀ {fn : List Str} {os os' : List O} {f : Str} {k : Nat} {o : O}, putAt2 fn os f k o = some os' → fn[k]? = some f ∧ os' = os.set k o
  | [], _, _, _, _, _, h => by simp [putAt2] at h
  | _ :: _, [], _, _, k, _, h => by cases k <;> simp [putAt2] at h
  | g :: fn, x :: os, os', f, 0, o, h => by
    have hh : (if g = f then some (o :: os) else none) = some os' := h
    by_cases z : g = f
    · rw [if_pos z] at hh; cases hh; subst z; exact ⟨rfl, rfl⟩
    · rw [if_neg z] at hh; cases hh
  | g :: fn, x :: os, os', f, k + 1, o, h => by
    obtain ⟨os2, h1, h2⟩ := Option.map_eq_some_iff.mp (show (putAt2 fn os f k o).map (fun os => x :: os) = some os' from h)
    have := putAt2_get h1
    subst h2
    simp [this]
theorem ors_setF : ∀ {vs : List V} {os : List O} {A B : Fp} {y : V} {o : O} (k : Nat), ORs K S H vs os A → OR K S H y o B → ∃ C, ORs K S H (vs.set k y) (os.set k o) C ∧ ∀ b, C b ≤ A b + B b
  | _, _, A, B, _, _, k, .nil z, q => ⟨A, .nil z, fun b => by omega⟩
  | _, _, A, B, _, _, 0, .cons q' r z, q => ⟨fun b => B b + _, .cons q r fun _ => rfl, fun b => by dsimp only; rw [z b]; omega⟩
  | _, _, A, B, _, _, k + 1, .cons q' r z, q => by
    obtain ⟨C, h1, h2⟩ := ors_setF k r q
    exact ⟨fun b => _ + C b, .cons q' h1 fun _ => rfl, fun b => by have := h2 b; rw [z b]; show _ + C b ≤ _; omega⟩
theorem ors_add : ∀ {vs : List V} {os : List O} {A B : Fp} {y : V} {o : O}, ORs K S H vs os A → OR K S H y o B → ORs K S H (vs ++ [y]) (os ++ [o]) (fun b => A b + B b)
  | _, _, A, B, _, _, .nil z, q => .cons q (.nil (A := Fp.z) fun _ => rfl) fun b => by rw [z b, z_at]; omega
  | _, _, A, B, _, _, .cons q' r z, q => .cons q' (ors_add r q) fun b => by rw [z b]; omega
theorem fld_put {cn f : Str} {i : Nat} {y : V} {o o0 o' : O} {g : O → O → Option O} (hg : (∃ k, g = setF cn f k) ∨ g = addF cn f) (w : WF S H (A + B)) (e : ER K S H σ ρ A) (r : OR K S H y o B) (hi : ρ[i]? = some (some o0)) (hs : g o o0 = some o') :
    ∃ a dx fs, σ[i]? = some (some (.ref a)) ∧ H a = some (.ins (He.ga K cn) dx fs) ∧ fs.length < 1000 ∧ ∃ A2, WF S (upd H a (.ins (He.ga K cn) dx (putF f y fs))) A2 ∧ ER K S (upd H a (.ins (He.ga K cn) dx (putF f y fs))) σ (ρ.set i (some o')) A2 ∧ Tr S H (A + B) S (upd H a (.ins (He.ga K cn) dx (putF f y fs))) A2 := by
  obtain ⟨v, Bi, C, e1, q, e2, z⟩ := er_get e hi
  cases o0 with
  | ins c fn os =>
    cases q with
    | @ins _ a dx _ _ vs _ _ B1 eH eD l r1 z1 =>
      have hl : (fn.zip vs).length < 1000 := by
        have h1 : (fn.zip vs).length = min fn.length vs.length := List.length_zip
        have h2 := l.2.2
        omega
      have key : ∃ fn' vs' os' B2, c = cn ∧ o' = .ins c fn' os' ∧ putF f y (fn.zip vs) = fn'.zip vs' ∧ (vs'.length = fn'.length ∧ fn'.Nodup ∧ fn'.length ≤ 50) ∧ ORs K S H vs' os' B2 ∧ ∀ b, B2 b ≤ B1 b + B b := by
        rcases hg with ⟨k, rfl⟩ | rfl
        · have hh : (if c = cn then (putAt2 fn os f k o).map (fun os => O.ins c fn os) else none) = some o' := hs
          by_cases hc : c = cn
          · rw [if_pos hc] at hh
            obtain ⟨os', h1, h2⟩ := Option.map_eq_some_iff.mp hh
            obtain ⟨h3, h4⟩ := putAt2_get h1
            obtain ⟨B2, h5, h6⟩ := ors_setF k r1 r
            exact ⟨fn, vs.set k y, os', B2, hc, h2.symm, putF_old l.2.1 l.1 h3, ⟨by rw [List.length_set]; exact l.1, l.2⟩, by rw [h4]; exact h5, h6⟩
          · rw [if_neg hc] at hh; cases hh
        · have hh : (if c = cn then (if newFOk fn f then some (O.ins c (fn ++ [f]) (os ++ [o])) else none) else none) = some o' := hs
          by_cases hc : c = cn
          · rw [if_pos hc] at hh
            by_cases hn : newFOk fn f = true
            · rw [if_pos hn] at hh
              cases hh
              unfold newFOk at hn
              rw [Bool.and_eq_true, decide_eq_true_eq, Bool.not_eq_true'] at hn
              have hni : f ∉ fn := fun hm => by
                rw [List.contains_iff_mem.mpr hm] at hn
                cases hn.2
              refine ⟨_, vs ++ [y], _, _, hc, rfl, putF_new l.1 hni, ⟨by simp [l.1], ?_, by simp; omega⟩, ors_add r1 r, fun _ => Nat.le_refl _⟩
              rw [List.nodup_append]
              exact ⟨l.2.1, by simp, fun a ha b hb => by simp at hb; subst hb; exact fun e => hni (e ▸ ha)⟩
            · rw [if_neg hn] at hh; cases hh
          · rw [if_neg hc] at hh; cases hh
      obtain ⟨fn', vs', os', B2, hc, ho', hp, l', r2, hB2⟩ := key
      subst hc
      have oa := w.one a
      have oa2 : A a = Bi a + C a := z a
      have oa3 := z1 a
      rw [add_at] at oa
      rw [one_same] at oa3
      obtain ⟨w1, t1⟩ := mutO (D := a) (u := .ins (He.ga K c) dx (putF f y (fn.zip vs))) w (by rw [add_at]; omega)
      have dxa : dx ≠ a := fun e => by rw [e, eH] at eD; cases eD
      have kp : ∀ {F : Fp}, F a = 0 → ∀ b, 0 < F b → upd H a (.ins (He.ga K c) dx (putF f y (fn.zip vs))) b = H b := fun hF b hb => upd_ne fun e => by rw [e] at hb; omega
      have hb2 := hB2 a
      have o1 : OR K S (upd H a (.ins (He.ga K c) dx (putF f y (fn.zip vs)))) (.ref a) (.ins c fn' os') (fun b => Fp.one a b + (Fp.one dx b + B2 b)) := by
        refine .ins (dx := dx) (vs := vs') (B := B2) (by rw [upd_same, hp]) (by rw [upd_ne dxa]; exact eD) l' (ors_keep (fun _ _ h => h) (kp (by have := one_ne (a := dx) (b := a) (fun e => dxa e.symm); rw [this] at oa3; omega)) r2) fun _ => rfl
      have e3 : ER K S (upd H a (.ins (He.ga K c) dx (putF f y (fn.zip vs)))) σ (ρ.set i none) C := er_keep (fun _ _ h => h) e2 (kp (by omega))
      have e4 := er_back e3 e1 (set_none_get hi) o1
      rw [List.set_set] at e4
      have le : ∀ b, (fun b => (Fp.one a b + (Fp.one dx b + B2 b)) + C b) b ≤ (A + B) b := fun b => by
        have h1 := hB2 b
        have h2 := z1 b
        have h3 := z b
        rw [add_at]
        dsimp only
        omega
      rw [ho']
      exact ⟨a, dx, _, e1, eH, hl, _, w1.less le, e4, t1.less le⟩
  | _ =>
    exfalso
    rcases hg with ⟨k, rfl⟩ | rfl <;> cases hs
theorem sndS_fld {cn f : Str} {i : Nat} {t : TE} {fe : FE} {g : O → O → Option O} (hg : (∃ k, g = setF cn f k) ∨ g = addF cn f) (hc : ClF K cn f) (h : SndE K W t fe) : SndS K W P (sFld K (tVar i) t f) (sFldK g i fe) := by
  refine sndS_bind (u := fun y D σ H => tVar i σ H fun x H2 => ∃ a C dx fs, x = .ref a ∧ H2 a = some (.ins C dx fs) ∧ Cls K C ∧ NoAttr K C f ∧ fs.length < 1000 ∧ D.nx σ (upd H2 a (.ins C dx (putF f y fs)))) h fun y o σ ρ S H A B w e r => ?_
  show SOk K W P σ S H (A + B) _ (match ((ρ[i]?).bind id).bind (g o) with
    | some o' => SO.nx (ρ.set i (some o'))
    | none => .bad)
  cases hs : ((ρ[i]?).bind id).bind (g o) with
  | none => exact True.intro
  | some o' =>
    intro D k
    obtain ⟨o0, h1, h2⟩ := Option.bind_eq_some_iff.mp hs
    obtain ⟨x0, h3, h4⟩ := Option.bind_eq_some_iff.mp h1
    have h4 : x0 = some o0 := h4
    subst h4
    obtain ⟨a, dx, fs, e1, eH, hl, A2, w2, e2, t2⟩ := fld_put hg w e r h3 h2
    exact ⟨_, e1, a, _, dx, fs, rfl, eH, hc.cl, hc.no, hl, k σ S _ A2 w2 e2 t2 Kp.refl⟩
end
section
variable {X : Cx} {W : WX} {P : List Nat} {e : Expr} {fe : FE} {pos pos' tpos p1 : Pos}
theorem sv_fld {cn f : Str} {g : O → O → Option O} (i : Nat) {x : Str} (hg : (∃ k, g = setF cn f k) ∨ g = addF cn f) (hc : ClF X.K cn f) (h : EV X W e fe) (hN : X.N[i]? = some x := by rfl) (hv : Vis X.env.scope x := by first | exact Or.inl rfl | exact Or.inr (Or.inl rfl) | exact Or.inr (Or.inr rfl)) (hd : (x == ("__debug__" : Str)) = false := by decide) (hcd : (x == ("__classdict__" : Str)) = false := by decide)
    (hs : swapsWith e (some (.Attribute (.Name x p1) f pos')) pos.line X.env = pure false := by rfl) : SV X W P (.Assign [.Attribute (.Name x p1) f pos'] e pos) (sFldK g i fe) :=
  let ⟨_, e1, e2⟩ := h.ex; ⟨_, ps_fld (pe_var hN hv hd hcd) e1 hs, sndS_fld hg hc e2⟩
theorem sv_fldN {cn f : Str} (i : Nat) {x : Str} (hc : ClF X.K cn f) (h : EV X W e fe) (hN : X.N[i]? = some x := by rfl) (hv : Vis X.env.scope x := by first | exact Or.inl rfl | exact Or.inr (Or.inl rfl) | exact Or.inr (Or.inr rfl)) (hd : (x == ("__debug__" : Str)) = false := by decide) (hcd : (x == ("__classdict__" : Str)) = false := by decide)
    (hs : swapsWith e (some (.Attribute (.Name x p1) f pos')) pos.line X.env = pure false := by rfl) : SV X W P (.Assign [.Attribute (.Name x p1) f pos'] e pos) (sFldN cn f i fe) := sv_fld i (.inr rfl) hc h hN hv hd hcd hs
end
end Ls
namespace Ls
open PySem L2
def tConsM (C : Addr) (m : Str) (ta : TE) (t : TA) : TA := fun σ H Q => ta σ H fun x H1 => (∃ a dx fs, x = V.ref a ∧ H1 a = some (.ins C dx fs) ∧ fs.lookup m = none) ∧ t σ H1 fun vs H2 => Q (x :: vs) H2
def tMakeSD (C : Addr) (sp : Sp) (dvs : List V) (E : L2.St → XK) (t : TA) : TE := fun σ H Q => t σ H fun vs H1 => ∀ x dx, H1 x = none → H1 dx = none → dx ≠ x →
  sp (.ref x :: (vs ++ dvs)) (upd (upd H1 dx (.own x)) x (.ins C dx [])) (fun v H2 => v = .non ∧ Q (.ref x) H2) (E σ)
section
variable {X : Cx} {CX : CXT} {k : Nat} {f C : Addr} {fd : FuncData} {ps : List Str} {sp : Sp} {dvs : List V} {ds : List Value} {E : L2.St → XK} {x m : Str} {p pos apos : Pos} {e o : Expr} {es : List Expr} {ta : TE} {t : TA}
theorem pe_methSD {pl : Sem Bool} (he : PE X o ta) (c : Cls X.K C) (hm : Meth X.K C m f) (G : FnOk X.prog X.w X.K X.mg X.base CX k f fd ps sp) (hr : Room k X.A) (hb : Binds X.K fd ps ds) (hd : Vals dvs ds) (hx : ∀ σ, PassesAt CX X σ (E σ)) (ha : PA X (e :: es) t)
    (hst : starEach (e :: es) X.env = (false, eval e X.env) :: starEach es X.env := by rfl) (hpl : (backTo pos (starEach es X.env)).any (·.1) = false := by rfl)
    (ht : eval (.Call (.Attribute o m apos) (e :: es) [] pos) X.env = (do
      let ov ← eval o X.env
      standAt apos.atName
      let (g, first) ← holding [ov] (getMethod ov m pl)
      callWith pos g first (backTo pos (starEach (e :: es) X.env)) (backToKw pos (keywordEach [] X.env))) := by rfl) : PE X (.Call (.Attribute o m apos) (e :: es) [] pos) (tCallSD sp dvs E (tConsM C m ta t)) := by
  refine ⟨fun pins s σ H Q I h => PySem.W.methodCall_KW (pl := pl) (thn (he.run pins s σ H _ I h) fun u s1 z => ?_) ht⟩
  obtain ⟨y, H1, I1, ry, ⟨a, dx, fs, ey, ea, l⟩, q⟩ := z
  subst ey
  obtain rfl : u = Value.ref a := ry
  refine getmeth_ok I1 ea c hm l (PySem.W.callWith_K (first := [.ref a]) (h₀ := X.base) I.ok.mod.kin hm.kp (thn (ha.run pos pins s1 σ H1 _ I1 q) fun us s2 z2 => ?_) hst hpl)
  obtain ⟨vs, H2, I2, r, q2⟩ := z2
  exact ⟨I2.kIn, run_fnSD (us := .ref a :: us) (vs := .ref a :: vs) G hr hb hd (hx σ) I2 (.cons rfl r) q2⟩
theorem pe_meth0SD {pl : Sem Bool} (he : PE X o ta) (c : Cls X.K C) (hm : Meth X.K C m f) (G : FnOk X.prog X.w X.K X.mg X.base CX k f fd ps sp) (hr : Room k X.A) (hb : Binds X.K fd ps ds) (hd : Vals dvs ds) (hx : ∀ σ, PassesAt CX X σ (E σ))
    (ht : eval (.Call (.Attribute o m apos) [] [] pos) X.env = (do
      let ov ← eval o X.env
      standAt apos.atName
      let (g, first) ← holding [ov] (getMethod ov m pl)
      callWith pos g first (backTo pos (starEach [] X.env)) (backToKw pos (keywordEach [] X.env))) := by rfl) : PE X (.Call (.Attribute o m apos) [] [] pos) (tCallSD sp dvs E (tConsM C m ta tNil)) := by
  refine ⟨fun pins s σ H Q I h => PySem.W.methodCall_KW (pl := pl) (thn (he.run pins s σ H _ I h) fun u s1 z => ?_) ht⟩
  obtain ⟨y, H1, I1, ry, ⟨a, dx, fs, ey, ea, l⟩, q⟩ := z
  subst ey
  obtain rfl : u = Value.ref a := ry
  exact getmeth_ok I1 ea c hm l (PySem.W.callWith_K0 (first := [.ref a]) I1.kIn hm.kp (run_fnSD (us := [.ref a]) (vs := [.ref a]) G hr hb hd (hx σ) I1 (.cons rfl .nil) q))
end
def objIs (cn : Str) (fnL : List Str) : List (PyData × PyData) → Bool
  | (.list [.str c], .none) :: r => decide (c = cn) && r.all fun p => match p.1 with
    | .str g => fnL.contains g
    | _ => false
  | _ => false
def recvOk (cn : Str) (fnL : List Str) : O → Bool
  | .ins c fn _ => decide (c = cn) && decide (fn = fnL)
  | .vu (.ins c fn _) => decide (c = cn) && decide (fn = fnL)
  | .fz (.dict kvs) => objIs cn fnL kvs
  | _ => false
theorem lookup_notin {β : Type} {m : Str} : ∀ {fn : List Str} {vs : List β}, m ∉ fn → (fn.zip vs).lookup m = none
  | [], _, _ => rfl
  | _ :: _, [], _ => rfl
  | g :: fn, u :: vs, h => by
    have ne : (m == g) = false := beq_eq_false_iff_ne.mpr fun e => h (e ▸ List.mem_cons_self)
    rw [List.zip_cons_cons, List.lookup_cons, ne]
    exact lookup_notin fun z => h (List.mem_cons_of_mem _ z)
variable [Tb] [Vw]
section
variable {K : PySem.W.Frag} {W : WX} {S H : Hp} {A B : Fp} {σ : L2.St} {ρ : En} {cn m : Str} {fnL : List Str}
theorem recv_or {T : Fp} {x : V} {o : O} (w : WF S H T) (q : OR K S H x o B) (h : recvOk cn fnL o = true) (hm : m ∉ fnL) : ∃ a dx fs, x = .ref a ∧ H a = some (.ins (He.ga K cn) dx fs) ∧ fs.lookup m = none := by
  have own : ∀ {c : Str} {fn : List Str}, (decide (c = cn) && decide (fn = fnL)) = true → c = cn ∧ fn = fnL := fun h => by
    rw [Bool.and_eq_true, decide_eq_true_eq, decide_eq_true_eq] at h
    exact h
  cases q with
  | ins e e2 l r z =>
    obtain ⟨rfl, rfl⟩ := own h
    exact ⟨_, _, _, rfl, e, lookup_notin hm⟩
  | vu q z =>
    cases q with
    | ins e e2 l r z =>
      obtain ⟨rfl, rfl⟩ := own h
      exact ⟨_, _, _, rfl, (w.vs _ _ e).1, lookup_notin hm⟩
    | fz q z => cases h
    | raw z => cases h
    | exn q z => cases h
    | lst a b c => cases h
    | dct a b c d e => cases h
    | vu q z => cases h
  | @fz _ _ d _ q z =>
    cases d with
    | dict kvs =>
      have hh : objIs cn fnL kvs = true := h
      cases q with
      | cch _ z => subst z; exact Bool.noConfusion (show false = true from hh)
      | dct a b c d e =>
        subst e
        exfalso
        unfold objIs at hh
        split at hh
        · rename_i c' r hz
          have h0 := congrArg (fun l : List (PyData × PyData) => l[0]?) hz
          obtain ⟨hk, _⟩ := zip_get (show _ = some (PyData.list [PyData.str c'], PyData.none) from h0)
          have bk := b.en
          revert hk
          generalize (Array.toList _) = es at bk
          cases bk with
          | nil => intro hk; simp at hk
          | cons k1 _ _ _ _ _ => intro hk; simp at hk; subst hk; simp [keyOf] at k1
        · cases hh
      | @obj a dx c fn vs ds _ e l r z =>
        subst z
        have h1 : (decide (c = cn) && ((fn.map PyData.str).zip ds).all fun p => match p.1 with
          | .str g => fnL.contains g
          | _ => false) = true := hh
        rw [Bool.and_eq_true, decide_eq_true_eq, List.all_eq_true] at h1
        obtain ⟨hc, h1⟩ := h1
        subst hc
        refine ⟨_, _, _, rfl, w.sub _ _ e, lookup_notin fun hm2 => hm ?_⟩
        obtain ⟨k, hk⟩ := List.getElem?_of_mem hm2
        have hlen : ds.length = fn.length := by rw [← dpall_len r]; exact l.1
        have hkl := (List.getElem?_eq_some_iff.mp hk).1
        have hz : (PyData.str m, ds[k]'(by omega)) ∈ (fn.map PyData.str).zip ds := by
          apply List.mem_of_getElem? (i := k)
          rw [List.getElem?_zip_eq_some]
          exact ⟨by rw [List.getElem?_map, hk]; rfl, List.getElem?_eq_getElem (by omega)⟩
        exact List.contains_iff_mem.mp (h1 _ hz)
    | _ => cases h
  | _ => cases h
def eMeth (cn : Str) (fnL : List Str) (F : List O → FO) (i : Nat) (ls : List (Option Nat)) (dd : List PyData) (fa : FA) : FE := fun ρ => match (ρ[i]?).bind id with
  | some o => if recvOk cn fnL o then eCall F (some i :: ls) dd (aLate i fa) ρ else .bad
  | none => .bad
theorem sndE_meth {n i : Nat} {F : List O → FO} {ls : List (Option Nat)} {ta : TA} {fa : FA} {dvs : List V} {dd : List PyData} (hm : m ∉ fnL) (ha : Snd K W (RArgs K ls) ta fa) (hd : ∀ S, DpAll K S dvs dd) (hn : ls.length + 1 + dvs.length = n) :
    SndE K W (tCallSD (spOf K n F) dvs (WE W) (tConsM (He.ga K cn) m (tVar i) ta)) (eMeth cn fnL F i ls dd fa) := by
  intro σ ρ S H A w e
  unfold eMeth
  cases hi : (ρ[i]?).bind id with
  | none => exact True.intro
  | some o =>
    show OutOk K W (ROr K) _ σ S H A (if recvOk cn fnL o then eCall F (some i :: ls) dd (aLate i fa) ρ else .bad)
    by_cases hr : recvOk cn fnL o = true
    · rw [if_pos hr]
      obtain ⟨x0, h3, h4⟩ := Option.bind_eq_some_iff.mp hi
      have h4 : x0 = some o := h4
      subst h4
      obtain ⟨v, Bi, C, e1, q, _, _⟩ := er_get e h3
      have fac := recv_or w q hr hm
      have q2 := sndE_call (F := F) (n := n) (snd_late (i := i) ha) hd (by simp only [List.length_cons]; omega) σ ρ S H A w e
      have tr : ∀ Q, tCallSD (spOf K n F) dvs (WE W) (tCons (tVar i) ta) σ H Q → tCallSD (spOf K n F) dvs (WE W) (tConsM (He.ga K cn) m (tVar i) ta) σ H Q := fun Q ⟨v', e2, z⟩ => by
        rw [e1] at e2
        cases e2
        exact ⟨v, e1, fac, z⟩
      cases hf : eCall F (some i :: ls) dd (aLate i fa) ρ with
      | bad => exact True.intro
      | exc x ρ' => rw [hf] at q2; exact fun Q k => tr Q (q2 Q k)
      | ok r ρ' => rw [hf] at q2; exact fun Q k => tr Q (q2 Q k)
    · rw [if_neg hr]; exact True.intro
def eMake (cn : Str) (F : List O → FO) (ls : List (Option Nat)) (dd : List PyData) (fa : FA) : FE := fun ρ => (fa ρ).bind fun os ρ1 => match F (.ins cn [] [] :: (os ++ dd.map O.fz)) with
  | .ok (.fz .none) (o :: as') => .ok o (backs ls as' ρ1)
  | .exc x (_ :: as') => .exc x (backs ls as' ρ1)
  | _ => .bad
theorem sndE_make {n : Nat} {F : List O → FO} {ls : List (Option Nat)} {ta : TA} {fa : FA} {dvs : List V} {dd : List PyData} (ha : Snd K W (RArgs K ls) ta fa) (hd : ∀ S, DpAll K S dvs dd) (hn : ls.length + dvs.length + 1 = n) :
    SndE K W (tMakeSD (He.ga K cn) (spOf K n F) dvs (WE W) ta) (eMake cn F ls dd fa) := by
  refine snd_bind (u := fun (vs : List V) (σ : L2.St) (H : Hp) (Q : VK) => ∀ x dx, H x = none → H dx = none → dx ≠ x → spOf K n F (V.ref x :: (vs ++ dvs)) (upd (upd H dx (.own x)) x (.ins (He.ga K cn) dx [])) (fun v H2 => v = V.non ∧ Q (V.ref x) H2) (WE W σ)) ha fun vs os σ ρ S H A B w e r => ?_
  have hlen : (vs ++ dvs).length + 1 = n := by rw [List.length_append, r.2.2]; omega
  have prep : ∀ x dx, H x = none → H dx = none → dx ≠ x → ∃ w1 : WF S (upd (upd H dx (.own x)) x (.ins (He.ga K cn) dx [])) ((fun b => Fp.one x b + (Fp.one dx b + Fp.z b)) + (A + B)), Tr S H (A + B) S (upd (upd H dx (.own x)) x (.ins (He.ga K cn) dx [])) ((fun b => Fp.one x b + (Fp.one dx b + Fp.z b)) + (A + B)) ∧ (∀ b, 0 < (A + B) b → upd (upd H dx (.own x)) x (.ins (He.ga K cn) dx []) b = H b) := fun x dx hx hdx ne => by
    obtain ⟨w1, t1, k1⟩ := newO (u := .own x) w hdx
    obtain ⟨w2, t2, k2⟩ := newO (u := .ins (He.ga K cn) dx []) w1 (p := x) (by rw [upd_ne (fun e => ne e.symm)]; exact hx)
    have eF : Fp.one x + (Fp.one dx + (A + B)) = (fun b => Fp.one x b + (Fp.one dx b + Fp.z b)) + (A + B) := funext fun b => by simp only [add_at, z_at]; omega
    rw [eF] at w2 t2
    exact ⟨w2, t1.trans t2, fun b hb => (k2 b (by rw [add_at]; omega)).trans (k1 b hb)⟩
  have hin : ∀ x dx, H x = none → H dx = none → dx ≠ x → ORs K S (upd (upd H dx (.own x)) x (.ins (He.ga K cn) dx [])) (.ref x :: (vs ++ dvs)) (.ins cn [] [] :: (os ++ dd.map O.fz)) ((fun b => Fp.one x b + (Fp.one dx b + Fp.z b)) + B) := fun x dx hx hdx ne => by
    obtain ⟨w1, t1, k1⟩ := prep x dx hx hdx ne
    refine .cons (.ins (dx := dx) (vs := []) (B := Fp.z) upd_same (by rw [upd_ne ne, upd_same]) ⟨rfl, List.nodup_nil, Nat.zero_le _⟩ (.nil fun _ => rfl) fun _ => rfl) (ors_keep (fun _ _ h => h) (fun b hb => k1 b (by rw [add_at]; omega)) (ors_append r.1 (hd S))) fun b => add_at _ _ b
  show OutOk K W (ROr K) _ σ S H (A + B) (match F (.ins cn [] [] :: (os ++ dd.map O.fz)) with
    | .ok (.fz .none) (o :: as') => Out.ok o (backs ls as' ρ)
    | .exc x (_ :: as') => .exc x (backs ls as' ρ)
    | _ => .bad)
  cases hF : F (.ins cn [] [] :: (os ++ dd.map O.fz)) with
  | bad => exact True.intro
  | exc x as' =>
    cases as' with
    | nil => exact True.intro
    | cons o as' =>
      intro Q k y dx hy hdx ne
      obtain ⟨w1, t1, k1⟩ := prep y dx hy hdx ne
      have eB : (fun b => Fp.one y b + (Fp.one dx b + Fp.z b)) + (A + B) = ((fun b => Fp.one y b + (Fp.one dx b + Fp.z b)) + B) + A := funext fun b => by simp only [add_at]; omega
      rw [eB] at w1 t1
      refine ⟨by simpa using hlen, S, _, _, w1.less le1, hin y dx hy hdx ne, ?_⟩
      rw [hF]
      intro cls d S' H' A' w' r' x' t'
      cases r' with
      | @cons _ _ _ _ _ _ B1 C1 q1 r1 z1 =>
        obtain ⟨w3, k3⟩ := t'.frame w1 w'
        have e3 := er_keep (K := K) t'.fz e fun b hb => (k3 b hb).1.trans (k1 b (by rw [add_at]; omega))
        obtain ⟨A2, e4, l4⟩ := er_backs ls e3 r1 (argAt_more r.2.1)
        have l5 : ∀ b, A2 b ≤ (A' + A) b := fun b => by have h1 := l4 b; have h2 := z1 b; simp only [add_at] at h1 ⊢; omega
        exact k cls d S' H' A2 (w3.less l5) e4 x' (t1.trans (t'.frameTr.less l5))
  | ok o0 as' =>
    have case2 : ∀ o as', o0 = .fz .none → F (.ins cn [] [] :: (os ++ dd.map O.fz)) = .ok (.fz .none) (o :: as') → OutOk K W (ROr K) (fun σ H Q => ∀ x dx, H x = none → H dx = none → dx ≠ x → spOf K n F (V.ref x :: (vs ++ dvs)) (upd (upd H dx (.own x)) x (.ins (He.ga K cn) dx [])) (fun v H2 => v = V.non ∧ Q (V.ref x) H2) (WE W σ)) σ S H (A + B) (Out.ok o (backs ls as' ρ)) := fun o as' _ hF => by
      intro Q k y dx hy hdx ne
      obtain ⟨w1, t1, k1⟩ := prep y dx hy hdx ne
      have eB : (fun b => Fp.one y b + (Fp.one dx b + Fp.z b)) + (A + B) = ((fun b => Fp.one y b + (Fp.one dx b + Fp.z b)) + B) + A := funext fun b => by simp only [add_at]; omega
      rw [eB] at w1 t1
      refine ⟨by simpa using hlen, S, _, _, w1.less le1, hin y dx hy hdx ne, ?_⟩
      rw [hF]
      intro v S' H' A' B' w' r' q' t'
      have ev : v = .non := by cases q' with | fz q' _ => exact dp_non q'
      refine ⟨ev, ?_⟩
      cases r' with
      | @cons _ _ _ _ _ _ B1 C1 q1 r1 z1 =>
        obtain ⟨w3, k3⟩ := t'.frame w1 w'
        have e3 := er_keep (K := K) t'.fz e fun b hb => (k3 b hb).1.trans (k1 b (by rw [add_at]; omega))
        obtain ⟨A2, e4, l4⟩ := er_backs ls e3 r1 (argAt_more r.2.1)
        have l5 : ∀ b, (A2 + B1) b ≤ (A' + B' + A) b := fun b => by have h1 := l4 b; have h2 := z1 b; simp only [add_at] at h1 ⊢; omega
        exact k _ S' H' A2 B1 (w3.less l5) e4 q1 (t1.trans (t'.frameTr.less l5))
    cases o0 with
    | fz d =>
      cases d with
      | none =>
        cases as' with
        | nil => exact True.intro
        | cons o as' => exact case2 o as' rfl hF
      | _ => exact True.intro
    | _ => exact True.intro
end
section
variable {X : Cx} {W : WX} {k : Nat} {f : Addr} {fd : FuncData} {ps : List Str} {n : Nat} {F : List O → FO} {ds : List Value} {dvs : List V} {dd : List PyData} {fa : FA} {ls : List (Option Nat)} {x m cn : Str} {fnL : List Str} {p pos apos p1 : Pos} {e o : Expr} {es : List Expr} {fe : FE}
theorem ev_meth (i : Nat) {pl : Sem Bool} (G : FnOk X.prog X.w X.K X.mg X.base (L2.CX X.prog X.w) k f fd ps (spOf X.K n F)) (hr : Room k X.A) (tk : Takes X W) (c : Cls X.K (He.ga X.K cn)) (hm : Meth X.K (He.ga X.K cn) m f) (hf : m ∉ fnL)
    (hb : Binds X.K fd ps ds) (hd : Vals dvs ds) (hdd : ∀ S, DpAll X.K S dvs dd) (ha : AV X W (e :: es) ls fa) (hn : ls.length + 1 + dvs.length = n := by rfl) (hN : X.N[i]? = some x := by rfl) (hv : Vis X.env.scope x := by first | exact Or.inl rfl | exact Or.inr (Or.inl rfl) | exact Or.inr (Or.inr rfl)) (hdb : (x == ("__debug__" : Str)) = false := by decide) (hcd : (x == ("__classdict__" : Str)) = false := by decide)
    (he : starEach (e :: es) X.env = (false, eval e X.env) :: starEach es X.env := by rfl) (hpl : (backTo pos (starEach es X.env)).any (·.1) = false := by rfl)
    (ht : eval (.Call (.Attribute (.Name x p1) m apos) (e :: es) [] pos) X.env = (do
      let ov ← eval (.Name x p1) X.env
      standAt apos.atName
      let (g, first) ← holding [ov] (getMethod ov m pl)
      callWith pos g first (backTo pos (starEach (e :: es) X.env)) (backToKw pos (keywordEach [] X.env))) := by rfl) :
    EV X W (.Call (.Attribute (.Name x p1) m apos) (e :: es) [] pos) (eMeth cn fnL F i ls dd fa) :=
  let ⟨_, a1, a2⟩ := ha.ex; ⟨_, pe_methSD (pe_var hN hv hdb hcd) c hm G hr hb hd (fun σ => passAt tk σ) a1 he hpl ht, sndE_meth hf a2 hdd hn⟩
theorem ev_meth0 (i : Nat) {pl : Sem Bool} (G : FnOk X.prog X.w X.K X.mg X.base (L2.CX X.prog X.w) k f fd ps (spOf X.K n F)) (hr : Room k X.A) (tk : Takes X W) (c : Cls X.K (He.ga X.K cn)) (hm : Meth X.K (He.ga X.K cn) m f) (hf : m ∉ fnL)
    (hb : Binds X.K fd ps ds) (hd : Vals dvs ds) (hdd : ∀ S, DpAll X.K S dvs dd) (hn : 1 + dvs.length = n := by rfl) (hN : X.N[i]? = some x := by rfl) (hv : Vis X.env.scope x := by first | exact Or.inl rfl | exact Or.inr (Or.inl rfl) | exact Or.inr (Or.inr rfl)) (hdb : (x == ("__debug__" : Str)) = false := by decide) (hcd : (x == ("__classdict__" : Str)) = false := by decide)
    (ht : eval (.Call (.Attribute (.Name x p1) m apos) [] [] pos) X.env = (do
      let ov ← eval (.Name x p1) X.env
      standAt apos.atName
      let (g, first) ← holding [ov] (getMethod ov m pl)
      callWith pos g first (backTo pos (starEach [] X.env)) (backToKw pos (keywordEach [] X.env))) := by rfl) :
    EV X W (.Call (.Attribute (.Name x p1) m apos) [] [] pos) (eMeth cn fnL F i [] dd aNil) :=
  ⟨_, pe_meth0SD (pe_var hN hv hdb hcd) c hm G hr hb hd (fun σ => passAt tk σ) ht, sndE_meth hf snd_anil hdd (by simpa using hn)⟩
end
end Ls
namespace Ls
open PySem L2
variable [Tb] [Vw]
def fldOwn (cn f : Str) (k : Nat) : O → Option O
  | .ins c fn os => if c = cn then fldAt fn os f k else none
  | _ => none
section
variable {K : PySem.W.Frag} {W : WX} {P : List Nat} {S H : Hp} {A B : Fp} {σ : L2.St} {ρ : En} {cn f : Str} {k i : Nat}
theorem ors_focus : ∀ {H : Hp} {vs : List V} {os : List O} {B : Fp} {k : Nat} {o : O}, ORs K S H vs os B → os[k]? = some o → ∃ (u : V) (Bk R : Fp), vs[k]? = some u ∧ OR K S H u o Bk ∧ (∀ b, B b = Bk b + R b) ∧
    ∀ (S' H' : Hp) (o' : O) (B' : Fp), (∀ a u, S a = some u → S' a = some u) → (∀ b, 0 < R b → H' b = H b) → OR K S' H' u o' B' → ORs K S' H' vs (os.set k o') (fun b => B' b + R b)
  | _, _, _, _, _, _, .nil _, h => by simp at h
  | _, _, _, _, 0, _, .cons (C := C) q r z, h => by
    simp at h
    subst h
    exact ⟨_, _, C, rfl, q, z, fun S' H' o' B' sub kp q' => .cons q' (ors_keep sub kp r) fun _ => rfl⟩
  | _, _, _, _, k + 1, _, .cons (B := B1) q r z, h => by
    obtain ⟨u, Bk, R, h1, h2, h3, h4⟩ := ors_focus r (by simpa using h)
    refine ⟨u, Bk, fun b => B1 b + R b, by simpa using h1, h2, fun b => by rw [z b, h3 b]; first | omega | (dsimp only; omega), fun S' H' o' B' sub kp q' => ?_⟩
    exact .cons (or_keep sub (fun b hb => kp b (by first | omega | (dsimp only; omega))) q) (h4 S' H' o' B' sub (fun b hb => kp b (by first | omega | (dsimp only; omega))) q') fun b => by first | omega | (dsimp only; omega)
theorem fld_focus {v : V} {o o0 : O} (q : OR K S H v o0 B) (h : fldOwn cn f k o0 = some o) : ∃ (a dx : Addr) (fv : List (Str × V)) (u : V) (Bk R : Fp), v = .ref a ∧ H a = some (.ins (He.ga K cn) dx fv) ∧ fv.lookup f = some u ∧ OR K S H u o Bk ∧ (∀ b, B b = Bk b + R b) ∧
    ∀ (S' H' : Hp) (o' o2 : O) (B' : Fp), setF cn f k o' o0 = some o2 → (∀ a u, S a = some u → S' a = some u) → (∀ b, 0 < R b → H' b = H b) → OR K S' H' u o' B' → OR K S' H' v o2 (fun b => B' b + R b) := by
  cases o0 with
  | ins c fn os =>
    have hh : (if c = cn then fldAt fn os f k else none) = some o := h
    by_cases hc : c = cn
    · rw [if_pos hc] at hh
      subst hc
      cases q with
      | @ins _ a dx _ _ vs _ _ B1 e e2 l r z =>
        obtain ⟨h1, h2⟩ := fldAt_get hh
        obtain ⟨u, Bk, R, h3, h4, h5, h6⟩ := ors_focus r h2
        refine ⟨a, dx, _, u, Bk, fun b => Fp.one a b + (Fp.one dx b + R b), rfl, e, lookup_zip l.2.1 h1 h3, h4, fun b => by rw [z b, h5 b]; first | omega | (dsimp only; omega), fun S' H' o' o2 B' hs sub kp q' => ?_⟩
        have hs : (if c = c then (putAt2 fn os f k o').map (fun os => O.ins c fn os) else none) = some o2 := hs
        rw [if_pos rfl] at hs
        obtain ⟨os', p1, p2⟩ := Option.map_eq_some_iff.mp hs
        obtain ⟨_, p3⟩ := putAt2_get p1
        subst p2; subst p3
        exact .ins ((kp a (by dsimp only; rw [one_same]; first | omega | (dsimp only; omega))).trans e) ((kp dx (by dsimp only; rw [one_same]; first | omega | (dsimp only; omega))).trans e2) l (h6 S' H' o' B' sub (fun b hb => kp b (by dsimp only; first | omega | (dsimp only; omega))) q') fun b => by first | omega | (dsimp only; omega)
    · rw [if_neg hc] at hh; cases hh
  | _ => cases h
end
section
variable {X : Cx} {W : WX} {P : List Nat} {kk : Nat} {g : Addr} {fd : FuncData} {ps : List Str} {n : Nat} {F : List O → FO} {ds : List Value} {dvs : List V} {dd : List PyData} {fa : FA} {ls : List (Option Nat)} {x m cn cm f : Str} {fnL : List Str} {p pos apos p1 fpos p2 cpos : Pos} {e : Expr} {es : List Expr} {fe : FE}
end
end Ls
namespace Ls
open PySem L2
section
variable {ρ ρ1 : En} {o o1 o2 : O} {p : Pk} {d : PyData} {ds : List PyData} {fe : FE} {fa : FP} {r : FA} {i k : Nat} {os as : List O} {x : Xn} {cn cm f g : Str} {fn fnL : List Str} {F : List O → FO} {ls : List (Option Nat)} {dd : List PyData}
def datAt : List Str → List PyData → Str → Nat → Option PyData
  | g :: _, d :: _, f, 0 => if g = f then some d else none
  | _ :: fn, _ :: ds, f, k + 1 => datAt fn ds f k
  | _, _, _, _ => none
def kFl (cn f : Str) (k : Nat) (z : Out Pk) : Out O := z.bind fun a ρ1 => match (pkO ρ1 a).bind (fldO cn f k) with
  | some o => .ok o ρ1
  | none => .bad
theorem x_fl1 : eFld cn f k fa ρ = kFl cn f k (fa ρ) := rfl
theorem x_fl2 : kFl cn f k (.ok p ρ) = kO ((pkO ρ p).bind (fldO cn f k)) ρ := rfl
theorem x_fl4 : fldO cn f k (.ins cn fn os) = (fldAt fn os f k).bind seeO := if_pos rfl
theorem x_fl5 : fldO cn f k (.vu (.ins cn fn os)) = (fldAt fn os f k).map roO := if_pos rfl
theorem x_fa0 : fldAt (f :: fn) (o :: os) f 0 = some o := if_pos rfl
theorem x_faS : fldAt (g :: fn) (o :: os) f (k + 1) = fldAt fn os f k := rfl
theorem x_see : seeO (.fz d) = some (.fz d) := rfl
theorem x_ro1 : roO (.fz d) = .fz d := rfl
theorem x_ro2 : roO (.lst os) = .vu (.lst os) := rfl
theorem x_ro3 : roO (.ins cn fn os) = .vu (.ins cn fn os) := rfl
theorem x_ro4 : roO (.dct ds os) = .vu (.dct ds os) := rfl
theorem x_roe0 : roE [] = [] := rfl
theorem x_roe1 : roE (some o :: ρ) = some (roO o) :: roE ρ := rfl
theorem x_roe2 : roE (none :: ρ) = none :: roE ρ := rfl
def kRo (ρ : En) (z : Out O) : Out O := roK noVu ρ z
def kRo2 (b : Bool) (o : O) (ρ : En) : Out O := if b then .ok o ρ else .bad
theorem x_er1 : eRO fe ρ = kRo ρ (fe (roE ρ)) := rfl
theorem x_er2 : kRo ρ (.ok o ρ1) = kRo2 (noVu o) o ρ := rfl
theorem x_er4 : kRo2 true o ρ = .ok o ρ := rfl
def kRoT (ρ : En) (z : Out Bool) : Out Bool := roK (fun _ => true) ρ z
theorem x_tr1 {t : FT} : tRO t ρ = kRoT ρ (t (roE ρ)) := rfl
theorem x_tr2 {b : Bool} : kRoT ρ (.ok b ρ1) = .ok b ρ := rfl
theorem x_nv1 : noVu (.fz d) = true := by simp [noVu]
def kFS (g : O → O → Option O) (i : Nat) (z : Out O) : SO := z.toS fun o ρ1 => match ((ρ1[i]?).bind id).bind (g o) with
  | some o' => .nx (ρ1.set i (some o'))
  | none => .bad
def kFS2 (z : Option O) (i : Nat) (ρ1 : En) : SO := match z with
  | some o' => .nx (ρ1.set i (some o'))
  | none => .bad
theorem x_fs2 : sFldN cn f i fe ρ = kFS (addF cn f) i (fe ρ) := rfl
theorem x_fs3 {g : O → O → Option O} : kFS g i (.ok o ρ) = kFS2 (((ρ[i]?).bind id).bind (g o)) i ρ := rfl
theorem x_fs5 : kFS2 (some o) i ρ = .nx (ρ.set i (some o)) := rfl
theorem x_sf : setF cn f k o (.ins cn fn os) = (putAt2 fn os f k o).map fun os => .ins cn fn os := if_pos rfl
theorem x_pa0 : putAt2 (f :: fn) (o1 :: os) f 0 o = some (o :: os) := if_pos rfl
theorem x_paS : putAt2 (g :: fn) (o1 :: os) f (k + 1) o = (putAt2 fn os f k o).map fun os => o1 :: os := rfl
theorem x_af (h : newFOk fn f = true) : addF cn f o (.ins cn fn os) = some (.ins cn (fn ++ [f]) (os ++ [o])) := by
  show (if cn = cn then (if newFOk fn f then _ else none) else none) = _
  rw [if_pos rfl, if_pos h]
theorem x_sapp0 {l : List Str} : ([] ++ l) = l := rfl
theorem x_sappS {l : List Str} : ((f :: fn) ++ l) = f :: (fn ++ l) := rfl
def kFA (g : PyData → PyData → Option PyData) (cn f : Str) (i k : Nat) (z : Option O) (fe : FE) (ρ : En) : SO := match z with
  | some (.fz d1) => (fe ρ).toS fun o ρ1 => (match (frz o).bind (g d1) with
    | some c => (match ((ρ1[i]?).bind id).bind (setF cn f k (.fz c)) with
      | some o' => .nx (ρ1.set i (some o'))
      | none => .bad)
    | none => .bad)
  | _ => .bad
variable {op : PyData → PyData → Option PyData}
theorem x_rc1 : recvOk cn fnL (.ins cn fnL os) = true := by simp [recvOk]
theorem x_rc2 : recvOk cn fnL (.vu (.ins cn fnL os)) = true := by simp [recvOk]
def kMe (cn : Str) (fnL : List Str) (F : List O → FO) (i : Nat) (ls : List (Option Nat)) (dd : List PyData) (fa : FA) (z : Option O) (ρ : En) : Out O := match z with
  | some o => if recvOk cn fnL o then eCall F (some i :: ls) dd (aLate i fa) ρ else .bad
  | none => .bad
def kMe2 (F : List O → FO) (i : Nat) (ls : List (Option Nat)) (dd : List PyData) (fa : FA) (b : Bool) (ρ : En) : Out O := if b then eCall F (some i :: ls) dd (aLate i fa) ρ else .bad
theorem x_me1 : eMeth cn fnL F i ls dd r ρ = kMe cn fnL F i ls dd r ((ρ[i]?).bind id) ρ := rfl
theorem x_me2 : kMe cn fnL F i ls dd r (some o) ρ = kMe2 F i ls dd r (recvOk cn fnL o) ρ := rfl
theorem x_me3 : kMe2 F i ls dd r true ρ = eCall F (some i :: ls) dd (aLate i r) ρ := rfl
def kMk (cn : Str) (F : List O → FO) (ls : List (Option Nat)) (dd : List PyData) (z : Out (List O)) : Out O := z.bind fun os ρ1 => match F (.ins cn [] [] :: (os ++ dd.map O.fz)) with
  | .ok (.fz .none) (o :: as') => .ok o (backs ls as' ρ1)
  | .exc x (_ :: as') => .exc x (backs ls as' ρ1)
  | _ => .bad
def kMk2 (ls : List (Option Nat)) (z : FO) (ρ1 : En) : Out O := match z with
  | .ok (.fz .none) (o :: as') => .ok o (backs ls as' ρ1)
  | .exc x (_ :: as') => .exc x (backs ls as' ρ1)
  | _ => .bad
theorem x_mk1 : eMake cn F ls dd r ρ = kMk cn F ls dd (r ρ) := rfl
theorem x_mk2 : kMk cn F ls dd (.ok os ρ) = kMk2 ls (F (.ins cn [] [] :: (os ++ dd.map O.fz))) ρ := rfl
theorem x_mk4 : kMk2 ls (.ok (.fz .none) (o :: as)) ρ = .ok o (backs ls as ρ) := rfl
theorem x_fo : fldOwn cn f k (.ins cn fn os) = fldAt fn os f k := if_pos rfl
end
end Ls
namespace Ls
open PySem L2
variable [Tb] [Vw]
section
variable {K : PySem.W.Frag}
end
section
variable {a : PyData} {ds : List PyData}
end
end Ls
namespace Ls
open PySem L2
variable [Tb] [Vw]
section
variable {K : PySem.W.Frag} {W : WX} {P : List Nat}
end
section
variable {ρ : En} {j : Nat} {js : List Nat} {f : FS} {o : O} {d : PyData}
end
end Ls
namespace Ls
open PySem L2
variable [Tb] [Vw]
def TruV : V → Bool → Prop
  | .bl b, c => c = b
  | .int i, c => c = (i != 0)
  | .non, c => c = false
  | _, _ => False
section
variable {X : Cx}
end
section
variable {X : Cx} {W : WX} {a : Expr} {fa : FP} {pos p : Pos}
end
end Ls
namespace Ls
open PySem L2
variable [Tb] [Vw]
section
variable {K : PySem.W.Frag} {W : WX} {S H : Hp} {A B C : Fp} {σ : St} {ρ : En} {P : List Nat}
end
section
variable {X : Cx} {W : WX} {P : List Nat} {e i1 i2 : Expr} {fe : FE} {f1 f2 : FP} {pos tp : Pos} {kt : Nat}
end
section
variable {ρ : En} {j : Nat} {f1 f2 : FP} {f : FE} {d1 d2 : PyData}
end
end Ls
namespace Ls
open PySem L2
section
variable [Tb]
section
variable {K : PySem.W.Frag} {S S' H : Hp}
end
end
variable [Tb] [Vw]
section
variable {K : PySem.W.Frag} {W : WX} {S H : Hp}
end
section
variable {X : Cx} {W : WX} {e : Expr}
end
section
variable {ρ ρ1 : En} {os : List O} {f : FT} {b : Bool} {o : O}
end
end Ls
namespace Ls
open PySem
open Sem (wp)
inductive EnN (w : World) (h : Heap) : List DictEntry → List NestedKey → Prop
  | nil : EnN w h [] []
  | cons {e : DictEntry} {k : NestedKey} {es : List DictEntry} {ks : List NestedKey} : e.hash = k.hash w → NestedIs h k e.key → k.depth ≤ 8 → EnN w h es ks → EnN w h (e :: es) (k :: ks)
theorem EnN.len {w : World} {h : Heap} : ∀ {es : List DictEntry} {ks : List NestedKey}, EnN w h es ks → es.length = ks.length
  | _, _, .nil => rfl
  | _, _, .cons _ _ _ r => by rw [List.length_cons, List.length_cons, r.len]
theorem EnN.get {w : World} {h : Heap} : ∀ {es : List DictEntry} {ks : List NestedKey} {i : Nat} {k : NestedKey}, EnN w h es ks → ks[i]? = some k → ∃ e, es[i]? = some e ∧ e.hash = k.hash w ∧ NestedIs h k e.key ∧ k.depth ≤ 8
  | _, _, _, _, .nil, q => by simp at q
  | _, _, 0, _, .cons a b c _, q => by
    simp only [List.getElem?_cons_zero, Option.some.injEq] at q
    subst q; exact ⟨_, rfl, a, b, c⟩
  | _, _, i + 1, _, .cons _ _ _ r, q => by
    simp only [List.getElem?_cons_succ] at q
    obtain ⟨e, x⟩ := r.get q
    exact ⟨e, by simpa using x.1, x.2⟩
theorem EnN.key {w : World} {h : Heap} {es : List DictEntry} {ks : List NestedKey} {i : Nat} {e : DictEntry} (x : EnN w h es ks) (q : es[i]? = some e) : ∃ k, ks[i]? = some k ∧ e.hash = k.hash w ∧ NestedIs h k e.key ∧ k.depth ≤ 8 := by
  have hi : i < ks.length := by rw [← x.len]; exact (List.getElem?_eq_some_iff.mp q).1
  obtain ⟨e2, h1, h2⟩ := x.get (List.getElem?_eq_getElem hi)
  rw [h1] at q; cases q
  exact ⟨_, List.getElem?_eq_getElem hi, h2⟩
theorem EnN.push {w : World} {h : Heap} {e : DictEntry} {k : NestedKey} (h1 : e.hash = k.hash w) (h2 : NestedIs h k e.key) (h3 : k.depth ≤ 8) : ∀ {es : List DictEntry} {ks : List NestedKey}, EnN w h es ks → EnN w h (es ++ [e]) (ks ++ [k])
  | _, _, .nil => .cons h1 h2 h3 .nil
  | _, _, .cons a b c r => .cons a b c (r.push h1 h2 h3)
theorem EnN.modify {w : World} {h : Heap} {v : Value} : ∀ {es : List DictEntry} {ks : List NestedKey} (i : Nat), EnN w h es ks → EnN w h (es.modify i fun e => { e with val := v }) ks
  | _, _, 0, .nil => .nil
  | _, _, _ + 1, .nil => .nil
  | _, _, 0, .cons a b c r => .cons a b c r
  | _, _, i + 1, .cons a b c r => .cons a b c (EnN.modify i r)
theorem EnN.mono {w : World} {h h' : Heap} (hk : ∀ a o vs n, h.get? a = some o → o.data = .seq vs n → h'.get? a = some o) : ∀ {es : List DictEntry} {ks : List NestedKey}, EnN w h es ks → EnN w h' es ks
  | _, _, .nil => .nil
  | _, _, .cons a b c r => .cons a (NestedIs.at hk _ _ b) c (r.mono hk)
theorem mem_places {n i : Nat} {f : Nat → Option Int} {h : Int} : i ∈ placesWithHash n f h ↔ i < n ∧ f i = some h := by
  unfold placesWithHash
  rw [List.mem_filter, List.mem_range, beq_iff_eq]
theorem nodup_places {n : Nat} {f : Nat → Option Int} {h : Int} : (placesWithHash n f h).Nodup := by
  unfold placesWithHash
  exact List.nodup_range.filter _
section
variable {prog : Program} {w : World} {A : Around} {E : Value → Shared → Prop} {s : Shared} {d : Addr} {o : Obj} {es : Array DictEntry} {ep : Nat} {ks : List NestedKey} {k : NestedKey} {key : Value}
theorem eqN {k' : NestedKey} {u : Value} {Q : Bool → Shared → Prop} (hu : A.units + 8 < cLine) (h1 : NestedIs s.heap k' u) (h2 : NestedIs s.heap k key) (hd : k.depth ≤ 8) (h : Q (decide (k' = k)) s) : wpAny (model prog w) A (eqBool u key) Q E s :=
  eqAt_key k' k A s _ _ h1 h2 (by omega) _ _ _ _ (by rw [← NestedKey.decide_eq]; exact h)
theorem tellN {stored : List Value} {Q : Bool → Shared → Prop} (h1 : NestedIs s.heap k key) (hd : k.depth ≤ 8) (hst : ∀ v ∈ stored, ∃ k', NestedIs s.heap k' v ∧ k'.depth ≤ 8) (h : Q false s) : wpAny (model prog w) A (tableMayTell key stored) Q E s := by
  unfold tableMayTell
  by_cases he : stored.isEmpty = true
  · rw [if_pos he]; exact wpAny_pure h
  · rw [if_neg he]
    refine wpAny_bind (quiet_key k key 8 s h1 hd A E _ ?_)
    rw [if_neg (by simp)]
    refine wpAny_bind ?_
    refine wpAny_forIn_list _ (fun rest r s2 => s2 = s ∧ r = (none, ()) ∧ ∀ v ∈ rest, ∃ k', NestedIs s.heap k' v ∧ k'.depth ≤ 8) _ ?_ ?_ _ _ ⟨rfl, rfl, hst⟩
    · intro x rest r s2 ⟨e1, e2, hr⟩
      subst e1; subst e2
      obtain ⟨k', hb, hb2⟩ := hr x List.mem_cons_self
      refine wpAny_bind (quiet_key k' x 8 _ hb hb2 A E _ ?_)
      rw [if_neg (by simp)]
      exact wpAny_pure ⟨rfl, rfl, fun v hv => hr v (List.mem_cons_of_mem _ hv)⟩
    · intro r s2 ⟨e1, e2, _⟩
      subst e1; subst e2
      exact wpAny_pure h
theorem findN {Q : Option Nat → Shared → Prop} (hu : A.units + 8 < cLine) (hk : NestedIs s.heap k key) (hd8 : k.depth ≤ 8) (ho : s.heap.get? d = some o) (hd : o.data = .dict es ep) (he : EnN w s.heap es.toList ks) (hn : ks.Nodup)
    (qn : k ∉ ks → Q none s) (qs : ∀ j, ks[j]? = some k → Q (some j) s) : wpAny (model prog w) A (dictFind d key (k.hash w)) Q E s := by
  let pl := placesWithHash es.size (fun i => es[i]?.map (·.hash)) (k.hash w)
  have inpl : ∀ j, ks[j]? = some k → j ∈ pl := fun j hj => by
    obtain ⟨e, h1, h2, _⟩ := he.get hj
    rw [Array.getElem?_toList] at h1
    exact mem_places.mpr ⟨(Array.getElem?_eq_some_iff.mp h1).1, by rw [h1, ← h2]; rfl⟩
  have ofpl : ∀ j, j ∈ pl → ∃ e k', es[j]? = some e ∧ ks[j]? = some k' ∧ e.hash = k.hash w ∧ NestedIs s.heap k' e.key ∧ k'.depth ≤ 8 := fun j hj => by
    obtain ⟨h1, h2⟩ := mem_places.mp hj
    obtain ⟨e, h3, h4⟩ := Option.map_eq_some_iff.mp h2
    obtain ⟨k', h5, h6, h7, h8⟩ := he.key (i := j) (by rw [Array.getElem?_toList]; exact h3)
    exact ⟨e, k', h3, h5, h4, h7, h8⟩
  have uniq : ∀ {i j : Nat}, ks[i]? = some k → ks[j]? = some k → i = j := fun hi hj => (List.getElem?_inj (List.getElem?_eq_some_iff.mp hi).1 hn).mp (hi.trans hj.symm)
  have over : (∀ x ∈ pl, ks[x]? ≠ some k) → k ∉ ks := fun hno hm => by
    obtain ⟨j, hj⟩ := List.getElem?_of_mem hm
    exact hno j (inpl j hj) hj
  have plain : wpAny (model prog w) A (dictWalkPlain d key (k.hash w) es pl) Q E s := by
    unfold dictWalkPlain
    refine wpAny_bind ?_
    refine wpAny_forIn_list _ (fun rest b s2 => s2 = s ∧ b = (none, ()) ∧ ∃ pre, pl = pre ++ rest ∧ ∀ x ∈ pre, ks[x]? ≠ some k) _ ?_ ?_ _ _ ⟨rfl, rfl, [], rfl, fun _ h => nomatch h⟩
    · intro x rest b s2 ⟨e1, e2, pre, hp, hno⟩
      subst e1; subst e2
      obtain ⟨e, k', h1, h2, h3, h4, h5⟩ := ofpl x (by rw [hp]; exact List.mem_append_right _ List.mem_cons_self)
      dsimp only
      rw [h1]
      dsimp only
      rw [if_pos (by rw [h3]; exact beq_self_eq_true _)]
      refine wpAny_bind (wpAny_dictEpoch ho hd (wpAny_bind (eqN hu h4 hk hd8 (wpAny_bind (wpAny_dictEpoch ho hd ?_)))))
      rw [if_neg (by simp)]
      by_cases hkk : k' = k
      · rw [decide_eq_true hkk]
        exact wpAny_bind (wpAny_rule (wpAny_pure (wpAny_pure (qs x (by rw [h2, hkk])))))
      · rw [decide_eq_false hkk]
        refine wpAny_bind (wpAny_rule (wpAny_pure ⟨rfl, rfl, pre ++ [x], by rw [hp, List.append_assoc]; rfl, fun y hy => ?_⟩))
        rcases List.mem_append.mp hy with hy | hy
        · exact hno y hy
        · rw [List.mem_singleton.mp hy, h2]; exact fun q => hkk (Option.some.inj q)
    · intro b s2 ⟨e1, e2, pre, hp, hno⟩
      subst e1; subst e2
      rw [List.append_nil] at hp
      exact wpAny_pure (qn (over (by rw [hp]; exact hno)))
  have full : wpAny (model prog w) A (if ((key :: pl.filterMap fun i => es[i]?.map (·.key)).all carriedByValue) = true then dictWalkPlain d key (k.hash w) es pl else do
      if let .ref _ := key then
        if es.any fun e => e.key == key && e.hash != k.hash w then unsupported "dict.find:a-stored-key-whose-hash-has-changed"
      let tells ← if (pl.filterMap fun i => es[i]?.map (·.key)) == [key] then pure false else tableMayTell key (pl.filterMap fun i => es[i]?.map (·.key))
      if tells && (pl.filterMap fun i => es[i]?.map (·.key)).length ≥ 2 then unsupported "dict.find:order-among-keys-of-one-hash"
      let mut hit : Option Nat := none
      for i in pl do
        if let some e := es[i]? then
          if e.hash == k.hash w then
            let before ← dictEpoch d (keyPart key)
            let same ← eqBool e.key key
            if (← dictEpoch d (keyPart key)) != before then unsupported "dict.changed-during-lookup"
            if same then
              if hit.isSome then unsupported "dict.find:order-among-keys-of-one-hash"
              rule "dict.find.hit"
              if (pl.filterMap fun i => es[i]?.map (·.key)).length < 2 then return some i
              hit := some i
            else
              rule "dict.find.same-hash-other-key"
              if tells && !(0 ≤ k.hash w && k.hash w < 32) then unsupported "dict.find:asked-again-or-not-hangs-on-the-table"
      return hit) Q E s := by
    by_cases hp : ((key :: pl.filterMap fun i => es[i]?.map (·.key)).all carriedByValue) = true
    · rw [if_pos hp]; exact plain
    · rw [if_neg hp]
      have hst : ∀ v ∈ pl.filterMap (fun i => es[i]?.map (·.key)), ∃ k', NestedIs s.heap k' v ∧ k'.depth ≤ 8 := fun v hv => by
        obtain ⟨i, hi, hv⟩ := List.mem_filterMap.mp hv
        obtain ⟨e, k', h1, _, _, h4, h5⟩ := ofpl i hi
        rw [h1] at hv
        cases hv
        exact ⟨k', h4, h5⟩
      have hany : ¬ (es.any fun e => e.key == key && e.hash != k.hash w) = true := by
        rw [← Array.any_toList, List.any_eq_true]
        intro ⟨e, hin, hc⟩
        obtain ⟨i, hi⟩ := List.getElem?_of_mem hin
        obtain ⟨k', _, h2, h3, _⟩ := he.key hi
        rw [Bool.and_eq_true, beq_iff_eq, bne_iff_ne] at hc
        rw [hc.1] at h3
        exact hc.2 (by rw [h2, NestedIs.inj _ _ _ h3 hk])
      have loop : ∀ (b : Bool), wpAny (model prog w) A (do
          let mut hit : Option Nat := none
          for i in pl do
            if let some e := es[i]? then
              if e.hash == k.hash w then
                let before ← dictEpoch d (keyPart key)
                let same ← eqBool e.key key
                if (← dictEpoch d (keyPart key)) != before then unsupported "dict.changed-during-lookup"
                if same then
                  if hit.isSome then unsupported "dict.find:order-among-keys-of-one-hash"
                  rule "dict.find.hit"
                  if (pl.filterMap fun i => es[i]?.map (·.key)).length < 2 then return some i
                  hit := some i
                else
                  rule "dict.find.same-hash-other-key"
                  if false && b then unsupported "dict.find:asked-again-or-not-hangs-on-the-table"
          return hit) Q E s := by
        intro b
        refine wpAny_bind ?_
        refine wpAny_forIn_list _ (fun rest b s2 => s2 = s ∧ ∃ hit pre, b = (none, hit) ∧ pl = pre ++ rest ∧ ((hit = none ∧ ∀ x ∈ pre, ks[x]? ≠ some k) ∨ ∃ j ∈ pre, hit = some j ∧ ks[j]? = some k)) _ ?_ ?_ _ _ ⟨rfl, none, [], rfl, rfl, .inl ⟨rfl, fun _ h => nomatch h⟩⟩
        · intro x rest b s2 ⟨e1, hit, pre, e2, hp, hh⟩
          subst e1; subst e2
          obtain ⟨e, k', h1, h2, h3, h4, h5⟩ := ofpl x (by rw [hp]; exact List.mem_append_right _ List.mem_cons_self)
          have nx : x ∉ pre := fun hx => by
            have nd : pl.Nodup := nodup_places
            rw [hp, List.nodup_append] at nd
            exact nd.2.2 x hx x List.mem_cons_self rfl
          dsimp only
          rw [h1]
          dsimp only
          rw [if_pos (by rw [h3]; exact beq_self_eq_true _)]
          refine wpAny_bind (wpAny_dictEpoch ho hd (wpAny_bind (eqN hu h4 hk hd8 (wpAny_bind (wpAny_dictEpoch ho hd ?_)))))
          rw [if_neg (by simp)]
          by_cases hkk : k' = k
          · rw [decide_eq_true hkk, if_pos rfl]
            rcases hh with ⟨e3, _⟩ | ⟨j, hj, _, hj2⟩
            · subst e3
              rw [if_neg (by simp)]
              refine wpAny_bind (wpAny_rule ?_)
              split
              · exact wpAny_pure (wpAny_pure (qs x (by rw [h2, hkk])))
              · exact wpAny_pure ⟨rfl, some x, pre ++ [x], rfl, by rw [hp, List.append_assoc]; rfl, .inr ⟨x, by simp, rfl, by rw [h2, hkk]⟩⟩
            · exact absurd (uniq hj2 (by rw [h2, hkk]) ▸ hj) nx
          · rw [decide_eq_false hkk]
            rw [if_neg (by simp)]
            refine wpAny_bind (wpAny_rule ?_)
            rw [if_neg (by simp)]
            refine wpAny_pure ⟨rfl, hit, pre ++ [x], rfl, by rw [hp, List.append_assoc]; rfl, ?_⟩
            rcases hh with ⟨e3, hno⟩ | ⟨j, hj, q1, q2⟩
            · refine .inl ⟨e3, fun y hy => ?_⟩
              rcases List.mem_append.mp hy with hy | hy
              · exact hno y hy
              · rw [List.mem_singleton.mp hy, h2]; exact fun q => hkk (Option.some.inj q)
            · exact .inr ⟨j, List.mem_append_left _ hj, q1, q2⟩
        · intro b s2 ⟨e1, hit, pre, e2, hp, hh⟩
          subst e1; subst e2
          rw [List.append_nil] at hp
          rcases hh with ⟨e3, hno⟩ | ⟨j, hj, e3, hj2⟩
          · subst e3; exact wpAny_pure (qn (over (by rw [hp]; exact hno)))
          · subst e3; exact wpAny_pure (qs j hj2)
      have mid : wpAny (model prog w) A (do
          let tells ← if (pl.filterMap fun i => es[i]?.map (·.key)) == [key] then pure false else tableMayTell key (pl.filterMap fun i => es[i]?.map (·.key))
          if tells && (pl.filterMap fun i => es[i]?.map (·.key)).length ≥ 2 then unsupported "dict.find:order-among-keys-of-one-hash"
          let mut hit : Option Nat := none
          for i in pl do
            if let some e := es[i]? then
              if e.hash == k.hash w then
                let before ← dictEpoch d (keyPart key)
                let same ← eqBool e.key key
                if (← dictEpoch d (keyPart key)) != before then unsupported "dict.changed-during-lookup"
                if same then
                  if hit.isSome then unsupported "dict.find:order-among-keys-of-one-hash"
                  rule "dict.find.hit"
                  if (pl.filterMap fun i => es[i]?.map (·.key)).length < 2 then return some i
                  hit := some i
                else
                  rule "dict.find.same-hash-other-key"
                  if tells && !(0 ≤ k.hash w && k.hash w < 32) then unsupported "dict.find:asked-again-or-not-hangs-on-the-table"
          return hit) Q E s := by
        by_cases hone : ((pl.filterMap fun i => es[i]?.map (·.key)) == [key]) = true
        · rw [if_pos hone]
          refine wpAny_bind (wpAny_pure ?_)
          show wpAny _ _ (if (false && _) = true then _ else _) _ _ _
          rw [if_neg (by simp)]
          exact loop _
        · rw [if_neg hone]
          refine wpAny_bind (tellN hk hd8 hst ?_)
          show wpAny _ _ (if (false && _) = true then _ else _) _ _ _
          rw [if_neg (by simp)]
          exact loop _
      cases key with
      | ref a =>
        show wpAny _ _ (if (es.any fun e => e.key == Value.ref a && e.hash != k.hash w) = true then _ else _) _ _ _
        rw [if_neg hany]
        exact mid
      | _ => exact mid
  unfold dictFind
  refine wpAny_holding ?_
  refine wpAny_bind (wpAny_dictEntries ho hd ?_)
  cases key with
  | str x t =>
    by_cases hstrs : (es.all fun e => isExactStrKey e.key) = true
    · show wpAny _ _ (if (es.all fun e => isExactStrKey e.key) = true then (foundByValue d (.str x t) es x) else _) _ _ _
      rw [if_pos hstrs]
      have hkt : k = .text x := NestedIs.inj _ _ _ hk (.text _ _)
      unfold foundByValue
      cases hf : es.findIdx? (·.key.isStr x) with
      | none =>
        refine wpAny_pure (qn fun hm => ?_)
        obtain ⟨j, hj⟩ := List.getElem?_of_mem hm
        obtain ⟨e, h1, _, h3, _⟩ := he.get hj
        rw [hkt] at h3
        have hmem := Array.mem_of_getElem? (by rw [← Array.getElem?_toList]; exact h1)
        have := Array.findIdx?_eq_none_iff.mp hf e hmem
        cases h3' : e.key <;> rw [h3'] at h3 this <;> cases h3
        simp [Value.isStr] at this
      | some i =>
        obtain ⟨hlt, hi, _⟩ := Array.findIdx?_eq_some_iff_getElem.mp hf
        obtain ⟨k', h2, h3, h4, h5⟩ := he.key (i := i) (e := es[i]) (by rw [Array.getElem?_toList]; exact Array.getElem?_eq_getElem hlt)
        have hkk : k' = k := by
          rw [hkt]
          cases h6 : es[i].key with
          | str y u =>
            rw [h6] at hi h4
            have : y = x := by simpa [Value.isStr] using hi
            subst this
            exact NestedIs.inj _ _ _ h4 (.text _ _)
          | _ => rw [h6] at hi; simp [Value.isStr] at hi
        simp only [Array.getElem?_eq_getElem hlt]
        refine wpAny_bind (wpAny_dictEpoch ho hd (wpAny_bind (eqN hu h4 hk hd8 (wpAny_bind (wpAny_dictEpoch ho hd ?_)))))
        rw [if_neg (by simp), decide_eq_true hkk]
        exact wpAny_bind (wpAny_rule (wpAny_pure (qs i (by rw [h2, hkk]))))
    · show wpAny _ _ (if (es.all fun e => isExactStrKey e.key) = true then _ else _) _ _ _
      rw [if_neg hstrs]
      exact full
  | _ => exact full
end
def entN (es : Array DictEntry) (ks : List NestedKey) (k : NestedKey) : Option Value := (ks.findIdx? fun x => decide (x = k)).bind fun j => es[j]?.map (·.val)
theorem entN_no {es : Array DictEntry} {ks : List NestedKey} {k : NestedKey} (h : k ∉ ks) : entN es ks k = none := by
  unfold entN
  have : (ks.findIdx? fun x => decide (x = k)) = none := List.findIdx?_eq_none_iff.mpr fun x hx => decide_eq_false fun (e : x = k) => h (e ▸ hx)
  rw [this]
  rfl
theorem idxN {ks : List NestedKey} {k : NestedKey} (hn : ks.Nodup) {j : Nat} (h : ks[j]? = some k) : (ks.findIdx? fun x => decide (x = k)) = some j := by
  obtain ⟨hj, h2⟩ := List.getElem?_eq_some_iff.mp h
  rw [List.findIdx?_eq_some_iff_getElem]
  refine ⟨hj, by simpa using h2, fun i hi => ?_⟩
  simp only [decide_eq_true_eq]
  intro e
  have : ks[i]? = some k := by rw [List.getElem?_eq_getElem (by omega), e]
  have := (List.getElem?_inj (by omega) hn).mp (this.trans h.symm)
  omega
theorem entN_yes {es : Array DictEntry} {ks : List NestedKey} {k : NestedKey} (hn : ks.Nodup) {j : Nat} (h : ks[j]? = some k) : entN es ks k = es[j]?.map (·.val) := by
  unfold entN
  rw [idxN hn h]
  rfl
theorem entN_some {w : World} {hp : Heap} {es : Array DictEntry} {ks : List NestedKey} {k : NestedKey} (he : EnN w hp es.toList ks) (hn : ks.Nodup) : (entN es ks k).isSome = decide (k ∈ ks) := by
  by_cases h : k ∈ ks
  · obtain ⟨j, hj⟩ := List.getElem?_of_mem h
    obtain ⟨e, h1, _⟩ := he.get hj
    rw [entN_yes hn hj, ← Array.getElem?_toList, h1, decide_eq_true h]; rfl
  · rw [entN_no h, decide_eq_false h]; rfl
structure DN (w : World) (h : Heap) (d : Addr) (es : Array DictEntry) (ep : Nat) (ks : List NestedKey) : Prop where
  raw : h.DictRaw d es ep
  en : EnN w h es.toList ks
  nd : ks.Nodup
section
variable {prog : Program} {w : World} {A : Around} {E : Value → Shared → Prop} {s : Shared} {d : Addr} {es : Array DictEntry} {ep : Nat} {ks : List NestedKey} {k : NestedKey} {key : Value}
theorem getN {Q : Option Value → Shared → Prop} (hu : A.units + 8 < cLine) (hk : NestedIs s.heap k key) (h8 : k.depth ≤ 8) (D : DN w s.heap d es ep ks) (h : Q (entN es ks k) { s with toks := s.toks + k.draws }) : wpAny (model prog w) A (dictGet d key) Q E s := by
  obtain ⟨⟨o, ho, hc, hd⟩, he, hn⟩ := D
  unfold dictGet
  refine wpAny_holding ?_
  refine wpAny_bind (pyHash_key k key A s _ hk (by omega) (wpAny_bind (findN (s := { s with toks := s.toks + k.draws }) hu hk h8 ho hd he hn (fun hm => ?_) fun j hj => ?_)))
  · rw [entN_no hm] at h; exact wpAny_pure h
  · rw [entN_yes hn hj] at h
    exact wpAny_bind (wpAny_dictEntries (s := { s with toks := s.toks + k.draws }) ho hd (wpAny_pure h))
theorem EnN.up {h h' : Heap} (D : h.DictRaw d es ep) (hs : Heap.SameBut d h h') {l : List DictEntry} {ks : List NestedKey} (x : EnN w h l ks) : EnN w h' l ks := x.mono fun a o vs n ha hd => by
  obtain ⟨o2, h2, _, h3⟩ := D
  refine (hs.2 a fun e => ?_).trans ha
  subst e
  rw [h2] at ha; cases ha
  rw [h3] at hd; cases hd
theorem setN {v : Value} {Q : Unit → Shared → Prop} (hu : A.units + 8 < cLine) (hk : NestedIs s.heap k key) (h8 : k.depth ≤ 8) (D : DN w s.heap d es ep ks) (hz : es.size ≤ sizeLine)
    (q1 : k ∉ ks → ∀ h', DN w h' d (es.push ⟨k.hash w, key, v⟩) (ep + 1) (ks ++ [k]) → Heap.SameBut d s.heap h' → Q () { s with heap := h', toks := s.toks + k.draws })
    (q2 : ∀ j, ks[j]? = some k → ∀ h', DN w h' d (es.modify j fun e => { e with val := v }) ep ks → Heap.SameBut d s.heap h' → Q () { s with heap := h', toks := s.toks + k.draws }) : wpAny (model prog w) A (dictSet d key v) Q E s := by
  obtain ⟨R, he, hn⟩ := D
  obtain ⟨o, ho, hc, hd⟩ := id R
  unfold dictSet
  refine wpAny_holding ?_
  refine wpAny_bind (pyHash_key k key A s _ hk (by omega) ?_)
  unfold dictSetHashed
  refine wpAny_holding ?_
  refine wpAny_bind (findN (s := { s with toks := s.toks + k.draws }) hu hk h8 ho hd he hn (fun hm => ?_) fun j hj => ?_)
  · have sb : Heap.SameBut d s.heap (s.heap.update d (Obj.mapDictKeys fun x => x.push ⟨k.hash w, key, v⟩)) := Heap.SameBut.update ..
    refine wpAny_bind (wpAny_rule (wpAny_updateDictKeys (hz := hz) (s := { s with toks := s.toks + k.draws }) ho hd (q1 hm _ ⟨⟨_, Heap.get?_update_self _ ho (Obj.isFreed_of_dict (Obj.data_mapDictKeys hd _)), hc.mapDictKeys _, Obj.data_mapDictKeys hd _⟩, ?_, ?_⟩ sb)))
    · rw [Array.toList_push]
      exact EnN.push rfl (NestedIs.at (fun a o2 vs n ha hd2 => (sb.2 a fun e => by subst e; rw [ho] at ha; cases ha; rw [hd] at hd2; cases hd2).trans ha) _ _ hk) h8 (EnN.up R sb he)
    · rw [List.nodup_append]
      exact ⟨hn, by simp, fun a ha b hb => by simp at hb; subst hb; exact fun e => hm (e ▸ ha)⟩
  · have sb : Heap.SameBut d s.heap (s.heap.update d (Obj.mapDict fun x => x.modify j fun e => { e with val := v })) := Heap.SameBut.update ..
    refine wpAny_bind (wpAny_rule (wpAny_bind (wpAny_updateDict (s := { s with toks := s.toks + k.draws }) ho hd (wpAny_point (q2 j hj _ ⟨⟨_, Heap.get?_update_self _ ho (Obj.isFreed_of_dict (Obj.data_mapDict hd _)), hc.mapDict _, Obj.data_mapDict hd _⟩, ?_, hn⟩ sb)))))
    have e1 : (es.modify j fun e => { e with val := v }).toList = es.toList.modify j fun e => { e with val := v } := by simp
    rw [e1]
    exact EnN.modify j (EnN.up R sb he)
theorem hasN {Q : Bool → Shared → Prop} (hu : A.in1.units + 8 < cLine) (hk : NestedIs s.heap k key) (h8 : k.depth ≤ 8) (hs : (d == sysModules) = false) (D : DN w s.heap d es ep ks)
    (h : Q (decide (k ∈ ks)) { s with toks := s.toks + k.draws }) : wpAny (model prog w) A (contains (.ref d) key) Q E s := by
  have T := D.raw.typeIs
  refine wpAny_contains_slot T F.slot_dict_contains ?_
  refine call_meetsIn F.slot_dict_contains T F.entry_dict_contains (F.args_dict_contains_2 _ _) (S := fun B R s' => B = A ∧ s' = s ∧ R (.ok (.ret (.bool (decide (k ∈ ks))))) { s with toks := s.toks + k.draws }) (fun B R s' hS => ?_) ⟨rfl, rfl, wpAny_truthy_bool h⟩
  obtain ⟨e1, e2, hq⟩ := hS
  subst e1; subst e2
  show wpAny _ _ (dictGet d key >>= _) _ _ _
  refine wpAny_bind (getN hu hk h8 D ?_)
  rw [← entN_some D.en D.nd] at hq
  cases hf : entN es ks k with
  | some v =>
    rw [hf] at hq
    exact (show wpAny _ _ (ret (.bool true)) _ _ _ from wpAny_pure hq)
  | none =>
    rw [hf] at hq
    show wpAny _ _ (Builtin.Dict.pendingKey? d key >>= _) _ _ _
    exact wpAny_bind (wpAny_pendingKey_other hs (wpAny_pure hq))
theorem notInN {Q : Value → Shared → Prop} (hu : A.in1.units + 8 < cLine) (hk : NestedIs s.heap k key) (h8 : k.depth ≤ 8) (hs : (d == sysModules) = false) (D : DN w s.heap d es ep ks)
    (h : Q (.bool (!decide (k ∈ ks))) { s with toks := s.toks + k.draws }) : wpAny (model prog w) A (compareOp .NotIn key (.ref d)) Q E s := by
  show wpAny _ _ (do return .bool (!(← contains (.ref d) key))) Q E s
  exact wpAny_bind (hasN hu hk h8 hs D (wpAny_pure h))
theorem itemN {v : Value} {Q : Value → Shared → Prop} (hu : A.in1.units + 8 < cLine) (hk : NestedIs s.heap k key) (h8 : k.depth ≤ 8) (D : DN w s.heap d es ep ks) (hv : entN es ks k = some v)
    (h : Q v { s with toks := s.toks + k.draws }) : wpAny (model prog w) A (getItem (.ref d) key) Q E s := by
  have T := D.raw.typeIs
  unfold getItem
  refine wpAny_holding ?_
  refine wpAny_bind (wpAny_sequenceKey T (by decide) ?_)
  refine wpAny_bind (wpAny_callSpecial?_slot (name := Str.ofString "__getitem__") T slot_dict_getitem (wpAny_call_entry slot_dict_getitem T entry_dict_getitem ?_ (args_dict_getitem _ _)))
  show wpAny _ _ (dictGet d key >>= _) _ _ s
  refine wpAny_bind (getN hu hk h8 D ?_)
  rw [hv]
  exact wpAny_pure ⟨v, rfl, wpAny_pure h⟩
theorem putN {v : Value} {Q : Unit → Shared → Prop} (hu : A.in1.units + 8 < cLine) (hk : NestedIs s.heap k key) (h8 : k.depth ≤ 8) (D : DN w s.heap d es ep ks) (hz : es.size ≤ sizeLine)
    (q1 : k ∉ ks → ∀ h', DN w h' d (es.push ⟨k.hash w, key, v⟩) (ep + 1) (ks ++ [k]) → Heap.SameBut d s.heap h' → Q () { s with heap := h', toks := s.toks + k.draws })
    (q2 : ∀ j, ks[j]? = some k → ∀ h', DN w h' d (es.modify j fun e => { e with val := v }) ep ks → Heap.SameBut d s.heap h' → Q () { s with heap := h', toks := s.toks + k.draws }) : wpAny (model prog w) A (setItem (.ref d) key v) Q E s := by
  have T := D.raw.typeIs
  unfold setItem
  refine wpAny_holding ?_
  refine wpAny_bind (wpAny_sequenceKey T (by decide) ?_)
  refine wpAny_bind (wpAny_callSpecial?_slot (name := Str.ofString "__setitem__") T slot_dict_setitem (wpAny_call_entry slot_dict_setitem T entry_dict_setitem ?_ (args_dict_setitem _ _ _)))
  show wpAny _ _ (Builtin.Dict.notOrdered "__setitem__" ⟨[.ref d, key, v], []⟩ >>= _) _ _ s
  refine wpAny_bind (wpAny_notOrdered_dict T ?_)
  show wpAny _ _ (dictSet d key v >>= _) _ _ s
  exact wpAny_bind (setN hu hk h8 D hz (fun hm h' D' sb => wpAny_pure ⟨.none, rfl, wpAny_pure (q1 hm h' D' sb)⟩) fun j hj h' D' sb => wpAny_pure ⟨.none, rfl, wpAny_pure (q2 j hj h' D' sb)⟩)
end
end Ls
namespace Ls
open PySem L2 PyProof.Rows
def kIx (ks : List PyData) (k : NestedKey) : Option Nat := ks.findIdx? fun d => decide (keyOf d = some k)
def KeyIs [Tb] (K : PySem.W.Frag) (H : Hp) (y : V) (d : PyData) (k : NestedKey) : Prop := Dp K H y d ∧ keyOf d = some k ∧ k.depth ≤ 8
def DAt [Tb] (K : PySem.W.Frag) (H : Hp) (x : V) (a : Addr) (es : Array DictEntry) (ep : Nat) (us vs : List V) (ks : List PyData) : Prop := x = .ref a ∧ H a = some (dX a es ep) ∧ DctOk Tb.w a es us vs ks ∧ DpAll K H us ks
section
variable [Tb] {X : Cx} {pins : List (Addr × Obj)} {σ : L2.St} {H : Hp} {s : Shared}
mutual
theorem dp_nested (I : Inv X pins σ H s) : ∀ {v : V} {d : PyData} {k : NestedKey} {u : Value}, Dp X.K H v d → keyOf d = some k → RelV v u → NestedIs s.heap k u
  | _, _, _, _, .non, h, r => by cases h; cases r; exact .none
  | _, _, _, _, .bl b, h, r => by cases h; cases r; exact .bool rfl
  | _, _, _, _, .int i, h, r => by cases h; obtain ⟨t, rfl⟩ := r; exact .int _ _
  | _, _, _, _, .str x, h, r => by cases h; obtain ⟨t, rfl⟩ := r; exact .text _ _
  | _, _, _, _, .lst _ _, h, _ => by simp [keyOf] at h
  | _, _, _, _, .tup q t, h, r => by
    obtain ⟨ks, h1, h2⟩ := Option.map_eq_some_iff.mp (show (keysOf _).map NestedKey.tup = some _ from by simpa [keyOf] using h)
    subst h2
    cases r
    obtain ⟨its, rv, ⟨o, e1, e2, n, e3⟩, _⟩ := I.tuple q
    exact .tup e1 e2 e3 (dpa_nested I t h1 rv)
  | _, _, _, _, .dct _ _ _ _ _, h, _ => by simp [keyOf] at h
  | _, _, _, _, .obj _ _ _ _, h, _ => by simp [keyOf] at h
  | _, _, _, _, .cch _ _, h, _ => by simp [keyOf] at h
theorem dpa_nested (I : Inv X pins σ H s) : ∀ {vs : List V} {ds : List PyData} {ks : List NestedKey} {us : List Value}, DpAll X.K H vs ds → keysOf ds = some ks → Vals vs us → NestedAll s.heap ks us
  | _, _, _, _, .nil, h, r => by
    rw [keysOf] at h
    cases h; cases r; exact .nil
  | _, _, _, _, .cons (d := d) (ds := ds) q t, h, r => by
    obtain ⟨k, h1, h2⟩ := Option.bind_eq_some_iff.mp (show ((keyOf d).bind fun k => (keysOf ds).map fun ks => k :: ks) = some _ from by simpa [keysOf] using h)
    obtain ⟨ks, h3, h4⟩ := Option.map_eq_some_iff.mp h2
    subst h4
    cases r with
    | cons r1 r2 => exact .cons (dp_nested I q h1 r1) (dpa_nested I t h3 r2)
end
theorem ents_en (I : Inv X pins σ H s) : ∀ {es : List DictEntry} {us vs : List V} {ks : List PyData}, Ents Tb.w es us vs ks → DpAll X.K H us ks → ∃ kk, EnN Tb.w s.heap es kk ∧ ks.map keyOf = kk.map some
  | _, _, _, _, .nil, _ => ⟨[], .nil, rfl⟩
  | _, _, _, _, .cons (k := k) h1 h2 h3 r1 r2 t, q => by
    cases q with
    | cons q1 q2 =>
      obtain ⟨kk, e1, e2⟩ := ents_en I t q2
      exact ⟨k :: kk, .cons h3 (dp_nested I q1 h1 r1) h2 e1, by rw [List.map_cons, List.map_cons, e2, h1]⟩
theorem kIx_of {ks : List PyData} {kk : List NestedKey} (h : ks.map keyOf = kk.map some) (k : NestedKey) : (kk.findIdx? fun x => decide (x = k)) = kIx ks k := by
  have h1 : ((kk.map some).findIdx? fun x => decide (x = some k)) = kk.findIdx? fun x => decide (x = k) := by
    rw [List.findIdx?_map]
    congr 1
    funext x
    simp [Function.comp]
  have h2 : ((ks.map keyOf).findIdx? fun x => decide (x = some k)) = kIx ks k := by
    rw [List.findIdx?_map]
    rfl
  rw [← h1, ← h, h2]
theorem ents_val {w : World} : ∀ {es : List DictEntry} {us vs : List V} {ks : List PyData} {j : Nat} {v : V}, Ents w es us vs ks → vs[j]? = some v → ∃ e, es[j]? = some e ∧ RelV v e.val
  | _, _, _, _, _, _, .nil, h => by simp at h
  | _, _, _, _, 0, _, .cons _ _ _ _ r _, h => by simp at h; subst h; exact ⟨_, rfl, r⟩
  | _, _, _, _, j + 1, _, .cons _ _ _ _ _ t, h => by
    obtain ⟨e, h1, h2⟩ := ents_val t (by simpa using h)
    exact ⟨e, by simpa using h1, h2⟩
theorem ents_push {w : World} {e : DictEntry} {u v : V} {d : PyData} {k : NestedKey} (h1 : keyOf d = some k) (h2 : k.depth ≤ 8) (h3 : e.hash = k.hash w) (h4 : RelV u e.key) (h5 : RelV v e.val) : ∀ {es : List DictEntry} {us vs : List V} {ks : List PyData}, Ents w es us vs ks → Ents w (es ++ [e]) (us ++ [u]) (vs ++ [v]) (ks ++ [d])
  | _, _, _, _, .nil => .cons h1 h2 h3 h4 h5 .nil
  | _, _, _, _, .cons a b c r1 r2 t => .cons a b c r1 r2 (ents_push h1 h2 h3 h4 h5 t)
theorem ents_set {w : World} {v : V} {u : Value} (h : RelV v u) : ∀ {es : List DictEntry} {us vs : List V} {ks : List PyData} (j : Nat), Ents w es us vs ks → Ents w (es.modify j fun e => { e with val := u }) us (vs.set j v) ks
  | _, _, _, _, 0, .nil => .nil
  | _, _, _, _, _ + 1, .nil => .nil
  | _, _, _, _, 0, .cons a b c r1 _ t => .cons a b c r1 h t
  | _, _, _, _, j + 1, .cons a b c r1 r2 t => .cons a b c r1 r2 (ents_set h j t)
theorem dct_dn (I : Inv X pins σ H s) {x : V} {a : Addr} {es : Array DictEntry} {ep : Nat} {us vs : List V} {ks : List PyData} (D : DAt X.K H x a es ep us vs ks) : ∃ kk, DN Tb.w s.heap a es ep kk ∧ ks.map keyOf = kk.map some ∧ ∀ k, (entN es kk k = none ↔ kIx ks k = none) ∧ (∀ j, kIx ks k = some j → kk[j]? = some k ∧ ∀ v, vs[j]? = some v → ∃ u, entN es kk k = some u ∧ RelV v u) ∧ (decide (k ∈ kk) = (kIx ks k).isSome) := by
  obtain ⟨_, hH, hd, hk⟩ := D
  obtain ⟨R, _, _⟩ := I.hok a _ hH
  obtain ⟨kk, e1, e2⟩ := ents_en I hd.en hk
  have nd : kk.Nodup := by
    have := hd.nd
    rw [e2] at this
    exact (List.pairwise_map.mp this).imp fun h e => h (by rw [e])
  have dn : DN Tb.w s.heap a es ep kk := ⟨R, e1, nd⟩
  have ki : ∀ k, (kk.findIdx? fun x => decide (x = k)) = kIx ks k := kIx_of e2
  have sm : ∀ k, decide (k ∈ kk) = (kIx ks k).isSome := fun k => by
    rw [← ki k]
    by_cases h : k ∈ kk
    · obtain ⟨j, hj⟩ := List.getElem?_of_mem h
      rw [idxN nd hj, decide_eq_true h]; rfl
    · rw [List.findIdx?_eq_none_iff.mpr fun x hx => decide_eq_false fun (e : x = k) => h (e ▸ hx), decide_eq_false h]; rfl
  refine ⟨kk, dn, e2, fun k => ⟨?_, fun j hj => ?_, sm k⟩⟩
  · have h1 := entN_some (k := k) e1 nd
    have h2 := sm k
    cases h3 : entN es kk k with
    | none => cases h4 : kIx ks k with
      | none => simp
      | some j => rw [h3, h2, h4] at h1; cases h1
    | some u => cases h4 : kIx ks k with
      | none => rw [h3, h2, h4] at h1; cases h1
      | some j => simp
  · have hj2 : kk[j]? = some k := by
      rw [← ki k] at hj
      obtain ⟨hl, h2, _⟩ := List.findIdx?_eq_some_iff_getElem.mp hj
      rw [List.getElem?_eq_getElem hl]
      simpa using h2
    refine ⟨hj2, fun v hv => ?_⟩
    obtain ⟨e, h1, h2⟩ := ents_val hd.en hv
    exact ⟨e.val, by rw [entN_yes nd hj2, ← Array.getElem?_toList, h1]; rfl, h2⟩
end
section
variable [Tb] {X : Cx}
def rKIn (K : PySem.W.Frag) (f : Bool → Bool) : R2 := fun x y H Q => ∃ a es ep us vs ks d k, DAt K H y a es ep us vs ks ∧ KeyIs K H x d k ∧ Q (.bl (f (kIx ks k).isSome)) H
theorem op_notInK (hw : X.w = Tb.w) (hu : X.A.in1.units + 8 < cLine) : OpR X (compareOp .NotIn) (rKIn X.K not) := by
  intro pins s σ H x y v u Q I rx ry h
  obtain ⟨a, es, ep, us, vs, ks, d, k, D, ⟨q1, q2, q3⟩, q⟩ := h
  obtain ⟨kk, dn, _, F⟩ := dct_dn I D
  obtain ⟨rfl, _, hd, _⟩ := D
  cases ry
  have hk := dp_nested I q1 q2 rx
  have e := (F k).2.2
  rw [hw] at *
  refine notInN hu hk q3 hd.ns dn ?_
  rw [e]
  exact ⟨.bl (!(kIx ks k).isSome), H, I.tok _, rfl, q⟩
def rKIx (K : PySem.W.Frag) : R2 := fun x y H Q => ∃ a es ep us vs ks d k j v, DAt K H x a es ep us vs ks ∧ KeyIs K H y d k ∧ kIx ks k = some j ∧ vs[j]? = some v ∧ Q v H
theorem ix_K (hw : X.w = Tb.w) (hu : X.A.in1.units + 8 < cLine) : IxR X (rKIx X.K) := by
  intro value slice pins s σ H x y v u Q I rx ry h hs
  obtain ⟨a, es, ep, us, vs, ks, d, k, j, v0, D, ⟨q1, q2, q3⟩, q4, q5, q⟩ := h
  obtain ⟨kk, dn, _, F⟩ := dct_dn I D
  obtain ⟨rfl, _, hd, _⟩ := D
  cases rx
  have hk := dp_nested I q1 q2 ry
  obtain ⟨u0, h1, h2⟩ := ((F k).2.1 j q4).2 v0 q5
  rw [hw] at *
  exact tail_any dn.raw.typeIs slot_dict_getitem.lookup (itemN hu hk q3 dn h1 ⟨v0, H, I.tok _, h2, q⟩) hs
def rKSet (K : PySem.W.Frag) : TSet := fun o i v H Q => ∃ a es ep us vs ks d k, DAt K H o a es ep us vs ks ∧ KeyIs K H i d k ∧
  (kIx ks k = none → ks.length < sizeLine ∧ ∀ es' ep', DctOk Tb.w a es' (us ++ [i]) (vs ++ [v]) (ks ++ [d]) → Q (upd H a (dX a es' ep'))) ∧ (∀ j, kIx ks k = some j → ∀ es' ep', DctOk Tb.w a es' us (vs.set j v) ks → Q (upd H a (dX a es' ep')))
theorem set_K (hw : X.w = Tb.w) (hu : X.A.in1.units + 8 < cLine) : PSet X (rKSet X.K) := by
  intro pins s σ H o i v ov iv u Q I ro ri rv h
  obtain ⟨a, es, ep, us, vs, ks, d, k, D, ⟨q1, q2, q3⟩, n1, n2⟩ := h
  obtain ⟨kk, dn, eK, F⟩ := dct_dn I D
  obtain ⟨rfl, hH, hd, _⟩ := D
  cases ro
  have hk := dp_nested I q1 q2 ri
  have mu : Mut (H a) := by rw [hH]; exact True.intro
  have sz : es.size = ks.length := by rw [← Array.length_toList]; exact (ents_len hd.en).2.2
  have wr : ∀ {h' : Heap} {es' : Array DictEntry} {ep' : Nat} {kk' : List NestedKey}, DN Tb.w h' a es' ep' kk' → Heap.SameBut a s.heap h' → Inv X pins σ (upd H a (dX a es' ep')) { s with heap := h', toks := s.toks + k.draws } := fun {h' es' ep' kk'} D' sb => by
    obtain ⟨ob, ho, hc, hdd⟩ := id D'.raw
    exact I.write (x := a) (e := a) mu (.inl rfl) (fun b u hb e => (sb.2 b hb).trans e) ⟨_, ho⟩ ⟨D'.raw, ⟨_, ho⟩, fun h1 h2 r e => r.at e⟩
  have nin : k ∉ kk → kIx ks k = none := fun hn => by
    have := (F k).2.2
    rw [decide_eq_false hn] at this
    cases hx : kIx ks k with
    | none => rfl
    | some j => rw [hx] at this; cases this
  have isj : ∀ j, kk[j]? = some k → kIx ks k = some j := fun j hj => by rw [← kIx_of eK k]; exact idxN dn.nd hj
  rw [hw] at *
  have hz := hd.sz
  refine putN hu hk q3 dn (by omega) (fun hn h' D' sb => ⟨_, wr D' sb, (n1 (nin hn)).2 _ _ ⟨?_, ?_, ?_, hd.ns⟩⟩) fun j hj h' D' sb => ⟨_, wr D' sb, n2 j (isj j hj) _ _ ⟨?_, hd.nd, hd.sz, hd.ns⟩⟩
  · rw [Array.toList_push]
    exact ents_push q2 q3 rfl ri rv hd.en
  · rw [List.map_append, List.nodup_append]
    refine ⟨hd.nd, by simp, fun x hx y hy => ?_⟩
    simp only [List.map_cons, List.map_nil, List.mem_singleton] at hy
    subst hy
    rw [eK] at hx
    obtain ⟨z, hz, rfl⟩ := List.mem_map.mp hx
    rw [q2]
    exact fun e => hn (Option.some.inj e ▸ hz)
  · rw [List.length_append]; exact (n1 (nin hn)).1
  · have e1 : (es.modify j fun e => { e with val := u }).toList = es.toList.modify j fun e => { e with val := u } := by simp
    rw [e1]
    exact ents_set rv j hd.en
def tDct0 : TE := fun σ H Q => ∀ p, H p = none → (p == sysModules) = false → Q (.ref p) (upd H p (dX p #[] 0))
theorem pe_dct0 {pos : Pos} : PE X (.Dict [] [] pos) tDct0 := by
  refine ⟨fun pins s σ H Q I h => ?_⟩
  refine wpAny_Dict_empty ?_
  have e1 : (s.heap.push { cls := .type "dict", data := .dict #[] }).get? s.heap.objs.size = some { cls := .type "dict", data := .dict #[] } := Heap.get?_push_size _ rfl
  have hs : (s.heap.objs.size == sysModules) = false := beq_eq_false_iff_ne.mpr (Nat.ne_of_gt I.big)
  refine ⟨.ref s.heap.objs.size, _, I.laid (a := s.heap.objs.size) (o := dX s.heap.objs.size #[] 0) (t' := s.toks) (fun b u q => Heap.get?_push_of_some _ q) (Nat.le_refl _) ⟨⟨_, e1, ⟨rfl, rfl, rfl⟩, rfl⟩, ⟨_, e1⟩, fun h1 h2 r e => r.at e⟩, rfl, h _ (I.hok.fresh (Nat.le_refl _)) hs⟩
theorem room9 {k : Nat} {A : Around} (r : L2.Room k A) : A.in1.units + 8 < cLine := by
  have := r.un
  rw [Around.in1_units]
  omega
end
end Ls
namespace Ls
open PySem L2
variable [Tb] [Vw]
def keyOf8 (d : PyData) : Option NestedKey := match keyOf d with
  | some k => if k.depth ≤ 8 then some k else none
  | none => none
def kAll (ks : List PyData) : Bool := ks.all fun d => (keyOf d).isSome
def dInK (f : Bool → Bool) (a b : PyData) : Option PyData := match b with
  | .dict kvs => if kAll (kvs.map (·.1)) then (keyOf8 a).map fun k => .bool (f (kIx (kvs.map (·.1)) k).isSome) else none
  | _ => none
def kxI (ks : List PyData) (os : List O) (d : PyData) : Option O := (keyOf8 d).bind fun k => (kIx ks k).bind fun j => os[j]?
def kxD (kvs : List (PyData × PyData)) (d : PyData) : Option PyData := if kAll (kvs.map (·.1)) then (keyOf8 d).bind fun k => (kIx (kvs.map (·.1)) k).bind fun j => (kvs[j]?).map (·.2) else none
def kxO : O → PyData → Option O
  | .fz (.dict kvs), d => (kxD kvs d).map .fz
  | .dct ks os, d => (kxI ks os d).bind seeO
  | .vu (.dct ks os), d => (kxI ks os d).map roO
  | _, _ => none
def dPut (ks : List PyData) (os : List O) (d : PyData) (o : O) : Option O := (keyOf8 d).bind fun k => match kIx ks k with
  | none => if ks.length < sizeLine then some (.dct (ks ++ [d]) (os ++ [o])) else none
  | some n => some (.dct ks (os.set n o))
section
variable {K : PySem.W.Frag} {W : WX} {P : List Nat} {S H : Hp} {A B C : Fp} {σ : L2.St} {ρ : En}
theorem key8 {d : PyData} {k : NestedKey} (h : keyOf8 d = some k) : keyOf d = some k ∧ k.depth ≤ 8 := by
  unfold keyOf8 at h
  cases hk : keyOf d with
  | none => rw [hk] at h; cases h
  | some k' =>
    rw [hk] at h
    have h : (if k'.depth ≤ 8 then some k' else none) = some k := h
    by_cases z : k'.depth ≤ 8
    · rw [if_pos z] at h; cases h; exact ⟨rfl, z⟩
    · rw [if_neg z] at h; cases h
theorem kAll_obj {c : Str} {fn : List Str} {ds : List PyData} : kAll ((objKv c fn ds).map (·.1)) = false := by
  unfold objKv
  rw [List.map_cons]
  simp [kAll, keyOf]
theorem dp_dct {T : Hp} {v : V} {kvs : List (PyData × PyData)} (q : Dp K T v (.dict kvs)) (h : kAll (kvs.map (·.1)) = true) : ∃ a es ep us vs ds, DAt K T v a es ep us vs (kvs.map (·.1)) ∧ kvs = (kvs.map (·.1)).zip ds ∧ DpAll K T vs ds ∧ ds.length = (kvs.map (·.1)).length := by
  cases q with
  | @dct a es ep us vs ks ds _ e k r t z =>
    have l1 := ents_len k.en
    have l2 := dpall_len t
    have hm : kvs.map (·.1) = ks := by rw [z]; exact List.map_fst_zip (by omega)
    rw [hm]
    exact ⟨a, es, ep, us, vs, ds, ⟨rfl, e, k, r⟩, z, t, by omega⟩
  | obj e l r z => subst z; rw [kAll_obj] at h; cases h
  | cch e z => subst z; cases h
theorem opS_inK (f : Bool → Bool) : OpS K (rKIn K f) (dInK f) := by
  intro x y H a b c ha hb hc Q k
  cases b with
  | dict kvs =>
    have hc : (if kAll (kvs.map (·.1)) then (keyOf8 a).map fun k => PyData.bool (f (kIx (kvs.map (·.1)) k).isSome) else none) = some c := hc
    by_cases z : kAll (kvs.map (·.1)) = true
    · rw [if_pos z] at hc
      obtain ⟨k1, h1, h2⟩ := Option.map_eq_some_iff.mp hc
      subst h2
      obtain ⟨a0, es, ep, us, vs, ds, D, _⟩ := dp_dct hb z
      obtain ⟨h3, h4⟩ := key8 h1
      exact ⟨a0, es, ep, us, vs, _, a, k1, D, ⟨ha, h3, h4⟩, k _ (Sc.bl _)⟩
    · rw [if_neg z] at hc; cases hc
  | _ => cases hc
theorem or_dctS {T : Fp} {H T2 : Hp} {x : V} {ks : List PyData} {os : List O} (sub : ∀ a u, S a = some u → T2 a = some u) (hh : ∀ a u, H a = some u → T2 a = some u) (q : OR K S H x (.dct ks os) B) : ∃ a es ep us vs B1, DAt K T2 x a es ep us vs ks ∧ ORs K S H vs os B1 ∧ vs.length = ks.length := by
  cases q with
  | dct e k r t z => exact ⟨_, _, _, _, _, _, ⟨rfl, hh _ _ e, k, dpa_mono sub r⟩, t, (ents_len k.en).2.1⟩
theorem or_kx {T : Fp} {x y : V} {o o' : O} {d : PyData} (w : WF S H T) (q : OR K S H x o B) (hk : Dp K H y d) (h : kxO o d = some o') :
    ∃ a es ep us vs ks k j v, DAt K H x a es ep us vs ks ∧ KeyIs K H y d k ∧ kIx ks k = some j ∧ vs[j]? = some v ∧ OR K S H v o' Fp.z := by
  cases o with
  | fz db =>
    cases db with
    | dict kvs =>
      obtain ⟨d1, h1, h2⟩ := Option.map_eq_some_iff.mp (show (kxD kvs d).map O.fz = some o' from h)
      subst h2
      unfold kxD at h1
      by_cases z : kAll (kvs.map (·.1)) = true
      · rw [if_pos z] at h1
        obtain ⟨k, h2, h3⟩ := Option.bind_eq_some_iff.mp h1
        obtain ⟨j, h4, h5⟩ := Option.bind_eq_some_iff.mp h3
        obtain ⟨p, h6, h7⟩ := Option.map_eq_some_iff.mp h5
        cases q with
        | fz q _ =>
          obtain ⟨a0, es, ep, us, vs, ds, D, e, t, _⟩ := dp_dct q z
          obtain ⟨g1, g2⟩ := key8 h2
          have hd : ds[j]? = some d1 := by
            rw [e] at h6
            rw [← h7]
            exact (List.getElem?_zip_eq_some.mp h6).2
          obtain ⟨v, hv, hq⟩ := dpall_get t hd
          exact ⟨a0, es, ep, us, vs, _, k, j, v, ⟨D.1, w.sub _ _ D.2.1, D.2.2.1, dpa_mono w.sub D.2.2.2⟩, ⟨hk, g1, g2⟩, h4, hv, .fz hq fun _ => rfl⟩
      · rw [if_neg z] at h1; cases h1
    | _ => cases h
  | dct ks os =>
    obtain ⟨o1, h1, h2⟩ := Option.bind_eq_some_iff.mp (show (kxI ks os d).bind seeO = some o' from h)
    obtain ⟨k, h3, h4⟩ := Option.bind_eq_some_iff.mp h1
    obtain ⟨j, h5, h6⟩ := Option.bind_eq_some_iff.mp h4
    obtain ⟨a, es, ep, us, vs, B1, D, t, _⟩ := or_dctS (T := T) w.sub (fun _ _ h => h) q
    obtain ⟨v, B', h7, h8⟩ := ors_get t h6
    obtain ⟨g1, g2⟩ := key8 h3
    refine ⟨a, es, ep, us, vs, ks, k, j, v, D, ⟨hk, g1, g2⟩, h5, h7, ?_⟩
    cases h8 with
    | fz q z => cases h2; exact .fz q fun _ => rfl
    | raw z => cases h2; exact .raw fun _ => rfl
    | _ => cases h2
  | vu u =>
    cases u with
    | dct ks os =>
      obtain ⟨o1, h1, h2⟩ := Option.map_eq_some_iff.mp (show (kxI ks os d).map roO = some o' from h)
      subst h2
      obtain ⟨k, h3, h4⟩ := Option.bind_eq_some_iff.mp h1
      obtain ⟨j, h5, h6⟩ := Option.bind_eq_some_iff.mp h4
      cases q with
      | vu q z =>
        obtain ⟨a, es, ep, us, vs, B1, D, t, _⟩ := or_dctS (T := T) w.sub (fun a u e => (w.vs a u e).1) q
        obtain ⟨v, B', h7, h8⟩ := ors_get t h6
        obtain ⟨g1, g2⟩ := key8 h3
        refine ⟨a, es, ep, us, vs, ks, k, j, v, D, ⟨hk, g1, g2⟩, h5, h7, ?_⟩
        cases h8 with
        | fz q z => exact .fz q fun _ => rfl
        | raw z => exact .raw fun _ => rfl
        | exn q z => exact .exn q fun _ => rfl
        | lst a b c => exact .vu (.lst a b c) fun _ => rfl
        | ins a b c d e => exact .vu (.ins a b c d e) fun _ => rfl
        | dct a b c d e => exact .vu (.dct a b c d e) fun _ => rfl
        | vu q z => exact .vu q fun _ => rfl
    | _ => cases h
  | _ => cases h
def eKx (fa fb : FP) : FE := fun ρ => (fa ρ).bind fun a ρ1 => (fb ρ1).bind fun b ρ2 => match pkO ρ2 a, pkD ρ2 b with
  | some o, some d => (match kxO o d with
    | some o' => .ok o' ρ2
    | none => .bad)
  | _, _ => .bad
theorem sndE_kx {ta tb : TE} {fa fb : FP} (ha : SndP K W ta fa) (hb : SndP K W tb fb) : SndE K W (tOp (rKIx K) ta tb) (eKx fa fb) := by
  refine snd_two (r := rKIx K) ha hb fun x y a b σ ρ S H A B w e ra rb => ?_
  cases h1 : pkO ρ a with
  | none => exact True.intro
  | some o =>
    cases h2 : pkD ρ b with
    | none => exact True.intro
    | some d =>
      show OutOk K W (ROr K) _ σ S H (A + B) (match kxO o d with
        | some o' => Out.ok o' ρ
        | none => .bad)
      cases h3 : kxO o d with
      | none => exact True.intro
      | some o' =>
        intro Q k
        obtain ⟨B', q⟩ := ra o h1
        obtain ⟨a0, es, ep, us, vs, ks, kk, j, v, D, hk, hj, hv, q'⟩ := or_kx w q (pkD_or w rb h2) h3
        have le : ∀ b, A b ≤ (A + B) b := fun b => by rw [add_at]; omega
        exact ⟨a0, es, ep, us, vs, ks, d, kk, j, v, D, hk, hj, hv, k v S H A Fp.z (by rw [addz]; exact w.less le) e q' (by rw [addz]; exact Tr.refl.less le)⟩
def eDct0 : FE := fun ρ => .ok (.dct [] []) ρ
theorem sndE_dct0 : SndE K W tDct0 eDct0 := by
  intro σ ρ S H A w e Q k p hp hs
  obtain ⟨w1, t1, k1⟩ := newO (u := dX p #[] 0) w hp
  have eA : Fp.one p + A = A + (fun b => Fp.one p b + Fp.z b) := funext fun b => by simp only [add_at, z_at]; omega
  rw [eA] at w1 t1
  exact k (.ref p) S _ A _ w1 (er_keep (fun _ _ h => h) e k1) (.dct (B := Fp.z) upd_same ⟨.nil, List.nodup_nil, Nat.zero_le _, hs⟩ .nil (.nil fun _ => rfl) fun _ => rfl) t1
theorem dput_or {T N1 N2 : Fp} {a : Addr} {y v : V} {ks : List PyData} {os : List O} {d : PyData} {o o' : O} {Q : Hp → Prop} (w : WF S H T) (hT : ∀ b, N1 b + N2 b ≤ T b) (q : OR K S H (.ref a) (.dct ks os) N1) (r : OR K S H v o N2) (hk : Dp K S y d) (hp : dPut ks os d o = some o')
    (hQ : ∀ u N, ¬ Odd u → OR K S (upd H a u) (.ref a) o' N → (∀ b, N b ≤ N1 b + N2 b) → Q (upd H a u)) : rKSet K (.ref a) y v H Q := by
  cases q with
  | @dct _ _ es ep us vs _ _ _ B1 e k r1 t z =>
    obtain ⟨k1, h1, h2⟩ := Option.bind_eq_some_iff.mp hp
    obtain ⟨g1, g2⟩ := key8 h1
    have oa := w.one a
    have ha := hT a
    have za := z a
    rw [one_same] at za
    have keep : ∀ {F : Fp} {u : HO}, F a = 0 → ∀ b, 0 < F b → upd H a u b = H b := fun hF b hb => upd_ne fun e => by rw [e] at hb; omega
    have lv : vs.length = ks.length := (ents_len k.en).2.1
    cases hx : kIx ks k1 with
    | none =>
      rw [hx] at h2
      have h2 : (if ks.length < sizeLine then some (O.dct (ks ++ [d]) (os ++ [o])) else none) = some o' := h2
      by_cases hz : ks.length < sizeLine
      · rw [if_pos hz] at h2
        cases h2
        refine ⟨a, es, ep, us, vs, ks, d, k1, ⟨rfl, e, k, dpa_mono w.sub r1⟩, ⟨dp_mono w.sub hk, g1, g2⟩, fun _ => ⟨hz, fun es' ep' D => ?_⟩, fun j hj => (by rw [hx] at hj; cases hj)⟩
        have kk : DpAll K S (us ++ [y]) (ks ++ [d]) := dpall_app r1 (.cons hk .nil)
        have t2 := ors_keep (fun _ _ h => h) (keep (u := dX a es' ep') (F := fun b => B1 b + N2 b) (by first | omega | (dsimp only; omega))) (ors_add t r)
        exact hQ (dX a es' ep') (fun b => Fp.one a b + (B1 b + N2 b)) odd_dX (.dct upd_same D kk t2 fun _ => rfl) fun b => by rw [z b]; first | omega | (dsimp only; omega)
      · rw [if_neg hz] at h2; cases h2
    | some n =>
      rw [hx] at h2
      cases (show some (O.dct ks (os.set n o)) = some o' from h2)
      refine ⟨a, es, ep, us, vs, ks, d, k1, ⟨rfl, e, k, dpa_mono w.sub r1⟩, ⟨dp_mono w.sub hk, g1, g2⟩, fun hn => (by rw [hx] at hn; cases hn), fun j hj es' ep' D => ?_⟩
      rw [hx] at hj
      cases hj
      obtain ⟨N3, h3, h4⟩ := ors_set n t r
      have t2 := ors_keep (fun _ _ h => h) (keep (u := dX a es' ep') (F := N3) (by have := h4 a; omega)) h3
      exact hQ (dX a es' ep') (fun b => Fp.one a b + N3 b) odd_dX (.dct upd_same D r1 t2 fun _ => rfl) fun b => by rw [z b]; have := h4 b; first | omega | (dsimp only; omega)
theorem slot_setO {j : Nat} {a : Addr} {u : HO} {o' : O} {N T : Fp} (w : WF S H T) (h1 : σ[j]? = some (some (.ref a))) (hj : ∃ x, ρ[j]? = some x) (e : ER K S H σ (ρ.set j none) C) (hC : C a = 0) (hu : ¬ Odd u) (ta : 0 < T a)
    (q : OR K S (upd H a u) (.ref a) o' N) (hT : ∀ b, N b + C b ≤ T b) : ∃ A', WF S (upd H a u) A' ∧ ER K S (upd H a u) σ (ρ.set j (some o')) A' ∧ Tr S H T S (upd H a u) A' := by
  obtain ⟨w2, t2⟩ := mutO (u := u) w ta hu
  have e2 : ER K S (upd H a u) σ (ρ.set j none) C := er_keep (fun _ _ h => h) e fun b hb => upd_ne fun eb => by rw [eb] at hb; omega
  obtain ⟨x, hx⟩ := hj
  have e3 := er_back e2 h1 (set_none_get hx) q
  rw [List.set_set] at e3
  exact ⟨_, w2.less hT, e3, t2.less hT⟩
def kKx (j : Nat) (o k : O) (ρ2 : En) : SO := match ρ2[j]?, k with
  | some (some (.dct ks os)), .fz d => (match dPut ks os d o with
    | some o' => .nx (ρ2.set j (some o'))
    | none => .bad)
  | _, _ => .bad
def sKx (j : Nat) (fk f : FE) : FS := fun ρ => (f ρ).toS fun o ρ1 => match ρ1[j]? with
  | some (some _) => (fk ρ1).toS (kKx j o)
  | _ => .bad
theorem sndS_kx {j : Nat} {te tk : TE} {fk f : FE} (h : SndE K W te f) (hk : SndE K W tk fk) : SndS K W P (tAsg te (gSub (tVar j) tk (rKSet K))) (sKx j fk f) := by
  refine sndS_bind (u := fun v D σ H => gSub (tVar j) tk (rKSet K) v σ H D.nx) h fun v o σ ρ S H A B w e r => ?_
  have q := snd_beside hk w e
  cases hj : ρ[j]? with
  | none => exact True.intro
  | some x =>
    cases x with
    | none => exact True.intro
    | some o0 =>
      obtain ⟨u, _, _, hs, _, _, _⟩ := er_get e hj
      show SOk K W P σ S H (A + B) _ ((fk ρ).toS (kKx j o))
      cases hf : fk ρ with
      | bad => exact True.intro
      | exc x ρ' =>
        rw [hf] at q
        exact fun D k => ⟨u, hs, q _ fun cls d S' H' A' w' e' x' t' => k cls d σ S' H' A' w' e' x' t' Kp.refl⟩
      | ok kq ρ2 =>
        rw [hf] at q
        show SOk K W P σ S H (A + B) _ (kKx j o kq ρ2)
        unfold kKx
        cases hj1 : ρ2[j]? with
        | none => exact True.intro
        | some x =>
          cases x with
          | none => exact True.intro
          | some o1 =>
            cases o1 with
            | dct ks os =>
              cases kq with
              | fz d =>
                dsimp only
                cases hp : dPut ks os d o with
                | none => exact True.intro
                | some o' =>
                  intro D k
                  refine ⟨u, hs, q _ fun y S1 H1 A1 C1 w1 e1 rp t1 sub1 kp1 => ?_⟩
                  obtain ⟨v1, N1, C, hs1, qd, e2, z2⟩ := er_get e1 hj1
                  rw [hs] at hs1
                  cases hs1
                  have r1 : OR K S1 H1 v o B := or_keep sub1 kp1 r
                  have dk : Dp K S1 y d := by cases rp with | fz q _ => exact q
                  have hv : ∃ a, u = .ref a := by cases qd with | dct _ _ _ _ _ => exact ⟨_, rfl⟩
                  obtain ⟨a, rfl⟩ := hv
                  have na : 0 < N1 a := by cases qd with | dct _ _ _ _ z => rw [z a, one_same]; omega
                  have o1 := w1.one a
                  refine dput_or w1 (fun b => by simp only [add_at]; have := z2 b; omega) qd r1 dk hp fun u' N hu qn hN => ?_
                  obtain ⟨A', w3, e3, t3⟩ := slot_setO (T := A1 + C1 + B) w1 hs ⟨_, hj1⟩ e2 (by simp only [add_at] at o1; have := z2 a; omega) hu (by simp only [add_at]; have := z2 a; omega) qn fun b => by simp only [add_at]; have := z2 b; have := hN b; omega
                  exact k σ S1 _ A' w3 e3 (t1.trans t3) Kp.refl
              | _ => exact True.intro
            | _ => exact True.intro
def sKxF (cn f : Str) (i k q : Nat) (fe : FE) : FS := fun ρ => match (ρ[i]?).bind id, (ρ[q]?).bind id with
  | some o0, some (.fz d) => (match fldOwn cn f k o0 with
    | some (.dct ks os) => (match fe ρ with
      | .ok o _ => (match (dPut ks os d o).bind fun o' => setF cn f k o' o0 with
        | some o2 => .nx (ρ.set i (some o2))
        | none => .bad)
      | .exc x _ => .exc x ρ
      | .bad => .bad)
    | _ => .bad)
  | _, _ => .bad
theorem sndS_kxF {cn f : Str} {i k q : Nat} {t : TE} {fe : FE} (hc : ClF K cn f) (h : SndK K W (ROr K) t fe) : SndS K W P (tAsg t (gSub (tFld K (tVar i) f) (tVar q) (rKSet K))) (sKxF cn f i k q fe) := by
  intro σ ρ S H A w e
  unfold sKxF
  cases hi : (ρ[i]?).bind id with
  | none => exact True.intro
  | some o0 =>
    cases hq : (ρ[q]?).bind id with
    | none => exact True.intro
    | some oq =>
      cases oq with
      | fz d =>
        dsimp only
        cases hf : fldOwn cn f k o0 with
        | none => exact True.intro
        | some ol =>
          cases ol with
          | dct ks os =>
            dsimp only
            obtain ⟨x0, h3, h4⟩ := Option.bind_eq_some_iff.mp hi
            have h4 : x0 = some o0 := h4
            subst h4
            obtain ⟨xq, h5, h6⟩ := Option.bind_eq_some_iff.mp hq
            have h6 : xq = some (.fz d) := h6
            subst h6
            obtain ⟨v, Bi, C, e1, qo, e2, z⟩ := er_get e h3
            obtain ⟨y, By, _, e5, qy, _, _⟩ := er_get e h5
            have dk : Dp K S y d := by cases qy with | fz q _ => exact q
            obtain ⟨a, dx, fv, u, Bk, R, ev, eH, el, qu, zB, back⟩ := fld_focus qo hf
            subst ev
            have q2 := h σ ρ S H A w e
            cases hfe : fe ρ with
            | bad => exact True.intro
            | exc x ρ' =>
              rw [hfe] at q2
              obtain ⟨_, q2⟩ := q2
              exact fun D kk => q2 _ fun cls d S' H' w' kp sub x' t' => kk cls d σ S' H' A w' (er_keep sub e kp) x' t' Kp.refl
            | ok o ρ' =>
              rw [hfe] at q2
              obtain ⟨_, q2⟩ := q2
              dsimp only
              cases hs : (dPut ks os d o).bind fun o' => setF cn f k o' o0 with
              | none => exact True.intro
              | some o2 =>
                intro D kk
                obtain ⟨o', p1, p2⟩ := Option.bind_eq_some_iff.mp hs
                refine q2 _ fun v0 S' H' B w' kp sub r' t' => ?_
                have hA : ∀ b, A b = Bk b + R b + C b := fun b => by rw [z b, zB b]
                have hv : ∃ l, u = .ref l := by cases qu with | dct _ _ _ _ _ => exact ⟨_, rfl⟩
                obtain ⟨l, rfl⟩ := hv
                have nl : 0 < Bk l := by cases qu with | dct _ _ _ _ z => rw [z l, one_same]; omega
                have ol := w'.one l
                rw [add_at] at ol
                have hAl := hA l
                have qu' : OR K S' H' (.ref l) (.dct ks os) Bk := or_keep sub (fun b hb => kp b (by have := hA b; omega)) qu
                have fa : 0 < A a := by
                  cases o0 with
                  | ins c fn os0 =>
                    cases qo with
                    | ins eA eD _ _ zz => have := z a; have := zz a; rw [one_same] at this; omega
                  | _ => cases hf
                refine ⟨_, e1, a, _, dx, fv, _, rfl, (kp a fa).trans eH, hc.cl, hc.no, el, y, e5, ?_⟩
                refine dput_or w' (fun b => by simp only [add_at]; have := hA b; omega) qu' r' (dp_mono sub dk) p1 fun u' N hu qn hN => ?_
                obtain ⟨w3, t3⟩ := mutO (D := l) (u := u') w' (by rw [add_at]; omega) hu
                have ne : ∀ {F : Fp}, F l = 0 → ∀ b, 0 < F b → upd H' l u' b = H' b := fun hF b hb => upd_ne fun e => by rw [e] at hb; omega
                have o3 := back S' (upd H' l u') _ o2 _ p2 sub (fun b hb => (ne (F := R) (by omega) b hb).trans (kp b (by have := hA b; omega))) qn
                have e3 : ER K S' (upd H' l u') σ (ρ.set i none) C := er_keep sub e2 fun b hb => (ne (F := C) (by omega) b hb).trans (kp b (by have := hA b; omega))
                have e4 := er_back e3 e1 (set_none_get h3) o3
                rw [List.set_set] at e4
                have le : ∀ b, (fun b => (N b + R b) + C b) b ≤ (A + B) b := fun b => by
                  have h1 := hA b
                  have h2 := hN b
                  rw [add_at]
                  first | omega | (dsimp only; omega)
                exact kk σ S' _ _ (w3.less le) e4 ((t'.trans t3).less le) Kp.refl
          | _ => exact True.intro
      | _ => exact True.intro
end
section
variable {X : Cx} {W : WX} {P : List Nat} {a b e key : Expr} {fa fb : FP} {fe fk : FE} {pos pos' tpos p1 p2 : Pos} {x y : Str}
theorem ev_kx (hw : X.w = Tb.w) (hu : X.A.in1.units + 8 < cLine) (ha : PV X W a fa) (hb : PV X W b fb) (hs : PlainIx b := by exact fun _ _ => rfl) : EV X W (.Subscript a b pos) (eKx fa fb) := let ⟨_, a1, a2⟩ := ha.ex; let ⟨_, b1, b2⟩ := hb.ex; ⟨_, pe_ix (ix_K hw hu) a1 b1 hs, sndE_kx a2 b2⟩
theorem ev_dct0 : EV X W (.Dict [] [] pos) eDct0 := ⟨_, pe_dct0, sndE_dct0⟩
theorem sv_kxF {cn f : Str} (i k q : Nat) (hw : X.w = Tb.w) (hu : X.A.in1.units + 8 < cLine) (hc : ClF X.K cn f) (h : EVr X W e fe) (hN : X.N[i]? = some x := by rfl) (hv : Vis X.env.scope x := by first | exact Or.inl rfl | exact Or.inr (Or.inl rfl) | exact Or.inr (Or.inr rfl)) (hd : (x == ("__debug__" : Str)) = false := by decide) (hcd : (x == ("__classdict__" : Str)) = false := by decide)
    (hN2 : X.N[q]? = some y := by rfl) (hv2 : Vis X.env.scope y := by first | exact Or.inl rfl | exact Or.inr (Or.inl rfl) | exact Or.inr (Or.inr rfl)) (hd2 : (y == ("__debug__" : Str)) = false := by decide) (hcd2 : (y == ("__classdict__" : Str)) = false := by decide)
    (hb : attributeBase (.Name x p1) f X.env (eval (.Name x p1) X.env) = eval (.Name x p1) X.env := by rfl)
    (ha : ∀ v, assign (.Subscript (.Attribute (.Name x p1) f tpos) (.Name y p2) pos') X.env v = (do
      let ov ← holding [v] (eval (.Attribute (.Name x p1) f tpos) X.env)
      let iv ← holding [v, ov] (eval (.Name y p2) X.env)
      standAt pos'
      holding [v, ov, iv] (setItem ov iv v)
      release [v, ov, iv] []) := by exact fun _ => rfl) (hs : swapsWithSole [(.Subscript (.Attribute (.Name x p1) f tpos) (.Name y p2) pos')] e pos.line X.env = pure false := by rfl) (hw2 : swappedStores [(.Subscript (.Attribute (.Name x p1) f tpos) (.Name y p2) pos')] e X.env = pure none := by rfl) :
    SV X W P (.Assign [.Subscript (.Attribute (.Name x p1) f tpos) (.Name y p2) pos'] e pos) (sKxF cn f i k q fe) :=
  let ⟨_, e1, e2⟩ := h.ex; ⟨_, ps_asg e1 (pg_sub (pe_fld (pe_var hN hv hd hcd) hb) (pe_var hN2 hv2 hd2 hcd2) (set_K hw hu) ha) hs hw2, sndS_kxF hc e2⟩
end
end Ls
namespace Ls
open PySem PySem.Spec PyProof.Rows L2
def permL {α : Type} (ix : List Nat) (xs : List α) : List α := ix.filterMap fun i => xs[i]?
def PermOk (n : Nat) (ix inv : List Nat) : Bool := decide (ix.Nodup) && decide (inv.Nodup) && ix.all (· < n) && decide (permL inv ix = List.range n) && decide (ix.length = n)
theorem fmap_congr {α β : Type} {f g : α → Option β} : ∀ {l : List α}, (∀ x ∈ l, f x = g x) → l.filterMap f = l.filterMap g
  | [], _ => rfl
  | x :: l, h => by rw [List.filterMap_cons, List.filterMap_cons, h x List.mem_cons_self, fmap_congr fun y hy => h y (List.mem_cons_of_mem _ hy)]
def permF (ix inv : List Nat) (F : List O → FO) : List O → FO := fun as => match F (permL ix as) with
  | .ok o as' => .ok o (permL inv as')
  | .exc x as' => .exc x (permL inv as')
  | .bad => .bad
theorem permL_range {α : Type} : ∀ (xs : List α), permL (List.range xs.length) xs = xs := by
  intro xs
  have h : ∀ (k : Nat) (ys : List α), (List.range' k ys.length).filterMap (fun i => if i < k then none else ys[i - k]?) = ys := by
    intro k ys
    induction ys generalizing k with
    | nil => rfl
    | cons y ys ih =>
      rw [List.length_cons, List.range'_succ, List.filterMap_cons]
      rw [if_neg (Nat.lt_irrefl k), Nat.sub_self, List.getElem?_cons_zero]
      dsimp only
      congr 1
      refine Eq.trans (fmap_congr ?_) (ih (k + 1))
      intro i hi
      have hi2 := List.mem_range'_1.mp hi
      rw [if_neg (by omega), if_neg (by omega)]
      have e : i - k = (i - (k + 1)) + 1 := by omega
      rw [e, List.getElem?_cons_succ]
  have := h 0 xs
  unfold permL
  rw [List.range_eq_range']
  simpa using this
theorem permL_get {α : Type} {xs : List α} : ∀ {b : List Nat}, (∀ i ∈ b, i < xs.length) → ∀ i : Nat, (permL b xs)[i]? = (b[i]?).bind fun j => xs[j]?
  | [], _, i => by simp [permL]
  | j :: b, h, i => by
    have hj := h j List.mem_cons_self
    have e : permL (j :: b) xs = xs[j] :: permL b xs := by
      unfold permL
      rw [List.filterMap_cons, List.getElem?_eq_getElem hj]
    rw [e]
    cases i with
    | zero => simp [List.getElem?_eq_getElem hj]
    | succ i =>
      rw [List.getElem?_cons_succ, List.getElem?_cons_succ]
      exact permL_get (fun k hk => h k (List.mem_cons_of_mem _ hk)) i
theorem permL_comp {α : Type} {xs : List α} {a b : List Nat} (h : ∀ i ∈ b, i < xs.length) : permL a (permL b xs) = permL (permL a b) xs := by
  unfold permL
  rw [List.filterMap_filterMap]
  apply fmap_congr
  intro i _
  exact permL_get h i
theorem permL_back {α : Type} {xs : List α} {n : Nat} {ix inv : List Nat} (h : PermOk n ix inv = true) (hl : xs.length = n) : permL inv (permL ix xs) = xs := by
  unfold PermOk at h
  simp only [Bool.and_eq_true, decide_eq_true_eq, List.all_eq_true] at h
  rw [permL_comp fun i hi => by rw [hl]; exact h.1.1.2 i hi, h.1.2, ← hl]
  exact permL_range xs
theorem vals_get : ∀ {vs : List V} {us : List Value} {i : Nat} {v : V}, Vals vs us → vs[i]? = some v → ∃ u, us[i]? = some u ∧ RelV v u
  | _, _, _, _, .nil, h => by simp at h
  | _, _, 0, _, .cons r _, h => by simp at h; subst h; exact ⟨_, rfl, r⟩
  | _, _, i + 1, _, .cons _ r, h => by
    obtain ⟨u, h1, h2⟩ := vals_get r (by simpa using h)
    exact ⟨u, by simpa using h1, h2⟩
theorem vals_perm {vs : List V} {us : List Value} (r : Vals vs us) : ∀ ix : List Nat, Vals (permL ix vs) (permL ix us)
  | [] => .nil
  | i :: ix => by
    have hl := r.length
    unfold permL
    rw [List.filterMap_cons, List.filterMap_cons]
    cases h : vs[i]? with
    | none =>
      have : us[i]? = none := by rw [List.getElem?_eq_none_iff] at h ⊢; omega
      rw [this]
      exact vals_perm r ix
    | some v =>
      obtain ⟨u, h1, h2⟩ := vals_get r h
      rw [h1]
      exact .cons h2 (vals_perm r ix)
variable [Tb] [Vw]
section
variable {K : PySem.W.Frag} {S H : Hp}
theorem permL_set {α : Type} {xs : List α} {y : α} {i : Nat} : ∀ {ix : List Nat}, i ∉ ix → permL ix (xs.set i y) = permL ix xs
  | [], _ => rfl
  | j :: ix, h => by
    have ne : i ≠ j := fun e => h (e ▸ List.mem_cons_self)
    unfold permL
    rw [List.filterMap_cons, List.filterMap_cons, List.getElem?_set_ne ne]
    have := permL_set (xs := xs) (y := y) (ix := ix) fun z => h (List.mem_cons_of_mem _ z)
    unfold permL at this
    rw [this]
theorem ors_perm : ∀ {ix : List Nat} {vs : List V} {os : List O} {B : Fp}, ix.Nodup → ORs K S H vs os B → ∃ B', ORs K S H (permL ix vs) (permL ix os) B' ∧ ∀ b, B' b ≤ B b
  | [], _, _, B, _, _ => ⟨Fp.z, .nil fun _ => rfl, fun b => Nat.zero_le _⟩
  | i :: ix, vs, os, B, nd, r => by
    obtain ⟨hi, nd⟩ := List.nodup_cons.mp nd
    cases h : os[i]? with
    | none =>
      have hv : vs[i]? = none := by have := ors_len r; rw [List.getElem?_eq_none_iff] at h ⊢; omega
      obtain ⟨B', h1, h2⟩ := ors_perm nd r
      refine ⟨B', ?_, h2⟩
      unfold permL
      rw [List.filterMap_cons, List.filterMap_cons, h, hv]
      exact h1
    | some o =>
      obtain ⟨u, Bk, R, h1, h2, h3, h4⟩ := ors_focus r h
      have r2 := h4 S H (.raw u) Fp.z (fun _ _ h => h) (fun _ _ => rfl) (.raw fun _ => rfl)
      obtain ⟨B', h5, h6⟩ := ors_perm nd r2
      rw [permL_set hi] at h5
      refine ⟨fun b => Bk b + B' b, ?_, fun b => by have := h6 b; have := h3 b; simp only [z_at] at *; omega⟩
      unfold permL
      rw [List.filterMap_cons, List.filterMap_cons, h, h1]
      exact .cons h2 h5 fun _ => rfl
theorem Tr.moreL {S H S' H' : Hp} {A B A' : Fp} (p : Tr S H A S' H' A') (h : ∀ b, A b ≤ B b) : Tr S H B S' H' A' :=
  ⟨p.fz, fun a u nt z e => p.keep a u nt (by have := h a; omega) e, fun a u e => (p.new a u e).elim .inl fun x => x.elim (fun y => .inr (.inl (by have := h a; omega))) fun y => .inr (.inr y), fun a e => (p.own a e).elim (fun y => .inl (by have := h a; omega)) .inr, p.cd⟩
theorem sp_perm {n : Nat} {ix inv : List Nat} {F : List O → FO} {vs : List V} {H : Hp} {Q : VK} {E : XK} (h : PermOk n ix inv = true) (hs : spOf K n (permF ix inv F) vs H Q E) : spOf K n F (permL ix vs) H Q E := by
  obtain ⟨hl, S, A, as, w, r, hm⟩ := hs
  have h0 := h
  unfold PermOk at h0
  simp only [Bool.and_eq_true, decide_eq_true_eq, List.all_eq_true] at h0
  obtain ⟨⟨⟨⟨nd, ni⟩, lt⟩, e⟩, ln⟩ := h0
  obtain ⟨A1, r1, l1⟩ := ors_perm nd r
  have back : permL inv (permL ix vs) = vs := permL_back h hl
  have hlen : (permL ix vs).length = n := by
    have g := permL_get (xs := vs) (b := ix) fun i hi => by rw [hl]; exact lt i hi
    have e1 : (permL ix vs).length = ix.length := by
      clear g back r1 e
      have : ∀ l : List Nat, (∀ i ∈ l, i < vs.length) → (permL l vs).length = l.length := by
        intro l
        induction l with
        | nil => intro _; rfl
        | cons i l ih =>
          intro hh
          unfold permL
          rw [List.filterMap_cons, List.getElem?_eq_getElem (hh i List.mem_cons_self)]
          have := ih fun k hk => hh k (List.mem_cons_of_mem _ hk)
          unfold permL at this
          simp [this]
      exact this ix fun i hi => by rw [hl]; exact lt i hi
    rw [e1, ln]
  refine ⟨hlen, S, A1, permL ix as, w.less l1, r1, ?_⟩
  cases hF : F (permL ix as) with
  | bad =>
    have : permF ix inv F as = .bad := by unfold permF; rw [hF]
    rw [this] at hm
    exact hm
  | ok o as' =>
    have : permF ix inv F as = .ok o (permL inv as') := by unfold permF; rw [hF]
    rw [this] at hm
    intro v S' H' A' B w' r' q' t'
    obtain ⟨A2, r2, l2⟩ := ors_perm ni r'
    rw [back] at r2
    have le : ∀ b, (A2 + B) b ≤ (A' + B) b := fun b => by have := l2 b; simp only [add_at]; omega
    exact hm v S' H' A2 B (w'.less le) r2 q' ((t'.less le).moreL l1)
  | exc x as' =>
    have : permF ix inv F as = .exc x (permL inv as') := by unfold permF; rw [hF]
    rw [this] at hm
    intro cls d S' H' A' w' r' x' t'
    obtain ⟨A2, r2, l2⟩ := ors_perm ni r'
    rw [back] at r2
    exact hm cls d S' H' A2 (w'.less l2) r2 x' ((t'.less l2).moreL l1)
def tTwo (n m : Nat) (t tk : TA) : TA := fun σ H Q => t σ H fun vs H1 => tk σ H1 fun zs H2 => vs.length = n ∧ zs.length = m ∧ Q (vs ++ zs) H2
theorem snd_two2 {W : WX} {ls ms : List (Option Nat)} {t tk : TA} {f g : FA} (h1 : Snd K W (RArgs K ls) t f) (h2 : Snd K W (RArgs K ms) tk g) : Snd K W (RArgs K (ls ++ ms)) (tTwo ls.length ms.length t tk) (aApp f g) := by
  have h := snd_app h1 h2
  intro σ ρ S H A w e
  have q := h σ ρ S H A w e
  cases hf : aApp f g ρ with
  | bad => exact True.intro
  | exc x ρ1 =>
    rw [hf] at q
    intro Q k
    exact q (fun p H2 => p.1.length = ls.length ∧ p.2.length = ms.length ∧ Q (p.1 ++ p.2) H2) k
  | ok os ρ1 =>
    rw [hf] at q
    intro Q k
    refine q (fun p H2 => p.1.length = ls.length ∧ p.2.length = ms.length ∧ Q (p.1 ++ p.2) H2) fun p S' H' A' B w' e' r' t' => ?_
    exact ⟨r'.1, r'.2.1, k (p.1 ++ p.2) S' H' A' B w' e' ⟨r'.2.2.1, r'.2.2.2, by rw [List.length_append, List.length_append, r'.1, r'.2.1]⟩ t'⟩
end
structure KwP (K : PySem.W.Frag) (fd : FuncData) (ps ks : List Str) (n : Nat) (ix : List Nat) (dvs : List V) : Prop where
  ex : ∃ g gV, KBn K fd ps n ks g gV ∧ ∀ vs zs : List V, vs.length = n → zs.length = ks.length → gV vs zs = permL ix (vs ++ zs ++ dvs)
section
variable {X : Cx} {W : WX} {k n : Nat} {f C : Addr} {fd : FuncData} {ps ks : List Str} {F : List O → FO} {ix inv : List Nat} {dvs : List V} {dd : List PyData} {x m cn : Str} {p pos apos p1 : Pos} {e o : Expr} {es : List Expr} {kws : List Keyword} {t tk ta : TA} {te : TE} {ls ms : List (Option Nat)} {fa fk : FA} {fnL : List Str} {fe : FE}
theorem run_makeP {pins : List (Addr × Obj)} {σ : L2.St} {H : Hp} {s : Shared} {Q : VK} {us ws : List Value} {vs zs : List V} (M : Mk X.K C f) (G : FnOk X.prog X.w X.K X.mg X.base (L2.CX X.prog X.w) k f fd ps (spOf X.K n F)) (hr : Room (k + 1) X.A) (hp : PermOk n ix inv = true) {j : Nat} (hb : KwP X.K fd ps ks (j + 1) ix dvs) (tk : Takes X W)
    (I : Inv X pins σ H s) (r : Vals vs us) (rz : Vals zs ws) (l1 : vs.length = j) (l2 : zs.length = ks.length) (h : ∀ x dx, H x = none → H dx = none → dx ≠ x → spOf X.K n (permF ix inv F) (.ref x :: (vs ++ zs ++ dvs)) (upd (upd H dx (.own x)) x (.ins C dx [])) (fun v H2 => v = .non ∧ Q (.ref x) H2) (WE W σ)) :
    wpAny (model X.prog X.w) X.A (call (.ref C) us (ks.zip ws)) (EP X pins σ Q) X.xe s := by
  obtain ⟨g, gV, B, hg⟩ := hb.ex
  have hq := h (s.heap.objs.size + 1) s.heap.objs.size (I.hok.fresh (Nat.le_succ _)) (I.hok.fresh (Nat.le_refl _)) (Nat.ne_of_lt (Nat.lt_succ_self _))
  have I2 := Inv.made (C := C) I
  have r1 : Vals (V.ref (s.heap.objs.size + 1) :: vs) (Value.ref (s.heap.objs.size + 1) :: us) := .cons rfl r
  have r2 := B.rel r1 rz
  have h2 := sp_perm hp hq
  rw [show (V.ref (s.heap.objs.size + 1) :: (vs ++ zs ++ dvs)) = ((V.ref (s.heap.objs.size + 1) :: vs) ++ zs ++ dvs) from rfl, ← hg (V.ref (s.heap.objs.size + 1) :: vs) zs (by rw [List.length_cons, l1]) l2] at h2
  have n1 : (Value.ref (s.heap.objs.size + 1) :: us).length = j + 1 := by rw [List.length_cons, ← r.length, l1]
  refine wpAny_call (make_map (f := f) I.kIn M.makes M.init (beq_iff_eq.mp M.fn) (codeAny_mono (G.run _ X.stack _ _ ⟨Value.ref (s.heap.objs.size + 1) :: us, ks.zip ws⟩ _ _ _ (WE W σ) (hr.make C us (ks.zip ws)) (I2.env0.make C us (ks.zip ws)) (B.to _ (Value.ref (s.heap.objs.size + 1) :: us) ws I2.kIn n1 (rz.length.symm.trans l2)) r2 h2) fun rr s' hq' => ?_))
  cases rr with
  | error er => exact passAt tk σ pins _ _ er s' I2 hq'
  | ok fl =>
    cases fl with
    | ret u =>
      obtain ⟨v, H', I3, rv, ev, q3⟩ := I2.after hq'
      subst ev
      exact ⟨rv, ⟨V.ref (s.heap.objs.size + 1), H', I3, rfl, q3⟩⟩
    | next => exact hq'.elim
    | brk => exact hq'.elim
    | cont => exact hq'.elim
theorem ev_makeP (M : Mk X.K (He.ga X.K cn) f) (G : FnOk X.prog X.w X.K X.mg X.base (L2.CX X.prog X.w) k f fd ps (spOf X.K n F)) (hr : Room (k + 1) X.A) (tk : Takes X W) (hg : Gl X cn) (hm : X.mg cn = some (.ref (He.ga X.K cn))) (hb : KwP X.K fd ps ks (ls.length + 1) ix dvs) (hp : PermOk n ix inv = true) (hdd : ∀ S, DpAll X.K S dvs dd)
    (ha : AV X W (e :: es) ls fa) (hw : KV X W kws ms fk) (hn : (ls ++ ms).length + dvs.length + 1 = n := by rfl) (hms : ms.length = ks.length := by rfl)
    (hall : (backToKw pos (keywordEach kws X.env)).all (·.1.isSome) = true := by rfl) (hks : (backToKw pos (keywordEach kws X.env)).filterMap (·.1) = ks := by rfl)
    (hdb : (cn == ("__debug__" : Str)) = false := by decide) (he : starEach (e :: es) X.env = (false, eval e X.env) :: starEach es X.env := by rfl) (hpl : ((backTo pos (starEach (e :: es) X.env)).any (·.1) || (backToKw pos (keywordEach kws X.env)).any (·.1.isNone)) = false := by rfl) :
    EV X W (.Call (.Name cn p) (e :: es) kws pos) (eMake cn (permF ix inv F) (ls ++ ms) dd (aApp fa fk)) := by
  obtain ⟨t, a1, a2⟩ := ha.ex
  obtain ⟨tw, b1, b2⟩ := hw.ex
  refine ⟨tMakeSD (He.ga X.K cn) (spOf X.K n (permF ix inv F)) dvs (WE W) (tTwo ls.length ms.length t tw), ⟨fun pins s σ H Q I h => wpAny_Call_Name_kw (ld_glob I hg hm (PySem.W.callWith_KW (h₀ := X.base) I.ok.mod.kin M.kp hall (thn (a1.run pos pins s σ H _ I h) fun us s1 ⟨vs, H1, I1, r, q⟩ => thn (b1.run pos pins s1 σ H1 _ I1 q) fun ws s2 ⟨zs, H2, I2, rz, l1, l2, q2⟩ => ⟨I2.kIn, ?_⟩) hpl he) hdb)⟩, sndE_make (snd_two2 a2 b2) hdd hn⟩
  rw [hks]
  exact run_makeP M G hr hp hb tk I2 r rz l1 (l2.trans hms) q2
end
theorem kwP_only {K : PySem.W.Frag} {x qual : Str} {params : Arguments} {body : List Stmt} {scope : Scope} {kws : List (Str × V)} {f : Addr} {fd : FuncData} {ps ks : List Str} (F : FunD K x qual params body scope [] kws f fd) (n : Nat) (ms : List (Str × V)) (ix : List Nat) (hk : kws ≠ []) (hms : ∀ q ∈ ms, q ∈ kws)
    (h : ∀ (D : Addr) (doc pm : Value) (an : Option Addr) (cdv ct : Value) (us mv ws : List Value), us.length = n → mv.length = ms.length → ws.length = ks.length →
      KwChain D ((ms.map (·.1)).zip mv) (bindArgs (PySem.W.fnOf x qual params body scope .none (.ref D) doc pm an cdv ct) ⟨us, ks.zip ws⟩) (ps.zip (permL ix (us ++ ws ++ mv)))) : KwP K fd ps ks n ix (ms.map (·.2)) := by
  obtain ⟨mv, B⟩ := F.kbinds0 n ks ms (fun vs mz zs => permL ix (vs ++ zs ++ mz)) hk hms (fun r1 r2 r3 => vals_perm ((r1.append r3).append r2) ix) h
  exact ⟨_, _, B, fun _ _ _ _ => rfl⟩
end Ls
namespace Ls
open PySem L2
variable [Tb] [Vw]
section
variable {K : PySem.W.Frag} {W : WX} {P : List Nat}
end
section
variable {X : Cx} {W : WX} {P : List Nat} {e t1 t2 : Expr} {fe : FE} {g1 g2 : FG} {vs us : List Nat} {pos : Pos}
end
section
variable {ρ ρ1 ρ2 : En} {o o0 o1 : O} {p q : Pk} {d : PyData} {fe fk : FE} {fa fb : FP} {ks : List PyData} {os as : List O} {x : Xn} {i j k : Nat} {f cn : Str} {F : List O → FO} {ix inv : List Nat}
def kKx1 (fb : FP) (z : Out Pk) : Out O := z.bind fun a ρ1 => (fb ρ1).bind fun b ρ2 => match pkO ρ2 a, pkD ρ2 b with
  | some o, some d => (match kxO o d with
    | some o' => .ok o' ρ2
    | none => .bad)
  | _, _ => .bad
def kKx2 (a : Pk) (z : Out Pk) : Out O := z.bind fun b ρ2 => match pkO ρ2 a, pkD ρ2 b with
  | some o, some d => (match kxO o d with
    | some o' => .ok o' ρ2
    | none => .bad)
  | _, _ => .bad
def kKx3 (z : Option O) (y : Option PyData) (ρ2 : En) : Out O := match z, y with
  | some o, some d => (match kxO o d with
    | some o' => .ok o' ρ2
    | none => .bad)
  | _, _ => .bad
theorem x_kx1 : eKx fa fb ρ = kKx1 fb (fa ρ) := rfl
theorem x_kx2 : kKx1 fb (.ok p ρ) = kKx2 p (fb ρ) := rfl
theorem x_kx4 : kKx2 p (.ok q ρ) = kKx3 (pkO ρ p) (pkD ρ q) ρ := rfl
theorem x_kx6 : kKx3 (some o) (some d) ρ = kO (kxO o d) ρ := rfl
theorem x_kx7 : kxO (.vu (.dct ks os)) d = (kxI ks os d).map roO := rfl
theorem x_dc0 : eDct0 ρ = .ok (.dct [] []) ρ := rfl
def kKs3 (j : Nat) (o k : O) (z : Option (Option O)) (ρ2 : En) : SO := match z, k with
  | some (some (.dct ks os)), .fz d => (match dPut ks os d o with
    | some o' => .nx (ρ2.set j (some o'))
    | none => .bad)
  | _, _ => .bad
def kKf0 (cn f : Str) (i k : Nat) (y z : Option O) (fe : FE) (ρ : En) : SO := match y, z with
  | some o0, some (.fz d) => (match fldOwn cn f k o0 with
    | some (.dct ks os) => (match fe ρ with
      | .ok o _ => (match (dPut ks os d o).bind fun o' => setF cn f k o' o0 with
        | some o2 => .nx (ρ.set i (some o2))
        | none => .bad)
      | .exc x _ => .exc x ρ
      | .bad => .bad)
    | _ => .bad)
  | _, _ => .bad
def kKf1 (cn f : Str) (i k : Nat) (o0 : O) (d : PyData) (y : Option O) (fe : FE) (ρ : En) : SO := match y with
    | some (.dct ks os) => (match fe ρ with
      | .ok o _ => (match (dPut ks os d o).bind fun o' => setF cn f k o' o0 with
        | some o2 => .nx (ρ.set i (some o2))
        | none => .bad)
      | .exc x _ => .exc x ρ
      | .bad => .bad)
    | _ => .bad
def kKf2 (cn f : Str) (i k : Nat) (o0 : O) (d : PyData) (ks : List PyData) (os : List O) (z : Out O) (ρ : En) : SO := match z with
      | .ok o _ => (match (dPut ks os d o).bind fun o' => setF cn f k o' o0 with
        | some o2 => .nx (ρ.set i (some o2))
        | none => .bad)
      | .exc x _ => .exc x ρ
      | .bad => .bad
theorem x_kf1 {q : Nat} : sKxF cn f i k q fe ρ = kKf0 cn f i k ((ρ[i]?).bind id) ((ρ[q]?).bind id) fe ρ := rfl
theorem x_kf2 : kKf0 cn f i k (some o) (some (.fz d)) fe ρ = kKf1 cn f i k o d (fldOwn cn f k o) fe ρ := rfl
theorem x_kf3 : kKf1 cn f i k o d (some (.dct ks os)) fe ρ = kKf2 cn f i k o d ks os (fe ρ) ρ := rfl
theorem x_kf4 : kKf2 cn f i k o d ks os (.ok o1 ρ1) ρ = kFS2 ((dPut ks os d o1).bind fun o' => setF cn f k o' o) i ρ := rfl
def kPm (inv : List Nat) (z : FO) : FO := match z with
  | .ok o as' => .ok o (permL inv as')
  | .exc x as' => .exc x (permL inv as')
  | .bad => .bad
theorem x_pm1 : permF ix inv F as = kPm inv (F (permL ix as)) := rfl
theorem x_pm2 : kPm inv (.ok o as) = .ok o (permL inv as) := rfl
def kPl {α : Type} (z : Option α) (l : List α) : List α := match z with
  | some x => x :: l
  | none => l
theorem x_pl1 {α : Type} {xs : List α} : permL [] xs = [] := rfl
theorem x_pl2 {α : Type} {xs : List α} : permL (i :: ix) xs = kPl xs[i]? (permL ix xs) := by
  unfold permL kPl
  rw [List.filterMap_cons]
  cases xs[i]? <;> rfl
theorem x_pl3 {α : Type} {y : α} {l : List α} : kPl (some y) l = y :: l := rfl
theorem x_pl4 {y : O} {l : List O} : (y :: l)[0]? = some y := rfl
theorem x_pl5 {y : O} {l : List O} {n : Nat} : (y :: l)[n + 1]? = l[n]? := rfl
variable {g1 g2 : FG}
theorem x_dEqS {a b : Str} (h1 : PyData.strOk a = true) (h2 : PyData.strOk b = true) : dEq (.str a) (.str b) = some (.bool (decide (a = b))) := by
  by_cases h : a = b <;> simp [dEq, SeqAt.shaped, PyData.eqv, PyData.canLay0, PyData.depth, h, h1, h2]
theorem x_dNeS {a b : Str} (h1 : PyData.strOk a = true) (h2 : PyData.strOk b = true) : dNe (.str a) (.str b) = some (.bool (!decide (a = b))) := by
  by_cases h : a = b <;> simp [dNe, SeqAt.shaped, PyData.eqv, PyData.canLay0, PyData.depth, h, h1, h2]
end
end Ls
namespace Ls
open PySem PySem.Spec PyProof.Rows L2
open PySem.Sem (wp)
def itN (c : Bool) : String := if c then "list_iterator" else "tuple_iterator"
def SIt (c : Bool) (h : Heap) (j a : Addr) (n : Nat) : Prop := match c with
  | true => h.IsListIter j a n
  | false => h.IsTupleIter j a n
def SHs (c : Bool) (h : Heap) (a : Addr) (vs : Array Value) : Prop := match c with
  | true => h.IsList a vs
  | false => h.IsTuple a vs
section
variable {c : Bool} {h g : Heap} {j a b : Addr} {n : Nat} {vs : Array Value}
theorem SIt.ext (x : SIt c h j a n) (q : Heap.ExtBut b h g) (ne : j ≠ b) : SIt c g j a n := by
  cases c with
  | true => exact Heap.IsListIter.extBut x q ne
  | false => exact Heap.IsTupleIter.extBut x q ne
theorem SIt.at (x : SIt c h j a n) (q : ∀ o, h.get? j = some o → g.get? j = some o) : SIt c g j a n := by
  cases c with
  | true => exact Heap.IsListIter.at x q
  | false => exact Heap.IsTupleIter.at x q
theorem SHs.ext (x : SHs c h a vs) (q : Heap.ExtBut b h g) (ne : a ≠ b) : SHs c g a vs := by
  cases c with
  | true => exact Heap.IsList.extBut x q ne
  | false => exact Heap.IsTuple.extBut x q ne
theorem SIt.obj (x : SIt c h j a n) : ∃ o, h.get? j = some o ∧ ∀ v, o.data ≠ .cell v := by
  cases c with
  | true => obtain ⟨o, e, _, d⟩ := x; exact ⟨o, e, fun v q => by rw [d] at q; cases q⟩
  | false => obtain ⟨o, e, _, d⟩ := x; exact ⟨o, e, fun v q => by rw [d] at q; cases q⟩
theorem SIt.lt (x : SIt c h j a n) : j < h.objs.size := let ⟨_, e, _⟩ := x.obj; Heap.lt_size e
end
section
variable {prog : Program} {w : World} {A : Around} {E : Value → Shared → Prop} {s : Shared}
theorem nextM {c : Bool} {j a : Addr} {n : Nat} {vs : Array Value} {x : Value} {Q : Value → Shared → Prop} (k1 : SIt c s.heap j a n) (k2 : SHs c s.heap a vs) (k3 : vs[n]? = some x)
    (k : ∀ g, SIt c g j a (n + 1) → Heap.SameBut j s.heap g → Q x { s with heap := g }) : wpAny (model prog w) A (Builtin.SmallTypes.nextOf (.ref j)) Q E s := by
  cases c with
  | true => exact wpAny_nextOf_list_item k1 k2 k3 k
  | false => exact RZ.nextOf_tuple_item k1 k2 k3 k
theorem nextM0 {c : Bool} {j a : Addr} {n : Nat} {vs : Array Value} {Q : Value → Shared → Prop} (hh : A.handled = none) (k1 : SIt c s.heap j a n) (k2 : SHs c s.heap a vs) (k3 : vs[n]? = none)
    (k : ∀ g e, Heap.ExtBut j s.heap g → (∃ o, g.get? e = some o ∧ o.cls = .type "StopIteration") → E (.ref e) { s with heap := g }) : wpAny (model prog w) A (Builtin.SmallTypes.nextOf (.ref j)) Q E s := by
  cases c with
  | true => exact wpAny_nextOf_list_end hh k1 k2 k3 k
  | false => exact RZ.nextOf_tuple_end hh k1 k2 k3 k
variable {c1 c2 : Bool} {y I O j1 j2 a1 a2 : Addr} {n1 n2 : Nat} {us vs : Array Value} {u v p q : Value}
structure ZM (c1 c2 : Bool) (h : Heap) (y I O j1 j2 a1 a2 : Addr) (n1 n2 : Nat) (us vs : Array Value) (p q : Value) : Prop where
  zz : IsZip h y I O .none
  pI : IsPair h I (.ref j1) (.ref j2)
  pO : IsPair h O p q
  s1 : SIt c1 h j1 a1 n1
  s2 : SIt c2 h j2 a2 n2
  l1 : SHs c1 h a1 us
  l2 : SHs c2 h a2 vs
theorem zipM_item {Q : Value → Shared → Prop} (D : ZipApart y I O j1 j2 a1 a2) (Z : ZM c1 c2 s.heap y I O j1 j2 a1 a2 n1 n2 us vs p q) (hu : us[n1]? = some u) (hv : vs[n2]? = some v)
    (k : ∀ g, IsZip g y I O (rawInt s.heap.objs.size) → IsPair g O u v → SIt c1 g j1 a1 (n1 + 1) → SIt c2 g j2 a2 (n2 + 1) → IsPair g s.heap.objs.size u v → (∀ b o, b ≠ y → b ≠ O → b ≠ j1 → b ≠ j2 → s.heap.get? b = some o → g.get? b = some o) → Q (.ref s.heap.objs.size) { s with heap := g }) :
    wpAny (model prog w) A (Builtin.«zip.__next__» ⟨[.ref y], []⟩) (fun fin s' => ∃ r, fin = .done (.ret r) ∧ Q r s') E s := by
  show wpAny _ _ (field (.ref y) 2 >>= _) _ _ _
  refine wpAny_bind (wpAny_field Z.zz rfl (x := .bool false) rfl (show wpAny _ _ (field (.ref y) 3 >>= _) _ _ _ from wpAny_bind (wpAny_field Z.zz rfl (x := .ref I) rfl (wpAny_bind (wpAny_seqItems Z.pI rfl ?_)))))
  show wpAny _ _ (Builtin.SmallTypes.ownedTupleIsFree (.ref y) >>= _) _ _ _
  refine wpAny_bind ?_; unfold Builtin.SmallTypes.ownedTupleIsFree
  refine wpAny_bind (wpAny_field Z.zz rfl (x := .none) rfl (wpAny_pure ?_)); simp only [if_true]
  refine wpAny_bind (wpAny_rule (wpAny_bind (wpAny_field Z.zz rfl (x := .ref O) rfl (wpAny_bind (wpAny_setField_rec Z.zz (by simp) fun g1 e1 f1 => ?_)))))
  replace e1 : IsZip g1 y I O .ellipsis := e1
  refine wpAny_bind ?_; simp only [List.zipIdx_nil, List.zipIdx_cons, List.forIn_nil, List.forIn_cons]
  refine wpAny_bind (wpAny_bind (wpAny_onRaise (show wpAny _ _ (Builtin.SmallTypes.nextOf (.ref j1) >>= _) _ _ _ from wpAny_bind (nextM (Z.s1.ext f1.extBut D.i1z) (Z.l1.ext f1.extBut D.l1z) hu fun g2 e2 f2 => wpAny_pure ?_))))
  have o2 : IsPair g2 O p q := f2.extBut _ _ D.TOi1 (f1.extBut _ _ D.TOz Z.pO)
  refine wpAny_bind (wpAny_seqItems o2 rfl (wpAny_bind (wpAny_updateSeq_pair o2 fun g3 o3 f3 => wpAny_bind (wpAny_letGo (wpAny_pure ?_)))))
  replace o3 : IsPair g3 O u q := o3
  refine wpAny_bind (wpAny_bind (wpAny_onRaise (show wpAny _ _ (Builtin.SmallTypes.nextOf (.ref j2) >>= _) _ _ _ from wpAny_bind (nextM (((Z.s2.ext f1.extBut D.i2z).ext f2.extBut D.i12.symm).ext f3.extBut D.TOi2.symm) (((Z.l2.ext f1.extBut D.l2z).ext f2.extBut D.l2i1).ext f3.extBut D.l2TO) hv fun g4 e4 f4 => wpAny_pure ?_))))
  have o4 : IsPair g4 O u q := f4.extBut _ _ D.TOi2 o3
  refine wpAny_bind (wpAny_seqItems o4 rfl (wpAny_bind (wpAny_updateSeq_pair o4 fun g5 o5 f5 => wpAny_bind (wpAny_letGo (wpAny_pure (wpAny_pure ?_))))))
  replace o5 : IsPair g5 O u v := o5
  refine wpAny_bind (wpAny_seqItems o5 rfl (wpAny_bind (wpAny_newTuple ?_)))
  have sz : g5.objs.size = s.heap.objs.size := by rw [f5.1, f4.1, f3.1, f2.1, f1.1]
  have z5 : IsZip g5 y I O .ellipsis := f5.extBut _ _ D.TOz.symm (f4.extBut _ _ D.i2z.symm (f3.extBut _ _ D.TOz.symm (f2.extBut _ _ D.i1z.symm e1)))
  have st5 : ∀ b o, b ≠ y → b ≠ O → b ≠ j1 → b ≠ j2 → s.heap.get? b = some o → g5.get? b = some o := fun b o b1 b2 b3 b4 e => f5.extBut _ _ b2 (f4.extBut _ _ b4 (f3.extBut _ _ b2 (f2.extBut _ _ b3 (f1.extBut _ _ b1 e))))
  have t1 : SIt c1 g5 j1 a1 (n1 + 1) := ((e2.ext f3.extBut D.TOi1.symm).ext f4.extBut D.i12).ext f5.extBut D.TOi1.symm
  have t2 : SIt c2 g5 j2 a2 (n2 + 1) := e4.ext f5.extBut D.TOi2.symm
  have ylt : y < g5.objs.size := Heap.lt_size z5
  show wpAny _ _ (Builtin.SmallTypes.ownedTupleHandOut (.ref y) (.ref g5.objs.size) >>= _) _ _ _
  refine wpAny_bind ?_; unfold Builtin.SmallTypes.ownedTupleHandOut
  have z6 : IsZip (g5.push { cls := .type "tuple", data := .seq #[u, v] }) y I O .ellipsis := Heap.get?_push_of_some _ z5
  refine wpAny_bind (wpAny_setField_rec z6 (by simp) fun g7 e7 f7 => ?_)
  replace e7 : IsZip g7 y I O (rawInt g5.objs.size) := e7
  refine wpAny_setField_rec e7 (by simp) fun g8 e8 f8 => wpAny_pure ⟨_, rfl, ?_⟩
  replace e8 : IsZip g8 y I O (rawInt g5.objs.size) := e8
  have up : ∀ b o, b ≠ y → g5.get? b = some o → g8.get? b = some o := fun b o b1 e => f8.extBut _ _ b1 (f7.extBut _ _ b1 (Heap.get?_push_of_some _ e))
  have t8 : IsPair g8 g5.objs.size u v := f8.extBut _ _ (Nat.ne_of_gt ylt) (f7.extBut _ _ (Nat.ne_of_gt ylt) (Heap.get?_push_size _ rfl))
  rw [sz] at e8 t8
  show Q (.ref g5.objs.size) _
  rw [sz]
  exact k g8 e8 (up _ _ D.TOz o5) (t1.at fun o e => up _ o D.i1z e) (t2.at fun o e => up _ o D.i2z e) t8 fun b o b1 b2 b3 b4 e => up b o b1 (st5 b o b1 b2 b3 b4 e)
theorem zipM_end {Q : Fin → Shared → Prop} (hh : A.handled = none) (D : ZipApart y I O j1 j2 a1 a2) (Z : ZM c1 c2 s.heap y I O j1 j2 a1 a2 n1 n2 us vs p q) (hend : us[n1]? = none ∨ vs[n2]? = none)
    (k : ∀ g e, (∀ b o, b ≠ y → b ≠ O → b ≠ j1 → b ≠ j2 → s.heap.get? b = some o → g.get? b = some o) → (∃ o, g.get? e = some o ∧ o.cls = .type "StopIteration") → E (.ref e) { s with heap := g }) :
    wpAny (model prog w) A (Builtin.«zip.__next__» ⟨[.ref y], []⟩) Q E s := by
  show wpAny _ _ (field (.ref y) 2 >>= _) _ _ _
  refine wpAny_bind (wpAny_field Z.zz rfl (x := .bool false) rfl (show wpAny _ _ (field (.ref y) 3 >>= _) _ _ _ from wpAny_bind (wpAny_field Z.zz rfl (x := .ref I) rfl (wpAny_bind (wpAny_seqItems Z.pI rfl ?_)))))
  show wpAny _ _ (Builtin.SmallTypes.ownedTupleIsFree (.ref y) >>= _) _ _ _
  refine wpAny_bind ?_; unfold Builtin.SmallTypes.ownedTupleIsFree
  refine wpAny_bind (wpAny_field Z.zz rfl (x := .none) rfl (wpAny_pure ?_)); simp only [if_true]
  refine wpAny_bind (wpAny_rule (wpAny_bind (wpAny_field Z.zz rfl (x := .ref O) rfl (wpAny_bind (wpAny_setField_rec Z.zz (by simp) fun g1 e1 f1 => ?_)))))
  replace e1 : IsZip g1 y I O .ellipsis := e1
  refine wpAny_bind ?_; simp only [List.zipIdx_nil, List.zipIdx_cons, List.forIn_nil, List.forIn_cons]
  refine wpAny_bind (wpAny_bind (wpAny_onRaise (show wpAny _ _ (Builtin.SmallTypes.nextOf (.ref j1) >>= _) _ _ _ from ?_)))
  cases hu : us[n1]? with
  | none =>
    refine wpAny_bind (nextM0 hh (Z.s1.ext f1.extBut D.i1z) (Z.l1.ext f1.extBut D.l1z) hu fun g2 e f2 ⟨oe, x1, x2⟩ => ?_)
    have z2 : IsZip g2 y I O .ellipsis := f2 _ _ D.i1z.symm e1
    have ne : e ≠ y := fun x => by subst x; rw [z2] at x1; cases x1; simp at x2
    exact wpAny_setField_rec z2 (by simp) fun g3 _ f3 => k g3 e (fun b o b1 _ b3 _ x => f3.extBut _ _ b1 (f2 _ _ b3 (f1.extBut _ _ b1 x))) ⟨oe, f3.extBut _ _ ne x1, x2⟩
  | some u =>
    have hv : vs[n2]? = none := by rcases hend with h | h; rw [hu] at h; cases h; exact h
    refine wpAny_bind (nextM (Z.s1.ext f1.extBut D.i1z) (Z.l1.ext f1.extBut D.l1z) hu fun g2 e2 f2 => wpAny_pure ?_)
    have o2 : IsPair g2 O p q := f2.extBut _ _ D.TOi1 (f1.extBut _ _ D.TOz Z.pO)
    refine wpAny_bind (wpAny_seqItems o2 rfl (wpAny_bind (wpAny_updateSeq_pair o2 fun g3 o3 f3 => wpAny_bind (wpAny_letGo (wpAny_pure ?_)))))
    refine wpAny_bind (wpAny_bind (wpAny_onRaise (show wpAny _ _ (Builtin.SmallTypes.nextOf (.ref j2) >>= _) _ _ _ from wpAny_bind (nextM0 hh (((Z.s2.ext f1.extBut D.i2z).ext f2.extBut D.i12.symm).ext f3.extBut D.TOi2.symm) (((Z.l2.ext f1.extBut D.l2z).ext f2.extBut D.l2i1).ext f3.extBut D.l2TO) hv fun g4 e f4 ⟨oe, x1, x2⟩ => ?_))))
    have z4 : IsZip g4 y I O .ellipsis := f4 _ _ D.i2z.symm (f3.extBut _ _ D.TOz.symm (f2.extBut _ _ D.i1z.symm e1))
    have ne : e ≠ y := fun x => by subst x; rw [z4] at x1; cases x1; simp at x2
    exact wpAny_setField_rec z4 (by simp) fun g5 _ f5 => k g5 e (fun b o b1 b2 b3 b4 x => f5.extBut _ _ b1 (f4 _ _ b4 (f3.extBut _ _ b2 (f2.extBut _ _ b3 (f1.extBut _ _ b1 x))))) ⟨oe, f5.extBut _ _ ne x1, x2⟩
theorem nextZM {Q : Option Value → Shared → Prop} (D : ZipApart y I O j1 j2 a1 a2) (Z : ZM c1 c2 s.heap y I O j1 j2 a1 a2 n1 n2 us vs p q) (hu : us[n1]? = some u) (hv : vs[n2]? = some v)
    (k : ∀ g, IsZip g y I O (rawInt s.heap.objs.size) → IsPair g O u v → SIt c1 g j1 a1 (n1 + 1) → SIt c2 g j2 a2 (n2 + 1) → IsPair g s.heap.objs.size u v → (∀ b o, b ≠ y → b ≠ O → b ≠ j1 → b ≠ j2 → s.heap.get? b = some o → g.get? b = some o) → Q (some (.ref s.heap.objs.size)) { s with heap := g }) : wpAny (model prog w) A (pyNext (.ref y)) Q E s := by
  have T : s.TypeIs (.ref y) "zip" := ⟨_, Z.zz, rfl⟩
  unfold pyNext
  exact wpAny_bind (wpAny_attempt (wpAny_callSpecial?_slot (name := Str.ofString "__next__") T F.slot_zip_next (wpAny_call_entry F.slot_zip_next T F.entry_zip_next (zipM_item D Z hu hv fun g b1 b2 b3 b4 b5 b6 => wpAny_pure (k g b1 b2 b3 b4 b5 b6)) (F.args_zip_next_1 _))))
theorem nextZM0 {Q : Option Value → Shared → Prop} (hh : A.handled = none) (D : ZipApart y I O j1 j2 a1 a2) (Z : ZM c1 c2 s.heap y I O j1 j2 a1 a2 n1 n2 us vs p q) (hend : us[n1]? = none ∨ vs[n2]? = none)
    (k : ∀ g, (∀ b o, b ≠ y → b ≠ O → b ≠ j1 → b ≠ j2 → s.heap.get? b = some o → g.get? b = some o) → Q none { s with heap := g }) : wpAny (model prog w) A (pyNext (.ref y)) Q E s := by
  have T : s.TypeIs (.ref y) "zip" := ⟨_, Z.zz, rfl⟩
  unfold pyNext
  refine wpAny_bind (wpAny_attempt (wpAny_callSpecial?_slot (name := Str.ofString "__next__") T F.slot_zip_next (wpAny_call_entry F.slot_zip_next T F.entry_zip_next (zipM_end hh D Z hend fun g e gk ⟨o, x1, x2⟩ => ?_) (F.args_zip_next_1 _))))
  exact wpAny_bind (wpAny_isInstance (T := "StopIteration") (b := true) ⟨o, x1, x2⟩ isSubtype_stop (wpAny_pure (k _ gk)))
end
abbrev hM1 (c1 : Bool) (h : Heap) (a1 : Addr) : Heap := h.push { cls := .type (itN c1), data := .fields #[.ref a1, .int 0 0] }
abbrev hM2 (c1 c2 : Bool) (h : Heap) (a1 a2 : Addr) : Heap := (hM1 c1 h a1).push { cls := .type (itN c2), data := .fields #[.ref a2, .int 0 0] }
abbrev hM3 (c1 c2 : Bool) (h : Heap) (a1 a2 : Addr) : Heap := (hM2 c1 c2 h a1 a2).push { cls := .type "tuple", data := .seq #[.ref h.objs.size, .ref (hM1 c1 h a1).objs.size] }
abbrev hM4 (c1 c2 : Bool) (h : Heap) (a1 a2 : Addr) : Heap := (hM3 c1 c2 h a1 a2).push { cls := .type "tuple", data := .seq #[.none, .none] }
abbrev hM5 (c1 c2 : Bool) (h : Heap) (a1 a2 : Addr) : Heap := (hM4 c1 c2 h a1 a2).push { cls := .type "zip", data := .fields #[.none, .bool false, .bool false, .ref (hM2 c1 c2 h a1 a2).objs.size, .ref (hM3 c1 c2 h a1 a2).objs.size] }
theorem newLT (a1 a2 : Addr) (us vs : Array Value) : Meets (Builtin.«zip.__new__» ⟨[.type "zip", .ref a1, .ref a2], []⟩) (fun _ R s => s.heap.IsList a1 us ∧ s.heap.IsTuple a2 vs ∧ R (.ok (.ret (.ref (hM4 true false s.heap a1 a2).objs.size))) { s with heap := hM5 true false s.heap a1 a2 }) :=
  .of_wp fun prog w A R s k => by
    obtain ⟨hp, g, d, tk, os⟩ := s; obtain ⟨k1, k2, k⟩ := k
    have sb := sub_zip
    have L1 : Heap.IsList (Shared.heap ⟨hp, g, d, tk, os⟩) a1 us := k1
    have L2 : Heap.IsTuple (Shared.heap ⟨hp.push { cls := .type "list_iterator", data := .fields #[.ref a1, .int 0 0] }, g, d, tk, os⟩) a2 vs := Heap.IsTuple.push k2 _
    wp_walk using wpAny_pyIter_list L1, wpAny_pyIter_tuple L2
    exact ⟨_, rfl, k⟩
theorem newTL (a1 a2 : Addr) (us vs : Array Value) : Meets (Builtin.«zip.__new__» ⟨[.type "zip", .ref a1, .ref a2], []⟩) (fun _ R s => s.heap.IsTuple a1 us ∧ s.heap.IsList a2 vs ∧ R (.ok (.ret (.ref (hM4 false true s.heap a1 a2).objs.size))) { s with heap := hM5 false true s.heap a1 a2 }) :=
  .of_wp fun prog w A R s k => by
    obtain ⟨hp, g, d, tk, os⟩ := s; obtain ⟨k1, k2, k⟩ := k
    have sb := sub_zip
    have L1 : Heap.IsTuple (Shared.heap ⟨hp, g, d, tk, os⟩) a1 us := k1
    have L2 : Heap.IsList (Shared.heap ⟨hp.push { cls := .type "tuple_iterator", data := .fields #[.ref a1, .int 0 0] }, g, d, tk, os⟩) a2 vs := Heap.IsList.push k2 _
    wp_walk using wpAny_pyIter_tuple L1, wpAny_pyIter_list L2
    exact ⟨_, rfl, k⟩
section
variable {prog : Program} {w : World} {A : Around} {E : Value → Shared → Prop} {s : Shared}
theorem callZM (c : Bool) {a1 a2 : Addr} {us vs : Array Value} {Q : Value → Shared → Prop} (k1 : SHs c s.heap a1 us) (k2 : SHs (!c) s.heap a2 vs)
    (k : ∀ g, ZM c (!c) g (s.heap.objs.size + 4) (s.heap.objs.size + 2) (s.heap.objs.size + 3) s.heap.objs.size (s.heap.objs.size + 1) a1 a2 0 0 us vs .none .none → (∀ b o, s.heap.get? b = some o → g.get? b = some o) → Q (.ref (s.heap.objs.size + 4)) { s with heap := g }) : wpAny (model prog w) A (call (.type "zip") [.ref a1, .ref a2]) Q E s := by
  have up : ∀ b o, s.heap.get? b = some o → (hM5 c (!c) s.heap a1 a2).get? b = some o := fun b o x => Heap.get?_push_of_some _ (Heap.get?_push_of_some _ (Heap.get?_push_of_some _ (Heap.get?_push_of_some _ (Heap.get?_push_of_some _ x))))
  have z1 : (hM1 c s.heap a1).objs.size = s.heap.objs.size + 1 := Heap.size_push ..
  have z2 : (hM2 c (!c) s.heap a1 a2).objs.size = s.heap.objs.size + 2 := by rw [Heap.size_push, z1]
  have z3 : (hM3 c (!c) s.heap a1 a2).objs.size = s.heap.objs.size + 3 := by rw [Heap.size_push, z2]
  have z4 : (hM4 c (!c) s.heap a1 a2).objs.size = s.heap.objs.size + 4 := by rw [Heap.size_push, z3]
  have g5 : (hM5 c (!c) s.heap a1 a2).get? (hM4 c (!c) s.heap a1 a2).objs.size = some _ := Heap.get?_push_size _ rfl
  have g4 : (hM5 c (!c) s.heap a1 a2).get? (hM3 c (!c) s.heap a1 a2).objs.size = some _ := Heap.get?_push_of_some _ (Heap.get?_push_size _ rfl)
  have g3 : (hM5 c (!c) s.heap a1 a2).get? (hM2 c (!c) s.heap a1 a2).objs.size = some _ := Heap.get?_push_of_some _ (Heap.get?_push_of_some _ (Heap.get?_push_size _ rfl))
  have g2 : (hM5 c (!c) s.heap a1 a2).get? (hM1 c s.heap a1).objs.size = some _ := Heap.get?_push_of_some _ (Heap.get?_push_of_some _ (Heap.get?_push_of_some _ (Heap.get?_push_size _ rfl)))
  have g1 : (hM5 c (!c) s.heap a1 a2).get? s.heap.objs.size = some _ := Heap.get?_push_of_some _ (Heap.get?_push_of_some _ (Heap.get?_push_of_some _ (Heap.get?_push_of_some _ (Heap.get?_push_size _ rfl))))
  rw [z2, z3, z4] at g5
  rw [z1, z2] at g3
  rw [z3] at g4
  rw [z1] at g2
  have i1 : SIt c (hM5 c (!c) s.heap a1 a2) s.heap.objs.size a1 0 := by cases c <;> exact ⟨_, g1, rfl, rfl⟩
  have i2 : SIt (!c) (hM5 c (!c) s.heap a1 a2) (s.heap.objs.size + 1) a2 0 := by cases c <;> exact ⟨_, g2, rfl, rfl⟩
  have m1 : SHs c (hM5 c (!c) s.heap a1 a2) a1 us := by
    cases c with
    | true => obtain ⟨o, e, x⟩ := k1; exact ⟨o, up _ _ e, x⟩
    | false => obtain ⟨o, e, x⟩ := k1; exact ⟨o, up _ _ e, x⟩
  have m2 : SHs (!c) (hM5 c (!c) s.heap a1 a2) a2 vs := by
    cases c with
    | true => obtain ⟨o, e, x⟩ := k2; exact ⟨o, up _ _ e, x⟩
    | false => obtain ⟨o, e, x⟩ := k2; exact ⟨o, up _ _ e, x⟩
  have fin := k _ ⟨g5, g3, g4, i1, i2, m1, m2⟩ up
  cases c with
  | true => exact callType_new F.called_zip (by decide) (F.typeCall_zip_2 _ _) (F.newCall_zip_2 _ _) (fun obj => F.args_object_init_3 obj _ _) F.entry_zip_new (newLT a1 a2 us vs) ⟨k1, k2, by rw [show (hM4 true false s.heap a1 a2).objs.size = s.heap.objs.size + 4 from z4]; exact ⟨⟨_, g5, rfl⟩, fin⟩⟩
  | false => exact callType_new F.called_zip (by decide) (F.typeCall_zip_2 _ _) (F.newCall_zip_2 _ _) (fun obj => F.args_object_init_3 obj _ _) F.entry_zip_new (newTL a1 a2 us vs) ⟨k1, k2, by rw [show (hM4 false true s.heap a1 a2).objs.size = s.heap.objs.size + 4 from z4]; exact ⟨⟨_, g5, rfl⟩, fin⟩⟩
end
def SqB2 (K : PySem.W.Frag) (H : Hp) (c : Bool) (a : Addr) (xs : List V) : Prop := match c with
  | true => SqL K H a xs
  | false => SqT K H a xs
theorem sqb_has {X : Cx} {pins : List (Addr × Obj)} {σ : L2.St} {H : Hp} {s : Shared} {c : Bool} {a : Addr} {xs : List V} (I : Inv X pins σ H s) (h : SqB2 X.K H c a xs) : ∃ its : List Value, Vals xs its ∧ SHs c s.heap a its.toArray ∧ a < s.heap.objs.size := by
  cases c with
  | true =>
    obtain ⟨its, r, p, _⟩ := I.list h
    exact ⟨its, r, p.isList, p.lt⟩
  | false =>
    obtain ⟨its, r, p, _⟩ := I.tuple h
    obtain ⟨o, e, _⟩ := id p
    exact ⟨its, r, p, Heap.lt_size e⟩
theorem sqb_inj {X : Cx} {pins : List (Addr × Obj)} {σ : L2.St} {H : Hp} {s : Shared} {c : Bool} {a : Addr} {xs ys : List V} (I : Inv X pins σ H s) (h : SqB2 X.K H c a xs) (h2 : SqB2 X.K H c a ys) : xs = ys := by
  cases c with
  | true => exact I.list_inj h h2
  | false => exact I.tuple_inj h h2
def ItzM (K : PySem.W.Frag) (c1 c2 : Bool) (a b : Addr) : It :=
  ⟨fun i H => ∃ (xs ys : List V) (x y : V), SqB2 K H c1 a xs ∧ SqB2 K H c2 b ys ∧ xs[i]? = some x ∧ ys[i]? = some y,
    fun i H v H' => ∃ T x y, v = .ref T ∧ H T = none ∧ H' = upd H T (.tup [x, y]) ∧ (∀ xs, SqB2 K H c1 a xs → xs[i]? = some x) ∧ ∀ ys, SqB2 K H c2 b ys → ys[i]? = some y,
    fun i H => ∃ xs ys : List V, SqB2 K H c1 a xs ∧ SqB2 K H c2 b ys ∧ (xs.length ≤ i ∨ ys.length ≤ i)⟩
theorem turnZM {P : Program} {w : World} {K : PySem.W.Frag} {elts : List Expr} {kk : Nat} {tpos : Pos} {c1 c2 : Bool} {a b y I O j1 j2 : Addr} (D : ZipApart y I O j1 j2 a b) :
    Turn P w K (.Tuple elts kk tpos) (ItzM K c1 c2 a b) [y, I, O, j1, j2] y (fun i h => IsZip h y I O .none ∧ IsPair h I (.ref j1) (.ref j2) ∧ (∃ p q, IsPair h O p q) ∧ SIt c1 h j1 a i ∧ SIt c2 h j2 b i) where
  mem := by simp
  obj := fun i h st c hc => by
    obtain ⟨k1, k2, ⟨p, q, k3⟩, k4, k5⟩ := st
    have e : c = y ∨ c = I ∨ c = O ∨ c = j1 ∨ c = j2 := by simpa using hc
    rcases e with e | e | e | e | e <;> rw [e]
    · exact ⟨_, k1, fun v z => nomatch z⟩
    · exact ⟨_, k2, fun v z => nomatch z⟩
    · exact ⟨_, k3, fun v z => nomatch z⟩
    · exact k4.obj
    · exact k5.obj
  keep := fun i h h' st k => by
    obtain ⟨k1, k2, ⟨p, q, k3⟩, k4, k5⟩ := st
    exact ⟨k y (by simp) _ k1, k I (by simp) _ k2, ⟨p, q, k O (by simp) _ k3⟩, k4.at fun o z => k j1 (by simp) o z, k5.at fun o z => k j2 (by simp) o z⟩
  item := by
    intro X hP hw hK hc i pins s σ H E Iv hf st hg
    subst hP hw hK
    obtain ⟨k1, k2, ⟨p, q, k3⟩, k4, k5⟩ := st
    obtain ⟨xs, ys, x, z, hx, hy, gx, gy⟩ := hg
    obtain ⟨its, rv, m1, _⟩ := sqb_has Iv hx
    obtain ⟨its2, rv2, m2, _⟩ := sqb_has Iv hy
    obtain ⟨u, hu, ru⟩ := rv.get gx
    obtain ⟨u2, hu2, ru2⟩ := rv2.get gy
    have yl : y < s.heap.objs.size := Heap.lt_size k1
    refine nextZM D ⟨k1, k2, k3, k4, k5, m1, m2⟩ (u := u) (v := u2) (by simpa using hu) (by simpa using hu2) fun g z' o' s1' s2' t' gk => ?_
    refine ⟨_, rfl, wpAny_letOwnedTupleGo_zip (s := { s with heap := g }) z' fun g2 z2 sb => ?_⟩
    have T2 : g2.get? s.heap.objs.size = some { cls := .type "tuple", data := .seq #[u, u2] } := (sb.2 _ (Nat.ne_of_gt yl)).trans t'
    have new : ObjOk X.prog X.w (upd H s.heap.objs.size (.tup [x, z])) g2 s.heap.objs.size (.tup [x, z]) := ⟨by show 2 ≤ sizeLine; decide, [u, u2], .cons ru (.cons ru2 .nil), ⟨_, T2, rfl, _, rfl⟩⟩
    have I1 : Inv X pins σ (upd H s.heap.objs.size (.tup [x, z])) { s with heap := g2 } := Iv.turnedNew (t' := s.toks) (ch := [y, I, O, j1, j2]) (fun c o hb e => (sb.2 c (fun e' => hb (by simp [e']))).trans (gk c o (fun e' => hb (by simp [e'])) (fun e' => hb (by simp [e'])) (fun e' => hb (by simp [e'])) (fun e' => hb (by simp [e'])) e)) hf (Nat.le_refl _) new
    refine ⟨.ref s.heap.objs.size, _, I1, rfl, ⟨_, x, z, rfl, Iv.hok.fresh (Nat.le_refl _), rfl, fun l hl => by rw [sqb_inj Iv hl hx]; exact gx, fun l hl => by rw [sqb_inj Iv hl hy]; exact gy⟩, ⟨z2, ?_, ⟨u, u2, ?_⟩, ?_, ?_⟩, fun c hcm => ?_⟩
    · exact (sb.2 _ D.TIz).trans (gk _ _ D.TIz D.TITO D.TIi1 D.TIi2 k2)
    · exact (sb.2 _ D.TOz).trans o'
    · exact s1'.at fun o e => (sb.2 _ D.i1z).trans e
    · exact s2'.at fun o e => (sb.2 _ D.i2z).trans e
    · have hlt : c < s.heap.objs.size := by
        have e : c = y ∨ c = I ∨ c = O ∨ c = j1 ∨ c = j2 := by simpa using hcm
        rcases e with e | e | e | e | e <;> rw [e]
        · exact yl
        · exact Heap.lt_size k2
        · exact Heap.lt_size k3
        · exact k4.lt
        · exact k5.lt
      rw [upd_ne (Nat.ne_of_lt hlt)]
      exact (hf c hcm).1
  done := by
    intro X hP hw hK hc i pins s σ H E Iv hf st hg
    subst hP hw hK
    obtain ⟨k1, k2, ⟨p, q, k3⟩, k4, k5⟩ := st
    obtain ⟨xs, ys, hx, hy, hend⟩ := hg
    obtain ⟨its, rv, m1, _⟩ := sqb_has Iv hx
    obtain ⟨its2, rv2, m2, _⟩ := sqb_has Iv hy
    have e1 := rv.length
    have e2 := rv2.length
    have he : its.toArray[i]? = none ∨ its2.toArray[i]? = none := by
      rcases hend with e | e
      · exact .inl (by simp; omega)
      · exact .inr (by simp; omega)
    exact nextZM0 (Iv.ok.hd hc) D ⟨k1, k2, k3, k4, k5, m1, m2⟩ he fun g gk => ⟨rfl, Iv.turnedL (t' := s.toks) (ch := [y, I, O, j1, j2]) (fun c o hb e => gk c o (fun e' => hb (by simp [e'])) (fun e' => hb (by simp [e'])) (fun e' => hb (by simp [e'])) (fun e' => hb (by simp [e'])) e) hf⟩
  self := fun A i s Q E st k => wpAny_pyIter_zip st.1 k
def iZipM (K : PySem.W.Frag) (ta : TA) : TI := fun σ H R => ta σ H fun vs H1 => ∃ c a b xs ys, vs = [.ref a, .ref b] ∧ SqB2 K H1 c a xs ∧ SqB2 K H1 (!c) b ys ∧ R (ItzM K c (!c) a b) H1
theorem pi_zipM {X : Cx} {e e2 : Expr} {ta : TA} {p pos tpos : Pos} {elts : List Expr} {kk : Nat} (hg : Gl X "zip") (hm : X.mg "zip" = none) (ha : PA X [e, e2] ta)
    (hs : starEach [e, e2] X.env = (false, eval e X.env) :: starEach [e2] X.env := by rfl) (hpl : (backTo pos (starEach [e2] X.env)).any (·.1) = false := by rfl) : PI X (.Tuple elts kk tpos) (.Call (.Name "zip" p) [e, e2] [] pos) (iZipM X.K ta) := by
  refine ⟨fun pins s σ H R I k => ?_⟩
  refine Call_ (ld_blt I hg hm PyProof.Rows.boot_zip (PyProof.Rows.callWith_type1 (thn (ha.run pos pins s σ H _ I k) fun us s1 ⟨vs, H1, I1, r1, q1⟩ => ?_) hs hpl))
  obtain ⟨c, a, b, xs, ys, ex, hx, hy, q⟩ := q1
  subst ex
  cases r1 with
  | cons r rr =>
    cases rr with
    | cons r2 rr =>
      cases rr; cases r; cases r2
      obtain ⟨its, rv, m1, lt1⟩ := sqb_has I1 hx
      obtain ⟨its2, rv2, m2, lt2⟩ := sqb_has I1 hy
      have fr : ∀ d, d ∈ [s1.heap.objs.size + 4, s1.heap.objs.size + 2, s1.heap.objs.size + 3, s1.heap.objs.size, s1.heap.objs.size + 1] → FpOk X pins H1 d := fun d hd => by
        have e : d = s1.heap.objs.size + 4 ∨ d = s1.heap.objs.size + 2 ∨ d = s1.heap.objs.size + 3 ∨ d = s1.heap.objs.size ∨ d = s1.heap.objs.size + 1 := by simpa using hd
        have hle : s1.heap.objs.size ≤ d := by omega
        exact I1.fpOk hle (I1.hok.fresh hle)
      refine callZM c m1 m2 fun g Z gk => wpAny_pyIter_zip Z.zz ?_
      exact ⟨s1.heap.objs.size + 4, [s1.heap.objs.size + 4, s1.heap.objs.size + 2, s1.heap.objs.size + 3, s1.heap.objs.size, s1.heap.objs.size + 1], _, _, H1, rfl, I1.kept (t' := s1.toks) gk, turnZM (PySem.W.ktu_apart s1.heap.objs.size a b lt1 lt2), ⟨Z.zz, Z.pI, ⟨_, _, Z.pO⟩, Z.s1, Z.s2⟩, fr, q⟩
variable [Tb] [Vw]
section
variable {K : PySem.W.Frag} {W : WX} {S H : Hp} {A B : Fp} {σ : L2.St} {ρ : En}
theorem src_zm {a b : Addr} {l m : Bool} {s1 s2 : Sr} (h1 : SqW K σ S a l s1) (h2 : SqW K σ S b m s2) : Src K σ S (ItzM K l m a b) (.zp s1 s2) := by
  intro σ' ρ S' H A T j ds g2 sub w le e hd
  obtain ⟨xs, a1, a2⟩ := Option.bind_eq_some_iff.mp (show (s1.at ρ).bind _ = some ds from hd)
  obtain ⟨ys, b1, b2⟩ := Option.map_eq_some_iff.mp a2
  subst b2
  obtain ⟨vs, sq1, da1⟩ := h1 σ' ρ S' H A T xs (fun i hi => g2 i (List.mem_append_left _ hi)) sub w le e a1
  obtain ⟨ws, sq2, da2⟩ := h2 σ' ρ S' H A T ys (fun i hi => g2 i (List.mem_append_right _ hi)) sub w le e b1
  have q1 : SqB2 K H l a vs := by cases l <;> exact sq1
  have q2 : SqB2 K H m b ws := by cases m <;> exact sq2
  refine ⟨fun d hj => ?_, fun hj => ⟨vs, ws, q1, q2, ?_⟩⟩
  · unfold zpD at hj
    rw [List.getElem?_map] at hj
    obtain ⟨⟨x, y⟩, c1, c2⟩ := Option.map_eq_some_iff.mp hj
    obtain ⟨c3, c4⟩ := List.getElem?_zip_eq_some.mp c1
    obtain ⟨v, e1, e2⟩ := dpall_get da1 c3
    obtain ⟨u, e3, e4⟩ := dpall_get da2 c4
    refine ⟨⟨vs, ws, v, u, q1, q2, e1, e3⟩, fun z H' hy => ?_⟩
    obtain ⟨p, x', y', rfl, hp, rfl, y1, y2⟩ := hy
    have z1 := y1 vs q1
    have z2 := y2 ws q2
    rw [e1] at z1
    rw [e3] at z2
    cases z1; cases z2
    rw [← c2]
    exact pairNew w hp e2 e4
  · unfold zpD at hj
    rw [List.length_map, List.length_zip] at hj
    rw [dpall_len da1, dpall_len da2]
    omega
def fZipM (f g : FP) : FI := fun ρ => (fSeq f ρ).bind fun a ρ1 => (fSeq g ρ1).bind fun b ρ2 => match (Sr.zp a b).at ρ2 with
  | some _ => if a.kind = b.kind.map not then .ok (.zp a b) ρ2 else .bad
  | none => .bad
theorem sndI_zipM {t u : TE} {f g : FP} (h : SndP K W t f) (h' : SndP K W u g) : SndI K W (iZipM K (tCons t (tCons u tNil))) (fZipM f g) := by
  refine snd_bind (u := fun x σ H R => u σ H fun y H2 => ∃ c a b xs ys, [x, y] = [V.ref a, V.ref b] ∧ SqB2 K H2 c a xs ∧ SqB2 K H2 (!c) b ys ∧ R (ItzM K c (!c) a b) H2) (snd_seq h) fun x s1 σ ρ S H A B w e ra => ?_
  have h2 := snd_beside (snd_seq h') w e
  show OutOk K W (RSr K) _ σ S H (A + B) ((fSeq g ρ).bind _)
  cases hf : fSeq g ρ with
  | bad => exact True.intro
  | exc x' ρ' => rw [hf] at h2; exact fun Q k => h2 _ k
  | ok s2 ρ2 =>
    rw [hf] at h2
    show OutOk K W (RSr K) _ σ S H (A + B) (match (Sr.zp s1 s2).at ρ2 with
      | some _ => if s1.kind = s2.kind.map not then Out.ok (.zp s1 s2) ρ2 else .bad
      | none => .bad)
    cases hz : (Sr.zp s1 s2).at ρ2 with
    | none => exact True.intro
    | some ds =>
      show OutOk K W (RSr K) _ σ S H (A + B) (if s1.kind = s2.kind.map not then Out.ok (.zp s1 s2) ρ2 else .bad)
      by_cases hk : s1.kind = s2.kind.map not
      · rw [if_pos hk]
        intro Q k
        refine h2 _ fun y S' H' A' C w' e' rb t' sub kp => ?_
        obtain ⟨z1, a, l1, k1, ev1, sw1⟩ := stays_seq σ S H S' H' x s1 B sub kp ra
        obtain ⟨z2, b, l2, k2, ev2, sw2⟩ := rb
        have el : l2 = !l1 := by rw [k1, k2] at hk; have := Option.some.inj hk; rw [this]; cases l2 <;> rfl
        subst el
        obtain ⟨xs, a1, a2⟩ := Option.bind_eq_some_iff.mp (show (s1.at ρ2).bind _ = some ds from hz)
        obtain ⟨ys, b1, b2⟩ := Option.map_eq_some_iff.mp a2
        obtain ⟨vs, sq1, _⟩ := sw1 σ ρ2 S' H' A' (A' + C + B) xs (fun _ _ => rfl) (fun _ _ h => h) w' le3 e' a1
        obtain ⟨ws, sq2, _⟩ := sw2 σ ρ2 S' H' A' (A' + C + B) ys (fun _ _ => rfl) (fun _ _ h => h) w' le3 e' b1
        refine ⟨l1, a, b, vs, ws, by rw [ev1, ev2], by cases l1 <;> exact sq1, by cases l1 <;> exact sq2, ?_⟩
        exact k (ItzM K l1 (!l1) a b) S' H' A' Fp.z (by rw [addz]; exact w'.less le3) e' ⟨src_zm sw1 sw2, fun _ => rfl⟩ (by rw [addz]; exact t'.less le3)
      · rw [if_neg hk]; exact True.intro
end
section
variable {X : Cx} {W : WX} {a b : Expr} {fa fb : FP} {pos p tpos : Pos} {elts : List Expr} {kk : Nat}
theorem iv_zipM (hg : Gl X "zip") (hm : X.mg "zip" = none) (h : PV X W a fa) (h' : PV X W b fb) (hs : starEach [a, b] X.env = (false, eval a X.env) :: starEach [b] X.env := by rfl) (hs2 : starEach [b] X.env = [(false, eval b X.env)] := by rfl) (hpl : (backTo pos (starEach [b] X.env)).any (·.1) = false := by rfl) : IV X W (.Tuple elts kk tpos) (.Call (.Name "zip" p) [a, b] [] pos) (fZipM fa fb) :=
  let ⟨_, h1, h2⟩ := h.ex; let ⟨_, g1, g2⟩ := h'.ex; ⟨_, pi_zipM hg hm (pa_cons h1 (pa_cons g1 pa_nil hs2) hs) hs hpl, sndI_zipM h2 g2⟩
end
section
variable {ρ : En} {fa fb : FP} {sr sr2 : Sr} {x : Xn}
def kZm1 (fb : FP) (z : Out Sr) : Out Sr := z.bind fun a ρ1 => (fSeq fb ρ1).bind fun b ρ2 => match (Sr.zp a b).at ρ2 with
  | some _ => if a.kind = b.kind.map not then .ok (.zp a b) ρ2 else .bad
  | none => .bad
def kZm2 (a : Sr) (z : Out Sr) : Out Sr := z.bind fun b ρ2 => match (Sr.zp a b).at ρ2 with
  | some _ => if a.kind = b.kind.map not then .ok (.zp a b) ρ2 else .bad
  | none => .bad
def kZm3 (a b : Sr) (z : Option (List PyData)) (ρ2 : En) : Out Sr := match z with
  | some _ => if a.kind = b.kind.map not then .ok (.zp a b) ρ2 else .bad
  | none => .bad
theorem x_zm1 : fZipM fa fb ρ = kZm1 fb (fSeq fa ρ) := rfl
theorem x_zm2 : kZm1 fb (.ok sr ρ) = kZm2 sr (fSeq fb ρ) := rfl
theorem x_zm3 : kZm2 sr (.ok sr2 ρ) = kZm3 sr sr2 ((Sr.zp sr sr2).at ρ) ρ := rfl
theorem x_zm4 {ds : List PyData} (h : sr.kind = sr2.kind.map not) : kZm3 sr sr2 (some ds) ρ = .ok (.zp sr sr2) ρ := by unfold kZm3; exact if_pos h
end
end Ls
namespace Ls
open PySem L2 PyProof.Rows
section
variable [Tb] {X : Cx}
def prs (kvs : List (Expr × Expr)) (pos : Pos) (env : Env) : List (Sem Value × Sem Value) := kvs.map fun p => (eval p.1 env, do let x ← eval p.2 env; standAt pos; pure x)
end
section
variable [Tb] [Vw]
variable {K : PySem.W.Frag} {W : WX} {P : List Nat} {S H : Hp} {A B C : Fp} {σ : L2.St} {ρ : En}
variable {X : Cx} {k v : Expr} {kvs : List (Expr × Expr)} {ls : List (Option Nat)} {fk fv : FE} {f : FA}
end
end Ls
namespace Ls
open PySem L2
variable [Tb] [Vw]
section
variable {K : PySem.W.Frag} {W : WX} {P : List Nat} {S H : Hp} {A B C : Fp} {σ : L2.St} {ρ : En} {ls : List (Option Nat)}
section
variable (K : PySem.W.Frag) (W : WX) (P : List Nat) (σ : L2.St) (S H : Hp) (A : Fp)
end
variable {Pg : Program} {w : World} {mg : Str → Option Value} {base : Heap} {x qual : Str} {params : Arguments} {body : List Stmt} {scope : Scope} {dvs : List V} {kws : List (Str × V)} {f : Addr} {fd : FuncData}
end
section
variable {ρ ρ1 : En} {o : O} {os : List O} {as as' : List O} {prot : List Nat} {m : Nat} {f g : FS} {fa : FA} {fe : FE} {i : Int} {x : Xn}
end
end Ls
namespace Ls
open PySem L2
variable [Tb] [Vw]
section
variable {K : PySem.W.Frag} {W : WX} {P : List Nat} {S H : Hp} {A B C : Fp} {σ : L2.St} {ρ : En}
end
section
variable {X : Cx} {W : WX} {P : List Nat}
end
section
variable {ρ : En} {xs : List O} {o : O}
end
end Ls
namespace Ls
open PySem L2
variable [Tb] [Vw]
section
variable {X : Cx} {e o : Expr} {es : List Expr} {to : TE} {t : TA} {apos cpos : Pos}
end
section
variable {K : PySem.W.Frag} {W : WX} {P : List Nat} {S H : Hp} {A B C : Fp} {σ : L2.St} {ρ : En} {ls : List (Option Nat)}
end
section
variable {X : Cx} {W : WX} {P : List Nat} {ls : List (Option Nat)}
end
section
variable {ρ : En} {fa : FA} {o : O} {d z : PyData} {x : Xn} {os : List O}
end
end Ls
namespace Ls
open PySem L2 PyProof.Rows
variable [Tb] [Vw]
section
variable {X : Cx} {a : Expr} {ta : TA} {p p2 pos pos2 : Pos}
end
section
variable {K : PySem.W.Frag} {W : WX} {P : List Nat} {S H : Hp} {A B C : Fp} {σ : L2.St} {ρ : En} {ls : List (Option Nat)}
end
section
variable {ρ : En} {fa : FA} {x : Xn} {j : Int}
end
end Ls
namespace Ls
open PySem L2 PyProof.Rows
section
open PySem.HandSPX
variable {M : Model} {A : Around} {E : Value → Shared → Prop} {s : Shared} {Z : Obj → Prop} {G : Heap} {fr : Env} {outer l : List Env} {L a : Addr}
end
section
variable {X : Cx} {W W' : WX} {pins : List (Addr × Obj)} {σ : L2.St} {H3 : Hp} {s3 s' : Shared} {scope : Scope} {cenv : Env} {fp : List Addr} {xe : Value → Shared → Prop}
end
end Ls
namespace Ls
open PySem L2 PyProof.Rows
variable [Tb] [Vw]
section
variable {X : Cx} {W : WX}
end
end Ls
namespace Ls
open PySem L2 PyProof.Rows
variable [Tb] [Vw]
section
variable {K : PySem.W.Frag} {W : WX}
end
section
variable {X : Cx} {W : WX}
end
section
variable {X : Cx} {W : WX} {kvs : List (Expr × Expr)} {ls : List (Option Nat)} {f : FA}
end
section
variable {s : Sr} {gF : FG} {f : FE} {vs : List Nat} {x : Xn} {ρ : En} {fi : FI}
end
section
variable {ρ : En} {fi : FI} {gF : FG} {elt f : FE} {vs : List Nat} {x : Xn} {d : PyData} {o : O}
end
end Ls
namespace Ls
open PySem L2 PyProof.Rows
variable [Tb] [Vw]
section
variable {K : PySem.W.Frag} {W : WX}
end
section
variable {X : Cx} {W : WX}
end
section
variable {ρ : En} {fa fk : FP} {fd : FE} {x : Xn} {p q : Pk} {prs : List (Int × PyData)} {k : Int} {z : O} {v : PyData}
end
end Ls
namespace Ls
open PySem L2
variable [Tb]
variable [Vw]
section
variable {K : PySem.W.Frag} {W : WX} {P : List Nat} {S H : Hp} {A B C : Fp} {σ : L2.St} {ρ : En}
end
section
variable {X : Cx} {W : WX} {P : List Nat} {e : Expr} {fe : FE} {pos : Pos}
end
section
variable {ρ ρ1 : En} {f : FE} {o : O} {os xs : List O} {ds : List PyData} {n : Nat} {k : Int} {c : Str} {fn : List Str} {j : Nat} {x : Xn}
end
end Ls
namespace Ls
open PySem PySem.Spec PyProof.Rows L2
section
variable {prog : Program} {w : World} {A : Around} {E : Value → Shared → Prop} {s : Shared} {K : PySem.W.Frag} {C y f : Addr}
end
section
variable {X : Cx} {CX : CXT} {k : Nat} {f C : Addr} {fd : FuncData} {ps : List Str} {sp : Sp} {dvs : List V} {ds : List Value} {E : L2.St → XK} {p pos : Pos} {o : Expr} {ta : TE}
end
variable [Tb] [Vw]
section
variable {K : PySem.W.Frag} {W : WX} {f : FE}
end
section
variable {X : Cx} {W : WX} {k : Nat} {f : Addr} {fd : FuncData} {ps : List Str} {F : List O → FO} {n : Nat} {cn x : Str} {fnL : List Str} {p p1 pos : Pos}
end
section
variable {ρ : En} {F : List O → FO} {n : Int} {cn : Str} {fnL : List Str} {i : Nat} {x : Xn}
end
end Ls
namespace Ls
open PySem PySem.Spec PyProof.Rows L2
section
variable {K : PySem.W.Frag}
end
section
variable [Tb] [Vw] {K : PySem.W.Frag} {W : WX} {S H : Hp} {A B C : Fp} {σ : L2.St} {ρ : En}
end
section
variable [Tb] [Vw] {X : Cx} {W : WX} {a b e o : Expr} {fa fb : FP} {p pos : Pos} {tg : Expr}
end
section
variable [Tb] [Vw] {ρ ρ1 : En} {z y : Str} {c n : Int} {k : Nat} {x : Xn} {f : FE} {fs : List FE} {fa fb : FP} {p q : Pk} {g : Str → Str → Option PyData} {d : PyData} {o : O}
end
end Ls
namespace Ls
open PySem PySem.Spec PyProof.Rows L2
section
variable [Tb] [Vw] {K : PySem.W.Frag} {W : WX} {P : List Nat} {S H : Hp} {A B C : Fp} {σ : L2.St} {ρ : En}
end
section
variable [Tb] [Vw] {X : Cx} {W : WX} {a b e o : Expr} {fa fb fi : FP} {p pos : Pos} {P : List Nat}
end
section
variable [Tb] [Vw] {ρ ρ1 : En} {z y : Str} {k : Nat} {x : Xn} {fa fb : FP} {p q : Pk} {d : PyData} {o : O} {i : Nat}
end
end Ls
namespace Ls
open PySem PySem.Spec PyProof.Rows L2
section
variable [Tb] [Vw] {K : PySem.W.Frag} {W : WX} {P : List Nat} {S H : Hp} {A B C : Fp} {σ : L2.St} {ρ : En}
end
section
variable [Tb] [Vw] {X : Cx} {W : WX} {a b e o : Expr} {fa fb : FP} {p pos : Pos}
end
section
variable [Tb] [Vw] {ρ ρ1 : En} {z y : Str} {x : Xn} {fa fb : FP} {p q : Pk} {ds : List PyData}
end
end Ls
namespace Ls
open PySem L2
class Fv where
  fv : Str → Addr
instance (priority := low) fv0 : Fv := ⟨fun _ => 0⟩
variable [Tb] [Vw]
section
variable {K : PySem.W.Frag} {W : WX} {S H : Hp} {A B C : Fp} {σ : St} {ρ : En}
end
section
variable {X : Cx} {W : WX} {a : Expr} {fa : FP} {pos p : Pos} {x : Str} {d : Addr} {kf : List (Str × Str)}
end
section
variable {X : Cx} {W : WX} {e : Expr} {es : List Expr} {ls : List (Option Nat)} {fa : FA} {pos p : Pos} {x : Str}
end
section
variable {X : Cx} {W : WX} {a : Expr} {fa : FP} {pos p : Pos}
end
section
variable {X : Cx} {W : WX} {a : Expr} {fa : FP} {pos p : Pos}
end
section
variable {K : PySem.W.Frag} {W : WX} {S H : Hp} {A B C : Fp} {σ : St} {ρ : En}
end
section
variable {X : Cx} {W : WX} {a : Expr} {fa : FP} {pos p2 : Pos}
end
section
variable {ρ ρ1 : En} {ks : List (Str × Str)} {neg : Bool → Bool} {fa : FP} {p : Pk} {z : Str} {nm : Str} {x : Xn} {fl fh : FN} {lo hi : Option Int}
theorem x_kd6 : not true = false := rfl
theorem x_kd7 : not false = true := rfl
end
end Ls
namespace Ls
open PySem L2
variable [Tb] [Vw]
section
variable {K : PySem.W.Frag} {W : WX} {P : List Nat} {S H : Hp} {A B C : Fp} {σ : L2.St} {ρ : En}
end
section
variable {X : Cx} {W : WX} {e : Expr} {fe : FE}
end
section
variable {ρ : En} {xs : List O} {o : O} {i : Int}
end
end Ls
namespace Ls
open PySem L2 PyProof.Rows
variable [Tb] [Vw]
section
variable {prog : Program} {w : World} {A : Around} {E : Value → Shared → Prop} {s : Shared}
end
section
variable {K : PySem.W.Frag} {W : WX} {S H : Hp} {A B C : Fp} {σ : L2.St} {ρ : En}
end
section
variable {X : Cx} {W : WX} {a : Expr} {fa : FP} {pos p : Pos}
end
section
variable {K : PySem.W.Frag} {W : WX} {S H : Hp} {A B C : Fp} {σ : L2.St} {ρ : En}
end
section
variable {X : Cx} {W : WX} {a : Expr} {fa : FP} {pos p : Pos} {x : Str} {d : Addr} {kv : List (Str × PyData)}
end
section
variable {ρ ρ1 : En} {kv : List (Str × PyData)} {fa : FP} {p : Pk} {z : Str} {t : PyData} {ds : List PyData} {ns : List Int}
end
end Ls
namespace Ls
open PySem L2 PyProof.Rows
open AutoSeq1 (wpAny_loadPart')
section
variable {prog : Program} {w : World} {A : Around} {E : Value → Shared → Prop} {s : Shared}
end
variable [Tb] [Vw]
section
variable {K : PySem.W.Frag} {W : WX} {S H : Hp} {A B C : Fp} {σ : L2.St} {ρ : En}
end
section
variable {X : Cx} {W : WX} {tg a : Expr} {fa : FP} {pos p tpos : Pos} {elts : List Expr} {kk : Nat}
end
section
variable {ρ : En} {sr : Sr} {fa : FP} {x : Xn}
end
end Ls
namespace Ls
open PySem L2 PyProof.Rows PySem.W
section
variable {prog : Program} {w : World} {A : Around} {E : Value → Shared → Prop} {s : Shared}
end
variable [Tb] [Vw]
section
variable {K : PySem.W.Frag} {W : WX} {P : List Nat} {S H : Hp} {A B C : Fp} {σ : L2.St} {ρ : En}
end
section
variable {X : Cx} {W : WX} {P : List Nat} {e : Expr} {fe : FE} {pos : Pos}
end
section
variable {ρ : En} {o : O} {x : PyData} {xs : List PyData} {i j : Nat} {f : FE}
end
end Ls
namespace Ls
open PySem PySem.Spec PyProof.Rows L2
variable [Tb] [Vw]
section
variable {K : PySem.W.Frag} {W : WX} {S H : Hp} {A B C : Fp} {σ : L2.St} {ρ : En}
end
section
variable {X : Cx} {W : WX} {o : Expr} {fo : FP} {pos apos : Pos}
end
end Ls
namespace Ls
open PySem L2 PyProof.Rows
variable [Tb] [Vw]
section
variable {K : PySem.W.Frag} {W : WX}
end
section
variable {X : Cx} {W : WX} {a : Expr} {fa : FP} {p p2 q pos : Pos}
end
end Ls
namespace Ls
open PySem L2 PyProof.Rows
section
variable {P : Program} {w : World} {K : PySem.W.Frag} {tg : Expr} {a : Addr} {es : Array DictEntry} {ep : Nat}
end
section
variable [Tb]
variable {X : Cx} {tg e : Expr} {td : TE} {apos cpos : Pos}
end
variable [Tb] [Vw]
section
variable {K : PySem.W.Frag} {W : WX} {S H : Hp} {A B C : Fp} {σ : L2.St} {ρ : En}
end
section
variable {X : Cx} {W : WX} {tg a : Expr} {fa : FP} {apos cpos tpos : Pos} {elts : List Expr} {kk : Nat}
end
section
variable {ρ : En} {fa : FP} {p : Pk} {x : Xn} {kvs : List (PyData × PyData)} {i : Nat} {o : O} {d : PyData}
end
end Ls
namespace Ls
open PySem L2 PyProof.Rows
variable [Tb] [Vw]
section
variable {X : Cx} {e : Expr} {to : TE} {apos cpos : Pos}
end
section
variable {K : PySem.W.Frag} {W : WX} {P : List Nat} {S H : Hp} {A B C : Fp} {σ : L2.St} {ρ : En}
end
section
variable {X : Cx} {W : WX} {P : List Nat} {pos : Pos}
end
section
variable {ρ : En}
end
end Ls
namespace Ls
open PySem L2
end Ls
namespace Ls
open PySem L2 PyProof.Rows
variable [Tb] [Vw]
section
variable {K : PySem.W.Frag} {W : WX} {S : Hp} {B : Fp}
end
section
variable {X : Cx} {W : WX} {a : Expr} {fa : FP} {p pos : Pos}
end
section
variable {os : List O} {ds ks : List PyData} {i : Int} {b : Bool} {z : Str}
omit [Tb] [Vw]
end
end Ls
namespace Ls
open PySem L2
variable [Tb] [Vw]
section
variable {K : PySem.W.Frag} {W : WX} {P : List Nat} {S H : Hp} {A B C : Fp} {σ : L2.St} {ρ : En} {ls : List (Option Nat)}
end
section
variable {X : Cx} {W : WX} {P : List Nat} {ls : List (Option Nat)}
end
section
variable {ρ : En} {fa : FA} {fe : FE} {o : O} {d z : PyData} {x : Xn} {os : List O} {kvs : List (PyData × PyData)}
end
end Ls
namespace Ls
open PySem L2
section
variable {K : PySem.W.Frag} {S S' H H' : Hp}
end
section
variable [I : Tb] [V : Vw] {K : PySem.W.Frag} {S H : Hp} {B : Fp}
end
section
variable [I : Tb] [V : Vw] {X : Cx} {W : WX} {P : List Nat} {sts : List Stmt} {f : FS}
end
end Ls
namespace Ls
open PySem L2
variable [Tb] [Vw]
section
variable {K : PySem.W.Frag} {W : WX} {P : List Nat} {S H : Hp} {A : Fp} {σ : L2.St} {ρ : En}
end
section
variable {X : Cx} {W : WX} {P : List Nat} {e : Expr} {fe : FE} {pos pos' tpos p1 p2 p3 p4 p5 p6 p7 p8 p9 : Pos} {x y : Str}
end
end Ls
namespace Ls
open PySem L2
variable [Tb] [Vw]
section
variable {K : PySem.W.Frag} {W : WX} {P : List Nat} {S H : Hp} {A B C : Fp} {σ : L2.St} {ρ : En}
end
section
variable {X : Cx} {W : WX} {e o : Expr} {fe fo : FE} {p2 cpos : Pos}
end
section
variable {ρ ρ1 : En} {o : O} {d ctx c kd : PyData} {ds : List PyData} {os : List O} {x : Xn} {f : FS} {fe : FE} {cx : PyData → En → PyData} {j : Nat} {cn fld : Str} {fn : List Str} {kvs : List (PyData × PyData)} {i q k : Nat} {cf : PyData → NestedKey → Option PyData}
end
section
variable {ρ : En} {fo fe : FE} {o : O} {i : Int} {j : Nat} {x : Xn} {ds : List PyData}
end
end Ls
namespace Ls
open PySem PySem.Spec L2 PyProof.Rows
section
variable [Tb] {X : Cx}
def flatV : List (V × V) → List V
  | [] => []
  | p :: r => p.1 :: p.2 :: flatV r
end
section
variable [Tb] [Vw]
variable {K : PySem.W.Frag} {W : WX}
end
section
variable [Tb] [Vw] {X : Cx} {W : WX}
end
section
variable [Tb] [Vw] {ρ : En} {fa : FP} {x : Xn} {p : Pk} {o : O} {ds : List PyData}
end
end Ls
namespace Ls
open PySem PySem.Spec L2 PyProof.Rows
section
variable [Tb] {X : Cx}
end
section
variable [Tb] [Vw]
variable {K : PySem.W.Frag} {W : WX}
end
section
variable [Tb] [Vw] {X : Cx} {W : WX}
end
section
variable [Tb] [Vw] {ρ ρ1 : En} {fi : FI} {gF : FG} {kf vf : FE} {vs : List Nat} {x : Xn} {sr : Sr}
end
end Ls
namespace Ls
open PySem L2 PyProof.Rows
variable [Tb] [Vw]
section
variable {K : PySem.W.Frag} {W : WX} {S H : Hp} {A B C : Fp} {σ : L2.St} {ρ : En}
end
section
variable {X : Cx} {W : WX} {a : Expr} {fa : FP} {pos p : Pos}
end
section
variable {ρ : En} {fa : FP} {x : Xn} {kvs : List (PyData × PyData)}
end
end Ls
namespace Ls
open PySem L2 PyProof.Rows
variable [Tb] [Vw]
section
variable {X : Cx} {W : WX} {a : Expr} {fa : FP} {pos p : Pos}
end
end Ls
noncomputable section
namespace Lw
open PySem L2 Ls
abbrev N__law_bag : List Str := ["_law_script"]
abbrev N__law_pull : List Str := ["_law_bag_here", "_law_many", "_law_cell", "_law_mixed", "_law_got"]
abbrev N__law_pick : List Str := ["_law_bag_here", "_law_some"]
abbrev N__law_prime : List Str := ["_law_bag_here"]
abbrev N__law_pegs : List Str := ["_law_bag_here", "_law_p", "_law_size", "_law_k"]
abbrev N_need_prime : List Str := ["prime"]
abbrev N_is_whole : List Str := ["thing"]
abbrev N_is_within : List Str := ["thing", "low", "high"]
abbrev N_is_row_of : List Str := ["prime", "row", "number"]
abbrev N_need_kind : List Str := ["prime", "size", "kind", "taps"]
abbrev N_Spring___init__ : List Str := ["self", "prime", "size", "kind", "taps"]
abbrev N__law_same : List Str := ["_law_found", "_law_due", "_law_right", "_law_key", "_law_at"]
abbrev N__law_next_row : List Str := ["_law_p", "_law_row", "_law_pegs_here", "_law_last", "_law_moved", "_law_k"]
abbrev N__law_table : List Str := ["_law_p", "_law_size", "_law_sort", "_law_pegs_here", "_law_many", "_law_found", "_law_at", "_law_row", "_law_k"]
abbrev N_Spring_room : List Str := ["self"]
abbrev N_unit : List Str := ["size", "at", "k"]
abbrev N_poly_row : List Str := ["prime", "size", "place", "found", "k"]
abbrev N_shifted : List Str := ["prime", "row", "taps", "last", "one", "tap"]
abbrev N_joined : List Str := ["prime", "one", "other", "taps", "size", "found", "by", "number", "had", "more"]
abbrev N_rule_row : List Str := ["prime", "taps", "place", "size", "found", "by", "left"]
abbrev N_Spring_row : List Str := ["self", "place"]
abbrev N__law_mix : List Str := ["_law_p", "_law_rows", "_law_weights", "_law_size", "_law_found", "_law_at", "_law_k"]
abbrev N_Spring_need_seed : List Str := ["self", "seed"]
abbrev N_dot : List Str := ["prime", "row", "seed", "one", "other"]
abbrev N_Spring_cells : List Str := ["self", "seed", "places", "place"]
abbrev N__law_dot : List Str := ["_law_p", "_law_row", "_law_seed", "_law_found", "_law_at"]
abbrev N_law : List Str := ["_law_script", "_law_bag_here", "_law_p", "_law_size", "_law_pegs_here", "_law_spring", "_law_one", "_law_other", "_law_rows", "_law_seed", "_law_far", "_law_cells", "_law_k"]
def d_KINDS : PyData := (.tuple [(.str "bare"), (.str "poly"), (.str "rule")])
def d_PRIMES : PyData := (.tuple [(.int 2), (.int 3), (.int 5), (.int 7), (.int 11), (.int 13), (.int 17), (.int 19), (.int 23), (.int 29), (.int 31)])
abbrev Ni_LotError : List Str := ["self", "word"]
def mk_LotError : List V → Option (List (Str × V))
  | [w0] => some [("word", w0)]
  | _ => none
def mkD_LotError : List PyData → Option (List (Str × PyData))
  | [w0] => some [("word", w0)]
  | _ => none
theorem mkr_LotError [Tb] {K : PySem.W.Frag} : MkR K mk_LotError mkD_LotError := by
  intro S vs ds fs h hm
  unfold mkD_LotError at hm
  split at hm
  · exact match vs, h with
      | [_], .cons h0 .nil => by cases hm; exact ⟨_, rfl, fr_look (.cons h0 (.nil))⟩
  · cases hm
abbrev Ni_BadNumber : List Str := ["self"]
def mk_BadNumber : List V → Option (List (Str × V))
  | [] => some [("word", .str "BadNumber")]
  | _ => none
def mkD_BadNumber : List PyData → Option (List (Str × PyData))
  | [] => some [("word", .str "BadNumber")]
  | _ => none
theorem mkr_BadNumber [Tb] {K : PySem.W.Frag} : MkR K mk_BadNumber mkD_BadNumber := by
  intro S vs ds fs h hm
  unfold mkD_BadNumber at hm
  split at hm
  · exact match vs, h with
      | [], .nil => by cases hm; exact ⟨_, rfl, fr_look (.cons (.str "BadNumber") (.nil))⟩
  · cases hm
abbrev Ni_BadPrime : List Str := ["self"]
def mk_BadPrime : List V → Option (List (Str × V))
  | [] => some [("word", .str "BadPrime")]
  | _ => none
def mkD_BadPrime : List PyData → Option (List (Str × PyData))
  | [] => some [("word", .str "BadPrime")]
  | _ => none
theorem mkr_BadPrime [Tb] {K : PySem.W.Frag} : MkR K mk_BadPrime mkD_BadPrime := by
  intro S vs ds fs h hm
  unfold mkD_BadPrime at hm
  split at hm
  · exact match vs, h with
      | [], .nil => by cases hm; exact ⟨_, rfl, fr_look (.cons (.str "BadPrime") (.nil))⟩
  · cases hm
abbrev Ni_BadSpring : List Str := ["self"]
def mk_BadSpring : List V → Option (List (Str × V))
  | [] => some [("word", .str "BadSpring")]
  | _ => none
def mkD_BadSpring : List PyData → Option (List (Str × PyData))
  | [] => some [("word", .str "BadSpring")]
  | _ => none
theorem mkr_BadSpring [Tb] {K : PySem.W.Frag} : MkR K mk_BadSpring mkD_BadSpring := by
  intro S vs ds fs h hm
  unfold mkD_BadSpring at hm
  split at hm
  · exact match vs, h with
      | [], .nil => by cases hm; exact ⟨_, rfl, fr_look (.cons (.str "BadSpring") (.nil))⟩
  · cases hm
abbrev Ni_NoPlace : List Str := ["self", "where"]
def mk_NoPlace : List V → Option (List (Str × V))
  | [w0] => some [("where", w0), ("word", .str "NoPlace")]
  | _ => none
def mkD_NoPlace : List PyData → Option (List (Str × PyData))
  | [w0] => some [("where", w0), ("word", .str "NoPlace")]
  | _ => none
theorem mkr_NoPlace [Tb] {K : PySem.W.Frag} : MkR K mk_NoPlace mkD_NoPlace := by
  intro S vs ds fs h hm
  unfold mkD_NoPlace at hm
  split at hm
  · exact match vs, h with
      | [_], .cons h0 .nil => by cases hm; exact ⟨_, rfl, fr_look (.cons h0 (.cons (.str "NoPlace") (.nil)))⟩
  · cases hm
abbrev Ni_BadSeed : List Str := ["self"]
def mk_BadSeed : List V → Option (List (Str × V))
  | [] => some [("word", .str "BadSeed")]
  | _ => none
def mkD_BadSeed : List PyData → Option (List (Str × PyData))
  | [] => some [("word", .str "BadSeed")]
  | _ => none
theorem mkr_BadSeed [Tb] {K : PySem.W.Frag} : MkR K mk_BadSeed mkD_BadSeed := by
  intro S vs ds fs h hm
  unfold mkD_BadSeed at hm
  split at hm
  · exact match vs, h with
      | [], .nil => by cases hm; exact ⟨_, rfl, fr_look (.cons (.str "BadSeed") (.nil))⟩
  · cases hm
def w__law_bag : FS := (sRet (eLst (aCons (eZ (eList (pE (eSl (pVar 0) nNo (nE (pE (eC (.int 63)))))))) (aCons (eC (.int 0)) (aCons (eC (.int 0)) (aCons (eC (.int 1)) aNil))))))
def F__law_bag : List O → FO := runFn 1 [0] w__law_bag
def w__law_pull : FS := (sSeq (sIf (tAndF (tOf (eOp dEq (pE (eIx (pVar 0) (pE (eC (.int 2))))) (pE (eC (.int 0))))) (tOf (eOp dLt (pE (eIx (pVar 0) (pE (eC (.int 1))))) (pE (eB1 lenO (pE (eIx (pVar 0) (pE (eC (.int 0))))))))))
    (sSeq (sSet 2 (eIx (pE (eIx (pVar 0) (pE (eC (.int 0))))) (pE (eIx (pVar 0) (pE (eC (.int 1)))))))
    (sSeq (sIx 0 (pE (eC (.int 1))) (eOp dAdd (pE (eIx (pVar 0) (pE (eC (.int 1))))) (pE (eC (.int 1)))))
    (sIf (tOf (eOp dGe (pVar 2) (pE (eOp dPow (pE (eC (.int 10))) (pE (eC (.int 18)))))))
    (sIx 0 (pE (eC (.int 2))) (eVar 2))
    (sSeq (sSet 3 (eOp dAdd (pE (eOp dAdd (pE (eOp dMul (pE (eIx (pVar 0) (pE (eC (.int 3))))) (pE (eC (.int 48271))))) (pE (eOp dMul (pE (eOp dMod (pVar 2) (pE (eC (.int 2147483629))))) (pE (eC (.int 69621))))))) (pE (eC (.int 11)))))
    (sIx 0 (pE (eC (.int 3))) (eOp dMod (pVar 3) (pE (eC (.int 2147483647)))))))))
    sNil)
    (sSeq (sIf (tOf (eOp dGt (pE (eIx (pVar 0) (pE (eC (.int 2))))) (pE (eC (.int 0)))))
    (sSeq (sSet 4 (eOp dMod (pE (eIx (pVar 0) (pE (eC (.int 2))))) (pVar 1)))
    (sSeq (sIx 0 (pE (eC (.int 2))) (eOp dDiv (pE (eIx (pVar 0) (pE (eC (.int 2))))) (pVar 1)))
    (sRet (eLend 4))))
    sNil)
    (sSeq (sSet 3 (eOp dAdd (pE (eOp dMul (pE (eOp dMod (pE (eOp dMul (pE (eIx (pVar 0) (pE (eC (.int 3))))) (pE (eIx (pVar 0) (pE (eC (.int 3))))))) (pE (eC (.int 2147483587))))) (pE (eC (.int 16807))))) (pE (eOp dMul (pE (eIx (pVar 0) (pE (eC (.int 3))))) (pE (eC (.int 48271)))))))
    (sSeq (sIx 0 (pE (eC (.int 3))) (eOp dMod (pE (eOp dAdd (pVar 3) (pE (eC (.int 12345))))) (pE (eC (.int 2147483647)))))
    (sRet (eOp dMod (pE (eOp dAdd (pE (eOp dDiv (pE (eIx (pVar 0) (pE (eC (.int 3))))) (pE (eC (.int 64))))) (pE (eOp dMul (pE (eOp dMod (pE (eIx (pVar 0) (pE (eC (.int 3))))) (pE (eC (.int 4093))))) (pE (eC (.int 31))))))) (pVar 1)))))))
def F__law_pull : List O → FO := runFn 5 [0, 1] w__law_pull
def w__law_pick : FS := (sRet (eIx (pVar 1) (pE (eCall F__law_pull [some 0, none] [] (aCons (eLend 0) (aCons (eB1 lenO (pVar 1)) aNil))))))
def F__law_pick : List O → FO := runFn 2 [0, 1] w__law_pick
def w__law_prime : FS := (sRet (eCall F__law_pick [some 0, none] [] (aCons (eLend 0) (aCons (eLst (aCons (eC (.int 2)) (aCons (eC (.int 3)) (aCons (eC (.int 5)) (aCons (eC (.int 7)) (aCons (eC (.int 11)) (aCons (eC (.int 13)) (aCons (eC (.int 17)) (aCons (eC (.int 19)) (aCons (eC (.int 23)) (aCons (eC (.int 29)) (aCons (eC (.int 31)) aNil)))))))))))) aNil))))
def F__law_prime : List O → FO := runFn 1 [0] w__law_prime
def w__law_pegs : FS := (sRet (eCatT (pE (eTup (aCons (eOp dAdd (pE (eC (.int 1))) (pE (eCall F__law_pull [some 0, none] [] (aCons (eLend 0) (aCons (eOp dSub (pVar 1) (pE (eC (.int 1)))) aNil))))) aNil))) (pE (eTuple (pE (eComp (fRg1 (pE (eOp dSub (pVar 2) (pE (eC (.int 1)))))) (gfN 3) tYesF (eZ (eCall F__law_pull [some 0, some 1] [] (aCons (eLend 0) (aCons (eLend 1) aNil)))) [3]))))))
def F__law_pegs : List O → FO := runFn 4 [0, 1, 2] w__law_pegs
def w_need_prime : FS := (sIf (tOf (eOp dNotIn (pVar 0) (pE (eC d_PRIMES))))
    (sRaise "BadPrime" mkD_BadPrime aNil)
    sNil)
def F_need_prime : List O → FO := runFn 1 [0] w_need_prime
def w_is_whole : FS := (sRet (eAnd (eIsi "int" (pVar 0)) (eNot (pE (eIsi "bool" (pVar 0))))))
def F_is_whole : List O → FO := runFn 1 [0] w_is_whole
def w_is_within : FS := (sRet (eAnd (eCall F_is_whole [some 0] [] (aCons (eLend 0) aNil)) (eChain dLe dLe (pVar 1) (pVar 0) (pVar 2))))
def F_is_within : List O → FO := runFn 3 [0, 1, 2] w_is_within
def w_is_row_of : FS := (sSeq (sIf (tOrF (tNotF (tOf (eIsi "tuple" (pVar 1)))) (tNotF (tOf (eChain dLe dLe (pE (eC (.int 1))) (pE (eB1 lenO (pVar 1))) (pE (eC (.int 12)))))))
    (sRet (eC (.bool false)))
    sNil)
    (sRet (eB1 allO (pE (eComp (fSeq (pVar 1)) (gfN 2) tYesF (eZ (eCall F_is_within [some 2, none, none] [] (aCons (eLend 2) (aCons (eC (.int 0)) (aCons (eOp dSub (pVar 0) (pE (eC (.int 1)))) aNil))))) [2])))))
def F_is_row_of : List O → FO := runFn 3 [0, 1] w_is_row_of
def w_need_kind : FS := (sSeq (sIf (tOrF (tOf (eOp dNotIn (pVar 2) (pE (eC d_KINDS)))) (tAndF (tOf (eOp dEq (pVar 2) (pE (eC (.str "poly"))))) (tOf (eOp dGt (pVar 1) (pVar 0)))))
    (sRaise "BadSpring" mkD_BadSpring aNil)
    sNil)
    (sIf (tOf (eOp dNe (pVar 2) (pE (eC (.str "rule")))))
    (sIf (tOf (eOp dIsNot (pVar 3) (pE (eC .none))))
    (sRaise "BadSpring" mkD_BadSpring aNil)
    sNil)
    (sIf (tOrF (tNotF (tOf (eCall F_is_row_of [some 0, some 3] [] (aCons (eLend 0) (aCons (eLend 3) aNil))))) (tOrF (tOf (eOp dNe (pE (eB1 lenO (pVar 3))) (pVar 1))) (tOf (eOp dEq (pE (eIx (pVar 3) (pE (eC (.int 0))))) (pE (eC (.int 0)))))))
    (sRaise "BadSpring" mkD_BadSpring aNil)
    sNil)))
def F_need_kind : List O → FO := runFn 4 [0, 1, 2, 3] w_need_kind
def w_Spring___init__ : FS := (sSeq (sDrop (eCall F_need_prime [some 1] [] (aCons (eLend 1) aNil)))
    (sSeq (sIf (tNotF (tOf (eCall F_is_within [some 2, none, none] [] (aCons (eLend 2) (aCons (eC (.int 1)) (aCons (eC (.int 12)) aNil))))))
    (sRaise "BadNumber" mkD_BadNumber aNil)
    sNil)
    (sSeq (sDrop (eCall F_need_kind [some 1, some 2, some 3, some 4] [] (aCons (eLend 1) (aCons (eLend 2) (aCons (eLend 3) (aCons (eLend 4) aNil))))))
    (sSeq (sFldN "Spring" "prime" 0 (eVar 1))
    (sSeq (sFldN "Spring" "size" 0 (eVar 2))
    (sSeq (sFldN "Spring" "kind" 0 (eVar 3))
    (sSeq (sFldN "Spring" "taps" 0 (eVar 4))
    (sFldN "Spring" "known_rows" 0 eDct0))))))))
def F_Spring___init__ : List O → FO := runFn 5 [0, 1, 2, 3, 4] w_Spring___init__
def w__law_same (Fs : List O → FO) : FS := (sSeq (sIf (tOf (eIsi "dict" (pVar 1)))
    (fun _ => .bad)
    sNil)
    (sSeq (sIf (tOrF (tOf (eIsi "list" (pVar 1))) (tOf (eIsi "tuple" (pVar 1))))
    (sSeq (sIf (tAndF (tNotF (tOf (eIsi "list" (pVar 0)))) (tNotF (tOf (eIsi "tuple" (pVar 0)))))
    (sRet (eC (.bool false)))
    sNil)
    (sSeq (sIf (tOf (eOp dNe (pE (eIsi "list" (pVar 1))) (pE (eIsi "list" (pVar 0)))))
    (sRet (eC (.bool false)))
    sNil)
    (sSeq (sIf (tOf (eOp dNe (pE (eB1 lenO (pVar 0))) (pE (eB1 lenO (pVar 1)))))
    (sRet (eC (.bool false)))
    sNil)
    (sRet (eB1 allO (pE (eComp (fRg1 (pE (eB1 lenO (pVar 1)))) (gfN 4) tYesF (eZ (eCall Fs [none, none] [] (aCons (eIx (pVar 0) (pVar 4)) (aCons (eIx (pVar 1) (pVar 4)) aNil)))) [4])))))))
    sNil)
    (sSeq (sIf (tOf (eOp dIs (pVar 1) (pE (eC .none))))
    (sRet (eOp dIs (pVar 0) (pE (eC .none))))
    sNil)
    (sSeq (sIf (tOf (eOp dNe (pE (eIsi "bool" (pVar 1))) (pE (eIsi "bool" (pVar 0)))))
    (sRet (eC (.bool false)))
    sNil)
    (sRet (eAnd (eOp dEq (pE (eIsi "int" (pVar 0))) (pE (eIsi "int" (pVar 1)))) (eOp dEq (pVar 0) (pVar 1))))))))
def F__law_same : Nat → List O → FO
  | 0 => fun _ => .bad
  | n + 1 => runFn 5 [0, 1] (w__law_same (F__law_same n))
def w__law_next_row : FS := (sSeq (sSet 3 (eIx (pVar 1) (pE (eNeg (pE (eC (.int 1)))))))
    (sSeq (sSet 4 (eCatT (pE (eTup (aCons (eC (.int 0)) aNil))) (pE (eSl (pVar 1) nNo (nE (pE (eNeg (pE (eC (.int 1))))))))))
    (sRet (eTuple (pE (eComp (fRg1 (pE (eB1 lenO (pVar 1)))) (gfN 5) tYesF (eOp dMod (pE (eOp dAdd (pE (eIx (pVar 4) (pVar 5))) (pE (eOp dMul (pVar 3) (pE (eIx (pVar 2) (pVar 5))))))) (pVar 0)) [5]))))))
def F__law_next_row : List O → FO := runFn 6 [0, 1, 2] w__law_next_row
def w__law_table : FS := (sSeq (sSet 5 (eLst aNil))
    (sSeq (sFor [] (fRg1 (pVar 4)) (gfN 6)
    (sIf (tOf (eOp dEq (pVar 2) (pE (eC (.str "poly")))))
    (sSeq (sSet 7 (eTup (aCons (eC (.int 1)) aNil)))
    (sSeq (sFor [] (fRg1 (pE (eOp dSub (pVar 1) (pE (eC (.int 1)))))) (gfN 8)
    (sSet 7 (eCatT (pVar 7) (pE (eTup (aCons (eOp dMod (pE (eOp dMul (pE (eIx (pVar 7) (pE (eNeg (pE (eC (.int 1))))))) (pVar 6))) (pVar 0)) aNil))))))
    (sApp 5 (eVar 7))))
    (sIf (tOf (eOp dLt (pVar 6) (pVar 1)))
    (sApp 5 (eTuple (pE (eComp (fRg1 (pVar 1)) (gfN 8) tYesF (eB1 intO (pE (eOp dEq (pVar 8) (pVar 6)))) [8]))))
    (sApp 5 (eZ (eCall F__law_next_row [some 0, none, some 3] [] (aCons (eLend 0) (aCons (eIx (pVar 5) (pE (eNeg (pE (eC (.int 1)))))) (aCons (eLend 3) aNil)))))))))
    (sRet (eLend 5))))
def F__law_table : List O → FO := runFn 9 [0, 1, 2, 3, 4] w__law_table
def w_Spring_room : FS := (sSeq (sIf (tOf (eOp dEq (pE (eFld "Spring" "kind" 2 (pVar 0))) (pE (eC (.str "bare")))))
    (sRet (eFld "Spring" "size" 1 (pVar 0)))
    sNil)
    (sRet (eIf (tOf (eOp dEq (pE (eFld "Spring" "kind" 2 (pVar 0))) (pE (eC (.str "poly"))))) (eFld "Spring" "prime" 0 (pVar 0)) (eC (.int 1000000000000000000)))))
def F_Spring_room : List O → FO := runFn 1 [0] w_Spring_room
def w_unit : FS := (sRet (eTuple (pE (eComp (fRg1 (pVar 0)) (gfN 2) tYesF (eB1 intO (pE (eOp dEq (pVar 2) (pVar 1)))) [2]))))
def F_unit : List O → FO := runFn 3 [0, 1] w_unit
def w_poly_row : FS := (sSeq (sSet 3 (eLst (aCons (eC (.int 1)) aNil)))
    (sSeq (sFor [] (fRg1 (pE (eOp dSub (pVar 1) (pE (eC (.int 1)))))) (gfN 4)
    (sApp 3 (eOp dMod (pE (eOp dMul (pE (eIx (pVar 3) (pE (eNeg (pE (eC (.int 1))))))) (pVar 2))) (pVar 0))))
    (sRet (eTuple (pVar 3)))))
def F_poly_row : List O → FO := runFn 5 [0, 1, 2] w_poly_row
def w_shifted : FS := (sSeq (sSet 3 (eIx (pVar 1) (pE (eNeg (pE (eC (.int 1)))))))
    (sRet (eComp (fZipM (pE (eCat (pE (eLst (aCons (eC (.int 0)) aNil))) (pE (eList (pE (eSl (pVar 1) nNo (nE (pE (eNeg (pE (eC (.int 1)))))))))))) (pVar 2)) (gfT 2 (gsC (gfN 4) (gsC (gfN 5) gsN))) tYesF (eOp dMod (pE (eOp dAdd (pVar 4) (pE (eOp dMul (pVar 3) (pVar 5))))) (pVar 0)) [4, 5])))
def F_shifted : List O → FO := runFn 6 [0, 1, 2] w_shifted
def w_joined : FS := (sSeq (sSet 4 (eB1 lenO (pVar 3)))
    (sSeq (sSet 5 (eRep (pE (eLst (aCons (eC (.int 0)) aNil))) (pVar 4)))
    (sSeq (sSet 6 (eList (pVar 1)))
    (sSeq (sFor [2] (fSeq (pVar 2)) (gfN 7)
    (sSeq (sSet 5 (eComp (fZip (pVar 5) (pVar 6)) (gfT 2 (gsC (gfN 8) (gsC (gfN 9) gsN))) tYesF (eOp dMod (pE (eOp dAdd (pVar 8) (pE (eOp dMul (pVar 7) (pVar 9))))) (pVar 0)) [8, 9]))
    (sSet 6 (eCall F_shifted [some 0, some 6, some 3] [] (aCons (eLend 0) (aCons (eLend 6) (aCons (eLend 3) aNil)))))))
    (sRet (eLend 5))))))
def F_joined : List O → FO := runFn 10 [0, 1, 2, 3] w_joined
def w_rule_row : FS := (sSeq (sSet 3 (eB1 lenO (pVar 1)))
    (sSeq (sSet 4 (eList (pE (eCall F_unit [some 3, none] [] (aCons (eLend 3) (aCons (eC (.int 0)) aNil))))))
    (sSeq (sSet 5 (eIf (tOf (eOp dGt (pVar 3) (pE (eC (.int 1))))) (eList (pE (eCall F_unit [some 3, none] [] (aCons (eLend 3) (aCons (eC (.int 1)) aNil))))) (eLst (aCons (eIx (pVar 1) (pE (eC (.int 0)))) aNil))))
    (sSeq (sSet 6 (eVar 2))
    (sSeq (sWh (tOf (eOp dGt (pVar 6) (pE (eC (.int 0)))))
    (sSeq (sIf (tOf (eOp dEq (pE (eOp dMod (pVar 6) (pE (eC (.int 2))))) (pE (eC (.int 1)))))
    (sSet 4 (eCall F_joined [some 0, some 4, some 5, some 1] [] (aCons (eLend 0) (aCons (eLend 4) (aCons (eLend 5) (aCons (eLend 1) aNil))))))
    sNil)
    (sSeq (sSet 5 (eCall F_joined [some 0, none, none, some 1] [] (aCons (eLend 0) (aCons (eVar 5) (aCons (eVar 5) (aCons (eLend 1) aNil))))))
    (sAug 6 dDiv (pE (eC (.int 2)))))))
    (sRet (eTuple (pVar 4))))))))
def F_rule_row : List O → FO := runFn 7 [0, 1, 2] w_rule_row
def w_Spring_row : FS := (sSeq (sIf (tNotF (tOf (eChain dLe dLt (pE (eC (.int 0))) (pVar 1) (pE (eRO (eMeth "Spring" [("prime" : Str), ("size" : Str), ("kind" : Str), ("taps" : Str), ("known_rows" : Str)] F_Spring_room 0 [] [] aNil))))))
    (sRaise "NoPlace" mkD_NoPlace (aCons (eVar 1) aNil))
    sNil)
    (sSeq (sIf (tOf (eOp dEq (pE (eFld "Spring" "kind" 2 (pVar 0))) (pE (eC (.str "bare")))))
    (sRet (eCall F_unit [none, some 1] [] (aCons (eFld "Spring" "size" 1 (pVar 0)) (aCons (eLend 1) aNil))))
    sNil)
    (sSeq (sIf (tOf (eOp dEq (pE (eFld "Spring" "kind" 2 (pVar 0))) (pE (eC (.str "poly")))))
    (sRet (eCall F_poly_row [none, none, some 1] [] (aCons (eFld "Spring" "prime" 0 (pVar 0)) (aCons (eFld "Spring" "size" 1 (pVar 0)) (aCons (eLend 1) aNil)))))
    sNil)
    (sSeq (sIf (tRO (tOf (eOp (dInK not) (pVar 1) (pE (eFld "Spring" "known_rows" 4 (pVar 0))))))
    (sKxF "Spring" "known_rows" 0 4 1 (eRO (eCall F_rule_row [none, none, some 1] [] (aCons (eFld "Spring" "prime" 0 (pVar 0)) (aCons (eFld "Spring" "taps" 3 (pVar 0)) (aCons (eLend 1) aNil))))))
    sNil)
    (sRet (eRO (eKx (pE (eFld "Spring" "known_rows" 4 (pVar 0))) (pVar 1))))))))
def F_Spring_row : List O → FO := runFn 2 [0, 1] w_Spring_row
def w__law_mix : FS := (sSeq (sSet 4 (eRep (pE (eLst (aCons (eC (.int 0)) aNil))) (pVar 3)))
    (sSeq (sFor [] (fRg1 (pE (eB1 lenO (pVar 1)))) (gfN 5)
    (sSet 4 (eComp (fRg1 (pVar 3)) (gfN 6) tYesF (eOp dMod (pE (eOp dAdd (pE (eIx (pVar 4) (pVar 6))) (pE (eOp dMul (pE (eIx (pVar 2) (pVar 5))) (pE (eIx (pE (eIx (pVar 1) (pVar 5))) (pVar 6))))))) (pVar 0)) [6])))
    (sRet (eTuple (pVar 4)))))
def F__law_mix : List O → FO := runFn 7 [0, 1, 2, 3] w__law_mix
def w_Spring_need_seed : FS := (sIf (tOrF (tNotF (tOf (eCall F_is_row_of [none, some 1] [] (aCons (eFld "Spring" "prime" 0 (pVar 0)) (aCons (eLend 1) aNil))))) (tOf (eOp dNe (pE (eB1 lenO (pVar 1))) (pE (eFld "Spring" "size" 1 (pVar 0))))))
    (sRaise "BadSeed" mkD_BadSeed aNil)
    sNil)
def F_Spring_need_seed : List O → FO := runFn 2 [0, 1] w_Spring_need_seed
def w_dot : FS := (sRet (eOp dMod (pE (eB1 sumO (pE (eComp (fZip (pVar 1) (pVar 2)) (gfT 2 (gsC (gfN 3) (gsC (gfN 4) gsN))) tYesF (eOp dMul (pVar 3) (pVar 4)) [3, 4])))) (pVar 0)))
def F_dot : List O → FO := runFn 5 [0, 1, 2] w_dot
def w_Spring_cells : FS := (sSeq (sDrop (eRO (eMeth "Spring" [("prime" : Str), ("size" : Str), ("kind" : Str), ("taps" : Str), ("known_rows" : Str)] F_Spring_need_seed 0 [some 1] [] (aCons (eLend 1) aNil))))
    (sRet (eComp (fSeq (pVar 2)) (gfN 3) tYesF (eZ (eCall F_dot [none, none, some 1] [] (aCons (eFld "Spring" "prime" 0 (pVar 0)) (aCons (eMeth "Spring" [("prime" : Str), ("size" : Str), ("kind" : Str), ("taps" : Str), ("known_rows" : Str)] F_Spring_row 0 [some 3] [] (aCons (eLend 3) aNil)) (aCons (eLend 1) aNil))))) [3])))
def F_Spring_cells : List O → FO := runFn 4 [0, 1, 2] w_Spring_cells
def w__law_dot : FS := (sSeq (sSet 3 (eC (.int 0)))
    (sSeq (sFor [] (fRg1 (pE (eB1 lenO (pVar 1)))) (gfN 4)
    (sSet 3 (eOp dMod (pE (eOp dAdd (pVar 3) (pE (eOp dMul (pE (eIx (pVar 1) (pVar 4))) (pE (eIx (pVar 2) (pVar 4))))))) (pVar 0))))
    (sRet (eLend 3))))
def F__law_dot : List O → FO := runFn 5 [0, 1, 2] w__law_dot
def w_law : FS := (sSeq (sSet 1 (eCall F__law_bag [some 0] [] (aCons (eLend 0) aNil)))
    (sSeq (sSet 2 (eCall F__law_prime [some 1] [] (aCons (eLend 1) aNil)))
    (sSeq (sSet 3 (eOp dAdd (pE (eC (.int 1))) (pE (eCall F__law_pull [some 1, none] [] (aCons (eLend 1) (aCons (eC (.int 12)) aNil))))))
    (sSeq (sSet 4 (eCall F__law_pegs [some 1, some 2, some 3] [] (aCons (eLend 1) (aCons (eLend 2) (aCons (eLend 3) aNil)))))
    (sSeq (sSet 5 (eMake "Spring" (permF [0, 1, 2, 3, 4] [0, 1, 2, 3, 4] F_Spring___init__) ([some 2, some 3] ++ [none, some 4]) [] (aApp (aCons (eLend 2) (aCons (eLend 3) aNil)) (aCons (eC (.str "rule")) (aCons (eLend 4) aNil)))))
    (sSeq (sIf (tNotF (tOf (eCall (F__law_same 4) [none, none] [] (aCons (eComp (fRg1 (pE (eOp dAdd (pVar 3) (pE (eC (.int 3)))))) (gfN 12) tYesF (eZ (eMeth "Spring" [("prime" : Str), ("size" : Str), ("kind" : Str), ("taps" : Str), ("known_rows" : Str)] F_Spring_row 5 [some 12] [] (aCons (eLend 12) aNil))) [12]) (aCons (eCall F__law_table [some 2, some 3, none, some 4, none] [] (aCons (eLend 2) (aLate 3 (aCons (eC (.str "rule")) (aCons (eLend 4) (aCons (eOp dAdd (pVar 3) (pE (eC (.int 3)))) aNil)))))) aNil)))))
    (sRet (eC (.bool false)))
    sNil)
    (sSeq (sSet 6 (eIx (pE (eLst (aCons (eZ (eCall F__law_pull [some 1, none] [] (aCons (eLend 1) (aCons (eC (.int 100)) aNil)))) (aCons (eZ (eCall F__law_pull [some 1, none] [] (aCons (eLend 1) (aCons (eOp dPow (pE (eC (.int 10))) (pE (eC (.int 17)))) aNil)))) aNil)))) (pE (eCall F__law_pull [some 1, none] [] (aCons (eLend 1) (aCons (eC (.int 2)) aNil))))))
    (sSeq (sSet 7 (eCall F__law_pull [some 1, none] [] (aCons (eLend 1) (aCons (eOp dMul (pE (eC (.int 8))) (pE (eOp dPow (pE (eC (.int 10))) (pE (eC (.int 17)))))) aNil))))
    (sSeq (sSet 8 (eComp (fRg1 (pVar 3)) (gfN 12) tYesF (eZ (eMeth "Spring" [("prime" : Str), ("size" : Str), ("kind" : Str), ("taps" : Str), ("known_rows" : Str)] F_Spring_row 5 [none] [] (aCons (eOp dAdd (pVar 7) (pVar 12)) aNil))) [12]))
    (sSeq (sIf (tNotF (tOf (eCall (F__law_same 4) [none, none] [] (aCons (eMeth "Spring" [("prime" : Str), ("size" : Str), ("kind" : Str), ("taps" : Str), ("known_rows" : Str)] F_Spring_row 5 [none] [] (aCons (eOp dAdd (pVar 6) (pVar 7)) aNil)) (aCons (eCall F__law_mix [some 2, some 8, none, some 3] [] (aCons (eLend 2) (aCons (eLend 8) (aCons (eList (pE (eMeth "Spring" [("prime" : Str), ("size" : Str), ("kind" : Str), ("taps" : Str), ("known_rows" : Str)] F_Spring_row 5 [some 6] [] (aCons (eLend 6) aNil)))) (aCons (eLend 3) aNil))))) aNil)))))
    (sRet (eC (.bool false)))
    sNil)
    (sSeq (sSet 9 (eTuple (pE (eComp (fRg1 (pVar 3)) (gfN 12) tYesF (eZ (eCall F__law_pull [some 1, some 2] [] (aCons (eLend 1) (aCons (eLend 2) aNil)))) [12]))))
    (sSeq (sFor [] (fSeq (pE (eLst (aCons (eVar 7) (aCons (eOp dSub (pE (eOp dSub (pE (eOp dPow (pE (eC (.int 10))) (pE (eC (.int 18))))) (pE (eC (.int 1))))) (pVar 3)) (aCons (eVar 6) (aCons (eOp dAdd (pE (eOp dPow (pE (eC (.int 2))) (pE (eC (.int 59))))) (pE (eCall F__law_pull [some 1, none] [] (aCons (eLend 1) (aCons (eC (.int 1000)) aNil))))) aNil))))))) (gfN 10)
    (sSeq (sSet 11 (eMeth "Spring" [("prime" : Str), ("size" : Str), ("kind" : Str), ("taps" : Str), ("known_rows" : Str)] F_Spring_cells 5 [some 9, none] [] (aCons (eLend 9) (aCons (eComp (fRg1 (pE (eOp dAdd (pVar 3) (pE (eC (.int 1)))))) (gfN 12) tYesF (eOp dAdd (pVar 10) (pVar 12)) [12]) aNil))))
    (sSeq (sIf (tOrF (tOf (eOp dNe (pE (eB1 lenO (pVar 11))) (pE (eOp dAdd (pVar 3) (pE (eC (.int 1))))))) (tNotF (tOf (eCall (F__law_same 4) [none, none] [] (aCons (eIx (pVar 11) (pE (eNeg (pE (eC (.int 1)))))) (aCons (eCall F__law_dot [some 2, some 4, none] [] (aCons (eLend 2) (aCons (eLend 4) (aCons (eTuple (pE (eSl (pVar 11) nNo (nE (pE (eNeg (pE (eC (.int 1))))))))) aNil)))) aNil))))))
    (sRet (eC (.bool false)))
    sNil)
    (sIf (tNotF (tOf (eCall (F__law_same 4) [none, none] [] (aCons (eIx (pVar 11) (pE (eC (.int 0)))) (aCons (eCall F__law_dot [some 2, none, some 9] [] (aCons (eLend 2) (aCons (eMeth "Spring" [("prime" : Str), ("size" : Str), ("kind" : Str), ("taps" : Str), ("known_rows" : Str)] F_Spring_row 5 [some 10] [] (aCons (eLend 10) aNil)) (aCons (eLend 9) aNil)))) aNil)))))
    (sRet (eC (.bool false)))
    sNil))))
    (sRet (eC (.bool true)))))))))))))))
def F_law : List O → FO := runFn 13 [0] w_law
structure Tx (K : PySem.W.Frag) (mg : Str → Option Value) where
  fd__law_bag : FuncData
  fd__law_pull : FuncData
  fd__law_pick : FuncData
  fd__law_prime : FuncData
  fd__law_pegs : FuncData
  fd_need_prime : FuncData
  fd_is_whole : FuncData
  fd_is_within : FuncData
  fd_is_row_of : FuncData
  fd_need_kind : FuncData
  fd_Spring___init__ : FuncData
  fd__law_same : FuncData
  fd__law_next_row : FuncData
  fd__law_table : FuncData
  fd_Spring_room : FuncData
  fd_unit : FuncData
  fd_poly_row : FuncData
  fd_shifted : FuncData
  fd_joined : FuncData
  fd_rule_row : FuncData
  fd_Spring_row : FuncData
  fd__law_mix : FuncData
  fd_Spring_need_seed : FuncData
  fd_dot : FuncData
  fd_Spring_cells : FuncData
  fd__law_dot : FuncData
  fd_law : FuncData
  fi_LotError : FuncData
  fi_BadNumber : FuncData
  fi_BadPrime : FuncData
  fi_BadSpring : FuncData
  fi_NoPlace : FuncData
  fi_BadSeed : FuncData
  f__law_bag : FunD K "_law_bag" "_law_bag" (defArgs s__law_bag) (defBody s__law_bag) (defScope s__law_bag) [] [] (He.ga K "_law_bag") fd__law_bag
  m__law_bag : mg "_law_bag" = some (.ref (He.ga K "_law_bag"))
  f__law_pull : FunD K "_law_pull" "_law_pull" (defArgs s__law_pull) (defBody s__law_pull) (defScope s__law_pull) [] [] (He.ga K "_law_pull") fd__law_pull
  m__law_pull : mg "_law_pull" = some (.ref (He.ga K "_law_pull"))
  f__law_pick : FunD K "_law_pick" "_law_pick" (defArgs s__law_pick) (defBody s__law_pick) (defScope s__law_pick) [] [] (He.ga K "_law_pick") fd__law_pick
  m__law_pick : mg "_law_pick" = some (.ref (He.ga K "_law_pick"))
  f__law_prime : FunD K "_law_prime" "_law_prime" (defArgs s__law_prime) (defBody s__law_prime) (defScope s__law_prime) [] [] (He.ga K "_law_prime") fd__law_prime
  m__law_prime : mg "_law_prime" = some (.ref (He.ga K "_law_prime"))
  f__law_pegs : FunD K "_law_pegs" "_law_pegs" (defArgs s__law_pegs) (defBody s__law_pegs) (defScope s__law_pegs) [] [] (He.ga K "_law_pegs") fd__law_pegs
  m__law_pegs : mg "_law_pegs" = some (.ref (He.ga K "_law_pegs"))
  f_need_prime : FunD K "need_prime" "need_prime" (defArgs s_need_prime) (defBody s_need_prime) (defScope s_need_prime) [] [] (He.ga K "need_prime") fd_need_prime
  m_need_prime : mg "need_prime" = some (.ref (He.ga K "need_prime"))
  f_is_whole : FunD K "is_whole" "is_whole" (defArgs s_is_whole) (defBody s_is_whole) (defScope s_is_whole) [] [] (He.ga K "is_whole") fd_is_whole
  m_is_whole : mg "is_whole" = some (.ref (He.ga K "is_whole"))
  f_is_within : FunD K "is_within" "is_within" (defArgs s_is_within) (defBody s_is_within) (defScope s_is_within) [] [] (He.ga K "is_within") fd_is_within
  m_is_within : mg "is_within" = some (.ref (He.ga K "is_within"))
  f_is_row_of : FunD K "is_row_of" "is_row_of" (defArgs s_is_row_of) (defBody s_is_row_of) (defScope s_is_row_of) [] [] (He.ga K "is_row_of") fd_is_row_of
  m_is_row_of : mg "is_row_of" = some (.ref (He.ga K "is_row_of"))
  f_need_kind : FunD K "need_kind" "need_kind" (defArgs s_need_kind) (defBody s_need_kind) (defScope s_need_kind) [] [] (He.ga K "need_kind") fd_need_kind
  m_need_kind : mg "need_kind" = some (.ref (He.ga K "need_kind"))
  f_Spring___init__ : FunD K "__init__" "Spring.__init__" (defArgs s_Spring___init__) (defBody s_Spring___init__) (defScope s_Spring___init__) [] [("kind", .str "bare"), ("taps", .non)] (He.ma K (He.ga K "Spring") "__init__") fd_Spring___init__
  f__law_same : FunD K "_law_same" "_law_same" (defArgs s__law_same) (defBody s__law_same) (defScope s__law_same) [] [] (He.ga K "_law_same") fd__law_same
  m__law_same : mg "_law_same" = some (.ref (He.ga K "_law_same"))
  f__law_next_row : FunD K "_law_next_row" "_law_next_row" (defArgs s__law_next_row) (defBody s__law_next_row) (defScope s__law_next_row) [] [] (He.ga K "_law_next_row") fd__law_next_row
  m__law_next_row : mg "_law_next_row" = some (.ref (He.ga K "_law_next_row"))
  f__law_table : FunD K "_law_table" "_law_table" (defArgs s__law_table) (defBody s__law_table) (defScope s__law_table) [] [] (He.ga K "_law_table") fd__law_table
  m__law_table : mg "_law_table" = some (.ref (He.ga K "_law_table"))
  f_Spring_room : FunD K "room" "Spring.room" (defArgs s_Spring_room) (defBody s_Spring_room) (defScope s_Spring_room) [] [] (He.ma K (He.ga K "Spring") "room") fd_Spring_room
  f_unit : FunD K "unit" "unit" (defArgs s_unit) (defBody s_unit) (defScope s_unit) [] [] (He.ga K "unit") fd_unit
  m_unit : mg "unit" = some (.ref (He.ga K "unit"))
  f_poly_row : FunD K "poly_row" "poly_row" (defArgs s_poly_row) (defBody s_poly_row) (defScope s_poly_row) [] [] (He.ga K "poly_row") fd_poly_row
  m_poly_row : mg "poly_row" = some (.ref (He.ga K "poly_row"))
  f_shifted : FunD K "shifted" "shifted" (defArgs s_shifted) (defBody s_shifted) (defScope s_shifted) [] [] (He.ga K "shifted") fd_shifted
  m_shifted : mg "shifted" = some (.ref (He.ga K "shifted"))
  f_joined : FunD K "joined" "joined" (defArgs s_joined) (defBody s_joined) (defScope s_joined) [] [] (He.ga K "joined") fd_joined
  m_joined : mg "joined" = some (.ref (He.ga K "joined"))
  f_rule_row : FunD K "rule_row" "rule_row" (defArgs s_rule_row) (defBody s_rule_row) (defScope s_rule_row) [] [] (He.ga K "rule_row") fd_rule_row
  m_rule_row : mg "rule_row" = some (.ref (He.ga K "rule_row"))
  f_Spring_row : FunD K "row" "Spring.row" (defArgs s_Spring_row) (defBody s_Spring_row) (defScope s_Spring_row) [] [] (He.ma K (He.ga K "Spring") "row") fd_Spring_row
  f__law_mix : FunD K "_law_mix" "_law_mix" (defArgs s__law_mix) (defBody s__law_mix) (defScope s__law_mix) [] [] (He.ga K "_law_mix") fd__law_mix
  m__law_mix : mg "_law_mix" = some (.ref (He.ga K "_law_mix"))
  f_Spring_need_seed : FunD K "need_seed" "Spring.need_seed" (defArgs s_Spring_need_seed) (defBody s_Spring_need_seed) (defScope s_Spring_need_seed) [] [] (He.ma K (He.ga K "Spring") "need_seed") fd_Spring_need_seed
  f_dot : FunD K "dot" "dot" (defArgs s_dot) (defBody s_dot) (defScope s_dot) [] [] (He.ga K "dot") fd_dot
  m_dot : mg "dot" = some (.ref (He.ga K "dot"))
  f_Spring_cells : FunD K "cells" "Spring.cells" (defArgs s_Spring_cells) (defBody s_Spring_cells) (defScope s_Spring_cells) [] [] (He.ma K (He.ga K "Spring") "cells") fd_Spring_cells
  f__law_dot : FunD K "_law_dot" "_law_dot" (defArgs s__law_dot) (defBody s__law_dot) (defScope s__law_dot) [] [] (He.ga K "_law_dot") fd__law_dot
  m__law_dot : mg "_law_dot" = some (.ref (He.ga K "_law_dot"))
  f_law : FunD K "law" "law" (defArgs s_law) (defBody s_law) (defScope s_law) [] [] (He.ga K "law") fd_law
  m_law : mg "law" = some (.ref (He.ga K "law"))
  m_Spring : mg "Spring" = some (.ref (He.ga K "Spring"))
  cl_Spring : Cls K (He.ga K "Spring")
  mk_Spring : Mk K (He.ga K "Spring") (He.ma K (He.ga K "Spring") "__init__")
  mt_Spring_cells : Meth K (He.ga K "Spring") "cells" (He.ma K (He.ga K "Spring") "cells")
  mt_Spring_need_seed : Meth K (He.ga K "Spring") "need_seed" (He.ma K (He.ga K "Spring") "need_seed")
  mt_Spring_room : Meth K (He.ga K "Spring") "room" (He.ma K (He.ga K "Spring") "room")
  mt_Spring_row : Meth K (He.ga K "Spring") "row" (He.ma K (He.ga K "Spring") "row")
  cf_Spring_kind : ClF K "Spring" "kind"
  cf_Spring_known_rows : ClF K "Spring" "known_rows"
  cf_Spring_prime : ClF K "Spring" "prime"
  cf_Spring_size : ClF K "Spring" "size"
  cf_Spring_taps : ClF K "Spring" "taps"
  fI_LotError : FunD K "__init__" "LotError.__init__" (defArgs i_LotError) (defBody i_LotError) (defScope i_LotError) [] [] (initA K "LotError") fi_LotError
  m_LotError : mg "LotError" = some (.ref (He.ga K "LotError"))
  ox_LotError : OX K (He.ga K "LotError") "ValueError.__new__" tlV
  oi_LotError : OI K (He.ga K "LotError") (initA K "LotError")
  in_LotError : PySem.W.findIn K (.ref (He.ga K "LotError")) "__init__" = some (some (.ref (initA K "LotError"))) ∧ PySem.W.typeIn K (.ref (initA K "LotError")) = some (.type "function") ∧ ∀ f ∈ [("word" : Str)], PySem.W.findIn K (.ref (He.ga K "LotError")) f = some none
  fI_BadNumber : FunD K "__init__" "BadNumber.__init__" (defArgs i_BadNumber) (defBody i_BadNumber) (defScope i_BadNumber) [] [] (initA K "BadNumber") fi_BadNumber
  m_BadNumber : mg "BadNumber" = some (.ref (He.ga K "BadNumber"))
  ox_BadNumber : OX K (He.ga K "BadNumber") "ValueError.__new__" tlV
  oi_BadNumber : OI K (He.ga K "BadNumber") (initA K "BadNumber")
  in_BadNumber : PySem.W.findIn K (.ref (He.ga K "BadNumber")) "__init__" = some (some (.ref (initA K "BadNumber"))) ∧ PySem.W.typeIn K (.ref (initA K "BadNumber")) = some (.type "function") ∧ ∀ f ∈ [("word" : Str)], PySem.W.findIn K (.ref (He.ga K "BadNumber")) f = some none
  fI_BadPrime : FunD K "__init__" "BadPrime.__init__" (defArgs i_BadPrime) (defBody i_BadPrime) (defScope i_BadPrime) [] [] (initA K "BadPrime") fi_BadPrime
  m_BadPrime : mg "BadPrime" = some (.ref (He.ga K "BadPrime"))
  ox_BadPrime : OX K (He.ga K "BadPrime") "ValueError.__new__" tlV
  oi_BadPrime : OI K (He.ga K "BadPrime") (initA K "BadPrime")
  in_BadPrime : PySem.W.findIn K (.ref (He.ga K "BadPrime")) "__init__" = some (some (.ref (initA K "BadPrime"))) ∧ PySem.W.typeIn K (.ref (initA K "BadPrime")) = some (.type "function") ∧ ∀ f ∈ [("word" : Str)], PySem.W.findIn K (.ref (He.ga K "BadPrime")) f = some none
  fI_BadSpring : FunD K "__init__" "BadSpring.__init__" (defArgs i_BadSpring) (defBody i_BadSpring) (defScope i_BadSpring) [] [] (initA K "BadSpring") fi_BadSpring
  m_BadSpring : mg "BadSpring" = some (.ref (He.ga K "BadSpring"))
  ox_BadSpring : OX K (He.ga K "BadSpring") "ValueError.__new__" tlV
  oi_BadSpring : OI K (He.ga K "BadSpring") (initA K "BadSpring")
  in_BadSpring : PySem.W.findIn K (.ref (He.ga K "BadSpring")) "__init__" = some (some (.ref (initA K "BadSpring"))) ∧ PySem.W.typeIn K (.ref (initA K "BadSpring")) = some (.type "function") ∧ ∀ f ∈ [("word" : Str)], PySem.W.findIn K (.ref (He.ga K "BadSpring")) f = some none
  fI_NoPlace : FunD K "__init__" "NoPlace.__init__" (defArgs i_NoPlace) (defBody i_NoPlace) (defScope i_NoPlace) [] [] (initA K "NoPlace") fi_NoPlace
  m_NoPlace : mg "NoPlace" = some (.ref (He.ga K "NoPlace"))
  ox_NoPlace : OX K (He.ga K "NoPlace") "IndexError.__new__" tlI
  oi_NoPlace : OI K (He.ga K "NoPlace") (initA K "NoPlace")
  in_NoPlace : PySem.W.findIn K (.ref (He.ga K "NoPlace")) "__init__" = some (some (.ref (initA K "NoPlace"))) ∧ PySem.W.typeIn K (.ref (initA K "NoPlace")) = some (.type "function") ∧ ∀ f ∈ [("where" : Str), ("word" : Str)], PySem.W.findIn K (.ref (He.ga K "NoPlace")) f = some none
  fI_BadSeed : FunD K "__init__" "BadSeed.__init__" (defArgs i_BadSeed) (defBody i_BadSeed) (defScope i_BadSeed) [] [] (initA K "BadSeed") fi_BadSeed
  m_BadSeed : mg "BadSeed" = some (.ref (He.ga K "BadSeed"))
  ox_BadSeed : OX K (He.ga K "BadSeed") "ValueError.__new__" tlV
  oi_BadSeed : OI K (He.ga K "BadSeed") (initA K "BadSeed")
  in_BadSeed : PySem.W.findIn K (.ref (He.ga K "BadSeed")) "__init__" = some (some (.ref (initA K "BadSeed"))) ∧ PySem.W.typeIn K (.ref (initA K "BadSeed")) = some (.type "function") ∧ ∀ f ∈ [("word" : Str)], PySem.W.findIn K (.ref (He.ga K "BadSeed")) f = some none
  n_IndexError : mg "IndexError" = none
  n_ValueError : mg "ValueError" = none
  n_all : mg "all" = none
  n_bool : mg "bool" = none
  n_dict : mg "dict" = none
  n_int : mg "int" = none
  n_isinstance : mg "isinstance" = none
  n_len : mg "len" = none
  n_list : mg "list" = none
  n_range : mg "range" = none
  n_sum : mg "sum" = none
  n_tuple : mg "tuple" = none
  n_zip : mg "zip" = none
  m_KINDS : mg "KINDS" = some (.ref (He.ga K "KINDS"))
  c_KINDS : ∀ (tb : Tb) (S : Hp), @Ls.Dp tb K S (.ref (He.ga K "KINDS")) d_KINDS
  c_MOST_PLACES : ∃ t, mg "MOST_PLACES" = some (.int 1000000000000000000 t)
  c_MOST_SIZE : ∃ t, mg "MOST_SIZE" = some (.int 12 t)
  m_PRIMES : mg "PRIMES" = some (.ref (He.ga K "PRIMES"))
  c_PRIMES : ∀ (tb : Tb) (S : Hp), @Ls.Dp tb K S (.ref (He.ga K "PRIMES")) d_PRIMES
section
variable {P : Program} {w : World} {K : PySem.W.Frag} {mg : Str → Option Value} {base : Heap} [Tb] [Vw]
theorem sci_LotError : FnScope Ni_LotError ["self", "word"] (defScope i_LotError) := ⟨rfl, rfl, rfl, by decide +kernel, rfl, by decide +kernel, by decide +kernel⟩
theorem bi_LotError (T : Tx K mg) : Binds K T.fi_LotError ["self", "word"] [] := T.fI_LotError.bindsN fun _ _ _ _ _ _ us hl => match us, hl with | [_, _], _ => rfl
theorem ini_LotError (T : Tx K mg) : FnOk P w K mg base (L2.CX P w) 1 (initA K "LotError") T.fi_LotError ["self", "word"] (iSp K "ValueError.__new__" tlV 1 mk_LotError) :=
  ok_bi (k := 0) T.fI_LotError sci_LotError baseV rfl (fun a ws fs h => match ws, h with | [w0], h => ⟨_, _, _, rfl, Nat.le_of_ble_eq_true rfl, rfl, rfl, (Option.some.inj h).symm⟩) fun cdv A outer s H E => ⟨_, _, _, _, _, _, _, _, _, _, _, rfl, bI baseV rfl (vvV _) T.n_ValueError baseV.boot (va_cons (vv_var 0) (va_cons (vv_var 1) va_nil)), rfl, vv_var 0, (vv_var 1), rfl, ao_nil⟩
theorem hfs_LotError (T : Tx K mg) : ∀ ws fs, mk_LotError ws = some fs → ws.length = 1 ∧ fs.length ≤ 100 ∧ ∀ p ∈ fs, PySem.W.findIn K (.ref (He.ga K "LotError")) p.1 = some none := fun ws fs h => match ws, h with
  | [w0], h => by
    cases h
    refine ⟨rfl, Nat.le_of_ble_eq_true rfl, fun p hp => ?_⟩
    simp only [List.mem_cons, List.not_mem_nil, or_false] at hp
    rcases hp with rfl <;> exact T.in_LotError.2.2 _ (by simp)
theorem sci_BadNumber : FnScope Ni_BadNumber ["self"] (defScope i_BadNumber) := ⟨rfl, rfl, rfl, by decide +kernel, rfl, by decide +kernel, by decide +kernel⟩
theorem bi_BadNumber (T : Tx K mg) : Binds K T.fi_BadNumber ["self"] [] := T.fI_BadNumber.bindsN fun _ _ _ _ _ _ us hl => match us, hl with | [_], _ => rfl
theorem ini_BadNumber (T : Tx K mg) : FnOk P w K mg base (L2.CX P w) 2 (initA K "BadNumber") T.fi_BadNumber ["self"] (iSp K "ValueError.__new__" tlV 0 mk_BadNumber) :=
  ok_oi (k := 1) T.fI_BadNumber sci_BadNumber rfl (fun a ws fs h => match ws, h with | [], h => ⟨_, _, _, rfl, rfl, rfl, rfl, (Option.some.inj h).symm⟩) fun cdv A outer s H E hr => ⟨_, _, _, rfl, oI T.oi_LotError (ini_LotError T) hr (takes_of rfl rfl rfl rfl) T.m_LotError (bi_LotError T) (va_cons (vv_var 0) (va_cons vv_str va_nil)), rfl, ao_nil⟩
theorem hfs_BadNumber (T : Tx K mg) : ∀ ws fs, mk_BadNumber ws = some fs → ws.length = 0 ∧ fs.length ≤ 100 ∧ ∀ p ∈ fs, PySem.W.findIn K (.ref (He.ga K "BadNumber")) p.1 = some none := fun ws fs h => match ws, h with
  | [], h => by
    cases h
    refine ⟨rfl, Nat.le_of_ble_eq_true rfl, fun p hp => ?_⟩
    simp only [List.mem_cons, List.not_mem_nil, or_false] at hp
    rcases hp with rfl <;> exact T.in_BadNumber.2.2 _ (by simp)
theorem rx_BadNumber (T : Tx K mg) {X : Cx} (hr : Room 3 X.A) (e1 : X.K = K := by rfl) (e2 : X.mg = mg := by rfl) : RX X (L2.CX X.prog X.w) (He.ga X.K "BadNumber") mk_BadNumber := by
  subst e1; subst e2
  exact ⟨_, _, _, _, _, _, _, _, _, baseV, T.ox_BadNumber, T.in_BadNumber.1, T.in_BadNumber.2.1, ini_BadNumber T, hr, bi_BadNumber T, hfs_BadNumber T⟩
theorem sci_BadPrime : FnScope Ni_BadPrime ["self"] (defScope i_BadPrime) := ⟨rfl, rfl, rfl, by decide +kernel, rfl, by decide +kernel, by decide +kernel⟩
theorem bi_BadPrime (T : Tx K mg) : Binds K T.fi_BadPrime ["self"] [] := T.fI_BadPrime.bindsN fun _ _ _ _ _ _ us hl => match us, hl with | [_], _ => rfl
theorem ini_BadPrime (T : Tx K mg) : FnOk P w K mg base (L2.CX P w) 2 (initA K "BadPrime") T.fi_BadPrime ["self"] (iSp K "ValueError.__new__" tlV 0 mk_BadPrime) :=
  ok_oi (k := 1) T.fI_BadPrime sci_BadPrime rfl (fun a ws fs h => match ws, h with | [], h => ⟨_, _, _, rfl, rfl, rfl, rfl, (Option.some.inj h).symm⟩) fun cdv A outer s H E hr => ⟨_, _, _, rfl, oI T.oi_LotError (ini_LotError T) hr (takes_of rfl rfl rfl rfl) T.m_LotError (bi_LotError T) (va_cons (vv_var 0) (va_cons vv_str va_nil)), rfl, ao_nil⟩
theorem hfs_BadPrime (T : Tx K mg) : ∀ ws fs, mk_BadPrime ws = some fs → ws.length = 0 ∧ fs.length ≤ 100 ∧ ∀ p ∈ fs, PySem.W.findIn K (.ref (He.ga K "BadPrime")) p.1 = some none := fun ws fs h => match ws, h with
  | [], h => by
    cases h
    refine ⟨rfl, Nat.le_of_ble_eq_true rfl, fun p hp => ?_⟩
    simp only [List.mem_cons, List.not_mem_nil, or_false] at hp
    rcases hp with rfl <;> exact T.in_BadPrime.2.2 _ (by simp)
theorem rx_BadPrime (T : Tx K mg) {X : Cx} (hr : Room 3 X.A) (e1 : X.K = K := by rfl) (e2 : X.mg = mg := by rfl) : RX X (L2.CX X.prog X.w) (He.ga X.K "BadPrime") mk_BadPrime := by
  subst e1; subst e2
  exact ⟨_, _, _, _, _, _, _, _, _, baseV, T.ox_BadPrime, T.in_BadPrime.1, T.in_BadPrime.2.1, ini_BadPrime T, hr, bi_BadPrime T, hfs_BadPrime T⟩
theorem sci_BadSpring : FnScope Ni_BadSpring ["self"] (defScope i_BadSpring) := ⟨rfl, rfl, rfl, by decide +kernel, rfl, by decide +kernel, by decide +kernel⟩
theorem bi_BadSpring (T : Tx K mg) : Binds K T.fi_BadSpring ["self"] [] := T.fI_BadSpring.bindsN fun _ _ _ _ _ _ us hl => match us, hl with | [_], _ => rfl
theorem ini_BadSpring (T : Tx K mg) : FnOk P w K mg base (L2.CX P w) 2 (initA K "BadSpring") T.fi_BadSpring ["self"] (iSp K "ValueError.__new__" tlV 0 mk_BadSpring) :=
  ok_oi (k := 1) T.fI_BadSpring sci_BadSpring rfl (fun a ws fs h => match ws, h with | [], h => ⟨_, _, _, rfl, rfl, rfl, rfl, (Option.some.inj h).symm⟩) fun cdv A outer s H E hr => ⟨_, _, _, rfl, oI T.oi_LotError (ini_LotError T) hr (takes_of rfl rfl rfl rfl) T.m_LotError (bi_LotError T) (va_cons (vv_var 0) (va_cons vv_str va_nil)), rfl, ao_nil⟩
theorem hfs_BadSpring (T : Tx K mg) : ∀ ws fs, mk_BadSpring ws = some fs → ws.length = 0 ∧ fs.length ≤ 100 ∧ ∀ p ∈ fs, PySem.W.findIn K (.ref (He.ga K "BadSpring")) p.1 = some none := fun ws fs h => match ws, h with
  | [], h => by
    cases h
    refine ⟨rfl, Nat.le_of_ble_eq_true rfl, fun p hp => ?_⟩
    simp only [List.mem_cons, List.not_mem_nil, or_false] at hp
    rcases hp with rfl <;> exact T.in_BadSpring.2.2 _ (by simp)
theorem rx_BadSpring (T : Tx K mg) {X : Cx} (hr : Room 3 X.A) (e1 : X.K = K := by rfl) (e2 : X.mg = mg := by rfl) : RX X (L2.CX X.prog X.w) (He.ga X.K "BadSpring") mk_BadSpring := by
  subst e1; subst e2
  exact ⟨_, _, _, _, _, _, _, _, _, baseV, T.ox_BadSpring, T.in_BadSpring.1, T.in_BadSpring.2.1, ini_BadSpring T, hr, bi_BadSpring T, hfs_BadSpring T⟩
theorem sci_NoPlace : FnScope Ni_NoPlace ["self", "where"] (defScope i_NoPlace) := ⟨rfl, rfl, rfl, by decide +kernel, rfl, by decide +kernel, by decide +kernel⟩
theorem bi_NoPlace (T : Tx K mg) : Binds K T.fi_NoPlace ["self", "where"] [] := T.fI_NoPlace.bindsN fun _ _ _ _ _ _ us hl => match us, hl with | [_, _], _ => rfl
theorem ini_NoPlace (T : Tx K mg) : FnOk P w K mg base (L2.CX P w) 1 (initA K "NoPlace") T.fi_NoPlace ["self", "where"] (iSp K "IndexError.__new__" tlI 1 mk_NoPlace) :=
  ok_bi (k := 0) T.fI_NoPlace sci_NoPlace baseI rfl (fun a ws fs h => match ws, h with | [w0], h => ⟨_, _, _, rfl, Nat.le_of_ble_eq_true rfl, rfl, rfl, (Option.some.inj h).symm⟩) fun cdv A outer s H E => ⟨_, _, _, _, _, _, _, _, _, _, _, rfl, bI baseI rfl (vvI _) T.n_IndexError baseI.boot (va_cons (vv_var 0) (va_cons vv_str va_nil)), rfl, vv_var 0, vv_str, rfl, (ao_cons baseI (vv_var 0) (vv_var 1) ao_nil)⟩
theorem hfs_NoPlace (T : Tx K mg) : ∀ ws fs, mk_NoPlace ws = some fs → ws.length = 1 ∧ fs.length ≤ 100 ∧ ∀ p ∈ fs, PySem.W.findIn K (.ref (He.ga K "NoPlace")) p.1 = some none := fun ws fs h => match ws, h with
  | [w0], h => by
    cases h
    refine ⟨rfl, Nat.le_of_ble_eq_true rfl, fun p hp => ?_⟩
    simp only [List.mem_cons, List.not_mem_nil, or_false] at hp
    rcases hp with rfl | rfl <;> exact T.in_NoPlace.2.2 _ (by simp)
theorem rx_NoPlace (T : Tx K mg) {X : Cx} (hr : Room 2 X.A) (e1 : X.K = K := by rfl) (e2 : X.mg = mg := by rfl) : RX X (L2.CX X.prog X.w) (He.ga X.K "NoPlace") mk_NoPlace := by
  subst e1; subst e2
  exact ⟨_, _, _, _, _, _, _, _, _, baseI, T.ox_NoPlace, T.in_NoPlace.1, T.in_NoPlace.2.1, ini_NoPlace T, hr, bi_NoPlace T, hfs_NoPlace T⟩
theorem sci_BadSeed : FnScope Ni_BadSeed ["self"] (defScope i_BadSeed) := ⟨rfl, rfl, rfl, by decide +kernel, rfl, by decide +kernel, by decide +kernel⟩
theorem bi_BadSeed (T : Tx K mg) : Binds K T.fi_BadSeed ["self"] [] := T.fI_BadSeed.bindsN fun _ _ _ _ _ _ us hl => match us, hl with | [_], _ => rfl
theorem ini_BadSeed (T : Tx K mg) : FnOk P w K mg base (L2.CX P w) 2 (initA K "BadSeed") T.fi_BadSeed ["self"] (iSp K "ValueError.__new__" tlV 0 mk_BadSeed) :=
  ok_oi (k := 1) T.fI_BadSeed sci_BadSeed rfl (fun a ws fs h => match ws, h with | [], h => ⟨_, _, _, rfl, rfl, rfl, rfl, (Option.some.inj h).symm⟩) fun cdv A outer s H E hr => ⟨_, _, _, rfl, oI T.oi_LotError (ini_LotError T) hr (takes_of rfl rfl rfl rfl) T.m_LotError (bi_LotError T) (va_cons (vv_var 0) (va_cons vv_str va_nil)), rfl, ao_nil⟩
theorem hfs_BadSeed (T : Tx K mg) : ∀ ws fs, mk_BadSeed ws = some fs → ws.length = 0 ∧ fs.length ≤ 100 ∧ ∀ p ∈ fs, PySem.W.findIn K (.ref (He.ga K "BadSeed")) p.1 = some none := fun ws fs h => match ws, h with
  | [], h => by
    cases h
    refine ⟨rfl, Nat.le_of_ble_eq_true rfl, fun p hp => ?_⟩
    simp only [List.mem_cons, List.not_mem_nil, or_false] at hp
    rcases hp with rfl <;> exact T.in_BadSeed.2.2 _ (by simp)
theorem rx_BadSeed (T : Tx K mg) {X : Cx} (hr : Room 3 X.A) (e1 : X.K = K := by rfl) (e2 : X.mg = mg := by rfl) : RX X (L2.CX X.prog X.w) (He.ga X.K "BadSeed") mk_BadSeed := by
  subst e1; subst e2
  exact ⟨_, _, _, _, _, _, _, _, _, baseV, T.ox_BadSeed, T.in_BadSeed.1, T.in_BadSeed.2.1, ini_BadSeed T, hr, bi_BadSeed T, hfs_BadSeed T⟩
theorem sc__law_bag : FnScope N__law_bag ["_law_script"] (defScope s__law_bag) := ⟨rfl, rfl, rfl, by decide +kernel, rfl, by decide +kernel, by decide +kernel⟩
theorem b__law_bag (T : Tx K mg) : Binds K T.fd__law_bag ["_law_script"] [] := T.f__law_bag.bindsN fun _ _ _ _ _ _ us hl => match us, hl with | [_], _ => rfl
theorem ok__law_bag (T : Tx K mg) : FnOk P Tb.w K mg base (L2.CX P Tb.w) 1 (He.ga K "_law_bag") T.fd__law_bag ["_law_script"] (spOf K 1 F__law_bag) :=
  mkFn (k := 0) T.f__law_bag sc__law_bag (by decide) fun cdv A outer s H E hr => show BV _ _ _ _ w__law_bag from
      (bv_one (sv_ret (ev_lst (av_cons (ev_z (ev_list (by rfl) T.n_list (pv_e (ev_sl (pv_var 0) nv_no (nv_e (pv_e ev_int)))))) (av_cons ev_int (av_cons ev_int (av_cons ev_int av_nil)))))))
theorem sc__law_pull : FnScope N__law_pull ["_law_bag_here", "_law_many"] (defScope s__law_pull) := ⟨rfl, rfl, rfl, by decide +kernel, rfl, by decide +kernel, by decide +kernel⟩
theorem b__law_pull (T : Tx K mg) : Binds K T.fd__law_pull ["_law_bag_here", "_law_many"] [] := T.f__law_pull.bindsN fun _ _ _ _ _ _ us hl => match us, hl with | [_, _], _ => rfl
theorem ok__law_pull (T : Tx K mg) : FnOk P Tb.w K mg base (L2.CX P Tb.w) 1 (He.ga K "_law_pull") T.fd__law_pull ["_law_bag_here", "_law_many"] (spOf K 2 F__law_pull) :=
  mkFn (k := 0) T.f__law_pull sc__law_pull (by decide) fun cdv A outer s H E hr => show BV _ _ _ _ w__law_pull from
      (bv_cons (sv_if (tv_w (wv_and (tv_cmp (op_eqD hr.units) opS_eq (pv_e (ev_ix (pv_var 0) (pv_e ev_int))) (pv_e ev_int) (nomark _)) (wv_and1 (tv_cmp op_lt opS_lt (pv_e (ev_ix (pv_var 0) (pv_e ev_int))) (pv_e (ev_len (by rfl) T.n_len (pv_e (ev_ix (pv_var 0) (pv_e ev_int))))) (nomark _)))))
      (bv_cons (sv_set 2 sc__law_pull.nd (ev_ix (pv_e (ev_ix (pv_var 0) (pv_e ev_int))) (pv_e (ev_ix (pv_var 0) (pv_e ev_int)))))
      (bv_cons (sv_ix 0 (ev_add (pv_e (ev_ix (pv_var 0) (pv_e ev_int))) (pv_e ev_int)) (pv_e ev_int))
      (bv_one (sv_if (tv_cmp op_ge opS_ge (pv_var 2) (pv_e (ev_pow (pv_e ev_int) (pv_e ev_int))) (nomark _))
      (bv_one (sv_ix 0 (ev_var 2) (pv_e ev_int)))
      (bv_cons (sv_set 3 sc__law_pull.nd (ev_add (pv_e (ev_add (pv_e (ev_mul (pv_e (ev_ix (pv_var 0) (pv_e ev_int))) (pv_e ev_int))) (pv_e (ev_mul (pv_e (ev_mod (pv_var 2) (pv_e ev_int))) (pv_e ev_int))))) (pv_e ev_int)))
      (bv_one (sv_ix 0 (ev_mod (pv_var 3) (pv_e ev_int)) (pv_e ev_int))))))))
      bv_nil)
      (bv_cons (sv_if (tv_cmp op_gt opS_gt (pv_e (ev_ix (pv_var 0) (pv_e ev_int))) (pv_e ev_int) (nomark _))
      (bv_cons (sv_set 4 sc__law_pull.nd (ev_mod (pv_e (ev_ix (pv_var 0) (pv_e ev_int))) (pv_var 1)))
      (bv_cons (sv_ix 0 (ev_div (pv_e (ev_ix (pv_var 0) (pv_e ev_int))) (pv_var 1)) (pv_e ev_int))
      (bv_one (sv_ret (ev_move 4)))))
      bv_nil)
      (bv_cons (sv_set 3 sc__law_pull.nd (ev_add (pv_e (ev_mul (pv_e (ev_mod (pv_e (ev_mul (pv_e (ev_ix (pv_var 0) (pv_e ev_int))) (pv_e (ev_ix (pv_var 0) (pv_e ev_int))))) (pv_e ev_int))) (pv_e ev_int))) (pv_e (ev_mul (pv_e (ev_ix (pv_var 0) (pv_e ev_int))) (pv_e ev_int)))))
      (bv_cons (sv_ix 0 (ev_mod (pv_e (ev_add (pv_var 3) (pv_e ev_int))) (pv_e ev_int)) (pv_e ev_int))
      (bv_one (sv_ret (ev_mod (pv_e (ev_add (pv_e (ev_div (pv_e (ev_ix (pv_var 0) (pv_e ev_int))) (pv_e ev_int))) (pv_e (ev_mul (pv_e (ev_mod (pv_e (ev_ix (pv_var 0) (pv_e ev_int))) (pv_e ev_int))) (pv_e ev_int))))) (pv_var 1))))))))
theorem sc__law_pick : FnScope N__law_pick ["_law_bag_here", "_law_some"] (defScope s__law_pick) := ⟨rfl, rfl, rfl, by decide +kernel, rfl, by decide +kernel, by decide +kernel⟩
theorem b__law_pick (T : Tx K mg) : Binds K T.fd__law_pick ["_law_bag_here", "_law_some"] [] := T.f__law_pick.bindsN fun _ _ _ _ _ _ us hl => match us, hl with | [_, _], _ => rfl
theorem ok__law_pick (T : Tx K mg) : FnOk P Tb.w K mg base (L2.CX P Tb.w) 2 (He.ga K "_law_pick") T.fd__law_pick ["_law_bag_here", "_law_some"] (spOf K 2 F__law_pick) :=
  mkFn (k := 1) T.f__law_pick sc__law_pick (by decide) fun cdv A outer s H E hr => show BV _ _ _ _ w__law_pick from
      (bv_one (sv_ret (ev_ix (pv_var 1) (pv_e (ev_call (ok__law_pull T) (hr.mono (by decide)) (takes_of rfl rfl rfl rfl) (by rfl) T.m__law_pull T.f__law_pull.kp (b__law_pull T) .nil (fun _ => .nil) (av_lend 0 (av_cons (ev_len (by rfl) T.n_len (pv_var 1)) av_nil)))))))
theorem sc__law_prime : FnScope N__law_prime ["_law_bag_here"] (defScope s__law_prime) := ⟨rfl, rfl, rfl, by decide +kernel, rfl, by decide +kernel, by decide +kernel⟩
theorem b__law_prime (T : Tx K mg) : Binds K T.fd__law_prime ["_law_bag_here"] [] := T.f__law_prime.bindsN fun _ _ _ _ _ _ us hl => match us, hl with | [_], _ => rfl
theorem ok__law_prime (T : Tx K mg) : FnOk P Tb.w K mg base (L2.CX P Tb.w) 3 (He.ga K "_law_prime") T.fd__law_prime ["_law_bag_here"] (spOf K 1 F__law_prime) :=
  mkFn (k := 2) T.f__law_prime sc__law_prime (by decide) fun cdv A outer s H E hr => show BV _ _ _ _ w__law_prime from
      (bv_one (sv_ret (ev_call (ok__law_pick T) (hr.mono (by decide)) (takes_of rfl rfl rfl rfl) (by rfl) T.m__law_pick T.f__law_pick.kp (b__law_pick T) .nil (fun _ => .nil) (av_lend 0 (av_cons (ev_lst (av_cons ev_int (av_cons ev_int (av_cons ev_int (av_cons ev_int (av_cons ev_int (av_cons ev_int (av_cons ev_int (av_cons ev_int (av_cons ev_int (av_cons ev_int (av_cons ev_int av_nil)))))))))))) av_nil)))))
theorem sc__law_pegs : FnScope N__law_pegs ["_law_bag_here", "_law_p", "_law_size"] (defScope s__law_pegs) := ⟨rfl, rfl, rfl, by decide +kernel, rfl, by decide +kernel, by decide +kernel⟩
theorem b__law_pegs (T : Tx K mg) : Binds K T.fd__law_pegs ["_law_bag_here", "_law_p", "_law_size"] [] := T.f__law_pegs.bindsN fun _ _ _ _ _ _ us hl => match us, hl with | [_, _, _], _ => rfl
theorem ok__law_pegs (T : Tx K mg) : FnOk P Tb.w K mg base (L2.CX P Tb.w) 2 (He.ga K "_law_pegs") T.fd__law_pegs ["_law_bag_here", "_law_p", "_law_size"] (spOf K 3 F__law_pegs) :=
  mkFn (k := 1) T.f__law_pegs sc__law_pegs (by decide) fun cdv A outer s H E hr => show BV _ _ _ _ w__law_pegs from
      (bv_one (sv_ret (ev_catT (pv_e (ev_tup (av_cons (ev_add (pv_e ev_int) (pv_e (ev_call (ok__law_pull T) (hr.mono (by decide)) (takes_of rfl rfl rfl rfl) (by rfl) T.m__law_pull T.f__law_pull.kp (b__law_pull T) .nil (fun _ => .nil) (av_lend 0 (av_cons (ev_sub (pv_var 1) (pv_e ev_int)) av_nil))))) av_nil))) (pv_e (ev_tuple (by rfl) T.n_tuple (pv_e (ev_lc rfl sc__law_pegs.nd (iv_rg1 (by rfl) T.n_range (pv_e (ev_sub (pv_var 2) (pv_e ev_int)))) (blkOk_by (own := [("_law_k", 3)]) (N := N__law_pegs) (sc := (defScope s__law_pegs)) (by decide +kernel)) (fun _ _ _ _ _ => (gv_name 3 sc__law_pegs.nd)) (fun _ _ _ _ _ => (ev_z (ev_call (ok__law_pull T) (hr.mono (by decide)) takes0 (by rfl) T.m__law_pull T.f__law_pull.kp (b__law_pull T) .nil (fun _ => .nil) (av_lend 0 (av_lend 1 av_nil))))))))))))
theorem sc_need_prime : FnScope N_need_prime ["prime"] (defScope s_need_prime) := ⟨rfl, rfl, rfl, by decide +kernel, rfl, by decide +kernel, by decide +kernel⟩
theorem b_need_prime (T : Tx K mg) : Binds K T.fd_need_prime ["prime"] [] := T.f_need_prime.bindsN fun _ _ _ _ _ _ us hl => match us, hl with | [_], _ => rfl
theorem ok_need_prime (T : Tx K mg) : FnOk P Tb.w K mg base (L2.CX P Tb.w) 4 (He.ga K "need_prime") T.fd_need_prime ["prime"] (spOf K 1 F_need_prime) :=
  mkFn (k := 3) T.f_need_prime sc_need_prime (by decide) fun cdv A outer s H E hr => show BV _ _ _ _ w_need_prime from
      (bv_one (sv_if (tv_cmp op_notIn_seq opS_notIn (pv_var 0) (pv_e (ev_glob (v := .ref (He.ga K "PRIMES")) (by rfl) T.m_PRIMES rfl (T.c_PRIMES _))) (by first | rfl | exact nomark _))
      (bv_one (sv_raise0 rfl (takes_of rfl rfl rfl rfl) (rx_BadPrime T (hr.mono (by decide))) (passes0 (takes_of rfl rfl rfl rfl)) (by rfl) T.m_BadPrime mkr_BadPrime))
      bv_nil))
theorem sc_is_whole : FnScope N_is_whole ["thing"] (defScope s_is_whole) := ⟨rfl, rfl, rfl, by decide +kernel, rfl, by decide +kernel, by decide +kernel⟩
theorem b_is_whole (T : Tx K mg) : Binds K T.fd_is_whole ["thing"] [] := T.f_is_whole.bindsN fun _ _ _ _ _ _ us hl => match us, hl with | [_], _ => rfl
theorem ok_is_whole (T : Tx K mg) : FnOk P Tb.w K mg base (L2.CX P Tb.w) 1 (He.ga K "is_whole") T.fd_is_whole ["thing"] (spOf K 1 F_is_whole) :=
  mkFn (k := 0) T.f_is_whole sc_is_whole (by decide) fun cdv A outer s H E hr => show BV _ _ _ _ w_is_whole from
      (bv_one (sv_ret (ev_and (ev_isi (T := "int") (by rfl) T.n_isinstance (by rfl) T.n_int (by decide +kernel) (pv_var 0)) (ev_one (ev_not (pv_e (ev_isi (T := "bool") (by rfl) T.n_isinstance (by rfl) T.n_bool (by decide +kernel) (pv_var 0))))))))
theorem sc_is_within : FnScope N_is_within ["thing", "low", "high"] (defScope s_is_within) := ⟨rfl, rfl, rfl, by decide +kernel, rfl, by decide +kernel, by decide +kernel⟩
theorem b_is_within (T : Tx K mg) : Binds K T.fd_is_within ["thing", "low", "high"] [] := T.f_is_within.bindsN fun _ _ _ _ _ _ us hl => match us, hl with | [_, _, _], _ => rfl
theorem ok_is_within (T : Tx K mg) : FnOk P Tb.w K mg base (L2.CX P Tb.w) 2 (He.ga K "is_within") T.fd_is_within ["thing", "low", "high"] (spOf K 3 F_is_within) :=
  mkFn (k := 1) T.f_is_within sc_is_within (by decide) fun cdv A outer s H E hr => show BV _ _ _ _ w_is_within from
      (bv_one (sv_ret (ev_and (ev_call (ok_is_whole T) (hr.mono (by decide)) (takes_of rfl rfl rfl rfl) (by rfl) T.m_is_whole T.f_is_whole.kp (b_is_whole T) .nil (fun _ => .nil) (av_lend 0 av_nil)) (ev_one (ev_chain op_le op_le opS_le opS_le (pv_var 1) (pv_var 0) (pv_var 2))))))
theorem sc_is_row_of : FnScope N_is_row_of ["prime", "row"] (defScope s_is_row_of) := ⟨rfl, rfl, rfl, by decide +kernel, rfl, by decide +kernel, by decide +kernel⟩
theorem b_is_row_of (T : Tx K mg) : Binds K T.fd_is_row_of ["prime", "row"] [] := T.f_is_row_of.bindsN fun _ _ _ _ _ _ us hl => match us, hl with | [_, _], _ => rfl
theorem ok_is_row_of (T : Tx K mg) : FnOk P Tb.w K mg base (L2.CX P Tb.w) 3 (He.ga K "is_row_of") T.fd_is_row_of ["prime", "row"] (spOf K 2 F_is_row_of) :=
  mkFn (k := 2) T.f_is_row_of sc_is_row_of (by decide) fun cdv A outer s H E hr => show BV _ _ _ _ w_is_row_of from
      (bv_cons (sv_if (tv_w (wv_or (tv_not (tv_val (ev_isi (T := "tuple") (by rfl) T.n_isinstance (by rfl) T.n_tuple (by decide +kernel) (pv_var 1)))) (wv_or1 (tv_not (tv_chain op_le op_le opS_le opS_le (pv_e ev_int) (pv_e (ev_len (by rfl) T.n_len (pv_var 1))) (pv_e (T.c_MOST_SIZE.elim fun t h => ev_glob (v := .int 12) (by rfl) h ⟨t, rfl⟩ (fun _ => .int 12))))))))
      (bv_one (sv_ret ev_bl))
      bv_nil)
      (bv_one (sv_ret (ev_all rfl (by rfl) T.n_all (pv_e (ev_lc rfl sc_is_row_of.nd (iv_seq (pv_var 1)) (blkOk_by (own := [("number", 2)]) (N := N_is_row_of) (sc := (defScope s_is_row_of)) (by decide +kernel)) (fun _ _ _ _ _ => (gv_name 2 sc_is_row_of.nd)) (fun _ _ _ _ _ => (ev_z (ev_call (ok_is_within T) (hr.mono (by decide)) takes0 (by rfl) T.m_is_within T.f_is_within.kp (b_is_within T) .nil (fun _ => .nil) (av_lend 2 (av_cons ev_int (av_cons (ev_sub (pv_var 0) (pv_e ev_int)) av_nil))))))))))))
theorem sc_need_kind : FnScope N_need_kind ["prime", "size", "kind", "taps"] (defScope s_need_kind) := ⟨rfl, rfl, rfl, by decide +kernel, rfl, by decide +kernel, by decide +kernel⟩
theorem b_need_kind (T : Tx K mg) : Binds K T.fd_need_kind ["prime", "size", "kind", "taps"] [] := T.f_need_kind.bindsN fun _ _ _ _ _ _ us hl => match us, hl with | [_, _, _, _], _ => rfl
theorem ok_need_kind (T : Tx K mg) : FnOk P Tb.w K mg base (L2.CX P Tb.w) 4 (He.ga K "need_kind") T.fd_need_kind ["prime", "size", "kind", "taps"] (spOf K 4 F_need_kind) :=
  mkFn (k := 3) T.f_need_kind sc_need_kind (by decide) fun cdv A outer s H E hr => show BV _ _ _ _ w_need_kind from
      (bv_cons (sv_if (tv_w (wv_or (tv_cmp op_notIn_seq opS_notIn (pv_var 2) (pv_e (ev_glob (v := .ref (He.ga K "KINDS")) (by rfl) T.m_KINDS rfl (T.c_KINDS _))) (by first | rfl | exact nomark _)) (wv_or1 (tv_w (wv_and (tv_cmp (op_eqD hr.units) opS_eq (pv_var 2) (pv_e ev_str) (nomark _)) (wv_and1 (tv_cmp op_gt opS_gt (pv_var 1) (pv_var 0) (nomark _))))))))
      (bv_one (sv_raise0 rfl (takes_of rfl rfl rfl rfl) (rx_BadSpring T (hr.mono (by decide))) (passes0 (takes_of rfl rfl rfl rfl)) (by rfl) T.m_BadSpring mkr_BadSpring))
      bv_nil)
      (bv_one (sv_if (tv_cmp (op_neD hr.units) opS_ne (pv_var 2) (pv_e ev_str) (nomark _))
      (bv_one (sv_if (tv_cmp op_notN opS_isNot (pv_var 3) (pv_e ev_non) (nomark _))
      (bv_one (sv_raise0 rfl (takes_of rfl rfl rfl rfl) (rx_BadSpring T (hr.mono (by decide))) (passes0 (takes_of rfl rfl rfl rfl)) (by rfl) T.m_BadSpring mkr_BadSpring))
      bv_nil))
      (bv_one (sv_if (tv_w (wv_or (tv_not (tv_val (ev_call (ok_is_row_of T) (hr.mono (by decide)) (takes_of rfl rfl rfl rfl) (by rfl) T.m_is_row_of T.f_is_row_of.kp (b_is_row_of T) .nil (fun _ => .nil) (av_lend 0 (av_lend 3 av_nil))))) (wv_or (tv_cmp (op_neD hr.units) opS_ne (pv_e (ev_len (by rfl) T.n_len (pv_var 3))) (pv_var 1) (nomark _)) (wv_or1 (tv_cmp (op_eqD hr.units) opS_eq (pv_e (ev_ix (pv_var 3) (pv_e ev_int))) (pv_e ev_int) (nomark _))))))
      (bv_one (sv_raise0 rfl (takes_of rfl rfl rfl rfl) (rx_BadSpring T (hr.mono (by decide))) (passes0 (takes_of rfl rfl rfl rfl)) (by rfl) T.m_BadSpring mkr_BadSpring))
      bv_nil)))))
theorem sc_Spring___init__ : FnScope N_Spring___init__ ["self", "prime", "size", "kind", "taps"] (defScope s_Spring___init__) := ⟨rfl, rfl, rfl, by decide +kernel, rfl, by decide +kernel, by decide +kernel⟩
theorem kp_Spring___init___3_kind_taps (T : Tx K mg) : KwP K T.fd_Spring___init__ ["self", "prime", "size", "kind", "taps"] ["kind", "taps"] 3 [0, 1, 2, 3, 4] (([] : List (Str × V)).map (·.2)) := kwP_only T.f_Spring___init__ 3 [] [0, 1, 2, 3, 4] (by simp) (by simp) fun D _ _ _ _ _ us mv ws h1 h2 h3 => match us, mv, ws, h1, h2, h3 with | [_, _, _], [], [_, _], _, _, _ => rfl
theorem ok_Spring___init__ (T : Tx K mg) : FnOk P Tb.w K mg base (L2.CX P Tb.w) 5 (He.ma K (He.ga K "Spring") "__init__") T.fd_Spring___init__ ["self", "prime", "size", "kind", "taps"] (spOf K 5 F_Spring___init__) :=
  mkFn (k := 4) T.f_Spring___init__ sc_Spring___init__ (by decide) fun cdv A outer s H E hr => show BV _ _ _ _ w_Spring___init__ from
      (bv_cons (sv_expr (ev_call (ok_need_prime T) (hr.mono (by decide)) (takes_of rfl rfl rfl rfl) (by rfl) T.m_need_prime T.f_need_prime.kp (b_need_prime T) .nil (fun _ => .nil) (av_lend 1 av_nil)))
      (bv_cons (sv_if (tv_not (tv_val (ev_call (ok_is_within T) (hr.mono (by decide)) (takes_of rfl rfl rfl rfl) (by rfl) T.m_is_within T.f_is_within.kp (b_is_within T) .nil (fun _ => .nil) (av_lend 2 (av_cons ev_int (av_cons (T.c_MOST_SIZE.elim fun t h => ev_glob (v := .int 12) (by rfl) h ⟨t, rfl⟩ (fun _ => .int 12)) av_nil))))))
      (bv_one (sv_raise0 rfl (takes_of rfl rfl rfl rfl) (rx_BadNumber T (hr.mono (by decide))) (passes0 (takes_of rfl rfl rfl rfl)) (by rfl) T.m_BadNumber mkr_BadNumber))
      bv_nil)
      (bv_cons (sv_expr (ev_call (ok_need_kind T) (hr.mono (by decide)) (takes_of rfl rfl rfl rfl) (by rfl) T.m_need_kind T.f_need_kind.kp (b_need_kind T) .nil (fun _ => .nil) (av_lend 1 (av_lend 2 (av_lend 3 (av_lend 4 av_nil))))))
      (bv_cons (sv_fldN (cn := "Spring") 0 T.cf_Spring_prime (ev_var 1))
      (bv_cons (sv_fldN (cn := "Spring") 0 T.cf_Spring_size (ev_var 2))
      (bv_cons (sv_fldN (cn := "Spring") 0 T.cf_Spring_kind (ev_var 3))
      (bv_cons (sv_fldN (cn := "Spring") 0 T.cf_Spring_taps (ev_var 4))
      (bv_one (sv_fldN (cn := "Spring") 0 T.cf_Spring_known_rows ev_dct0)))))))))
theorem sc__law_same : FnScope N__law_same ["_law_found", "_law_due"] (defScope s__law_same) := ⟨rfl, rfl, rfl, by decide +kernel, rfl, by decide +kernel, by decide +kernel⟩
theorem b__law_same (T : Tx K mg) : Binds K T.fd__law_same ["_law_found", "_law_due"] [] := T.f__law_same.bindsN fun _ _ _ _ _ _ us hl => match us, hl with | [_, _], _ => rfl
theorem ok__law_same (T : Tx K mg) : ∀ n : Nat, FnOk P Tb.w K mg base (L2.CX P Tb.w) (1 + n) (He.ga K "_law_same") T.fd__law_same ["_law_found", "_law_due"] (spOf K 2 (F__law_same n))
  | 0 => fn_bad
  | n + 1 => by
    have ih := ok__law_same T n
    exact mkFn (k := 1 + n) T.f__law_same sc__law_same (by decide) fun cdv A outer s H E hr => show BV _ _ _ _ (w__law_same (F__law_same n)) from
      (bv_cons (sv_if (tv_val (ev_isi (T := "dict") (by rfl) T.n_isinstance (by rfl) T.n_dict (by decide +kernel) (pv_var 1)))
      bv_never
      bv_nil)
      (bv_cons (sv_if (tv_w (wv_or (tv_val (ev_isi (T := "list") (by rfl) T.n_isinstance (by rfl) T.n_list (by decide +kernel) (pv_var 1))) (wv_or1 (tv_val (ev_isi (T := "tuple") (by rfl) T.n_isinstance (by rfl) T.n_tuple (by decide +kernel) (pv_var 1))))))
      (bv_cons (sv_if (tv_w (wv_and (tv_not (tv_val (ev_isi (T := "list") (by rfl) T.n_isinstance (by rfl) T.n_list (by decide +kernel) (pv_var 0)))) (wv_and1 (tv_not (tv_val (ev_isi (T := "tuple") (by rfl) T.n_isinstance (by rfl) T.n_tuple (by decide +kernel) (pv_var 0)))))))
      (bv_one (sv_ret ev_bl))
      bv_nil)
      (bv_cons (sv_if (tv_cmp (op_neD hr.units) opS_ne (pv_e (ev_isi (T := "list") (by rfl) T.n_isinstance (by rfl) T.n_list (by decide +kernel) (pv_var 1))) (pv_e (ev_isi (T := "list") (by rfl) T.n_isinstance (by rfl) T.n_list (by decide +kernel) (pv_var 0))) (nomark _))
      (bv_one (sv_ret ev_bl))
      bv_nil)
      (bv_cons (sv_if (tv_cmp (op_neD hr.units) opS_ne (pv_e (ev_len (by rfl) T.n_len (pv_var 0))) (pv_e (ev_len (by rfl) T.n_len (pv_var 1))) (nomark _))
      (bv_one (sv_ret ev_bl))
      bv_nil)
      (bv_one (sv_ret (ev_all rfl (by rfl) T.n_all (pv_e (ev_lc rfl sc__law_same.nd (iv_rg1 (by rfl) T.n_range (pv_e (ev_len (by rfl) T.n_len (pv_var 1)))) (blkOk_by (own := [("_law_at", 4)]) (N := N__law_same) (sc := (defScope s__law_same)) (by decide +kernel)) (fun _ _ _ _ _ => (gv_name 4 sc__law_same.nd)) (fun _ _ _ _ _ => (ev_z (ev_call ih hr takes0 (by rfl) T.m__law_same T.f__law_same.kp (b__law_same T) .nil (fun _ => .nil) (av_cons (ev_ix (pv_var 0) (pv_var 4)) (av_cons (ev_ix (pv_var 1) (pv_var 4)) av_nil)))))))))))))
      bv_nil)
      (bv_cons (sv_if (tv_cmp op_isN opS_is (pv_var 1) (pv_e ev_non) (nomark _))
      (bv_one (sv_ret (ev_cmp op_isN opS_is (pv_var 0) (pv_e ev_non) (nomark _))))
      bv_nil)
      (bv_cons (sv_if (tv_cmp (op_neD hr.units) opS_ne (pv_e (ev_isi (T := "bool") (by rfl) T.n_isinstance (by rfl) T.n_bool (by decide +kernel) (pv_var 1))) (pv_e (ev_isi (T := "bool") (by rfl) T.n_isinstance (by rfl) T.n_bool (by decide +kernel) (pv_var 0))) (nomark _))
      (bv_one (sv_ret ev_bl))
      bv_nil)
      (bv_one (sv_ret (ev_and (ev_cmp (op_eqD hr.units) opS_eq (pv_e (ev_isi (T := "int") (by rfl) T.n_isinstance (by rfl) T.n_int (by decide +kernel) (pv_var 0))) (pv_e (ev_isi (T := "int") (by rfl) T.n_isinstance (by rfl) T.n_int (by decide +kernel) (pv_var 1))) (nomark _)) (ev_one (ev_cmp (op_eqD hr.units) opS_eq (pv_var 0) (pv_var 1) (nomark _))))))))))
theorem sc__law_next_row : FnScope N__law_next_row ["_law_p", "_law_row", "_law_pegs_here"] (defScope s__law_next_row) := ⟨rfl, rfl, rfl, by decide +kernel, rfl, by decide +kernel, by decide +kernel⟩
theorem b__law_next_row (T : Tx K mg) : Binds K T.fd__law_next_row ["_law_p", "_law_row", "_law_pegs_here"] [] := T.f__law_next_row.bindsN fun _ _ _ _ _ _ us hl => match us, hl with | [_, _, _], _ => rfl
theorem ok__law_next_row (T : Tx K mg) : FnOk P Tb.w K mg base (L2.CX P Tb.w) 1 (He.ga K "_law_next_row") T.fd__law_next_row ["_law_p", "_law_row", "_law_pegs_here"] (spOf K 3 F__law_next_row) :=
  mkFn (k := 0) T.f__law_next_row sc__law_next_row (by decide) fun cdv A outer s H E hr => show BV _ _ _ _ w__law_next_row from
      (bv_cons (sv_set 3 sc__law_next_row.nd (ev_ix (pv_var 1) (pv_e (ev_neg (pv_e ev_int)))))
      (bv_cons (sv_set 4 sc__law_next_row.nd (ev_catT (pv_e (ev_tup (av_cons ev_int av_nil))) (pv_e (ev_sl (pv_var 1) nv_no (nv_e (pv_e (ev_neg (pv_e ev_int))))))))
      (bv_one (sv_ret (ev_tuple (by rfl) T.n_tuple (pv_e (ev_lc rfl sc__law_next_row.nd (iv_rg1 (by rfl) T.n_range (pv_e (ev_len (by rfl) T.n_len (pv_var 1)))) (blkOk_by (own := [("_law_k", 5)]) (N := N__law_next_row) (sc := (defScope s__law_next_row)) (by decide +kernel)) (fun _ _ _ _ _ => (gv_name 5 sc__law_next_row.nd)) (fun _ _ _ _ _ => (ev_mod (pv_e (ev_add (pv_e (ev_ix (pv_var 4) (pv_var 5))) (pv_e (ev_mul (pv_var 3) (pv_e (ev_ix (pv_var 2) (pv_var 5))))))) (pv_var 0))))))))))
theorem sc__law_table : FnScope N__law_table ["_law_p", "_law_size", "_law_sort", "_law_pegs_here", "_law_many"] (defScope s__law_table) := ⟨rfl, rfl, rfl, by decide +kernel, rfl, by decide +kernel, by decide +kernel⟩
theorem b__law_table (T : Tx K mg) : Binds K T.fd__law_table ["_law_p", "_law_size", "_law_sort", "_law_pegs_here", "_law_many"] [] := T.f__law_table.bindsN fun _ _ _ _ _ _ us hl => match us, hl with | [_, _, _, _, _], _ => rfl
theorem ok__law_table (T : Tx K mg) : FnOk P Tb.w K mg base (L2.CX P Tb.w) 2 (He.ga K "_law_table") T.fd__law_table ["_law_p", "_law_size", "_law_sort", "_law_pegs_here", "_law_many"] (spOf K 5 F__law_table) :=
  mkFn (k := 1) T.f__law_table sc__law_table (by decide) fun cdv A outer s H E hr => show BV _ _ _ _ w__law_table from
      (bv_cons (sv_set 5 sc__law_table.nd (ev_lst av_nil))
      (bv_cons (sv_for (Z := []) (passes_of rfl) rfl (iv_rg1 (by rfl) T.n_range (pv_var 4)) (gv_name 6 sc__law_table.nd)
      (bv_one (sv_if (tv_cmp (op_eqD hr.units) opS_eq (pv_var 2) (pv_e ev_str) (nomark _))
      (bv_cons (sv_set 7 sc__law_table.nd (ev_tup (av_cons ev_int av_nil)))
      (bv_cons (sv_for (Z := []) (passes_of rfl) rfl (iv_rg1 (by rfl) T.n_range (pv_e (ev_sub (pv_var 1) (pv_e ev_int)))) (gv_name 8 sc__law_table.nd)
      (bv_one (sv_set 7 sc__law_table.nd (ev_catT (pv_var 7) (pv_e (ev_tup (av_cons (ev_mod (pv_e (ev_mul (pv_e (ev_ix (pv_var 7) (pv_e (ev_neg (pv_e ev_int))))) (pv_var 6))) (pv_var 0)) av_nil)))))))
      (bv_one (sv_app 5 (ev_var 7)))))
      (bv_one (sv_if (tv_cmp op_lt opS_lt (pv_var 6) (pv_var 1) (nomark _))
      (bv_one (sv_app 5 (ev_tuple (by rfl) T.n_tuple (pv_e (ev_lc rfl sc__law_table.nd (iv_rg1 (by rfl) T.n_range (pv_var 1)) (blkOk_by (own := [("_law_k", 8)]) (N := N__law_table) (sc := (defScope s__law_table)) (by decide +kernel)) (fun _ _ _ _ _ => (gv_name 8 sc__law_table.nd)) (fun _ _ _ _ _ => (ev_intc (by rfl) T.n_int (pv_e (ev_cmp (op_eqD hr.units) opS_eq (pv_var 8) (pv_var 6) (nomark _))))))))))
      (bv_one (sv_app 5 (ev_z (ev_call (ok__law_next_row T) (hr.mono (by decide)) (takes_of rfl rfl rfl rfl) (by rfl) T.m__law_next_row T.f__law_next_row.kp (b__law_next_row T) .nil (fun _ => .nil) (av_lend 0 (av_cons (ev_ix (pv_var 5) (pv_e (ev_neg (pv_e ev_int)))) (av_lend 3 av_nil))))))))))))
      (bv_one (sv_ret (ev_move 5)))))
theorem sc_Spring_room : FnScope N_Spring_room ["self"] (defScope s_Spring_room) := ⟨rfl, rfl, rfl, by decide +kernel, rfl, by decide +kernel, by decide +kernel⟩
theorem b_Spring_room (T : Tx K mg) : Binds K T.fd_Spring_room ["self"] [] := T.f_Spring_room.bindsN fun _ _ _ _ _ _ us hl => match us, hl with | [_], _ => rfl
theorem ok_Spring_room (T : Tx K mg) : FnOk P Tb.w K mg base (L2.CX P Tb.w) 1 (He.ma K (He.ga K "Spring") "room") T.fd_Spring_room ["self"] (spOf K 1 F_Spring_room) :=
  mkFn (k := 0) T.f_Spring_room sc_Spring_room (by decide) fun cdv A outer s H E hr => show BV _ _ _ _ w_Spring_room from
      (bv_cons (sv_if (tv_cmp (op_eqD hr.units) opS_eq (pv_e (ev_fld 2 T.cf_Spring_kind (pv_var 0))) (pv_e ev_str) (nomark _))
      (bv_one (sv_ret (ev_fld 1 T.cf_Spring_size (pv_var 0))))
      bv_nil)
      (bv_one (sv_ret (ev_if (tv_cmp (op_eqD hr.units) opS_eq (pv_e (ev_fld 2 T.cf_Spring_kind (pv_var 0))) (pv_e ev_str) (nomark _)) (ev_fld 0 T.cf_Spring_prime (pv_var 0)) (T.c_MOST_PLACES.elim fun t h => ev_glob (v := .int 1000000000000000000) (by rfl) h ⟨t, rfl⟩ (fun _ => .int 1000000000000000000))))))
theorem sc_unit : FnScope N_unit ["size", "at"] (defScope s_unit) := ⟨rfl, rfl, rfl, by decide +kernel, rfl, by decide +kernel, by decide +kernel⟩
theorem b_unit (T : Tx K mg) : Binds K T.fd_unit ["size", "at"] [] := T.f_unit.bindsN fun _ _ _ _ _ _ us hl => match us, hl with | [_, _], _ => rfl
theorem ok_unit (T : Tx K mg) : FnOk P Tb.w K mg base (L2.CX P Tb.w) 1 (He.ga K "unit") T.fd_unit ["size", "at"] (spOf K 2 F_unit) :=
  mkFn (k := 0) T.f_unit sc_unit (by decide) fun cdv A outer s H E hr => show BV _ _ _ _ w_unit from
      (bv_one (sv_ret (ev_tuple (by rfl) T.n_tuple (pv_e (ev_lc rfl sc_unit.nd (iv_rg1 (by rfl) T.n_range (pv_var 0)) (blkOk_by (own := [("k", 2)]) (N := N_unit) (sc := (defScope s_unit)) (by decide +kernel)) (fun _ _ _ _ _ => (gv_name 2 sc_unit.nd)) (fun _ _ _ _ _ => (ev_intc (by rfl) T.n_int (pv_e (ev_cmp (op_eqD hr.units) opS_eq (pv_var 2) (pv_var 1) (nomark _))))))))))
theorem sc_poly_row : FnScope N_poly_row ["prime", "size", "place"] (defScope s_poly_row) := ⟨rfl, rfl, rfl, by decide +kernel, rfl, by decide +kernel, by decide +kernel⟩
theorem b_poly_row (T : Tx K mg) : Binds K T.fd_poly_row ["prime", "size", "place"] [] := T.f_poly_row.bindsN fun _ _ _ _ _ _ us hl => match us, hl with | [_, _, _], _ => rfl
theorem ok_poly_row (T : Tx K mg) : FnOk P Tb.w K mg base (L2.CX P Tb.w) 1 (He.ga K "poly_row") T.fd_poly_row ["prime", "size", "place"] (spOf K 3 F_poly_row) :=
  mkFn (k := 0) T.f_poly_row sc_poly_row (by decide) fun cdv A outer s H E hr => show BV _ _ _ _ w_poly_row from
      (bv_cons (sv_set 3 sc_poly_row.nd (ev_lst (av_cons ev_int av_nil)))
      (bv_cons (sv_for (Z := []) (passes_of rfl) rfl (iv_rg1 (by rfl) T.n_range (pv_e (ev_sub (pv_var 1) (pv_e ev_int)))) (gv_name 4 sc_poly_row.nd)
      (bv_one (sv_app 3 (ev_mod (pv_e (ev_mul (pv_e (ev_ix (pv_var 3) (pv_e (ev_neg (pv_e ev_int))))) (pv_var 2))) (pv_var 0)))))
      (bv_one (sv_ret (ev_tuple (by rfl) T.n_tuple (pv_var 3))))))
theorem sc_shifted : FnScope N_shifted ["prime", "row", "taps"] (defScope s_shifted) := ⟨rfl, rfl, rfl, by decide +kernel, rfl, by decide +kernel, by decide +kernel⟩
theorem b_shifted (T : Tx K mg) : Binds K T.fd_shifted ["prime", "row", "taps"] [] := T.f_shifted.bindsN fun _ _ _ _ _ _ us hl => match us, hl with | [_, _, _], _ => rfl
theorem ok_shifted (T : Tx K mg) : FnOk P Tb.w K mg base (L2.CX P Tb.w) 1 (He.ga K "shifted") T.fd_shifted ["prime", "row", "taps"] (spOf K 3 F_shifted) :=
  mkFn (k := 0) T.f_shifted sc_shifted (by decide) fun cdv A outer s H E hr => show BV _ _ _ _ w_shifted from
      (bv_cons (sv_set 3 sc_shifted.nd (ev_ix (pv_var 1) (pv_e (ev_neg (pv_e ev_int)))))
      (bv_one (sv_ret (ev_lc rfl sc_shifted.nd (iv_zipM (by rfl) T.n_zip (pv_e (ev_cat (pv_e (ev_lst (av_cons ev_int av_nil))) (pv_e (ev_list (by rfl) T.n_list (pv_e (ev_sl (pv_var 1) nv_no (nv_e (pv_e (ev_neg (pv_e ev_int)))))))))) (pv_var 2)) (blkOk_by (own := [("one", 4), ("tap", 5)]) (N := N_shifted) (sc := (defScope s_shifted)) (by decide +kernel)) (fun _ _ _ _ _ => (gv_tup rfl (gs_cons (gv_name 4 sc_shifted.nd) (gs_cons (gv_name 5 sc_shifted.nd) gs_nil)))) (fun _ _ _ _ _ => (ev_mod (pv_e (ev_add (pv_var 4) (pv_e (ev_mul (pv_var 3) (pv_var 5))))) (pv_var 0)))))))
theorem sc_joined : FnScope N_joined ["prime", "one", "other", "taps"] (defScope s_joined) := ⟨rfl, rfl, rfl, by decide +kernel, rfl, by decide +kernel, by decide +kernel⟩
theorem b_joined (T : Tx K mg) : Binds K T.fd_joined ["prime", "one", "other", "taps"] [] := T.f_joined.bindsN fun _ _ _ _ _ _ us hl => match us, hl with | [_, _, _, _], _ => rfl
theorem ok_joined (T : Tx K mg) : FnOk P Tb.w K mg base (L2.CX P Tb.w) 2 (He.ga K "joined") T.fd_joined ["prime", "one", "other", "taps"] (spOf K 4 F_joined) :=
  mkFn (k := 1) T.f_joined sc_joined (by decide) fun cdv A outer s H E hr => show BV _ _ _ _ w_joined from
      (bv_cons (sv_set 4 sc_joined.nd (ev_len (by rfl) T.n_len (pv_var 3)))
      (bv_cons (sv_set 5 sc_joined.nd (ev_rep (pv_e (ev_lst (av_cons ev_int av_nil))) (pv_var 4)))
      (bv_cons (sv_set 6 sc_joined.nd (ev_list (by rfl) T.n_list (pv_var 1)))
      (bv_cons (sv_for (Z := [2]) (passes_of rfl) rfl (iv_seq (pv_var 2)) (gv_name 7 sc_joined.nd)
      (bv_cons (sv_setLc 5 rfl sc_joined.nd (iv_zip (by rfl) T.n_zip (pv_var 5) (pv_var 6)) (blkOk_by (own := [("had", 8), ("more", 9)]) (N := N_joined) (sc := (defScope s_joined)) (by decide +kernel)) (fun _ _ _ _ _ => (gv_tup rfl (gs_cons (gv_name 8 sc_joined.nd) (gs_cons (gv_name 9 sc_joined.nd) gs_nil)))) (fun _ _ _ _ _ => (ev_mod (pv_e (ev_add (pv_var 8) (pv_e (ev_mul (pv_var 7) (pv_var 9))))) (pv_var 0))) (sw_true rfl rfl rfl (by decide +kernel)))
      (bv_one (sv_set 6 sc_joined.nd (ev_call (ok_shifted T) (hr.mono (by decide)) (takes_of rfl rfl rfl rfl) (by rfl) T.m_shifted T.f_shifted.kp (b_shifted T) .nil (fun _ => .nil) (av_lend 0 (av_lend 6 (av_lend 3 av_nil))))))))
      (bv_one (sv_ret (ev_move 5)))))))
theorem sc_rule_row : FnScope N_rule_row ["prime", "taps", "place"] (defScope s_rule_row) := ⟨rfl, rfl, rfl, by decide +kernel, rfl, by decide +kernel, by decide +kernel⟩
theorem b_rule_row (T : Tx K mg) : Binds K T.fd_rule_row ["prime", "taps", "place"] [] := T.f_rule_row.bindsN fun _ _ _ _ _ _ us hl => match us, hl with | [_, _, _], _ => rfl
theorem ok_rule_row (T : Tx K mg) : FnOk P Tb.w K mg base (L2.CX P Tb.w) 3 (He.ga K "rule_row") T.fd_rule_row ["prime", "taps", "place"] (spOf K 3 F_rule_row) :=
  mkFn (k := 2) T.f_rule_row sc_rule_row (by decide) fun cdv A outer s H E hr => show BV _ _ _ _ w_rule_row from
      (bv_cons (sv_set 3 sc_rule_row.nd (ev_len (by rfl) T.n_len (pv_var 1)))
      (bv_cons (sv_set 4 sc_rule_row.nd (ev_list (by rfl) T.n_list (pv_e (ev_call (ok_unit T) (hr.mono (by decide)) (takes_of rfl rfl rfl rfl) (by rfl) T.m_unit T.f_unit.kp (b_unit T) .nil (fun _ => .nil) (av_lend 3 (av_cons ev_int av_nil))))))
      (bv_cons (sv_set 5 sc_rule_row.nd (ev_if (tv_cmp op_gt opS_gt (pv_var 3) (pv_e ev_int) (nomark _)) (ev_list (by rfl) T.n_list (pv_e (ev_call (ok_unit T) (hr.mono (by decide)) (takes_of rfl rfl rfl rfl) (by rfl) T.m_unit T.f_unit.kp (b_unit T) .nil (fun _ => .nil) (av_lend 3 (av_cons ev_int av_nil))))) (ev_lst (av_cons (ev_ix (pv_var 1) (pv_e ev_int)) av_nil))))
      (bv_cons (sv_set 6 sc_rule_row.nd (ev_var 2))
      (bv_cons (sv_wh (passes_of rfl) (tv_cmp op_gt opS_gt (pv_var 6) (pv_e ev_int) (nomark _))
      (bv_cons (sv_if (tv_cmp (op_eqD hr.units) opS_eq (pv_e (ev_mod (pv_var 6) (pv_e ev_int))) (pv_e ev_int) (nomark _))
      (bv_one (sv_set 4 sc_rule_row.nd (ev_call (ok_joined T) (hr.mono (by decide)) (takes_of rfl rfl rfl rfl) (by rfl) T.m_joined T.f_joined.kp (b_joined T) .nil (fun _ => .nil) (av_lend 0 (av_lend 4 (av_lend 5 (av_lend 1 av_nil)))))))
      bv_nil)
      (bv_cons (sv_set 5 sc_rule_row.nd (ev_call (ok_joined T) (hr.mono (by decide)) (takes_of rfl rfl rfl rfl) (by rfl) T.m_joined T.f_joined.kp (b_joined T) .nil (fun _ => .nil) (av_lend 0 (av_cons (ev_var 5) (av_cons (ev_var 5) (av_lend 1 av_nil))))))
      (bv_one (sv_aug 6 sc_rule_row.nd Ls.iop_div opS_div (pv_e ev_int))))))
      (bv_one (sv_ret (ev_tuple (by rfl) T.n_tuple (pv_var 4)))))))))
theorem sc_Spring_row : FnScope N_Spring_row ["self", "place"] (defScope s_Spring_row) := ⟨rfl, rfl, rfl, by decide +kernel, rfl, by decide +kernel, by decide +kernel⟩
theorem b_Spring_row (T : Tx K mg) : Binds K T.fd_Spring_row ["self", "place"] [] := T.f_Spring_row.bindsN fun _ _ _ _ _ _ us hl => match us, hl with | [_, _], _ => rfl
theorem ok_Spring_row (T : Tx K mg) : FnOk P Tb.w K mg base (L2.CX P Tb.w) 4 (He.ma K (He.ga K "Spring") "row") T.fd_Spring_row ["self", "place"] (spOf K 2 F_Spring_row) :=
  mkFn (k := 3) T.f_Spring_row sc_Spring_row (by decide) fun cdv A outer s H E hr => show BV _ _ _ _ w_Spring_row from
      (bv_cons (sv_if (tv_not (tv_chain op_le op_lt opS_le opS_lt (pv_e ev_int) (pv_var 1) (pv_e (ev_ro fun _ => (ev_meth0 (cn := "Spring") (fnL := [("prime" : Str), ("size" : Str), ("kind" : Str), ("taps" : Str), ("known_rows" : Str)]) 0 (ok_Spring_room T) (hr.mono (by decide)) (takes_of rfl rfl rfl rfl) T.cl_Spring T.mt_Spring_room (by decide) (b_Spring_room T) .nil (fun _ => .nil))))))
      (bv_one (sv_raise rfl (takes_of rfl rfl rfl rfl) (rx_NoPlace T (hr.mono (by decide))) (passes0 (takes_of rfl rfl rfl rfl)) (by rfl) T.m_NoPlace mkr_NoPlace (av_cons (ev_var 1) av_nil)))
      bv_nil)
      (bv_cons (sv_if (tv_cmp (op_eqD hr.units) opS_eq (pv_e (ev_fld 2 T.cf_Spring_kind (pv_var 0))) (pv_e ev_str) (nomark _))
      (bv_one (sv_ret (ev_call (ok_unit T) (hr.mono (by decide)) (takes_of rfl rfl rfl rfl) (by rfl) T.m_unit T.f_unit.kp (b_unit T) .nil (fun _ => .nil) (av_cons (ev_fld 1 T.cf_Spring_size (pv_var 0)) (av_lend 1 av_nil)))))
      bv_nil)
      (bv_cons (sv_if (tv_cmp (op_eqD hr.units) opS_eq (pv_e (ev_fld 2 T.cf_Spring_kind (pv_var 0))) (pv_e ev_str) (nomark _))
      (bv_one (sv_ret (ev_call (ok_poly_row T) (hr.mono (by decide)) (takes_of rfl rfl rfl rfl) (by rfl) T.m_poly_row T.f_poly_row.kp (b_poly_row T) .nil (fun _ => .nil) (av_cons (ev_fld 0 T.cf_Spring_prime (pv_var 0)) (av_cons (ev_fld 1 T.cf_Spring_size (pv_var 0)) (av_lend 1 av_nil))))))
      bv_nil)
      (bv_cons (sv_if (tv_ro fun _ => (tv_cmp (op_notInK rfl (room9 hr)) (opS_inK not) (pv_var 1) (pv_e (ev_fld 4 T.cf_Spring_known_rows (pv_var 0))) (by first | rfl | exact nomark _)))
      (bv_one (sv_kxF (cn := "Spring") 0 4 1 rfl (room9 hr) T.cf_Spring_known_rows (evr_ro fun _ => (ev_call (ok_rule_row T) (hr.mono (by decide)) (takes_of rfl rfl rfl rfl) (by rfl) T.m_rule_row T.f_rule_row.kp (b_rule_row T) .nil (fun _ => .nil) (av_cons (ev_fld 0 T.cf_Spring_prime (pv_var 0)) (av_cons (ev_fld 3 T.cf_Spring_taps (pv_var 0)) (av_lend 1 av_nil)))))))
      bv_nil)
      (bv_one (sv_ret (ev_ro fun _ => (ev_kx rfl (room9 hr) (pv_e (ev_fld 4 T.cf_Spring_known_rows (pv_var 0))) (pv_var 1)))))))))
theorem sc__law_mix : FnScope N__law_mix ["_law_p", "_law_rows", "_law_weights", "_law_size"] (defScope s__law_mix) := ⟨rfl, rfl, rfl, by decide +kernel, rfl, by decide +kernel, by decide +kernel⟩
theorem b__law_mix (T : Tx K mg) : Binds K T.fd__law_mix ["_law_p", "_law_rows", "_law_weights", "_law_size"] [] := T.f__law_mix.bindsN fun _ _ _ _ _ _ us hl => match us, hl with | [_, _, _, _], _ => rfl
theorem ok__law_mix (T : Tx K mg) : FnOk P Tb.w K mg base (L2.CX P Tb.w) 1 (He.ga K "_law_mix") T.fd__law_mix ["_law_p", "_law_rows", "_law_weights", "_law_size"] (spOf K 4 F__law_mix) :=
  mkFn (k := 0) T.f__law_mix sc__law_mix (by decide) fun cdv A outer s H E hr => show BV _ _ _ _ w__law_mix from
      (bv_cons (sv_set 4 sc__law_mix.nd (ev_rep (pv_e (ev_lst (av_cons ev_int av_nil))) (pv_var 3)))
      (bv_cons (sv_for (Z := []) (passes_of rfl) rfl (iv_rg1 (by rfl) T.n_range (pv_e (ev_len (by rfl) T.n_len (pv_var 1)))) (gv_name 5 sc__law_mix.nd)
      (bv_one (sv_set 4 sc__law_mix.nd (ev_lc rfl sc__law_mix.nd (iv_rg1 (by rfl) T.n_range (pv_var 3)) (blkOk_by (own := [("_law_k", 6)]) (N := N__law_mix) (sc := (defScope s__law_mix)) (by decide +kernel)) (fun _ _ _ _ _ => (gv_name 6 sc__law_mix.nd)) (fun _ _ _ _ _ => (ev_mod (pv_e (ev_add (pv_e (ev_ix (pv_var 4) (pv_var 6))) (pv_e (ev_mul (pv_e (ev_ix (pv_var 2) (pv_var 5))) (pv_e (ev_ix (pv_e (ev_ix (pv_var 1) (pv_var 5))) (pv_var 6))))))) (pv_var 0)))))))
      (bv_one (sv_ret (ev_tuple (by rfl) T.n_tuple (pv_var 4))))))
theorem sc_Spring_need_seed : FnScope N_Spring_need_seed ["self", "seed"] (defScope s_Spring_need_seed) := ⟨rfl, rfl, rfl, by decide +kernel, rfl, by decide +kernel, by decide +kernel⟩
theorem b_Spring_need_seed (T : Tx K mg) : Binds K T.fd_Spring_need_seed ["self", "seed"] [] := T.f_Spring_need_seed.bindsN fun _ _ _ _ _ _ us hl => match us, hl with | [_, _], _ => rfl
theorem ok_Spring_need_seed (T : Tx K mg) : FnOk P Tb.w K mg base (L2.CX P Tb.w) 4 (He.ma K (He.ga K "Spring") "need_seed") T.fd_Spring_need_seed ["self", "seed"] (spOf K 2 F_Spring_need_seed) :=
  mkFn (k := 3) T.f_Spring_need_seed sc_Spring_need_seed (by decide) fun cdv A outer s H E hr => show BV _ _ _ _ w_Spring_need_seed from
      (bv_one (sv_if (tv_w (wv_or (tv_not (tv_val (ev_call (ok_is_row_of T) (hr.mono (by decide)) (takes_of rfl rfl rfl rfl) (by rfl) T.m_is_row_of T.f_is_row_of.kp (b_is_row_of T) .nil (fun _ => .nil) (av_cons (ev_fld 0 T.cf_Spring_prime (pv_var 0)) (av_lend 1 av_nil))))) (wv_or1 (tv_cmp (op_neD hr.units) opS_ne (pv_e (ev_len (by rfl) T.n_len (pv_var 1))) (pv_e (ev_fld 1 T.cf_Spring_size (pv_var 0))) (nomark _)))))
      (bv_one (sv_raise0 rfl (takes_of rfl rfl rfl rfl) (rx_BadSeed T (hr.mono (by decide))) (passes0 (takes_of rfl rfl rfl rfl)) (by rfl) T.m_BadSeed mkr_BadSeed))
      bv_nil))
theorem sc_dot : FnScope N_dot ["prime", "row", "seed"] (defScope s_dot) := ⟨rfl, rfl, rfl, by decide +kernel, rfl, by decide +kernel, by decide +kernel⟩
theorem b_dot (T : Tx K mg) : Binds K T.fd_dot ["prime", "row", "seed"] [] := T.f_dot.bindsN fun _ _ _ _ _ _ us hl => match us, hl with | [_, _, _], _ => rfl
theorem ok_dot (T : Tx K mg) : FnOk P Tb.w K mg base (L2.CX P Tb.w) 1 (He.ga K "dot") T.fd_dot ["prime", "row", "seed"] (spOf K 3 F_dot) :=
  mkFn (k := 0) T.f_dot sc_dot (by decide) fun cdv A outer s H E hr => show BV _ _ _ _ w_dot from
      (bv_one (sv_ret (ev_mod (pv_e (ev_sum rfl (by rfl) T.n_sum (pv_e (ev_lc rfl sc_dot.nd (iv_zip (by rfl) T.n_zip (pv_var 1) (pv_var 2)) (blkOk_by (own := [("one", 3), ("other", 4)]) (N := N_dot) (sc := (defScope s_dot)) (by decide +kernel)) (fun _ _ _ _ _ => (gv_tup rfl (gs_cons (gv_name 3 sc_dot.nd) (gs_cons (gv_name 4 sc_dot.nd) gs_nil)))) (fun _ _ _ _ _ => (ev_mul (pv_var 3) (pv_var 4))))))) (pv_var 0))))
theorem sc_Spring_cells : FnScope N_Spring_cells ["self", "seed", "places"] (defScope s_Spring_cells) := ⟨rfl, rfl, rfl, by decide +kernel, rfl, by decide +kernel, by decide +kernel⟩
theorem b_Spring_cells (T : Tx K mg) : Binds K T.fd_Spring_cells ["self", "seed", "places"] [] := T.f_Spring_cells.bindsN fun _ _ _ _ _ _ us hl => match us, hl with | [_, _, _], _ => rfl
theorem ok_Spring_cells (T : Tx K mg) : FnOk P Tb.w K mg base (L2.CX P Tb.w) 5 (He.ma K (He.ga K "Spring") "cells") T.fd_Spring_cells ["self", "seed", "places"] (spOf K 3 F_Spring_cells) :=
  mkFn (k := 4) T.f_Spring_cells sc_Spring_cells (by decide) fun cdv A outer s H E hr => show BV _ _ _ _ w_Spring_cells from
      (bv_cons (sv_expr (ev_ro fun _ => (ev_meth (cn := "Spring") (fnL := [("prime" : Str), ("size" : Str), ("kind" : Str), ("taps" : Str), ("known_rows" : Str)]) 0 (ok_Spring_need_seed T) (hr.mono (by decide)) (takes_of rfl rfl rfl rfl) T.cl_Spring T.mt_Spring_need_seed (by decide) (b_Spring_need_seed T) .nil (fun _ => .nil) (av_lend 1 av_nil))))
      (bv_one (sv_ret (ev_lc rfl sc_Spring_cells.nd (iv_seq (pv_var 2)) (blkOk_by (own := [("place", 3)]) (N := N_Spring_cells) (sc := (defScope s_Spring_cells)) (by decide +kernel)) (fun _ _ _ _ _ => (gv_name 3 sc_Spring_cells.nd)) (fun _ _ _ _ _ => (ev_z (ev_call (ok_dot T) (hr.mono (by decide)) takes0 (by rfl) T.m_dot T.f_dot.kp (b_dot T) .nil (fun _ => .nil) (av_cons (ev_fld 0 T.cf_Spring_prime (pv_var 0)) (av_cons (ev_meth (cn := "Spring") (fnL := [("prime" : Str), ("size" : Str), ("kind" : Str), ("taps" : Str), ("known_rows" : Str)]) 0 (ok_Spring_row T) (hr.mono (by decide)) takes0 T.cl_Spring T.mt_Spring_row (by decide) (b_Spring_row T) .nil (fun _ => .nil) (av_lend 3 av_nil)) (av_lend 1 av_nil))))))))))
theorem sc__law_dot : FnScope N__law_dot ["_law_p", "_law_row", "_law_seed"] (defScope s__law_dot) := ⟨rfl, rfl, rfl, by decide +kernel, rfl, by decide +kernel, by decide +kernel⟩
theorem b__law_dot (T : Tx K mg) : Binds K T.fd__law_dot ["_law_p", "_law_row", "_law_seed"] [] := T.f__law_dot.bindsN fun _ _ _ _ _ _ us hl => match us, hl with | [_, _, _], _ => rfl
theorem ok__law_dot (T : Tx K mg) : FnOk P Tb.w K mg base (L2.CX P Tb.w) 1 (He.ga K "_law_dot") T.fd__law_dot ["_law_p", "_law_row", "_law_seed"] (spOf K 3 F__law_dot) :=
  mkFn (k := 0) T.f__law_dot sc__law_dot (by decide) fun cdv A outer s H E hr => show BV _ _ _ _ w__law_dot from
      (bv_cons (sv_set 3 sc__law_dot.nd ev_int)
      (bv_cons (sv_for (Z := []) (passes_of rfl) rfl (iv_rg1 (by rfl) T.n_range (pv_e (ev_len (by rfl) T.n_len (pv_var 1)))) (gv_name 4 sc__law_dot.nd)
      (bv_one (sv_set 3 sc__law_dot.nd (ev_mod (pv_e (ev_add (pv_var 3) (pv_e (ev_mul (pv_e (ev_ix (pv_var 1) (pv_var 4))) (pv_e (ev_ix (pv_var 2) (pv_var 4))))))) (pv_var 0)))))
      (bv_one (sv_ret (ev_move 3)))))
theorem sc_law : FnScope N_law ["_law_script"] (defScope s_law) := ⟨rfl, rfl, rfl, by decide +kernel, rfl, by decide +kernel, by decide +kernel⟩
theorem ok_law (T : Tx K mg) : FnOk P Tb.w K mg base (L2.CX P Tb.w) 7 (He.ga K "law") T.fd_law ["_law_script"] (spOf K 1 F_law) :=
  mkFn (k := 6) T.f_law sc_law (by decide) fun cdv A outer s H E hr => show BV _ _ _ _ w_law from
      (bv_cons (sv_set 1 sc_law.nd (ev_call (ok__law_bag T) (hr.mono (by decide)) (takes_of rfl rfl rfl rfl) (by rfl) T.m__law_bag T.f__law_bag.kp (b__law_bag T) .nil (fun _ => .nil) (av_lend 0 av_nil)))
      (bv_cons (sv_set 2 sc_law.nd (ev_call (ok__law_prime T) (hr.mono (by decide)) (takes_of rfl rfl rfl rfl) (by rfl) T.m__law_prime T.f__law_prime.kp (b__law_prime T) .nil (fun _ => .nil) (av_lend 1 av_nil)))
      (bv_cons (sv_set 3 sc_law.nd (ev_add (pv_e ev_int) (pv_e (ev_call (ok__law_pull T) (hr.mono (by decide)) (takes_of rfl rfl rfl rfl) (by rfl) T.m__law_pull T.f__law_pull.kp (b__law_pull T) .nil (fun _ => .nil) (av_lend 1 (av_cons ev_int av_nil))))))
      (bv_cons (sv_set 4 sc_law.nd (ev_call (ok__law_pegs T) (hr.mono (by decide)) (takes_of rfl rfl rfl rfl) (by rfl) T.m__law_pegs T.f__law_pegs.kp (b__law_pegs T) .nil (fun _ => .nil) (av_lend 1 (av_lend 2 (av_lend 3 av_nil)))))
      (bv_cons (sv_set 5 sc_law.nd (ev_makeP T.mk_Spring (ok_Spring___init__ T) (hr.mono (by decide)) (takes_of rfl rfl rfl rfl) (by rfl) T.m_Spring (kp_Spring___init___3_kind_taps T) (ix := [0, 1, 2, 3, 4]) (inv := [0, 1, 2, 3, 4]) (by decide) (fun S => .nil) (av_lend 2 (av_lend 3 av_nil)) (kv_cons ev_str (kv_lend 4 kv_nil))))
      (bv_cons (sv_if (tv_not (tv_val (ev_call (ok__law_same T 4) (hr.mono (by decide)) (takes_of rfl rfl rfl rfl) (by rfl) T.m__law_same T.f__law_same.kp (b__law_same T) .nil (fun _ => .nil) (av_cons (ev_lc rfl sc_law.nd (iv_rg1 (by rfl) T.n_range (pv_e (ev_add (pv_var 3) (pv_e ev_int)))) (blkOk_by (own := [("_law_k", 12)]) (N := N_law) (sc := (defScope s_law)) (by decide +kernel)) (fun _ _ _ _ _ => (gv_name 12 sc_law.nd)) (fun _ _ _ _ _ => (ev_z (ev_meth (cn := "Spring") (fnL := [("prime" : Str), ("size" : Str), ("kind" : Str), ("taps" : Str), ("known_rows" : Str)]) 5 (ok_Spring_row T) (hr.mono (by decide)) takes0 T.cl_Spring T.mt_Spring_row (by decide) (b_Spring_row T) .nil (fun _ => .nil) (av_lend 12 av_nil))))) (av_cons (ev_call (ok__law_table T) (hr.mono (by decide)) (takes_of rfl rfl rfl rfl) (by rfl) T.m__law_table T.f__law_table.kp (b__law_table T) .nil (fun _ => .nil) (av_lend 2 (av_late 3 (av_cons ev_str (av_lend 4 (av_cons (ev_add (pv_var 3) (pv_e ev_int)) av_nil)))))) av_nil)))))
      (bv_one (sv_ret ev_bl))
      bv_nil)
      (bv_cons (sv_set 6 sc_law.nd (ev_ix (pv_e (ev_lst (av_cons (ev_z (ev_call (ok__law_pull T) (hr.mono (by decide)) (takes_of rfl rfl rfl rfl) (by rfl) T.m__law_pull T.f__law_pull.kp (b__law_pull T) .nil (fun _ => .nil) (av_lend 1 (av_cons ev_int av_nil)))) (av_cons (ev_z (ev_call (ok__law_pull T) (hr.mono (by decide)) (takes_of rfl rfl rfl rfl) (by rfl) T.m__law_pull T.f__law_pull.kp (b__law_pull T) .nil (fun _ => .nil) (av_lend 1 (av_cons (ev_pow (pv_e ev_int) (pv_e ev_int)) av_nil)))) av_nil)))) (pv_e (ev_call (ok__law_pull T) (hr.mono (by decide)) (takes_of rfl rfl rfl rfl) (by rfl) T.m__law_pull T.f__law_pull.kp (b__law_pull T) .nil (fun _ => .nil) (av_lend 1 (av_cons ev_int av_nil))))))
      (bv_cons (sv_set 7 sc_law.nd (ev_call (ok__law_pull T) (hr.mono (by decide)) (takes_of rfl rfl rfl rfl) (by rfl) T.m__law_pull T.f__law_pull.kp (b__law_pull T) .nil (fun _ => .nil) (av_lend 1 (av_cons (ev_mul (pv_e ev_int) (pv_e (ev_pow (pv_e ev_int) (pv_e ev_int)))) av_nil))))
      (bv_cons (sv_setLc 8 rfl sc_law.nd (iv_rg1 (by rfl) T.n_range (pv_var 3)) (blkOk_by (own := [("_law_k", 12)]) (N := N_law) (sc := (defScope s_law)) (by decide +kernel)) (fun _ _ _ _ _ => (gv_name 12 sc_law.nd)) (fun _ _ _ _ _ => (ev_z (ev_meth (cn := "Spring") (fnL := [("prime" : Str), ("size" : Str), ("kind" : Str), ("taps" : Str), ("known_rows" : Str)]) 5 (ok_Spring_row T) (hr.mono (by decide)) takes0 T.cl_Spring T.mt_Spring_row (by decide) (b_Spring_row T) .nil (fun _ => .nil) (av_cons (ev_add (pv_var 7) (pv_var 12)) av_nil)))) (sw_true rfl rfl rfl (by decide +kernel)))
      (bv_cons (sv_if (tv_not (tv_val (ev_call (ok__law_same T 4) (hr.mono (by decide)) (takes_of rfl rfl rfl rfl) (by rfl) T.m__law_same T.f__law_same.kp (b__law_same T) .nil (fun _ => .nil) (av_cons (ev_meth (cn := "Spring") (fnL := [("prime" : Str), ("size" : Str), ("kind" : Str), ("taps" : Str), ("known_rows" : Str)]) 5 (ok_Spring_row T) (hr.mono (by decide)) (takes_of rfl rfl rfl rfl) T.cl_Spring T.mt_Spring_row (by decide) (b_Spring_row T) .nil (fun _ => .nil) (av_cons (ev_add (pv_var 6) (pv_var 7)) av_nil)) (av_cons (ev_call (ok__law_mix T) (hr.mono (by decide)) (takes_of rfl rfl rfl rfl) (by rfl) T.m__law_mix T.f__law_mix.kp (b__law_mix T) .nil (fun _ => .nil) (av_lend 2 (av_lend 8 (av_cons (ev_list (by rfl) T.n_list (pv_e (ev_meth (cn := "Spring") (fnL := [("prime" : Str), ("size" : Str), ("kind" : Str), ("taps" : Str), ("known_rows" : Str)]) 5 (ok_Spring_row T) (hr.mono (by decide)) (takes_of rfl rfl rfl rfl) T.cl_Spring T.mt_Spring_row (by decide) (b_Spring_row T) .nil (fun _ => .nil) (av_lend 6 av_nil)))) (av_lend 3 av_nil))))) av_nil)))))
      (bv_one (sv_ret ev_bl))
      bv_nil)
      (bv_cons (sv_set 9 sc_law.nd (ev_tuple (by rfl) T.n_tuple (pv_e (ev_lc rfl sc_law.nd (iv_rg1 (by rfl) T.n_range (pv_var 3)) (blkOk_by (own := [("_law_k", 12)]) (N := N_law) (sc := (defScope s_law)) (by decide +kernel)) (fun _ _ _ _ _ => (gv_name 12 sc_law.nd)) (fun _ _ _ _ _ => (ev_z (ev_call (ok__law_pull T) (hr.mono (by decide)) takes0 (by rfl) T.m__law_pull T.f__law_pull.kp (b__law_pull T) .nil (fun _ => .nil) (av_lend 1 (av_lend 2 av_nil)))))))))
      (bv_cons (sv_for (Z := []) (passes_of rfl) rfl (iv_seq (pv_e (ev_lst (av_cons (ev_var 7) (av_cons (ev_sub (pv_e (ev_sub (pv_e (ev_pow (pv_e ev_int) (pv_e ev_int))) (pv_e ev_int))) (pv_var 3)) (av_cons (ev_var 6) (av_cons (ev_add (pv_e (ev_pow (pv_e ev_int) (pv_e ev_int))) (pv_e (ev_call (ok__law_pull T) (hr.mono (by decide)) (takes_of rfl rfl rfl rfl) (by rfl) T.m__law_pull T.f__law_pull.kp (b__law_pull T) .nil (fun _ => .nil) (av_lend 1 (av_cons ev_int av_nil))))) av_nil))))))) (gv_name 10 sc_law.nd)
      (bv_cons (sv_set 11 sc_law.nd (ev_meth (cn := "Spring") (fnL := [("prime" : Str), ("size" : Str), ("kind" : Str), ("taps" : Str), ("known_rows" : Str)]) 5 (ok_Spring_cells T) (hr.mono (by decide)) (takes_of rfl rfl rfl rfl) T.cl_Spring T.mt_Spring_cells (by decide) (b_Spring_cells T) .nil (fun _ => .nil) (av_lend 9 (av_cons (ev_lc rfl sc_law.nd (iv_rg1 (by rfl) T.n_range (pv_e (ev_add (pv_var 3) (pv_e ev_int)))) (blkOk_by (own := [("_law_k", 12)]) (N := N_law) (sc := (defScope s_law)) (by decide +kernel)) (fun _ _ _ _ _ => (gv_name 12 sc_law.nd)) (fun _ _ _ _ _ => (ev_add (pv_var 10) (pv_var 12)))) av_nil))))
      (bv_cons (sv_if (tv_w (wv_or (tv_cmp (op_neD hr.units) opS_ne (pv_e (ev_len (by rfl) T.n_len (pv_var 11))) (pv_e (ev_add (pv_var 3) (pv_e ev_int))) (nomark _)) (wv_or1 (tv_not (tv_val (ev_call (ok__law_same T 4) (hr.mono (by decide)) (takes_of rfl rfl rfl rfl) (by rfl) T.m__law_same T.f__law_same.kp (b__law_same T) .nil (fun _ => .nil) (av_cons (ev_ix (pv_var 11) (pv_e (ev_neg (pv_e ev_int)))) (av_cons (ev_call (ok__law_dot T) (hr.mono (by decide)) (takes_of rfl rfl rfl rfl) (by rfl) T.m__law_dot T.f__law_dot.kp (b__law_dot T) .nil (fun _ => .nil) (av_lend 2 (av_lend 4 (av_cons (ev_tuple (by rfl) T.n_tuple (pv_e (ev_sl (pv_var 11) nv_no (nv_e (pv_e (ev_neg (pv_e ev_int))))))) av_nil)))) av_nil))))))))
      (bv_one (sv_ret ev_bl))
      bv_nil)
      (bv_one (sv_if (tv_not (tv_val (ev_call (ok__law_same T 4) (hr.mono (by decide)) (takes_of rfl rfl rfl rfl) (by rfl) T.m__law_same T.f__law_same.kp (b__law_same T) .nil (fun _ => .nil) (av_cons (ev_ix (pv_var 11) (pv_e ev_int)) (av_cons (ev_call (ok__law_dot T) (hr.mono (by decide)) (takes_of rfl rfl rfl rfl) (by rfl) T.m__law_dot T.f__law_dot.kp (b__law_dot T) .nil (fun _ => .nil) (av_lend 2 (av_cons (ev_meth (cn := "Spring") (fnL := [("prime" : Str), ("size" : Str), ("kind" : Str), ("taps" : Str), ("known_rows" : Str)]) 5 (ok_Spring_row T) (hr.mono (by decide)) (takes_of rfl rfl rfl rfl) T.cl_Spring T.mt_Spring_row (by decide) (b_Spring_row T) .nil (fun _ => .nil) (av_lend 10 av_nil)) (av_lend 9 av_nil)))) av_nil)))))
      (bv_one (sv_ret ev_bl))
      bv_nil)))))
      (bv_one (sv_ret ev_bl))))))))))))))
end
theorem ob_eq (s : PySem.W.SharedT) : ob s = hk.obs s.abs := obsXG_eq (HandSHeadRun.getT_eq s)
theorem txOf {K : PySem.W.Frag} {h : Heap} {mg : Str → Option Value} (X : K.In h) (G : h.Ns mainGlobals mg) (c : SaysX faL fnL fxL K) : Nonempty (Tx K mg) := by
  obtain ⟨fd0, F0⟩ := c.d.def_ 0 (d := dd__law_bag) rfl
  obtain ⟨fd1, F1⟩ := c.d.def_ 1 (d := dd__law_pull) rfl
  obtain ⟨fd2, F2⟩ := c.d.def_ 2 (d := dd__law_pick) rfl
  obtain ⟨fd3, F3⟩ := c.d.def_ 3 (d := dd__law_prime) rfl
  obtain ⟨fd4, F4⟩ := c.d.def_ 4 (d := dd__law_pegs) rfl
  obtain ⟨fd5, F5⟩ := c.d.def_ 5 (d := dd_need_prime) rfl
  obtain ⟨fd6, F6⟩ := c.d.def_ 6 (d := dd_is_whole) rfl
  obtain ⟨fd7, F7⟩ := c.d.def_ 7 (d := dd_is_within) rfl
  obtain ⟨fd8, F8⟩ := c.d.def_ 8 (d := dd_is_row_of) rfl
  obtain ⟨fd9, F9⟩ := c.d.def_ 9 (d := dd_need_kind) rfl
  obtain ⟨fd10, F10⟩ := c.d.def_ 10 (d := dd_Spring___init__) rfl
  obtain ⟨fd11, F11⟩ := c.d.def_ 11 (d := dd__law_same) rfl
  obtain ⟨fd12, F12⟩ := c.d.def_ 12 (d := dd__law_next_row) rfl
  obtain ⟨fd13, F13⟩ := c.d.def_ 13 (d := dd__law_table) rfl
  obtain ⟨fd14, F14⟩ := c.d.def_ 14 (d := dd_Spring_room) rfl
  obtain ⟨fd15, F15⟩ := c.d.def_ 15 (d := dd_unit) rfl
  obtain ⟨fd16, F16⟩ := c.d.def_ 16 (d := dd_poly_row) rfl
  obtain ⟨fd17, F17⟩ := c.d.def_ 17 (d := dd_shifted) rfl
  obtain ⟨fd18, F18⟩ := c.d.def_ 18 (d := dd_joined) rfl
  obtain ⟨fd19, F19⟩ := c.d.def_ 19 (d := dd_rule_row) rfl
  obtain ⟨fd20, F20⟩ := c.d.def_ 20 (d := dd_Spring_row) rfl
  obtain ⟨fd21, F21⟩ := c.d.def_ 21 (d := dd__law_mix) rfl
  obtain ⟨fd22, F22⟩ := c.d.def_ 22 (d := dd_Spring_need_seed) rfl
  obtain ⟨fd23, F23⟩ := c.d.def_ 23 (d := dd_dot) rfl
  obtain ⟨fd24, F24⟩ := c.d.def_ 24 (d := dd_Spring_cells) rfl
  obtain ⟨fd25, F25⟩ := c.d.def_ 25 (d := dd__law_dot) rfl
  obtain ⟨fd26, F26⟩ := c.d.def_ 26 (d := dd_law) rfl
  obtain ⟨fi0, G0⟩ := c.d.def_ 27 (d := di_LotError) rfl
  obtain ⟨fi1, G1⟩ := c.d.def_ 28 (d := di_BadNumber) rfl
  obtain ⟨fi2, G2⟩ := c.d.def_ 29 (d := di_BadPrime) rfl
  obtain ⟨fi3, G3⟩ := c.d.def_ 30 (d := di_BadSpring) rfl
  obtain ⟨fi4, G4⟩ := c.d.def_ 31 (d := di_NoPlace) rfl
  obtain ⟨fi5, G5⟩ := c.d.def_ 32 (d := di_BadSeed) rfl
  have hx : ∀ b ∈ fxs K, b = true := List.all_eq_true.mp c.x
  exact ⟨⟨fd0, fd1, fd2, fd3, fd4, fd5, fd6, fd7, fd8, fd9, fd10, fd11, fd12, fd13, fd14, fd15, fd16, fd17, fd18, fd19, fd20, fd21, fd22, fd23, fd24, fd25, fd26, fi0, fi1, fi2, fi3, fi4, fi5, F0, He.glo_ok X G (c.d.fact 0 (f := .glo "_law_bag") rfl), F1, He.glo_ok X G (c.d.fact 1 (f := .glo "_law_pull") rfl), F2, He.glo_ok X G (c.d.fact 2 (f := .glo "_law_pick") rfl), F3, He.glo_ok X G (c.d.fact 3 (f := .glo "_law_prime") rfl), F4, He.glo_ok X G (c.d.fact 4 (f := .glo "_law_pegs") rfl), F5, He.glo_ok X G (c.d.fact 5 (f := .glo "need_prime") rfl), F6, He.glo_ok X G (c.d.fact 6 (f := .glo "is_whole") rfl), F7, He.glo_ok X G (c.d.fact 7 (f := .glo "is_within") rfl), F8, He.glo_ok X G (c.d.fact 8 (f := .glo "is_row_of") rfl), F9, He.glo_ok X G (c.d.fact 9 (f := .glo "need_kind") rfl), F10, F11, He.glo_ok X G (c.d.fact 10 (f := .glo "_law_same") rfl), F12, He.glo_ok X G (c.d.fact 11 (f := .glo "_law_next_row") rfl), F13, He.glo_ok X G (c.d.fact 12 (f := .glo "_law_table") rfl), F14, F15, He.glo_ok X G (c.d.fact 13 (f := .glo "unit") rfl), F16, He.glo_ok X G (c.d.fact 14 (f := .glo "poly_row") rfl), F17, He.glo_ok X G (c.d.fact 15 (f := .glo "shifted") rfl), F18, He.glo_ok X G (c.d.fact 16 (f := .glo "joined") rfl), F19, He.glo_ok X G (c.d.fact 17 (f := .glo "rule_row") rfl), F20, F21, He.glo_ok X G (c.d.fact 18 (f := .glo "_law_mix") rfl), F22, F23, He.glo_ok X G (c.d.fact 19 (f := .glo "dot") rfl), F24, F25, He.glo_ok X G (c.d.fact 20 (f := .glo "_law_dot") rfl), F26, He.glo_ok X G (c.d.fact 21 (f := .glo "law") rfl), He.glo_ok X G (c.d.fact 22 (f := .glo "Spring") rfl), He.cls_ok (c.d.fact 23 (f := .cls "Spring") rfl), He.mkr_ok (c.d.fact 24 (f := .mkr "Spring") rfl), He.meth_ok (c.d.fact 25 (f := .meth "Spring" "cells") rfl), He.meth_ok (c.d.fact 26 (f := .meth "Spring" "need_seed") rfl), He.meth_ok (c.d.fact 27 (f := .meth "Spring" "room") rfl), He.meth_ok (c.d.fact 28 (f := .meth "Spring" "row") rfl), ⟨He.cls_ok (c.d.fact 23 (f := .cls "Spring") rfl), He.noat_ok (c.d.fact 29 (f := .noat "Spring" "kind") rfl)⟩, ⟨He.cls_ok (c.d.fact 23 (f := .cls "Spring") rfl), He.noat_ok (c.d.fact 30 (f := .noat "Spring" "known_rows") rfl)⟩, ⟨He.cls_ok (c.d.fact 23 (f := .cls "Spring") rfl), He.noat_ok (c.d.fact 31 (f := .noat "Spring" "prime") rfl)⟩, ⟨He.cls_ok (c.d.fact 23 (f := .cls "Spring") rfl), He.noat_ok (c.d.fact 32 (f := .noat "Spring" "size") rfl)⟩, ⟨He.cls_ok (c.d.fact 23 (f := .cls "Spring") rfl), He.noat_ok (c.d.fact 33 (f := .noat "Spring" "taps") rfl)⟩, G0, He.glo_ok X G (c.d.fact 34 (f := .glo "LotError") rfl), oxB_ok (hx _ (List.mem_of_getElem? (i := 2) rfl)), oiB_ok (hx _ (List.mem_of_getElem? (i := 3) rfl)), inB_ok (hx _ (List.mem_of_getElem? (i := 4) rfl)), G1, He.glo_ok X G (c.d.fact 35 (f := .glo "BadNumber") rfl), oxB_ok (hx _ (List.mem_of_getElem? (i := 5) rfl)), oiB_ok (hx _ (List.mem_of_getElem? (i := 6) rfl)), inB_ok (hx _ (List.mem_of_getElem? (i := 7) rfl)), G2, He.glo_ok X G (c.d.fact 36 (f := .glo "BadPrime") rfl), oxB_ok (hx _ (List.mem_of_getElem? (i := 8) rfl)), oiB_ok (hx _ (List.mem_of_getElem? (i := 9) rfl)), inB_ok (hx _ (List.mem_of_getElem? (i := 10) rfl)), G3, He.glo_ok X G (c.d.fact 37 (f := .glo "BadSpring") rfl), oxB_ok (hx _ (List.mem_of_getElem? (i := 11) rfl)), oiB_ok (hx _ (List.mem_of_getElem? (i := 12) rfl)), inB_ok (hx _ (List.mem_of_getElem? (i := 13) rfl)), G4, He.glo_ok X G (c.d.fact 38 (f := .glo "NoPlace") rfl), oxB_ok (hx _ (List.mem_of_getElem? (i := 14) rfl)), oiB_ok (hx _ (List.mem_of_getElem? (i := 15) rfl)), inB_ok (hx _ (List.mem_of_getElem? (i := 16) rfl)), G5, He.glo_ok X G (c.d.fact 39 (f := .glo "BadSeed") rfl), oxB_ok (hx _ (List.mem_of_getElem? (i := 17) rfl)), oiB_ok (hx _ (List.mem_of_getElem? (i := 18) rfl)), inB_ok (hx _ (List.mem_of_getElem? (i := 19) rfl)), He.free_ok X G (c.d.fact 40 (f := .free "IndexError") rfl), He.free_ok X G (c.d.fact 41 (f := .free "ValueError") rfl), He.free_ok X G (c.d.fact 42 (f := .free "all") rfl), He.free_ok X G (c.d.fact 43 (f := .free "bool") rfl), He.free_ok X G (c.d.fact 44 (f := .free "dict") rfl), He.free_ok X G (c.d.fact 45 (f := .free "int") rfl), He.free_ok X G (c.d.fact 46 (f := .free "isinstance") rfl), He.free_ok X G (c.d.fact 47 (f := .free "len") rfl), He.free_ok X G (c.d.fact 48 (f := .free "list") rfl), He.free_ok X G (c.d.fact 49 (f := .free "range") rfl), He.free_ok X G (c.d.fact 50 (f := .free "sum") rfl), He.free_ok X G (c.d.fact 51 (f := .free "tuple") rfl), He.free_ok X G (c.d.fact 52 (f := .free "zip") rfl), He.glo_ok X G (c.d.fact 53 (f := .glo "KINDS") rfl), fun tb S => letI := tb; dp_top (vs := v_KINDS) (hx _ (List.mem_of_getElem? (i := 0) rfl)) (fun _ => .cons (.str "bare") (.cons (.str "poly") (.cons (.str "rule") (.nil)))) S, He.int_ok X G (c.d.fact 55 (f := .int "MOST_PLACES" 1000000000000000000) rfl), He.int_ok X G (c.d.fact 56 (f := .int "MOST_SIZE" 12) rfl), He.glo_ok X G (c.d.fact 54 (f := .glo "PRIMES") rfl), fun tb S => letI := tb; dp_top (vs := v_PRIMES) (hx _ (List.mem_of_getElem? (i := 1) rfl)) (fun _ => .cons (.int 2) (.cons (.int 3) (.cons (.int 5) (.cons (.int 7) (.cons (.int 11) (.cons (.int 13) (.cons (.int 17) (.cons (.int 19) (.cons (.int 23) (.cons (.int 29) (.cons (.int 31) (.nil)))))))))))) S⟩⟩
theorem law_holds (hlaw : ∀ ns : List Int, ns.length ≤ 63 → (∀ k ∈ ns, k.natAbs.log2 ≤ 1048576) → ∃ as', F_law [.fz (.list (ns.map PyData.int))] = .ok (.fz (.bool true)) as') : PySem.Challenge.rw_lotspring_k13_whole_far_places_of_a_rule.Holds := by
  open PySem PySem.W PySem.Calls PyProof.Rows in
  (w_on; o_law
   refine HandSHeadRun.head_any (r := OpenLaw.row PySem.Challenge.rw_lotspring_k13_whole_far_places_of_a_rule) (q := view (OpenLaw.row PySem.Challenge.rw_lotspring_k13_whole_far_places_of_a_rule).prog [41]) (H := hk) (ob := ob) (M := 6000) (loose := looseL) (d := HandSHeadRun.topDef (OpenLaw.row PySem.Challenge.rw_lotspring_k13_whole_far_places_of_a_rule).prog 41) (kwd := []) ob_eq
     (by kernel_rfl) (fun s => by kernel_rfl) run (by kernel_rfl) (by kernel_rfl) (by kernel_rfl) (by rfl) (by first | assumption | decide +kernel) (by decide +kernel) ⟨rfl, rfl, rfl, rfl, rfl, by decide +kernel⟩ ?hw ?hc
   case hw => w_witness2
   case hc =>
     refine walkX (l := PySem.Challenge.rw_lotspring_k13_whole_far_places_of_a_rule) (n := 63) (k := 7) (x := "_law_script") (CX := fun w => L2.CX (PySem.Challenge.rw_lotspring_k13_whole_far_places_of_a_rule).prog w) rfl (by decide) (by kernel_rfl) ⟨rfl, by decide, by decide⟩ ?F (fun w H s e s' => cxNo _ w H s e s')
     intro w mg fa h Y G hmg0
     obtain ⟨K, KX, c⟩ := Y
     have hmg : mg ("law" : PySem.Str) = some (.ref fa) := by
       have e : (HandSHeadRun.topDef (OpenLaw.row PySem.Challenge.rw_lotspring_k13_whole_far_places_of_a_rule).prog 41).name = ("law" : PySem.Str) := by kernel_rfl
       rw [← e]
       exact hmg0
     obtain ⟨T⟩ := txOf KX G c
     have efa := hmg.symm.trans T.m_law
     cases efa
     letI tb : Tb := tbOf w
     refine ⟨K, T.fd_law, @spOf (tbOf w) vw0 K 1 F_law, KX, fun s v => FunD.bindsA (ps := ["_law_script"]) T.f_law (fun _ _ _ _ _ _ us hl => match us, hl with | [_], _ => rfl) s [v] rfl, fun H a ns hl hbt _ hS => lawSp (w := w) hS (hlaw ns hl hbt), fun base _ _ => @ok_law _ _ _ _ tb vw0 T⟩)
end Lw
end
noncomputable section
namespace Lw
open PySem L2 Ls
local macro_rules
  | `(tactic| walk_at "nf") => `(tactic| (try dsimp only [backs, wipeE, finA, isFz, entry, List.map, List.length, List.replicate, Nat.sub, List.append, List.cons_append, List.nil_append, List.append_nil, List.getElem?_cons_zero, List.getElem?_cons_succ, List.set_cons_zero, List.set_cons_succ, Nat.reduceAdd, Nat.reduceSub, List.replicate_succ, List.replicate_zero]))
local macro_rules
  | `(tactic| walk_at "tt") => `(tactic| first
    | rfl
    | assumption
    | (simp only [decide_eq_true_eq, decide_eq_false_iff_not, Bool.not_eq_true', Bool.not_eq_false', Bool.not_true, Bool.not_false, decide_not, Bool.not_not, reduceCtorEq]; first | assumption | omega)
    | (simp; done))
local macro_rules
  | `(tactic| walk_at "sd") => `(tactic| first | assumption | decide | omega | exact fmodA (by decide) (by decide))
local macro_rules
  | `(tactic| walk_at "xp") => `(tactic| repeat' (first
    | (with_reducible show pkD _ _ = some _); first | with_reducible rfl | with_reducible assumption | rfl | assumption
    | (with_reducible show pkO _ _ = some _); first | with_reducible rfl | with_reducible assumption | rfl | assumption
    | (with_reducible show getElem? _ _ = some (some _)); rfl
    | (with_reducible show ixO _ _ = some _); first | with_reducible assumption | rfl | assumption
    | (with_reducible show ixN _ _ = some _); first | with_reducible assumption | rfl | assumption
    | (with_reducible show lenO _ = some _); first | with_reducible assumption | rfl | assumption
    | (with_reducible show itemsO _ = some _); first | with_reducible assumption | rfl | assumption
    | (with_reducible show dEq (.int _) (.int _) = some _); exact dEq_int
    | (with_reducible show dNe (.int _) (.int _) = some _); exact dNe_int
    | (with_reducible show dMod (.int _) (.int _) = some _); apply dMod_ok; walk_at "sd"
    | (with_reducible show dMul (.int _) (.int _) = some _); apply dMul_ok <;> walk_at "sd"
    | (with_reducible show dDiv (.int _) (.int _) = some _); apply dDiv_ok <;> walk_at "sd"
    | (with_reducible show dAdd (.int _) (.int _) = some _); rfl
    | (with_reducible show dSub (.int _) (.int _) = some _); rfl
    | (with_reducible show dLt (.int _) (.int _) = some _); rfl
    | (with_reducible show dGt (.int _) (.int _) = some _); rfl
    | (with_reducible show dLe (.int _) (.int _) = some _); rfl
    | (with_reducible show dGe (.int _) (.int _) = some _); rfl
    | (with_reducible show dPow (.int _) (.int _) = some _); rfl
    | (with_reducible show _ = FO.ok _ _); first | with_reducible assumption | assumption
    | (with_reducible show backs _ _ _ = _); walk_at "nf"; (try rfl)
    | (with_reducible show finA _ _ _ _ = _); walk_at "nf"; (try rfl)
    | (with_reducible show List.set _ _ _ = _); walk_at "nf"; (try rfl)
    | with_reducible exact r_c
    | with_reducible exact r_nil
    | with_reducible apply r_pv
    | with_reducible apply r_pe
    | with_reducible apply r_op
    | with_reducible apply r_ix
    | with_reducible apply r_b1
    | with_reducible apply r_tof
    | with_reducible apply r_ret
    | with_reducible apply r_call
    | with_reducible exact r_anil
    | with_reducible apply r_acons
    | (with_reducible show _ < List.length _); exact of_decide_eq_true rfl
    | with_reducible apply r_set
    | with_reducible apply r_six
    | (with_reducible apply r_lendF); focus rfl
    | (with_reducible apply lendO); (focus rfl); (focus rfl)
    | (with_reducible apply r_ev); focus rfl
    | with_reducible apply r_z
    | with_reducible apply r_lst
    | with_reducible apply r_list
    | with_reducible apply r_tuple
    | (with_reducible show frz _ = some _); first | with_reducible assumption | rfl | assumption
    | (with_reducible show -(2 ^ 62) ≤ _ ∧ _); walk_at "sd"
    | with_reducible apply r_rg1
    | with_reducible apply r_isi
    | with_reducible apply r_tnot
    | with_reducible exact (rfl : tYesF _ = Out.ok true _)
    | with_reducible apply gN
    | (with_reducible show isiO _ _ = some _); first | with_reducible assumption | rfl | assumption
    | (with_reducible show dIs _ _ = some _); rfl
    | (with_reducible show dNe (.bool _) (.bool _) = some _); exact dNe_bool
    | (with_reducible show dEq (.bool _) (.bool _) = some _); exact dEq_bool
    | (with_reducible show dEq _ _ = some _); first | with_reducible assumption | assumption
    | (with_reducible show dNe _ _ = some _); first | with_reducible assumption | assumption
    | (with_reducible show allO _ = some _); first | with_reducible assumption | exact allO_map _
    | (with_reducible show sumO _ = some _); first | with_reducible assumption | exact sumO_map _
    | (with_reducible show _ < sizeLine); walk_at "sd"
    | (with_reducible apply r_eandT); (focus (walk_at "xp"; done)); (focus (walk_at "tt"; done)); (focus (walk_at "xp"; done))
    | (with_reducible apply r_eandF); (focus (walk_at "xp"; done)); (focus (walk_at "tt"; done))
    | (with_reducible show intO (.fz (.bool _)) = some _); exact intO_bool
    | (with_reducible show wipeE _ _ = _); walk_at "nf"; (try rfl)
    | (with_reducible show List.all _ _ = _); rfl
    | (with_reducible show Sr.at _ _ = some _); first | with_reducible assumption | rfl | assumption
    | (with_reducible apply r_torT); (focus (walk_at "xp"; done)); (focus (walk_at "tt"; done))
    | (with_reducible apply r_torF); (focus (walk_at "xp"; done)); (focus (walk_at "tt"; done)); (focus (walk_at "xp"; done))
    | (with_reducible apply r_ifT); (focus (walk_at "xp"; done)); (focus (walk_at "tt"; done)); (focus (walk_at "xp"; done))
    | (with_reducible apply r_ifF); (focus (walk_at "xp"; done)); (focus (walk_at "tt"; done)); (focus (walk_at "xp"; done))
    | (with_reducible apply r_tandF); (focus (walk_at "xp"; done)); (focus (walk_at "tt"; done))
    | (with_reducible apply r_tandT); (focus (walk_at "xp"; done)); (focus (walk_at "tt"; done)); (focus (walk_at "xp"; done))
    | (with_reducible apply r_seq); (focus (walk_at "xp"; done)); (focus (walk_at "xp"; done))
    | (with_reducible apply r_seqR); (focus (walk_at "xp"; done))
    ))
structure Bag where
  xs : List Int
  i : Nat
  c : Int
  m : Int
  hc : 0 ≤ c
  hm : 0 ≤ m
  hM : m < 2147483647
def Bag.o (b : Bag) : O := .lst [.fz (.list (b.xs.map PyData.int)), .fz (.int b.i), .fz (.int b.c), .fz (.int b.m)]
theorem len_int {xs : List Int} : lenO (.fz (.list (xs.map PyData.int))) = some (.int xs.length) := by simp [lenO, lenO0, itemsO]
theorem ix_int {xs : List Int} {i : Nat} (h : i < xs.length) : ixO (.fz (.list (xs.map PyData.int))) i = some (.int xs[i]) := by
  refine atN ?_
  simp [h]
def P1 (n : Int) (ρ : En) : Prop := ∃ (b : Bag) (s2 s3 : Option O), ρ = [some b.o, some (.fz (.int n)), s2, s3, none]
theorem pull_ok (b : Bag) (n : Int) (hn : 0 < n) (hn2 : n < 2 ^ 100) : ∃ (v : Int) (b' : Bag), 0 ≤ v ∧ v < n ∧ F__law_pull [b.o, .fz (.int n)] = .ok (.fz (.int v)) [b'.o, .fz (.int n)] := by
  suffices h : RT (w__law_pull [some b.o, some (.fz (.int n)), none, none, none]) fun o ρ => ∃ as', finA [0, 1] ρ 0 [b.o, .fz (.int n)] = some as' ∧ ∃ (v : Int) (b' : Bag), o = .fz (.int v) ∧ 0 ≤ v ∧ v < n ∧ as' = [b'.o, .fz (.int n)] by
    obtain ⟨o, as', h1, v, b', rfl, h2, h3, rfl⟩ := run_rt (m := 5) (prot := [0, 1]) (body := w__law_pull) (as := [b.o, .fz (.int n)]) h
    exact ⟨v, b', h2, h3, h1⟩
  have hn0 : n ≠ 0 := by omega
  have hn4 : n.natAbs < 2 ^ 100 := by omega
  unfold w__law_pull
  refine seqNX (P := P1 n) (G := fun out => RT out _) ?_ ?_
  · have hl := @len_int b.xs
    by_cases h1 : b.c = 0
    · by_cases h2 : b.i < b.xs.length
      · have hx := ix_int h2
        by_cases h3 : (10 : Int) ^ 18 ≤ b.xs[b.i]
        · apply nx_of
          · walk_at "xp"
          · refine ⟨⟨b.xs, b.i + 1, b.xs[b.i], b.m, by omega, b.hm, b.hM⟩, _, _, rfl⟩
        · have q1 := b.hm
          have q2 := b.hM
          apply nx_of
          · walk_at "xp"
          · refine ⟨⟨b.xs, b.i + 1, b.c, _, b.hc, Int.fmod_nonneg_of_pos _ (by omega), Int.fmod_lt_of_pos _ (by omega)⟩, _, _, rfl⟩
      · apply nx_of
        · walk_at "xp"
        · exact ⟨b, _, _, rfl⟩
    · apply nx_of
      · walk_at "xp"
      · exact ⟨b, _, _, rfl⟩
  · rintro _ ⟨b, s2, s3, rfl⟩
    have q1 := b.hm
    have q2 := b.hM
    by_cases h1 : 0 < b.c
    · apply rt_of
      · walk_at "xp"
      · exact ⟨_, rfl, _, ⟨b.xs, b.i, b.c.fdiv n, b.m, Int.fdiv_nonneg b.hc (by omega), b.hm, b.hM⟩, rfl, Int.fmod_nonneg_of_pos _ hn, Int.fmod_lt_of_pos _ hn, rfl⟩
    · apply rt_of
      · walk_at "xp"
      · exact ⟨_, rfl, _, ⟨b.xs, b.i, b.c, _, b.hc, Int.fmod_nonneg_of_pos _ (by decide), Int.fmod_lt_of_pos _ (by decide)⟩, rfl, Int.fmod_nonneg_of_pos _ hn, Int.fmod_lt_of_pos _ hn, rfl⟩
theorem cutG_map {α β : Type} (f : α → β) (xs : List α) (lo hi : Option Int) : cutG (xs.map f) lo hi = (cutG xs lo hi).map f := by
  simp [cutG, List.map_take, List.map_drop]
theorem bag_ok (ns : List Int) : ∃ b : Bag, F__law_bag [.fz (.list (ns.map PyData.int))] = .ok b.o [.fz (.list (ns.map PyData.int))] := by
  refine ⟨⟨cutG ns none (some 63), 0, 0, 1, by decide, by decide, by decide⟩, ?_⟩
  refine r_runR (ρ1 := [some (.fz (.list (ns.map PyData.int)))]) ?_ rfl
  walk_at "nf"
  unfold w__law_bag
  have h1 : slO (.fz (.list (ns.map PyData.int))) none (some 63) = some (.lst ((cutG (ns.map PyData.int) none (some 63)).map O.fz)) := rfl
  have h2 : frz (.lst ((cutG (ns.map PyData.int) none (some 63)).map O.fz)) = some (.list ((cutG ns none (some 63)).map PyData.int)) := by rw [frz_map, cutG_map]
  have h3 := items_map (cutG (ns.map PyData.int) none (some 63))
  refine r_ret (r_lst (r_acons (r_z (r_list (r_pe (r_sl (r_pv rfl) r_nno (r_ne (r_pe r_c) rfl) rfl h1)) rfl h3) h2) (r_acons r_c (r_acons r_c (r_acons r_c r_anil)))))
theorem lendBag {b : Bag} {i : Nat} {ρ : En} : kLend (some (some b.o)) i ρ = .ok b.o (ρ.set i none) := rfl
local macro_rules
  | `(tactic| walk_at "sd") => `(tactic| first | assumption | omega | decide | ((with_reducible show List.length _ = _); with_unfolding_all rfl) | ((with_reducible show _ < List.length _); exact of_decide_eq_true rfl) | (apply And.intro <;> walk_at "sd"))
local macro_rules
  | `(tactic| walk_at "run") => `(tactic| simp -implicitDefEqProofs (disch := walk_at "sd") only [x_selT, x_selF, x_selDF, x_rYes, x_rNo, x_yes, x2, x3, x4, x_obind, x_omap, x_id, x5, x6, x9, x13, x_frzs0, x_frzs1, x_frzs2, x_get0, x_getS, x_set0, x_setS, x_app0, x_appS, x_appN, x_lapp0, x_lappS, x_map0, x_put0, x_putS, x14, x15, x16, x17, x18, x20, x21, x25, x26, x27, x28, x29, x30, x31, x33, x34, x36, x38, x39, x40, x41, x42, x48, x49, x51, x53, x54, x55, x57, x61, x63, x64, x65, x66, x67, x69, x71, x72, x73, x75, x76, x78, x80, x81, x83, x84, x86, x87, x88, x89, x91, x92, x94, x96, x98, x99, x100, x102, x103, x104, x105, x107, x108, x109, x111, x113, x114, x115, x117, x118, x123, x125, x127, x128, x129, x131, x133, x134, x135, x137, x139, x140, x147, x148, x150, x151, x152, x154, x155, x156, x157, x158, x160, x162, x163, x164, x165, x166, x174, x176, x177, x184, x186, x187, x188, x192, x194, x195, x204, x205, x206, x207, x208, x209, x210, x211, x212, x213, x217, x218, x220, x221, x224, x225, x227, x228, x229, x237, x238, x240, x241, x250, x251, x253, x254, x269, x270, x271, x272, x275, x276, x277, x_ent, x_enm0, x_enmS, x_ena0, x_enaS, x_olen0, x_olenS, x_rep0, x_repS, x279, x280, x281, x282, x283, x_mod, x_deq, x_dne, x_deqb, x_dneb, x285, x287, x289, x295, x305, x306, x309, x310, x_div, x_mul, x_stp, x_stp1, x_forSt, x_forRg, x_for, x_for1, x_for2, x_comp, x_lc, x_comp2, x_sc, x_sc1, x_sc2, x_sc3, x_sc4, x_ift, x_la, x_la0, x_la1, x_la2, x_bnes, x_fl1, x_fl2, x_fl4, x_fl5, x_fa0, x_faS, x_see, x_ro1, x_ro2, x_ro3, x_ro4, x_roe0, x_roe1, x_roe2, x_er1, x_er2, x_er4, x_tr1, x_tr2, x_nv1, x_fs2, x_fs3, x_fs5, x_sf, x_pa0, x_paS, x_af, x_sapp0, x_sappS, x_rc1, x_rc2, x_me1, x_me2, x_me3, x_mk1, x_mk2, x_mk4, x_fo, x_kx1, x_kx2, x_kx4, x_kx6, x_kx7, x_dc0, x_kf1, x_kf2, x_kf3, x_kf4, x_pm1, x_pm2, x_pl1, x_pl2, x_pl3, x_pl4, x_pl5, x_dEqS, x_dNeS, x_zm1, x_zm2, x_zm3, x_zm4, x_kd6, x_kd7, Nat.reduceAdd, Nat.reduceSub, List.contains_cons, List.contains_nil, Nat.reduceBEq, Bool.or_false, Bool.or_true, Bool.true_or, Bool.false_or, beq_self_eq_true, Int.toNat_natCast, decide_true, decide_false, Bool.not_true, Bool.not_false, Bool.true_and, Bool.and_true, lendBag, *])
theorem pick_ok (b : Bag) {o : O} {l : Bool} {ds : List PyData} (ho : itemsO o = some (l, ds)) (h0 : ds ≠ []) (hz : ds.length < 2 ^ 63) (hr : o = .lst (ds.map O.fz) ∨ ∃ d, o = .fz d) : ∃ (d : PyData) (b' : Bag), d ∈ ds ∧ F__law_pick [b.o, o] = .ok (.fz d) [b'.o, o] := by
  have hp : 0 < ds.length := List.length_pos_iff.mpr h0
  obtain ⟨v, b', h1, h2, h3⟩ := pull_ok b ds.length (by omega) (by omega)
  have hv : v.toNat < ds.length := by omega
  refine ⟨ds[v.toNat], b', List.getElem_mem _, ?_⟩
  have hl := len_items ho
  have hx := ix_itemsI ho h1 (List.getElem?_eq_getElem hv)
  refine r_runR (ρ1 := [some b'.o, some o]) ?_ rfl
  walk_at "nf"
  unfold w__law_pick
  walk_at "xp"
theorem prime_ok (b : Bag) : ∃ (p : Int) (b' : Bag), 2 ≤ p ∧ p ≤ 31 ∧ F__law_prime [b.o] = .ok (.fz (.int p)) [b'.o] ∧ p ∈ [2, 3, 5, 7, 11, 13, 17, 19, 23, 29, 31] := by
  obtain ⟨d, b', h1, h2⟩ := pick_ok b (o := .lst ([2, 3, 5, 7, 11, 13, 17, 19, 23, 29, 31].map fun i => .fz (.int i))) (ds := [2, 3, 5, 7, 11, 13, 17, 19, 23, 29, 31].map PyData.int) rfl (by simp) (by simp) (Or.inl rfl)
  obtain ⟨p, h3, h4⟩ := List.mem_map.mp h1
  subst h4
  refine ⟨p, b', ?_, ?_, ?_, h3⟩
  · simp at h3; omega
  · simp at h3; omega
  · refine r_runR (ρ1 := [some b'.o]) ?_ rfl
    walk_at "nf"
    unfold w__law_prime
    walk_at "xp"
def rowD (xs : List Int) : PyData := .tuple (xs.map PyData.int)
def Within (p : Int) (xs : List Int) : Prop := ∀ x ∈ xs, 0 ≤ x ∧ x < p
def gi (xs : List Int) (k : Nat) : Int := xs.getD k 0
def gr (rows : List (List Int)) (k : Nat) : List Int := rows.getD k []
def mixJ (p : Int) (rows : List (List Int)) (ws : List Int) (size : Nat) : Nat → List Int
  | 0 => List.replicate size 0
  | j + 1 => (List.range size).map fun k => (gi (mixJ p rows ws size j) k + gi ws j * gi (gr rows j) k).fmod p
theorem mixJ_len {p : Int} {rows : List (List Int)} {ws : List Int} {size : Nat} : ∀ j, (mixJ p rows ws size j).length = size
  | 0 => by simp [mixJ]
  | j + 1 => by simp [mixJ]
theorem gi_get {xs : List Int} {k : Nat} (h : k < xs.length) : xs[k]? = some (gi xs k) := by simp [gi, h]
theorem gr_get {rows : List (List Int)} {k : Nat} (h : k < rows.length) : rows[k]? = some (gr rows k) := by simp [gr, h]
theorem within_gi {p : Int} {xs : List Int} {k : Nat} (hw : Within p xs) (h : k < xs.length) : 0 ≤ gi xs k ∧ gi xs k < p := hw _ (List.mem_of_getElem? (gi_get h))
theorem ix_row {xs : List Int} {k : Nat} (h : k < xs.length) : ixO (.fz (rowD xs)) (k : Int) = some (.int (gi xs k)) := ix_items (ds := xs.map PyData.int) rfl (by rw [List.getElem?_map, gi_get h]; rfl)
theorem ix_lst {xs : List Int} {k : Nat} (h : k < xs.length) : ixO (.lst ((xs.map PyData.int).map O.fz)) (k : Int) = some (.int (gi xs k)) := ix_items (items_map _) (by rw [List.getElem?_map, gi_get h]; rfl)
theorem ix_ints {o : O} {l : Bool} {xs : List Int} {k : Nat} (ho : itemsO o = some (l, xs.map PyData.int)) (h : k < xs.length) : ixO o (k : Int) = some (.int (gi xs k)) := ix_items ho (by rw [List.getElem?_map, gi_get h]; rfl)
theorem ix_rows {o : O} {l : Bool} {xs : List (List Int)} {k : Nat} (ho : itemsO o = some (l, xs.map rowD)) (h : k < xs.length) : ixO o (k : Int) = some (rowD (gr xs k)) := ix_items ho (by rw [List.getElem?_map, gr_get h]; rfl)
theorem len_rows {o : O} {l : Bool} {xs : List (List Int)} (ho : itemsO o = some (l, xs.map rowD)) : lenO o = some (.int xs.length) := by rw [len_items ho, List.length_map]
theorem len_ints {o : O} {l : Bool} {xs : List Int} (ho : itemsO o = some (l, xs.map PyData.int)) : lenO o = some (.int xs.length) := by rw [len_items ho, List.length_map]
theorem same_flat (Fs : List O → FO) {d : PyData} (hd : Sh 0 d) : kRun (w__law_same Fs [some (.fz d), some (.fz d), none, none, none]) [0, 1] [.fz d, .fz d] = .ok (.fz (.bool true)) [.fz d, .fz d] := by
  have he := dEq_self hd (by omega)
  unfold w__law_same
  cases d with
  | none =>
    have t1 : isiO "dict" (.fz .none) = some (.bool false) := rfl
    have t2 : isiO "list" (.fz .none) = some (.bool false) := rfl
    have t3 : isiO "tuple" (.fz .none) = some (.bool false) := rfl
    walk_at "run"
  | bool b =>
    have t1 : isiO "dict" (.fz (.bool b)) = some (.bool false) := rfl
    have t2 : isiO "list" (.fz (.bool b)) = some (.bool false) := rfl
    have t3 : isiO "tuple" (.fz (.bool b)) = some (.bool false) := rfl
    have t4 : isiO "bool" (.fz (.bool b)) = some (.bool true) := rfl
    have t5 : isiO "int" (.fz (.bool b)) = some (.bool true) := rfl
    walk_at "run"
  | int b =>
    have t1 : isiO "dict" (.fz (.int b)) = some (.bool false) := rfl
    have t2 : isiO "list" (.fz (.int b)) = some (.bool false) := rfl
    have t3 : isiO "tuple" (.fz (.int b)) = some (.bool false) := rfl
    have t4 : isiO "bool" (.fz (.int b)) = some (.bool false) := rfl
    have t5 : isiO "int" (.fz (.int b)) = some (.bool true) := rfl
    walk_at "run"
  | str b =>
    have t1 : isiO "dict" (.fz (.str b)) = some (.bool false) := rfl
    have t2 : isiO "list" (.fz (.str b)) = some (.bool false) := rfl
    have t3 : isiO "tuple" (.fz (.str b)) = some (.bool false) := rfl
    have t4 : isiO "bool" (.fz (.str b)) = some (.bool false) := rfl
    have t5 : isiO "int" (.fz (.str b)) = some (.bool false) := rfl
    walk_at "run"
  | list ds => exact absurd hd.2 (by simp [PyData.depth])
  | tuple ds => exact absurd hd.2 (by simp [PyData.depth])
  | dict ds => exact absurd hd.1 (by simp [PyData.canLay0])
structure SqO (o : O) (l : Bool) (ds : List PyData) : Prop where
  items : itemsO o = some (l, ds)
  i1 : isiO "bool" o = some (.bool false)
  i2 : isiO "int" o = some (.bool false)
  i3 : isiO "str" o = some (.bool false)
  i4 : isiO "dict" o = some (.bool false)
  i5 : isiO "list" o = some (.bool l)
  i6 : isiO "tuple" o = some (.bool !l)
  fz : ∃ d, frz o = some d ∧ dIs d .none = some (.bool false)
theorem SqO.fzl (ds : List PyData) : SqO (.fz (.list ds)) true ds := ⟨rfl, rfl, rfl, rfl, rfl, rfl, rfl, _, rfl, rfl⟩
theorem SqO.fzt (ds : List PyData) : SqO (.fz (.tuple ds)) false ds := ⟨rfl, rfl, rfl, rfl, rfl, rfl, rfl, _, rfl, rfl⟩
theorem SqO.lst (ds : List PyData) : SqO (.lst (ds.map O.fz)) true ds := ⟨items_map _, rfl, rfl, rfl, rfl, rfl, rfl, _, frz_map _, rfl⟩
theorem same_seq (Fs : List O → FO) {o1 o2 : O} {l : Bool} {ds : List PyData} (h1 : SqO o1 l ds) (h2 : SqO o2 l ds) (hz : ds.length ≤ 100000)
    (hF : ∀ d ∈ ds, Fs [.fz d, .fz d] = .ok (.fz (.bool true)) [.fz d, .fz d]) : kRun (w__law_same Fs [some o1, some o2, none, none, none]) [0, 1] [o1, o2] = .ok (.fz (.bool true)) [o1, o2] := by
  have l1 := len_items h1.items
  have l2 := len_items h2.items
  have a4 := h1.i4; have a5 := h1.i5; have a6 := h1.i6
  have b4 := h2.i4; have b5 := h2.i5; have b6 := h2.i6
  have hcomp : loopC (gfN 4) tYesF (eZ (eCall Fs [none, none] [] (aCons (eIx (pVar 0) (pVar 4)) (aCons (eIx (pVar 1) (pVar 4)) aNil)))) [4] (rgD 0 ds.length) [some o1, some o2, none, none, none] [] = .ok (((List.range ds.length).map (PyData.bool ∘ fun _ => true)).map O.fz) [some o1, some o2, none, none, none] := by
    refine lc_rg (PyData.bool ∘ fun _ => true) (nat_line hz) fun k hk => ?_
    have x1 := ix_items h1.items (List.getElem?_eq_getElem hk)
    have x2 := ix_items h2.items (List.getElem?_eq_getElem hk)
    have f1 := hF ds[k] (List.getElem_mem _)
    clear h1 h2 hF l1 l2 a4 a5 a6 b4 b5 b6
    walk_at "run"
    rfl
  have hall : allO (.lst (((List.range ds.length).map (PyData.bool ∘ fun _ => true)).map O.fz)) = some (.bool true) := by
    rw [← List.map_map, allO_map]; simp
  have hln : (ds.length : Int) ≤ 100000 := by omega
  unfold w__law_same
  cases l
  · clear h1 h2 hF
    simp only [Bool.not_false, Bool.not_true] at a6 b6
    walk_at "run"
  · clear h1 h2 hF
    simp only [Bool.not_false, Bool.not_true] at a6 b6
    walk_at "run"
inductive Sm : PyData → Prop
  | non : Sm .none
  | bool (b : Bool) : Sm (.bool b)
  | int (i : Int) : Sm (.int i)
  | str (z : Str) : Sm (.str z)
  | list {ds : List PyData} : ds.length ≤ 100000 → (∀ d ∈ ds, Sm d) → Sm (.list ds)
  | tuple {ds : List PyData} : ds.length ≤ 100000 → (∀ d ∈ ds, Sm d) → Sm (.tuple ds)
theorem same_run {n : Nat} {o1 o2 : O} {r : FO} (h : kRun (w__law_same (F__law_same n) [some o1, some o2, none, none, none]) [0, 1] [o1, o2] = r) : F__law_same (n + 1) [o1, o2] = r := by
  rw [← h]; rfl
theorem same_ok : ∀ (n : Nat) (d : PyData) (o1 o2 : O), n ≤ 60 → Sh n d → Sm d → Is o1 d → Is o2 d → F__law_same (n + 1) [o1, o2] = .ok (.fz (.bool true)) [o1, o2] := by
  have flat : ∀ (n : Nat) (d : PyData) (o1 o2 : O), Sh 0 d → Is o1 d → Is o2 d → F__law_same (n + 1) [o1, o2] = .ok (.fz (.bool true)) [o1, o2] := by
    intro n d o1 o2 hd h1 h2
    have e1 : o1 = .fz d := by
      cases h1 with
      | fz => rfl
      | lst ds => exact absurd hd.2 (by simp [PyData.depth])
    have e2 : o2 = .fz d := by
      cases h2 with
      | fz => rfl
      | lst ds => exact absurd hd.2 (by simp [PyData.depth])
    subst e1; subst e2
    exact same_run (same_flat _ hd)
  intro n
  induction n with
  | zero => exact fun d o1 o2 _ hd _ h1 h2 => flat 0 d o1 o2 hd h1 h2
  | succ n ih =>
    intro d o1 o2 hn hd hm h1 h2
    cases hm with
    | list hz hm =>
      have t : ∀ {o : O} {ds : List PyData}, Is o (.list ds) → SqO o true ds := by
        intro o ds h
        cases h with
        | fz => exact .fzl _
        | lst ds => exact .lst _
      exact same_run (same_seq _ (t h1) (t h2) hz fun d hd' => ih d _ _ (by omega) (sh_listI hd d hd') (hm d hd') (.fz d) (.fz d))
    | tuple hz hm =>
      have t : ∀ {o : O} {ds : List PyData}, Is o (.tuple ds) → SqO o false ds := by
        intro o ds h
        cases h with
        | fz => exact .fzt _
      exact same_run (same_seq _ (t h1) (t h2) hz fun d hd' => ih d _ _ (by omega) (sh_tupleI hd d hd') (hm d hd') (.fz d) (.fz d))
    | _ => exact flat _ _ _ _ ⟨hd.1, by simp [PyData.depth]⟩ h1 h2
def primesL : List Int := [2, 3, 5, 7, 11, 13, 17, 19, 23, 29, 31]
theorem any_eqv (q : Int) : ∀ l : List Int, ((l.map PyData.int).any fun y => PyData.eqv y (.int q)) = decide (q ∈ l)
  | [] => by simp
  | a :: l => by
    rw [List.map_cons, List.any_cons, any_eqv q l]
    have e : PyData.eqv (.int a) (.int q) = decide (q = a) := by
      by_cases h : a = q
      · subst h; simp [PyData.eqv]
      · have h2 : ¬ q = a := fun z => h z.symm
        simp [PyData.eqv, h, h2]
    rw [e]
    by_cases h : q = a <;> simp [h]
theorem notin_primes (q : Int) : dNotIn (.int q) d_PRIMES = some (.bool (!decide (q ∈ primesL))) := by
  have e : dNotIn (.int q) d_PRIMES = some (.bool (!((primesL.map PyData.int).any fun y => PyData.eqv y (.int q)))) := rfl
  rw [e, any_eqv]
theorem need_prime_ok {p : Int} (h : p ∈ primesL) : F_need_prime [.fz (.int p)] = .ok (.fz .none) [.fz (.int p)] := by
  have h1 := notin_primes p
  unfold F_need_prime w_need_prime
  walk_at "run"
theorem is_whole_ok {x : Int} : F_is_whole [.fz (.int x)] = .ok (.fz (.bool true)) [.fz (.int x)] := by
  refine r_runR (ρ1 := [some (.fz (.int x))]) ?_ rfl
  show w_is_whole [some (.fz (.int x))] = _
  unfold w_is_whole
  apply r_ret
  apply r_eandT
  · walk_at "xp"
  · walk_at "tt"
  · apply r_enot (b := false)
    · apply r_pe
      walk_at "xp"
    · rfl
    · rfl
theorem is_within_ok {x lo hi : Int} (h1 : lo ≤ x) (h2 : x ≤ hi) : F_is_within [.fz (.int x), .fz (.int lo), .fz (.int hi)] = .ok (.fz (.bool true)) [.fz (.int x), .fz (.int lo), .fz (.int hi)] := by
  refine r_runR (ρ1 := [some (.fz (.int x)), some (.fz (.int lo)), some (.fz (.int hi))]) ?_ rfl
  show w_is_within [some (.fz (.int x)), some (.fz (.int lo)), some (.fz (.int hi))] = _
  unfold w_is_within
  have hw := @is_whole_ok x
  apply r_ret
  apply r_eandT
  · apply r_call
    · walk_at "xp"
    · exact hw
    · walk_at "xp"
  · rfl
  · apply r_chainT
    · walk_at "xp"
    · walk_at "xp"
    · rfl
    · rfl
    · rfl
    · exact decide_eq_true h1
    · walk_at "xp"
    · rfl
    · rfl
    · exact congrArg (fun b => some (PyData.bool b)) (decide_eq_true h2)
theorem all_true {α : Type} (xs : List α) : (xs.map fun _ => true).all id = true := by simp
theorem is_row_ok {p : Int} {xs : List Int} (h0 : 1 ≤ xs.length) (h1 : xs.length ≤ 12) (hw : Within p xs) : F_is_row_of [.fz (.int p), .fz (rowD xs)] = .ok (.fz (.bool true)) [.fz (.int p), .fz (rowD xs)] := by
  refine r_runR (ρ1 := [some (.fz (.int p)), some (.fz (rowD xs)), none]) ?_ rfl
  show w_is_row_of [some (.fz (.int p)), some (.fz (rowD xs)), none] = _
  unfold w_is_row_of
  have hl : lenO (.fz (rowD xs)) = some (.int xs.length) := len_ints (l := false) rfl
  have ht : isiO "tuple" (.fz (rowD xs)) = some (.bool true) := rfl
  apply r_seq
  · apply r_ifF
    · apply r_torF
      · walk_at "xp"
      · rfl
      · apply r_tnot
        apply r_tof
        apply r_chainT
        · walk_at "xp"
        · walk_at "xp"
        · rfl
        · rfl
        · rfl
        · exact decide_eq_true (by omega)
        · walk_at "xp"
        · rfl
        · rfl
        · rfl
    · simp; omega
    · walk_at "xp"
  · apply r_ret
    apply r_b1
    · apply r_pe
      apply compM xs PyData.int (PyData.bool ∘ fun _ => true) (r_fseqV (r_pv rfl) rfl rfl)
      · rfl
      · walk_at "xp"
      · rfl
      · intro k hk
        have hi := @is_within_ok k 0 (p - 1) (hw k hk).1 (by have := (hw k hk).2; omega)
        apply exEl
        · walk_at "xp"
        · apply r_z
          · apply r_call
            · walk_at "xp"
            · exact hi
            · walk_at "xp"
          · rfl
        · rfl
      · exact le_line (by omega)
    · rfl
    · rw [← List.map_map, allO_map, all_true]
def sumR (n : Nat) (f : Nat → Int) : Int := ((List.range n).map f).sum
theorem sumR_zero (f : Nat → Int) : sumR 0 f = 0 := rfl
theorem sumR_succ (n : Nat) (f : Nat → Int) : sumR (n + 1) f = sumR n f + f n := by
  simp [sumR, List.range_succ, List.map_append, List.sum_append]
theorem sumR_congr {n : Nat} {f g : Nat → Int} (h : ∀ i, i < n → f i = g i) : sumR n f = sumR n g := by
  induction n with
  | zero => rfl
  | succ n ih => rw [sumR_succ, sumR_succ, ih fun i hi => h i (by omega), h n (by omega)]
theorem sumR_mod {n : Nat} {p : Int} {f g : Nat → Int} (h : ∀ i, i < n → f i % p = g i % p) : sumR n f % p = sumR n g % p := by
  induction n with
  | zero => rfl
  | succ n ih => rw [sumR_succ, sumR_succ, Int.add_emod, ih fun i hi => h i (by omega), h n (by omega), ← Int.add_emod]
theorem sumR_mul {n : Nat} {c : Int} {f : Nat → Int} : sumR n (fun i => c * f i) = c * sumR n f := by
  induction n with
  | zero => simp [sumR_zero]
  | succ n ih => rw [sumR_succ, sumR_succ, ih, Int.mul_add]
theorem sumR_mulr {n : Nat} {c : Int} {f : Nat → Int} : sumR n (fun i => f i * c) = sumR n f * c := by
  induction n with
  | zero => simp [sumR_zero]
  | succ n ih => rw [sumR_succ, sumR_succ, ih, Int.add_mul]
theorem sumR_add {n : Nat} {f g : Nat → Int} : sumR n (fun i => f i + g i) = sumR n f + sumR n g := by
  induction n with
  | zero => simp [sumR_zero]
  | succ n ih => rw [sumR_succ, sumR_succ, sumR_succ, ih]; omega
theorem sumR_swap {n m : Nat} {f : Nat → Nat → Int} : sumR n (fun i => sumR m fun j => f i j) = sumR m fun j => sumR n fun i => f i j := by
  induction n with
  | zero =>
    have : ∀ m, sumR m (fun _ => (0 : Int)) = 0 := by
      intro m
      induction m with
      | zero => rfl
      | succ m ih => rw [sumR_succ, ih]; rfl
    simp only [sumR_zero, this]
  | succ n ih =>
    rw [sumR_succ, ih, ← sumR_add]
    exact sumR_congr fun j _ => (sumR_succ n fun i => f i j).symm
theorem sumR_shift {n : Nat} {f : Nat → Int} : sumR (n + 1) f = f 0 + sumR n fun i => f (i + 1) := by
  induction n with
  | zero => simp [sumR_succ, sumR_zero]
  | succ n ih => rw [sumR_succ, ih, sumR_succ n fun i => f (i + 1)]; omega
theorem zip_sum : ∀ {xs ys : List Int}, ys.length = xs.length → ((xs.zip ys).map fun q : Int × Int => q.1 * q.2).sum = sumR xs.length fun i => gi xs i * gi ys i
  | [], _, _ => by simp [sumR_zero]
  | x :: xs, [], h => by simp at h
  | x :: xs, y :: ys, h => by
    rw [List.length_cons, sumR_shift, List.zip_cons_cons, List.map_cons, List.sum_cons, zip_sum (xs := xs) (ys := ys) (by simpa using h)]
    rfl
theorem fm2 {a p : Int} (hp : 2 ≤ p) : a.fmod p = a % p := Int.fmod_eq_emod_of_nonneg a (by omega)
theorem gi_map {n k : Nat} {f : Nat → Int} (h : k < n) : gi ((List.range n).map f) k = f k := by
  unfold gi
  simp [h]
theorem gi_rep {n k : Nat} : gi (List.replicate n 0) k = 0 := by
  unfold gi
  rw [List.getD_eq_getElem?_getD, List.getElem?_replicate]
  split <;> rfl
theorem mix_sum {p : Int} {rows : List (List Int)} {ws : List Int} {size k : Nat} (hp : 2 ≤ p) (hk : k < size) : ∀ n, gi (mixJ p rows ws size n) k = sumR n (fun i => gi ws i * gi (gr rows i) k) % p
  | 0 => by simp [mixJ, sumR_zero, gi_rep]
  | n + 1 => by rw [mixJ, gi_map hk, fm2 hp, mix_sum hp hk n, sumR_succ, Int.emod_add_emod]
theorem ext_gi {xs ys : List Int} (h : xs.length = ys.length) (h2 : ∀ k, k < xs.length → gi xs k = gi ys k) : xs = ys := by
  apply List.ext_getElem h
  intro k a b
  have := h2 k a
  unfold gi at this
  simpa [a, b] using this
def shN (p : Int) (ts v : List Int) : List Int := (List.range ts.length).map fun i => ((if i = 0 then 0 else gi v (i - 1)) + gi v (ts.length - 1) * gi ts i) % p
def pwN (p : Int) (ts : List Int) : Nat → List Int → List Int
  | 0, v => v
  | k + 1, v => shN p ts (pwN p ts k v)
def uL (n k : Nat) : List Int := (List.range n).map fun i => if i = k then 1 else 0
def eN (p : Int) (ts : List Int) (k : Nat) : List Int := pwN p ts k (uL ts.length 0)
def cbN (p : Int) (n m : Nat) (c : Nat → Int) (V : Nat → List Int) : List Int := (List.range n).map fun i => sumR m (fun k => c k * gi (V k) i) % p
def jnN (p : Int) (ts a b : List Int) : List Int := cbN p ts.length ts.length (gi b) fun k => pwN p ts k a
section
variable {p : Int} {ts : List Int}
theorem shN_len {v : List Int} : (shN p ts v).length = ts.length := by simp [shN]
theorem shN_within (hp : 0 < p) {v : List Int} : Within p (shN p ts v) := fun x hx => by
  obtain ⟨i, _, rfl⟩ := List.mem_map.mp hx
  exact ⟨Int.emod_nonneg _ (by omega), Int.emod_lt_of_pos _ hp⟩
theorem shN_gi {v : List Int} {i : Nat} (h : i < ts.length) : gi (shN p ts v) i = ((if i = 0 then 0 else gi v (i - 1)) + gi v (ts.length - 1) * gi ts i) % p := gi_map h
theorem uL_len {n k : Nat} : (uL n k).length = n := by simp [uL]
theorem uL_gi {n k i : Nat} (h : i < n) : gi (uL n k) i = if i = k then 1 else 0 := gi_map h
theorem uL_within (hp : 2 ≤ p) {n k : Nat} : Within p (uL n k) := fun x hx => by
  obtain ⟨i, _, rfl⟩ := List.mem_map.mp hx
  split <;> omega
theorem pwN_len : ∀ {k : Nat} {v : List Int}, v.length = ts.length → (pwN p ts k v).length = ts.length
  | 0, _, h => h
  | _ + 1, _, _ => shN_len
theorem pwN_within (hp : 0 < p) : ∀ {k : Nat} {v : List Int}, Within p v → Within p (pwN p ts k v)
  | 0, _, h => h
  | _ + 1, _, _ => shN_within hp
theorem pwN_add {v : List Int} {i : Nat} : ∀ {j : Nat}, pwN p ts (i + j) v = pwN p ts j (pwN p ts i v)
  | 0 => rfl
  | j + 1 => by show shN p ts (pwN p ts (i + j) v) = _; rw [pwN_add (j := j)]; rfl
theorem eN_len {k : Nat} : (eN p ts k).length = ts.length := pwN_len uL_len
theorem eN_within (hp : 2 ≤ p) {k : Nat} : Within p (eN p ts k) := pwN_within (by omega) (uL_within hp)
theorem eN_add {i j : Nat} : eN p ts (i + j) = pwN p ts j (eN p ts i) := pwN_add
theorem eN_unit (hp : 2 ≤ p) : ∀ {k : Nat}, k < ts.length → eN p ts k = uL ts.length k
  | 0, _ => rfl
  | k + 1, h => by
    show shN p ts (eN p ts k) = _
    rw [eN_unit hp (by omega)]
    refine ext_gi (by rw [shN_len, uL_len]) fun i hi => ?_
    rw [shN_len] at hi
    rw [shN_gi hi, uL_gi hi, uL_gi (show ts.length - 1 < ts.length by omega), if_neg (show ¬ ts.length - 1 = k by omega), Int.zero_mul, Int.add_zero]
    by_cases h0 : i = 0
    · rw [if_pos h0, if_neg (by omega)]; rfl
    · rw [if_neg h0, uL_gi (by omega)]
      by_cases h1 : i - 1 = k
      · rw [if_pos h1, if_pos (by omega)]; exact Int.emod_eq_of_lt (by omega) (by omega)
      · rw [if_neg h1, if_neg (by omega)]; rfl
theorem cbN_len {n m : Nat} {c : Nat → Int} {V : Nat → List Int} : (cbN p n m c V).length = n := by simp [cbN]
theorem cbN_gi {n m i : Nat} {c : Nat → Int} {V : Nat → List Int} (h : i < n) : gi (cbN p n m c V) i = sumR m (fun k => c k * gi (V k) i) % p := gi_map h
theorem cbN_within (hp : 0 < p) {n m : Nat} {c : Nat → Int} {V : Nat → List Int} : Within p (cbN p n m c V) := fun x hx => by
  obtain ⟨i, _, rfl⟩ := List.mem_map.mp hx
  exact ⟨Int.emod_nonneg _ (by omega), Int.emod_lt_of_pos _ hp⟩
theorem cbN_congr {n m : Nat} {c c' : Nat → Int} {V V' : Nat → List Int} (h : ∀ k, k < m → c k = c' k ∧ V k = V' k) : cbN p n m c V = cbN p n m c' V' := by
  unfold cbN
  congr 1
  funext i
  congr 1
  exact sumR_congr fun k hk => by rw [(h k hk).1, (h k hk).2]
theorem emod_lin {p a b t : Int} : (a % p + b % p * t) % p = (a + b * t) % p := by
  rw [Int.emod_add_emod, Int.add_emod, Int.mul_emod, Int.emod_emod, ← Int.mul_emod, ← Int.add_emod]
theorem sh_cb (hn : 0 < ts.length) {m : Nat} {c : Nat → Int} {V : Nat → List Int} : shN p ts (cbN p ts.length m c V) = cbN p ts.length m c fun k => shN p ts (V k) := by
  refine ext_gi (by rw [shN_len, cbN_len]) fun i hi => ?_
  rw [shN_len] at hi
  rw [shN_gi hi, cbN_gi hi, cbN_gi (show ts.length - 1 < ts.length by omega)]
  have r : sumR m (fun k => c k * gi (shN p ts (V k)) i) % p = sumR m (fun k => c k * ((if i = 0 then 0 else gi (V k) (i - 1)) + gi (V k) (ts.length - 1) * gi ts i)) % p := by
    refine sumR_mod fun k _ => ?_
    rw [shN_gi hi, Int.mul_emod, Int.emod_emod, ← Int.mul_emod]
  rw [r]
  have d : sumR m (fun k => c k * ((if i = 0 then 0 else gi (V k) (i - 1)) + gi (V k) (ts.length - 1) * gi ts i)) = sumR m (fun k => c k * (if i = 0 then 0 else gi (V k) (i - 1))) + sumR m (fun k => c k * gi (V k) (ts.length - 1)) * gi ts i := by
    rw [← sumR_mulr, ← sumR_add]
    exact sumR_congr fun k _ => by rw [Int.mul_add, Int.mul_assoc]
  rw [d]
  refine Eq.trans ?_ emod_lin
  congr 2
  by_cases h0 : i = 0
  · simp only [if_pos h0, Int.mul_zero]
    have : sumR m (fun _ => (0 : Int)) = 0 := by
      clear r d
      induction m with
      | zero => rfl
      | succ m ih => rw [sumR_succ, ih]; rfl
    rw [this]; rfl
  · simp only [if_neg h0]
    rw [cbN_gi (by omega)]
theorem pw_cb (hn : 0 < ts.length) {m : Nat} {c : Nat → Int} {V : Nat → List Int} : ∀ {j : Nat}, pwN p ts j (cbN p ts.length m c V) = cbN p ts.length m c fun k => pwN p ts j (V k)
  | 0 => rfl
  | j + 1 => by
    show shN p ts (pwN p ts j _) = _
    rw [pw_cb hn (j := j), sh_cb hn]
    rfl
theorem sumR_one {n i : Nat} (h : i < n) {f : Nat → Int} : sumR n (fun k => f k * (if i = k then 1 else 0)) = f i := by
  have go : ∀ n, sumR n (fun k => f k * (if i = k then 1 else 0)) = if i < n then f i else 0 := by
    intro n
    induction n with
    | zero => rfl
    | succ n ih =>
      rw [sumR_succ, ih]
      by_cases h1 : i < n
      · rw [if_pos h1, if_neg (by omega), if_pos (by omega)]; omega
      · by_cases h2 : i = n
        · rw [if_neg h1, if_pos h2, if_pos (by omega), h2]; omega
        · rw [if_neg h1, if_neg h2, if_neg (by omega)]; omega
  rw [go, if_pos h]
theorem cb_units (hp : 2 ≤ p) {c : List Int} (hc : Within p c) (hl : c.length = ts.length) : cbN p ts.length ts.length (gi c) (fun k => uL ts.length k) = c := by
  refine ext_gi (by rw [cbN_len, hl]) fun i hi => ?_
  rw [cbN_len] at hi
  rw [cbN_gi hi]
  have : sumR ts.length (fun k => gi c k * gi (uL ts.length k) i) = sumR ts.length (fun k => gi c k * (if i = k then 1 else 0)) := sumR_congr fun k _ => by rw [uL_gi hi]
  rw [this, sumR_one hi]
  have := within_gi hc (k := i) (by omega)
  exact Int.emod_eq_of_lt this.1 this.2
theorem jn_pw (hp : 2 ≤ p) (hn : 0 < ts.length) {c : List Int} (hc : Within p c) (hl : c.length = ts.length) {i : Nat} : jnN p ts (eN p ts i) c = pwN p ts i c := by
  unfold jnN
  have h1 : cbN p ts.length ts.length (gi c) (fun k => pwN p ts k (eN p ts i)) = cbN p ts.length ts.length (gi c) (fun k => pwN p ts i (uL ts.length k)) := cbN_congr fun k hk => ⟨rfl, by
    rw [← eN_add, Nat.add_comm, eN_add, eN_unit hp hk]⟩
  rw [h1, ← pw_cb hn, cb_units hp hc hl]
theorem jn_add (hp : 2 ≤ p) (hn : 0 < ts.length) {i j : Nat} : jnN p ts (eN p ts i) (eN p ts j) = eN p ts (i + j) := by
  rw [jn_pw hp hn (eN_within hp) eN_len, Nat.add_comm, eN_add]
theorem cb_succ {n m : Nat} {c : Nat → Int} {V : Nat → List Int} : cbN p n (m + 1) c V = (List.range n).map fun i => (gi (cbN p n m c V) i + c m * gi (V m) i) % p := by
  unfold cbN
  apply List.map_congr_left
  intro i hi
  rw [gi_map (List.mem_range.mp hi), sumR_succ, Int.emod_add_emod]
theorem cb_zero {n : Nat} {c : Nat → Int} {V : Nat → List Int} : cbN p n 0 c V = List.replicate n 0 := by
  refine ext_gi (by rw [cbN_len, List.length_replicate]) fun i hi => ?_
  rw [cbN_len] at hi
  rw [cbN_gi hi, gi_rep]; rfl
end
theorem intO_t : intO (.fz (.bool true)) = some (.int 1) := rfl
theorem intO_f : intO (.fz (.bool false)) = some (.int 0) := rfl
theorem unit_ok {n k : Nat} (hn : n ≤ 1000) : F_unit [.fz (.int n), .fz (.int k)] = .ok (.fz (rowD (uL n k))) [.fz (.int n), .fz (.int k)] := by
  have q1 := intO_t
  have q2 := intO_f
  unfold F_unit w_unit
  walk_at "run"
  rw [lc_rg (fun i : Nat => PyData.int (if i = k then 1 else 0)) (nat_line (by omega)) (fun i hi => by
    by_cases h : i = k
    · have h2 : ((i : Int) = (k : Int)) := by omega
      rw [if_pos h]
      walk_at "run"
      try rfl
    · have h2 : ¬ ((i : Int) = (k : Int)) := by omega
      rw [if_neg h]
      walk_at "run"
      try rfl)]
  have e : (List.range n).map (fun i : Nat => PyData.int (if i = k then 1 else 0)) = (uL n k).map PyData.int := by unfold uL; rw [List.map_map]; rfl
  rw [e]
  have hi := items_map ((uL n k).map PyData.int)
  clear e
  walk_at "run"
  rfl
theorem atI_last {ds : List PyData} (h : ds ≠ []) : atI ds (-1) = ds[ds.length - 1]? := by
  have hp : 0 < ds.length := List.length_pos_iff.mpr h
  unfold atI ixN
  rw [if_neg (by omega), if_pos (by omega)]
  show ds[_]? = _
  congr 1
  omega
theorem ix_lastI {o : O} {l : Bool} {v : List Int} (ho : itemsO o = some (l, v.map PyData.int)) (h : v ≠ []) : ixO o (-1) = some (.int (gi v (v.length - 1))) := by
  have hp : 0 < v.length := List.length_pos_iff.mpr h
  have e : atI (v.map PyData.int) (-1) = some (.int (gi v (v.length - 1))) := by
    rw [atI_last (by simpa using h), List.length_map, List.getElem?_map, gi_get (by omega)]; rfl
  rw [ixO_eq (fun z e2 => by subst e2; cases ho), ho]
  exact e
theorem cut_last {α : Type} {ds : List α} (h : ds ≠ []) : cutG ds none (some (-1)) = ds.take (ds.length - 1) := by
  have hp : 0 < ds.length := List.length_pos_iff.mpr h
  unfold cutG HT.sIx
  simp
  omega
theorem zip_shift {v ts : List Int} (h : v.length = ts.length) : (([0] ++ v.take (v.length - 1)).zip ts) = (List.range ts.length).map fun i => ((if i = 0 then 0 else gi v (i - 1)), gi ts i) := by
  apply List.ext_getElem
  · simp; omega
  · intro i a b
    simp at a b
    rw [List.getElem_zip, List.getElem_map, List.getElem_range]
    have e2 : ts[i]'(by omega) = gi ts i := by unfold gi; rw [List.getD_eq_getElem?_getD, List.getElem?_eq_getElem (by omega)]; rfl
    rw [e2]
    congr 1
    cases i with
    | zero => rfl
    | succ i =>
      rw [if_neg (by omega)]
      show (v.take (v.length - 1))[i]'_ = _
      rw [List.getElem_take]
      unfold gi
      rw [List.getD_eq_getElem?_getD, List.getElem?_eq_getElem (by omega)]; rfl
theorem is_itemsI {o : O} {v : List Int} (h : Is o (.list (v.map PyData.int))) : itemsO o = some (true, v.map PyData.int) := by
  cases h with
  | fz => rfl
  | lst ds => exact items_map _
theorem lstI_of {o : O} {ds : List PyData} (h : itemsO o = some (true, ds)) : lstI o = some ds := by unfold lstI; rw [h]
theorem sl_list {o : O} {ds : List PyData} {lo hi : Option Int} (h : itemsO o = some (true, ds)) : slO o lo hi = some (.lst ((cutG ds lo hi).map O.fz)) := by
  unfold slO
  split
  · cases h
  · rw [h]
theorem shifted_ok {p : Int} {ts v : List Int} {ro : O} (hp : 2 ≤ p) (hp2 : p ≤ 31) (hn : 0 < ts.length) (hn2 : ts.length ≤ 12) (ht : Within p ts) (hl : v.length = ts.length) (hv : Within p v) (ho : Is ro (.list (v.map PyData.int))) :
    F_shifted [.fz (.int p), ro, .fz (rowD ts)] = .ok (.lst (((shN p ts v).map PyData.int).map O.fz)) [.fz (.int p), ro, .fz (rowD ts)] := by
  have hne : v ≠ [] := fun e => by subst e; simp at hl; omega
  have hx := ix_lastI (is_itemsI ho) hne
  have hs : slO ro none (some (-1)) = some (.lst (((v.take (v.length - 1)).map PyData.int).map O.fz)) := by
    have e : cutG (v.map PyData.int) none (some (-1)) = (v.take (v.length - 1)).map PyData.int := by rw [cut_last (by simpa using hne), List.length_map, List.map_take]
    rw [sl_list (is_itemsI ho), e]
  have hlt : (v.take (v.length - 1)).length ≤ 12 := by rw [List.length_take]; omega
  have hi2 := items_map ((v.take (v.length - 1)).map PyData.int)
  have hl2 := lstI_of (items_map ((v.take (v.length - 1)).map PyData.int))
  have hz : [PyData.int 0].length + ((v.take (v.length - 1)).map PyData.int).length ≤ sizeLine := nat_line (by simp; omega)
  have hit : itemsO (.fz (rowD ts)) = some (false, ts.map PyData.int) := rfl
  have hla := within_gi hv (k := v.length - 1) (by omega)
  have e0 : [PyData.int 0] ++ (v.take (v.length - 1)).map PyData.int = ([0] ++ v.take (v.length - 1)).map PyData.int := rfl
  have hi3 := items_map (([0] ++ v.take (v.length - 1)).map PyData.int)
  have hzp : zpD (([0] ++ v.take (v.length - 1)).map PyData.int) (ts.map PyData.int) = (List.range ts.length).map fun i => PyData.tuple [.int (if i = 0 then 0 else gi v (i - 1)), .int (gi ts i)] := by
    unfold zpD
    rw [List.zip_map, List.map_map, zip_shift hl, List.map_map]
    rfl
  have hk : (Sr.st true (([0] ++ v.take (v.length - 1)).map PyData.int)).kind = (Sr.sl false 2).kind.map not := rfl
  have hp0 : p ≠ 0 := by omega
  unfold F_shifted w_shifted
  have hvi : ∀ k, k < ts.length → 0 ≤ gi v k ∧ gi v k < p := fun k hk => within_gi hv (by omega)
  rw [hl] at hx hla hs hlt hi2 hl2 hz e0 hi3 hzp hk
  clear hl
  walk_at "run"
  have hc : kComp (gfT 2 (gsC (gfN 4) (gsC (gfN 5) gsN))) tYesF (eOp dMod (pE (eOp dAdd (pVar 4) (pE (eOp dMul (pVar 3) (pVar 5))))) (pVar 0)) [4, 5] (.ok ((Sr.st true (([0] ++ v.take (ts.length - 1)).map PyData.int)).zp (Sr.sl false 2)) [some (.fz (.int p)), some ro, some (.fz (rowD ts)), some (.fz (.int (gi v (ts.length - 1)))), none, none]) =
      .ok (.lst (((List.range ts.length).map fun i => PyData.int (((if i = 0 then 0 else gi v (i - 1)) + gi v (ts.length - 1) * gi ts i) % p)).map O.fz)) [some (.fz (.int p)), some ro, some (.fz (rowD ts)), some (.fz (.int (gi v (ts.length - 1)))), none, none] := by
    refine compS (List.range ts.length) (fun i => PyData.tuple [.int (if i = 0 then 0 else gi v (i - 1)), .int (gi ts i)]) _ rfl rfl ?_ (nat_line (by rw [List.length_range]; omega)) fun i hi => ?_
    · show ((some (([0] ++ v.take (ts.length - 1)).map PyData.int)).bind fun xs => (Sr.at _ (Sr.sl false 2)).map fun ys => zpD xs ys) = _
      rw [show Sr.at [some (.fz (.int p)), some ro, some (.fz (rowD ts)), some (.fz (.int (gi v (ts.length - 1)))), none, none] (Sr.sl false 2) = some (ts.map PyData.int) from rfl]
      exact congrArg some hzp
    · have hi := List.mem_range.mp hi
      have e1 : (if i = 0 then 0 else gi v (i - 1)) ≤ 31 ∧ 0 ≤ (if i = 0 then 0 else gi v (i - 1)) := by
        split
        · omega
        · have := hvi (i - 1) (by omega); omega
      have e2 := within_gi ht hi
      have e3 := fm2 (a := (if i = 0 then 0 else gi v (i - 1)) + gi v (ts.length - 1) * gi ts i) hp
      generalize (if i = 0 then 0 else gi v (i - 1)) = aa at *
      generalize gi ts i = bb at *
      generalize gi v (ts.length - 1) = cc at *
      clear hx hs hi2 hl2 hz e0 hi3 hzp hk hit hvi
      walk_at "run"
  rw [hc]
  have hf : ((List.range ts.length).map fun i => PyData.int (((if i = 0 then 0 else gi v (i - 1)) + gi v (ts.length - 1) * gi ts i) % p)) = (shN p ts v).map PyData.int := by unfold shN; rw [List.map_map]; rfl
  rw [hf]
  clear hc hf
  walk_at "run"
abbrev JnI (p : Int) (ts a b : List Int) (oo ro : O) (j : Nat) (ρ : En) : Prop := ∃ s7 : Option O, ρ = [some (.fz (.int p)), some oo, some ro, some (.fz (rowD ts)), some (.fz (.int ts.length)),
  some (.lst (((cbN p ts.length j (gi b) fun k => pwN p ts k a).map PyData.int).map O.fz)), some (.lst (((pwN p ts j a).map PyData.int).map O.fz)), s7, none, none]
theorem joined_ok {p : Int} {ts a b : List Int} {oo ro : O} (hp : 2 ≤ p) (hp2 : p ≤ 31) (hn : 0 < ts.length) (hn2 : ts.length ≤ 12) (ht : Within p ts) (hla : a.length = ts.length) (hwa : Within p a) (hlb : b.length = ts.length) (hwb : Within p b) (ho : Is oo (.list (a.map PyData.int))) (hr : Is ro (.list (b.map PyData.int))) :
    F_joined [.fz (.int p), oo, ro, .fz (rowD ts)] = .ok (.lst (((jnN p ts a b).map PyData.int).map O.fz)) [.fz (.int p), oo, ro, .fz (rowD ts)] := by
  have hi := is_itemsI ho
  have hir := is_itemsI hr
  have hlt : lenO (.fz (rowD ts)) = some (.int ts.length) := len_ints (l := false) rfl
  have hl0 : lstI (.lst [.fz (.int 0)]) = some [.int 0] := rfl
  have hc0 : -(2 ^ 63) ≤ (ts.length : Int) ∧ (ts.length : Int) < 2 ^ 63 ∧ [PyData.int 0].length * (ts.length : Int).toNat ≤ sizeLine := ⟨by omega, by omega, by rw [Int.toNat_natCast]; show 1 * ts.length ≤ _; rw [Nat.one_mul]; exact nat_line (by omega)⟩
  have hf0 : (List.replicate (ts.length : Int).toNat [PyData.int 0]).flatten = (List.replicate ts.length 0).map PyData.int := by
    rw [Int.toNat_natCast, flat_rep, List.map_replicate]
  unfold F_joined w_joined
  walk_at "run"
  have hz0 : (cbN p ts.length 0 (gi b) fun k => pwN p ts k a) = List.replicate ts.length 0 := cb_zero
  clear hc0 hl0 hlt
  refine forM (G := fun z => kRun (kSeq z _) _ _ = _) (xs := b) (q := PyData.int) (JnI p ts a b oo ro) rfl ?_ ?_ ⟨none, by rw [hz0, ← hf0, Int.toNat_natCast]; rfl⟩ ?_
  · rintro j _ ⟨s7, rfl⟩
    show (itemsO ro).bind _ = _
    rw [hir]; rfl
  · rintro j _ hj ⟨s7, rfl⟩
    have hs := shifted_ok (ro := .lst (((pwN p ts j a).map PyData.int).map O.fz)) hp hp2 hn hn2 ht (pwN_len hla) (pwN_within (by omega) hwa) (.lst _)
    have hbj : b[j] = gi b j := by unfold gi; rw [List.getD_eq_getElem?_getD, List.getElem?_eq_getElem hj]; rfl
    have hb := within_gi hwb hj
    rw [hbj]
    have hi5 := items_map ((cbN p ts.length j (gi b) fun k => pwN p ts k a).map PyData.int)
    have hi6 := items_map ((pwN p ts j a).map PyData.int)
    have hzp : zpD ((cbN p ts.length j (gi b) fun k => pwN p ts k a).map PyData.int) ((pwN p ts j a).map PyData.int) = (List.range ts.length).map fun i => PyData.tuple [.int (gi (cbN p ts.length j (gi b) fun k => pwN p ts k a) i), .int (gi (pwN p ts j a) i)] := by
      unfold zpD
      rw [List.zip_map, List.map_map]
      apply List.ext_getElem
      · simp [cbN_len, pwN_len hla]
      · intro i h1 h2
        simp [cbN_len, pwN_len hla] at h1 h2
        have g1 := gi_get (xs := cbN p ts.length j (gi b) fun k => pwN p ts k a) (k := i) (by rw [cbN_len]; exact h1)
        have g2 := gi_get (xs := pwN p ts j a) (k := i) (by rw [pwN_len hla]; exact h1)
        rw [List.getElem?_eq_getElem (by rw [cbN_len]; exact h1)] at g1
        rw [List.getElem?_eq_getElem (by rw [pwN_len hla]; exact h1)] at g2
        simp [Option.some.inj g1, Option.some.inj g2]
    have hcw : Within p (cbN p ts.length j (gi b) fun k => pwN p ts k a) := cbN_within (by omega)
    have hpw : Within p (pwN p ts j a) := pwN_within (by omega) hwa
    have hsu : (cbN p ts.length (j + 1) (gi b) fun k => pwN p ts k a) = (List.range ts.length).map fun i => (gi (cbN p ts.length j (gi b) fun k => pwN p ts k a) i + gi b j * gi (pwN p ts j a) i) % p := cb_succ
    have hpl := pwN_len (p := p) (k := j) hla
    have hcl := cbN_len (p := p) (n := ts.length) (m := j) (c := gi b) (V := fun k => pwN p ts k a)
    show NC _ (JnI p ts a b oo ro (j + 1))
    unfold JnI
    rw [hsu]
    clear hsu
    show NC _ (fun ρ => ∃ s7, ρ = [some (.fz (.int p)), some oo, some ro, some (.fz (rowD ts)), some (.fz (.int ts.length)), some (.lst ((((List.range ts.length).map fun i => (gi (cbN p ts.length j (gi b) fun k => pwN p ts k a) i + gi b j * gi (pwN p ts j a) i) % p).map PyData.int).map O.fz)), some (.lst (((shN p ts (pwN p ts j a)).map PyData.int).map O.fz)), s7, none, none])
    generalize (cbN p ts.length j (gi b) fun k => pwN p ts k a) = cc at *
    generalize pwN p ts j a = pp at *
    generalize gi b j = bb at *
    have hk : (Sr.sl true 5).kind = (Sr.sl true 6).kind := rfl
    have hc : kComp (gfT 2 (gsC (gfN 8) (gsC (gfN 9) gsN))) tYesF (eOp dMod (pE (eOp dAdd (pVar 8) (pE (eOp dMul (pVar 7) (pVar 9))))) (pVar 0)) [8, 9] (.ok ((Sr.sl true 5).zp (Sr.sl true 6)) [some (.fz (.int p)), some oo, some ro, some (.fz (rowD ts)), some (.fz (.int ts.length)), some (.lst ((cc.map PyData.int).map O.fz)), some (.lst ((pp.map PyData.int).map O.fz)), some (.fz (.int bb)), none, none]) =
        .ok (.lst (((List.range ts.length).map fun i => PyData.int ((gi cc i + bb * gi pp i) % p)).map O.fz)) [some (.fz (.int p)), some oo, some ro, some (.fz (rowD ts)), some (.fz (.int ts.length)), some (.lst ((cc.map PyData.int).map O.fz)), some (.lst ((pp.map PyData.int).map O.fz)), some (.fz (.int bb)), none, none] := by
      refine compS (List.range ts.length) (fun i => PyData.tuple [.int (gi cc i), .int (gi pp i)]) _ rfl rfl ?_ (nat_line (by rw [List.length_range]; omega)) fun i hi => ?_
      · clear hs
        walk_at "run"
      · have hi := List.mem_range.mp hi
        have e1 := within_gi hcw (k := i) (by omega)
        have e2 := within_gi hpw (k := i) (by omega)
        have e3 := fm2 (a := gi cc i + bb * gi pp i) hp
        have hp0 : p ≠ 0 := by omega
        generalize gi cc i = x at *
        generalize gi pp i = y at *
        clear hs hi5 hi6 hzp hir
        walk_at "run"
    have hf : ((List.range ts.length).map fun i => PyData.int ((gi cc i + bb * gi pp i) % p)) = ((List.range ts.length).map fun i => (gi cc i + bb * gi pp i) % p).map PyData.int := by rw [List.map_map]; rfl
    rw [hf] at hc
    clear hf hcw hpw hi hir
    walk_at "run"
    exact nc_nx ⟨_, rfl⟩
  · rintro _ ⟨s7, rfl⟩
    rw [hlb]
    show kRun (kSeq (.nx [some (.fz (.int p)), some oo, some ro, some (.fz (rowD ts)), some (.fz (.int ts.length)), some (.lst (((jnN p ts a b).map PyData.int).map O.fz)), _, s7, none, none]) _) _ _ = _
    clear hi hir hf0 hz0
    walk_at "run"
theorem fn_seq {m : Nat} {pr : List Nat} {a b : FS} {as : List O} : runFn m pr (sSeq a b) as = kRun (kSeq (a (entry m as)) b) pr as := rfl
theorem seqR {z : SO} {rest : FS} {pr : List Nat} {as : List O} {r : FO} (P : En → Prop) (h1 : NX z P) (h2 : ∀ ρ, P ρ → kRun (rest ρ) pr as = r) : kRun (kSeq z rest) pr as = r := by
  obtain ⟨ρ, e, h⟩ := h1
  rw [e]; exact h2 ρ h
theorem sq {a b : FS} {ρ : En} : sSeq a b ρ = kSeq (a ρ) b := rfl
theorem mod2_ok {n : Nat} : dMod (.int (n : Int)) (.int 2) = some (.int ((n % 2 : Nat) : Int)) := by
  rw [dMod_ok (by decide), Int.fmod_eq_emod_of_nonneg _ (by decide)]
  congr 2
theorem div2_ok {n : Nat} (h : n < 2 ^ 100) : dDiv (.int (n : Int)) (.int 2) = some (.int ((n / 2 : Nat) : Int)) := by
  rw [x_div (by decide) (by decide), Int.fdiv_eq_ediv_of_nonneg _ (by decide)]
  congr 2
theorem eN_one {p : Int} {ts : List Int} (hp : 2 ≤ p) (hn : ts.length = 1) (ht : Within p ts) : eN p ts 1 = ts := by
  refine ext_gi (by rw [eN_len]) fun i hi => ?_
  rw [eN_len] at hi
  show gi (shN p ts (uL ts.length 0)) i = _
  rw [shN_gi hi]
  have hi0 : i = 0 := by omega
  subst hi0
  rw [if_pos rfl, uL_gi (by omega), if_pos (by omega)]
  have := within_gi ht (k := 0) (by omega)
  rw [Int.zero_add, Int.one_mul]
  exact Int.emod_eq_of_lt this.1 this.2
abbrev RrI (p : Int) (ts : List Int) (m : Nat) (s : Nat × Nat × Nat) : En := [some (.fz (.int p)), some (.fz (rowD ts)), some (.fz (.int m)), some (.fz (.int ts.length)), some (.lst (((eN p ts s.1).map PyData.int).map O.fz)), some (.lst (((eN p ts s.2.1).map PyData.int).map O.fz)), some (.fz (.int s.2.2))]
theorem rule_row_ok {p : Int} {ts : List Int} {m : Nat} (hp : 2 ≤ p) (hp2 : p ≤ 31) (hn : 0 < ts.length) (hn2 : ts.length ≤ 12) (ht : Within p ts) (hm : m < 2 ^ 99) :
    F_rule_row [.fz (.int p), .fz (rowD ts), .fz (.int m)] = .ok (.fz (rowD (eN p ts m))) [.fz (.int p), .fz (rowD ts), .fz (.int m)] := by
  have hlt : lenO (.fz (rowD ts)) = some (.int ts.length) := len_ints (l := false) rfl
  have hu0 : F_unit [.fz (.int ts.length), .fz (.int 0)] = .ok (.fz (rowD (uL ts.length 0))) [.fz (.int ts.length), .fz (.int 0)] := unit_ok (k := 0) (by omega)
  have hu1 : F_unit [.fz (.int ts.length), .fz (.int 1)] = .ok (.fz (rowD (uL ts.length 1))) [.fz (.int ts.length), .fz (.int 1)] := unit_ok (k := 1) (by omega)
  have hi0 : itemsO (.fz (rowD (uL ts.length 0))) = some (false, (uL ts.length 0).map PyData.int) := rfl
  have hi1 : itemsO (.fz (rowD (uL ts.length 1))) = some (false, (uL ts.length 1).map PyData.int) := rfl
  have hx0 : ixO (.fz (rowD ts)) 0 = some (.int (gi ts 0)) := ix_row (k := 0) hn
  have key : ∀ G : SO → Prop, G (.nx [some (.fz (.int p)), some (.fz (rowD ts)), some (.fz (.int m)), some (.fz (.int ts.length)), some (.lst (((eN p ts m).map PyData.int).map O.fz)), some (.fz .none), some (.fz (.int 0))]) → True := fun _ _ => trivial
  clear key
  unfold F_rule_row w_rule_row
  rw [fn_seq]
  refine seqR (fun ρ => ρ = [some (.fz (.int p)), some (.fz (rowD ts)), some (.fz (.int m)), some (.fz (.int ts.length)), none, none, none]) ?_ ?_
  · walk_at "run"
    exact nx_mk rfl
  rintro _ rfl
  rw [sq]
  refine seqR (fun ρ => ρ = [some (.fz (.int p)), some (.fz (rowD ts)), some (.fz (.int m)), some (.fz (.int ts.length)), some (.lst (((eN p ts 0).map PyData.int).map O.fz)), none, none]) ?_ ?_
  · clear hu1 hi1
    walk_at "run"
    exact nx_mk rfl
  rintro _ rfl
  rw [sq]
  refine seqR (fun ρ => ρ = [some (.fz (.int p)), some (.fz (rowD ts)), some (.fz (.int m)), some (.fz (.int ts.length)), some (.lst (((eN p ts 0).map PyData.int).map O.fz)), some (.lst (((eN p ts 1).map PyData.int).map O.fz)), none]) ?_ ?_
  · clear hu0 hi0
    by_cases h1 : (1 : Int) < ts.length
    · rw [eN_unit hp (k := 1) (by omega)]
      walk_at "run"
      exact nx_mk rfl
    · have h2 : ts.length = 1 := by omega
      have e1 := eN_one hp h2 ht
      have e2 : ts = [gi ts 0] := ext_gi (by simpa using h2) fun i hi => by
        have hi0 : i = 0 := by omega
        subst hi0; rfl
      rw [e1]
      have e3 : (.lst ((ts.map PyData.int).map O.fz) : O) = .lst [.fz (.int (gi ts 0))] := by
        conv => lhs; rw [e2]
        rfl
      rw [e3]
      generalize gi ts 0 = t0 at *
      clear e2 e3 e1
      walk_at "run"
      exact nx_mk rfl
  rintro _ rfl
  clear hu0 hu1 hi0 hi1 hx0 hlt
  rw [sq]
  refine seqR (fun ρ => ρ = RrI p ts m (0, 1, m)) ?_ ?_
  · walk_at "run"
    exact nx_mk rfl
  rintro _ rfl
  rw [sq]
  refine seqR (fun ρ => ∃ b, ρ = RrI p ts m (m, b, 0)) ?_ ?_
  · refine whS (G := fun z => NX z _) (RrI p ts m) (fun s => s.2.2) (fun s => s.1 + s.2.1 * s.2.2 = m ∧ s.2.2 < 2 ^ 100) ?_ (0, 1, m) ⟨by simp, by show m < _; omega⟩
    rintro ⟨a, b, l⟩ ⟨h1, h2⟩
    dsimp only at h1 h2
    by_cases h0 : l = 0
    · left
      subst h0
      have hz : ¬ (0 : Int) < ((0 : Nat) : Int) := by decide
      refine ⟨?_, nx_mk ⟨b, by rw [show a = m by simpa using h1]⟩⟩
      unfold RrI
      dsimp only
      walk_at "run"
    · right
      have hpos : (0 : Int) < (l : Int) := by omega
      have hm2 := mod2_ok (n := l)
      have hd2 := div2_ok (n := l) h2
      have hj1 := joined_ok (oo := .lst (((eN p ts a).map PyData.int).map O.fz)) (ro := .lst (((eN p ts b).map PyData.int).map O.fz)) hp hp2 hn hn2 ht eN_len (eN_within hp) eN_len (eN_within hp) (.lst _) (.lst _)
      have hj2 := joined_ok (oo := .fz (.list ((eN p ts b).map PyData.int))) (ro := .fz (.list ((eN p ts b).map PyData.int))) hp hp2 hn hn2 ht eN_len (eN_within hp) eN_len (eN_within hp) (.fz _) (.fz _)
      rw [jn_add hp hn] at hj1 hj2
      have hfz := frz_map ((eN p ts b).map PyData.int)
      have hlt : l / 2 < l := by omega
      by_cases ho : l % 2 = 1
      · refine ⟨(a + b, b + b, l / 2), ?_, ?_, ⟨?_, by dsimp only; omega⟩, hlt⟩
        · unfold RrI
          dsimp only
          walk_at "run"
        · replace hm2 : dMod (.int (l : Int)) (.int 2) = some (.int 1) := by rw [ho] at hm2; exact hm2
          unfold RrI
          dsimp only
          generalize eN p ts a = ea at *
          generalize eN p ts b = eb at *
          clear ho
          walk_at "run"
        · dsimp only
          have hl : l = 2 * (l / 2) + l % 2 := by omega
          rw [← h1]
          generalize l / 2 = q at *
          rw [ho] at hl
          subst hl
          rw [Nat.mul_add, Nat.mul_one, Nat.add_mul, Nat.mul_left_comm]
          omega
      · have ho : l % 2 = 0 := by omega
        refine ⟨(a, b + b, l / 2), ?_, ?_, ⟨?_, by dsimp only; omega⟩, hlt⟩
        · unfold RrI
          dsimp only
          walk_at "run"
        · replace hm2 : dMod (.int (l : Int)) (.int 2) = some (.int 0) := by rw [ho] at hm2; exact hm2
          unfold RrI
          dsimp only
          generalize eN p ts a = ea at *
          generalize eN p ts b = eb at *
          clear ho hj1
          have hn2 : ¬ ((0 : Int) = 1) := by decide
          walk_at "run"
        · dsimp only
          have hl : l = 2 * (l / 2) + l % 2 := by omega
          rw [← h1]
          generalize l / 2 = q at *
          rw [ho, Nat.add_zero] at hl
          subst hl
          rw [Nat.add_mul, Nat.mul_left_comm]
          omega
  rintro _ ⟨b, rfl⟩
  have hi := items_map ((eN p ts m).map PyData.int)
  unfold RrI
  dsimp only
  walk_at "run"
  rfl
theorem sh_row {xs : List Int} : Sh 1 (rowD xs) := sh_tuple fun d hd => by
  obtain ⟨x, _, rfl⟩ := List.mem_map.mp hd
  exact sh_int
theorem sh_up {n k : Nat} {d : PyData} (h : Sh n d) (hk : n ≤ k) : Sh k d := ⟨h.1, Nat.le_trans h.2 hk⟩
theorem sm_row {xs : List Int} (h : xs.length ≤ 1000) : Sm (rowD xs) := .tuple (by rw [List.length_map]; omega) fun d hd => by
  obtain ⟨x, _, rfl⟩ := List.mem_map.mp hd
  exact .int x
abbrev spFn : List Str := ["prime", "size", "kind", "taps", "known_rows"]
def spI (p : Int) (n : Nat) (kind : Str) (td : PyData) (ks : List PyData) (os : List O) : O := .ins "Spring" spFn [.fz (.int p), .fz (.int n), .fz (.str kind), .fz td, .dct ks os]
theorem kRB : dEq (.str "rule") (.str "bare") = some (.bool false) := by rw [x_dEqS (by decide +kernel) (by decide +kernel)]; exact congrArg (fun b => some (PyData.bool b)) (by decide +kernel)
theorem kRP : dEq (.str "rule") (.str "poly") = some (.bool false) := by rw [x_dEqS (by decide +kernel) (by decide +kernel)]; exact congrArg (fun b => some (PyData.bool b)) (by decide +kernel)
theorem kRR : dNe (.str "rule") (.str "rule") = some (.bool false) := by rw [x_dNeS (by decide +kernel) (by decide +kernel)]; exact congrArg (fun b => some (PyData.bool b)) (by decide +kernel)
theorem kinR : dNotIn (.str "rule") d_KINDS = some (.bool false) := rfl
theorem need_kind_rule {p : Int} {ts : List Int} (h0 : 0 < ts.length) (h1 : ts.length ≤ 12) (hw : Within p ts) (ht : gi ts 0 ≠ 0) : F_need_kind [.fz (.int p), .fz (.int ts.length), .fz (.str "rule"), .fz (rowD ts)] = .ok (.fz .none) [.fz (.int p), .fz (.int ts.length), .fz (.str "rule"), .fz (rowD ts)] := by
  have q1 := kinR; have q2 := kRP; have q3 := kRR
  have hr := is_row_ok (p := p) (xs := ts) (by omega) h1 hw
  have hl : lenO (.fz (rowD ts)) = some (.int ts.length) := len_ints (l := false) rfl
  have hx0 : ixO (.fz (rowD ts)) 0 = some (.int (gi ts 0)) := ix_row (k := 0) h0
  unfold F_need_kind w_need_kind
  walk_at "run"
theorem init_ok {p : Int} {n : Nat} {kind : Str} {td : PyData} (hp : p ∈ primesL) (h0 : 1 ≤ n) (h1 : n ≤ 12) (hk : F_need_kind [.fz (.int p), .fz (.int n), .fz (.str kind), .fz td] = .ok (.fz .none) [.fz (.int p), .fz (.int n), .fz (.str kind), .fz td]) :
    F_Spring___init__ [.ins "Spring" [] [], .fz (.int p), .fz (.int n), .fz (.str kind), .fz td] = .ok (.fz .none) [spI p n kind td [] [], .fz (.int p), .fz (.int n), .fz (.str kind), .fz td] := by
  have h2 := need_prime_ok hp
  have h3 := is_within_ok (x := n) (lo := 1) (hi := 12) (by omega) (by omega)
  unfold F_Spring___init__ w_Spring___init__
  walk_at "run"
  rfl
theorem room_rule {p : Int} {n : Nat} {td : PyData} {ks : List PyData} {os : List O} : F_Spring_room [.vu (spI p n "rule" td ks os)] = .ok (.fz (.int 1000000000000000000)) [.vu (spI p n "rule" td ks os)] := by
  have h1 := kRB; have h2 := kRP
  unfold F_Spring_room w_Spring_room spI
  walk_at "run"
def cvD (p : Int) (ts : List Int) (k : Nat) : PyData := rowD (eN p ts k)
def ckL (ks : List Nat) : List PyData := ks.map fun k => .int (k : Nat)
def cvL (p : Int) (ts : List Int) (ks : List Nat) : List PyData := ks.map (cvD p ts)
abbrev spC (p : Int) (ts : List Int) (ks : List Nat) : O := spI p ts.length "rule" (rowD ts) (ckL ks) ((cvL p ts ks).map O.fz)
theorem ck_all {ks : List Nat} : kAll (ckL ks) = true := by
  unfold kAll ckL
  rw [List.all_map, List.all_eq_true]
  intro k _
  rfl
theorem key8_int {k : Int} : keyOf8 (.int k) = some (.num k) := rfl
theorem kIx_ck {ks : List Nat} {k : Nat} : kIx (ckL ks) (.num (k : Int)) = ks.findIdx? fun j => decide (j = k) := by
  unfold kIx ckL
  rw [List.findIdx?_map]
  congr 1
  funext j
  show decide (some (NestedKey.num (j : Int)) = some (NestedKey.num (k : Int))) = _
  by_cases h : j = k
  · subst h; simp
  · rw [decide_eq_false h, decide_eq_false]
    intro e
    injection e with e
    injection e with e
    omega
theorem frz_dctL {ks ds : List PyData} : frz (.dct ks (ds.map O.fz)) = some (.dict (ks.zip ds)) := by
  show (frzs _).map _ = _
  rw [frzs_map]; rfl
theorem zip_keys {ks ds : List PyData} (h : ks.length = ds.length) : (ks.zip ds).map (·.1) = ks := by
  exact List.map_fst_zip (by omega)
theorem dInK_ck {f : Bool → Bool} {p : Int} {ts : List Int} {ks : List Nat} {k : Nat} : dInK f (.int (k : Int)) (.dict ((ckL ks).zip (cvL p ts ks))) = some (.bool (f (decide (k ∈ ks)))) := by
  unfold dInK
  dsimp only
  rw [zip_keys (by simp [ckL, cvL]), if_pos ck_all, key8_int]
  show some (PyData.bool (f (kIx (ckL ks) (.num (k : Int))).isSome)) = _
  rw [kIx_ck, List.findIdx?_isSome]
  congr 3
  apply Bool.eq_iff_iff.mpr
  simp
theorem dPut_ck {p : Int} {ts : List Int} {ks : List Nat} {k : Nat} (h : k ∉ ks) (hl : ks.length < sizeLine) : dPut (ckL ks) ((cvL p ts ks).map O.fz) (.int (k : Int)) (.fz (rowD (eN p ts k))) = some (.dct (ckL (ks ++ [k])) ((cvL p ts (ks ++ [k])).map O.fz)) := by
  have e : kIx (ckL ks) (.num (k : Int)) = none := by
    rw [kIx_ck, List.findIdx?_eq_none_iff]
    intro j hj
    exact decide_eq_false fun e => h (e ▸ hj)
  unfold dPut
  rw [key8_int]
  show (match kIx (ckL ks) (.num (k : Int)) with | none => _ | some n => _) = _
  rw [e]
  dsimp only
  rw [if_pos (by simpa [ckL] using hl)]
  simp [ckL, cvL, cvD]
theorem kxI_ck {p : Int} {ts : List Int} {ks : List Nat} {k : Nat} (h : k ∈ ks) : kxI (ckL ks) ((cvL p ts ks).map O.fz) (.int (k : Int)) = some (.fz (rowD (eN p ts k))) := by
  unfold kxI
  rw [key8_int]
  show (kIx (ckL ks) (.num (k : Int))).bind _ = _
  rw [kIx_ck]
  cases e : ks.findIdx? fun j => decide (j = k) with
  | none =>
    rw [List.findIdx?_eq_none_iff] at e
    exact absurd (e k h) (by simp)
  | some i =>
    obtain ⟨h1, h2, _⟩ := List.findIdx?_eq_some_iff_getElem.mp e
    show ((cvL p ts ks).map O.fz)[i]? = _
    rw [List.getElem?_map]
    unfold cvL
    rw [List.getElem?_map, List.getElem?_eq_getElem h1, of_decide_eq_true h2]
    rfl
def putN (ks : List Nat) (k : Nat) : List Nat := if k ∈ ks then ks else ks ++ [k]
theorem row_rule {p : Int} {ts : List Int} {ks : List Nat} {k : Nat} (hp : 2 ≤ p) (hp2 : p ≤ 31) (hn : 0 < ts.length) (hn2 : ts.length ≤ 12) (ht : Within p ts) (hk : k < 10 ^ 18) (hl : ks.length < sizeLine) :
    F_Spring_row [spC p ts ks, .fz (.int k)] = .ok (.fz (rowD (eN p ts k))) [spC p ts (putN ks k), .fz (.int k)] := by
  have q1 := kRB; have q2 := kRP
  have q3 := room_rule (p := p) (n := ts.length) (td := rowD ts) (ks := ckL ks) (os := (cvL p ts ks).map O.fz)
  have q4 : (0 : Int) ≤ (k : Int) := by omega
  have q5 : (k : Int) < 1000000000000000000 := by omega
  have q6 := frz_dctL (ks := ckL ks) (ds := cvL p ts ks)
  have q7 := dInK_ck (f := not) (p := p) (ts := ts) (ks := ks) (k := k)
  have q8 := rule_row_ok (m := k) hp hp2 hn hn2 ht (by omega)
  clear hk
  unfold putN
  by_cases h : k ∈ ks
  · have q9 := kxI_ck (p := p) (ts := ts) h
    rw [if_pos h]
    rw [decide_eq_true h] at q7
    unfold spC spI at *
    unfold F_Spring_row w_Spring_row
    clear h q8 hl
    walk_at "run"
  · have q9 := kxI_ck (p := p) (ts := ts) (ks := ks ++ [k]) (k := k) (by simp)
    have q10 := dPut_ck (p := p) (ts := ts) h hl
    rw [if_neg h]
    rw [decide_eq_false h] at q7
    unfold spC spI at *
    unfold F_Spring_row w_Spring_row
    clear h hl
    walk_at "run"
theorem pegs_ok (b : Bag) {p : Int} {n : Nat} (hp : 2 ≤ p) (hp2 : p ≤ 31) (hn : 0 < n) (hn2 : n ≤ 12) : ∃ (ts : List Int) (b' : Bag), ts.length = n ∧ Within p ts ∧ gi ts 0 ≠ 0 ∧ F__law_pegs [b.o, .fz (.int p), .fz (.int n)] = .ok (.fz (rowD ts)) [b'.o, .fz (.int p), .fz (.int n)] := by
  obtain ⟨v, b1, v1, v2, v3⟩ := pull_ok b (p - 1) (by omega) (by omega)
  have hL : CO (loopC (gfN 3) tYesF (eZ (eCall F__law_pull [some 0, some 1] [] (aCons (eLend 0) (aCons (eLend 1) aNil)))) [3] (rgD 0 (n - 1)) [some b1.o, some (.fz (.int p)), some (.fz (.int n)), none] []) fun os ρ' => ∃ acc, os = acc.map O.fz ∧ acc.length ≤ (rgD 0 (n - 1)).length ∧ ∃ (xs : List Int) (b' : Bag), acc = xs.map PyData.int ∧ xs.length = (rgD 0 (n - 1)).length ∧ Within p xs ∧ ρ' = [some b'.o, some (.fz (.int p)), some (.fz (.int n)), none] := by
    refine lc_inv (fun j acc ρ' => ∃ (xs : List Int) (b' : Bag), acc = xs.map PyData.int ∧ xs.length = j ∧ Within p xs ∧ ρ' = [some b'.o, some (.fz (.int p)), some (.fz (.int n)), none]) ?_ ?_ ⟨[], b1, rfl, rfl, (fun x hx => by cases hx), rfl⟩
    · unfold rgD
      rw [List.length_map, List.length_range]
      exact nat_line (by omega)
    · rintro j acc d _ hd hj ⟨xs, b2, rfl, hl, hw, rfl⟩
      obtain ⟨u, b3, u1, u2, u3⟩ := pull_ok b2 p (by omega) (by omega)
      have hd2 : ∃ i : Int, d = .int i := by
        unfold rgD at hd
        rw [List.getElem?_map] at hd
        obtain ⟨i, _, e⟩ := Option.map_eq_some_iff.mp hd
        exact ⟨_, e.symm⟩
      obtain ⟨i, rfl⟩ := hd2
      clear hd v3
      walk_at "run"
      refine co_mk (.inr ⟨.int u, rfl, xs ++ [u], b3, by simp, by simp [hl], fun x hx => ?_, rfl⟩)
      rcases List.mem_append.mp hx with h | h
      · exact hw x h
      · cases List.mem_singleton.mp h; exact ⟨u1, u2⟩
  obtain ⟨_, _, hL, acc, rfl, ha, xs, b2, rfl, hxl, hxw, rfl⟩ := hL
  have hrl : (rgD 0 (n - 1)).length = n - 1 := by unfold rgD; rw [List.length_map, List.length_range]
  rw [hrl] at hxl ha
  have hsub : ((n : Int) - 1).toNat = n - 1 := by omega
  refine ⟨(1 + v) :: xs, b2, by simp [hxl]; omega, fun x hx => ?_, ?_, ?_⟩
  · rcases List.mem_cons.mp hx with h | h
    · subst h; exact ⟨by omega, by omega⟩
    · exact hxw x h
  · show (1 + v : Int) ≠ 0
    omega
  · have hi := items_map (xs.map PyData.int)
    have hz : [PyData.int (1 + v)].length + (xs.map PyData.int).length ≤ sizeLine := nat_line (by simp; omega)
    clear ha hrl hxw hxl
    unfold F__law_pegs w__law_pegs
    walk_at "run"
    rfl
theorem next_row_ok {p : Int} {ts v : List Int} (hp : 2 ≤ p) (hp2 : p ≤ 31) (hn : 0 < ts.length) (hn2 : ts.length ≤ 12) (ht : Within p ts) (hl : v.length = ts.length) (hv : Within p v) :
    F__law_next_row [.fz (.int p), .fz (rowD v), .fz (rowD ts)] = .ok (.fz (rowD (shN p ts v))) [.fz (.int p), .fz (rowD v), .fz (rowD ts)] := by
  have hne : v ≠ [] := fun e => by subst e; simp at hl; omega
  have hx := ix_lastI (o := .fz (rowD v)) (l := false) rfl hne
  have hs : slO (.fz (rowD v)) none (some (-1)) = some (.fz (rowD (v.take (v.length - 1)))) := by
    have e : cutG (v.map PyData.int) none (some (-1)) = (v.take (v.length - 1)).map PyData.int := by rw [cut_last (by simpa using hne), List.length_map, List.map_take]
    have e2 : itemsO (.fz (rowD v)) = some (false, v.map PyData.int) := rfl
    unfold slO
    split
    · rename_i h; cases h
    · rw [e2]
      dsimp only
      have h9 : HT.sIx (v.map PyData.int).length (v.map PyData.int).length (some (-1)) ≠ (v.map PyData.int).length := by
        have hp9 : 0 < v.length := List.length_pos_iff.mpr hne
        unfold HT.sIx
        simp
        omega
      rw [if_neg (fun h => h9 h.2), e]; rfl
  have hlv : lenO (.fz (rowD v)) = some (.int v.length) := len_ints (l := false) rfl
  have hla := within_gi hv (k := v.length - 1) (by omega)
  have hml : ([0] ++ v.take (v.length - 1)).length = v.length := by simp; omega
  have hmg : ∀ k : Nat, k < ts.length → ixO (.fz (.tuple (([0] ++ v.take (v.length - 1)).map PyData.int))) (k : Int) = some (.int (if k = 0 then 0 else gi v (k - 1))) := fun k hk => by
    refine Eq.trans (ix_row (k := k) (by omega)) ?_
    cases k with
    | zero => rfl
    | succ k =>
      rw [if_neg (by omega)]
      congr 2
      show gi (v.take (v.length - 1)) k = gi v k
      unfold gi
      rw [List.getD_eq_getElem?_getD, List.getD_eq_getElem?_getD, List.getElem?_take, if_pos (by omega)]
  have hz : [PyData.int 0].length + ((v.take (v.length - 1)).map PyData.int).length ≤ sizeLine := nat_line (by simp; omega)
  have e0 : [PyData.int 0] ++ (v.take (v.length - 1)).map PyData.int = ([0] ++ v.take (v.length - 1)).map PyData.int := rfl
  have ht2 : tupI (.fz (rowD (v.take (v.length - 1)))) = some ((v.take (v.length - 1)).map PyData.int) := rfl
  have hp0 : p ≠ 0 := by omega
  have hvi : ∀ k, k < ts.length → 0 ≤ gi v k ∧ gi v k < p := fun k hk => within_gi hv (by omega)
  have hn9 : ((v.length : Nat) : Int).toNat = ts.length := by omega
  rw [hl] at hx hs hlv hla hml hmg hz hn9 e0 ht2
  clear hl
  generalize ([0] ++ v.take (ts.length - 1)) = mv at *
  unfold F__law_next_row w__law_next_row
  walk_at "run"
  rw [lc_rg (fun i : Nat => PyData.int (((if i = 0 then 0 else gi v (i - 1)) + gi v (ts.length - 1) * gi ts i) % p)) (nat_line (by omega)) (fun i hi => by
    have x1 := hmg i hi
    have x2 := ix_row (xs := ts) hi
    have e1 : (if i = 0 then 0 else gi v (i - 1)) ≤ 31 ∧ 0 ≤ (if i = 0 then 0 else gi v (i - 1)) := by
      split
      · omega
      · have := hvi (i - 1) (by omega); omega
    have e2 := within_gi ht hi
    have e3 := fm2 (a := (if i = 0 then 0 else gi v (i - 1)) + gi v (ts.length - 1) * gi ts i) hp
    generalize (if i = 0 then 0 else gi v (i - 1)) = aa at *
    generalize gi ts i = bb at *
    generalize gi v (ts.length - 1) = cc at *
    clear hx hs hmg hz hvi e0 ht2 hlv
    walk_at "run")]
  have hf : ((List.range ts.length).map fun i => PyData.int (((if i = 0 then 0 else gi v (i - 1)) + gi v (ts.length - 1) * gi ts i) % p)) = (shN p ts v).map PyData.int := by unfold shN; rw [List.map_map]; rfl
  rw [hf]
  have hi := items_map ((shN p ts v).map PyData.int)
  clear hf hmg hvi
  walk_at "run"
  rfl
theorem mix_ok {p : Int} {ro wo : O} {l l' : Bool} {rows : List (List Int)} {ws : List Int} {size : Nat} (hp : 2 ≤ p) (hp2 : p ≤ 31) (hs2 : size ≤ 12) (hr : itemsO ro = some (l, rows.map rowD)) (hw : itemsO wo = some (l', ws.map PyData.int)) (hn : ws.length = rows.length) (hn2 : rows.length ≤ 1000) (h1 : ∀ r ∈ rows, r.length = size ∧ Within p r) (h2 : Within p ws) :
    F__law_mix [.fz (.int p), ro, wo, .fz (.int size)] = .ok (.fz (rowD (mixJ p rows ws size rows.length))) [.fz (.int p), ro, wo, .fz (.int size)] := by
  have hp0 : p ≠ 0 := by omega
  have hl := len_rows hr
  suffices h : RT (w__law_mix [some (.fz (.int p)), some ro, some wo, some (.fz (.int size)), none, none, none]) fun o ρ => ∃ as', finA [0, 1, 2, 3] ρ 0 [.fz (.int p), ro, wo, .fz (.int size)] = some as' ∧ o = .fz (rowD (mixJ p rows ws size rows.length)) ∧ as' = [.fz (.int p), ro, wo, .fz (.int size)] by
    obtain ⟨o, as', h1, rfl, rfl⟩ := run_rt (m := 7) (prot := [0, 1, 2, 3]) (body := w__law_mix) (as := [.fz (.int p), ro, wo, .fz (.int size)]) h
    exact h1
  unfold w__law_mix
  apply seqS (G := fun out => RT out _)
  · apply r_set
    · apply r_rep
      · walk_at "xp"
      · walk_at "xp"
      · rfl
      · rfl
      · rfl
      · exact ⟨by omega, by omega, by rw [Int.toNat_natCast]; show 1 * size ≤ _; rw [Nat.one_mul]; exact le_line (by omega)⟩
    · walk_at "xp"
    · walk_at "xp"
  · refine seqNX (P := fun ρ => ∃ s5, ρ = [some (.fz (.int p)), some ro, some wo, some (.fz (.int size)), some (.lst (((mixJ p rows ws size rows.length).map PyData.int).map O.fz)), s5, none]) (G := fun out => RT out _) ?_ ?_
    · apply nxFor (fun j ρ => ∃ s5, ρ = [some (.fz (.int p)), some ro, some wo, some (.fz (.int size)), some (.lst (((mixJ p rows ws size j).map PyData.int).map O.fz)), s5, none])
      · walk_at "xp"
      · rfl
      · exact rg_at
      · refine ⟨none, ?_⟩
        rw [Int.toNat_natCast, flat_rep]
        simp [mixJ]
      · exact fun _ _ _ _ => rg_at
      · rintro j _ d hd ⟨s5, rfl⟩
        rw [List.getElem?_map] at hd
        obtain ⟨k, c1, c2⟩ := Option.map_eq_some_iff.mp hd
        subst c2
        obtain ⟨c3, c4⟩ := List.getElem?_eq_some_iff.mp c1
        rw [List.getElem_range] at c4
        subst c4
        rw [List.length_range] at c3
        have e1 := ix_ints hw (k := j) (by omega)
        have e2 := ix_rows hr c3
        have e3 := h1 (gr rows j) (List.mem_of_getElem? (gr_get c3))
        have e4 := within_gi h2 (k := j) (by omega)
        apply exFor
        · walk_at "xp"
        · apply nx_of
          · apply r_set
            · apply compM (List.range size) (fun k : Nat => .int k) (fun k : Nat => .int ((gi (mixJ p rows ws size j) k + gi ws j * gi (gr rows j) k).fmod p))
              · walk_at "xp"
              · rfl
              · walk_at "xp"
              · exact rg_at
              · intro k hk
                have hk := List.mem_range.mp hk
                have e5 := ix_lst (xs := mixJ p rows ws size j) (k := k) (by rw [mixJ_len]; exact hk)
                have e6 := ix_row (xs := gr rows j) (k := k) (by omega)
                have e7 := within_gi e3.2 (k := k) (by omega)
                apply exEl
                · walk_at "xp"
                · walk_at "xp"
                · walk_at "xp"
              · rw [List.length_range]; exact le_line (by omega)
            · walk_at "xp"
            · walk_at "xp"
          · refine ⟨some (.fz (.int j)), ?_⟩
            simp only [mixJ, List.map_map]
            rfl
      · rintro _ ⟨s5, rfl⟩
        rw [List.length_map, List.length_range]
        exact ⟨s5, rfl⟩
    · rintro _ ⟨s5, rfl⟩
      have hi := items_map ((mixJ p rows ws size rows.length).map PyData.int)
      apply rt_of
      · walk_at "xp"
      · exact ⟨_, rfl, rfl, rfl⟩
def dotv (p : Int) (xs ys : List Int) : Int := Int.fmod ((xs.zip ys).map fun q : Int × Int => q.1 * q.2).sum p
theorem zpD_int (xs ys : List Int) : zpD (xs.map PyData.int) (ys.map PyData.int) = (xs.zip ys).map fun q : Int × Int => PyData.tuple [.int q.1, .int q.2] := by
  unfold zpD
  rw [List.zip_map, List.map_map]
  rfl
theorem dot_ok {p : Int} {o1 o2 : O} {l : Bool} {xs ys : List Int} (hp : 2 ≤ p) (hp2 : p ≤ 31) (h1 : itemsO o1 = some (l, xs.map PyData.int)) (h2 : itemsO o2 = some (l, ys.map PyData.int)) (w1 : Within p xs) (w2 : Within p ys) (hz : xs.length ≤ 1000) : F_dot [.fz (.int p), o1, o2] = .ok (.fz (.int (dotv p xs ys))) [.fz (.int p), o1, o2] := by
  refine r_runR (ρ1 := [some (.fz (.int p)), some o1, some o2, none, none]) ?_ rfl
  show w_dot [some (.fz (.int p)), some o1, some o2, none, none] = _
  unfold w_dot
  have hp0 : p ≠ 0 := by omega
  have hat : (Sr.zp (.sl l 1) (.sl l 2)).at [some (.fz (.int p)), some o1, some o2, none, none] = some ((xs.zip ys).map fun q => .tuple [.int q.1, .int q.2]) := by
    have a1 : (Sr.sl l 1).at [some (.fz (.int p)), some o1, some o2, none, none] = some (xs.map PyData.int) := by
      show (itemsO o1).bind _ = _
      rw [h1]; simp
    have a2 : (Sr.sl l 2).at [some (.fz (.int p)), some o1, some o2, none, none] = some (ys.map PyData.int) := by
      show (itemsO o2).bind _ = _
      rw [h2]; simp
    show ((Sr.sl l 1).at _).bind _ = _
    rw [a1]
    show ((Sr.sl l 2).at _).map _ = _
    rw [a2]
    show some (zpD _ _) = _
    rw [zpD_int]
  apply r_ret
  apply r_op
  · apply r_pe
    apply r_b1
    · apply r_pe
      apply compM (xs.zip ys) (fun q => .tuple [.int q.1, .int q.2]) (PyData.int ∘ fun q : Int × Int => q.1 * q.2) (r_zip (r_fseqV (r_pv rfl) rfl h1) (r_fseqV (r_pv rfl) rfl h2) hat rfl)
      · rfl
      · walk_at "xp"
      · exact hat
      · rintro ⟨x, y⟩ hk
        have m1 := w1 x (List.of_mem_zip hk).1
        have m2 := w2 y (List.of_mem_zip hk).2
        apply exEl
        · rfl
        · walk_at "xp"
        · rfl
      · exact le_line (by rw [List.length_zip]; omega)
    · rfl
    · rw [← List.map_map, sumO_map]
  · walk_at "xp"
  · rfl
  · rfl
  · exact dMod_ok hp0
theorem dotv_sum {p : Int} {xs ys : List Int} (hp : 2 ≤ p) (h : ys.length = xs.length) : dotv p xs ys = sumR xs.length (fun i => gi xs i * gi ys i) % p := by
  unfold dotv
  rw [fm2 hp, zip_sum h]
def dotJ (p : Int) (xs ys : List Int) : Nat → Int
  | 0 => 0
  | j + 1 => (dotJ p xs ys j + gi xs j * gi ys j).fmod p
theorem law_dot_ok {p : Int} {xs ys : List Int} (hp : 2 ≤ p) (hp2 : p ≤ 31) (w1 : Within p xs) (w2 : Within p ys) (hn : ys.length = xs.length) (hz : xs.length ≤ 1000) : F__law_dot [.fz (.int p), .fz (rowD xs), .fz (rowD ys)] = .ok (.fz (.int (dotJ p xs ys xs.length))) [.fz (.int p), .fz (rowD xs), .fz (rowD ys)] := by
  suffices h : RT (w__law_dot [some (.fz (.int p)), some (.fz (rowD xs)), some (.fz (rowD ys)), none, none]) fun o ρ => ∃ as', finA [0, 1, 2] ρ 0 [.fz (.int p), .fz (rowD xs), .fz (rowD ys)] = some as' ∧ o = .fz (.int (dotJ p xs ys xs.length)) ∧ as' = [.fz (.int p), .fz (rowD xs), .fz (rowD ys)] by
    obtain ⟨o, as', h1, rfl, rfl⟩ := run_rt (m := 5) (prot := [0, 1, 2]) (body := w__law_dot) (as := [.fz (.int p), .fz (rowD xs), .fz (rowD ys)]) h
    exact h1
  have hp0 : p ≠ 0 := by omega
  have hl : lenO (.fz (rowD xs)) = some (.int xs.length) := len_ints (l := false) rfl
  unfold w__law_dot
  apply seqS (G := fun out => RT out _)
  · walk_at "xp"
  refine seqNX (P := fun ρ => ∃ s4, ρ = [some (.fz (.int p)), some (.fz (rowD xs)), some (.fz (rowD ys)), some (.fz (.int (dotJ p xs ys xs.length))), s4]) (G := fun out => RT out _) ?_ ?_
  · apply nxFor (fun j ρ => ∃ s4, ρ = [some (.fz (.int p)), some (.fz (rowD xs)), some (.fz (rowD ys)), some (.fz (.int (dotJ p xs ys j))), s4])
    · walk_at "xp"
    · rfl
    · exact rg_at
    · exact ⟨_, rfl⟩
    · exact fun _ _ _ _ => rg_at
    · rintro j _ d hd ⟨s4, rfl⟩
      rw [List.getElem?_map] at hd
      obtain ⟨k, c1, c2⟩ := Option.map_eq_some_iff.mp hd
      subst c2
      obtain ⟨c3, c4⟩ := List.getElem?_eq_some_iff.mp c1
      rw [List.getElem_range] at c4
      subst c4
      rw [List.length_range] at c3
      have e1 := ix_row (xs := xs) (k := j) c3
      have e2 := ix_row (xs := ys) (k := j) (by omega)
      have e3 := within_gi w1 (k := j) c3
      have e4 := within_gi w2 (k := j) (by omega)
      apply exFor
      · walk_at "xp"
      · apply nx_of
        · walk_at "xp"
        · exact ⟨_, rfl⟩
    · rw [List.length_map, List.length_range]; exact fun _ h => h
  · rintro _ ⟨s4, rfl⟩
    apply rt_of
    · walk_at "xp"
    · exact ⟨_, rfl, rfl, rfl⟩
theorem dotJ_sum {p : Int} {xs ys : List Int} (hp : 2 ≤ p) : ∀ n, dotJ p xs ys n = sumR n (fun i => gi xs i * gi ys i) % p
  | 0 => by simp [dotJ, sumR_zero]
  | n + 1 => by rw [dotJ, fm2 hp, dotJ_sum hp n, sumR_succ, Int.emod_add_emod]
theorem dot_same {p : Int} {xs ys : List Int} (hp : 2 ≤ p) (h : ys.length = xs.length) : dotJ p xs ys xs.length = dotv p xs ys := by rw [dotJ_sum hp, dotv_sum hp h]
theorem dNe_self {n : Nat} {d : PyData} (h : Sh n d) (hn : n ≤ 64) : dNe d d = some (.bool false) := by
  have e := dEq_self h hn
  unfold dEq at e
  unfold dNe
  rw [sh_shaped h hn] at *
  simp at e ⊢
  exact e
section
variable {p : Int} {ts : List Int}
theorem gr_map {n k : Nat} {f : Nat → List Int} (h : k < n) : gr ((List.range n).map f) k = f k := by
  unfold gr
  rw [List.getD_eq_getElem?_getD, List.getElem?_map, List.getElem?_range h]; rfl
theorem mix_eN (hp : 2 ≤ p) (hn : 0 < ts.length) {a b : Nat} : mixJ p ((List.range ts.length).map fun k => eN p ts (b + k)) (eN p ts a) ts.length ts.length = eN p ts (a + b) := by
  rw [Nat.add_comm a b, ← jn_add hp hn]
  refine ext_gi (by rw [mixJ_len]; unfold jnN; rw [cbN_len]) fun i hi => ?_
  rw [mixJ_len] at hi
  rw [mix_sum hp hi]
  unfold jnN
  rw [cbN_gi hi]
  congr 1
  refine sumR_congr fun k hk => ?_
  rw [gr_map hk, eN_add]
theorem eN_top (hp : 2 ≤ p) (hn : 0 < ts.length) (ht : Within p ts) : eN p ts ts.length = ts := by
  refine ext_gi (by rw [eN_len]) fun i hi => ?_
  rw [eN_len] at hi
  have e : ts.length = (ts.length - 1) + 1 := by omega
  rw [e]
  show gi (shN p ts (eN p ts (ts.length - 1))) i = _
  rw [eN_unit hp (by omega), shN_gi hi, uL_gi (show ts.length - 1 < ts.length by omega), if_pos rfl, Int.one_mul]
  have hw := within_gi ht hi
  by_cases h0 : i = 0
  · rw [if_pos h0, Int.zero_add]; exact Int.emod_eq_of_lt hw.1 hw.2
  · rw [if_neg h0, uL_gi (by omega), if_neg (by omega), Int.zero_add]; exact Int.emod_eq_of_lt hw.1 hw.2
theorem far_cell (hp : 2 ≤ p) (hn : 0 < ts.length) (ht : Within p ts) {sd : List Int} (hs : sd.length = ts.length) {far : Nat} :
    dotv p (eN p ts (far + ts.length)) sd = dotJ p ts ((List.range ts.length).map fun k => dotv p (eN p ts (far + k)) sd) ts.length := by
  rw [dotv_sum hp (by rw [eN_len]; exact hs), dotJ_sum hp, eN_len]
  have h1 : ∀ i, i < ts.length → gi (eN p ts (far + ts.length)) i = sumR ts.length (fun k => gi ts k * gi (eN p ts (far + k)) i) % p := fun i hi => by
    rw [← jn_add hp hn, eN_top hp hn ht]
    unfold jnN
    rw [cbN_gi hi]
    congr 1
    exact sumR_congr fun k _ => by rw [eN_add]
  have h2 : ∀ k, k < ts.length → gi ((List.range ts.length).map fun k => dotv p (eN p ts (far + k)) sd) k = sumR ts.length (fun i => gi (eN p ts (far + k)) i * gi sd i) % p := fun k hk => by
    rw [gi_map hk, dotv_sum hp (by rw [eN_len]; exact hs), eN_len]
  have l : sumR ts.length (fun i => gi (eN p ts (far + ts.length)) i * gi sd i) % p = sumR ts.length (fun i => sumR ts.length fun k => gi ts k * gi (eN p ts (far + k)) i * gi sd i) % p := by
    refine sumR_mod fun i hi => ?_
    rw [h1 i hi, Int.mul_emod, Int.emod_emod, ← Int.mul_emod, sumR_mulr]
  have r : sumR ts.length (fun k => gi ts k * gi ((List.range ts.length).map fun k => dotv p (eN p ts (far + k)) sd) k) % p = sumR ts.length (fun k => sumR ts.length fun i => gi ts k * gi (eN p ts (far + k)) i * gi sd i) % p := by
    refine sumR_mod fun k hk => ?_
    rw [h2 k hk, Int.mul_emod, Int.emod_emod, ← Int.mul_emod, ← sumR_mul]
    congr 1
    exact sumR_congr fun i _ => by rw [Int.mul_assoc]
  rw [l, r, sumR_swap]
end
abbrev TbI (p : Int) (ts : List Int) (m : Nat) (j : Nat) (ρ : En) : Prop := ∃ s6 s7 : Option O, ρ = [some (.fz (.int p)), some (.fz (.int ts.length)), some (.fz (.str "rule")), some (.fz (rowD ts)), some (.fz (.int m)), some (.lst (((List.range j).map fun k => rowD (eN p ts k)).map O.fz)), s6, s7, none]
theorem table_ok {p : Int} {ts : List Int} (hp : 2 ≤ p) (hp2 : p ≤ 31) (hn : 0 < ts.length) (hn2 : ts.length ≤ 12) (ht : Within p ts) {m : Nat} (hm : m ≤ 1000) :
    F__law_table [.fz (.int p), .fz (.int ts.length), .fz (.str "rule"), .fz (rowD ts), .fz (.int m)] = .ok (.lst (((List.range m).map fun k => rowD (eN p ts k)).map O.fz)) [.fz (.int p), .fz (.int ts.length), .fz (.str "rule"), .fz (rowD ts), .fz (.int m)] := by
  have q1 := kRP
  have hrg : ∀ j, j < m → (rgD 0 m)[j]? = some (.int (j : Nat)) := fun j hj => by unfold rgD; rw [List.getElem?_map, List.getElem?_range hj]; simp
  have hrl : (rgD 0 m).length = m := by unfold rgD; rw [List.length_map, List.length_range]
  unfold F__law_table w__law_table
  walk_at "run"
  refine loop_ret (Q := fun z => kRun (kSeq z _) _ _ = _) (TbI p ts m) ?_ ⟨none, none, rfl⟩ ?_
  · rintro j d _ hd ⟨s6, s7, rfl⟩
    left
    have hj : j < m := by
      have := (List.getElem?_eq_some_iff.mp hd).1
      rwa [hrl] at this
    rw [hrg j hj] at hd
    cases hd
    have hap : ∀ r : PyData, ((List.range j).map fun k => rowD (eN p ts k)).map O.fz ++ [.fz r] = (((List.range j).map fun k => rowD (eN p ts k)) ++ [r]).map O.fz := fun r => by simp
    have hra : (List.range (j + 1)).map (fun k => rowD (eN p ts k)) = ((List.range j).map fun k => rowD (eN p ts k)) ++ [rowD (eN p ts j)] := by rw [List.range_succ, List.map_append]; rfl
    refine ⟨[some (.fz (.int p)), some (.fz (.int ts.length)), some (.fz (.str "rule")), some (.fz (rowD ts)), some (.fz (.int m)), some (.lst (((List.range (j + 1)).map fun k => rowD (eN p ts k)).map O.fz)), some (.fz (.int (j : Nat))), s7, none], .inl ?_, _, _, rfl⟩
    rw [hra, ← hap]
    clear hra hap hrg hrl
    have hal : ∀ (x : PyData), ((((List.range j).map fun k => rowD (eN p ts k)).map O.fz).length < sizeLine) := fun _ => by
      rw [List.length_map, List.length_map, List.length_range]
      exact Nat.lt_of_lt_of_le (show j < 2000 by omega) (nat_line (by decide))
    by_cases hlt : j < ts.length
    · have hlt2 : (j : Int) < (ts.length : Int) := by omega
      have hlt3 : ((ts.length : Nat) : Int).toNat = ts.length := by omega
      have hrow := eN_unit (p := p) (ts := ts) hp hlt
      have hL : loopC (gfN 8) tYesF (eB1 intO (pE (eOp dEq (pVar 8) (pVar 6)))) [8] (rgD 0 ts.length) [some (.fz (.int p)), some (.fz (.int ts.length)), some (.fz (.str "rule")), some (.fz (rowD ts)), some (.fz (.int m)), some (.lst (((List.range j).map fun k => rowD (eN p ts k)).map O.fz)), some (.fz (.int (j : Nat))), s7, none] [] = .ok (((eN p ts j).map PyData.int).map O.fz) [some (.fz (.int p)), some (.fz (.int ts.length)), some (.fz (.str "rule")), some (.fz (rowD ts)), some (.fz (.int m)), some (.lst (((List.range j).map fun k => rowD (eN p ts k)).map O.fz)), some (.fz (.int (j : Nat))), s7, none] := by
        have e9 : (eN p ts j).map PyData.int = (List.range ts.length).map (PyData.int ∘ fun i : Nat => if i = j then 1 else 0) := by rw [hrow]; unfold uL; rw [List.map_map]
        rw [e9]
        clear e9
        refine lc_rg (PyData.int ∘ fun i : Nat => if i = j then 1 else 0) (nat_line (n := ts.length) (by omega)) (fun i hi => ?_)
        have q1 := intO_t
        have q2 := intO_f
        show _ = Out.ok (some (O.fz (PyData.int (if i = j then 1 else 0)))) _
        clear hal hj hlt hlt2 hrow
        by_cases h : i = j
        · have h2 : ((i : Int) = (j : Int)) := by omega
          rw [if_pos h]
          walk_at "run"
          try rfl
        · have h2 : ¬ ((i : Int) = (j : Int)) := by omega
          rw [if_neg h]
          walk_at "run"
          try rfl
      have hi := items_map ((eN p ts j).map PyData.int)
      have hal := hal .none
      clear hrow
      walk_at "run"
      try rfl
    · have hlt2 : ¬ (j : Int) < (ts.length : Int) := by omega
      have hnr := next_row_ok hp hp2 hn hn2 ht eN_len (eN_within hp (k := j - 1))
      have e : shN p ts (eN p ts (j - 1)) = eN p ts j := by
        have e2 : j = (j - 1) + 1 := by omega
        conv => rhs; rw [e2]
        rfl
      rw [e] at hnr
      have hix : ixO (.lst (((List.range j).map fun k => rowD (eN p ts k)).map O.fz)) (-1) = some (rowD (eN p ts (j - 1))) := by
        have e4 : atI ((List.range j).map fun k => rowD (eN p ts k)) (-1) = some (rowD (eN p ts (j - 1))) := by
          rw [atI_last (by intro e9; have := congrArg List.length e9; simp at this; omega), List.length_map, List.length_range, List.getElem?_map, List.getElem?_range (by omega)]; rfl
        rw [ixO_eq (fun z e2 => by cases e2), items_map]
        exact e4
      have hal := hal .none
      clear e
      walk_at "run"
  · rintro _ ⟨s6, s7, rfl⟩
    rw [hrl]
    clear hrg hrl
    walk_at "run"
theorem need_seed_ok {p : Int} {ts sd : List Int} {ks : List PyData} {os : List O} (hl : sd.length = ts.length) (h0 : 0 < ts.length) (h1 : ts.length ≤ 12) (hw : Within p sd) :
    F_Spring_need_seed [.vu (spI p ts.length "rule" (rowD ts) ks os), .fz (rowD sd)] = .ok (.fz .none) [.vu (spI p ts.length "rule" (rowD ts) ks os), .fz (rowD sd)] := by
  have hr := is_row_ok (p := p) (xs := sd) (by omega) (by omega) hw
  have hn : lenO (.fz (rowD sd)) = some (.int ts.length) := by rw [len_ints (l := false) rfl, hl]
  unfold F_Spring_need_seed w_Spring_need_seed spI
  clear hl hw
  walk_at "run"
theorem putN_len {ks : List Nat} {k : Nat} : (putN ks k).length ≤ ks.length + 1 := by
  unfold putN
  split
  · omega
  · simp
theorem cells_ok {p : Int} {ts sd : List Int} {ks pl : List Nat} (hp : 2 ≤ p) (hp2 : p ≤ 31) (hn : 0 < ts.length) (hn2 : ts.length ≤ 12) (ht : Within p ts) (hl : sd.length = ts.length) (hw : Within p sd) (hb : ∀ k ∈ pl, k < 10 ^ 18) (hz : ks.length + pl.length ≤ 10000) :
    ∃ ks' : List Nat, ks'.length ≤ ks.length + pl.length ∧ F_Spring_cells [spC p ts ks, .fz (rowD sd), .lst ((pl.map fun k : Nat => PyData.int k).map O.fz)] = .ok (.lst (((pl.map fun k => dotv p (eN p ts k) sd).map PyData.int).map O.fz)) [spC p ts ks', .fz (rowD sd), .lst ((pl.map fun k : Nat => PyData.int k).map O.fz)] := by
  have hns := need_seed_ok (p := p) (ts := ts) (ks := ckL ks) (os := (cvL p ts ks).map O.fz) hl hn hn2 hw
  have hC : ∃ ks' : List Nat, ks'.length ≤ ks.length + pl.length ∧ kComp (gfN 3) tYesF (eZ (eCall F_dot [none, none, some 1] [] (aCons (eFld "Spring" "prime" 0 (pVar 0)) (aCons (eMeth "Spring" [("prime" : Str), ("size" : Str), ("kind" : Str), ("taps" : Str), ("known_rows" : Str)] F_Spring_row 0 [some 3] [] (aCons (eLend 3) aNil)) (aCons (eLend 1) aNil))))) [3] (.ok (.sl true 2) [some (spC p ts ks), some (.fz (rowD sd)), some (.lst ((pl.map fun k : Nat => PyData.int k).map O.fz)), none]) = .ok (.lst (((pl.map fun k => dotv p (eN p ts k) sd).map PyData.int).map O.fz)) [some (spC p ts ks'), some (.fz (rowD sd)), some (.lst ((pl.map fun k : Nat => PyData.int k).map O.fz)), none] := by
    refine compG (xs := pl) (q := fun k : Nat => PyData.int k) (G := fun z => ∃ ks' : List Nat, ks'.length ≤ ks.length + pl.length ∧ z = .ok (.lst (((pl.map fun k => dotv p (eN p ts k) sd).map PyData.int).map O.fz)) [some (spC p ts ks'), some (.fz (rowD sd)), some (.lst ((pl.map fun k : Nat => PyData.int k).map O.fz)), none]) (fun j acc ρ => ∃ ks' : List Nat, ks'.length ≤ ks.length + j ∧ acc = ((pl.take j).map fun k => dotv p (eN p ts k) sd).map PyData.int ∧ ρ = [some (spC p ts ks'), some (.fz (rowD sd)), some (.lst ((pl.map fun k : Nat => PyData.int k).map O.fz)), none]) rfl ?_ (nat_line (by omega)) ?_ ⟨ks, by omega, rfl, rfl⟩ ?_
    · rintro j acc _ ⟨ks', _, _, rfl⟩
      show (itemsO _).bind _ = _
      rw [items_map]; rfl
    · rintro j acc _ hj ha ⟨ks', h1, rfl, rfl⟩
      have hr := row_rule (ks := ks') (k := pl[j]) hp hp2 hn hn2 ht (hb _ (List.getElem_mem hj)) (Nat.lt_of_lt_of_le (show ks'.length < 20000 by omega) (nat_line (by decide)))
      have hd := dot_ok (o1 := .fz (rowD (eN p ts pl[j]))) (o2 := .fz (rowD sd)) (l := false) hp hp2 rfl rfl (eN_within hp) hw (by rw [eN_len]; omega)
      have hpu := putN_len (ks := ks') (k := pl[j])
      have htk : pl.take (j + 1) = pl.take j ++ [pl[j]] := by rw [List.take_add_one, List.getElem?_eq_getElem hj]; rfl
      clear hns hb
      unfold spC spI at *
      generalize pl[j] = k at *
      walk_at "run"
      refine co_mk ⟨_, rfl, putN ks' k, by omega, ?_, rfl⟩
      try rw [htk]
      simp
    · rintro acc _ ha ⟨ks', h1, rfl, rfl⟩
      exact ⟨ks', h1, by rw [List.take_of_length_le (Nat.le_refl _)]⟩
  obtain ⟨ks', h1, hC⟩ := hC
  refine ⟨ks', h1, ?_⟩
  have hi := items_map (pl.map fun k : Nat => PyData.int k)
  clear hb hz h1 hl hw
  unfold spC spI at *
  unfold F_Spring_cells w_Spring_cells
  walk_at "run"
abbrev LaE (scr : PyData) (bo : O) (p : Int) (ts : List Int) (ks : List Nat) (s6 s7 s8 s9 s10 s11 : Option O) : En := [some (.fz scr), some bo, some (.fz (.int p)), some (.fz (.int ts.length)), some (.fz (rowD ts)), some (spC p ts ks), s6, s7, s8, s9, s10, s11, none]
theorem rows_at {m : Nat} (j : Nat) {d : PyData} (hd : (rgD 0 m)[j]? = some d) : j < m ∧ d = .int (j : Nat) := by
  unfold rgD at hd
  rw [List.getElem?_map] at hd
  obtain ⟨i, h1, h2⟩ := Option.map_eq_some_iff.mp hd
  obtain ⟨h3, h4⟩ := List.getElem?_eq_some_iff.mp h1
  rw [List.getElem_range] at h4
  rw [List.length_range] at h3
  subst h4
  exact ⟨h3, by rw [← h2]; simp⟩
theorem rg_len {lo : Int} {m : Nat} : (rgD lo m).length = m := by unfold rgD; rw [List.length_map, List.length_range]
theorem rows_lc {scr : PyData} {bo : O} {p : Int} {ts : List Int} {ks : List Nat} {s6 s7 s8 s9 s10 s11 : Option O} {m : Nat} (hp : 2 ≤ p) (hp2 : p ≤ 31) (hn : 0 < ts.length) (hn2 : ts.length ≤ 12) (ht : Within p ts) (hz : ks.length + m ≤ 10000) :
    ∃ ks' : List Nat, ks'.length ≤ ks.length + m ∧ loopC (gfN 12) tYesF (eZ (eMeth "Spring" [("prime" : Str), ("size" : Str), ("kind" : Str), ("taps" : Str), ("known_rows" : Str)] F_Spring_row 5 [some 12] [] (aCons (eLend 12) aNil))) [12] (rgD 0 m) (LaE scr bo p ts ks s6 s7 s8 s9 s10 s11) [] = .ok (((List.range m).map fun k => rowD (eN p ts k)).map O.fz) (LaE scr bo p ts ks' s6 s7 s8 s9 s10 s11) := by
  obtain ⟨_, _, h, acc, rfl, _, ks', h1, rfl, rfl⟩ := lc_inv (gF := gfN 12) (t := tYesF) (f := eZ (eMeth "Spring" [("prime" : Str), ("size" : Str), ("kind" : Str), ("taps" : Str), ("known_rows" : Str)] F_Spring_row 5 [some 12] [] (aCons (eLend 12) aNil))) (vs := [12]) (ds := rgD 0 m) (ρ := LaE scr bo p ts ks s6 s7 s8 s9 s10 s11) (fun j acc ρ => ∃ ks' : List Nat, ks'.length ≤ ks.length + j ∧ acc = ((List.range j).map fun k => rowD (eN p ts k)) ∧ ρ = LaE scr bo p ts ks' s6 s7 s8 s9 s10 s11) (by rw [rg_len]; exact nat_line (by omega)) (by
    rintro j acc d _ hd ha ⟨ks', h1, rfl, rfl⟩
    obtain ⟨hj, rfl⟩ := rows_at j hd
    have hr := row_rule (ks := ks') (k := j) hp hp2 hn hn2 ht (by omega) (Nat.lt_of_lt_of_le (show ks'.length < 20000 by omega) (nat_line (by decide)))
    have hpu := putN_len (ks := ks') (k := j)
    clear hd
    unfold LaE spC spI at *
    walk_at "run"
    refine co_mk (.inr ⟨_, rfl, putN ks' j, by omega, ?_, rfl⟩)
    rw [List.range_succ, List.map_append]; rfl) ⟨ks, by omega, rfl, rfl⟩
  rw [rg_len] at h1 h
  exact ⟨ks', h1, h⟩
theorem rows_off {scr : PyData} {bo : O} {p : Int} {ts : List Int} {ks : List Nat} {s6 s8 s9 s10 s11 : Option O} {m off : Nat} (hp : 2 ≤ p) (hp2 : p ≤ 31) (hn : 0 < ts.length) (hn2 : ts.length ≤ 12) (ht : Within p ts) (hz : ks.length + m ≤ 10000) (ho : off + m < 10 ^ 18) :
    ∃ ks' : List Nat, ks'.length ≤ ks.length + m ∧ loopC (gfN 12) tYesF (eZ (eMeth "Spring" [("prime" : Str), ("size" : Str), ("kind" : Str), ("taps" : Str), ("known_rows" : Str)] F_Spring_row 5 [none] [] (aCons (eOp dAdd (pVar 7) (pVar 12)) aNil))) [12] (rgD 0 m) (LaE scr bo p ts ks s6 (some (.fz (.int (off : Nat)))) s8 s9 s10 s11) [] = .ok (((List.range m).map fun k => rowD (eN p ts (off + k))).map O.fz) (LaE scr bo p ts ks' s6 (some (.fz (.int (off : Nat)))) s8 s9 s10 s11) := by
  obtain ⟨_, _, h, acc, rfl, _, ks', h1, rfl, rfl⟩ := lc_inv (gF := gfN 12) (t := tYesF) (f := eZ (eMeth "Spring" [("prime" : Str), ("size" : Str), ("kind" : Str), ("taps" : Str), ("known_rows" : Str)] F_Spring_row 5 [none] [] (aCons (eOp dAdd (pVar 7) (pVar 12)) aNil))) (vs := [12]) (ds := rgD 0 m) (ρ := LaE scr bo p ts ks s6 (some (.fz (.int (off : Nat)))) s8 s9 s10 s11) (fun j acc ρ => ∃ ks' : List Nat, ks'.length ≤ ks.length + j ∧ acc = ((List.range j).map fun k => rowD (eN p ts (off + k))) ∧ ρ = LaE scr bo p ts ks' s6 (some (.fz (.int (off : Nat)))) s8 s9 s10 s11) (by rw [rg_len]; exact nat_line (by omega)) (by
    rintro j acc d _ hd ha ⟨ks', h1, rfl, rfl⟩
    obtain ⟨hj, rfl⟩ := rows_at j hd
    have hr := row_rule (ks := ks') (k := off + j) hp hp2 hn hn2 ht (by omega) (Nat.lt_of_lt_of_le (show ks'.length < 20000 by omega) (nat_line (by decide)))
    rw [Int.natCast_add] at hr
    have hpu := putN_len (ks := ks') (k := off + j)
    clear hd ho
    unfold LaE spC spI at *
    walk_at "run"
    refine co_mk (.inr ⟨_, rfl, putN ks' (off + j), by omega, ?_, rfl⟩)
    rw [List.range_succ, List.map_append]; rfl) ⟨ks, by omega, rfl, rfl⟩
  rw [rg_len] at h1 h
  exact ⟨ks', h1, h⟩
theorem seed_lc {scr : PyData} {b : Bag} {p : Int} {ts : List Int} {so : Option O} {s6 s7 s8 s9 s10 s11 : Option O} {m : Nat} (hp : 2 ≤ p) (hp2 : p ≤ 31) (hm : m ≤ 1000) :
    ∃ (sd : List Int) (b' : Bag), sd.length = m ∧ Within p sd ∧ loopC (gfN 12) tYesF (eZ (eCall F__law_pull [some 1, some 2] [] (aCons (eLend 1) (aCons (eLend 2) aNil)))) [12] (rgD 0 m) [some (.fz scr), some b.o, some (.fz (.int p)), some (.fz (.int ts.length)), some (.fz (rowD ts)), so, s6, s7, s8, s9, s10, s11, none] [] = .ok ((sd.map PyData.int).map O.fz) [some (.fz scr), some b'.o, some (.fz (.int p)), some (.fz (.int ts.length)), some (.fz (rowD ts)), so, s6, s7, s8, s9, s10, s11, none] := by
  obtain ⟨_, _, h, acc, rfl, _, sd, b', rfl, h1, h2, rfl⟩ := lc_inv (gF := gfN 12) (t := tYesF) (f := eZ (eCall F__law_pull [some 1, some 2] [] (aCons (eLend 1) (aCons (eLend 2) aNil)))) (vs := [12]) (ds := rgD 0 m) (ρ := [some (.fz scr), some b.o, some (.fz (.int p)), some (.fz (.int ts.length)), some (.fz (rowD ts)), so, s6, s7, s8, s9, s10, s11, none]) (fun j acc ρ => ∃ (sd : List Int) (b' : Bag), acc = sd.map PyData.int ∧ sd.length = j ∧ Within p sd ∧ ρ = [some (.fz scr), some b'.o, some (.fz (.int p)), some (.fz (.int ts.length)), some (.fz (rowD ts)), so, s6, s7, s8, s9, s10, s11, none]) (by rw [rg_len]; exact nat_line (by omega)) (by
    rintro j acc d _ hd ha ⟨sd, b2, rfl, hl, hw, rfl⟩
    obtain ⟨hj, rfl⟩ := rows_at j hd
    obtain ⟨u, b3, u1, u2, u3⟩ := pull_ok b2 p (by omega) (by omega)
    clear hd
    walk_at "run"
    refine co_mk (.inr ⟨.int u, rfl, sd ++ [u], b3, by simp, by simp [hl], fun x hx => ?_, rfl⟩)
    rcases List.mem_append.mp hx with h | h
    · exact hw x h
    · cases List.mem_singleton.mp h; exact ⟨u1, u2⟩) ⟨[], b, rfl, rfl, (fun x hx => by cases hx), rfl⟩
  rw [rg_len] at h1
  exact ⟨sd, b', h1, h2, h⟩
theorem far_loop {scr : PyData} {bo : O} {p : Int} {ts sd : List Int} {ks : List Nat} {s6 s7 s8 s10 s11 : Option O} (hp : 2 ≤ p) (hp2 : p ≤ 31) (hn : 0 < ts.length) (hn2 : ts.length ≤ 12) (ht : Within p ts) (hl : sd.length = ts.length) (hw : Within p sd) {xs : List Int} (hx : ∀ x ∈ xs, 0 ≤ x ∧ x + ts.length < 10 ^ 18) (hk : ks.length + 14 * xs.length ≤ 1000) :
    NX (loopF (gfN 10) (sSeq (sSet 11 (eMeth "Spring" [("prime" : Str), ("size" : Str), ("kind" : Str), ("taps" : Str), ("known_rows" : Str)] F_Spring_cells 5 [some 9, none] [] (aCons (eLend 9) (aCons (eComp (fRg1 (pE (eOp dAdd (pVar 3) (pE (eC (.int 1)))))) (gfN 12) tYesF (eOp dAdd (pVar 10) (pVar 12)) [12]) aNil))))
    (sSeq (sIf (tOrF (tOf (eOp dNe (pE (eB1 lenO (pVar 11))) (pE (eOp dAdd (pVar 3) (pE (eC (.int 1))))))) (tNotF (tOf (eCall (F__law_same 4) [none, none] [] (aCons (eIx (pVar 11) (pE (eNeg (pE (eC (.int 1)))))) (aCons (eCall F__law_dot [some 2, some 4, none] [] (aCons (eLend 2) (aCons (eLend 4) (aCons (eTuple (pE (eSl (pVar 11) nNo (nE (pE (eNeg (pE (eC (.int 1))))))))) aNil)))) aNil))))))
    (sRet (eC (.bool false)))
    sNil)
    (sIf (tNotF (tOf (eCall (F__law_same 4) [none, none] [] (aCons (eIx (pVar 11) (pE (eC (.int 0)))) (aCons (eCall F__law_dot [some 2, none, some 9] [] (aCons (eLend 2) (aCons (eMeth "Spring" [("prime" : Str), ("size" : Str), ("kind" : Str), ("taps" : Str), ("known_rows" : Str)] F_Spring_row 5 [some 10] [] (aCons (eLend 10) aNil)) (aCons (eLend 9) aNil)))) aNil)))))
    (sRet (eC (.bool false)))
    sNil))) (xs.map PyData.int) (LaE scr bo p ts ks s6 s7 s8 (some (.fz (rowD sd))) s10 s11)) fun ρ => ∃ (ks' : List Nat) (s10 s11 : Option O), ρ = LaE scr bo p ts ks' s6 s7 s8 (some (.fz (rowD sd))) s10 s11 := by
  refine loop_ret (Q := fun z => NX z _) (fun j ρ => ∃ (ks' : List Nat) (s10 s11 : Option O), ks'.length ≤ ks.length + 14 * j ∧ ρ = LaE scr bo p ts ks' s6 s7 s8 (some (.fz (rowD sd))) s10 s11) ?_ ⟨ks, s10, s11, by omega, rfl⟩ ?_
  · rintro j d _ hd ⟨ks1, s10, s11, h1, rfl⟩
    left
    obtain ⟨x, hxm, rfl⟩ := List.mem_map.mp (List.mem_of_getElem? hd)
    have hj : j < xs.length := by
      have := (List.getElem?_eq_some_iff.mp hd).1
      rwa [List.length_map] at this
    obtain ⟨far, rfl⟩ : ∃ m : Nat, x = (m : Int) := ⟨x.toNat, by have := hx _ hxm; omega⟩
    have hb := hx _ hxm
    have hb2 : far + ts.length < 10 ^ 18 := by omega
    obtain ⟨ks2, h2, hc⟩ := cells_ok (ks := ks1) (pl := (List.range (ts.length + 1)).map fun k => far + k) hp hp2 hn hn2 ht hl hw (fun k hk => by
      obtain ⟨i, hi, rfl⟩ := List.mem_map.mp hk
      have := List.mem_range.mp hi
      omega) (by rw [List.length_map, List.length_range]; omega)
    rw [List.length_map, List.length_range] at h2
    obtain ⟨C, hC⟩ : ∃ C : List Int, C = (List.range (ts.length + 1)).map fun k => dotv p (eN p ts (far + k)) sd := ⟨_, rfl⟩
    have hCl : C.length = ts.length + 1 := by rw [hC, List.length_map, List.length_range]
    have hg : ∀ k, k < ts.length + 1 → gi C k = dotv p (eN p ts (far + k)) sd := fun k hk => by rw [hC, gi_map hk]
    have hCt : C.take ts.length = (List.range ts.length).map fun k => dotv p (eN p ts (far + k)) sd := by
      rw [hC, List.range_succ, List.map_append, List.take_left' (by simp)]
    have hCw : Within p (C.take ts.length) := fun y hy => by
      rw [hCt] at hy
      obtain ⟨i, _, rfl⟩ := List.mem_map.mp hy
      unfold dotv
      exact ⟨Int.fmod_nonneg_of_pos _ (by omega), Int.fmod_lt_of_pos _ (by omega)⟩
    have hfc := far_cell (p := p) (ts := ts) (sd := sd) (far := far) hp hn ht hl
    rw [← hCt, ← hg ts.length (by omega)] at hfc
    have hds := dot_same (p := p) (xs := eN p ts far) (ys := sd) hp (by rw [eN_len]; exact hl)
    have hg0 := hg 0 (by omega)
    rw [Nat.add_zero, ← hds] at hg0
    rw [show ((List.range (ts.length + 1)).map fun k => far + k).map (fun k => dotv p (eN p ts k) sd) = C from by rw [List.map_map, hC]; rfl, show ((List.range (ts.length + 1)).map fun k => far + k).map (fun k : Nat => PyData.int k) = (List.range (ts.length + 1)).map fun k : Nat => PyData.int ((far : Int) + (k : Int)) from by rw [List.map_map]; rfl] at hc
    have hpl : (((ts.length : Nat) : Int) + 1).toNat = ts.length + 1 := by omega
    have hll := lc_rg (gF := gfN 12) (t := tYesF) (f := eOp dAdd (pVar 10) (pVar 12)) (vs := [12]) (ρ := [some (.fz scr), some bo, some (.fz (.int p)), some (.fz (.int ts.length)), some (.fz (rowD ts)), some (spC p ts ks1), s6, s7, s8, some (.fz (rowD sd)), some (.fz (.int (far : Nat))), s11, none]) (n := ts.length + 1) (fun k : Nat => PyData.int ((far : Int) + (k : Int))) (nat_line (by omega)) (fun k hk => by
      clear hc hx hg hb hb2
      walk_at "run")
    have hxl := ix_lastI (o := .lst ((C.map PyData.int).map O.fz)) (items_map _) (fun e => by rw [e] at hCl; simp at hCl)
    rw [hCl, Nat.add_sub_cancel] at hxl
    have hx0 : ixO (.lst ((C.map PyData.int).map O.fz)) 0 = some (.int (gi C 0)) := ix_lst (k := 0) (by omega)
    have hlc : lenO (.lst ((C.map PyData.int).map O.fz)) = some (.int ((ts.length : Int) + 1)) := by rw [len_ints (items_map _), hCl]; rfl
    have hsl : slO (.lst ((C.map PyData.int).map O.fz)) none (some (-1)) = some (.lst (((C.take ts.length).map PyData.int).map O.fz)) := by
      have e : cutG (C.map PyData.int) none (some (-1)) = (C.take ts.length).map PyData.int := by rw [cut_last (fun e => by have := congrArg List.length e; rw [List.length_map, hCl] at this; simp at this), List.length_map, List.map_take, hCl]; rfl
      rw [sl_list (items_map _), e]
    have hit := items_map ((C.take ts.length).map PyData.int)
    have hld := law_dot_ok (p := p) (xs := ts) (ys := C.take ts.length) hp hp2 ht hCw (by rw [List.length_take]; omega) (by omega)
    rw [← hfc] at hld
    replace hld : F__law_dot [.fz (.int p), .fz (rowD ts), .fz (.tuple ((C.take ts.length).map PyData.int))] = .ok (.fz (.int (gi C ts.length))) [.fz (.int p), .fz (rowD ts), .fz (.tuple ((C.take ts.length).map PyData.int))] := hld
    have hld2 := law_dot_ok (p := p) (xs := eN p ts far) (ys := sd) hp hp2 (eN_within hp) hw (by rw [eN_len]; exact hl) (by rw [eN_len]; omega)
    rw [← hg0] at hld2
    have hr := row_rule (ks := ks2) (k := far) hp hp2 hn hn2 ht (by omega) (Nat.lt_of_lt_of_le (show ks2.length < 20000 by omega) (nat_line (by decide)))
    have hpu := putN_len (ks := ks2) (k := far)
    have hs1 := same_ok 3 (.int (gi C ts.length)) _ _ (by decide) sh_int (.int _) (.fz _) (.fz _)
    have hs2 := same_ok 3 (.int (gi C 0)) _ _ (by decide) sh_int (.int _) (.fz _) (.fz _)
    have hdn : dNe (.int ((ts.length : Int) + 1)) (.int ((ts.length : Int) + 1)) = some (.bool false) := dNe_self (n := 1) sh_int (by decide)
    refine ⟨LaE scr bo p ts (putN ks2 far) s6 s7 s8 (some (.fz (rowD sd))) (some (.fz (.int (far : Nat)))) (some (.lst ((C.map PyData.int).map O.fz))), .inl ?_, _, _, _, by omega, rfl⟩
    clear hd hx hb hb2 hg hCt hCw hfc hds hg0 hC hCl h2 hpu hk h1 hxm hl hw
    unfold LaE spC spI at *
    generalize gi C ts.length = g1 at *
    generalize gi C 0 = g0 at *
    generalize eN p ts far = ef at *
    walk_at "run"
  · rintro _ ⟨ks', s10, s11, _, rfl⟩
    exact nx_mk ⟨_, _, _, rfl⟩
theorem law_ok (ns : List Int) : ∃ as', F_law [.fz (.list (ns.map PyData.int))] = .ok (.fz (.bool true)) as' := by
  obtain ⟨b0, hb⟩ := bag_ok ns
  obtain ⟨p, b1, hp, hp2, hpr, hpm⟩ := prime_ok b0
  obtain ⟨v, b2, v1, v2, v3⟩ := pull_ok b1 12 (by decide) (by decide)
  obtain ⟨n, hn⟩ : ∃ n : Nat, 1 + v = (n : Int) := ⟨(1 + v).toNat, by omega⟩
  have hn1 : 0 < n := by omega
  have hn12 : n ≤ 12 := by omega
  obtain ⟨ts, b3, hts, htw, ht0, hpe⟩ := pegs_ok b2 hp hp2 hn1 hn12
  subst hts
  have hi := init_ok (kind := "rule") hpm hn1 hn12 (need_kind_rule (p := p) hn1 hn12 htw ht0)
  generalize hscr : PyData.list (ns.map PyData.int) = scr at hb ⊢
  have hm3 : (((ts.length : Nat) : Int) + 3).toNat = ts.length + 3 := by omega
  obtain ⟨ks1, k1, hrl1⟩ := rows_lc (scr := scr) (bo := b3.o) (ks := []) (s6 := none) (s7 := none) (s8 := none) (s9 := none) (s10 := none) (s11 := none) (m := ts.length + 3) hp hp2 hn1 hn12 htw (by simp; omega)
  have hta := table_ok (m := ts.length + 3) hp hp2 hn1 hn12 htw (by omega)
  rw [show ((ts.length + 3 : Nat) : Int) = (ts.length : Int) + 3 from rfl] at hta
  have hs1 : F__law_same 4 [.lst (((List.range (ts.length + 3)).map fun k => rowD (eN p ts k)).map O.fz), .lst (((List.range (ts.length + 3)).map fun k => rowD (eN p ts k)).map O.fz)] = _ := same_ok 3 (.list ((List.range (ts.length + 3)).map fun k => rowD (eN p ts k))) _ _ (by decide) (sh_list fun d hd => by
    obtain ⟨k, _, rfl⟩ := List.mem_map.mp hd
    exact sh_up sh_row (by decide)) (.list (by rw [List.length_map, List.length_range]; omega) fun d hd => by
    obtain ⟨k, _, rfl⟩ := List.mem_map.mp hd
    exact sm_row (by rw [eN_len]; omega)) (.lst _) (.lst _)
  obtain ⟨a1, b4, a11, a12, a13⟩ := pull_ok b3 100 (by decide) (by decide)
  obtain ⟨a2, b5, a21, a22, a23⟩ := pull_ok b4 (10 ^ 17) (by decide) (by decide)
  obtain ⟨a3, b6, a31, a32, a33⟩ := pull_ok b5 2 (by decide) (by decide)
  obtain ⟨one, hone, ho1⟩ : ∃ one : Nat, ixO (.lst [.fz (.int a1), .fz (.int a2)]) a3 = some (.int (one : Nat)) ∧ one < 10 ^ 17 := by
    have : a3 = 0 ∨ a3 = 1 := by omega
    rcases this with rfl | rfl
    · exact ⟨a1.toNat, by rw [Int.toNat_of_nonneg a11]; rfl, by omega⟩
    · exact ⟨a2.toNat, by rw [Int.toNat_of_nonneg a21]; rfl, by omega⟩
  obtain ⟨a4, b7, a41, a42, a43⟩ := pull_ok b6 (8 * 10 ^ 17) (by decide) (by decide)
  obtain ⟨oth, rfl⟩ : ∃ m : Nat, a4 = (m : Int) := ⟨a4.toNat, by omega⟩
  have ho2 : oth < 8 * 10 ^ 17 := by omega
  have hpw : dPow (.int 10) (.int 17) = some (.int (10 ^ 17)) := rfl
  have hpw2 : dPow (.int 10) (.int 18) = some (.int (10 ^ 18)) := rfl
  have hpw3 : dPow (.int 2) (.int 59) = some (.int (2 ^ 59)) := rfl
  obtain ⟨ks2, k2, hrl2⟩ := rows_off (scr := scr) (bo := b7.o) (ks := ks1) (s6 := some (.fz (.int (one : Nat)))) (s8 := none) (s9 := none) (s10 := none) (s11 := none) (m := ts.length) (off := oth) hp hp2 hn1 hn12 htw (by simp at k1; omega) (by omega)
  have hk2 : ks2.length ≤ 100 := by simp at k1; omega
  have hr1 := row_rule (ks := ks2) (k := one + oth) hp hp2 hn1 hn12 htw (by omega) (Nat.lt_of_lt_of_le (show ks2.length < 20000 by omega) (nat_line (by decide)))
  rw [Int.natCast_add] at hr1
  have hpu1 := putN_len (ks := ks2) (k := one + oth)
  have hr2 := row_rule (ks := putN ks2 (one + oth)) (k := one) hp hp2 hn1 hn12 htw (by omega) (Nat.lt_of_lt_of_le (show (putN ks2 (one + oth)).length < 20000 by omega) (nat_line (by decide)))
  have hpu2 := putN_len (ks := putN ks2 (one + oth)) (k := one)
  have hmx := mix_ok (p := p) (ro := .lst (((List.range ts.length).map fun k => rowD (eN p ts (oth + k))).map O.fz)) (wo := .lst (((eN p ts one).map PyData.int).map O.fz)) (rows := (List.range ts.length).map fun k => eN p ts (oth + k)) (ws := eN p ts one) (size := ts.length) hp hp2 hn12 (by rw [items_map, List.map_map]; rfl) (items_map _) (by rw [eN_len, List.length_map, List.length_range]) (by rw [List.length_map, List.length_range]; omega) (fun r hr => by
    obtain ⟨k, _, rfl⟩ := List.mem_map.mp hr
    exact ⟨eN_len, eN_within hp⟩) (eN_within hp)
  rw [show ((List.range ts.length).map fun k => eN p ts (oth + k)).length = ts.length by rw [List.length_map, List.length_range], mix_eN hp hn1] at hmx
  have hs2 : F__law_same 4 [.fz (rowD (eN p ts (one + oth))), .fz (rowD (eN p ts (one + oth)))] = _ := same_ok 3 (rowD (eN p ts (one + oth))) _ _ (by decide) (sh_up sh_row (by decide)) (sm_row (by rw [eN_len]; omega)) (.fz _) (.fz _)
  obtain ⟨sd, b8, sd1, sd2, hsd⟩ := seed_lc (scr := scr) (b := b7) (p := p) (ts := ts) (so := some (spC p ts (putN (putN ks2 (one + oth)) one))) (s6 := some (.fz (.int (one : Nat)))) (s7 := some (.fz (.int (oth : Nat)))) (s8 := some (.lst (((List.range ts.length).map fun k => rowD (eN p ts (oth + k))).map O.fz))) (s9 := none) (s10 := none) (s11 := none) (m := ts.length) hp hp2 (by omega)
  obtain ⟨a5, b9, a51, a52, a53⟩ := pull_ok b8 1000 (by decide) (by decide)
  have hfl := far_loop (scr := scr) (bo := b9.o) (ks := putN (putN ks2 (one + oth)) one) (s6 := some (.fz (.int (one : Nat)))) (s7 := some (.fz (.int (oth : Nat)))) (s8 := some (.lst (((List.range ts.length).map fun k => rowD (eN p ts (oth + k))).map O.fz))) (s10 := none) (s11 := none) (sd := sd) hp hp2 hn1 hn12 htw sd1 sd2 (xs := [(oth : Int), 10 ^ 18 - 1 - (ts.length : Int), (one : Int), 2 ^ 59 + a5]) (by
    intro x hx
    simp only [List.mem_cons, List.not_mem_nil, or_false] at hx
    rcases hx with rfl | rfl | rfl | rfl <;> omega) (by simp; omega)
  have hir := items_map ((eN p ts one).map PyData.int)
  have hi1 : itemsO (.fz (rowD (eN p ts one))) = some (false, (eN p ts one).map PyData.int) := rfl
  have hisd := items_map (sd.map PyData.int)
  have hnn : ((ts.length : Nat) : Int).toNat = ts.length := by omega
  have hro : ∀ (s : Option O) (ρ : En), roE (s :: ρ) = s.map roO :: roE ρ := fun _ _ => rfl
  unfold F_law w_law
  unfold LaE spC at *
  rw [show ckL [] = [] from rfl, show (cvL p ts []).map O.fz = [] from rfl] at hrl1
  unfold spI at *
  clear v1 v2 a11 a12 a21 a22 a31 a32 a41 a42 k1 k2 hk2 hpu1 hpu2 a51 a52 sd1 sd2
  clear hpm ht0 hscr ho1 ho2 htw
  walk_at "run"
  refine seqK (G := fun z => ∃ as', kRun z _ _ = .ok _ as') _ hfl ?_
  rintro _ ⟨ks', s10, s11, rfl⟩
  exact ⟨_, rfl⟩
end Lw
end
theorem PySem.Challenge.cw_lotspring_k13_whole_far_places_of_a_rule_holds : PySem.Challenge.rw_lotspring_k13_whole_far_places_of_a_rule.Holds := by
  first | exact Lw.law_holds fun ns _ _ => Lw.law_ok ns | exact Lw.law_holds fun ns hl hb => Lw.law_ok ns hl hb | exact Lw.law_holds fun fv ns hl hb => @Lw.law_ok fv ns hl hb
