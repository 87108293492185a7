import PyProof.Rows.All
import Wide.All
import OpenK.AllK
import Wide.FinOn
import KE.KStateDown
import KE.OsRunLaw
import HandS.Head0
import HandS.Head1
import HandS.Head2
import KE.GoesEnumKw
import HandS.Zip
import HandS.SortKw
import KE.GoesMore
import HandS.ForMost
import HandS.SortRule
import HandS.SortOrd
import HandS.DictTup
import PyProof.Rows.SortKeyStr
import HandS.Style
import KE.KUnpackStar
import PyProof.CallFns
import HandS.Deep
import HandS.Slots
import HandS.Lambda
import KE.KEqDict
import HandS.Flow
import HandS.IsInst
import HandS.TupAny
import HandS.TupLe
import HandS.StrMore
import HandS.Star
import HandS.SetFor
import HandS.ListItems
import HandS.More
import HandS.DictComp
import HandS.SlotsOwn
import HandS.RaiseMore
import HandS.NoneIn
import HandS.ClsMeth
import HandS.Ends
import HandS.Words
import PyProof.ReprRoads
import OpenK.KMeth
import HandS.TupMul
import PyProof.StrOps2
import HandS.Set
import HandS.SetTxt0
import HandS.Strs
import PyProof.Rows.SortShellAny
import HandS.SetKeys
import KE.KRevSl
import KE.KFmtOwn
import OpenK.KOps
import PyProof.DictTruth
import PyProof.Conv_bool
import KE.KCallOwn
import PyProof.DictUpdate
import PyProof.DictCopy
import PyProof.FactsAll.dict
import HandS.CallLocal
import OpenK.KTop
import HandS.FStr
import HandS.Small
import HandS.Records
import KE.KDictPairs
import HandS.Nested
import KE.KSuper
import HandS.MakeKwOnly
import HandS.Property
import HandS.OwnEq
import KE.SortKeyHeap
import HandS.Exc
import HandS.EndTab
import KE.KDictSum
import HandS.WordsDict
import HandS.TryOnly
import OpenK.KMore
import HandS.ForExc
import HandS.TryMany
import HandS.HotCalls
import HandS.ExcIs
import HandS.ExcField
import KE.KExcSuper
import HandS.ExcInit
import HandS.WordsExc
import KE.KExcIs
import PyProof.ListStr
import KE.IntTextLaws
import PyProof.ReprBulk
import PyProof.ReprLen
import PyProof.StrLawsRepr
import PySem.Challenge.RW_keymoves_k01_names_keys_and_paths
set_option Elab.async false
set_option linter.all false
set_option maxRecDepth 100000
set_option maxHeartbeats 4000000
namespace HR
open PySem PySem.W PySem.Calls PyProof.Rows
noncomputable section
section
local macro_rules | `(tactic| o_headL $H:term) => `(tactic| exact (‹∀ P : Prop, P›) _)
set_option maxHeartbeats 0 in
theorem mk (h : ∀ P : Prop, P) : (OpenLaw.row PySem.Challenge.rw_keymoves_k01_names_keys_and_paths).Holds := by
  k_headL
end
abbrev R : OpenRow := OpenLaw.row PySem.Challenge.rw_keymoves_k01_names_keys_and_paths
abbrev qv : Program := view R.prog [60]
def n0 : List PySem.Str := ["MoveError", "SearchError", "ConflictError", "LimitError", "InvalidKey", "InvalidPath", "InvalidWins", "InvalidValue", "InvalidName", "InvalidStop", "InvalidPattern", "InvalidCapacity", "InvalidCommand", "NotARecord", "NotAScript", "InvalidEntries", "InvalidSteps", "InvalidPremises", "InvalidReader", "InvalidNames", "InvalidPatterns", "InvalidDeed", "InvalidText", "MissingKey", "UnknownName", "NotLossless", "NothingToUndo", "Contradictory", "TooMany", "MAX_PATH"]
def n1 : List PySem.Str := ["LETTERS", "LONGEST", "SLASH", "is_name", "names_in", "is_key", "is_path", "check_key", "check_path", "lies_under", "replaced", "is_under", "put_at", "_law_cell", "_law_pool", "_law_draw", "_law_path", "_law_names", "_law_error", "_law_field", "_law_caught", "_law_word", "_law_thing", "_law_is_name", "_law_is_key", "_law_pair_right", "_law_right"]
def names : List PySem.Str := n0 ++ n1
def a0 : List Addr := [2, 3, 15, 22, 23, 24, 25, 28, 35, 36, 37, 38, 41, 48, 49, 50, 51, 54, 61, 62, 63, 64, 67, 70, 75, 76, 78, 79, 81, 82, 83, 84, 85, 88, 91]
def a1 : List Addr := [96, 97, 99, 100, 102, 103, 104, 105, 106, 109, 112, 117, 118, 120, 121, 123, 124, 125, 126, 127, 130, 133, 138, 139, 141, 142, 144, 145, 146, 147, 148, 151, 154, 159, 160]
def a2 : List Addr := [162, 163, 165, 166, 167, 168, 169, 172, 175, 180, 181, 183, 184, 186, 187, 188, 189, 190, 193, 196, 201, 202, 204, 205, 207, 208, 209, 210, 211, 214, 217, 222, 223, 225, 226]
def a3 : List Addr := [228, 229, 230, 231, 232, 235, 238, 243, 244, 246, 247, 249, 250, 251, 252, 253, 256, 259, 264, 265, 267, 268, 270, 271, 272, 273, 274, 277, 280, 285, 286, 288, 289, 291, 292]
def a4 : List Addr := [293, 294, 295, 298, 301, 306, 307, 309, 310, 312, 313, 314, 315, 316, 319, 322, 327, 328, 330, 331, 333, 334, 335, 336, 337, 340, 343, 348, 349, 351, 352, 354, 355, 356, 357]
def a5 : List Addr := [358, 361, 364, 369, 370, 372, 373, 375, 376, 377, 378, 379, 382, 385, 390, 391, 393, 394, 396, 397, 398, 399, 400, 403, 406, 411, 412, 414, 415, 417, 418, 419, 420, 421, 424]
def a6 : List Addr := [427, 432, 433, 435, 436, 438, 439, 440, 441, 442, 445, 448, 453, 454, 456, 457, 459, 460, 461, 462, 463, 466, 469, 474, 475, 477, 478, 480, 481, 482, 483, 484, 487, 490, 495]
def a7 : List Addr := [496, 498, 499, 501, 502, 503, 504, 505, 508, 511, 516, 517, 519, 520, 522, 523, 524, 525, 526, 529, 532, 537, 538, 540, 541, 543, 544, 545, 546, 547, 550, 553, 558, 559, 561]
def a8 : List Addr := [562, 564, 565, 566, 567, 568, 571, 574, 579, 580, 582, 583, 585, 586, 587, 588, 589, 592, 595, 596, 597, 599, 600, 602, 603, 604, 607, 608, 609, 611, 612, 614, 615, 616, 618]
def a9 : List Addr := [619, 621, 622, 623, 625, 626, 628, 629, 630, 632, 633, 635, 636, 637, 639, 640, 642, 643, 644, 646, 647, 649, 650, 651, 653, 654, 656, 657, 658, 660, 661, 663, 664, 665, 667]
def a10 : List Addr := [668, 670, 671, 672, 674, 675, 677, 678, 679, 682, 683, 684, 687, 688, 689, 691, 692, 694, 695, 696, 698, 699, 701, 702, 703, 705, 706, 708, 709, 710, 713, 714, 715, 718, 719]
def a11 : List Addr := [720, 723, 724, 725, 728, 729, 730, 732, 733, 735, 736, 737, 739, 740, 742, 743, 744, 747, 748]
def as : List Addr := a0 ++ (a1 ++ (a2 ++ (a3 ++ (a4 ++ (a5 ++ (a6 ++ (a7 ++ (a8 ++ (a9 ++ (a10 ++ (a11)))))))))))
set_option maxHeartbeats 0 in
theorem as_eq (P : Params) : as = (mk.heap_1 P).map (·.1) := by kernel_rfl
abbrev tabs : List Addr := [731]
abbrev KT (P : Params) : Frag := ([(731, { cls := .none, data := .fields #[] })] : List (Addr × Obj)) ++ mk.heap_1 P
abbrev asT : List Addr := tabs ++ as
theorem asT_eq (P : Params) : asT = (KT P).map (·.1) := by
  show tabs ++ as = tabs ++ (mk.heap_1 P).map (·.1)
  rw [← as_eq P]
abbrev hk : Hook := kHook KT asT asT_eq
def ob (s : SharedT) : List (Option Obj) := asT.map (HandSHeadRun.getT s)
theorem ob_eq (s : SharedT) : ob s = hk.obs s.abs := List.map_congr_left fun a _ => HandSHeadRun.getT_eq s a
set_option maxHeartbeats 0 in
theorem run (w : World) : HandSHeadRun.RunEq R qv hk ob 20000 names w := by
  intro os
  kernel_rfl
end
end HR
namespace ZK
open PySem
open PySem.Sem (wp)
def ItAt (t : Bool) (h : Heap) (it l : Addr) (i : Nat) : Prop := if t = true then h.IsTupleIter it l i else h.IsListIter it l i
def SqAt (t : Bool) (h : Heap) (l : Addr) (xs : Array Value) : Prop := if t = true then h.IsTuple l xs else h.IsList l xs
theorem ItAt.ext {t : Bool} {h h' : Heap} {it l c : Addr} {i : Nat} (x : ItAt t h it l i) (e : Heap.ExtBut c h h') (n : it ≠ c) : ItAt t h' it l i := by
  cases t
  · exact Heap.IsListIter.extBut x e n
  · exact Heap.IsTupleIter.extBut x e n
theorem SqAt.ext {t : Bool} {h h' : Heap} {l c : Addr} {xs : Array Value} (x : SqAt t h l xs) (e : Heap.ExtBut c h h') (n : l ≠ c) : SqAt t h' l xs := by
  cases t
  · exact Heap.IsList.extBut x e n
  · exact Heap.IsTuple.extBut x e n
theorem ItAt.got {t : Bool} {h : Heap} {it l : Addr} {i : Nat} (x : ItAt t h it l i) : ∃ o, h.get? it = some o ∧ ∀ h', h'.get? it = some o → ItAt t h' it l i := by
  cases t
  · obtain ⟨o, a, b, c⟩ := id x
    exact ⟨o, a, fun h' e => ⟨o, e, b, c⟩⟩
  · obtain ⟨o, a, b, c⟩ := id x
    exact ⟨o, a, fun h' e => ⟨o, e, b, c⟩⟩
theorem ItAt.kept {t : Bool} {h h' : Heap} {it l : Addr} {i : Nat} (x : ItAt t h it l i) (k : ∀ o, h.get? it = some o → h'.get? it = some o) : ItAt t h' it l i := by
  obtain ⟨o, e, f⟩ := x.got
  exact f _ (k o e)
end ZK
namespace ZK
open PySem
open PySem.Sem (wp)
theorem SqAt.push {t : Bool} {h : Heap} {l : Addr} {xs : Array Value} (x : SqAt t h l xs) (o : Obj) : SqAt t (h.push o) l xs := by
  cases t
  · exact Heap.IsList.push x o
  · exact Heap.IsTuple.push x o
end ZK
namespace SrtS
open PySem PySem.Spec PyProof.Rows L2
open SrtO hiding Str
def sltB (a b : Str) : Bool := decide (a.cps.toList < b.cps.toList)
def lexS (p q : Str × Int) : Bool := if p.1 = q.1 then decide (p.2 < q.2) else sltB p.1 q.1
section
variable {prog : Program} {w : World} {A : Around} {E : Value → Shared → Prop} {s : Shared}
def IsPairS (h : Heap) (v : Value) (x : Str) (y : Int) : Prop := ∃ a o t u n, v = .ref a ∧ h.get? a = some o ∧ o.cls = .type "tuple" ∧ o.data = .seq #[.str x t, .int y u] n
theorem IsPairS.keeps {h h' : Heap} {v : Value} {x : Str} {y : Int} (p : IsPairS h v x y) (k : ∀ b o, h.get? b = some o → o.cls = .type "tuple" → h'.get? b = some o) : IsPairS h' v x y := by
  obtain ⟨a, o, t, u, n, e, ho, hc, hd⟩ := p
  exact ⟨a, o, t, u, n, e, k _ _ ho hc, hc, hd⟩
end
end SrtS
namespace L2
open PySem PySem.Spec PyProof.Rows
end L2
namespace L2
open PySem PySem.Spec PyProof.Rows L2.DX
end L2
namespace Dt
open PySem PySem.Spec PyProof.Rows L2
open PySem.SeqAt (EqAt RcAt)
/-- objects that never change: tables grow in their own way; code objects, tuples, instances with attributes -/
def Stb (o : HO) : Prop := (∃ ps, o = .tbl ps) ∨ (∃ c q, o = LamX.CodeO c q) ∨ (∃ xs, o = .tup xs) ∨ (∃ ob xs, o = .frz ob (.tup xs)) ∨ ∃ C dx f fs, o = .ins C dx (f :: fs)
def TupO (o : HO) : Prop := (∃ xs, o = .tup xs) ∨ ∃ ob xs, o = .frz ob (.tup xs)
/-- what may change besides the pool: tables of code objects (with the name that their code objects bear), other places (mx), of which something is known (iv) -/
structure PC where
  tb : List (Addr × Str)
  mx : Addr → Prop
  iv : Hp → Prop
  un : ∀ p ∈ tb, ∀ p' ∈ tb, p.1 = p'.1 → p.2 = p'.2
  nm : ∀ p ∈ tb, ¬ mx p.1
  ivk : ∀ H H', (∀ b o, H b = some o → ((Stb o ∧ ∀ ps, o ≠ .tbl ps) ∨ mx b) → H' b = some o) → iv H → iv H'
def PC.of (tb : List (Addr × Str)) (hu : ∀ p ∈ tb, ∀ p' ∈ tb, p.1 = p'.1 → p.2 = p'.2) : PC := ⟨tb, fun _ => False, fun _ => True, hu, fun _ _ h => h, fun _ _ _ _ => trivial⟩
def PC.no : PC := .of [] fun _ h => by cases h
/-- the tables that stand all along -/
class GTab where
  tb : List (Addr × Str)
variable [GTab]
def PC.mut (c : PC) (b : Addr) : Prop := b ∈ c.tb.map (·.1) ∨ c.mx b
structure PC.ok (c : PC) (H : Hp) : Prop where
  tabs : ∀ q ∈ c.tb, LamX.TabS H q.1 q.2
  inv : c.iv H
  gl : ∀ p ∈ GTab.tb, p ∈ c.tb
structure PAx where
  po : Option Addr
  c : PC
def PAx.mut (pa : PAx) (b : Addr) : Prop := pa.po = some b ∨ pa.c.mut b
theorem PC.ok.keep {c : PC} {H H' : Hp} (h : c.ok H) (e : ∀ b o, H b = some o → (Stb o ∨ c.mx b) → H' b = some o) : c.ok H' := by
  refine ⟨fun q hq => ?_, c.ivk H H' (fun b o hb z => e b o hb (z.imp And.left id)) h.inv, h.gl⟩
  obtain ⟨ps, h1, h2, h3⟩ := h.tabs q hq
  refine ⟨ps, e _ _ h1 (.inl (.inl ⟨ps, rfl⟩)), h2, fun pos cv hc => ?_⟩
  obtain ⟨c', e1, e2⟩ := h3 pos cv hc
  exact ⟨c', e1, e _ _ e2 (.inl (.inr (.inl ⟨_, _, rfl⟩)))⟩
inductive D where
  | non | bl (b : Bool) | int (i : Int) | str (x : Str) | lst (xs : List D) | tup (xs : List D) | pool | scr (ns : List Int)
  /-- a dict by ints and texts; one by tuples; an instance by its attributes; one by its slots; a def or class of the module -/
  | dk (ks : List Key) (vs : List D) | dt (ks : List (List Key)) (vs : List D) | ins (c : Str) (ns : List Str) (vs : List D) | slt (c : Str) (vs : List D) | fn (x : Str) | adr (a : Addr)
  /-- a tuple that is known to have no attributes of its own -/
  | ptp (xs : List D)
  /-- a function that was handed in, in a state of this kind -/
  | act (f : Addr) (q : PAx) (vs : List V) (ds : List D)
/-- the longest text -/
def lim : Nat := 16000000
theorem lim_lt : lim + 2 ≤ sizeLine := by decide +kernel
def kOk : Key → Prop
  | .inl _ => True
  | .inr x => x.length ≤ lim
mutual
inductive Rp (K : PySem.W.Frag) (pa : PAx) (H : Hp) : V → D → Prop
  | non : Rp K pa H .non .non
  | bl (b : Bool) : Rp K pa H (.bl b) (.bl b)
  | int (i : Int) : Rp K pa H (.int i) (.int i)
  | str (x : Str) : x.length ≤ lim → Rp K pa H (.str x) (.str x)
  | lst {a : Addr} {xs : List V} {ds : List D} : H a = some (.lst xs) → RpL K pa H xs ds → Rp K pa H (.ref a) (.lst ds)
  | tup {a : Addr} {xs : List V} {ds : List D} : SqT K H a xs → RpL K pa H xs ds → Rp K pa H (.ref a) (.tup ds)
  | pool {a : Addr} : pa.po = some a → Rp K pa H (.ref a) .pool
  | scr {a : Addr} {ns : List Int} : SqL K H a (ns.map V.int) → Rp K pa H (.ref a) (.scr ns)
  | dk {a : Addr} {ks : List Key} {xs : List V} {ds : List D} : Rd H a (.dK (ks.zip xs)) → xs.length = ks.length → (∀ k ∈ ks, kOk k) → RpL K pa H xs ds → Rp K pa H (.ref a) (.dk ks ds)
  | dt {a : Addr} {ks : List (List Key)} {xs : List V} {ds : List D} : Rd H a (.dT (ks.zip xs)) → xs.length = ks.length → (∀ k ∈ ks, ∀ c ∈ k, kOk c) → RpL K pa H xs ds → Rp K pa H (.ref a) (.dt ks ds)
  | ins {a C dx : Addr} {c : Str} {ns : List Str} {xs : List V} {ds : List D} : PySem.W.nsIn K mainGlobals c = some (some (.ref C)) → H a = some (.ins C dx (ns.zip xs)) → xs.length = ns.length → RpL K pa H xs ds → Rp K pa H (.ref a) (.ins c ns ds)
  | slt {a C dx : Addr} {c : Str} {xs : List V} {ds : List D} : PySem.W.nsIn K mainGlobals c = some (some (.ref C)) → SlX.Slt H a C dx (xs.map some) → RpL K pa H xs ds → Rp K pa H (.ref a) (.slt c ds)
  | fn {a : Addr} {x : Str} : PySem.W.nsIn K mainGlobals x = some (some (.ref a)) → Rp K pa H (.ref a) (.fn x)
  | adr (a : Addr) : Rp K pa H (.ref a) (.adr a)
  | ptp {a : Addr} {o : Obj} {xs : List V} {ds : List D} : H a = some (.frz o (.tup xs)) → o.dict = none → RpL K pa H xs ds → Rp K pa H (.ref a) (.ptp ds)
  | act {f : Addr} {xs : List V} {ds : List D} : RpL K pa H xs ds → Rp K pa H (.ref f) (.act f pa xs ds)
inductive RpL (K : PySem.W.Frag) (pa : PAx) (H : Hp) : List V → List D → Prop
  | nil : RpL K pa H [] []
  | cons {v : V} {vs : List V} {d : D} {ds : List D} : Rp K pa H v d → RpL K pa H vs ds → RpL K pa H (v :: vs) (d :: ds)
end
theorem sameL {K : PySem.W.Frag} {H H' : Hp} {a : Addr} {xs : List V} (e : Same H H') (h : SqL K H a xs) : SqL K H' a xs := e.seq h
theorem sameT {K : PySem.W.Frag} {H H' : Hp} {a : Addr} {xs : List V} (e : Same H H') (h : SqT K H a xs) : SqT K H' a xs := by
  rcases h with (h | ⟨o, h⟩) | h
  · exact .inl (.inl (e _ _ h))
  · exact .inl (.inr ⟨o, e _ _ h⟩)
  · exact .inr h
/-- what a reading of data needs of a change -/
structure Keep (K : PySem.W.Frag) (H H' : Hp) : Prop where
  l : ∀ a xs, H a = some (.lst xs) → H' a = some (.lst xs)
  sl : ∀ a xs, SqL K H a xs → SqL K H' a xs
  st : ∀ a xs, SqT K H a xs → SqT K H' a xs
  dk : ∀ a kvs, Rd H a (.dK kvs) → Rd H' a (.dK kvs)
  dt : ∀ a kvs, Rd H a (.dT kvs) → Rd H' a (.dT kvs)
  i : ∀ a C dx fs, H a = some (.ins C dx fs) → H' a = some (.ins C dx fs)
  s : ∀ a C dx vs, SlX.Slt H a C dx vs → SlX.Slt H' a C dx vs
  p : ∀ a o xs, H a = some (.frz o (.tup xs)) → H' a = some (.frz o (.tup xs))
theorem sameR {H H' : Hp} {a : Addr} {u : HO} (e : Same H H') (h : Rd H a u) : Rd H' a u := by
  rcases h with h | ⟨o, h⟩
  · exact .inl (e _ _ h)
  · exact .inr ⟨o, e _ _ h⟩
theorem sameS {H H' : Hp} {a C dx : Addr} {vs : List (Option V)} (e : Same H H') (h : SlX.Slt H a C dx vs) : SlX.Slt H' a C dx vs := by
  rcases h with ⟨h1, h2⟩ | ⟨h1, h2⟩
  · exact .inl ⟨e _ _ h1, h2⟩
  · exact .inr ⟨e _ _ h1, e _ _ h2⟩
theorem _root_.L2.Same.keep {K : PySem.W.Frag} {H H' : Hp} (e : Same H H') : Keep K H H' :=
  ⟨fun _ _ h => e _ _ h, fun _ _ h => sameL e h, fun _ _ h => sameT e h, fun _ _ h => sameR e h, fun _ _ h => sameR e h, fun _ _ _ _ h => e _ _ h, fun _ _ _ _ h => sameS e h, fun _ _ _ h => e _ _ h⟩
theorem Keep.trans {K : PySem.W.Frag} {H H1 H2 : Hp} (a : Keep K H H1) (b : Keep K H1 H2) : Keep K H H2 :=
  ⟨fun _ _ h => b.l _ _ (a.l _ _ h), fun _ _ h => b.sl _ _ (a.sl _ _ h), fun _ _ h => b.st _ _ (a.st _ _ h), fun _ _ h => b.dk _ _ (a.dk _ _ h), fun _ _ h => b.dt _ _ (a.dt _ _ h), fun _ _ _ _ h => b.i _ _ _ _ (a.i _ _ _ _ h), fun _ _ _ _ h => b.s _ _ _ _ (a.s _ _ _ _ h), fun _ _ _ h => b.p _ _ _ (a.p _ _ _ h)⟩
section
variable {K : PySem.W.Frag} {pa : PAx} {H H' : Hp}
mutual
theorem Rp.keep (e : Keep K H H') : ∀ (d : D) (v : V), Rp K pa H v d → Rp K pa H' v d
  | .non, _, h => by cases h; exact .non
  | .bl b, _, h => by cases h; exact .bl b
  | .int i, _, h => by cases h; exact .int i
  | .str x, _, h => by
    cases h with
    | str _ z => exact .str x z
  | .lst ds, _, h => by
    cases h with
    | lst h1 h2 => exact .lst (e.l _ _ h1) (RpL.keep e ds _ h2)
  | .tup ds, _, h => by
    cases h with
    | tup h1 h2 => exact .tup (e.st _ _ h1) (RpL.keep e ds _ h2)
  | .pool, _, h => by
    cases h with
    | pool h1 => exact .pool h1
  | .scr ns, _, h => by
    cases h with
    | scr h1 => exact .scr (e.sl _ _ h1)
  | .dk ks ds, _, h => by
    cases h with
    | dk h1 h2 h4 h3 => exact .dk (e.dk _ _ h1) h2 h4 (RpL.keep e ds _ h3)
  | .dt ks ds, _, h => by
    cases h with
    | dt h1 h2 h4 h3 => exact .dt (e.dt _ _ h1) h2 h4 (RpL.keep e ds _ h3)
  | .ins c ns ds, _, h => by
    cases h with
    | ins h0 h1 h2 h3 => exact .ins h0 (e.i _ _ _ _ h1) h2 (RpL.keep e ds _ h3)
  | .slt c ds, _, h => by
    cases h with
    | slt h0 h1 h2 => exact .slt h0 (e.s _ _ _ _ h1) (RpL.keep e ds _ h2)
  | .fn x, _, h => by
    cases h with
    | fn h1 => exact .fn h1
  | .adr a, _, h => by
    cases h
    exact .adr a
  | .ptp ds, _, h => by
    cases h with
    | ptp h0 h1 h2 => exact .ptp (e.p _ _ _ h0) h1 (RpL.keep e ds _ h2)
  | .act f q vs ds, _, h => by
    cases h with
    | act h1 => exact .act (RpL.keep e ds _ h1)
theorem RpL.keep (e : Keep K H H') : ∀ (ds : List D) (vs : List V), RpL K pa H vs ds → RpL K pa H' vs ds
  | [], _, h => by cases h; exact .nil
  | d :: ds, _, h => by
    cases h with
    | cons h1 h2 => exact .cons (Rp.keep e d _ h1) (RpL.keep e ds _ h2)
end
theorem Rp.mono (e : Same H H') (d : D) (v : V) (h : Rp K pa H v d) : Rp K pa H' v d := Rp.keep e.keep d v h
theorem RpL.mono (e : Same H H') (ds : List D) (vs : List V) (h : RpL K pa H vs ds) : RpL K pa H' vs ds := RpL.keep e.keep ds vs h
theorem RpL.length : ∀ {vs : List V} {ds : List D}, RpL K pa H vs ds → vs.length = ds.length
  | _, _, .nil => rfl
  | _, _, .cons _ t => by rw [List.length_cons, List.length_cons, RpL.length t]
theorem RpL.get : ∀ {vs : List V} {ds : List D} {i : Nat} {d : D}, RpL K pa H vs ds → ds[i]? = some d → ∃ v, vs[i]? = some v ∧ Rp K pa H v d
  | _, _, _, _, .nil, e => by simp at e
  | _, _, 0, _, .cons r _, e => by simp at e; subst e; exact ⟨_, rfl, r⟩
  | _, _, i + 1, d, .cons _ t, e => by
    obtain ⟨v, h1, h2⟩ := RpL.get (i := i) (d := d) t (by simpa using e)
    exact ⟨v, by simpa using h1, h2⟩
theorem RpL.getV : ∀ {vs : List V} {ds : List D} {i : Nat} {v : V}, RpL K pa H vs ds → vs[i]? = some v → ∃ d, ds[i]? = some d ∧ Rp K pa H v d
  | _, _, _, _, .nil, e => by simp at e
  | _, _, 0, _, .cons r _, e => by simp at e; subst e; exact ⟨_, rfl, r⟩
  | _, _, i + 1, d, .cons _ t, e => by
    obtain ⟨v, h1, h2⟩ := RpL.getV (i := i) (v := d) t (by simpa using e)
    exact ⟨v, by simpa using h1, h2⟩
theorem RpL.append : ∀ {vs ws : List V} {ds es : List D}, RpL K pa H vs ds → RpL K pa H ws es → RpL K pa H (vs ++ ws) (ds ++ es)
  | _, _, _, _, .nil, h => h
  | _, _, _, _, .cons r t, h => .cons r (RpL.append t h)
theorem RpL.take : ∀ {vs : List V} {ds : List D} (n : Nat), RpL K pa H vs ds → RpL K pa H (vs.take n) (ds.take n)
  | _, _, 0, _ => .nil
  | _, _, _ + 1, .nil => .nil
  | _, _, n + 1, .cons r t => .cons r (RpL.take n t)
theorem RpL.drop : ∀ {vs : List V} {ds : List D} (n : Nat), RpL K pa H vs ds → RpL K pa H (vs.drop n) (ds.drop n)
  | _, _, 0, h => h
  | _, _, _ + 1, .nil => .nil
  | _, _, n + 1, .cons r t => RpL.drop n t
theorem RpL.set {v : V} {d : D} (r : Rp K pa H v d) : ∀ {vs : List V} {ds : List D} (n : Nat), RpL K pa H vs ds → RpL K pa H (vs.set n v) (ds.set n d)
  | _, _, _, .nil => .nil
  | _, _, 0, .cons _ t => .cons r t
  | _, _, n + 1, .cons q t => .cons q (RpL.set r n t)
theorem RpL.ints : ∀ (ns : List Int), RpL K pa H (ns.map V.int) (ns.map D.int)
  | [] => .nil
  | n :: ns => .cons (.int n) (RpL.ints ns)
theorem RpL.strs : ∀ (ns : List Str), (∀ x ∈ ns, x.length ≤ lim) → RpL K pa H (ns.map V.str) (ns.map D.str)
  | [], _ => .nil
  | n :: ns, h => .cons (.str n (h n List.mem_cons_self)) (RpL.strs ns fun x hx => h x (List.mem_cons_of_mem _ hx))
theorem RpL.strs_of : ∀ {ns : List Str} {vs : List V}, RpL K pa H vs (ns.map D.str) → vs = ns.map V.str
  | [], _, h => by cases h; rfl
  | n :: ns, _, h => by
    cases h with
    | cons h1 h2 => cases h1; rw [RpL.strs_of h2]; rfl
theorem RpL.bls_of : ∀ {ns : List Bool} {vs : List V}, RpL K pa H vs (ns.map D.bl) → vs = ns.map V.bl
  | [], _, h => by cases h; rfl
  | n :: ns, _, h => by
    cases h with
    | cons h1 h2 => cases h1; rw [RpL.bls_of h2]; rfl
theorem RpL.ints_of : ∀ {ns : List Int} {vs : List V}, RpL K pa H vs (ns.map D.int) → vs = ns.map V.int
  | [], _, h => by cases h; rfl
  | n :: ns, _, h => by
    cases h with
    | cons h1 h2 => cases h1; rw [RpL.ints_of h2]; rfl
end
open Classical in
noncomputable def hid (S : Addr → Prop) (H : Hp) : Hp := fun b => if S b then none else H b
theorem hid_of {S : Addr → Prop} {H : Hp} {b : Addr} {o : HO} (n : ¬ S b) (h : H b = some o) : hid S H b = some o := by
  unfold hid; rw [if_neg n]; exact h
theorem of_hid {S : Addr → Prop} {H : Hp} {b : Addr} {o : HO} (h : hid S H b = some o) : ¬ S b ∧ H b = some o := by
  unfold hid at h
  by_cases n : S b
  · rw [if_pos n] at h; cases h
  · rw [if_neg n] at h; exact ⟨n, h⟩
theorem hid_sub {S : Addr → Prop} {H : Hp} : Same (hid S H) H := fun b o h => (of_hid h).2
theorem hid_mono {S T : Addr → Prop} {H H' : Hp} (e : ∀ b o, ¬ S b → H b = some o → H' b = some o) (st : ∀ b, T b → ∀ o, H b = some o → S b) : Same (hid S H) (hid T H') := fun b o h => by
  obtain ⟨n, h⟩ := of_hid h
  exact hid_of (fun t => n (st b t o h)) (e b o n h)
/-- a change that keeps all but the pool -/
def Ext (pa : PAx) (H H' : Hp) : Prop := ∀ b o, ¬ pa.mut b → H b = some o → H' b = some o
theorem Ext.refl {pa : PAx} {H : Hp} : Ext pa H H := fun _ _ _ h => h
theorem Ext.trans {pa : PAx} {H H1 H2 : Hp} (a : Ext pa H H1) (b : Ext pa H1 H2) : Ext pa H H2 := fun x o n h => b x o n (a x o n h)
theorem Ext.of {pa : PAx} {H H' : Hp} (e : Same H H') : Ext pa H H' := fun x o _ h => e x o h
theorem Ext.free {pa : PAx} {H H' : Hp} {p : Addr} (e : Ext pa H H') (n : ¬ pa.mut p) (h : H' p = none) : H p = none := by
  cases q : H p with
  | none => rfl
  | some o => rw [e p o n q] at h; cases h
/-- the state: the pool's list, what is hidden is there -/
structure Sta (pa : PAx) (S : Addr → Prop) (H : Hp) (p : List Int) : Prop where
  pool : ∀ a, pa.po = some a → H a = some (.lst (p.map V.int)) ∧ S a
  trk : ∀ a, S a → ∃ o, H a = some o
  tab : pa.c.ok H
  ms : ∀ b, pa.c.mut b → S b
  pn : ∀ a, pa.po = some a → ¬ pa.c.mut a
  ntp : ∀ a o, S a → H a = some o → ¬ TupO o
theorem Sta.same {pa : PAx} {S : Addr → Prop} {H H' : Hp} {p : List Int} (s : Sta pa S H p) (e : Same H H') : Sta pa S H' p :=
  ⟨fun a h => ⟨e _ _ (s.pool a h).1, (s.pool a h).2⟩, fun a h => let ⟨o, q⟩ := s.trk a h; ⟨o, e _ _ q⟩, s.tab.keep fun b o h _ => e b o h, s.ms, s.pn, fun a o ha h => by
    obtain ⟨o', q⟩ := s.trk a ha
    have q2 := e _ _ q
    rw [h] at q2
    cases q2
    exact s.ntp a _ ha q⟩
theorem Sta.new {pa : PAx} {S : Addr → Prop} {H : Hp} {p : List Int} (s : Sta pa S H p) {a : Addr} (h : H a = none) : ¬ S a := fun z => by
  obtain ⟨o, q⟩ := s.trk a z
  rw [h] at q; cases q
theorem Sta.mutS {pa : PAx} {S : Addr → Prop} {H : Hp} {p : List Int} (s : Sta pa S H p) {a : Addr} (h : pa.mut a) : S a := by
  rcases h with h | h
  · exact (s.pool a h).2
  · exact s.ms _ h
theorem Sta.notpool {pa : PAx} {S : Addr → Prop} {H : Hp} {p : List Int} (s : Sta pa S H p) {a : Addr} (h : H a = none) : ¬ pa.mut a := fun z => s.new h (s.mutS z)
theorem Ext.hid {pa : PAx} {S : Addr → Prop} {H H' : Hp} {p : List Int} (s : Sta pa S H p) (e : Ext pa H H') : Same (hid S H) (hid S H') := fun b o h => by
  obtain ⟨n, h⟩ := of_hid h
  exact hid_of n (e b o (fun z => n (s.mutS z)) h)
/-- another set of hidden places, more in the heap -/
theorem Sta.more {pa : PAx} {S T : Addr → Prop} {H H' : Hp} {p : List Int} (s : Sta pa S H p) (e : Same H H') (st : ∀ a, S a → T a) (h : ∀ a, T a → ¬ S a → ∃ o, H' a = some o ∧ ¬ TupO o) : Sta pa T H' p :=
  ⟨fun a q => ⟨e _ _ (s.pool a q).1, st a (s.pool a q).2⟩, fun a q => by
    by_cases z : S a
    · obtain ⟨o, e2⟩ := s.trk a z
      exact ⟨o, e _ _ e2⟩
    · obtain ⟨o, ho, _⟩ := h a q z
      exact ⟨o, ho⟩, s.tab.keep fun b o h _ => e b o h, fun b h => st _ (s.ms b h), s.pn, fun a o q ho => by
    by_cases z : S a
    · obtain ⟨o', e2⟩ := s.trk a z
      have e3 := e _ _ e2
      rw [ho] at e3
      cases e3
      exact s.ntp a _ z e2
    · obtain ⟨o', e2, e3⟩ := h a q z
      rw [ho] at e2
      cases e2
      exact e3⟩
theorem Same.hid {S : Addr → Prop} {H H' : Hp} (e : Same H H') : Same (hid S H) (hid S H') := fun b o h => by
  obtain ⟨n, h⟩ := of_hid h
  exact hid_of n (e b o h)
theorem same_upd {H : Hp} {p : Addr} {o : HO} (h : H p = none) : Same H (upd H p o) := fun b u e => by
  rw [upd_ne (ne_of_none e h)]; exact e
theorem Sta.own {pa : PAx} {S : Addr → Prop} {H : Hp} {p : List Int} {a : Addr} (u : HO) (s : Sta pa S H p) (n : H a = none) (hu : ¬ TupO u := by rintro (⟨_, z⟩ | ⟨_, _, z⟩) <;> cases z) : Sta pa (fun b => S b ∨ b = a) (upd H a u) p :=
  s.more (same_upd n) (fun _ h => .inl h) fun b h z => by
    rcases h with h | rfl
    · exact absurd h z
    · exact ⟨_, upd_same, hu⟩
theorem Sta.two {pa : PAx} {S : Addr → Prop} {H : Hp} {p : List Int} {x dx : Addr} (u w : HO) (s : Sta pa S H p) (hx : H x = none) (hdx : H dx = none) (ne : dx ≠ x) (hu : ¬ TupO u := by rintro (⟨_, z⟩ | ⟨_, _, z⟩) <;> cases z) (hw : ¬ TupO w := by rintro (⟨_, z⟩ | ⟨_, _, z⟩) <;> cases z) : Sta pa (fun b => S b ∨ b = x ∨ b = dx) (upd (upd H dx w) x u) p :=
  s.more (fun b o hb => by rw [upd_ne (ne_of_none hb hx), upd_ne (ne_of_none hb hdx)]; exact hb) (fun _ h => .inl h) fun b h z => by
    rcases h with h | rfl | rfl
    · exact absurd h z
    · exact ⟨_, upd_same, hu⟩
    · exact ⟨_, (by rw [upd_ne ne]; exact upd_same), hw⟩
theorem nst_lst {xs : List V} : ¬ Stb (.lst xs) := fun z => by
  unfold Stb LamX.CodeO at z
  rcases z with ⟨_, z⟩ | ⟨_, _, z⟩ | ⟨_, z⟩ | ⟨_, _, z⟩ | ⟨_, _, _, _, z⟩ <;> cases z
theorem nst_dK {xs : List (Key × V)} : ¬ Stb (.dK xs) := fun z => by
  unfold Stb LamX.CodeO at z
  rcases z with ⟨_, z⟩ | ⟨_, _, z⟩ | ⟨_, z⟩ | ⟨_, _, z⟩ | ⟨_, _, _, _, z⟩ <;> cases z
theorem nst_dT {xs : List (List Key × V)} : ¬ Stb (.dT xs) := fun z => by
  unfold Stb LamX.CodeO at z
  rcases z with ⟨_, z⟩ | ⟨_, _, z⟩ | ⟨_, z⟩ | ⟨_, _, z⟩ | ⟨_, _, _, _, z⟩ <;> cases z
theorem nst_xd {fs : List (Str × V)} : ¬ Stb (.xd fs) := fun z => by
  unfold Stb LamX.CodeO at z
  rcases z with ⟨_, z⟩ | ⟨_, _, z⟩ | ⟨_, z⟩ | ⟨_, _, z⟩ | ⟨_, _, _, _, z⟩ <;> cases z
/-- a place that is no table and no code object is written -/
theorem ok_upd {c : PC} {H : Hp} {a : Addr} {o : HO} (u : HO) (t : c.ok H) (h : H a = some o) (ho : ¬ Stb o) (nm : ¬ c.mx a) : c.ok (upd H a u) := t.keep fun b w hb hw => by
  rw [upd_ne fun z => ?_]
  · exact hb
  · rw [z, h] at hb
    cases hb
    rcases hw with hw | hw
    · exact ho hw
    · rw [z] at hw
      exact nm hw
/-- what is hidden and no pool and no table is written -/
theorem Sta.put {pa : PAx} {S : Addr → Prop} {H : Hp} {p : List Int} {a : Addr} {o : HO} (u : HO) (s : Sta pa S H p) (np : ¬ pa.mut a) (h : H a = some o) (ho : ¬ Stb o) (hu : ¬ TupO u := by rintro (⟨_, z⟩ | ⟨_, _, z⟩) <;> cases z) : Sta pa S (upd H a u) p :=
  ⟨fun b hb => by
    rw [upd_ne fun z => np (by rw [← z]; exact .inl hb)]
    exact s.pool b hb, fun b hb => by
    by_cases z : b = a
    · exact ⟨u, by rw [z, upd_same]⟩
    · rw [upd_ne z]
      exact s.trk b hb, ok_upd u s.tab h ho fun z => np (.inr (.inr z)), s.ms, s.pn, fun b w hb hw => by
    by_cases z : b = a
    · rw [z, upd_same] at hw
      cases hw
      exact hu
    · rw [upd_ne z] at hw
      exact s.ntp b w hb hw⟩
/-- fewer places are hidden -/
theorem Sta.re {pa : PAx} {S T : Addr → Prop} {H : Hp} {p : List Int} (s : Sta pa T H p) (hs : ∀ b, pa.mut b → S b) (ht : ∀ b, S b → T b) : Sta pa S H p :=
  ⟨fun a ha => ⟨(s.pool a ha).1, hs a (.inl ha)⟩, fun a ha => s.trk a (ht a ha), s.tab, fun b h => hs _ (.inr h), s.pn, fun a o ha => s.ntp a o (ht a ha)⟩
mutual
def deqv : D → D → Bool
  | .non, .non => true
  | .bl a, .bl b => a == b
  | .bl a, .int j => (if a then 1 else 0) == j
  | .int i, .bl b => i == (if b then 1 else 0)
  | .int i, .int j => i == j
  | .str x, .str y => x == y
  | .lst xs, .lst ys => deqvs xs ys
  | .tup xs, .tup ys => deqvs xs ys
  | _, _ => false
def deqvs : List D → List D → Bool
  | [], [] => true
  | x :: xs, y :: ys => deqv x y && deqvs xs ys
  | _, _ => false
end
mutual
/-- no pool within; nested at most n deep -/
def flat : Nat → D → Bool
  | _, .non => true | _, .bl _ => true | _, .int _ => true | _, .str _ => true
  | n + 1, .lst xs => flats n xs
  | n + 1, .tup xs => flats n xs
  | _, _ => false
def flats : Nat → List D → Bool
  | _, [] => true
  | n, x :: xs => flat n x && flats n xs
end
theorem deqvs_iff : ∀ (xs ys : List D), deqvs xs ys = (((List.range (min xs.length ys.length)).all fun j => match xs[j]?, ys[j]? with | some a, some b => deqv a b | _, _ => false) && xs.length == ys.length)
  | [], [] => by simp [deqvs]
  | [], y :: ys => by simp [deqvs]
  | x :: xs, [] => by simp [deqvs]
  | x :: xs, y :: ys => by
    rw [deqvs, deqvs_iff xs ys]
    simp only [List.length_cons, Nat.succ_min_succ, List.range_succ_eq_map, List.all_cons, List.all_map, Nat.succ_eq_add_one]
    simp only [List.getElem?_cons_zero, Function.comp_def, List.getElem?_cons_succ]
    rw [Bool.and_assoc]
    congr 1
    congr 1
    exact Bool.eq_iff_iff.mpr (by simp)
mutual
theorem deqv_self : ∀ (n : Nat) (d : D), flat n d = true → deqv d d = true
  | _, .non, _ => rfl
  | _, .bl _, _ => by simp [deqv]
  | _, .int _, _ => by simp [deqv]
  | _, .str _, _ => by simp [deqv]
  | 0, .lst _, h => by simp [flat] at h
  | n + 1, .lst xs, h => by rw [flat] at h; rw [deqv]; exact deqvs_self n xs h
  | 0, .tup _, h => by simp [flat] at h
  | n + 1, .tup xs, h => by rw [flat] at h; rw [deqv]; exact deqvs_self n xs h
  | 0, .pool, h => by simp [flat] at h
  | n + 1, .pool, h => by simp [flat] at h
  | 0, .scr _, h => by simp [flat] at h
  | n + 1, .scr _, h => by simp [flat] at h
  | 0, .dk _ _, h => by simp [flat] at h
  | n + 1, .dk _ _, h => by simp [flat] at h
  | 0, .dt _ _, h => by simp [flat] at h
  | n + 1, .dt _ _, h => by simp [flat] at h
  | 0, .ins _ _ _, h => by simp [flat] at h
  | n + 1, .ins _ _ _, h => by simp [flat] at h
  | 0, .slt _ _, h => by simp [flat] at h
  | n + 1, .slt _ _, h => by simp [flat] at h
  | 0, .fn _, h => by simp [flat] at h
  | n + 1, .fn _, h => by simp [flat] at h
  | 0, .adr _, h => by simp [flat] at h
  | n + 1, .adr _, h => by simp [flat] at h
  | 0, .ptp _, h => by simp [flat] at h
  | n + 1, .ptp _, h => by simp [flat] at h
  | 0, .act _ _ _ _, h => by simp [flat] at h
  | n + 1, .act _ _ _ _, h => by simp [flat] at h
theorem deqvs_self : ∀ (n : Nat) (ds : List D), flats n ds = true → deqvs ds ds = true
  | _, [], _ => rfl
  | n, d :: ds, h => by
    rw [flats, Bool.and_eq_true] at h
    rw [deqvs, deqv_self n d h.1, deqvs_self n ds h.2]; rfl
end
end Dt
namespace Dt
variable [GTab]
open PySem PySem.Spec PyProof.Rows L2
section
variable {κ α β : Type} [DecidableEq κ]
def getG (m : List (κ × α)) (k : κ) : Option α := (m.find? fun q => decide (q.1 = k)).map (·.2)
def putG (m : List (κ × α)) (k : κ) (v : α) : List (κ × α) := if (m.any fun q => decide (q.1 = k)) = true then m.map (fun q => if q.1 = k then (q.1, v) else q) else m ++ [(k, v)]
def mergeG (m more : List (κ × α)) : List (κ × α) := more.foldl (fun acc q => putG acc q.1 q.2) m
def memK (ks : List κ) (k : κ) : Bool := ks.any fun c => decide (c = k)
theorem zip_pairs : ∀ m : List (κ × α), (m.map (·.1)).zip (m.map (·.2)) = m
  | [] => rfl
  | (k, v) :: m => by rw [List.map_cons, List.map_cons, List.zip_cons_cons, zip_pairs m]
theorem zip_fst : ∀ {ks : List κ} {xs : List α}, xs.length = ks.length → (ks.zip xs).map (·.1) = ks
  | [], _, _ => by simp
  | k :: ks, [], h => by simp at h
  | k :: ks, x :: xs, h => by rw [List.zip_cons_cons, List.map_cons, zip_fst (by simpa using h)]
theorem zip_snd : ∀ {ks : List κ} {xs : List α}, xs.length = ks.length → (ks.zip xs).map (·.2) = xs
  | [], [], _ => rfl
  | [], x :: xs, h => by simp at h
  | k :: ks, [], h => by simp at h
  | k :: ks, x :: xs, h => by rw [List.zip_cons_cons, List.map_cons, zip_snd (by simpa using h)]
end
abbrev dkv (m : List (Key × D)) : D := .dk (m.map (·.1)) (m.map (·.2))
def KRp {κ : Type} (K : PySem.W.Frag) (pa : PAx) (H : Hp) : List (κ × V) → List (κ × D) → Prop := Paired fun (p : κ × V) (q : κ × D) => p.1 = q.1 ∧ Rp K pa H p.2 q.2
section
variable {κ : Type} [DecidableEq κ] {K : PySem.W.Frag} {pa : PAx} {H H' : Hp}
theorem KRp.of : ∀ {ks : List κ} {xs : List V} {ds : List D}, xs.length = ks.length → RpL K pa H xs ds → KRp K pa H (ks.zip xs) (ks.zip ds)
  | [], _, _, _, _ => by simp; exact .nil
  | k :: ks, _, _, h, .nil => by simp at h
  | k :: ks, _, _, h, .cons r t => .cons ⟨rfl, r⟩ (KRp.of (by simpa using h) t)
theorem KRp.fst : ∀ {kv : List (κ × V)} {m : List (κ × D)}, KRp K pa H kv m → kv.map (·.1) = m.map (·.1)
  | _, _, .nil => rfl
  | _, _, .cons ⟨h, _⟩ t => by rw [List.map_cons, List.map_cons, h, KRp.fst t]
theorem KRp.snd : ∀ {kv : List (κ × V)} {m : List (κ × D)}, KRp K pa H kv m → RpL K pa H (kv.map (·.2)) (m.map (·.2))
  | _, _, .nil => .nil
  | _, _, .cons ⟨_, h⟩ t => .cons h (KRp.snd t)
theorem KRp.length : ∀ {kv : List (κ × V)} {m : List (κ × D)}, KRp K pa H kv m → kv.length = m.length
  | _, _, .nil => rfl
  | _, _, .cons _ t => by rw [List.length_cons, List.length_cons, KRp.length t]
theorem KRp.keep (e : Keep K H H') : ∀ {kv : List (κ × V)} {m : List (κ × D)}, KRp K pa H kv m → KRp K pa H' kv m
  | _, _, .nil => .nil
  | _, _, .cons ⟨h1, h2⟩ t => .cons ⟨h1, Rp.keep e _ _ h2⟩ (KRp.keep e t)
theorem KRp.mono (e : Same H H') {kv : List (κ × V)} {m : List (κ × D)} (h : KRp K pa H kv m) : KRp K pa H' kv m := KRp.keep e.keep h
theorem KRp.get (k : κ) : ∀ {kv : List (κ × V)} {m : List (κ × D)}, KRp K pa H kv m → (getG m k = none ∧ valV kv k = none) ∨ ∃ v d, getG m k = some d ∧ valV kv k = some v ∧ Rp K pa H v d
  | _, _, .nil => .inl ⟨rfl, rfl⟩
  | _, _, .cons (a := (k1, v1)) (b := (k2, d1)) ⟨h1, h2⟩ t => by
    have h1 : k1 = k2 := h1
    subst h1
    unfold getG valV
    rw [List.find?_cons, List.find?_cons]
    by_cases e : k1 = k
    · simp only [e, decide_true]
      exact .inr ⟨v1, d1, rfl, rfl, h2⟩
    · simp only [e, decide_false]
      exact KRp.get k t
theorem KRp.any (k : κ) : ∀ {kv : List (κ × V)} {m : List (κ × D)}, KRp K pa H kv m → (kv.any fun q => decide (q.1 = k)) = m.any fun q => decide (q.1 = k)
  | _, _, .nil => rfl
  | _, _, .cons ⟨h1, _⟩ t => by rw [List.any_cons, List.any_cons, h1, KRp.any k t]
theorem KRp.repl (k : κ) {v : V} {d : D} (r : Rp K pa H v d) : ∀ {kv : List (κ × V)} {m : List (κ × D)}, KRp K pa H kv m → KRp K pa H (kv.map fun q => if q.1 = k then (q.1, v) else q) (m.map fun q => if q.1 = k then (q.1, d) else q)
  | _, _, .nil => .nil
  | _, _, .cons (a := (k1, v1)) (b := (k2, d1)) ⟨h1, h2⟩ t => by
    have h1 : k1 = k2 := h1
    subst h1
    rw [List.map_cons, List.map_cons]
    refine .cons ?_ (KRp.repl k r t)
    by_cases e : k1 = k
    · simp only [e, if_true]; exact ⟨trivial, r⟩
    · simp only [e, if_false]; exact ⟨trivial, h2⟩
theorem KRp.snoc {k : κ} {v : V} {d : D} (r : Rp K pa H v d) : ∀ {kv : List (κ × V)} {m : List (κ × D)}, KRp K pa H kv m → KRp K pa H (kv ++ [(k, v)]) (m ++ [(k, d)])
  | _, _, .nil => .cons ⟨rfl, r⟩ .nil
  | _, _, .cons h t => .cons h (KRp.snoc r t)
theorem KRp.put {kv : List (κ × V)} {m : List (κ × D)} (h : KRp K pa H kv m) (k : κ) {v : V} {d : D} (r : Rp K pa H v d) : KRp K pa H (putK kv k v) (putG m k d) := by
  unfold putK putG
  rw [h.any k]
  split
  · exact h.repl k r
  · exact h.snoc r
theorem hasG_iff {m : List (κ × D)} {k : κ} : (getG m k).isSome = memK (m.map (·.1)) k := by
  induction m with
  | nil => simp [getG, memK]
  | cons q m ih =>
    obtain ⟨k1, d1⟩ := q
    unfold getG at ih ⊢
    rw [List.find?_cons, List.map_cons]
    by_cases e : k1 = k
    · simp [e, memK]
    · simp only [e, decide_false, memK, List.any_cons, Bool.false_or]
      exact ih
end
section
variable {K : PySem.W.Frag} {pa : PAx} {H : Hp}
theorem Rp.dkv {a : Addr} {kv : List (Key × V)} {m : List (Key × D)} (h : Rd H a (.dK kv)) (r : KRp K pa H kv m) (ok : ∀ q ∈ m, kOk q.1) : Rp K pa H (.ref a) (dkv m) := by
  refine .dk (xs := kv.map (·.2)) ?_ (by rw [List.length_map, List.length_map, r.length]) (fun k hk => ?_) r.snd
  · rw [← r.fst, zip_pairs]; exact h
  · obtain ⟨q, hq, rfl⟩ := List.mem_map.mp hk
    exact ok q hq
theorem Rp.dk_inv {v : V} {ks : List Key} {ds : List D} (h : Rp K pa H v (.dk ks ds)) : ∃ a kv, v = .ref a ∧ Rd H a (.dK kv) ∧ KRp K pa H kv (ks.zip ds) ∧ ds.length = ks.length ∧ ∀ k ∈ ks, kOk k := by
  cases h with
  | dk h1 h2 h4 h3 => exact ⟨_, _, rfl, h1, KRp.of h2 h3, by rw [← h3.length]; exact h2, h4⟩
end
def keyOf : D → Option Key
  | .int i => some (.inl i)
  | .str x => some (.inr x)
  | _ => none
def dKey : Key → D
  | .inl i => .int i
  | .inr x => .str x
section
variable {K : PySem.W.Frag} {pa : PAx} {H : Hp}
theorem Rp.key {v : V} {d : D} {k : Key} (r : Rp K pa H v d) (h : keyOf d = some k) : v = kV k ∧ kOk k ∧ d = dKey k := by
  cases r with
  | int i => cases h; exact ⟨rfl, trivial, rfl⟩
  | str x z => cases h; exact ⟨rfl, z, rfl⟩
  | _ => cases h
end
end Dt
namespace Dt
variable [GTab]
open PySem PySem.Spec PyProof.Rows L2
open PySem.SeqAt (EqAt RcAt)
section
variable {X : Cx} {pins : List (Addr × Obj)} {σ : L2.St} {H : Hp} {s : Shared} {pa : PAx}
theorem Rp.isList (I : Inv X pins σ H s) {a : Addr} {xs : List V} (h : SqL X.K H a xs) : ∃ its : List Value, Vals xs its ∧ s.heap.IsList a its.toArray ∧ its.length = xs.length ∧ xs.length ≤ sizeLine := by
  obtain ⟨its, r, ⟨o, n, e1, e2, _, e4⟩, z⟩ := I.list h
  exact ⟨its, r, ⟨o, e1, e2, n, e4⟩, r.length.symm, z⟩
theorem Rp.isTup (I : Inv X pins σ H s) {a : Addr} {xs : List V} (h : SqT X.K H a xs) : ∃ its : List Value, Vals xs its ∧ s.heap.IsTuple a its.toArray ∧ its.length = xs.length ∧ xs.length ≤ sizeLine := by
  obtain ⟨its, r, ⟨o, e1, e2, n, e4⟩, z⟩ := I.tuple h
  exact ⟨its, r, ⟨o, e1, e2, n, e4⟩, r.length.symm, z⟩
theorem list_tuple_ne (I : Inv X pins σ H s) {a b : Addr} {xs ys : List V} (h : SqL X.K H a xs) (h' : SqT X.K H b ys) : a ≠ b := by
  obtain ⟨_, _, l, _⟩ := Rp.isList I h
  obtain ⟨_, _, t, _⟩ := Rp.isTup I h'
  exact SeqAt.ne_of_list_tuple l t
mutual
theorem Rp.inj (I : Inv X pins σ H s) : ∀ (n : Nat) (d e : D) (v : V), flat n d = true → flat n e = true → Rp X.K pa H v d → Rp X.K pa H v e → d = e
  | n, .non, e, _, _, fe, h, h' => by cases h; cases h'; rfl
  | n, .bl b, e, _, _, fe, h, h' => by cases h; cases h'; rfl
  | n, .int b, e, _, _, fe, h, h' => by cases h; cases h'; rfl
  | n, .str b, e, _, _, fe, h, h' => by cases h; cases h'; rfl
  | 0, .lst _, _, _, f, _, _, _ => by simp [flat] at f
  | 0, .tup _, _, _, f, _, _, _ => by simp [flat] at f
  | 0, .pool, _, _, f, _, _, _ => by simp [flat] at f
  | n + 1, .pool, _, _, f, _, _, _ => by simp [flat] at f
  | 0, .scr _, _, _, f, _, _, _ => by simp [flat] at f
  | n + 1, .scr _, _, _, f, _, _, _ => by simp [flat] at f
  | 0, .dk _ _, _, _, f, _, _, _ => by simp [flat] at f
  | n + 1, .dk _ _, _, _, f, _, _, _ => by simp [flat] at f
  | 0, .dt _ _, _, _, f, _, _, _ => by simp [flat] at f
  | n + 1, .dt _ _, _, _, f, _, _, _ => by simp [flat] at f
  | 0, .ins _ _ _, _, _, f, _, _, _ => by simp [flat] at f
  | n + 1, .ins _ _ _, _, _, f, _, _, _ => by simp [flat] at f
  | 0, .slt _ _, _, _, f, _, _, _ => by simp [flat] at f
  | n + 1, .slt _ _, _, _, f, _, _, _ => by simp [flat] at f
  | 0, .fn _, _, _, f, _, _, _ => by simp [flat] at f
  | 0, .adr _, _, _, f, _, _, _ => by simp [flat] at f
  | n + 1, .fn _, _, _, f, _, _, _ => by simp [flat] at f
  | n + 1, .adr _, _, _, f, _, _, _ => by simp [flat] at f
  | 0, .ptp _, _, _, f, _, _, _ => by simp [flat] at f
  | 0, .act _ _ _ _, _, _, f, _, _, _ => by simp [flat] at f
  | n + 1, .ptp _, _, _, f, _, _, _ => by simp [flat] at f
  | n + 1, .act _ _ _ _, _, _, f, _, _, _ => by simp [flat] at f
  | n + 1, .lst ds, e, _, fd, fe, h, h' => by
    cases h with
    | lst h1 h2 =>
      cases h' with
      | lst k1 k2 =>
        have q := I.list_inj (SqL.of h1) (SqL.of k1)
        subst q
        rw [RpL.inj I n ds _ _ (by simpa [flat] using fd) (by simpa [flat] using fe) h2 k2]
      | tup k1 k2 => exact absurd rfl (list_tuple_ne I (SqL.of h1) k1)
      | pool _ => simp [flat] at fe
      | scr _ => simp [flat] at fe
      | dk _ _ _ _ => simp [flat] at fe
      | dt _ _ _ _ => simp [flat] at fe
      | ins _ _ _ _ => simp [flat] at fe
      | slt _ _ _ => simp [flat] at fe
      | fn _ => simp [flat] at fe
      | adr _ => simp [flat] at fe
      | ptp _ _ _ => simp [flat] at fe
      | act _ => simp [flat] at fe
  | n + 1, .tup ds, e, _, fd, fe, h, h' => by
    cases h with
    | tup h1 h2 =>
      cases h' with
      | tup k1 k2 =>
        have q := I.tuple_inj h1 k1
        subst q
        rw [RpL.inj I n ds _ _ (by simpa [flat] using fd) (by simpa [flat] using fe) h2 k2]
      | lst k1 k2 => exact absurd rfl (list_tuple_ne I (SqL.of k1) h1)
      | pool _ => simp [flat] at fe
      | scr _ => simp [flat] at fe
      | dk _ _ _ _ => simp [flat] at fe
      | dt _ _ _ _ => simp [flat] at fe
      | ins _ _ _ _ => simp [flat] at fe
      | slt _ _ _ => simp [flat] at fe
      | fn _ => simp [flat] at fe
      | adr _ => simp [flat] at fe
      | ptp _ _ _ => simp [flat] at fe
      | act _ => simp [flat] at fe
theorem RpL.inj (I : Inv X pins σ H s) : ∀ (n : Nat) (ds es : List D) (vs : List V), flats n ds = true → flats n es = true → RpL X.K pa H vs ds → RpL X.K pa H vs es → ds = es
  | _, [], _, _, _, _, h, h' => by cases h; cases h'; rfl
  | n, d :: ds, _, _, f, f', h, h' => by
    cases h with
    | cons h1 h2 =>
      cases h' with
      | cons k1 k2 =>
        rw [flats, Bool.and_eq_true] at f f'
        rw [Rp.inj I n d _ _ f.1 f'.1 h1 k1, RpL.inj I n ds _ _ f.2 f'.2 h2 k2]
end
theorem room_in {A : Around} {n : Nat} (h : A.units + (n + 1) < cLine) : A.in1.units + n < cLine := by
  show A.units + 1 + n < cLine
  omega
theorem room_lo {A : Around} {n : Nat} (h : A.units + n < cLine) : A.units < cLine := by omega
mutual
theorem eqAt_D (I : Inv X pins σ H s) : ∀ (n : Nat) (d e : D) (A : Around) (x y : V) (u v : Value), flat n d = true → flat n e = true → Rp X.K pa H x d → Rp X.K pa H y e → RelV x u → RelV y v →
    A.units + n < cLine → EqAt A s u v (deqv d e)
  | n, .non, e, A, _, _, _, _, _, fe, h, h', r, r', hu => by
    cases h; cases r
    cases h' with
    | non => cases r'; exact EqAt.same _
    | bl b => cases r'; exact EqAt.none_bool _
    | int i => obtain ⟨t, rfl⟩ := r'; exact EqAt.none_int _ _
    | str i _ => obtain ⟨t, rfl⟩ := r'; exact EqAt.none_str _ _
    | lst k1 k2 => cases r'; obtain ⟨its, _, l, _⟩ := Rp.isList I (SqL.of k1); exact EqAt.none_list l (room_lo hu)
    | tup k1 k2 => cases r'; obtain ⟨its, _, l, _⟩ := Rp.isTup I k1; exact EqAt.none_tuple l (room_lo hu)
    | _ => cases n <;> simp [flat] at fe
  | n, .bl x, e, A, _, _, _, _, _, fe, h, h', r, r', hu => by
    cases h; cases r
    cases h' with
    | non => cases r'; exact EqAt.bool_none _
    | bl b => cases r'; exact EqAt.bool_bool _ _
    | int i => obtain ⟨t, rfl⟩ := r'; exact EqAt.bool_int _ _ _
    | str i _ => obtain ⟨t, rfl⟩ := r'; exact EqAt.bool_str _ _ _
    | lst k1 k2 => cases r'; obtain ⟨its, _, l, _⟩ := Rp.isList I (SqL.of k1); exact EqAt.bool_list _ l (room_lo hu)
    | tup k1 k2 => cases r'; obtain ⟨its, _, l, _⟩ := Rp.isTup I k1; exact EqAt.bool_tuple _ l (room_lo hu)
    | _ => cases n <;> simp [flat] at fe
  | n, .int x, e, A, _, _, _, _, _, fe, h, h', r, r', hu => by
    cases h; obtain ⟨t0, rfl⟩ := r
    cases h' with
    | non => cases r'; exact EqAt.int_none _ _
    | bl b => cases r'; exact EqAt.int_bool _ _ _
    | int i => obtain ⟨t, rfl⟩ := r'; exact EqAt.int_int _ _ _ _
    | str i _ => obtain ⟨t, rfl⟩ := r'; exact EqAt.int_str _ _ _ _
    | lst k1 k2 => cases r'; obtain ⟨its, _, l, _⟩ := Rp.isList I (SqL.of k1); exact EqAt.int_list _ _ l (room_lo hu)
    | tup k1 k2 => cases r'; obtain ⟨its, _, l, _⟩ := Rp.isTup I k1; exact EqAt.int_tuple _ _ l (room_lo hu)
    | _ => cases n <;> simp [flat] at fe
  | n, .str x, e, A, _, _, _, _, _, fe, h, h', r, r', hu => by
    cases h; obtain ⟨t0, rfl⟩ := r
    cases h' with
    | non => cases r'; exact EqAt.str_none _ _
    | bl b => cases r'; exact EqAt.str_bool _ _ _
    | int i => obtain ⟨t, rfl⟩ := r'; exact EqAt.str_int _ _ _ _
    | str i _ => obtain ⟨t, rfl⟩ := r'; exact EqAt.str_str _ _ _ _
    | lst k1 k2 => cases r'; obtain ⟨its, _, l, _⟩ := Rp.isList I (SqL.of k1); exact EqAt.str_list _ _ l (room_lo hu)
    | tup k1 k2 => cases r'; obtain ⟨its, _, l, _⟩ := Rp.isTup I k1; exact EqAt.str_tuple _ _ l (room_lo hu)
    | _ => cases n <;> simp [flat] at fe
  | 0, .lst _, _, _, _, _, _, _, f, _, _, _, _, _, _ => by simp [flat] at f
  | 0, .tup _, _, _, _, _, _, _, f, _, _, _, _, _, _ => by simp [flat] at f
  | 0, .pool, _, _, _, _, _, _, f, _, _, _, _, _, _ => by simp [flat] at f
  | n + 1, .pool, _, _, _, _, _, _, f, _, _, _, _, _, _ => by simp [flat] at f
  | 0, .scr _, _, _, _, _, _, _, f, _, _, _, _, _, _ => by simp [flat] at f
  | n + 1, .scr _, _, _, _, _, _, _, f, _, _, _, _, _, _ => by simp [flat] at f
  | 0, .dk _ _, _, _, _, _, _, _, f, _, _, _, _, _, _ => by simp [flat] at f
  | n + 1, .dk _ _, _, _, _, _, _, _, f, _, _, _, _, _, _ => by simp [flat] at f
  | 0, .dt _ _, _, _, _, _, _, _, f, _, _, _, _, _, _ => by simp [flat] at f
  | n + 1, .dt _ _, _, _, _, _, _, _, f, _, _, _, _, _, _ => by simp [flat] at f
  | 0, .ins _ _ _, _, _, _, _, _, _, f, _, _, _, _, _, _ => by simp [flat] at f
  | n + 1, .ins _ _ _, _, _, _, _, _, _, f, _, _, _, _, _, _ => by simp [flat] at f
  | 0, .slt _ _, _, _, _, _, _, _, f, _, _, _, _, _, _ => by simp [flat] at f
  | n + 1, .slt _ _, _, _, _, _, _, _, f, _, _, _, _, _, _ => by simp [flat] at f
  | 0, .fn _, _, _, _, _, _, _, f, _, _, _, _, _, _ => by simp [flat] at f
  | 0, .adr _, _, _, _, _, _, _, f, _, _, _, _, _, _ => by simp [flat] at f
  | n + 1, .fn _, _, _, _, _, _, _, f, _, _, _, _, _, _ => by simp [flat] at f
  | n + 1, .adr _, _, _, _, _, _, _, f, _, _, _, _, _, _ => by simp [flat] at f
  | 0, .ptp _, _, _, _, _, _, _, f, _, _, _, _, _, _ => by simp [flat] at f
  | 0, .act _ _ _ _, _, _, _, _, _, _, f, _, _, _, _, _, _ => by simp [flat] at f
  | n + 1, .ptp _, _, _, _, _, _, _, f, _, _, _, _, _, _ => by simp [flat] at f
  | n + 1, .act _ _ _ _, _, _, _, _, _, _, f, _, _, _, _, _, _ => by simp [flat] at f
  | n + 1, .lst ds, e, A, _, _, _, _, fd, fe, h, h', r, r', hu => by
    cases h with
    | @lst a xs _ h1 h2 =>
      cases r
      obtain ⟨its, rv, hl, len1, _⟩ := Rp.isList I (SqL.of h1)
      cases h' with
      | non => cases r'; exact EqAt.list_none hl (room_lo hu)
      | bl b => cases r'; exact EqAt.list_bool _ hl (room_lo hu)
      | int i => obtain ⟨t, rfl⟩ := r'; exact EqAt.list_int _ _ hl (room_lo hu)
      | str i _ => obtain ⟨t, rfl⟩ := r'; exact EqAt.list_str _ _ hl (room_lo hu)
      | tup k1 k2 => cases r'; obtain ⟨_, _, l, _⟩ := Rp.isTup I k1; exact EqAt.list_tuple hl l (room_lo hu)
      | pool _ => simp [flat] at fe
      | scr _ => simp [flat] at fe
      | dk _ _ _ _ => simp [flat] at fe
      | dt _ _ _ _ => simp [flat] at fe
      | ins _ _ _ _ => simp [flat] at fe
      | slt _ _ _ => simp [flat] at fe
      | fn _ => simp [flat] at fe
      | adr _ => simp [flat] at fe
      | ptp _ _ _ => simp [flat] at fe
      | act _ => simp [flat] at fe
      | @lst b ys es k1 k2 =>
        cases r'
        by_cases hab : a = b
        · subst hab
          have q := I.list_inj (SqL.of h1) (SqL.of k1)
          subst q
          have q2 : ds = es := RpL.inj I n ds es _ (by simpa [flat] using fd) (by simpa [flat] using fe) h2 k2
          subst q2
          have q3 : deqv (.lst ds) (.lst ds) = true := deqv_self (n + 1) _ fd
          rw [q3]
          exact EqAt.same _
        · obtain ⟨its2, rv2, hl2, len2, _⟩ := Rp.isList I (SqL.of k1)
          have e1 : its.length = ds.length := len1.trans h2.length
          have e2 : its2.length = es.length := len2.trans k2.length
          have key := eqAt_Ds I n ds es A.in1 xs ys its its2 (by simpa [flat] using fd) (by simpa [flat] using fe) h2 k2 rv rv2 (room_in hu)
          refine EqAt.of_refs hab ?_
          rw [deqv, deqvs_iff]
          by_cases hsz : its.length = its2.length
          · have hz : ds.length = es.length := by omega
            have hm : min ds.length es.length = its.toArray.size := by rw [← hz, Nat.min_self, ← e1, List.size_toArray]
            have hz' : (ds.length == es.length) = true := by rw [hz]; simp
            rw [hz', Bool.and_true, hm]
            refine RcAt.lists hl hl2 (by simpa using hsz) (room_lo hu) fun j j1 j2 => ?_
            exact key j (by simpa using j1) (by simpa using j2)
          · have hz' : (ds.length == es.length) = false := by
              rw [beq_eq_false_iff_ne]; omega
            rw [hz', Bool.and_false]
            exact RcAt.lists_lengths hl hl2 (by simpa using hsz) (room_lo hu)
  | n + 1, .tup ds, e, A, _, _, _, _, fd, fe, h, h', r, r', hu => by
    cases h with
    | @tup a xs _ h1 h2 =>
      cases r
      obtain ⟨its, rv, hl, len1, _⟩ := Rp.isTup I h1
      cases h' with
      | non => cases r'; exact EqAt.tuple_none hl (room_lo hu)
      | bl b => cases r'; exact EqAt.tuple_bool _ hl (room_lo hu)
      | int i => obtain ⟨t, rfl⟩ := r'; exact EqAt.tuple_int _ _ hl (room_lo hu)
      | str i _ => obtain ⟨t, rfl⟩ := r'; exact EqAt.tuple_str _ _ hl (room_lo hu)
      | lst k1 k2 => cases r'; obtain ⟨_, _, l, _⟩ := Rp.isList I (SqL.of k1); exact EqAt.tuple_list hl l (room_lo hu)
      | pool _ => simp [flat] at fe
      | scr _ => simp [flat] at fe
      | dk _ _ _ _ => simp [flat] at fe
      | dt _ _ _ _ => simp [flat] at fe
      | ins _ _ _ _ => simp [flat] at fe
      | slt _ _ _ => simp [flat] at fe
      | fn _ => simp [flat] at fe
      | adr _ => simp [flat] at fe
      | ptp _ _ _ => simp [flat] at fe
      | act _ => simp [flat] at fe
      | @tup b ys es k1 k2 =>
        cases r'
        by_cases hab : a = b
        · subst hab
          have q := I.tuple_inj h1 k1
          subst q
          have q2 : ds = es := RpL.inj I n ds es _ (by simpa [flat] using fd) (by simpa [flat] using fe) h2 k2
          subst q2
          have q3 : deqv (.tup ds) (.tup ds) = true := deqv_self (n + 1) _ fd
          rw [q3]
          exact EqAt.same _
        · obtain ⟨its2, rv2, hl2, len2, _⟩ := Rp.isTup I k1
          have e1 : its.length = ds.length := len1.trans h2.length
          have e2 : its2.length = es.length := len2.trans k2.length
          have key := eqAt_Ds I n ds es A.in1 xs ys its its2 (by simpa [flat] using fd) (by simpa [flat] using fe) h2 k2 rv rv2 (room_in hu)
          refine EqAt.of_refs hab ?_
          rw [deqv, deqvs_iff]
          have hm : min ds.length es.length = min its.toArray.size its2.toArray.size := by rw [List.size_toArray, List.size_toArray, e1, e2]
          have hq : (ds.length == es.length) = (its.toArray.size == its2.toArray.size) := by rw [List.size_toArray, List.size_toArray, e1, e2]
          rw [hm, hq]
          refine RcAt.tuples hl hl2 (room_lo hu) fun j j1 j2 => ?_
          exact key j (by simpa using j1) (by simpa using j2)
theorem eqAt_Ds (I : Inv X pins σ H s) : ∀ (n : Nat) (ds es : List D) (A : Around) (xs ys : List V) (us vs : List Value), flats n ds = true → flats n es = true → RpL X.K pa H xs ds → RpL X.K pa H ys es → Vals xs us → Vals ys vs →
    A.units + n < cLine → ∀ j (h1 : j < us.length) (h2 : j < vs.length), EqAt A s us[j] vs[j] (match ds[j]?, es[j]? with | some a, some b => deqv a b | _, _ => false)
  | n, [], _, _, _, _, _, _, _, _, h, _, r, _, _, j, h1, _ => by cases h; cases r; exact absurd h1 (Nat.not_lt_zero _)
  | n, _ :: _, [], _, _, _, _, _, _, _, _, h', _, r', _, j, _, h2 => by cases h'; cases r'; exact absurd h2 (Nat.not_lt_zero _)
  | n, d :: ds, e :: es, A, _, _, _, _, f, f', h, h', r, r', hu, j, h1, h2 => by
    rw [flats, Bool.and_eq_true] at f f'
    cases h with
    | cons a1 a2 =>
      cases h' with
      | cons b1 b2 =>
        cases r with
        | cons c1 c2 =>
          cases r' with
          | cons d1 d2 =>
            cases j with
            | zero => exact eqAt_D I n d e A _ _ _ _ f.1 f'.1 a1 b1 c1 d1 hu
            | succ j => exact eqAt_Ds I n ds es A _ _ _ _ f.2 f'.2 a2 b2 c2 d2 hu j (Nat.lt_of_succ_lt_succ h1) (Nat.lt_of_succ_lt_succ h2)
end
end
end Dt
namespace Dt
variable [GTab]
open PySem PySem.Spec PyProof.Rows L2
open PySem.SeqAt (EqAt RcAt)
abbrev Ev := List (Option D)
abbrev MR (α : Type) := Option (α × List Int)
abbrev M := Ev → List Int → MR D
abbrev MB := Ev → List Int → MR Bool
abbrev ML := Ev → List Int → MR (List D)
def bnd {α β : Type} (x : MR α) (f : α → List Int → MR β) : MR β := match x with | none => none | some (a, p) => f a p
theorem bnd_some {α β : Type} {x : MR α} {f : α → List Int → MR β} {b : β × List Int} (h : bnd x f = some b) : ∃ a p, x = some (a, p) ∧ f a p = some b := by
  cases x with
  | none => simp [bnd] at h
  | some q => obtain ⟨a, p⟩ := q; exact ⟨a, p, rfl, h⟩
@[simp] theorem bnd_eq {α β : Type} {a : α} {p : List Int} {f : α → List Int → MR β} : bnd (some (a, p)) f = f a p := rfl
@[simp] theorem bnd_none {α β : Type} {f : α → List Int → MR β} : bnd (none : MR α) f = none := rfl
def lft {α : Type} (x : Option α) (p : List Int) : MR α := match x with | none => none | some a => some (a, p)
@[simp] theorem lft_some {α : Type} {a : α} {p : List Int} : lft (some a) p = some (a, p) := rfl
@[simp] theorem lft_none {α : Type} {p : List Int} : lft (none : Option α) p = none := rfl
theorem lft_eq {α : Type} {x : Option α} {p q : List Int} {b : α} (h : lft x p = some (b, q)) : ∃ a, x = some a ∧ a = b ∧ p = q := by
  cases x with
  | none => simp at h
  | some a => simp at h; exact ⟨a, rfl, h.1, h.2⟩
theorem pr {α : Type} {a b : α} {p q : List Int} (h : some (a, p) = some (b, q)) : a = b ∧ p = q := by
  cases h; exact ⟨rfl, rfl⟩
structure EnvE (K : PySem.W.Frag) (pa : PAx) (H : Hp) (σ : L2.St) (r : Ev) : Prop where
  len : σ.length = r.length
  at_ : ∀ (i : Nat) (d : D), r[i]? = some (some d) → ∃ v, σ[i]? = some (some v) ∧ Rp K pa H v d
theorem EnvE.mono {K : PySem.W.Frag} {pa : PAx} {H H' : Hp} {σ : L2.St} {r : Ev} (e : EnvE K pa H σ r) (s : Same H H') : EnvE K pa H' σ r :=
  ⟨e.len, fun i d h => let ⟨v, a, b⟩ := e.at_ i d h; ⟨v, a, Rp.mono s d v b⟩⟩
/-- where a reading stands -/
structure Cn (K : PySem.W.Frag) (pa : PAx) (S : Addr → Prop) (σ : L2.St) (H : Hp) (r : Ev) (p : List Int) : Prop where
  sta : Sta pa S H p
  env : EnvE K pa (hid S H) σ r
section
variable {K : PySem.W.Frag} {pa : PAx} {S : Addr → Prop} {σ : L2.St} {H H' : Hp} {r : Ev} {p p' : List Int}
theorem Cn.go (c : Cn K pa S σ H r p) (e : Ext pa H H') (s : Sta pa S H' p') : Cn K pa S σ H' r p' := ⟨s, c.env.mono (e.hid c.sta)⟩
theorem Cn.same (c : Cn K pa S σ H r p) (e : Same H H') : Cn K pa S σ H' r p := ⟨c.sta.same e, c.env.mono (Same.hid e)⟩
end
def PostE (K : PySem.W.Frag) (pa : PAx) (S : Addr → Prop) (H : Hp) (p' : List Int) (d : D) (Q : VK) : Prop := ∀ v H', Ext pa H H' → Sta pa S H' p' → Rp K pa (hid S H') v d → Q v H'
def tM (K : PySem.W.Frag) (m : M) : TE := fun σ H Q => ∃ pa S r p d p', Cn K pa S σ H r p ∧ m r p = some (d, p') ∧ PostE K pa S H p' d Q
def tMB (K : PySem.W.Frag) (m : MB) : TT := fun σ H Q => ∃ pa S r p b p', Cn K pa S σ H r p ∧ m r p = some (b, p') ∧ ∀ H', Ext pa H H' → Sta pa S H' p' → Q b H'
def tML (K : PySem.W.Frag) (m : ML) : TA := fun σ H Q => ∃ pa S r p ds p', Cn K pa S σ H r p ∧ m r p = some (ds, p') ∧ ∀ vs H', Ext pa H H' → Sta pa S H' p' → RpL K pa (hid S H') vs ds → Q vs H'
structure JE (X : Cx) (e : Expr) (m : M) : Prop where pe : PE X e (tM X.K m)
structure JT (X : Cx) (e : Expr) (m : MB) : Prop where pt : PT X e (tMB X.K m)
structure JW (X : Cx) (e : Expr) (m : MB) : Prop where pw : PW X e (tMB X.K m)
structure JA (X : Cx) (es : List Expr) (m : ML) : Prop where pa : PA X es (tML X.K m)
theorem _root_.L2.PE.weak {X : Cx} {e : Expr} {t t' : TE} (h : PE X e t) (w : ∀ σ H Q, t' σ H Q → t σ H Q) : PE X e t' := ⟨fun pins s σ H Q I q => h.run pins s σ H Q I (w σ H Q q)⟩
theorem _root_.L2.PT.weak {X : Cx} {e : Expr} {t t' : TT} (h : PT X e t) (w : ∀ σ H Q, t' σ H Q → t σ H Q) : PT X e t' := ⟨fun pins s σ H Q I q => h.run pins s σ H Q I (w σ H Q q)⟩
theorem _root_.L2.PW.weak {X : Cx} {e : Expr} {t t' : TT} (h : PW X e t) (w : ∀ σ H Q, t' σ H Q → t σ H Q) : PW X e t' := ⟨fun wh pins s σ H Q I q => h.run wh pins s σ H Q I (w σ H Q q)⟩
theorem _root_.L2.PA.weak {X : Cx} {e : List Expr} {t t' : TA} (h : PA X e t) (w : ∀ σ H Q, t' σ H Q → t σ H Q) : PA X e t' := ⟨fun pos pins s σ H Q I q => h.run pos pins s σ H Q I (w σ H Q q)⟩
def mVar (i : Nat) : M := fun r p => match r[i]? with | some (some d) => some (d, p) | _ => none
def mC (d : D) : M := fun _ p => some (d, p)
theorem je_var {X : Cx} (i : Nat) {x : Str} {pos : Pos} (hN : X.N[i]? = some x := by rfl) (hv : Vis X.env.scope x := by first | exact Or.inl rfl | exact Or.inr (Or.inl rfl) | exact Or.inr (Or.inr rfl)) (hd : (x == ("__debug__" : Str)) = false := by decide) (hcd : (x == ("__classdict__" : Str)) = false := by decide) :
    JE X (.Name x pos) (mVar i) := ⟨(pe_var hN hv hd hcd).weak fun σ H Q ⟨pa, S, r, p, d, p', c, e, q⟩ => by
  unfold mVar at e
  split at e
  · rename_i d' hd'
    cases e
    obtain ⟨v, h1, h2⟩ := c.env.at_ i _ hd'
    exact ⟨v, h1, q v H Ext.refl c.sta h2⟩
  · cases e⟩
theorem je_of {X : Cx} {e : Expr} {v : V} {d : D} (h : PE X e (tC v)) (r : ∀ pa H, Rp X.K pa H v d) : JE X e (mC d) := ⟨h.weak fun σ H Q ⟨pa, S, r', p, d', p', c, e, q⟩ => by
  cases e
  exact q v H Ext.refl c.sta (r _ _)⟩
theorem je_int {X : Cx} {i j pos} : JE X (.Constant (.int i) j pos) (mC (.int i)) := je_of pe_int fun _ _ => .int i
theorem je_bl {X : Cx} {b j pos} : JE X (.Constant (.bool b) j pos) (mC (.bl b)) := je_of pe_bl fun _ _ => .bl b
theorem je_non {X : Cx} {j pos} : JE X (.Constant .none j pos) (mC .non) := je_of pe_non fun _ _ => .non
theorem je_str {X : Cx} {x : Str} {j pos} (h : x.length ≤ lim := by decide +kernel) : JE X (.Constant (.str x) j pos) (mC (.str x)) := je_of pe_str fun _ _ => .str x h
theorem je_glob {X : Cx} {x : Str} {v : V} {d : D} {u : Value} {pos : Pos} (hm : X.mg x = some u) (r : RelV v u) (rp : ∀ pa H, Rp X.K pa H v d) (hg : Gl X x := by rfl) (hd : (x == ("__debug__" : Str)) = false := by decide) : JE X (.Name x pos) (mC d) :=
  je_of (pe_glob hg hm r hd) rp
def OpD (K : PySem.W.Frag) (r2 : R2) (f : D → D → Option D) : Prop := ∀ (pa : PAx) (S : Addr → Prop) (H : Hp) (p : List Int) (x y : V) (d e z : D) (Q : VK), Sta pa S H p → Rp K pa (hid S H) x d → Rp K pa (hid S H) y e → f d e = some z →
  (∀ v H', Same H H' → Rp K pa (hid S H') v z → Q v H') → r2 x y H Q
def UnD (K : PySem.W.Frag) (r1 : V → Hp → VK → Prop) (f : D → Option D) : Prop := ∀ (pa : PAx) (S : Addr → Prop) (H : Hp) (p : List Int) (x : V) (d z : D) (Q : VK), Sta pa S H p → Rp K pa (hid S H) x d → f d = some z →
  (∀ v H', Same H H' → Rp K pa (hid S H') v z → Q v H') → r1 x H Q
def CallD (K : PySem.W.Frag) (rc : List V → Hp → VK → Prop) (f : List D → Option D) : Prop := ∀ (pa : PAx) (S : Addr → Prop) (H : Hp) (p : List Int) (xs : List V) (ds : List D) (z : D) (Q : VK), Sta pa S H p → RpL K pa (hid S H) xs ds → f ds = some z →
  (∀ v H', Same H H' → Rp K pa (hid S H') v z → Q v H') → rc xs H Q
def MtD (K : PySem.W.Frag) (T : String) (rm : V → List V → Hp → VK → Prop) (f : D → List D → Option D) : Prop := ∀ (pa : PAx) (S : Addr → Prop) (H : Hp) (p : List Int) (x : V) (xs : List V) (d : D) (ds : List D) (z : D) (Q : VK), Sta pa S H p → Rp K pa (hid S H) x d → RpL K pa (hid S H) xs ds → f d ds = some z →
  (∀ v H', Same H H' → Rp K pa (hid S H') v z → Q v H') → rm x xs H Q
def mOp (f : D → D → Option D) (a b : M) : M := fun r p => bnd (a r p) fun x p => bnd (b r p) fun y p => lft (f x y) p
def mUn (f : D → Option D) (a : M) : M := fun r p => bnd (a r p) fun x p => lft (f x) p
def mNil : ML := fun _ p => some ([], p)
def mCons (a : M) (b : ML) : ML := fun r p => bnd (a r p) fun x p => bnd (b r p) fun xs p => some (x :: xs, p)
def mCB (f : List D → Option D) (a : ML) : M := fun r p => bnd (a r p) fun xs p => lft (f xs) p
def mMt (f : D → List D → Option D) (o : M) (a : ML) : M := fun r p => bnd (o r p) fun x p => bnd (a r p) fun xs p => lft (f x xs) p
section
variable {K : PySem.W.Frag} {pa : PAx} {S : Addr → Prop} {σ : L2.St} {H H' : Hp} {r : Ev} {p p' : List Int} {Q : VK} {d : D}
theorem PostE.after (c : Cn K pa S σ H r p) (q : PostE K pa S H p' d Q) (e : Ext pa H H') : PostE K pa S H' p' d Q := fun v H2 e2 s r => q v H2 (e.trans e2) s r
theorem PostE.val (c : Sta pa S H p) (q : PostE K pa S H p d Q) : ∀ v H', Same H H' → Rp K pa (hid S H') v d → Q v H' := fun v H' e r => q v H' (Ext.of e) (c.same e) r
end
theorem red_op {K : PySem.W.Frag} {r2 : R2} {f : D → D → Option D} (hf : OpD K r2 f) {a b : M} {σ : L2.St} {H : Hp} {Q : VK} (h : tM K (mOp f a b) σ H Q) : tOp r2 (tM K a) (tM K b) σ H Q := by
  obtain ⟨pa, S, r, p, d, p', c, e, q⟩ := h
  obtain ⟨x, p1, e1, e⟩ := bnd_some e
  obtain ⟨y, p2, e2, e⟩ := bnd_some e
  obtain ⟨z, e3, rfl, rfl⟩ := lft_eq e
  refine ⟨pa, S, r, p, x, p1, c, e1, fun v1 H1 x1 s1 r1 => ?_⟩
  have c1 := c.go x1 s1
  refine ⟨pa, S, r, p1, y, p2, c1, e2, fun v2 H2 x2 s2 r2' => ?_⟩
  exact hf pa S H2 p2 v1 v2 x y z Q s2 (Rp.mono (x2.hid s1) _ _ r1) r2' e3 ((q.after c (x1.trans x2)).val s2)
theorem red_un {K : PySem.W.Frag} {r1 : V → Hp → VK → Prop} {f : D → Option D} (hf : UnD K r1 f) {a : M} {σ : L2.St} {H : Hp} {Q : VK} (h : tM K (mUn f a) σ H Q) : tUn r1 (tM K a) σ H Q := by
  obtain ⟨pa, S, r, p, d, p', c, e, q⟩ := h
  obtain ⟨x, p1, e1, e⟩ := bnd_some e
  obtain ⟨z, e3, rfl, rfl⟩ := lft_eq e
  exact ⟨pa, S, r, p, x, p1, c, e1, fun v1 H1 x1 s1 r1' => hf pa S H1 p1 v1 x z Q s1 r1' e3 ((q.after c x1).val s1)⟩
theorem red_cb {K : PySem.W.Frag} {rc : List V → Hp → VK → Prop} {f : List D → Option D} (hf : CallD K rc f) {a : ML} {σ : L2.St} {H : Hp} {Q : VK} (h : tM K (mCB f a) σ H Q) : tCB rc (tML K a) σ H Q := by
  obtain ⟨pa, S, r, p, d, p', c, e, q⟩ := h
  obtain ⟨x, p1, e1, e⟩ := bnd_some e
  obtain ⟨z, e3, rfl, rfl⟩ := lft_eq e
  exact ⟨pa, S, r, p, x, p1, c, e1, fun v1 H1 x1 s1 r1' => hf pa S H1 p1 v1 x z Q s1 r1' e3 ((q.after c x1).val s1)⟩
theorem red_cons {K : PySem.W.Frag} {a : M} {b : ML} {σ : L2.St} {H : Hp} {Q : List V → Hp → Prop} (h : tML K (mCons a b) σ H Q) : tCons (tM K a) (tML K b) σ H Q := by
  obtain ⟨pa, S, r, p, d, p', c, e, q⟩ := h
  obtain ⟨x, p1, e1, e⟩ := bnd_some e
  obtain ⟨y, p2, e2, e⟩ := bnd_some e
  obtain ⟨rfl, rfl⟩ := pr e
  refine ⟨pa, S, r, p, x, p1, c, e1, fun v1 H1 x1 s1 r1 => ?_⟩
  exact ⟨pa, S, r, p1, y, p2, c.go x1 s1, e2, fun v2 H2 x2 s2 r2' => q _ H2 (x1.trans x2) s2 (.cons (Rp.mono (x2.hid s1) _ _ r1) r2')⟩
theorem red_mt1 {K : PySem.W.Frag} {T : String} {rm : V → List V → Hp → VK → Prop} {f : D → List D → Option D} (hf : MtD K T rm f) (ht : ∀ pa S H x d ds z, Rp K pa (hid S H) x d → f d ds = some z → tyV K T x H)
    {o : M} {a : ML} {σ : L2.St} {H : Hp} {Q : VK} (h : tM K (mMt f o a) σ H Q) : tBM K T rm (tM K o) (tML K a) σ H Q := by
  obtain ⟨pa, S, r, p, d, p', c, e, q⟩ := h
  obtain ⟨x, p1, e1, e⟩ := bnd_some e
  obtain ⟨y, p2, e2, e⟩ := bnd_some e
  obtain ⟨z, e3, rfl, rfl⟩ := lft_eq e
  refine ⟨pa, S, r, p, x, p1, c, e1, fun v1 H1 x1 s1 r1 => ⟨ht pa S H1 v1 x y z r1 e3, ?_⟩⟩
  exact ⟨pa, S, r, p1, y, p2, c.go x1 s1, e2, fun v2 H2 x2 s2 r2' => hf pa S H2 p2 v1 v2 x y z Q s2 (Rp.mono (x2.hid s1) _ _ r1) r2' e3 ((q.after c (x1.trans x2)).val s2)⟩
section
variable {X : Cx} {a b : Expr} {ma mb : M} {pos : Pos}
theorem je_op {op : Operator} {r2 : R2} {f : D → D → Option D} (ho : OpR X (binaryOp op) r2) (hf : OpD X.K r2 f) (ha : JE X a ma) (hb : JE X b mb) : JE X (.BinOp a op b pos) (mOp f ma mb) :=
  ⟨(pe_op ho ha.pe hb.pe).weak fun σ H Q => red_op hf⟩
theorem je_un {op : UnaryOp} {r1 : V → Hp → VK → Prop} {f : D → Option D} (ho : UnR X (unaryOp op) r1) (hf : UnD X.K r1 f) (ha : JE X a ma) : JE X (.UnaryOp op a pos) (mUn f ma) :=
  ⟨(pe_un ho ha.pe).weak fun σ H Q => red_un hf⟩
theorem je_cmp {op : CmpOp} {r2 : R2} {f : D → D → Option D} (ho : OpR X (compareOp op) r2) (hf : OpD X.K r2 f) (ha : JE X a ma) (hb : JE X b mb) (hm : behindInMarks op b = false) : JE X (.Compare a [op] [b] pos) (mOp f ma mb) :=
  ⟨(pe_cmpR ho ha.pe hb.pe hm).weak fun σ H Q => red_op hf⟩
/-- a value that is a bool, as a test -/
def mTst (a : M) : MB := fun r p => bnd (a r p) fun x p => match x with | .bl b => some (b, p) | _ => none
theorem red_tst {K : PySem.W.Frag} {t : TE} {m : M} (h : ∀ σ H Q, tM K m σ H Q → t σ H Q) {σ : L2.St} {H : Hp} {Q : Bool → Hp → Prop} (q : tMB K (mTst m) σ H Q) : tTest t σ H Q := by
  obtain ⟨pa, S, r, p, d, p', c, e, q⟩ := q
  obtain ⟨x, p1, e1, e⟩ := bnd_some e
  refine h _ _ _ ⟨pa, S, r, p, x, p1, c, e1, fun v H' x1 s1 r1 => ?_⟩
  cases x with
  | bl b =>
    obtain ⟨rfl, rfl⟩ := pr e
    cases r1
    exact ⟨b, rfl, q H' x1 s1⟩
  | _ => cases e
theorem jt_cmp {op : CmpOp} {r2 : R2} {f : D → D → Option D} (ho : OpR X (compareOp op) r2) (hf : OpD X.K r2 f) (ha : JE X a ma) (hb : JE X b mb) (hm : behindInMarks op b = false) : JT X (.Compare a [op] [b] pos) (mTst (mOp f ma mb)) :=
  ⟨(pt_cmpR ho ha.pe hb.pe hm).weak fun σ H Q => red_tst (fun σ H Q => red_op hf)⟩
/-- two comparisons -/
def mChain (f g : D → D → Option D) (a b c : M) : M := fun r p => bnd (a r p) fun x p => bnd (b r p) fun y p => bnd (lft (f x y) p) fun z p => match z with | .bl true => bnd (c r p) fun w p => lft (g y w) p | .bl false => some (.bl false, p) | _ => none
theorem red_chain {K : PySem.W.Frag} {r2 r2' : R2} {f g : D → D → Option D} (hf : OpD K r2 f) (hg : OpD K r2' g) {a b cc : M} {σ : L2.St} {H : Hp} {Q : VK} (h : tM K (mChain f g a b cc) σ H Q) : tChain r2 r2' (tM K a) (tM K b) (tM K cc) σ H Q := by
  obtain ⟨pa, S, r, p, d, p', c, e, q⟩ := h
  obtain ⟨x, p1, e1, e⟩ := bnd_some e
  obtain ⟨y, p2, e2, e⟩ := bnd_some e
  obtain ⟨zz, p3, e3, e⟩ := bnd_some e
  obtain ⟨z, e4, rfl, rfl⟩ := lft_eq e3
  refine ⟨pa, S, r, p, x, p1, c, e1, fun v1 H1 x1 s1 r1 => ?_⟩
  have c1 := c.go x1 s1
  refine ⟨pa, S, r, p1, y, p2, c1, e2, fun v2 H2 x2 s2 r2' => ?_⟩
  have c2 := c1.go x2 s2
  refine hf pa S H2 p2 v1 v2 x y z _ s2 (Rp.mono (x2.hid s1) _ _ r1) r2' e4 fun v3 H3 x3 r3 => ?_
  have c3 := c2.same x3
  cases z with
  | bl k =>
    cases r3
    refine ⟨k, rfl, ?_⟩
    cases k with
    | true =>
      obtain ⟨w, p4, e6, e⟩ := bnd_some e
      obtain ⟨w', e7, rfl, rfl⟩ := lft_eq e
      show tM K cc σ H3 _
      refine ⟨pa, S, r, p2, w, p4, c3, e6, fun v4 H4 x4 s4 r4 => ?_⟩
      exact hg pa S H4 p4 v2 v4 y w _ Q s4 (Rp.mono (x4.hid c3.sta) _ _ (Rp.mono (Same.hid x3) _ _ r2')) r4 e7 ((q.after c (((x1.trans x2).trans (Ext.of x3)).trans x4)).val s4)
    | false =>
      cases e
      exact q _ H3 ((x1.trans x2).trans (Ext.of x3)) c3.sta (.bl false)
  | _ => cases e
variable {cx : Expr} {mc : M}
theorem je_chain {op op' : CmpOp} {r2 r2' : R2} {f g : D → D → Option D} (ho : OpR X (compareOp op) r2) (hf : OpD X.K r2 f) (ho' : OpR X (compareOp op') r2') (hg : OpD X.K r2' g) (ha : JE X a ma) (hb : JE X b mb) (hc : JE X cx mc)
    (hm : lastMarks [op, op'] [b, cx] = false := by with_unfolding_all rfl) : JE X (.Compare a [op, op'] [b, cx] pos) (mChain f g ma mb mc) := ⟨(pe_chain ho ho' ha.pe hb.pe hc.pe hm).weak fun σ H Q => red_chain hf hg⟩
theorem jt_chain {op op' : CmpOp} {r2 r2' : R2} {f g : D → D → Option D} (ho : OpR X (compareOp op) r2) (hf : OpD X.K r2 f) (ho' : OpR X (compareOp op') r2') (hg : OpD X.K r2' g) (ha : JE X a ma) (hb : JE X b mb) (hc : JE X cx mc)
    (hm : lastMarks [op, op'] [b, cx] = false := by with_unfolding_all rfl) : JT X (.Compare a [op, op'] [b, cx] pos) (mTst (mChain f g ma mb mc)) := ⟨(pt_chain ho ho' ha.pe hb.pe hc.pe hm).weak fun σ H Q => red_tst fun σ H Q => red_chain hf hg⟩
end
def dTru : D → Option Bool
  | .non => some false | .bl b => some b | .int i => some (i != 0) | .str x => some (x.length != 0) | .lst xs => some (!xs.isEmpty) | .tup xs => some (!xs.isEmpty) | _ => none
theorem RpL.empty {K : PySem.W.Frag} {pa : PAx} {H : Hp} {vs : List V} {ds : List D} (h : RpL K pa H vs ds) : ds.isEmpty = vs.isEmpty := by
  cases h <;> rfl
theorem tru_D {K : PySem.W.Frag} {pa : PAx} {S : Addr → Prop} {H : Hp} {v : V} {d : D} {b : Bool} (r : Rp K pa (hid S H) v d) (h : dTru d = some b) : TruV K v H b := by
  cases r with
  | non => cases h; rfl
  | bl b => cases h; rfl
  | int i => cases h; rfl
  | str x z =>
    cases h
    refine ⟨Nat.le_trans z (by have := lim_lt; omega), ?_⟩
    by_cases q : x.length = 0
    · rw [q]; rfl
    · have q2 : (x.length : Int) ≠ 0 := by omega
      have e1 : (x.length != 0) = true := bne_iff_ne.mpr q
      have e2 : ((x.length : Int) != 0) = true := bne_iff_ne.mpr q2
      rw [e1, e2]
  | lst h1 h2 => cases h; exact .inl ⟨_, SqL.of (hid_sub _ _ h1), by rw [h2.empty]⟩
  | tup h1 h2 => cases h; exact .inr (.inl ⟨_, sameT hid_sub h1, by rw [h2.empty]⟩)
  | pool _ => cases h
  | scr _ => cases h
  | dk _ _ _ _ => cases h
  | dt _ _ _ _ => cases h
  | ins _ _ _ _ => cases h
  | slt _ _ _ => cases h
  | fn _ => cases h
  | adr _ => cases h
  | ptp _ _ _ => cases h
  | act _ => cases h
def mTru (a : M) : MB := fun r p => bnd (a r p) fun x p => lft (dTru x) p
section
variable {X : Cx} {a b : Expr} {ma mb : M} {mA mB : MB} {pos : Pos} {rest : List Expr}
theorem jt_tru (ha : JE X a ma) (he : ∀ whole, isTrue a X.env whole = (do let v ← whole; standAt a.pos; holding [v] (truthy v)) := by intro _; rfl) : JT X a (mTru ma) := ⟨(pt_truth ha.pe he).weak fun σ H Q ⟨pa, S, r, p, d, p', c, e, q⟩ => by
  obtain ⟨x, p1, e1, e⟩ := bnd_some e
  obtain ⟨z, e3, rfl, rfl⟩ := lft_eq e
  exact ⟨pa, S, r, p, x, p1, c, e1, fun v1 H1 x1 s1 r1 => ⟨z, tru_D r1 e3, q H1 x1 s1⟩⟩⟩
def mAnd (a b : MB) : MB := fun r p => bnd (a r p) fun x p => if x = true then b r p else some (false, p)
def mOr (a b : MB) : MB := fun r p => bnd (a r p) fun x p => if x = true then some (true, p) else b r p
def mNot (a : MB) : MB := fun r p => bnd (a r p) fun x p => some (!x, p)
def mIf (t : MB) (a b : M) : M := fun r p => bnd (t r p) fun x p => if x = true then a r p else b r p
theorem jw_or1 (h : JT X a mA) : JW X (.BoolOp .Or [a] pos) mA := ⟨pw_or1 h.pt⟩
theorem jw_or (h : JT X a mA) (h' : JW X (.BoolOp .Or (b :: rest) pos) mB) : JW X (.BoolOp .Or (a :: b :: rest) pos) (mOr mA mB) := ⟨(pw_or h.pt h'.pw).weak fun σ H Q ⟨pa, S, r, p, d, p', c, e, q⟩ => by
  obtain ⟨x, p1, e1, e⟩ := bnd_some e
  refine ⟨pa, S, r, p, x, p1, c, e1, fun H1 x1 s1 => ?_⟩
  cases x with
  | false => exact ⟨pa, S, r, p1, d, p', c.go x1 s1, e, fun H2 x2 s2 => q H2 (x1.trans x2) s2⟩
  | true =>
    obtain ⟨rfl, rfl⟩ := pr e
    exact q H1 x1 s1⟩
theorem JW.jt {e : Expr} (h : JW X e mA) : JT X e mA := ⟨h.pw.pt⟩
theorem jt_not (h : JT X a mA) : JT X (.UnaryOp .Not a pos) (mNot mA) := ⟨(pt_not h.pt).weak fun σ H Q ⟨pa, S, r, p, d, p', c, e, q⟩ => by
  obtain ⟨x, p1, e1, e⟩ := bnd_some e
  obtain ⟨rfl, rfl⟩ := pr e
  exact ⟨pa, S, r, p, x, p1, c, e1, q⟩⟩
theorem je_if {t : Expr} {mT : MB} (h : JT X t mT) (ha : JE X a ma) (hb : JE X b mb) : JE X (.IfExp t a b pos) (mIf mT ma mb) := ⟨(pe_ifExp h.pt ha.pe hb.pe).weak fun σ H Q ⟨pa, S, r, p, d, p', c, e, q⟩ => by
  obtain ⟨x, p1, e1, e⟩ := bnd_some e
  refine ⟨pa, S, r, p, x, p1, c, e1, fun H1 x1 s1 => ?_⟩
  cases x with
  | true => exact ⟨pa, S, r, p1, d, p', c.go x1 s1, e, q.after c x1⟩
  | false => exact ⟨pa, S, r, p1, d, p', c.go x1 s1, e, q.after c x1⟩⟩
/-- and, or as values -/
def mAndV (a b : M) : M := fun r p => bnd (a r p) fun x p => bnd (lft (dTru x) p) fun k p => if k = true then b r p else some (x, p)
def mOrV (a b : M) : M := fun r p => bnd (a r p) fun x p => bnd (lft (dTru x) p) fun k p => if k = true then some (x, p) else b r p
def mNotV (a : M) : M := fun r p => bnd (a r p) fun x p => bnd (lft (dTru x) p) fun k p => some (.bl (!k), p)
theorem je_one {op} (h : JE X a ma) : JE X (.BoolOp op [a] pos) ma := ⟨pe_one h.pe⟩
theorem je_and (h : JE X a ma) (h' : JE X (.BoolOp .And (b :: rest) pos) mb) : JE X (.BoolOp .And (a :: b :: rest) pos) (mAndV ma mb) := ⟨(pe_andT h.pe h'.pe).weak fun σ H Q ⟨pa, S, r, p, d, p', c, e, q⟩ => by
  obtain ⟨x, p1, e1, e⟩ := bnd_some e
  obtain ⟨kk, p2, e2, e⟩ := bnd_some e
  obtain ⟨k, e3, rfl, rfl⟩ := lft_eq e2
  refine ⟨pa, S, r, p, x, p1, c, e1, fun v1 H1 x1 s1 r1 => ⟨k, tru_D r1 e3, ?_⟩⟩
  cases k with
  | true => exact ⟨pa, S, r, p1, d, p', c.go x1 s1, e, q.after c x1⟩
  | false =>
    obtain ⟨rfl, rfl⟩ := pr e
    exact q v1 H1 x1 s1 r1⟩
theorem je_or (h : JE X a ma) (h' : JE X (.BoolOp .Or (b :: rest) pos) mb) : JE X (.BoolOp .Or (a :: b :: rest) pos) (mOrV ma mb) := ⟨(pe_orT h.pe h'.pe).weak fun σ H Q ⟨pa, S, r, p, d, p', c, e, q⟩ => by
  obtain ⟨x, p1, e1, e⟩ := bnd_some e
  obtain ⟨kk, p2, e2, e⟩ := bnd_some e
  obtain ⟨k, e3, rfl, rfl⟩ := lft_eq e2
  refine ⟨pa, S, r, p, x, p1, c, e1, fun v1 H1 x1 s1 r1 => ⟨k, tru_D r1 e3, ?_⟩⟩
  cases k with
  | false => exact ⟨pa, S, r, p1, d, p', c.go x1 s1, e, q.after c x1⟩
  | true =>
    obtain ⟨rfl, rfl⟩ := pr e
    exact q v1 H1 x1 s1 r1⟩
end
section
variable {X : Cx} {e : Expr} {es : List Expr} {me : M} {ms : ML} {pos : Pos}
theorem ja_nil : JA X [] mNil := ⟨pa_nil.weak fun σ H Q ⟨pa, S, r, p, d, p', c, e, q⟩ => by
  cases e
  exact q [] H Ext.refl c.sta .nil⟩
theorem ja_cons (h : JE X e me) (h' : JA X es ms) (hs : starEach (e :: es) X.env = (false, eval e X.env) :: starEach es X.env := by rfl) : JA X (e :: es) (mCons me ms) := ⟨(pa_cons h.pe h'.pa hs).weak fun σ H Q => red_cons⟩
def mTup (a : ML) : M := fun r p => bnd (a r p) fun xs p => if xs.length ≤ lim then some (.tup xs, p) else none
def mLst (a : ML) : M := fun r p => bnd (a r p) fun xs p => if xs.length ≤ lim then some (.lst xs, p) else none
theorem Rp.newT {K : PySem.W.Frag} {pa : PAx} {S : Addr → Prop} {H : Hp} {p : List Int} {a : Addr} {vs : List V} {ds : List D} (s : Sta pa S H p) (r : RpL K pa (hid S H) vs ds) (n : H a = none) : Rp K pa (hid S (upd H a (.tup vs))) (.ref a) (.tup ds) :=
  .tup (SqT.of (hid_of (s.new n) upd_same)) (RpL.mono (Same.hid (same_upd n)) _ _ r)
theorem Rp.newL {K : PySem.W.Frag} {pa : PAx} {S : Addr → Prop} {H : Hp} {p : List Int} {a : Addr} {vs : List V} {ds : List D} (s : Sta pa S H p) (r : RpL K pa (hid S H) vs ds) (n : H a = none) : Rp K pa (hid S (upd H a (.lst vs))) (.ref a) (.lst ds) :=
  .lst (hid_of (s.new n) upd_same) (RpL.mono (Same.hid (same_upd n)) _ _ r)
theorem lim_sz {n : Nat} (h : n ≤ lim) : n ≤ sizeLine := by have := lim_lt; omega
theorem je_tup {k} (h : JA X es ms) : JE X (.Tuple es k pos) (mTup ms) := ⟨(pe_tup h.pa).weak fun σ H Q ⟨pa, S, r, p, d, p', c, e, q⟩ => by
  obtain ⟨xs, p1, e1, e⟩ := bnd_some e
  split at e
  · rename_i hl
    obtain ⟨rfl, rfl⟩ := pr e
    refine ⟨pa, S, r, p, xs, p1, c, e1, fun v1 H1 x1 s1 r1 => ⟨by rw [r1.length]; exact lim_sz hl, fun a n => ?_⟩⟩
    exact q _ _ (x1.trans (Ext.of (same_upd n))) (s1.same (same_upd n)) (Rp.newT s1 r1 n)
  · cases e⟩
theorem je_lst (h : JA X es ms) : JE X (.List es pos) (mLst ms) := ⟨(pe_lst h.pa).weak fun σ H Q ⟨pa, S, r, p, d, p', c, e, q⟩ => by
  obtain ⟨xs, p1, e1, e⟩ := bnd_some e
  split at e
  · rename_i hl
    obtain ⟨rfl, rfl⟩ := pr e
    refine ⟨pa, S, r, p, xs, p1, c, e1, fun v1 H1 x1 s1 r1 => ⟨by rw [r1.length]; exact lim_sz hl, fun a n => ?_⟩⟩
    exact q _ _ (x1.trans (Ext.of (same_upd n))) (s1.same (same_upd n)) (Rp.newL s1 r1 n)
  · cases e⟩
end
end Dt
namespace Dt
variable [GTab]
open PySem PySem.Spec PyProof.Rows L2
open PySem.SeqAt (EqAt RcAt RcNeAt)
section
variable {X : Cx} {K : PySem.W.Frag}
def dAdd : D → D → Option D
  | .int i, .int j => some (.int (i + j))
  | .str a, .str b => if a.length + b.length ≤ lim then some (.str (a ++ b)) else none
  | .lst a, .lst b => if a.length + b.length ≤ lim then some (.lst (a ++ b)) else none
  | .tup a, .tup b => if a.length + b.length ≤ lim then some (.tup (a ++ b)) else none
  | _, _ => none
def rAddD (K : PySem.W.Frag) : R2 := fun x y H Q => rI0 (fun i j => .int (i + j)) x y H Q ∨ (∃ i j, x = .str i ∧ y = .str j ∧ i.length + j.length ≤ sizeLine ∧ Q (.str (i ++ j)) H) ∨ rCat x y H Q ∨ rCatA K x y H Q
theorem op_addD : OpR X (binaryOp .Add) (rAddD X.K) := op_add.or (op_add_str.or (op_cat.or op_catA))
theorem str_app_len (a b : Str) : (a ++ b).length = a.length + b.length := by
  show (a.cps ++ b.cps).size = _
  rw [Array.size_append]; rfl
theorem od_add : OpD K (rAddD K) dAdd := by
  intro pa S H p x y d e z Q s rx ry h q
  cases rx with
  | int i =>
    cases ry with
    | int j => cases h; exact .inl ⟨i, j, rfl, rfl, q _ H (fun _ _ h => h) (.int _)⟩
    | _ => cases h
  | str a ha =>
    cases ry with
    | str b hb =>
      simp only [dAdd] at h
      split at h
      · rename_i hl
        cases h
        exact .inr (.inl ⟨a, b, rfl, rfl, lim_sz hl, q _ H (fun _ _ h => h) (.str _ (by rw [str_app_len]; exact hl))⟩)
      · cases h
    | _ => cases h
  | lst h1 h2 =>
    cases ry with
    | lst k1 k2 =>
      simp only [dAdd] at h
      split at h
      · rename_i hl
        cases h
        exact .inr (.inr (.inl ⟨_, _, _, _, rfl, rfl, hid_sub _ _ h1, hid_sub _ _ k1, by rw [h2.length, k2.length]; exact lim_sz hl, fun a n => q _ _ (same_upd n) (Rp.newL s (h2.append k2) n)⟩))
      · cases h
    | _ => cases h
  | tup h1 h2 =>
    cases ry with
    | tup k1 k2 =>
      simp only [dAdd] at h
      split at h
      · rename_i hl
        cases h
        refine .inr (.inr (.inr ⟨_, _, _, _, rfl, rfl, sameT hid_sub h1, sameT hid_sub k1, by rw [h2.length, k2.length]; exact lim_sz hl, fun e => ?_, fun e e2 => ?_, fun _ _ a n => q _ _ (same_upd n) (Rp.newT s (h2.append k2) n)⟩))
        · subst e
          cases h2
          exact q _ H (fun _ _ h => h) (.tup k1 k2)
        · subst e2
          cases k2
          rw [List.append_nil] at q
          exact q _ H (fun _ _ h => h) (.tup h1 h2)
      · cases h
    | _ => cases h
  | _ => cases h
/-- two ints, a condition that is decided -/
def dII (c : Int → Int → Bool) (g : Int → Int → D) : D → D → Option D
  | .int i, .int j => if c i j = true then some (g i j) else none
  | _, _ => none
theorem od_ii {C : Int → Int → Prop} {c : Int → Int → Bool} {g : Int → Int → V} {g' : Int → Int → D} (hc : ∀ i j, c i j = true → C i j) (hg : ∀ i j pa H, Rp K pa H (g i j) (g' i j)) : OpD K (rI C g) (dII c g') := by
  intro pa S H p x y d e z Q s rx ry h q
  cases rx with
  | int i =>
    cases ry with
    | int j =>
      simp only [dII] at h
      split at h
      · rename_i hl
        cases h
        exact ⟨i, j, rfl, rfl, hc i j hl, q _ H (fun _ _ h => h) (hg i j _ _)⟩
      · cases h
    | _ => cases h
  | _ => cases h
def dMul : D → D → Option D := dII (fun i j => (decide (-(2 ^ 64) < i) && decide (i < 2 ^ 64)) || (decide (-(2 ^ 64) < j) && decide (j < 2 ^ 64))) fun i j => .int (i * j)
def dMod : D → D → Option D := dII (fun _ j => decide (0 < j)) fun i j => .int (i % j)
def dDiv : D → D → Option D := dII (fun _ j => decide (0 < j) && decide (j < 1073741824)) fun i j => .int (i / j)
def dPow : D → D → Option D := dII (fun i j => decide (0 ≤ j) && decide (j ≤ 1000000) && decide (i.natAbs < 2 ^ 64)) fun i j => .int (i ^ j.toNat)
theorem od_mul : OpD K (rI CMul fun i j => .int (i * j)) dMul := od_ii (fun i j h => by
  rw [Bool.or_eq_true, Bool.and_eq_true, Bool.and_eq_true] at h
  rcases h with ⟨a, b⟩ | ⟨a, b⟩
  · exact .inl ⟨of_decide_eq_true a, of_decide_eq_true b⟩
  · exact .inr ⟨of_decide_eq_true a, of_decide_eq_true b⟩) fun _ _ _ _ => .int _
theorem od_mod : OpD K (rI (fun _ j => 0 < j) fun i j => .int (i % j)) dMod := od_ii (fun i j h => of_decide_eq_true h) fun _ _ _ _ => .int _
theorem od_div : OpD K (rI CDiv fun i j => .int (i / j)) dDiv := od_ii (fun i j h => by
  rw [Bool.and_eq_true] at h
  exact ⟨of_decide_eq_true h.1, of_decide_eq_true h.2⟩) fun _ _ _ _ => .int _
theorem od_pow : OpD K (rI CPow fun i j => .int (i ^ j.toNat)) dPow := od_ii (fun i j h => by
  rw [Bool.and_eq_true, Bool.and_eq_true] at h
  exact ⟨of_decide_eq_true h.1.1, of_decide_eq_true h.1.2, of_decide_eq_true h.2⟩) fun _ _ _ _ => .int _
/-- <, <=, >, >= of ints and of texts -/
def sLt (a b : Str) : Bool := decide (a.cps.toList < b.cps.toList)
def dCmp (f : Int → Int → Bool) (g : Str → Str → Bool) : D → D → Option D
  | .int i, .int j => some (.bl (f i j))
  | .str a, .str b => some (.bl (g a b))
  | _, _ => none
theorem od_cmp {f : Int → Int → Bool} {g : Str → Str → Bool} : OpD K (fun x y H Q => rI0 (fun i j => .bl (f i j)) x y H Q ∨ (∃ i j, x = .str i ∧ y = .str j ∧ Q (.bl (g i j)) H)) (dCmp f g) := by
  intro pa S H p x y d e z Q s rx ry h q
  cases rx with
  | int i =>
    cases ry with
    | int j => cases h; exact .inl ⟨i, j, rfl, rfl, q _ H (fun _ _ h => h) (.bl _)⟩
    | _ => cases h
  | str i hi =>
    cases ry with
    | str j hj => cases h; exact .inr ⟨i, j, rfl, rfl, q _ H (fun _ _ h => h) (.bl _)⟩
    | _ => cases h
  | _ => cases h
def dLt : D → D → Option D := dCmp (fun i j => decide (i < j)) sLt
def dLe : D → D → Option D := dCmp (fun i j => decide (i ≤ j)) fun a b => !sLt b a
def dGt : D → D → Option D := dCmp (fun i j => decide (j < i)) fun a b => sLt b a
def dGe : D → D → Option D := dCmp (fun i j => decide (j ≤ i)) fun a b => !sLt a b
def rCmpD (f : Int → Int → Bool) (g : Str → Str → Bool) : R2 := fun x y H Q => rI0 (fun i j => .bl (f i j)) x y H Q ∨ (∃ i j, x = .str i ∧ y = .str j ∧ Q (.bl (g i j)) H)
theorem op_ltD : OpR X (compareOp .Lt) (rCmpD (fun i j => decide (i < j)) sLt) := op_lt.or op_lt_str
theorem op_leD : OpR X (compareOp .LtE) (rCmpD (fun i j => decide (i ≤ j)) fun a b => !sLt b a) := op_le.or op_le_str
theorem op_gtD : OpR X (compareOp .Gt) (rCmpD (fun i j => decide (j < i)) fun a b => sLt b a) := op_gt.or op_gt_str
theorem op_geD : OpR X (compareOp .GtE) (rCmpD (fun i j => decide (j ≤ i)) fun a b => !sLt a b) := op_ge.or op_ge_str
theorem od_lt : OpD K (rCmpD (fun i j => decide (i < j)) sLt) dLt := od_cmp
theorem od_le : OpD K (rCmpD (fun i j => decide (i ≤ j)) fun a b => !sLt b a) dLe := od_cmp
theorem od_gt : OpD K (rCmpD (fun i j => decide (j < i)) fun a b => sLt b a) dGt := od_cmp
theorem od_ge : OpD K (rCmpD (fun i j => decide (j ≤ i)) fun a b => !sLt a b) dGe := od_cmp
def deep : Nat := 60
/-- dicts with flat values -/
def deqK (m1 m2 : List (Key × D)) : Bool := m1.length == m2.length && m1.all fun q => match getG m2 q.1 with | some d => deqv q.2 d | none => false
def dEqK : D → D → Option Bool
  | .dk ks ds, .dk ls es => if (flats 59 ds && flats 59 es) = true then some (deqK (ks.zip ds) (ls.zip es)) else none
  | _, _ => none
def dEq (d e : D) : Option D := if (flat deep d && flat deep e) = true then some (.bl (deqv d e)) else (dEqK d e).map .bl
def dNe (d e : D) : Option D := if (flat deep d && flat deep e) = true then some (.bl (!deqv d e)) else (dEqK d e).map fun b => .bl (!b)
end
theorem rcAt_D {X : Cx} {pins : List (Addr × Obj)} {σ : L2.St} {H : Hp} {s : Shared} {pa : PAx} (I : Inv X pins σ H s) {d e : D} {x y : V} {u v : Value} (fd : flat deep d = true) (fe : flat deep e = true) (rd : Rp X.K pa H x d) (re : Rp X.K pa H y e) (rx : RelV x u) (ry : RelV y v)
    (hu : X.A.units + (59 + 1) < cLine) : RcAt X.A s u v (deqv d e) := by
  cases rd with
  | non =>
    cases rx
    cases re with
    | non => cases ry; exact RcAt.none_none
    | bl y => cases ry; exact RcAt.none_bool _
    | int y => obtain ⟨t2, rfl⟩ := ry; exact RcAt.none_int _ _
    | str y _ => obtain ⟨t2, rfl⟩ := ry; exact RcAt.none_str _ _
    | lst k1 k2 => cases ry; obtain ⟨_, _, l, _⟩ := Rp.isList I (SqL.of k1); exact RcAt.none_list l (room_lo hu)
    | tup k1 k2 => cases ry; obtain ⟨_, _, l, _⟩ := Rp.isTup I k1; exact RcAt.none_tuple l (room_lo hu)
    | pool _ => simp [flat, deep] at fe
    | scr _ => simp [flat, deep] at fe
    | dk _ _ _ _ => simp [flat, deep] at fe
    | dt _ _ _ _ => simp [flat, deep] at fe
    | ins _ _ _ _ => simp [flat, deep] at fe
    | slt _ _ _ => simp [flat, deep] at fe
    | fn _ => simp [flat, deep] at fe
    | adr _ => simp [flat, deep] at fe
    | ptp _ _ _ => simp [flat, deep] at fe
    | act _ => simp [flat, deep] at fe
  | bl x =>
    cases rx
    cases re with
    | non => cases ry; exact RcAt.bool_none _
    | bl y => cases ry; exact RcAt.bool_bool _ _
    | int y => obtain ⟨t2, rfl⟩ := ry; exact RcAt.bool_int _ _ _
    | str y _ => obtain ⟨t2, rfl⟩ := ry; exact RcAt.bool_str _ _ _
    | lst k1 k2 => cases ry; obtain ⟨_, _, l, _⟩ := Rp.isList I (SqL.of k1); exact RcAt.bool_list _ l (room_lo hu)
    | tup k1 k2 => cases ry; obtain ⟨_, _, l, _⟩ := Rp.isTup I k1; exact RcAt.bool_tuple _ l (room_lo hu)
    | pool _ => simp [flat, deep] at fe
    | scr _ => simp [flat, deep] at fe
    | dk _ _ _ _ => simp [flat, deep] at fe
    | dt _ _ _ _ => simp [flat, deep] at fe
    | ins _ _ _ _ => simp [flat, deep] at fe
    | slt _ _ _ => simp [flat, deep] at fe
    | fn _ => simp [flat, deep] at fe
    | adr _ => simp [flat, deep] at fe
    | ptp _ _ _ => simp [flat, deep] at fe
    | act _ => simp [flat, deep] at fe
  | int x =>
    obtain ⟨t, rfl⟩ := rx
    cases re with
    | non => cases ry; exact RcAt.int_none _ _
    | bl y => cases ry; exact RcAt.int_bool _ _ _
    | int y => obtain ⟨t2, rfl⟩ := ry; exact RcAt.int_int _ _ _ _
    | str y _ => obtain ⟨t2, rfl⟩ := ry; exact RcAt.int_str _ _ _ _
    | lst k1 k2 => cases ry; obtain ⟨_, _, l, _⟩ := Rp.isList I (SqL.of k1); exact RcAt.int_list _ _ l (room_lo hu)
    | tup k1 k2 => cases ry; obtain ⟨_, _, l, _⟩ := Rp.isTup I k1; exact RcAt.int_tuple _ _ l (room_lo hu)
    | pool _ => simp [flat, deep] at fe
    | scr _ => simp [flat, deep] at fe
    | dk _ _ _ _ => simp [flat, deep] at fe
    | dt _ _ _ _ => simp [flat, deep] at fe
    | ins _ _ _ _ => simp [flat, deep] at fe
    | slt _ _ _ => simp [flat, deep] at fe
    | fn _ => simp [flat, deep] at fe
    | adr _ => simp [flat, deep] at fe
    | ptp _ _ _ => simp [flat, deep] at fe
    | act _ => simp [flat, deep] at fe
  | str x _ =>
    obtain ⟨t, rfl⟩ := rx
    cases re with
    | non => cases ry; exact RcAt.str_none _ _
    | bl y => cases ry; exact RcAt.str_bool _ _ _
    | int y => obtain ⟨t2, rfl⟩ := ry; exact RcAt.str_int _ _ _ _
    | str y _ => obtain ⟨t2, rfl⟩ := ry; exact RcAt.str_str _ _ _ _
    | lst k1 k2 => cases ry; obtain ⟨_, _, l, _⟩ := Rp.isList I (SqL.of k1); exact RcAt.str_list _ _ l (room_lo hu)
    | tup k1 k2 => cases ry; obtain ⟨_, _, l, _⟩ := Rp.isTup I k1; exact RcAt.str_tuple _ _ l (room_lo hu)
    | pool _ => simp [flat, deep] at fe
    | scr _ => simp [flat, deep] at fe
    | dk _ _ _ _ => simp [flat, deep] at fe
    | dt _ _ _ _ => simp [flat, deep] at fe
    | ins _ _ _ _ => simp [flat, deep] at fe
    | slt _ _ _ => simp [flat, deep] at fe
    | fn _ => simp [flat, deep] at fe
    | adr _ => simp [flat, deep] at fe
    | ptp _ _ _ => simp [flat, deep] at fe
    | act _ => simp [flat, deep] at fe
  | @lst a xs ds h1 h2 =>
    cases rx
    obtain ⟨its, rv, hl, len1, _⟩ := Rp.isList I (SqL.of h1)
    cases re with
    | non => cases ry; exact RcAt.list_none hl (room_lo hu)
    | bl y => cases ry; exact RcAt.list_bool _ hl (room_lo hu)
    | int y => obtain ⟨t2, rfl⟩ := ry; exact RcAt.list_int _ _ hl (room_lo hu)
    | str y _ => obtain ⟨t2, rfl⟩ := ry; exact RcAt.list_str _ _ hl (room_lo hu)
    | @lst b ys es k1 k2 =>
      cases ry
      obtain ⟨its2, rv2, hl2, len2, _⟩ := Rp.isList I (SqL.of k1)
      have e1 : its.length = ds.length := len1.trans h2.length
      have e2 : its2.length = es.length := len2.trans k2.length
      have key := eqAt_Ds I 59 ds es X.A.in1 xs ys its its2 (by simpa [flat, deep] using fd) (by simpa [flat, deep] using fe) h2 k2 rv rv2 (room_in hu)
      rw [deqv, deqvs_iff]
      by_cases hsz : its.length = its2.length
      · have hz : ds.length = es.length := by omega
        have hm : min ds.length es.length = its.toArray.size := by rw [← hz, Nat.min_self, ← e1, List.size_toArray]
        have hz' : (ds.length == es.length) = true := by rw [hz]; simp
        rw [hz', Bool.and_true, hm]
        exact RcAt.lists hl hl2 (by simpa using hsz) (room_lo hu) fun j j1 j2 => key j (by simpa using j1) (by simpa using j2)
      · have hz' : (ds.length == es.length) = false := by
          rw [beq_eq_false_iff_ne]; omega
        rw [hz', Bool.and_false]
        exact RcAt.lists_lengths hl hl2 (by simpa using hsz) (room_lo hu)
    | tup k1 k2 => cases ry; obtain ⟨_, _, l, _⟩ := Rp.isTup I k1; exact RcAt.list_tuple hl l (room_lo hu)
    | pool _ => simp [flat, deep] at fe
    | scr _ => simp [flat, deep] at fe
    | dk _ _ _ _ => simp [flat, deep] at fe
    | dt _ _ _ _ => simp [flat, deep] at fe
    | ins _ _ _ _ => simp [flat, deep] at fe
    | slt _ _ _ => simp [flat, deep] at fe
    | fn _ => simp [flat, deep] at fe
    | adr _ => simp [flat, deep] at fe
    | ptp _ _ _ => simp [flat, deep] at fe
    | act _ => simp [flat, deep] at fe
  | @tup a xs ds h1 h2 =>
    cases rx
    obtain ⟨its, rv, hl, len1, _⟩ := Rp.isTup I h1
    cases re with
    | non => cases ry; exact RcAt.tuple_none hl (room_lo hu)
    | bl y => cases ry; exact RcAt.tuple_bool _ hl (room_lo hu)
    | int y => obtain ⟨t2, rfl⟩ := ry; exact RcAt.tuple_int _ _ hl (room_lo hu)
    | str y _ => obtain ⟨t2, rfl⟩ := ry; exact RcAt.tuple_str _ _ hl (room_lo hu)
    | lst k1 k2 => cases ry; obtain ⟨_, _, l, _⟩ := Rp.isList I (SqL.of k1); exact RcAt.tuple_list hl l (room_lo hu)
    | @tup b ys es k1 k2 =>
      cases ry
      obtain ⟨its2, rv2, hl2, len2, _⟩ := Rp.isTup I k1
      have e1 : its.length = ds.length := len1.trans h2.length
      have e2 : its2.length = es.length := len2.trans k2.length
      have key := eqAt_Ds I 59 ds es X.A.in1 xs ys its its2 (by simpa [flat, deep] using fd) (by simpa [flat, deep] using fe) h2 k2 rv rv2 (room_in hu)
      rw [deqv, deqvs_iff]
      have hm : min ds.length es.length = min its.toArray.size its2.toArray.size := by rw [List.size_toArray, List.size_toArray, e1, e2]
      have hq : (ds.length == es.length) = (its.toArray.size == its2.toArray.size) := by rw [List.size_toArray, List.size_toArray, e1, e2]
      rw [hm, hq]
      exact RcAt.tuples hl hl2 (room_lo hu) fun j j1 j2 => key j (by simpa using j1) (by simpa using j2)
    | pool _ => simp [flat, deep] at fe
    | scr _ => simp [flat, deep] at fe
    | dk _ _ _ _ => simp [flat, deep] at fe
    | dt _ _ _ _ => simp [flat, deep] at fe
    | ins _ _ _ _ => simp [flat, deep] at fe
    | slt _ _ _ => simp [flat, deep] at fe
    | fn _ => simp [flat, deep] at fe
    | adr _ => simp [flat, deep] at fe
    | ptp _ _ _ => simp [flat, deep] at fe
    | act _ => simp [flat, deep] at fe
  | pool _ => simp [flat, deep] at fd
  | scr _ => simp [flat, deep] at fd
  | dk _ _ _ _ => simp [flat, deep] at fd
  | dt _ _ _ _ => simp [flat, deep] at fd
  | ins _ _ _ _ => simp [flat, deep] at fd
  | slt _ _ _ => simp [flat, deep] at fd
  | fn _ => simp [flat, deep] at fd
  | adr _ => simp [flat, deep] at fd
  | ptp _ _ _ => simp [flat, deep] at fd
  | act _ => simp [flat, deep] at fd
theorem rcNeAt_D {X : Cx} {pins : List (Addr × Obj)} {σ : L2.St} {H : Hp} {s : Shared} {pa : PAx} (I : Inv X pins σ H s) {d e : D} {x y : V} {u v : Value} (fd : flat deep d = true) (fe : flat deep e = true) (rd : Rp X.K pa H x d) (re : Rp X.K pa H y e) (rx : RelV x u) (ry : RelV y v)
    (hu : X.A.units + (59 + 1) < cLine) : RcNeAt X.A s u v (!deqv d e) := by
  cases rd with
  | non =>
    cases rx
    cases re with
    | non => cases ry; exact RcNeAt.none_none
    | bl y => cases ry; exact RcNeAt.none_bool _
    | int y => obtain ⟨t2, rfl⟩ := ry; exact RcNeAt.none_int _ _
    | str y _ => obtain ⟨t2, rfl⟩ := ry; exact RcNeAt.none_str _ _
    | lst k1 k2 => cases ry; obtain ⟨_, _, l, _⟩ := Rp.isList I (SqL.of k1); exact RcNeAt.none_list l (room_lo hu)
    | tup k1 k2 => cases ry; obtain ⟨_, _, l, _⟩ := Rp.isTup I k1; exact RcNeAt.none_tuple l (room_lo hu)
    | pool _ => simp [flat, deep] at fe
    | scr _ => simp [flat, deep] at fe
    | dk _ _ _ _ => simp [flat, deep] at fe
    | dt _ _ _ _ => simp [flat, deep] at fe
    | ins _ _ _ _ => simp [flat, deep] at fe
    | slt _ _ _ => simp [flat, deep] at fe
    | fn _ => simp [flat, deep] at fe
    | adr _ => simp [flat, deep] at fe
    | ptp _ _ _ => simp [flat, deep] at fe
    | act _ => simp [flat, deep] at fe
  | bl x =>
    cases rx
    cases re with
    | non => cases ry; exact RcNeAt.bool_none _
    | bl y => cases ry; exact RcNeAt.bool_bool _ _
    | int y => obtain ⟨t2, rfl⟩ := ry; exact RcNeAt.bool_int _ _ _
    | str y _ => obtain ⟨t2, rfl⟩ := ry; exact RcNeAt.bool_str _ _ _
    | lst k1 k2 => cases ry; obtain ⟨_, _, l, _⟩ := Rp.isList I (SqL.of k1); exact RcNeAt.bool_list _ l (room_lo hu)
    | tup k1 k2 => cases ry; obtain ⟨_, _, l, _⟩ := Rp.isTup I k1; exact RcNeAt.bool_tuple _ l (room_lo hu)
    | pool _ => simp [flat, deep] at fe
    | scr _ => simp [flat, deep] at fe
    | dk _ _ _ _ => simp [flat, deep] at fe
    | dt _ _ _ _ => simp [flat, deep] at fe
    | ins _ _ _ _ => simp [flat, deep] at fe
    | slt _ _ _ => simp [flat, deep] at fe
    | fn _ => simp [flat, deep] at fe
    | adr _ => simp [flat, deep] at fe
    | ptp _ _ _ => simp [flat, deep] at fe
    | act _ => simp [flat, deep] at fe
  | int x =>
    obtain ⟨t, rfl⟩ := rx
    cases re with
    | non => cases ry; exact RcNeAt.int_none _ _
    | bl y => cases ry; exact RcNeAt.int_bool _ _ _
    | int y => obtain ⟨t2, rfl⟩ := ry; exact RcNeAt.int_int _ _ _ _
    | str y _ => obtain ⟨t2, rfl⟩ := ry; exact RcNeAt.int_str _ _ _ _
    | lst k1 k2 => cases ry; obtain ⟨_, _, l, _⟩ := Rp.isList I (SqL.of k1); exact RcNeAt.int_list _ _ l (room_lo hu)
    | tup k1 k2 => cases ry; obtain ⟨_, _, l, _⟩ := Rp.isTup I k1; exact RcNeAt.int_tuple _ _ l (room_lo hu)
    | pool _ => simp [flat, deep] at fe
    | scr _ => simp [flat, deep] at fe
    | dk _ _ _ _ => simp [flat, deep] at fe
    | dt _ _ _ _ => simp [flat, deep] at fe
    | ins _ _ _ _ => simp [flat, deep] at fe
    | slt _ _ _ => simp [flat, deep] at fe
    | fn _ => simp [flat, deep] at fe
    | adr _ => simp [flat, deep] at fe
    | ptp _ _ _ => simp [flat, deep] at fe
    | act _ => simp [flat, deep] at fe
  | str x _ =>
    obtain ⟨t, rfl⟩ := rx
    cases re with
    | non => cases ry; exact RcNeAt.str_none _ _
    | bl y => cases ry; exact RcNeAt.str_bool _ _ _
    | int y => obtain ⟨t2, rfl⟩ := ry; exact RcNeAt.str_int _ _ _ _
    | str y _ => obtain ⟨t2, rfl⟩ := ry; exact RcNeAt.str_str _ _ _ _
    | lst k1 k2 => cases ry; obtain ⟨_, _, l, _⟩ := Rp.isList I (SqL.of k1); exact RcNeAt.str_list _ _ l (room_lo hu)
    | tup k1 k2 => cases ry; obtain ⟨_, _, l, _⟩ := Rp.isTup I k1; exact RcNeAt.str_tuple _ _ l (room_lo hu)
    | pool _ => simp [flat, deep] at fe
    | scr _ => simp [flat, deep] at fe
    | dk _ _ _ _ => simp [flat, deep] at fe
    | dt _ _ _ _ => simp [flat, deep] at fe
    | ins _ _ _ _ => simp [flat, deep] at fe
    | slt _ _ _ => simp [flat, deep] at fe
    | fn _ => simp [flat, deep] at fe
    | adr _ => simp [flat, deep] at fe
    | ptp _ _ _ => simp [flat, deep] at fe
    | act _ => simp [flat, deep] at fe
  | @lst a xs ds h1 h2 =>
    cases rx
    obtain ⟨its, rv, hl, len1, _⟩ := Rp.isList I (SqL.of h1)
    cases re with
    | non => cases ry; exact RcNeAt.list_none hl (room_lo hu)
    | bl y => cases ry; exact RcNeAt.list_bool _ hl (room_lo hu)
    | int y => obtain ⟨t2, rfl⟩ := ry; exact RcNeAt.list_int _ _ hl (room_lo hu)
    | str y _ => obtain ⟨t2, rfl⟩ := ry; exact RcNeAt.list_str _ _ hl (room_lo hu)
    | @lst b ys es k1 k2 =>
      cases ry
      obtain ⟨its2, rv2, hl2, len2, _⟩ := Rp.isList I (SqL.of k1)
      have e1 : its.length = ds.length := len1.trans h2.length
      have e2 : its2.length = es.length := len2.trans k2.length
      have key := eqAt_Ds I 59 ds es X.A.in1 xs ys its its2 (by simpa [flat, deep] using fd) (by simpa [flat, deep] using fe) h2 k2 rv rv2 (room_in hu)
      rw [deqv, deqvs_iff]
      by_cases hsz : its.length = its2.length
      · have hz : ds.length = es.length := by omega
        have hm : min ds.length es.length = its.toArray.size := by rw [← hz, Nat.min_self, ← e1, List.size_toArray]
        have hz' : (ds.length == es.length) = true := by rw [hz]; simp
        rw [hz', Bool.and_true, hm]
        exact RcNeAt.lists hl hl2 (by simpa using hsz) (room_lo hu) fun j j1 j2 => key j (by simpa using j1) (by simpa using j2)
      · have hz' : (ds.length == es.length) = false := by
          rw [beq_eq_false_iff_ne]; omega
        rw [hz', Bool.and_false]
        exact RcNeAt.lists_lengths hl hl2 (by simpa using hsz) (room_lo hu)
    | tup k1 k2 => cases ry; obtain ⟨_, _, l, _⟩ := Rp.isTup I k1; exact RcNeAt.list_tuple hl l (room_lo hu)
    | pool _ => simp [flat, deep] at fe
    | scr _ => simp [flat, deep] at fe
    | dk _ _ _ _ => simp [flat, deep] at fe
    | dt _ _ _ _ => simp [flat, deep] at fe
    | ins _ _ _ _ => simp [flat, deep] at fe
    | slt _ _ _ => simp [flat, deep] at fe
    | fn _ => simp [flat, deep] at fe
    | adr _ => simp [flat, deep] at fe
    | ptp _ _ _ => simp [flat, deep] at fe
    | act _ => simp [flat, deep] at fe
  | @tup a xs ds h1 h2 =>
    cases rx
    obtain ⟨its, rv, hl, len1, _⟩ := Rp.isTup I h1
    cases re with
    | non => cases ry; exact RcNeAt.tuple_none hl (room_lo hu)
    | bl y => cases ry; exact RcNeAt.tuple_bool _ hl (room_lo hu)
    | int y => obtain ⟨t2, rfl⟩ := ry; exact RcNeAt.tuple_int _ _ hl (room_lo hu)
    | str y _ => obtain ⟨t2, rfl⟩ := ry; exact RcNeAt.tuple_str _ _ hl (room_lo hu)
    | lst k1 k2 => cases ry; obtain ⟨_, _, l, _⟩ := Rp.isList I (SqL.of k1); exact RcNeAt.tuple_list hl l (room_lo hu)
    | @tup b ys es k1 k2 =>
      cases ry
      obtain ⟨its2, rv2, hl2, len2, _⟩ := Rp.isTup I k1
      have e1 : its.length = ds.length := len1.trans h2.length
      have e2 : its2.length = es.length := len2.trans k2.length
      have key := eqAt_Ds I 59 ds es X.A.in1 xs ys its its2 (by simpa [flat, deep] using fd) (by simpa [flat, deep] using fe) h2 k2 rv rv2 (room_in hu)
      rw [deqv, deqvs_iff]
      have hm : min ds.length es.length = min its.toArray.size its2.toArray.size := by rw [List.size_toArray, List.size_toArray, e1, e2]
      have hq : (ds.length == es.length) = (its.toArray.size == its2.toArray.size) := by rw [List.size_toArray, List.size_toArray, e1, e2]
      rw [hm, hq]
      exact RcNeAt.tuples hl hl2 (room_lo hu) fun j j1 j2 => key j (by simpa using j1) (by simpa using j2)
    | pool _ => simp [flat, deep] at fe
    | scr _ => simp [flat, deep] at fe
    | dk _ _ _ _ => simp [flat, deep] at fe
    | dt _ _ _ _ => simp [flat, deep] at fe
    | ins _ _ _ _ => simp [flat, deep] at fe
    | slt _ _ _ => simp [flat, deep] at fe
    | fn _ => simp [flat, deep] at fe
    | adr _ => simp [flat, deep] at fe
    | ptp _ _ _ => simp [flat, deep] at fe
    | act _ => simp [flat, deep] at fe
  | pool _ => simp [flat, deep] at fd
  | scr _ => simp [flat, deep] at fd
  | dk _ _ _ _ => simp [flat, deep] at fd
  | dt _ _ _ _ => simp [flat, deep] at fd
  | ins _ _ _ _ => simp [flat, deep] at fd
  | slt _ _ _ => simp [flat, deep] at fd
  | fn _ => simp [flat, deep] at fd
  | adr _ => simp [flat, deep] at fd
  | ptp _ _ _ => simp [flat, deep] at fd
  | act _ => simp [flat, deep] at fd
theorem hits_D {X : Cx} {pins : List (Addr × Obj)} {σ : L2.St} {H : Hp} {s : Shared} {pa : PAx} (I : Inv X pins σ H s) (hu : X.A.units + 64 < cLine) {lv : List (Key × V)} {vb : List (Key × Value)} {m2 : List (Key × D)} (kb : KV lv vb) (rb : KRp X.K pa H lv m2) (f2 : ∀ k d, getG m2 k = some d → flat 59 d = true) :
    ∀ {kv : List (Key × V)} {va : List (Key × Value)} {m1 : List (Key × D)}, KV kv va → KRp X.K pa H kv m1 → (∀ q ∈ m1, flat 59 q.2 = true) → PySem.W.KeqHits X.A.in1 s vb va (m1.all fun q => match getG m2 q.1 with | some d => deqv q.2 d | none => false)
  | _, _, _, .nil, .nil, _ => .nil
  | _, _, _, .cons (a := (k0, v0)) (b := (k1, u1)) ⟨h1, h2⟩ t, .cons (b := (k2, d2)) ⟨h3, h4⟩ t', f => by
    have h1 : k0 = k1 := h1
    have h3 : k0 = k2 := h3
    subst h1
    subst h3
    rw [List.all_cons]
    have kv := kb.val k0
    rcases rb.get k0 with ⟨g1, g2⟩ | ⟨v, d, g1, g2, g3⟩
    · rw [g1]
      rw [g2] at kv
      simp only [Bool.false_and]
      refine .miss ?_
      cases e : valueAt vb k0 with
      | none => rfl
      | some y => rw [e] at kv; exact absurd kv id
    · rw [g1]
      rw [g2] at kv
      cases e : valueAt vb k0 with
      | none => rw [e] at kv; exact absurd kv id
      | some y =>
        rw [e] at kv
        refine .hit e (eqAt_D I 59 d2 d X.A.in1 v0 v u1 y (f _ List.mem_cons_self) (f2 _ _ g1) h4 g3 h2 kv ?_) (hits_D I hu kb rb f2 t t' fun q hq => f q (List.mem_cons_of_mem _ hq))
        show X.A.units + 1 + 59 < cLine
        omega
def rEqK (K : PySem.W.Frag) (neg : Bool) : R2 := fun x y H Q => ∃ pa a b kv lv m1 m2, x = .ref a ∧ y = .ref b ∧ Rd H a (.dK kv) ∧ Rd H b (.dK lv) ∧ KRp K pa H kv m1 ∧ KRp K pa H lv m2 ∧ (∀ q ∈ m1, flat 59 q.2 = true) ∧ (∀ k d, getG m2 k = some d → flat 59 d = true) ∧ Q (.bl (if neg = true then !deqK m1 m2 else deqK m1 m2)) H
theorem op_eqK {X : Cx} (hu : X.A.units + 64 < cLine) : OpR X (compareOp .Eq) (rEqK X.K false) := by
  intro pins s σ H x y v u Q I rx ry h
  obtain ⟨pa, a, b, kv, lv, m1, m2, rfl, rfl, h1, h2, r1, r2, f1, f2, q⟩ := h
  obtain rfl : v = Value.ref a := rx
  obtain rfl : u = Value.ref b := ry
  obtain ⟨_, ya, va, ra, da⟩ := dk_rd I.hok h1
  obtain ⟨_, yb, vb, rb, db⟩ := dk_rd I.hok h2
  refine PySem.W.keq_eq (knd := mixKind X.prog X.w) ya yb da db (by omega) (fun _ => hits_D I hu rb r2 f2 ra r1 f1) ?_
  rw [← ra.length, ← rb.length, r1.length, r2.length]
  exact ⟨.bl _, H, I, rfl, q⟩
theorem op_neK {X : Cx} (hu : X.A.units + 64 < cLine) : OpR X (compareOp .NotEq) (rEqK X.K true) := by
  intro pins s σ H x y v u Q I rx ry h
  obtain ⟨pa, a, b, kv, lv, m1, m2, rfl, rfl, h1, h2, r1, r2, f1, f2, q⟩ := h
  obtain rfl : v = Value.ref a := rx
  obtain rfl : u = Value.ref b := ry
  obtain ⟨_, ya, va, ra, da⟩ := dk_rd I.hok h1
  obtain ⟨_, yb, vb, rb, db⟩ := dk_rd I.hok h2
  refine PySem.W.keq_ne (knd := mixKind X.prog X.w) ya yb da db (by omega) (fun _ => hits_D I hu rb r2 f2 ra r1 f1) ?_
  rw [← ra.length, ← rb.length, r1.length, r2.length]
  exact ⟨.bl _, H, I, rfl, q⟩
def rEqX (K : PySem.W.Frag) : R2 := fun x y H Q => (∃ pa d e, Rp K pa H x d ∧ Rp K pa H y e ∧ flat deep d = true ∧ flat deep e = true ∧ Q (.bl (deqv d e)) H) ∨ rEqK K false x y H Q
def rNeX (K : PySem.W.Frag) : R2 := fun x y H Q => (∃ pa d e, Rp K pa H x d ∧ Rp K pa H y e ∧ flat deep d = true ∧ flat deep e = true ∧ Q (.bl (!deqv d e)) H) ∨ rEqK K true x y H Q
section
variable {X : Cx} {K : PySem.W.Frag}
theorem op_eqX (hu : X.A.units + 64 < cLine) : OpR X (compareOp .Eq) (rEqX X.K) := by
  intro pins s σ H x y v u Q I rx ry h
  rcases h with ⟨pa, d, e, r1, r2, f1, f2, q⟩ | h
  · exact rcAt_D I f1 f2 r1 r2 rx ry (by omega) _ _ _ _ ⟨.bl _, H, I, rfl, q⟩
  · exact op_eqK hu pins s σ H x y v u Q I rx ry h
theorem op_neX (hu : X.A.units + 64 < cLine) : OpR X (compareOp .NotEq) (rNeX X.K) := by
  intro pins s σ H x y v u Q I rx ry h
  rcases h with ⟨pa, d, e, r1, r2, f1, f2, q⟩ | h
  · exact rcNeAt_D I f1 f2 r1 r2 rx ry (by omega) _ _ _ _ ⟨.bl _, H, I, rfl, q⟩
  · exact op_neK hu pins s σ H x y v u Q I rx ry h
theorem flats_mem {n : Nat} : ∀ {ds : List D}, flats n ds = true → ∀ d ∈ ds, flat n d = true
  | [], _, d, h => by cases h
  | x :: xs, f, d, h => by
    rw [flats, Bool.and_eq_true] at f
    rcases List.mem_cons.mp h with rfl | h
    · exact f.1
    · exact flats_mem f.2 d h
theorem getG_mem {κ α : Type} [DecidableEq κ] {m : List (κ × α)} {k : κ} {d : α} (h : getG m k = some d) : (k, d) ∈ m := by
  obtain ⟨q, h1, h2⟩ := Option.map_eq_some_iff.mp h
  have h3 := List.find?_some h1
  have h4 := List.mem_of_find?_eq_some h1
  obtain ⟨k2, d2⟩ := q
  have e1 : k2 = k := of_decide_eq_true h3
  have e2 : d2 = d := h2
  rw [← e1, ← e2]
  exact h4
theorem eqK_of {pa : PAx} {S : Addr → Prop} {H : Hp} {x y : V} {d e : D} {b neg : Bool} {Q : VK} (rx : Rp K pa (hid S H) x d) (ry : Rp K pa (hid S H) y e) (h : dEqK d e = some b) (q : Q (.bl (if neg = true then !b else b)) H) : rEqK K neg x y H Q := by
  unfold dEqK at h
  split at h
  · rename_i ks ds ls es
    split at h
    · rename_i hf
      rw [Bool.and_eq_true] at hf
      cases h
      obtain ⟨a, kv, rfl, g1, g2, g3, _⟩ := Rp.dk_inv rx
      obtain ⟨a', kv', rfl, g1', g2', g3', _⟩ := Rp.dk_inv ry
      refine ⟨pa, a, a', kv, kv', _, _, rfl, rfl, sameR hid_sub g1, sameR hid_sub g1', KRp.mono hid_sub g2, KRp.mono hid_sub g2', fun z hz => flats_mem hf.1 _ ?_, fun k d hd => flats_mem hf.2 _ ?_, q⟩
      · exact (List.of_mem_zip hz).2
      · exact (List.of_mem_zip (getG_mem hd)).2
    · cases h
  · cases h
theorem od_eq : OpD K (rEqX K) dEq := by
  intro pa S H p x y d e z Q s rx ry h q
  simp only [dEq, Bool.and_eq_true] at h
  split at h
  · rename_i hf
    cases h
    exact .inl ⟨pa, d, e, Rp.mono hid_sub _ _ rx, Rp.mono hid_sub _ _ ry, hf.1, hf.2, q _ H (fun _ _ h => h) (.bl _)⟩
  · obtain ⟨b, hb, rfl⟩ := Option.map_eq_some_iff.mp h
    exact .inr (eqK_of rx ry hb (q _ H (fun _ _ h => h) (.bl _)))
theorem od_ne : OpD K (rNeX K) dNe := by
  intro pa S H p x y d e z Q s rx ry h q
  simp only [dNe, Bool.and_eq_true] at h
  split at h
  · rename_i hf
    cases h
    exact .inl ⟨pa, d, e, Rp.mono hid_sub _ _ rx, Rp.mono hid_sub _ _ ry, hf.1, hf.2, q _ H (fun _ _ h => h) (.bl _)⟩
  · obtain ⟨b, hb, rfl⟩ := Option.map_eq_some_iff.mp h
    exact .inr (eqK_of rx ry hb (q _ H (fun _ _ h => h) (.bl _)))
end
end Dt
namespace Dt
variable [GTab]
open PySem PySem.Spec PyProof.Rows L2
open PySem.SeqAt (EqAt RcAt RcNeAt)
open Classical in
noncomputable def eqTo (K : PySem.W.Frag) (pa : PAx) (H : Hp) (d : D) (u : Value) : Bool := decide (∃ v d', RelV v u ∧ Rp K pa H v d' ∧ flat 59 d' = true ∧ deqv d' d = true)
section
variable {X : Cx} {pins : List (Addr × Obj)} {σ : L2.St} {H : Hp} {s : Shared} {pa : PAx}
open Classical in
theorem eqTo_at (I : Inv X pins σ H s) {d d' : D} {v : V} {u : Value} (f : flat 59 d' = true) (r : RelV v u) (rp : Rp X.K pa H v d') : eqTo X.K pa H d u = deqv d' d := by
  unfold eqTo
  by_cases h : deqv d' d = true
  · rw [h]; exact decide_eq_true ⟨v, d', r, rp, f, h⟩
  · have h' : deqv d' d = false := by simpa using h
    rw [h']
    refine decide_eq_false fun ⟨v2, d2, r2, rp2, f2, e2⟩ => h ?_
    have q := r.inj r2
    subst q
    rw [Rp.inj I 59 d' d2 v f f2 rp rp2]
    exact e2
theorem eqTo_any (I : Inv X pins σ H s) {d : D} : ∀ {ds : List D} {vs : List V} {us : List Value}, flats 59 ds = true → RpL X.K pa H vs ds → Vals vs us → us.any (eqTo X.K pa H d) = ds.any fun e => deqv e d
  | [], _, _, _, h, r => by cases h; cases r; rfl
  | e :: ds, _, _, f, h, r => by
    rw [flats, Bool.and_eq_true] at f
    cases h with
    | cons h1 h2 =>
      cases r with
      | cons r1 r2 => rw [List.any_cons, List.any_cons, eqTo_at I f.1 r1 h1, eqTo_any I f.2 h2 r2]
theorem eqTo_count (I : Inv X pins σ H s) {d : D} : ∀ {ds : List D} {vs : List V} {us : List Value}, flats 59 ds = true → RpL X.K pa H vs ds → Vals vs us → us.countP (eqTo X.K pa H d) = ds.countP fun e => deqv e d
  | [], _, _, _, h, r => by cases h; cases r; rfl
  | e :: ds, _, _, f, h, r => by
    rw [flats, Bool.and_eq_true] at f
    cases h with
    | cons h1 h2 =>
      cases r with
      | cons r1 r2 => rw [List.countP_cons, List.countP_cons, eqTo_at I f.1 r1 h1, eqTo_count I f.2 h2 r2]
theorem eqTo_get (I : Inv X pins σ H s) {d : D} : ∀ {ds : List D} {vs : List V} {us : List Value} (j : Nat) (hj : j < us.length), flats 59 ds = true → RpL X.K pa H vs ds → Vals vs us → ∃ e, ds[j]? = some e ∧ eqTo X.K pa H d us[j] = deqv e d
  | [], _, _, _, hj, _, h, r => by cases h; cases r; exact absurd hj (Nat.not_lt_zero _)
  | e :: ds, _, _, j, hj, f, h, r => by
    rw [flats, Bool.and_eq_true] at f
    cases h with
    | cons h1 h2 =>
      cases r with
      | cons r1 r2 =>
        cases j with
        | zero => exact ⟨e, rfl, eqTo_at I f.1 r1 h1⟩
        | succ j =>
          obtain ⟨e', q1, q2⟩ := eqTo_get I (d := d) j (Nat.lt_of_succ_lt_succ hj) f.2 h2 r2
          exact ⟨e', by simpa using q1, q2⟩
theorem eqTo_all (I : Inv X pins σ H s) {d : D} {y : V} {u : Value} (fd : flat 59 d = true) (rd : Rp X.K pa H y d) (ry : RelV y u) (hu : X.A.units + 64 < cLine) : ∀ {ds : List D} {vs : List V} {us : List Value}, flats 59 ds = true → RpL X.K pa H vs ds → Vals vs us →
    ∀ w ∈ us, EqAt X.A.in1 s w u (eqTo X.K pa H d w)
  | [], _, _, _, h, r => by cases h; cases r; intro w hw; cases hw
  | e :: ds, _, _, f, h, r => by
    rw [flats, Bool.and_eq_true] at f
    cases h with
    | cons h1 h2 =>
      cases r with
      | cons r1 r2 =>
        intro w hw
        rcases List.mem_cons.mp hw with rfl | hw
        · rw [eqTo_at I f.1 r1 h1]
          refine eqAt_D I 59 e d X.A.in1 _ _ _ _ f.1 fd h1 rd r1 ry ?_
          show X.A.units + 1 + 59 < cLine
          omega
        · exact eqTo_all I fd rd ry hu f.2 h2 r2 w hw
end
def dIn : D → D → Option D
  | d, .lst ds => if (flat 59 d && flats 59 ds) = true then some (.bl (ds.any fun e => deqv e d)) else none
  | d, .tup ds => if (flat 59 d && flats 59 ds) = true then some (.bl (ds.any fun e => deqv e d)) else none
  | .str c, .str z => match c.cps.toList with | [k] => some (.bl (decide (k ∈ z.cps.toList))) | _ => none
  | d, .dk ks _ => (keyOf d).map fun k => .bl (memK ks k)
  | _, _ => none
def dNotIn (d c : D) : Option D := match dIn d c with | some (.bl b) => some (.bl (!b)) | _ => none
def rInX (K : PySem.W.Frag) (neg : Bool) : R2 := fun x y H Q => ∃ pa d c b, Rp K pa H x d ∧ Rp K pa H y c ∧ dIn d c = some (.bl b) ∧ Q (.bl (if neg = true then !b else b)) H
section
variable {X : Cx} {K : PySem.W.Frag}
theorem str_one {c : Str} {k : Nat} (h : c.cps.toList = [k]) : c = ⟨#[k]⟩ := by
  obtain ⟨cps⟩ := c
  have : cps = #[k] := Array.ext' (by simpa using h)
  rw [this]
theorem dget_D {K : PySem.W.Frag} {pa : PAx} {H : Hp} {y : V} {d : D} {k : Key} {ks : List Key} {ds : List D} {a : Addr} {kv : List (Key × V)} (rx : Rp K pa H y d) (hk : keyOf d = some k) (h : Rd H a (.dK kv)) (r : KRp K pa H kv (ks.zip ds)) (hl : ds.length = ks.length) :
    DGet H a y (valV kv k) ∧ (valV kv k).isSome = memK ks k := by
  obtain ⟨rfl, _, _⟩ := rx.key hk
  refine ⟨.inl ⟨kv, k, h, rfl, rfl⟩, ?_⟩
  have e := hasG_iff (m := ks.zip ds) (k := k)
  rw [zip_fst hl] at e
  rw [← e]
  rcases r.get k with ⟨h1, h2⟩ | ⟨v, d, h1, h2, _⟩
  · rw [h1, h2]; rfl
  · rw [h1, h2]; rfl
theorem op_inX (hu : X.A.units + 64 < cLine) : OpR X (compareOp .In) (rInX X.K false) := by
  intro pins s σ H x y v u Q I rx ry h
  obtain ⟨pa, d, c, b, r1, r2, e, q⟩ := h
  cases r2 with
  | lst h1 h2 =>
    cases ry
    simp only [dIn, Bool.and_eq_true] at e
    split at e
    · rename_i hf
      cases e
      obtain ⟨its, rv, hl, _, _⟩ := Rp.isList I (SqL.of h1)
      refine SeqAt.in_listAt (eqTo X.K pa H d) hl (fun w hw => eqTo_all I hf.1 r1 rx hu hf.2 h2 rv w (by simpa using hw)) ?_
      rw [← Array.any_toList, eqTo_any I hf.2 h2 rv]
      exact ⟨.bl _, H, I, rfl, q⟩
    · cases e
  | tup h1 h2 =>
    cases ry
    simp only [dIn, Bool.and_eq_true] at e
    split at e
    · rename_i hf
      cases e
      obtain ⟨its, rv, hl, _, _⟩ := Rp.isTup I h1
      refine SeqAt.in_tupleAt (eqTo X.K pa H d) hl (fun w hw => eqTo_all I hf.1 r1 rx hu hf.2 h2 rv w (by simpa using hw)) ?_
      rw [← Array.any_toList, eqTo_any I hf.2 h2 rv]
      exact ⟨.bl _, H, I, rfl, q⟩
    · cases e
  | str z hz =>
    cases r1 with
    | str c hc =>
      simp only [dIn] at e
      split at e
      · rename_i k hk
        cases e
        rw [str_one hk] at rx
        exact op_in_sign pins s σ H _ _ v u Q I rx ry ⟨k, z, rfl, rfl, q⟩
      · cases e
    | _ => simp [dIn] at e
  | dk h1 h2 h4 h3 =>
    cases ry
    have e2 := e
    simp only [dIn, Option.map_eq_some_iff] at e2
    obtain ⟨k, hk, e3⟩ := e2
    cases e3
    obtain ⟨a, kv, ea, g1, g2, g3, _⟩ := Rp.dk_inv (Rp.dk (pa := pa) h1 h2 h4 h3)
    cases ea
    obtain ⟨g, gs⟩ := dget_D r1 hk g1 g2 g3
    refine d_in (by omega) I g rx fun s' I' => ?_
    rw [gs]
    exact ⟨.bl _, H, I', rfl, q⟩
  | _ => cases r1 <;> simp [dIn] at e
theorem dIn_bl {d c z : D} (h : dIn d c = some z) : ∃ b, z = .bl b := by
  unfold dIn at h
  split at h
  · split at h
    · cases h; exact ⟨_, rfl⟩
    · cases h
  · split at h
    · cases h; exact ⟨_, rfl⟩
    · cases h
  · split at h
    · cases h; exact ⟨_, rfl⟩
    · cases h
  · obtain ⟨k, _, e⟩ := Option.map_eq_some_iff.mp h
    exact ⟨_, e.symm⟩
  · cases h
theorem od_in : OpD K (rInX K false) dIn := by
  intro pa S H p x y d e z Q s rx ry h q
  obtain ⟨b, rfl⟩ := dIn_bl h
  exact ⟨pa, d, e, b, Rp.mono hid_sub _ _ rx, Rp.mono hid_sub _ _ ry, h, q _ H (fun _ _ h => h) (.bl _)⟩
/-- list.index, list.count -/
def dIndex : D → List D → Option D
  | .lst ds, [d] => if (flat 59 d && flats 59 ds) = true then (ds.findIdx? fun e => deqv e d).map fun j => .int (j : Nat) else none
  | _, _ => none
def dCount : D → List D → Option D
  | .lst ds, [d] => if (flat 59 d && flats 59 ds) = true then some (.int (ds.countP fun e => deqv e d : Nat)) else none
  | _, _ => none
def rIdxX (K : PySem.W.Frag) : V → List V → Hp → VK → Prop := fun x xs H Q => ∃ pa ds y d j, Rp K pa H x (.lst ds) ∧ xs = [y] ∧ Rp K pa H y d ∧ flat 59 d = true ∧ flats 59 ds = true ∧ (ds.findIdx? fun e => deqv e d) = some j ∧ Q (.int (j : Nat)) H
def rCntX (K : PySem.W.Frag) : V → List V → Hp → VK → Prop := fun x xs H Q => ∃ pa ds y d, Rp K pa H x (.lst ds) ∧ xs = [y] ∧ Rp K pa H y d ∧ flat 59 d = true ∧ flats 59 ds = true ∧ Q (.int (ds.countP fun e => deqv e d : Nat)) H
theorem mt_indexX' (hu : X.A.units + 64 < cLine) : MtR X "list.index" (rIdxX X.K) := by
  intro pins s σ H x xs v us Q I rx rxs h
  obtain ⟨pa, ds, y, d, j, r1, rfl, r2, f1, f2, hj, q⟩ := h
  cases r1 with
  | lst h1 h2 =>
    cases rx
    obtain ⟨u, rfl, ru⟩ := rxs.one
    obtain ⟨its, rv, ⟨⟨cls, dd, data, sl⟩, ho, hc, n, hd⟩, len1, hz⟩ := Rp.isList I (SqL.of h1)
    simp only at hc hd
    subst hc hd
    have e1 : its.length = ds.length := len1.trans h2.length
    obtain ⟨hjl, hj1, hj2⟩ := List.findIdx?_eq_some_iff_getElem.mp hj
    have hjs : j < its.toArray.size := by simpa [e1] using hjl
    refine call_meets PySem.F.slot_list_index ⟨_, ho, rfl⟩ PySem.F.entry_list_index (PySem.F.args_list_index_2 _ _)
      (SeqAt.list_indexAt _ its.toArray n dd sl u (eqTo X.K pa H d) j hjs (by rw [sizeLine_eq] at hz; omega) ?_ ?_) ⟨ho, fun w hw => eqTo_all I f1 r2 ru hu f2 h2 rv w (by simpa using hw), ?_⟩
    · obtain ⟨e, q1, q2⟩ := eqTo_get I (d := d) j (by simpa using hjs) f2 h2 rv
      have q3 : ds[j] = e := Option.some.inj ((List.getElem?_eq_getElem hjl).symm.trans q1)
      have q4 : eqTo X.K pa H d its[j] = true := by rw [q2, ← q3]; exact hj1
      simpa using q4
    · intro m hm hmj
      obtain ⟨e, q1, q2⟩ := eqTo_get I (d := d) m (by simpa using hm) f2 h2 rv
      have hml : m < ds.length := by omega
      have q3 : ds[m] = e := Option.some.inj ((List.getElem?_eq_getElem hml).symm.trans q1)
      have q4 : eqTo X.K pa H d its[m] = false := by
        rw [q2, ← q3]
        have := hj2 m hmj
        simpa using this
      simpa using q4
    · exact ⟨.int (j : Nat), H, I.tok _, ⟨_, rfl⟩, q⟩
theorem mt_countX (hu : X.A.units + 64 < cLine) : MtR X "list.count" (rCntX X.K) := by
  intro pins s σ H x xs v us Q I rx rxs h
  obtain ⟨pa, ds, y, d, r1, rfl, r2, f1, f2, q⟩ := h
  cases r1 with
  | lst h1 h2 =>
    cases rx
    obtain ⟨u, rfl, ru⟩ := rxs.one
    obtain ⟨its, rv, ⟨⟨cls, dd, data, sl⟩, ho, hc, n, hd⟩, len1, hz⟩ := Rp.isList I (SqL.of h1)
    simp only at hc hd
    subst hc hd
    refine call_meets PySem.F.slot_list_count ⟨_, ho, rfl⟩ PySem.F.entry_list_count (PySem.F.args_list_count_2 _ _)
      (SeqAt.list_countAt _ its.toArray n dd sl u (eqTo X.K pa H d)) ⟨ho, fun w hw => eqTo_all I f1 r2 ru hu f2 h2 rv w (by simpa using hw), ?_⟩
    have e : its.toArray.toList.countP (eqTo X.K pa H d) = ds.countP fun e => deqv e d := eqTo_count I f2 h2 rv
    rw [e]
    exact ⟨.int _, H, I.tok _, ⟨_, rfl⟩, q⟩
theorem md_index : MtD K "list" (rIdxX K) dIndex := by
  intro pa S H p x xs d ds z Q s rx rxs h q
  unfold dIndex at h
  split at h
  · simp only [Bool.and_eq_true] at h
    split at h
    · rename_i hf
      cases hj : List.findIdx? _ _ with
      | none => rw [hj] at h; cases h
      | some j =>
        rw [hj] at h
        cases h
        cases rxs with
        | cons r1 r2 =>
          cases r2
          exact ⟨pa, _, _, _, j, Rp.mono hid_sub _ _ rx, rfl, Rp.mono hid_sub _ _ r1, hf.1, hf.2, hj, q _ H (fun _ _ h => h) (.int _)⟩
    · cases h
  · cases h
theorem md_count : MtD K "list" (rCntX K) dCount := by
  intro pa S H p x xs d ds z Q s rx rxs h q
  unfold dCount at h
  split at h
  · simp only [Bool.and_eq_true] at h
    split at h
    · rename_i hf
      cases h
      cases rxs with
      | cons r1 r2 =>
        cases r2
        exact ⟨pa, _, _, _, Rp.mono hid_sub _ _ rx, rfl, Rp.mono hid_sub _ _ r1, hf.1, hf.2, q _ H (fun _ _ h => h) (.int _)⟩
    · cases h
  · cases h
def dNeg : D → Option D
  | .int i => some (.int (-i))
  | _ => none
theorem ud_neg : UnD K (rU fun i => .int (-i)) dNeg := by
  intro pa S H p x d z Q s rx h q
  cases rx with
  | int i => cases h; exact ⟨i, rfl, q _ H (fun _ _ h => h) (.int _)⟩
  | _ => cases h
end
end Dt
namespace Dt
variable [GTab]
open PySem PySem.Spec PyProof.Rows L2
open PySem.SeqAt (EqAt RcAt RcNeAt)
theorem atI_rp {K : PySem.W.Frag} {pa : PAx} {H : Hp} {vs : List V} {ds : List D} {i : Int} {d : D} (r : RpL K pa H vs ds) (h : atI ds i = some d) : ∃ v, atI vs i = some v ∧ Rp K pa H v d := by
  unfold atI at *
  rw [r.length]
  cases e : ixN ds.length i with
  | none => rw [e] at h; cases h
  | some j =>
    rw [e] at h
    exact r.get h
theorem atI_map {α β : Type} (f : α → β) {xs : List α} {i : Int} : atI (xs.map f) i = (atI xs i).map f := by
  unfold atI
  rw [List.length_map]
  cases e : ixN xs.length i with
  | none => rfl
  | some j => show (xs.map f)[j]? = (xs[j]?).map f; exact List.getElem?_map
def dIx : D → D → Option D
  | .lst ds, .int i => atI ds i
  | .tup ds, .int i => atI ds i
  | .scr ns, .int i => (atI ns i).map .int
  | .str x, .int i => (atI x.cps.toList i).map fun c => .str ⟨#[c]⟩
  | .dk ks ds, y => (keyOf y).bind fun k => getG (ks.zip ds) k
  | _, _ => none
def rIxK : R2 := fun x y H Q => ∃ a v, x = .ref a ∧ DGet H a y (some v) ∧ Q v H
theorem ix_dict {X : Cx} (hu : X.A.units + 1 < cLine) : IxR X rIxK := by
  intro value slice pins s σ H x y v u Q I rx ry h hs
  obtain ⟨a, r, rfl, g, q⟩ := h
  obtain rfl : v = Value.ref a := rx
  exact tail_any (dict_typeIs I g) PySem.F.slot_dict_getitem.lookup (d_getItem hu I g ry fun w' s' I' rw' => ⟨r, H, I', rw', q⟩) hs
def rIxA (K : PySem.W.Frag) : R2 := fun x y H Q => rIx K x y H Q ∨ rIxK x y H Q
def mIx (a b : M) : M := fun r p => bnd (a r p) fun x p => bnd (b r p) fun y p => match x, y with | .pool, .int i => lft ((atI p i).map D.int) p | x, y => lft (dIx x y) p
section
variable {X : Cx} {K : PySem.W.Frag}
theorem one_le_lim : 1 ≤ lim := by decide +kernel
theorem red_ix {a b : M} {σ : L2.St} {H : Hp} {Q : VK} (h : tM K (mIx a b) σ H Q) : tOp (rIxA K) (tM K a) (tM K b) σ H Q := by
  obtain ⟨pa, S, r, p, d, p', c, e, q⟩ := h
  obtain ⟨x, p1, e1, e⟩ := bnd_some e
  obtain ⟨y, p2, e2, e⟩ := bnd_some e
  refine ⟨pa, S, r, p, x, p1, c, e1, fun v1 H1 x1 s1 r1 => ?_⟩
  have c1 := c.go x1 s1
  refine ⟨pa, S, r, p1, y, p2, c1, e2, fun v2 H2 x2 s2 r2' => ?_⟩
  have r1' := Rp.mono (x2.hid s1) _ _ r1
  have fin : ∀ p3 v, p2 = p3 → p' = p3 → Rp K pa (hid S H2) v d → Q v H2 := fun p3 v h1 h2 h3 => by
    subst h1
    subst h2
    exact q v H2 (x1.trans x2) s2 h3
  cases r1' with
  | @lst l xs ds h1 h2 =>
    obtain ⟨z, e3, rfl, rfl⟩ := lft_eq e
    cases r2' with
    | int i =>
      obtain ⟨v, q1, q2⟩ := atI_rp h2 e3
      exact .inl (.inl ⟨l, xs, i, v, rfl, rfl, SqL.of (hid_sub _ _ h1), q1, fin _ v rfl rfl q2⟩)
    | _ => cases e3
  | @tup l xs ds h1 h2 =>
    obtain ⟨z, e3, rfl, rfl⟩ := lft_eq e
    cases r2' with
    | int i =>
      obtain ⟨v, q1, q2⟩ := atI_rp h2 e3
      exact .inl (.inr (.inl ⟨l, xs, i, v, rfl, rfl, sameT hid_sub h1, q1, fin _ v rfl rfl q2⟩))
    | _ => cases e3
  | @scr l ns h1 =>
    obtain ⟨z, e3, rfl, rfl⟩ := lft_eq e
    cases r2' with
    | int i =>
      simp only [dIx] at e3
      cases e4 : atI ns i with
      | none => rw [e4] at e3; cases e3
      | some n =>
        rw [e4] at e3
        cases e3
        exact .inl (.inl ⟨l, _, i, .int n, rfl, rfl, sameL hid_sub h1, by rw [atI_map, e4]; rfl, fin _ _ rfl rfl (.int n)⟩)
    | _ => cases e3
  | str z hz =>
    obtain ⟨w, e3, rfl, rfl⟩ := lft_eq e
    cases r2' with
    | int i =>
      simp only [dIx] at e3
      cases e4 : atI z.cps.toList i with
      | none => rw [e4] at e3; cases e3
      | some n =>
        rw [e4] at e3
        cases e3
        exact .inl (.inr (.inr ⟨z, i, n, rfl, rfl, lim_sz hz, e4, fin _ _ rfl rfl (.str _ one_le_lim)⟩))
    | _ => cases e3
  | pool hp =>
    cases r2' with
    | int i =>
      obtain ⟨z, e3, rfl, rfl⟩ := lft_eq e
      cases e4 : atI p2 i with
      | none => rw [e4] at e3; cases e3
      | some n =>
        rw [e4] at e3
        cases e3
        exact .inl (.inl ⟨_, _, i, .int n, rfl, rfl, SqL.of (s2.pool _ hp).1, by rw [atI_map, e4]; rfl, fin _ _ rfl rfl (.int n)⟩)
    | _ =>
      obtain ⟨z, e3, rfl, rfl⟩ := lft_eq e
      cases e3
  | dk h1 h2 h4 h3 =>
    obtain ⟨z, e3, rfl, rfl⟩ := lft_eq e
    simp only [dIx, Option.bind_eq_some_iff] at e3
    obtain ⟨k, hk, e3⟩ := e3
    obtain ⟨a, kv, ea, g1, g2, g3, _⟩ := Rp.dk_inv (Rp.dk (pa := pa) h1 h2 h4 h3)
    cases ea
    have g := (dget_D (Rp.mono hid_sub _ _ r2') hk (sameR hid_sub g1) (KRp.mono hid_sub g2) g3).1
    rcases g2.get k with ⟨m1, _⟩ | ⟨v, d', m1, m2, m3⟩
    · rw [m1] at e3; cases e3
    · rw [m1] at e3
      cases e3
      rw [m2] at g
      exact .inr ⟨_, v, rfl, g, fin _ v rfl rfl m3⟩
  | _ =>
    obtain ⟨z, e3, rfl, rfl⟩ := lft_eq e
    cases e3
theorem je_ix {a b : Expr} {ma mb : M} {pos : Pos} (hu : X.A.units + 64 < cLine) (ha : JE X a ma) (hb : JE X b mb) (hs : PlainIx b := by exact fun _ _ => rfl) : JE X (.Subscript a b pos) (mIx ma mb) := ⟨(pe_ix (ix_seq.or (ix_dict (by omega))) ha.pe hb.pe hs).weak fun σ H Q => red_ix⟩
def dcut {α : Type} (xs : List α) (lo hi : Option Int) : List α := (xs.drop (HT.sIx xs.length 0 lo)).take (HT.sIx xs.length xs.length hi - HT.sIx xs.length 0 lo)
theorem cut_rp {pa : PAx} {H : Hp} {vs : List V} {ds : List D} {lo hi : Option Int} (r : RpL K pa H vs ds) : RpL K pa H (cutV vs lo hi) (dcut ds lo hi) := by
  unfold cutV dcut
  rw [r.length]
  exact (r.drop _).take _
def dSl : D → Option Int → Option Int → Option D
  | .lst ds, lo, hi => some (.lst (dcut ds lo hi))
  | .tup ds, lo, hi => some (.tup (dcut ds lo hi))
  | .scr ns, lo, hi => some (.lst ((dcut ns lo hi).map .int))
  | .str x, lo, hi => some (.str (cutS x lo hi))
  | _, _, _ => none
abbrev MO := Ev → List Int → MR (Option Int)
def tMO (K : PySem.W.Frag) (m : MO) : TO := fun σ H Q => ∃ pa S r p o p', Cn K pa S σ H r p ∧ m r p = some (o, p') ∧ ∀ H', Ext pa H H' → Sta pa S H' p' → Q o H'
structure JO (X : Cx) (e : Option Expr) (m : MO) : Prop where po : PO X e (tMO X.K m)
def oNone : MO := fun _ p => some (none, p)
def oSome (a : M) : MO := fun r p => bnd (a r p) fun x p => match x with | .int i => some (some i, p) | _ => none
theorem _root_.L2.PO.weak {X : Cx} {e : Option Expr} {t t' : TO} (h : PO X e t) (w : ∀ σ H Q, t' σ H Q → t σ H Q) : PO X e t' := ⟨fun pins s σ H Q I q => h.run pins s σ H Q I (w σ H Q q)⟩
theorem jo_none : JO X none oNone := ⟨po_none.weak fun σ H Q ⟨pa, S, r, p, o, p', c, e, q⟩ => by
  cases e
  exact q H Ext.refl c.sta⟩
theorem jo_some {e : Expr} {m : M} (h : JE X e m) : JO X (some e) (oSome m) := ⟨(po_some h.pe).weak fun σ H Q ⟨pa, S, r, p, o, p', c, e, q⟩ => by
  obtain ⟨x, p1, e1, e⟩ := bnd_some e
  refine ⟨pa, S, r, p, x, p1, c, e1, fun v H1 x1 s1 r1 => ?_⟩
  cases x with
  | int i =>
    obtain ⟨rfl, rfl⟩ := pr e
    cases r1
    exact ⟨i, rfl, q H1 x1 s1⟩
  | _ => cases e⟩
def mSl (a : M) (lo hi : MO) : M := fun r p => bnd (a r p) fun x p => bnd (lo r p) fun l p => bnd (hi r p) fun h p => lft (dSl x l h) p
def rSlD (K : PySem.W.Frag) : V → Option Int → Option Int → Hp → VK → Prop := fun x lo hi H Q => rSlL K x lo hi H Q ∨ rSlA K x lo hi H Q ∨ rSlS x lo hi H Q
theorem sl_D : SlR X (rSlD X.K) := sl_list.or (sl_tupA.or sl_str)
theorem cutS_len (z : Str) (lo hi : Option Int) : (cutS z lo hi).length ≤ z.length := by
  unfold cutS
  show (List.toArray _).size ≤ z.cps.size
  rw [List.size_toArray, List.length_take, List.length_drop]
  have : z.cps.toList.length = z.cps.size := by simp
  omega
theorem dcut_whole {α : Type} {xs : List α} {lo hi : Option Int} (h : HT.sIx xs.length 0 lo = 0 ∧ HT.sIx xs.length xs.length hi = xs.length) : dcut xs lo hi = xs := by
  unfold dcut
  rw [h.1, h.2, List.drop_zero, Nat.sub_zero, List.take_length]
theorem dcut_map {α β : Type} (f : α → β) (xs : List α) (lo hi : Option Int) : dcut (xs.map f) lo hi = (dcut xs lo hi).map f := by
  unfold dcut
  rw [List.length_map, List.map_take, List.map_drop]
theorem red_sl {a : M} {lo hi : MO} {σ : L2.St} {H : Hp} {Q : VK} (h : tM K (mSl a lo hi) σ H Q) : tSl (rSlD K) (tM K a) (tMO K lo) (tMO K hi) σ H Q := by
  obtain ⟨pa, S, r, p, d, p', c, e, q⟩ := h
  obtain ⟨x, p1, e1, e⟩ := bnd_some e
  obtain ⟨l, p2, e2, e⟩ := bnd_some e
  obtain ⟨u, p3, e3, e⟩ := bnd_some e
  obtain ⟨z, e4, rfl, rfl⟩ := lft_eq e
  refine ⟨pa, S, r, p, x, p1, c, e1, fun v1 H1 x1 s1 r1 => ?_⟩
  have c1 := c.go x1 s1
  refine ⟨pa, S, r, p1, l, p2, c1, e2, fun H2 x2 s2 => ?_⟩
  have c2 := c1.go x2 s2
  refine ⟨pa, S, r, p2, u, p3, c2, e3, fun H3 x3 s3 => ?_⟩
  have r3 := Rp.mono (x3.hid s2) _ _ (Rp.mono (x2.hid s1) _ _ r1)
  have q' := (q.after c ((x1.trans x2).trans x3)).val s3
  cases r3 with
  | @lst w xs ds h1 h2 =>
    cases e4
    exact .inl ⟨_, _, rfl, SqL.of (hid_sub _ _ h1), fun a n => q' _ _ (same_upd n) (Rp.newL s3 (cut_rp h2) n)⟩
  | @scr w ns h1 =>
    cases e4
    refine .inl ⟨_, _, rfl, sameL hid_sub h1, fun a n => q' _ _ (same_upd n) ?_⟩
    refine Rp.newL s3 ?_ n
    have := cut_rp (K := K) (pa := pa) (H := hid S H3) (lo := l) (hi := u) (RpL.ints ns)
    rw [dcut_map] at this
    exact this
  | @tup w xs ds h1 h2 =>
    cases e4
    refine .inr (.inl ⟨_, _, rfl, sameT hid_sub h1, fun hw => ?_, fun _ a n => q' _ _ (same_upd n) (Rp.newT s3 (cut_rp h2) n)⟩)
    rw [dcut_whole (by rw [← h2.length]; exact hw)] at q'
    exact q' _ H3 (fun _ _ h => h) (.tup h1 h2)
  | str w hw =>
    cases e4
    exact .inr (.inr ⟨w, rfl, lim_sz hw, q' _ H3 (fun _ _ h => h) (.str _ (Nat.le_trans (cutS_len _ _ _) hw))⟩)
  | _ => cases e4
theorem je_sl {a : Expr} {lo hi : Option Expr} {ma : M} {ml mh : MO} {pos p2 : Pos} (ha : JE X a ma) (hl : JO X lo ml) (hh : JO X hi mh) : JE X (.Subscript a (.Slice lo hi none p2) pos) (mSl ma ml mh) := ⟨(pe_slice sl_D ha.pe hl.po hh.po).weak fun σ H Q => red_sl⟩
theorem je_callB {x : Str} {id : String} {rc : List V → Hp → VK → Prop} {f : List D → Option D} {e : Expr} {es : List Expr} {ms : ML} {p pos : Pos} (hc : CallR X (.builtin id) rc) (hf : CallD X.K rc f) (hm : X.mg x = none) (hv : bootBuiltins x = some (.builtin id)) (ha : JA X (e :: es) ms) (hg : Gl X x := by rfl) (hn : x ≠ "__name__" := by decide) (hdb : (x == ("__debug__" : Str)) = false := by decide)
    (he : starEach (e :: es) X.env = (false, eval e X.env) :: starEach es X.env := by rfl) (hpl : (backTo pos (starEach es X.env)).any (·.1) = false := by rfl) : JE X (.Call (.Name x p) (e :: es) [] pos) (mCB f ms) :=
  ⟨(pe_callB hc hg hm hv ha.pa hn hdb he hpl).weak fun σ H Q => red_cb hf⟩
theorem je_callTy {x : Str} {T : String} {rc : List V → Hp → VK → Prop} {f : List D → Option D} {e : Expr} {es : List Expr} {ms : ML} {p pos : Pos} (hc : CallR X (.type T) rc) (hf : CallD X.K rc f) (hm : X.mg x = none) (hv : bootBuiltins x = some (.type T)) (ha : JA X (e :: es) ms) (hg : Gl X x := by rfl) (hn : x ≠ "__name__" := by decide) (hdb : (x == ("__debug__" : Str)) = false := by decide)
    (he : starEach (e :: es) X.env = (false, eval e X.env) :: starEach es X.env := by rfl) (hpl : (backTo pos (starEach es X.env)).any (·.1) = false := by rfl) : JE X (.Call (.Name x p) (e :: es) [] pos) (mCB f ms) :=
  ⟨(pe_callTy hc hg hm hv ha.pa hn hdb he hpl).weak fun σ H Q => red_cb hf⟩
def dLen : List D → Option D
  | [.str x] => some (.int x.length)
  | [.lst ds] => some (.int ds.length)
  | [.tup ds] => some (.int ds.length)
  | [.scr ns] => some (.int ns.length)
  | [.dk ks _] => some (.int ks.length)
  | _ => none
def rLenA (K : PySem.W.Frag) : List V → Hp → VK → Prop := fun xs H Q => (∃ x n, xs = [x] ∧ LenV K x H n ∧ Q (.int n) H) ∨ ∃ a kvs, xs = [.ref a] ∧ Rd H a (.dK kvs) ∧ Q (.int kvs.length) H
theorem call_lenA {X : Cx} : CallR X (.builtin "len") (rLenA X.K) := by
  intro pins s σ H xs us Q I r h
  rcases h with h | ⟨a, kvs, rfl, hd, q⟩
  · exact call_len pins s σ H xs us Q I r h
  · obtain ⟨u, rfl, rx⟩ := vals1 r
    obtain rfl : u = Value.ref a := rx
    exact d_len I hd fun t s' I' => ⟨.int kvs.length, H, I', ⟨t, rfl⟩, q⟩
theorem cd_len : CallD K (rLenA K) dLen := by
  intro pa S H p xs ds z Q s r h q
  cases r with
  | nil => cases h
  | cons r1 r2 =>
    cases r2 with
    | cons _ _ => cases r1 <;> cases h
    | nil =>
      cases r1 with
      | str x hx => cases h; exact .inl ⟨_, _, rfl, ⟨lim_sz hx, rfl⟩, q _ H (fun _ _ h => h) (.int _)⟩
      | lst h1 h2 => cases h; exact .inl ⟨_, _, rfl, .inl ⟨_, SqL.of (hid_sub _ _ h1), rfl⟩, by rw [h2.length]; exact q _ H (fun _ _ h => h) (.int _)⟩
      | tup h1 h2 => cases h; exact .inl ⟨_, _, rfl, .inr ⟨_, sameT hid_sub h1, rfl⟩, by rw [h2.length]; exact q _ H (fun _ _ h => h) (.int _)⟩
      | scr h1 => cases h; exact .inl ⟨_, _, rfl, .inl ⟨_, sameL hid_sub h1, rfl⟩, by rw [List.length_map]; exact q _ H (fun _ _ h => h) (.int _)⟩
      | dk h1 h2 h4 h3 =>
        cases h
        obtain ⟨a, kv, ea, g1, g2, g3, _⟩ := Rp.dk_inv (Rp.dk (pa := pa) h1 h2 h4 h3)
        cases ea
        refine .inr ⟨_, kv, rfl, sameR hid_sub g1, ?_⟩
        have e1 := g2.length
        rw [List.length_zip, g3, Nat.min_self] at e1
        rw [e1]
        exact q _ H (fun _ _ h => h) (.int _)
      | _ => cases h
def dAbs : List D → Option D
  | [.int i] => some (.int (if i < 0 then -i else i))
  | _ => none
theorem cd_abs : CallD K (fun xs H Q => ∃ i, xs = [.int i] ∧ Q (.int (if i < 0 then -i else i)) H) dAbs := by
  intro pa S H p xs ds z Q s r h q
  cases r with
  | nil => cases h
  | cons r1 r2 =>
    cases r2 with
    | cons _ _ => cases r1 <;> cases h
    | nil =>
      cases r1 with
      | int i => cases h; exact ⟨_, rfl, q _ H (fun _ _ h => h) (.int _)⟩
      | _ => cases h
def dInt : List D → Option D
  | [.int i] => some (.int i)
  | [.bl b] => some (.int (if b then 1 else 0))
  | _ => none
theorem cd_int : CallD K (fun xs H Q => (∃ i, xs = [.int i] ∧ Q (.int i) H) ∨ ∃ k, xs = [.bl k] ∧ Q (.int (if k then 1 else 0)) H) dInt := by
  intro pa S H p xs ds z Q s r h q
  cases r with
  | nil => cases h
  | cons r1 r2 =>
    cases r2 with
    | cons _ _ => cases r1 <;> cases h
    | nil =>
      cases r1 with
      | int i => cases h; exact .inl ⟨_, rfl, q _ H (fun _ _ h => h) (.int _)⟩
      | bl i => cases h; exact .inr ⟨_, rfl, q _ H (fun _ _ h => h) (.int _)⟩
      | _ => cases h
def asBls : List D → Option (List Bool)
  | [] => some []
  | .bl b :: ds => (asBls ds).map (b :: ·)
  | _ => none
theorem asBls_eq : ∀ {ds : List D} {bs : List Bool}, asBls ds = some bs → ds = bs.map D.bl
  | [], _, h => by cases h; rfl
  | d :: ds, bs, h => by
    cases d with
    | bl b =>
      simp only [asBls] at h
      cases e : asBls ds with
      | none => rw [e] at h; cases h
      | some cs => rw [e] at h; cases h; rw [asBls_eq e]; rfl
    | _ => cases h
def asStrs : List D → Option (List Str)
  | [] => some []
  | .str b :: ds => (asStrs ds).map (b :: ·)
  | _ => none
theorem asStrs_eq : ∀ {ds : List D} {bs : List Str}, asStrs ds = some bs → ds = bs.map D.str
  | [], _, h => by cases h; rfl
  | d :: ds, bs, h => by
    cases d with
    | str b =>
      simp only [asStrs] at h
      cases e : asStrs ds with
      | none => rw [e] at h; cases h
      | some cs => rw [e] at h; cases h; rw [asStrs_eq e]; rfl
    | _ => cases h
@[simp] theorem asBls_map : ∀ bs : List Bool, asBls (bs.map D.bl) = some bs
  | [] => rfl
  | b :: bs => by simp [asBls, asBls_map bs]
@[simp] theorem asStrs_map : ∀ bs : List Str, asStrs (bs.map D.str) = some bs
  | [] => rfl
  | b :: bs => by simp [asStrs, asStrs_map bs]
def dAll : List D → Option D
  | [.lst ds] => (asBls ds).map fun bs => .bl (bs.all id)
  | _ => none
def dAny : List D → Option D
  | [.lst ds] => (asBls ds).map fun bs => .bl (bs.any id)
  | _ => none
theorem cd_all : CallD K (rAll K) dAll := by
  intro pa S H p xs ds z Q s r h q
  cases r with
  | nil => cases h
  | cons r1 r2 =>
    cases r2 with
    | cons _ _ => cases r1 <;> cases h
    | nil =>
      cases r1 with
      | @lst a vs ds h1 h2 =>
        simp only [dAll] at h
        cases e : asBls ds with
        | none => rw [e] at h; cases h
        | some bs =>
          rw [e] at h
          cases h
          rw [asBls_eq e] at h2
          rw [h2.bls_of] at h1
          exact ⟨_, bs, rfl, SqL.of (hid_sub _ _ h1), q _ H (fun _ _ h => h) (.bl _)⟩
      | _ => cases h
def dTuple : List D → Option D
  | [.lst ds] => some (.tup ds)
  | [.tup ds] => some (.tup ds)
  | _ => none
theorem cd_tuple : CallD K (fun xs H Q => ∃ p ys, xs = [.ref p] ∧ ((SqL K H p ys ∧ ∀ l, H l = none → Q (.ref l) (upd H l (.tup ys))) ∨ (SqT K H p ys ∧ Q (.ref p) H))) dTuple := by
  intro pa S H p xs ds z Q s r h q
  cases r with
  | nil => cases h
  | cons r1 r2 =>
    cases r2 with
    | cons _ _ => cases r1 <;> cases h
    | nil =>
      cases r1 with
      | lst h1 h2 => cases h; exact ⟨_, _, rfl, .inl ⟨SqL.of (hid_sub _ _ h1), fun l n => q _ _ (same_upd n) (Rp.newT s h2 n)⟩⟩
      | tup h1 h2 => cases h; exact ⟨_, _, rfl, .inr ⟨sameT hid_sub h1, q _ H (fun _ _ h => h) (.tup h1 h2)⟩⟩
      | _ => cases h
def dDivmod : List D → Option D
  | [.int i, .int j] => if (decide (0 < j) && decide (j < 1073741824)) = true then some (.tup [.int (i / j), .int (i % j)]) else none
  | _ => none
theorem cd_divmod : CallD K (fun xs H Q => ∃ i j, xs = [.int i, .int j] ∧ CDiv i j ∧ ∀ p, H p = none → Q (.ref p) (upd H p (.tup [.int (i / j), .int (i % j)]))) dDivmod := by
  intro pa S H p xs ds z Q s r h q
  cases r with
  | nil => cases h
  | cons r1 r2 =>
    cases r2 with
    | nil => cases r1 <;> cases h
    | cons r3 r4 =>
      cases r4 with
      | cons _ _ => cases r1 <;> cases r3 <;> cases h
      | nil =>
        cases r1 with
        | int i =>
          cases r3 with
          | int j =>
            simp only [dDivmod] at h
            split at h
            · rename_i hc
              cases h
              rw [Bool.and_eq_true] at hc
              exact ⟨i, j, rfl, ⟨of_decide_eq_true hc.1, of_decide_eq_true hc.2⟩, fun l n => q _ _ (same_upd n) (Rp.newT s (.cons (.int _) (.cons (.int _) .nil)) n)⟩
            · cases h
          | _ => cases h
        | _ => cases h
def dMin2 : List D → Option D
  | [.int i, .int j] => some (.int (if j < i then j else i))
  | _ => none
def dMax2 : List D → Option D
  | [.int i, .int j] => some (.int (if j > i then j else i))
  | _ => none
theorem cd_min2 : CallD K (fun xs H Q => ∃ i j, xs = [.int i, .int j] ∧ Q (.int (if j < i then j else i)) H) dMin2 := by
  intro pa S H p xs ds z Q s r h q
  cases r with
  | nil => cases h
  | cons r1 r2 =>
    cases r2 with
    | nil => cases r1 <;> cases h
    | cons r3 r4 =>
      cases r4 with
      | cons _ _ => cases r1 <;> cases r3 <;> cases h
      | nil =>
        cases r1 with
        | int i =>
          cases r3 with
          | int j => cases h; exact ⟨i, j, rfl, q _ H (fun _ _ h => h) (.int _)⟩
          | _ => cases h
        | _ => cases h
theorem cd_max2 : CallD K (fun xs H Q => ∃ i j, xs = [.int i, .int j] ∧ Q (.int (if j > i then j else i)) H) dMax2 := by
  intro pa S H p xs ds z Q s r h q
  cases r with
  | nil => cases h
  | cons r1 r2 =>
    cases r2 with
    | nil => cases r1 <;> cases h
    | cons r3 r4 =>
      cases r4 with
      | cons _ _ => cases r1 <;> cases r3 <;> cases h
      | nil =>
        cases r1 with
        | int i =>
          cases r3 with
          | int j => cases h; exact ⟨i, j, rfl, q _ H (fun _ _ h => h) (.int _)⟩
          | _ => cases h
        | _ => cases h
end
end Dt
namespace Dt
variable [GTab]
open PySem PySem.Spec PyProof.Rows L2
open PySem.SeqAt (EqAt RcAt RcNeAt)
section
variable {X : Cx} {K : PySem.W.Frag}
theorem je_mt {T id : String} {name : Str} {rm : V → List V → Hp → VK → Prop} {f : D → List D → Option D} {o e : Expr} {es : List Expr} {mo : M} {ms : ML} {apos cpos : Pos} (pa : PlainAttrs T) (slot : Slot T name id) (hty : typeOf (.builtin id) = pure (.type "method_descriptor")) (hm : MtR X id rm) (hf : MtD X.K T rm f)
    (ht : ∀ pa S H x d ds z, Rp X.K pa (hid S H) x d → f d ds = some z → tyV X.K T x H) (ho : JE X o mo) (ha : JA X (e :: es) ms)
    (hbase : attributeBase o name X.env (eval o X.env) = eval o X.env := by rfl)
    (hfew : ((backTo cpos (starEach (e :: es) X.env)).all (fun x => !x.1) && (backToKw cpos (keywordEach [] X.env)).all (fun x => x.1.isSome) && decide ((e :: es).length + ([] : List Keyword).length + (if ([] : List Keyword).isEmpty then 0 else 1) < 30)) = true := by rfl)
    (hline : (apos.endLine == cpos.line) = true := by rfl) (hs : starEach (e :: es) X.env = (false, eval e X.env) :: starEach es X.env := by rfl) (hplain : (backTo cpos (starEach es X.env)).any (·.1) = false := by rfl) :
    JE X (.Call (.Attribute o name apos) (e :: es) [] cpos) (mMt f mo ms) :=
  ⟨(pe_bm pa slot hty hm ho.pe ha.pa hbase hfew hline hs hplain).weak fun σ H Q => red_mt1 hf ht⟩
theorem ty_str {f : D → List D → Option D} (hf : ∀ d ds z, f d ds = some z → ∃ x, d = .str x) : ∀ (pa : PAx) (S : Addr → Prop) (H : Hp) (x : V) (d : D) (ds : List D) (z : D), Rp K pa (hid S H) x d → f d ds = some z → tyV K "str" x H := by
  intro pa S H x d ds z r h
  obtain ⟨y, rfl⟩ := hf d ds z h
  cases r
  rfl
theorem ty_lst {f : D → List D → Option D} (hf : ∀ d ds z, f d ds = some z → ∃ x, d = .lst x) : ∀ (pa : PAx) (S : Addr → Prop) (H : Hp) (x : V) (d : D) (ds : List D) (z : D), Rp K pa (hid S H) x d → f d ds = some z → tyV K "list" x H := by
  intro pa S H x d ds z r h
  obtain ⟨y, rfl⟩ := hf d ds z h
  cases r with
  | lst h1 h2 => exact .inl ⟨rfl, _, SqL.of (hid_sub _ _ h1)⟩
/-- split, join, startswith, removeprefix, partition -/
def dSplit : D → List D → Option D
  | .str a, [.str b] => if (b.length == 0) = false then some (.lst ((Txt.split a b).map .str)) else none
  | _, _ => none
theorem md_split : MtD K "str" (fun x xs H Q => ∃ a b, x = .str a ∧ xs = [.str b] ∧ (b.length == 0) = false ∧ a.length + 2 ≤ sizeLine ∧ rNewStrs (Txt.split a b) H Q) dSplit := by
  intro pa S H p x xs d ds z Q s rx rxs h q
  unfold dSplit at h
  split at h
  · rename_i a b
    split at h
    · rename_i hb
      cases h
      cases rx with
      | str _ ha =>
        cases rxs with
        | cons r1 r2 =>
          cases r2
          cases r1
          refine ⟨a, b, rfl, rfl, hb, by have := lim_lt; omega, fun l n => q _ _ (same_upd n) (Rp.newL s (RpL.strs _ fun y hy => Nat.le_trans (part_short hy) ha) n)⟩
    · cases h
  · cases h
theorem dSplit_str {d : D} {ds : List D} {z : D} (h : dSplit d ds = some z) : ∃ x, d = .str x := by
  unfold dSplit at h
  split at h
  · exact ⟨_, rfl⟩
  · cases h
def strsOf : D → Option (List Str)
  | .lst ds => asStrs ds
  | .tup ds => asStrs ds
  | _ => none
def joinSz (a : Str) (ys : List Str) : Nat := (ys.map (·.length)).sum + ys.length * a.length
def dJoin : D → List D → Option D
  | .str a, [d] => match strsOf d with | some ys => if joinSz a ys ≤ lim then some (.str (Txt.join a ys)) else none | none => none
  | _, _ => none
theorem joinLen (y : Str) : ∀ parts : List Str, (Str.join y parts).length ≤ joinSz y parts
  | [] => Nat.zero_le _
  | [x] => by simp [Str.join, joinSz]
  | x :: z :: r => by
    have ih := joinLen y (z :: r)
    show (x ++ y ++ Str.join y (z :: r)).length ≤ _
    rw [str_app_len, str_app_len]
    unfold joinSz at *
    simp only [List.map_cons, List.sum_cons, List.length_cons, Nat.add_mul, Nat.one_mul] at *
    omega
theorem md_join : MtD K "str" (fun x xs H Q => ∃ a p, ∃ ys : List Str, x = .str a ∧ xs = [.ref p] ∧ (SqL K H p (ys.map V.str) ∨ SqT K H p (ys.map V.str)) ∧ (ys.map (·.length)).sum + ys.length * a.length ≤ 16777216 ∧ Q (.str (Txt.join a ys)) H) dJoin := by
  intro pa S H p x xs d ds z Q s rx rxs h q
  unfold dJoin at h
  split at h
  · rename_i a d1
    split at h
    · rename_i ys e
      split at h
      · rename_i hl
        cases h
        cases rx with
        | str _ ha =>
          cases rxs with
          | cons r1 r2 =>
            cases r2
            have hz : (ys.map (·.length)).sum + ys.length * a.length ≤ 16777216 := by
              have h1 : joinSz a ys ≤ lim := hl
              have h2 := lim_lt
              rw [sizeLine_eq] at h2
              unfold joinSz at h1
              omega
            have fin := q (.str (Txt.join a ys)) H (fun _ _ h => h) (.str _ (by rw [TL.join_eq]; exact Nat.le_trans (joinLen a ys) hl))
            cases r1 with
            | lst h1 h2 =>
              rw [asStrs_eq (show asStrs _ = some ys from e)] at h2
              rw [h2.strs_of] at h1
              exact ⟨a, _, ys, rfl, rfl, .inl (SqL.of (hid_sub _ _ h1)), hz, fin⟩
            | tup h1 h2 =>
              rw [asStrs_eq (show asStrs _ = some ys from e)] at h2
              rw [h2.strs_of] at h1
              exact ⟨a, _, ys, rfl, rfl, .inr (sameT hid_sub h1), hz, fin⟩
            | _ => cases e
      · cases h
    · cases h
  · cases h
theorem dJoin_str {d : D} {ds : List D} {z : D} (h : dJoin d ds = some z) : ∃ x, d = .str x := by
  unfold dJoin at h
  split at h
  · exact ⟨_, rfl⟩
  · cases h
def dStarts : D → List D → Option D
  | .str a, [.str b] => some (.bl (Txt.startswith a b))
  | _, _ => none
theorem md_starts : MtD K "str" (fun x xs H Q => ∃ a b, x = .str a ∧ xs = [.str b] ∧ Q (.bl (Txt.startswith a b)) H) dStarts := by
  intro pa S H p x xs d ds z Q s rx rxs h q
  unfold dStarts at h
  split at h
  · cases h
    cases rx
    cases rxs with
    | cons r1 r2 => cases r2; cases r1; exact ⟨_, _, rfl, rfl, q _ H (fun _ _ h => h) (.bl _)⟩
  · cases h
theorem dStarts_str {d : D} {ds : List D} {z : D} (h : dStarts d ds = some z) : ∃ x, d = .str x := by
  unfold dStarts at h
  split at h
  · exact ⟨_, rfl⟩
  · cases h
theorem dIndex_lst {d : D} {ds : List D} {z : D} (h : dIndex d ds = some z) : ∃ x, d = .lst x := by
  unfold dIndex at h
  split at h
  · exact ⟨_, rfl⟩
  · cases h
theorem dCount_lst {d : D} {ds : List D} {z : D} (h : dCount d ds = some z) : ∃ x, d = .lst x := by
  unfold dCount at h
  split at h
  · exact ⟨_, rfl⟩
  · cases h
variable {o e : Expr} {mo : M} {ms : ML} {apos cpos : Pos}
theorem je_split (ho : JE X o mo) (ha : JA X [e] ms) (hbase : attributeBase o "split" X.env (eval o X.env) = eval o X.env := by rfl)
    (hfew : ((backTo cpos (starEach [e] X.env)).all (fun x => !x.1) && (backToKw cpos (keywordEach [] X.env)).all (fun x => x.1.isSome) && decide ([e].length + ([] : List Keyword).length + (if ([] : List Keyword).isEmpty then 0 else 1) < 30)) = true := by rfl)
    (hline : (apos.endLine == cpos.line) = true := by rfl) (hs : starEach [e] X.env = (false, eval e X.env) :: starEach [] X.env := by rfl) : JE X (.Call (.Attribute o "split" apos) [e] [] cpos) (mMt dSplit mo ms) :=
  je_mt PySem.F.plainAttrs_str PySem.F.slot_str_split PySem.F.type_str_split mt_split md_split (ty_str fun _ _ _ => dSplit_str) ho ha hbase hfew hline hs
theorem je_join (ho : JE X o mo) (ha : JA X [e] ms) (hbase : attributeBase o "join" X.env (eval o X.env) = eval o X.env := by rfl)
    (hfew : ((backTo cpos (starEach [e] X.env)).all (fun x => !x.1) && (backToKw cpos (keywordEach [] X.env)).all (fun x => x.1.isSome) && decide ([e].length + ([] : List Keyword).length + (if ([] : List Keyword).isEmpty then 0 else 1) < 30)) = true := by rfl)
    (hline : (apos.endLine == cpos.line) = true := by rfl) (hs : starEach [e] X.env = (false, eval e X.env) :: starEach [] X.env := by rfl) : JE X (.Call (.Attribute o "join" apos) [e] [] cpos) (mMt dJoin mo ms) :=
  je_mt PySem.F.plainAttrs_str PySem.F.slot_str_join PySem.F.type_str_join mt_join md_join (ty_str fun _ _ _ => dJoin_str) ho ha hbase hfew hline hs
theorem je_index (hu : X.A.units + 64 < cLine) (ho : JE X o mo) (ha : JA X [e] ms) (hbase : attributeBase o "index" X.env (eval o X.env) = eval o X.env := by rfl)
    (hfew : ((backTo cpos (starEach [e] X.env)).all (fun x => !x.1) && (backToKw cpos (keywordEach [] X.env)).all (fun x => x.1.isSome) && decide ([e].length + ([] : List Keyword).length + (if ([] : List Keyword).isEmpty then 0 else 1) < 30)) = true := by rfl)
    (hline : (apos.endLine == cpos.line) = true := by rfl) (hs : starEach [e] X.env = (false, eval e X.env) :: starEach [] X.env := by rfl) : JE X (.Call (.Attribute o "index" apos) [e] [] cpos) (mMt dIndex mo ms) :=
  je_mt PySem.F.plainAttrs_list PySem.F.slot_list_index PySem.F.type_list_index (mt_indexX' hu) md_index (ty_lst fun _ _ _ => dIndex_lst) ho ha hbase hfew hline hs
theorem je_count (hu : X.A.units + 64 < cLine) (ho : JE X o mo) (ha : JA X [e] ms) (hbase : attributeBase o "count" X.env (eval o X.env) = eval o X.env := by rfl)
    (hfew : ((backTo cpos (starEach [e] X.env)).all (fun x => !x.1) && (backToKw cpos (keywordEach [] X.env)).all (fun x => x.1.isSome) && decide ([e].length + ([] : List Keyword).length + (if ([] : List Keyword).isEmpty then 0 else 1) < 30)) = true := by rfl)
    (hline : (apos.endLine == cpos.line) = true := by rfl) (hs : starEach [e] X.env = (false, eval e X.env) :: starEach [] X.env := by rfl) : JE X (.Call (.Attribute o "count" apos) [e] [] cpos) (mMt dCount mo ms) :=
  je_mt PySem.F.plainAttrs_list PySem.F.slot_list_count PySem.F.type_list_count (mt_countX hu) md_count (ty_lst fun _ _ _ => dCount_lst) ho ha hbase hfew hline hs
end
def tyName : D → Option String
  | .non => some "NoneType" | .bl _ => some "bool" | .int _ => some "int" | .str _ => some "str" | .lst _ => some "list" | .tup _ => some "tuple" | _ => none
def dIsi (T : String) (d : D) : Option D := match tyName d with | some t => (kitB t T).map .bl | none => none
def mIsi (T : String) (a : M) : M := fun r p => bnd (a r p) fun x p => lft (dIsi T x) p
section
variable {X : Cx} {K : PySem.W.Frag}
theorem sqT_ty {H : Hp} {a : Addr} {xs : List V} (h : SqT K H a xs) : TyX K H (.ref a) (.type "tuple") := by
  rcases h with (h | ⟨o, h⟩) | ⟨o, its, n, h, hc, _⟩
  · exact .base (.tup h)
  · exact .fTuple h
  · exact .kTuple h hc
abbrev MF := List D → List Int → MR D
def spM (K : PySem.W.Frag) (n : Nat) (m : MF) : Sp := fun vs H Q _ => ∃ pa S p ds d p', Sta pa S H p ∧ RpL K pa (hid S H) vs ds ∧ ds.length = n ∧ m ds p = some (d, p') ∧ PostE K pa S H p' d Q
def mCall (n : Nat) (m : MF) (a : ML) : M := fun r p => bnd (a r p) fun ds p => if ds.length = n then m ds p else none
theorem red_call {n : Nat} {m : MF} {a : ML} {σ : L2.St} {H : Hp} {Q : VK} {E : XK} (h : tM K (mCall n m a) σ H Q) : tCall (spM K n m) [] E (tML K a) σ H Q := by
  obtain ⟨pa, S, r, p, d, p', c, e, q⟩ := h
  obtain ⟨ds, p1, e1, e⟩ := bnd_some e
  split at e
  · rename_i hn
    refine ⟨pa, S, r, p, ds, p1, c, e1, fun vs H1 x1 s1 r1 => ?_⟩
    refine ⟨pa, S, p1, ds, d, p', s1, ?_, hn, e, q.after c x1⟩
    rw [List.append_nil]
    exact r1
  · cases e
section
variable {k n : Nat} {f : Addr} {fd : FuncData} {ps : List Str} {m : MF} {x : Str} {p pos : Pos} {e : Expr} {es : List Expr} {ms : ML}
theorem je_call (F : FnOk X.prog X.w X.K X.mg X.base CX0 k f fd ps (spM X.K n m)) (hr : Room k X.A) (hm : X.mg x = some (.ref f)) (hk : PySem.W.keepIn X.K (.ref f) = true) (hb : Binds X.K fd ps []) (ha : JA X (e :: es) ms) (hg : Gl X x := by rfl) (hdb : (x == ("__debug__" : Str)) = false := by decide)
    (he : starEach (e :: es) X.env = (false, eval e X.env) :: starEach es X.env := by rfl) (hpl : (backTo pos (starEach es X.env)).any (·.1) = false := by rfl) : JE X (.Call (.Name x p) (e :: es) [] pos) (mCall n m ms) :=
  ⟨(pe_call F hr hg hm hk hb .nil pass0 ha.pa hdb he hpl).weak fun σ H Q => red_call⟩
end
end
end Dt
namespace Dt
variable [GTab]
open PySem PySem.Spec PyProof.Rows L2
structure ItOk (K : PySem.W.Frag) (pa : PAx) (S : Addr → Prop) (H1 : Hp) (J : It) (ds : List D) : Prop where
  go : ∀ (i : Nat) (S2 : Addr → Prop) (H2 : Hp), Same (hid S H1) (hid S2 H2) → (∀ a, S2 a → ∃ o, H2 a = some o) → i < ds.length → J.go i H2
  yld : ∀ (i : Nat) (S2 : Addr → Prop) (H2 : Hp) (x : V) (H3 : Hp), Same (hid S H1) (hid S2 H2) → (∀ a, S2 a → ∃ o, H2 a = some o) → i < ds.length → J.yld i H2 x H3 → Same H2 H3 ∧ ∃ d, ds[i]? = some d ∧ Rp K pa (hid S2 H3) x d
  stop : ∀ (i : Nat) (S2 : Addr → Prop) (H2 : Hp), Same (hid S H1) (hid S2 H2) → (∀ a, S2 a → ∃ o, H2 a = some o) → ds.length ≤ i → J.stop i H2
def IterD (K : PySem.W.Frag) (wi : TI) (m : ML) : Prop := ∀ (pa : PAx) (S : Addr → Prop) (σ : L2.St) (H : Hp) (r : Ev) (p : List Int) (ds : List D) (p' : List Int) (R : It → Hp → Prop), Cn K pa S σ H r p → m r p = some (ds, p') →
  (∀ J H1, Ext pa H H1 → Sta pa S H1 p' → ItOk K pa S H1 J ds → R J H1) → wi σ H R
structure JI (X : Cx) (tg iter : Expr) (m : ML) : Prop where ex : ∃ wi, PI X tg iter wi ∧ IterD X.K wi m
theorem _root_.L2.PI.orW {X : Cx} {tg iter : Expr} {w1 w2 : TI} (h1 : PI X tg iter w1) (h2 : PI X tg iter w2) : PI X tg iter (fun σ H R => w1 σ H R ∨ w2 σ H R) := ⟨fun pins s σ H R I q => by
  rcases q with q | q
  · exact h1.run pins s σ H R I q
  · exact h2.run pins s σ H R I q⟩
section
variable {K : PySem.W.Frag} {pa : PAx} {S : Addr → Prop} {H : Hp}
theorem itOk_lst {a : Addr} {xs : List V} {ds : List D} (h : SqL K (hid S H) a xs) (r : RpL K pa (hid S H) xs ds) : ItOk K pa S H (Itl K a) ds where
  go := fun i S2 H2 e t hi => by
    obtain ⟨v, h1, _⟩ := r.get (List.getElem?_eq_getElem hi)
    exact ⟨xs, v, sameL hid_sub (sameL e h), h1⟩
  yld := fun i S2 H2 x H3 e t hi hy => by
    obtain ⟨rfl, hx⟩ := hy
    have h1 := hx xs (sameL hid_sub (sameL e h))
    obtain ⟨d, h2, h3⟩ := r.getV h1
    exact ⟨fun _ _ h => h, d, h2, Rp.mono e _ _ h3⟩
  stop := fun i S2 H2 e t hi => ⟨xs, sameL hid_sub (sameL e h), by rw [r.length]; exact hi⟩
theorem itOk_tup {a : Addr} {xs : List V} {ds : List D} (h : SqT K (hid S H) a xs) (r : RpL K pa (hid S H) xs ds) : ItOk K pa S H (Itt K a) ds where
  go := fun i S2 H2 e t hi => by
    obtain ⟨v, h1, _⟩ := r.get (List.getElem?_eq_getElem hi)
    exact ⟨xs, v, sameT hid_sub (sameT e h), h1⟩
  yld := fun i S2 H2 x H3 e t hi hy => by
    obtain ⟨rfl, hx⟩ := hy
    have h1 := hx xs (sameT hid_sub (sameT e h))
    obtain ⟨d, h2, h3⟩ := r.getV h1
    exact ⟨fun _ _ h => h, d, h2, Rp.mono e _ _ h3⟩
  stop := fun i S2 H2 e t hi => ⟨xs, sameT hid_sub (sameT e h), by rw [r.length]; exact hi⟩
def chars (x : Str) : List D := x.cps.toList.map fun c => .str ⟨#[c]⟩
theorem itOk_str {x : Str} : ItOk K pa S H (Its x) (chars x) where
  go := fun i S2 H2 e t hi => by
    show i < x.cps.size
    simpa [chars] using hi
  yld := fun i S2 H2 v H3 e t hi hy => by
    obtain ⟨rfl, c, hc, rfl⟩ := hy
    refine ⟨fun _ _ h => h, .str ⟨#[c]⟩, ?_, .str _ one_le_lim⟩
    unfold chars
    rw [List.getElem?_map]
    have : x.cps.toList[i]? = some c := by simpa using hc
    rw [this]
    rfl
  stop := fun i S2 H2 e t hi => by
    show x.cps.size ≤ i
    simpa [chars] using hi
def rngD (lo : Int) (n : Nat) : List D := (List.range n).map fun (i : Nat) => .int (lo + (i : Int))
theorem itOk_rng {lo : Int} {n : Nat} : ItOk K pa S H (Itr lo n) (rngD lo n) where
  go := fun i S2 H2 e t hi => by
    show i < n
    simpa [rngD] using hi
  yld := fun i S2 H2 v H3 e t hi hy => by
    obtain ⟨rfl, rfl⟩ := hy
    refine ⟨fun _ _ h => h, .int (lo + (i : Int)), ?_, .int _⟩
    have : i < n := by simpa [rngD] using hi
    unfold rngD
    rw [List.getElem?_map, List.getElem?_range this]
    rfl
  stop := fun i S2 H2 e t hi => by
    show n ≤ i
    simpa [rngD] using hi
end
def itemsOf : D → Option (List D)
  | .lst ds => some ds | .tup ds => some ds | .scr ns => some (ns.map .int) | .str x => some (chars x) | _ => none
def mItems (m : M) : ML := fun r p => bnd (m r p) fun x p => lft (itemsOf x) p
section
variable {X : Cx} {tg : Expr}
theorem ji_e {e : Expr} {me : M} (he : JE X e me) : JI X tg e (mItems me) := ⟨_, (pi_list he.pe).orW ((pi_tup he.pe).orW (pi_str he.pe)), fun pa S σ H r p ds p' R c e q => by
  obtain ⟨x, p1, e1, e⟩ := bnd_some e
  obtain ⟨z, e2, rfl, rfl⟩ := lft_eq e
  have step : ∀ Q : VK, (∀ v H', Ext pa H H' → Sta pa S H' p1 → Rp X.K pa (hid S H') v x → Q v H') → tM X.K me σ H Q := fun Q hq => ⟨pa, S, r, p, x, p1, c, e1, hq⟩
  cases x with
  | lst ds =>
    cases e2
    refine .inl (step _ fun v H1 x1 s1 r1 => ?_)
    cases r1 with
    | @lst a xs _ h1 h2 => exact ⟨a, rfl, ⟨xs, SqL.of (hid_sub _ _ h1)⟩, q _ H1 x1 s1 (itOk_lst (SqL.of h1) h2)⟩
  | tup ds =>
    cases e2
    refine .inr (.inl (step _ fun v H1 x1 s1 r1 => ?_))
    cases r1 with
    | @tup a xs _ h1 h2 => exact ⟨a, rfl, ⟨xs, sameT hid_sub h1⟩, q _ H1 x1 s1 (itOk_tup h1 h2)⟩
  | scr ns =>
    cases e2
    refine .inl (step _ fun v H1 x1 s1 r1 => ?_)
    cases r1 with
    | @scr a _ h1 => exact ⟨a, rfl, ⟨_, sameL hid_sub h1⟩, q _ H1 x1 s1 (itOk_lst h1 (RpL.ints ns))⟩
  | str x =>
    cases e2
    refine .inr (.inr (step _ fun v H1 x1 s1 r1 => ?_))
    cases r1 with
    | str _ _ => exact ⟨x, rfl, q _ H1 x1 s1 itOk_str⟩
  | _ => cases e2⟩
/-- range(a), range(a, b) -/
def rngOk (n : Int) : Bool := decide (-(2 ^ 62) ≤ n) && decide (n < 2 ^ 62)
def mRng1 (a : ML) : ML := fun r p => bnd (a r p) fun xs p => match xs with
  | [.int n] => if rngOk n = true then some (rngD 0 n.toNat, p) else none
  | _ => none
def mRng2 (a : ML) : ML := fun r p => bnd (a r p) fun xs p => match xs with
  | [.int m, .int n] => if (rngOk m && rngOk n) = true then some (rngD m (n - m).toNat, p) else none
  | _ => none
theorem rngOk_iff {n : Int} (h : rngOk n = true) : -(2 ^ 62) ≤ n ∧ n < 2 ^ 62 := by
  unfold rngOk at h
  rw [Bool.and_eq_true] at h
  exact ⟨of_decide_eq_true h.1, of_decide_eq_true h.2⟩
theorem RpL.one {K : PySem.W.Frag} {pa : PAx} {H : Hp} {vs : List V} {d : D} (h : RpL K pa H vs [d]) : ∃ v, vs = [v] ∧ Rp K pa H v d := by
  cases h with
  | cons h1 h2 => cases h2; exact ⟨_, rfl, h1⟩
theorem RpL.two {K : PySem.W.Frag} {pa : PAx} {H : Hp} {vs : List V} {d e : D} (h : RpL K pa H vs [d, e]) : ∃ v w, vs = [v, w] ∧ Rp K pa H v d ∧ Rp K pa H w e := by
  cases h with
  | cons h1 h2 =>
    cases h2 with
    | cons h3 h4 => cases h4; exact ⟨_, _, rfl, h1, h3⟩
theorem ji_rng1 {a : Expr} {ma : ML} {p pos : Pos} (ha : JA X [a] ma) (hm : X.mg "range" = none) (hg : Gl X "range" := by rfl) (hs : starEach [a] X.env = [(false, eval a X.env)] := by rfl) : JI X tg (.Call (.Name "range" p) [a] [] pos) (mRng1 ma) :=
  ⟨_, pi_range1 hg hm ha.pa hs, fun pa S σ H r p ds p' R c e q => by
    obtain ⟨xs, p1, e1, e⟩ := bnd_some e
    refine ⟨pa, S, r, p, xs, p1, c, e1, fun vs H1 x1 s1 r1 => ?_⟩
    split at e
    · rename_i n
      split at e
      · rename_i hr
        obtain ⟨rfl, rfl⟩ := pr e
        obtain ⟨v, rfl, rv⟩ := r1.one
        cases rv
        exact ⟨n, rfl, (rngOk_iff hr).1, (rngOk_iff hr).2, q _ H1 x1 s1 itOk_rng⟩
      · cases e
    · cases e⟩
/-- enumerate(a list) -/
def enumD (ds : List D) : List D := ds.zipIdx.map fun x => .tup [.int (x.2 : Nat), x.1]
def mEnum (a : ML) : ML := fun r p => bnd (a r p) fun xs p => match xs with
  | [.lst ds] => some (enumD ds, p)
  | _ => none
/-- zip of two lists, of two tuples -/
def zipD (ds es : List D) : List D := List.zipWith (fun a b => .tup [a, b]) ds es
def mZip (a : ML) : ML := fun r p => bnd (a r p) fun xs p => match xs with
  | [.lst ds, .lst es] => some (zipD ds es, p)
  | [.tup ds, .tup es] => some (zipD ds es, p)
  | _ => none
end
/-- the target's slots are ts; the data go into the map -/
structure TgD (K : PySem.W.Frag) (g : TG) (ts : List Nat) (mg : D → Ev → Option Ev) : Prop where
  run : ∀ (pa : PAx) (S : Addr → Prop) (σ : L2.St) (H : Hp) (r : Ev) (x : V) (d : D) (r' : Ev) (Q : L2.St → Hp → Prop), EnvE K pa (hid S H) σ r → Rp K pa (hid S H) x d → mg d r = some r' →
    (∀ σ', EnvE K pa (hid S H) σ' r' → (∀ j, j ∉ ts → σ'[j]? = σ[j]?) → Q σ' H) → g x σ H Q
  keep : ∀ d r r', mg d r = some r' → r'.length = r.length ∧ ∀ j, j ∉ ts → r'[j]? = r[j]?
def gN (i : Nat) : D → Ev → Option Ev := fun d r => if i < r.length then some (r.set i (some d)) else none
theorem EnvE.set {K : PySem.W.Frag} {pa : PAx} {H : Hp} {σ : L2.St} {r : Ev} (e : EnvE K pa H σ r) {x : V} {d : D} (i : Nat) (h : Rp K pa H x d) : EnvE K pa H (σ.set i (some x)) (r.set i (some d)) := by
  refine ⟨by rw [List.length_set, List.length_set]; exact e.len, fun j d' hj => ?_⟩
  by_cases hij : i = j
  · subst hij
    by_cases hi : i < r.length
    · rw [List.getElem?_set_self hi] at hj
      cases hj
      exact ⟨x, List.getElem?_set_self (by rw [e.len]; exact hi), h⟩
    · rw [List.getElem?_eq_none (by rw [List.length_set]; omega)] at hj
      cases hj
  · rw [List.getElem?_set_ne hij] at hj
    obtain ⟨v, h1, h2⟩ := e.at_ j d' hj
    exact ⟨v, by rw [List.getElem?_set_ne hij]; exact h1, h2⟩
theorem tg_name {K : PySem.W.Frag} (i : Nat) : TgD K (gName i) [i] (gN i) where
  run := fun pa S σ H r x d r' Q e h m q => by
    unfold gN at m
    split at m
    · cases m
      refine q _ (e.set i h) fun j hj => ?_
      rw [List.getElem?_set_ne (fun z => hj (by rw [z]; exact List.mem_singleton.mpr rfl))]
    · cases m
  keep := fun d r r' m => by
    unfold gN at m
    split at m
    · cases m
      refine ⟨List.length_set .., fun j hj => ?_⟩
      rw [List.getElem?_set_ne (fun z => hj (by rw [z]; exact List.mem_singleton.mpr rfl))]
    · cases m
end Dt
namespace Dt
variable [GTab]
open PySem PySem.Spec PyProof.Rows L2
def lcGo (mg : D → Ev → Option Ev) (mt : MB) (me : M) (r0 : Ev) : List D → List Int → MR (List D)
  | [], p => some ([], p)
  | d :: ds, p => match mg d r0 with
    | none => none
    | some r1 => bnd (mt r1 p) fun b p => if b = true then bnd (me r1 p) fun y p => bnd (lcGo mg mt me r0 ds p) fun ys p => some (y :: ys, p) else lcGo mg mt me r0 ds p
def wipeR (r : Ev) : List Nat → Ev
  | [] => r
  | v :: vs => (wipeR r vs).set v none
theorem wipeR_len (r : Ev) : ∀ vs : List Nat, (wipeR r vs).length = r.length
  | [] => rfl
  | v :: vs => by unfold wipeR; rw [List.length_set, wipeR_len r vs]
def mLc (vs : List Nat) (mi : ML) (mg : D → Ev → Option Ev) (mt : MB) (me : M) : ML := fun r p => bnd (mi r p) fun ds p => if ds.length ≤ lim then lcGo mg mt me (wipeR r vs) ds p else none
theorem wipe_in {σ : L2.St} {j : Nat} : ∀ {vs : List Nat}, j ∈ vs → j < σ.length → (wipe σ vs)[j]? = some none
  | [], h, _ => by cases h
  | v :: vs, h, hj => by
    unfold wipe
    by_cases hv : v = j
    · subst hv
      rw [List.getElem?_set_self (by rw [wipe_length]; exact hj)]
    · rw [List.getElem?_set_ne hv]
      rcases List.mem_cons.mp h with q | q
      · exact absurd q.symm hv
      · exact wipe_in q hj
theorem wipe_same {σ τ : L2.St} {vs : List Nat} (hl : τ.length = σ.length) (h : ∀ j, j ∉ vs → τ[j]? = σ[j]?) : wipe τ vs = wipe σ vs := by
  apply List.ext_getElem?
  intro j
  by_cases hj : j ∈ vs
  · by_cases hlt : j < σ.length
    · rw [wipe_in hj hlt, wipe_in hj (by rw [hl]; exact hlt)]
    · rw [List.getElem?_eq_none (by rw [wipe_length]; omega), List.getElem?_eq_none (by rw [wipe_length]; omega)]
  · rw [wipe_out hj, wipe_out hj]
    exact h j hj
theorem EnvE.wipe {K : PySem.W.Frag} {pa : PAx} {H : Hp} {σ : L2.St} {r : Ev} (e : EnvE K pa H σ r) : ∀ vs : List Nat, EnvE K pa H (wipe σ vs) (wipeR r vs)
  | [] => e
  | v :: vs => by
    have ih := EnvE.wipe e vs
    refine ⟨by show (List.set _ _ _).length = (List.set _ _ _).length; rw [List.length_set, List.length_set]; exact ih.len, fun j d hj => ?_⟩
    unfold wipeR at hj
    by_cases hv : v = j
    · subst hv
      by_cases hlt : v < (wipeR r vs).length
      · rw [List.getElem?_set_self hlt] at hj; cases hj
      · rw [List.getElem?_eq_none (by rw [List.length_set]; omega)] at hj; cases hj
    · rw [List.getElem?_set_ne hv] at hj
      obtain ⟨x, h1, h2⟩ := ih.at_ j d hj
      exact ⟨x, by unfold L2.wipe; rw [List.getElem?_set_ne hv]; exact h1, h2⟩
/-- a new list: nothing else knows it -/
def tF (K : PySem.W.Frag) (m : ML) : TE := fun σ H Q => ∃ pa S r p ds p', Cn K pa S σ H r p ∧ m r p = some (ds, p') ∧ ∀ a xs H', Ext pa H H' → Sta pa S H' p' → H a = none → H' a = some (.lst xs) → RpL K pa (hid (fun b => S b ∨ b = a) H') xs ds → Q (.ref a) H'
structure JF (X : Cx) (e : Expr) (m : ML) : Prop where pe : PE X e (tF X.K m)
def mOfF (m : ML) : M := fun r p => bnd (m r p) fun ds p => some (.lst ds, p)
theorem red_ofF {K : PySem.W.Frag} {m : ML} {σ : L2.St} {H : Hp} {Q : VK} (h : tM K (mOfF m) σ H Q) : tF K m σ H Q := by
  obtain ⟨pa, S, r, p, d, p', c, e, q⟩ := h
  obtain ⟨ds, p1, e1, e⟩ := bnd_some e
  obtain ⟨rfl, rfl⟩ := pr e
  refine ⟨pa, S, r, p, ds, p1, c, e1, fun a xs H' x s ha h' r' => ?_⟩
  refine q _ H' x s (.lst (hid_of (c.sta.new ha) h') (RpL.mono (fun b o hb => ?_) _ _ r'))
  obtain ⟨n, hb⟩ := of_hid hb
  exact hid_of (fun z => n (.inl z)) hb
theorem JF.je {X : Cx} {e : Expr} {m : ML} (h : JF X e m) : JE X e (mOfF m) := ⟨h.pe.weak fun σ H Q => red_ofF⟩
theorem sub_hid {S : Addr → Prop} {H H' : Hp} {a : Addr} (n : H a = none) (e : Same (hid S H) (hid S H')) : Same (hid S H) (hid (fun b => S b ∨ b = a) H') := fun b o hb => by
  obtain ⟨n1, h1⟩ := of_hid hb
  refine hid_of (fun z => ?_) (of_hid (e b o hb)).2
  rcases z with z | z
  · exact n1 z
  · rw [z, n] at h1; cases h1
section
variable {K : PySem.W.Frag} {wi : TI} {g : TG} {ts vs : List Nat} {mi : ML} {mg : D → Ev → Option Ev} {mt : MB} {me : M}
theorem red_lc0 {pa : PAx} {S : Addr → Prop} {r : Ev} {p p1 p2 : List Int} {ds ys : List D} {σ : L2.St} {H : Hp} {Q : VK} (c : Cn K pa S σ H r p) (hi : ∀ R : It → Hp → Prop, (∀ J H1, Ext pa H H1 → Sta pa S H1 p1 → ItOk K pa S H1 J ds → R J H1) → wi σ H R) (hg : TgD K g ts mg) (hts : ∀ t ∈ ts, t ∈ vs)
    (hlim : ds.length ≤ lim) (e2 : lcGo mg mt me (wipeR r vs) ds p1 = some (ys, p2)) (q : ∀ a xs H', Ext pa H H' → Sta pa S H' p2 → H a = none → H' a = some (.lst xs) → RpL K pa (hid (fun b => S b ∨ b = a) H') xs ys → Q (.ref a) H') : tLc wi g (tMB K mt) (tM K me) vs σ H Q := by
    refine hi _ fun J H1 x1 s1 ok Dl hD => ?_
    have hSD : ¬ S Dl := s1.new hD
    have hpD : ¬ pa.mut Dl := s1.notpool hD
    -- the invariant
    refine ⟨fun i m Hh => ∃ acc dn pi rest, m = ds.length + 1 - i ∧ i ≤ ds.length ∧ Ext pa H1 Hh ∧ Sta pa (fun a => S a ∨ a = Dl) Hh pi ∧ Hh Dl = some (.lst acc) ∧ RpL K pa (hid (fun a => S a ∨ a = Dl) Hh) acc dn ∧ dn.length ≤ i ∧
      lcGo mg mt me (wipeR r vs) (ds.drop i) pi = some (rest, p2) ∧ dn ++ rest = ys, ⟨ds.length + 1, [], [], p1, ys, rfl, Nat.zero_le _, Ext.of (same_upd hD), s1.own _ hD, upd_same, .nil, Nat.le_refl _, by rw [List.drop_zero]; exact e2, rfl⟩, ?_⟩
    · rintro i m Hh ⟨acc, dn, pi, rest, rfl, hil, xh, sh, hDl, racc, hdn, elc, hys⟩
      have frame : Same (hid S H1) (hid (fun a => S a ∨ a = Dl) Hh) := fun b o hb => by
        obtain ⟨n, hb⟩ := of_hid hb
        refine hid_of (fun z => ?_) (xh b o (fun z => n (s1.mutS z)) hb)
        rcases z with z | z
        · exact n z
        · rw [z, hD] at hb; cases hb
      by_cases hlt : i < ds.length
      · refine .inr ⟨ok.go i _ Hh frame sh.trk hlt, fun H' => ∃ acc dn pi rest, Ext pa H1 H' ∧ Sta pa (fun a => S a ∨ a = Dl) H' pi ∧ H' Dl = some (.lst acc) ∧ RpL K pa (hid (fun a => S a ∨ a = Dl) H') acc dn ∧ dn.length ≤ i + 1 ∧
          lcGo mg mt me (wipeR r vs) (ds.drop (i + 1)) pi = some (rest, p2) ∧ dn ++ rest = ys, fun H' hN => ?_, fun x H' hy => ?_⟩
        · obtain ⟨acc', dn', pi', rest', a1, a2, a3, a4, a5, a6, a7⟩ := hN
          exact ⟨ds.length + 1 - (i + 1), by omega, acc', dn', pi', rest', rfl, hlt, a1, a2, a3, a4, a5, a6, a7⟩
        · obtain ⟨x2, d, hd, rd⟩ := ok.yld i _ Hh x H' frame sh.trk hlt hy
          have hdrop : ds.drop i = d :: ds.drop (i + 1) := by
            rw [List.drop_eq_getElem_cons hlt]
            rw [List.getElem?_eq_getElem hlt] at hd
            rw [Option.some.inj hd]
          rw [hdrop] at elc
          simp only [lcGo] at elc
          split at elc
          · cases elc
          · rename_i r1 hr1
            obtain ⟨b, p3, e3, elc⟩ := bnd_some elc
            have env0 : EnvE K pa (hid (fun a => S a ∨ a = Dl) H') (L2.wipe σ vs) (wipeR r vs) := (((c.env.mono (x1.hid c.sta)).mono frame).mono (Same.hid x2)).wipe vs
            refine hg.run pa _ _ H' _ x d r1 _ env0 rd hr1 fun σ2 env2 agree => ?_
            have hlen2 : σ2.length = σ.length := by
              rw [env2.len, (hg.keep d _ r1 hr1).1, wipeR_len, c.env.len]
            refine ⟨wipe_same hlen2 fun j hj => ?_, ?_⟩
            · rw [agree j fun z => hj (hts j z), wipe_out hj]
            · have cn : Cn K pa (fun a => S a ∨ a = Dl) σ2 H' r1 pi := ⟨sh.same x2, env2⟩
              refine ⟨pa, _, r1, pi, b, p3, cn, e3, fun H3 x3 s3 => ?_⟩
              have cn3 := cn.go x3 s3
              have hDl' : H' Dl = some (.lst acc) := x2 _ _ hDl
              have hDl3 : H3 Dl = some (.lst acc) := x3 _ _ hpD hDl'
              have racc3 : RpL K pa (hid (fun a => S a ∨ a = Dl) H3) acc dn := RpL.mono (x3.hid cn.sta) _ _ (RpL.mono (Same.hid x2) _ _ racc)
              have xh3 : Ext pa H1 H3 := (xh.trans (Ext.of x2)).trans x3
              cases b with
              | true =>
                rw [if_pos rfl] at elc
                obtain ⟨y, p4, e4, elc⟩ := bnd_some elc
                obtain ⟨ys', p5, e5, elc⟩ := bnd_some elc
                obtain ⟨rfl, rfl⟩ := pr elc
                show tM K me σ2 H3 _
                refine ⟨pa, _, r1, p3, y, p4, cn3, e4, fun v H4 x4 s4 r4 => ?_⟩
                have hDl4 : H4 Dl = some (.lst acc) := x4 _ _ hpD hDl3
                have racc4 : RpL K pa (hid (fun a => S a ∨ a = Dl) H4) acc dn := RpL.mono (x4.hid cn3.sta) _ _ racc3
                have up : Same (hid (fun a => S a ∨ a = Dl) H4) (hid (fun a => S a ∨ a = Dl) (upd H4 Dl (.lst (acc ++ [v])))) := fun b o hb => by
                  obtain ⟨n, hb⟩ := of_hid hb
                  exact hid_of n (by rw [upd_ne (fun z => n (.inr z))]; exact hb)
                refine ⟨acc, hDl4, ?_, acc ++ [v], dn ++ [y], p4, ys', ?_, s4.put _ hpD hDl4 nst_lst, upd_same, RpL.mono up _ _ (racc4.append (.cons r4 .nil)), by rw [List.length_append]; exact Nat.succ_le_succ hdn, e5, by rw [List.append_assoc]; exact hys⟩
                · have h1 := racc.length
                  have h2 := lim_lt
                  omega
                · intro b o hb h1
                  rw [upd_ne (fun z => by rw [z, hD] at h1; cases h1)]
                  exact x4 _ _ hb (xh3 b o hb h1)
              | false =>
                rw [if_neg (by decide)] at elc
                exact ⟨acc, dn, p3, rest, xh3, s3, hDl3, racc3, Nat.le_succ_of_le hdn, elc, hys⟩
      · have hie : i = ds.length := by omega
        subst hie
        rw [List.drop_length] at elc
        obtain ⟨rfl, rfl⟩ := pr (show some (([] : List D), pi) = some (rest, p2) from elc)
        rw [List.append_nil] at hys
        subst hys
        refine .inl ⟨ok.stop _ _ Hh frame sh.trk (Nat.le_refl _), ?_⟩
        have hfree : H Dl = none := x1.free hpD hD
        exact q Dl acc Hh (x1.trans xh) (sh.re (fun _ h => s1.mutS h) fun _ h => .inl h) hfree hDl racc
theorem red_lc (hi : IterD K wi mi) (hg : TgD K g ts mg) (hts : ∀ t ∈ ts, t ∈ vs) {σ : L2.St} {H : Hp} {Q : VK} (h : tF K (mLc vs mi mg mt me) σ H Q) : tLc wi g (tMB K mt) (tM K me) vs σ H Q := by
  obtain ⟨pa, S, r, p, ys, p2, c, e, q⟩ := h
  obtain ⟨ds, p1, e1, e⟩ := bnd_some e
  split at e
  · rename_i hlim
    exact red_lc0 c (fun R h => hi pa S σ H r p ds p1 R c e1 h) hg hts hlim e q
  · cases e
end
def tYesM : MB := fun _ p => some (true, p)
section
variable {X : Cx} {elt tg iter : Expr} {scope : Scope} {pos : Pos} {mi : ML} {me : M} {mt : MB} {g : TG} {ts : List Nat} {mg : D → Ev → Option Ev} {own : List (Str × Nat)}
structure JTs (X : Cx) (ifs : List Expr) (m : MB) : Prop where pt : PTs X ifs (tMB X.K m)
theorem jts_nil : JTs X [] tYesM := ⟨⟨fun pins s σ H Q I ⟨pa, S, r, p, b, p', c, e, q⟩ => by
  obtain ⟨rfl, rfl⟩ := pr e
  exact pts_nil.run pins s σ H Q I (q H Ext.refl c.sta)⟩⟩
theorem jf_lc {ifs : List Expr} (own : List (Str × Nat)) (hc : X.calm = true) (hN : X.N.Nodup) (hi : JI X tg iter mi) (ok : BlkOk X.N X.env.scope scope own) (hg : ∀ (s : Shared) (H : Hp) (C : Addr) (cl : List (Str × Addr)) (fp : List Addr), PG (X.blk s H scope (compEnvC scope cl C X.env) fp) tg g)
    (hgd : TgD X.K g ts mg) (hts : ∀ t ∈ ts, t ∈ own.map (·.2))
    (ht : ∀ (s : Shared) (H : Hp) (C : Addr) (cl : List (Str × Addr)) (fp : List Addr), JTs (X.blk s H scope (compEnvC scope cl C X.env) fp) ifs mt) (he : ∀ (s : Shared) (H : Hp) (C : Addr) (cl : List (Str × Addr)) (fp : List Addr), JE (X.blk s H scope (compEnvC scope cl C X.env) fp) elt me)
    (hs : ∀ x, foldedSetIterable iter X.env x = pure x := by intro _; rfl) :
    JF X (.ListComp elt [⟨tg, iter, ifs, 0⟩] scope pos) (mLc (own.map (·.2)) mi mg mt me) := by
  obtain ⟨wi, h1, h2⟩ := hi.ex
  exact ⟨(pe_lc hc hN h1 ok hg (fun s H C cl fp => (ht s H C cl fp).pt) (fun s H C cl fp => (he s H C cl fp).pe) hs).weak fun σ H Q => red_lc h2 hgd hts⟩
end
end Dt
namespace Dt
variable [GTab]
open PySem PySem.Spec PyProof.Rows L2
inductive Cl where
  | no | sh (d : D) | ow (d : D)
abbrev Sv := List Cl
def Cl.s : Cl → Option D
  | .sh d => some d
  | _ => none
def Cl.v : Cl → Option D
  | .sh d => some d
  | .ow d => some d
  | .no => none
def shR (r : Sv) : Ev := r.map Cl.s
def viR (r : Sv) : Ev := r.map Cl.v
inductive Out where
  | nx (r : Sv) (p : List Int) | rt (d : D) (p : List Int) | bk (r : Sv) (p : List Int) | ct (r : Sv) (p : List Int)
abbrev MS := Sv → List Int → Option Out
/-- the def's entry -/
structure En where
  pa : PAx
  S : Addr → Prop
  H : Hp
theorem shR_get {r : Sv} {i : Nat} {d : D} : (shR r)[i]? = some (some d) ↔ r[i]? = some (.sh d) := by
  unfold shR
  rw [List.getElem?_map]
  cases e : r[i]? with
  | none => simp
  | some c => cases c <;> simp [Cl.s]
theorem viR_get {r : Sv} {i : Nat} {d : D} : (viR r)[i]? = some (some d) ↔ r[i]? = some (.sh d) ∨ r[i]? = some (.ow d) := by
  unfold viR
  rw [List.getElem?_map]
  cases e : r[i]? with
  | none => simp
  | some c => cases c <;> simp [Cl.v]
mutual
/-- no pool within -/
def np : D → Bool
  | .pool => false
  | .act _ _ _ _ => false
  | .lst xs => nps xs
  | .tup xs => nps xs
  | .dk _ xs => nps xs
  | .dt _ xs => nps xs
  | .ins _ _ xs => nps xs
  | .slt _ xs => nps xs
  | .ptp xs => nps xs
  | _ => true
def nps : List D → Bool
  | [] => true
  | x :: xs => np x && nps xs
end
section
variable {K : PySem.W.Frag} {pa pb : PAx} {H : Hp}
mutual
theorem Rp.chg : ∀ (d : D) (v : V), np d = true → Rp K pa H v d → Rp K pb H v d
  | .non, _, _, h => by cases h; exact .non
  | .bl b, _, _, h => by cases h; exact .bl b
  | .int i, _, _, h => by cases h; exact .int i
  | .str x, _, _, h => by
    cases h with
    | str _ z => exact .str x z
  | .lst ds, _, f, h => by
    cases h with
    | lst h1 h2 => exact .lst h1 (RpL.chg ds _ (by simpa [np] using f) h2)
  | .tup ds, _, f, h => by
    cases h with
    | tup h1 h2 => exact .tup h1 (RpL.chg ds _ (by simpa [np] using f) h2)
  | .pool, _, f, h => by simp [np] at f
  | .scr ns, _, _, h => by
    cases h with
    | scr h1 => exact .scr h1
  | .dk _ ds, _, f, h => by
    cases h with
    | dk h1 h2 h4 h3 => exact .dk h1 h2 h4 (RpL.chg ds _ (by simpa [np] using f) h3)
  | .dt _ ds, _, f, h => by
    cases h with
    | dt h1 h2 h4 h3 => exact .dt h1 h2 h4 (RpL.chg ds _ (by simpa [np] using f) h3)
  | .ins _ _ ds, _, f, h => by
    cases h with
    | ins h0 h1 h2 h3 => exact .ins h0 h1 h2 (RpL.chg ds _ (by simpa [np] using f) h3)
  | .slt _ ds, _, f, h => by
    cases h with
    | slt h0 h1 h2 => exact .slt h0 h1 (RpL.chg ds _ (by simpa [np] using f) h2)
  | .fn _, _, f, h => by
    cases h with
    | fn h1 => exact .fn h1
  | .adr _, _, f, h => by
    cases h
    exact .adr _
  | .ptp ds, _, f, h => by
    cases h with
    | ptp h0 h1 h2 => exact .ptp h0 h1 (RpL.chg ds _ (by simpa [np] using f) h2)
theorem RpL.chg : ∀ (ds : List D) (vs : List V), nps ds = true → RpL K pa H vs ds → RpL K pb H vs ds
  | [], _, _, h => by cases h; exact .nil
  | d :: ds, _, f, h => by
    rw [nps, Bool.and_eq_true] at f
    cases h with
    | cons h1 h2 => exact .cons (Rp.chg d _ f.1 h1) (RpL.chg ds _ f.2 h2)
end
end
/-- an owned object and its data -/
def OwnO (K : PySem.W.Frag) (pa : PAx) (Hh : Hp) : HO → D → Prop
  | .lst xs, .lst ds => RpL K pa Hh xs ds
  | .dK kv, .dk ks ds => KRp K pa Hh kv (ks.zip ds) ∧ ds.length = ks.length ∧ ∀ k ∈ ks, kOk k
  | _, _ => False
theorem OwnO.mono {K : PySem.W.Frag} {pa : PAx} {H H' : Hp} (e : Same H H') {u : HO} {d : D} (h : OwnO K pa H u d) : OwnO K pa H' u d := by
  unfold OwnO at *
  split at h
  · exact RpL.mono e _ _ h
  · exact ⟨KRp.mono e h.1, h.2⟩
  · exact h.elim
theorem OwnO.rp {K : PySem.W.Frag} {pa : PAx} {H : Hp} {a : Addr} {u : HO} {d : D} (ha : H a = some u) (h : OwnO K pa H u d) : Rp K pa H (.ref a) d := by
  unfold OwnO at h
  split at h
  · exact .lst ha h
  · obtain ⟨h1, h2, h3⟩ := h
    have := Rp.dkv (m := _) (.inl ha) h1 fun q hq => h3 _ (List.of_mem_zip hq).1
    unfold dkv at this
    rw [zip_fst h2, zip_snd h2] at this
    exact this
  · exact h.elim
theorem OwnO.lst {K : PySem.W.Frag} {pa : PAx} {H : Hp} {u : HO} {ds : List D} (h : OwnO K pa H u (.lst ds)) : ∃ xs, u = .lst xs ∧ RpL K pa H xs ds := by
  unfold OwnO at h
  split at h
  · rename_i xs ds' e
    cases e
    exact ⟨_, rfl, h⟩
  · rename_i e; cases e
  · exact h.elim
theorem OwnO.dk {K : PySem.W.Frag} {pa : PAx} {H : Hp} {u : HO} {ks : List Key} {ds : List D} (h : OwnO K pa H u (.dk ks ds)) : ∃ kv, u = .dK kv ∧ KRp K pa H kv (ks.zip ds) ∧ ds.length = ks.length ∧ ∀ k ∈ ks, kOk k := by
  unfold OwnO at h
  split at h
  · rename_i e; cases e
  · rename_i kv ks' ds' e
    cases e
    exact ⟨_, rfl, h⟩
  · exact h.elim
theorem OwnO.nst {K : PySem.W.Frag} {pa : PAx} {H : Hp} {u : HO} {d : D} (h : OwnO K pa H u d) : ¬ Stb u := by
  unfold OwnO at h
  split at h
  · exact nst_lst
  · exact nst_dK
  · exact h.elim
theorem OwnO.ntp {K : PySem.W.Frag} {pa : PAx} {H : Hp} {u : HO} {d : D} (h : OwnO K pa H u d) : ¬ TupO u := by
  unfold OwnO at h
  split at h
  · rintro (⟨_, z⟩ | ⟨_, _, z⟩) <;> cases z
  · rintro (⟨_, z⟩ | ⟨_, _, z⟩) <;> cases z
  · exact h.elim
/-- where a statement stands: E the def's entry; pa the pool now, S0 what is hidden but owned lists, S all that is hidden, A the owned lists' addresses -/
structure EnvS (K : PySem.W.Frag) (fx : Bool) (E : En) (pa : PAx) (S0 S : Addr → Prop) (A : Nat → Addr) (σ : L2.St) (H : Hp) (r : Sv) (p : List Int) : Prop where
  sta : Sta pa S0 H p
  pap : fx = false → pa = E.pa ∧ ∀ a, pa.po = some a → E.S a
  pan : fx = true → E.pa.po = none ∧ ∀ b, pa.po = some b → E.H b = none
  tbs : pa.c = E.pa.c ∧ ∀ b, pa.c.mut b → E.S b
  sub : ∀ a, E.S a → S0 a
  new : ∀ a, S0 a → E.S a ∨ E.H a = none
  ext : Ext E.pa E.H H
  hS : ∀ a, S a ↔ (S0 a ∨ ∃ (i : Nat) (d : D), r[i]? = some (.ow d) ∧ A i = a)
  own : ∀ (i : Nat) (d : D), r[i]? = some (.ow d) → σ[i]? = some (some (.ref (A i))) ∧ E.H (A i) = none ∧ ¬ S0 (A i) ∧ ∃ u, H (A i) = some u ∧ OwnO K pa (hid S H) u d
  inj : ∀ (i j : Nat) (d e : D), r[i]? = some (.ow d) → r[j]? = some (.ow e) → A i = A j → i = j
  env : EnvE K pa (hid S H) σ (shR r)
def Frm (S : Addr → Prop) (H : Hp) (S' : Addr → Prop) (H' : Hp) : Prop := Same (hid S H) (hid S' H')
theorem Frm.refl {S : Addr → Prop} {H : Hp} : Frm S H S H := fun _ _ h => h
theorem Frm.trans {S S1 S2 : Addr → Prop} {H H1 H2 : Hp} (a : Frm S H S1 H1) (b : Frm S1 H1 S2 H2) : Frm S H S2 H2 := fun x o h => b x o (a x o h)
def NxS (K : PySem.W.Frag) (fx : Bool) (E : En) (S : Addr → Prop) (H : Hp) (r : Sv) (p : List Int) (N : L2.St → Hp → Prop) : Prop := ∀ pa S0 S' A σ' H', EnvS K fx E pa S0 S' A σ' H' r p → Frm S H S' H' → N σ' H'
def RtS (K : PySem.W.Frag) (E : En) (d : D) (p : List Int) (Q : VK) : Prop := ∀ v H', Ext E.pa E.H H' → Sta E.pa E.S H' p → Rp K E.pa (hid E.S H') v d → Q v H'
def PostS (K : PySem.W.Frag) (fx : Bool) (E : En) (S : Addr → Prop) (H : Hp) (o : Out) (D : Ends) : Prop := match o with
  | .nx r p => NxS K fx E S H r p D.nx
  | .rt d p => RtS K E d p D.rt
  | .bk r p => NxS K fx E S H r p D.bk
  | .ct r p => NxS K fx E S H r p D.ct
def tS (K : PySem.W.Frag) (fx : Bool) (E : En) (m : MS) : TS := fun D σ H => ∃ pa S0 S A r p o, EnvS K fx E pa S0 S A σ H r p ∧ m r p = some o ∧ PostS K fx E S H o D
structure JS (fx : Bool) (X : Cx) (st : Stmt) (m : MS) : Prop where ps : ∀ E, PS X st (tS X.K fx E m)
structure JSs (fx : Bool) (X : Cx) (st : List Stmt) (m : MS) : Prop where ps : ∀ E, PSs X st (tS X.K fx E m)
theorem _root_.L2.PS.weak {X : Cx} {st : Stmt} {t t' : TS} (h : PS X st t) (w : ∀ D σ H, t' D σ H → t D σ H) : PS X st t' := ⟨fun pins s σ H D I q => h.run pins s σ H D I (w D σ H q)⟩
theorem _root_.L2.PSs.weak {X : Cx} {st : List Stmt} {t t' : TS} (h : PSs X st t) (w : ∀ D σ H, t' D σ H → t D σ H) : PSs X st t' := ⟨fun pins s σ H D I q => h.run pins s σ H D I (w D σ H q)⟩
section
variable {K : PySem.W.Frag} {fx : Bool} {E : En} {pa : PAx} {S0 S S' : Addr → Prop} {A : Nat → Addr} {σ : L2.St} {H H' : Hp} {r : Sv} {p p' : List Int} {o : Out} {Dn : Ends}
theorem NxS.after {N : L2.St → Hp → Prop} (f : Frm S H S' H') (h : NxS K fx E S H r p N) : NxS K fx E S' H' r p N := fun pa S0 S2 A σ2 H2 e g => h pa S0 S2 A σ2 H2 e (f.trans g)
theorem PostS.after (f : Frm S H S' H') (h : PostS K fx E S H o Dn) : PostS K fx E S' H' o Dn := by
  cases o with
  | nx r p => exact NxS.after f h
  | rt d p => exact h
  | bk r p => exact NxS.after f h
  | ct r p => exact NxS.after f h
theorem EnvS.staS (e : EnvS K fx E pa S0 S A σ H r p) : Sta pa S H p := e.sta.more (fun _ _ h => h) (fun a h => (e.hS a).mpr (.inl h)) fun a h z => by
  rcases (e.hS a).mp h with h1 | ⟨i, d, h2, h3⟩
  · exact absurd h1 z
  · obtain ⟨_, _, _, u, q, q2⟩ := e.own i d h2
    rw [← h3]
    exact ⟨_, q, q2.ntp⟩
theorem EnvS.cn (e : EnvS K fx E pa S0 S A σ H r p) : Cn K pa S σ H (shR r) p := ⟨e.staS, e.env⟩
theorem EnvS.sub0 (e : EnvS K fx E pa S0 S A σ H r p) : Same (hid S H) (hid S0 H) := fun b o h => by
  obtain ⟨n, h⟩ := of_hid h
  exact hid_of (fun z => n ((e.hS b).mpr (.inl z))) h
/-- all in sight, for what ends in a scalar or leaves -/
theorem EnvS.vis (e : EnvS K fx E pa S0 S A σ H r p) : Cn K pa S0 σ H (viR r) p := by
  refine ⟨e.sta, by rw [e.env.len]; unfold shR viR; rw [List.length_map, List.length_map], fun i d h => ?_⟩
  rcases viR_get.mp h with h | h
  · obtain ⟨v, h1, h2⟩ := e.env.at_ i d (shR_get.mpr h)
    exact ⟨v, h1, Rp.mono e.sub0 _ _ h2⟩
  · obtain ⟨h1, _, h2, u, h3, h4⟩ := e.own i d h
    exact ⟨_, h1, OwnO.rp (hid_of h2 h3) (h4.mono e.sub0)⟩
/-- behind an expression -/
theorem EnvS.go (e : EnvS K fx E pa S0 S A σ H r p) (x : Ext pa H H') (s : Sta pa S0 H' p') : EnvS K fx E pa S0 S A σ H' r p' := by
  have hp : ∀ b, pa.mut b → S b := fun b h => e.staS.mutS h
  have sm : Same (hid S H) (hid S H') := fun b o h => by
    obtain ⟨n, h⟩ := of_hid h
    exact hid_of n (x b o (fun z => n (hp b z)) h)
  refine ⟨s, e.pap, e.pan, e.tbs, e.sub, e.new, fun b o n h => ?_, e.hS, fun i d h => ?_, e.inj, e.env.mono sm⟩
  · by_cases hb : pa.mut b
    · rcases hb with hb | hb
      · cases hf : fx with
        | false => exact absurd (by rw [← (e.pap hf).1]; exact .inl hb) n
        | true =>
          rw [(e.pan hf).2 b hb] at h
          cases h
      · rw [e.tbs.1] at hb
        exact absurd (.inr hb) n
    · exact x b o hb (e.ext b o n h)
  · obtain ⟨h1, h2, h3, u, h5, h6⟩ := e.own i d h
    refine ⟨h1, h2, h3, u, x _ _ (fun z => ?_) h5, h6.mono sm⟩
    exact h3 (e.sta.mutS z)
theorem EnvS.frm (e : EnvS K fx E pa S0 S A σ H r p) (x : Ext pa H H') : Frm S H S H' := fun b o h => by
  obtain ⟨n, h⟩ := of_hid h
  exact hid_of n (x b o (fun z => n (e.staS.mutS z)) h)
theorem EnvS.st0 {H1 : Hp} (e : EnvS K fx E pa S0 S A σ H r p) (s1 : Sta pa S H1 p') : Sta pa S0 H1 p' := s1.re (fun _ h => e.sta.mutS h) fun b h => (e.hS b).mpr (.inl h)
theorem EnvS.mutE (e : EnvS K fx E pa S0 S A σ H r p) {a : Addr} (h : E.pa.mut a) : pa.mut a := by
  rcases h with h | h
  · cases hf : fx with
    | false => rw [(e.pap hf).1]; exact .inl h
    | true => rw [(e.pan hf).1] at h; cases h
  · exact .inr (by rw [e.tbs.1]; exact h)
theorem EnvS.outF {H1 : Hp} (e : EnvS K fx E pa S0 S A σ H r p) (hf : fx = false) (s1 : Sta pa S0 H1 p') : Sta pa E.S H1 p' := s1.re (fun b h => by
  rcases h with h | h
  · exact (e.pap hf).2 b h
  · exact e.tbs.2 b h) e.sub
theorem EnvS.outN {H1 : Hp} (e : EnvS K fx E pa S0 S A σ H r p) (hf : fx = true) (s1 : Sta pa S0 H1 p') : Sta E.pa E.S H1 p' :=
  ⟨fun a ha => (by rw [(e.pan hf).1] at ha; cases ha), fun a ha => s1.trk a (e.sub a ha), (by
    rw [← e.tbs.1]
    exact s1.tab), fun b h => e.tbs.2 b (by rw [e.tbs.1]; exact h), fun a ha => (by rw [(e.pan hf).1] at ha; cases ha), fun a o ha => s1.ntp a o (e.sub a ha)⟩
theorem EnvS.newE (e : EnvS K fx E pa S0 S A σ H r p) {a : Addr} (hn : H a = none) : E.H a = none := by
  cases hx : E.H a with
  | none => rfl
  | some o =>
    by_cases hp : E.pa.mut a
    · exact absurd (e.staS.mutS (e.mutE hp)) (e.staS.new hn)
    · rw [e.ext a o hp hx] at hn; cases hn
/-- a slot is stored, shared -/
theorem EnvS.setSh (e : EnvS K fx E pa S0 S A σ H r p) {x : V} {d : D} (i : Nat) (h : Rp K pa (hid S H) x d) :
    ∃ S', EnvS K fx E pa S0 S' A (σ.set i (some x)) H (r.set i (.sh d)) p ∧ Frm S H S' H := by
  have keep : ∀ (j : Nat) (d' : D), (r.set i (.sh d))[j]? = some (.ow d') → j ≠ i ∧ r[j]? = some (.ow d') := fun j d' hj => by
    by_cases hij : i = j
    · subst hij
      by_cases hi : i < r.length
      · rw [List.getElem?_set_self hi] at hj; cases hj
      · rw [List.getElem?_eq_none (by rw [List.length_set]; omega)] at hj; cases hj
    · rw [List.getElem?_set_ne hij] at hj
      exact ⟨fun z => hij z.symm, hj⟩
  have fr : Frm S H (fun a => S0 a ∨ ∃ (j : Nat) (d' : D), (r.set i (.sh d))[j]? = some (.ow d') ∧ A j = a) H := fun b o hb => by
    obtain ⟨n, hb⟩ := of_hid hb
    refine hid_of (fun z => n ((e.hS b).mpr ?_)) hb
    rcases z with z | ⟨j, d', hj, hA⟩
    · exact .inl z
    · exact .inr ⟨j, d', (keep j d' hj).2, hA⟩
  refine ⟨_, ⟨e.sta, e.pap, e.pan, e.tbs, e.sub, e.new, e.ext, fun a => Iff.rfl, fun j d' hj => ?_, fun j k d1 d2 h1 h2 => e.inj j k d1 d2 (keep j d1 h1).2 (keep k d2 h2).2, ?_⟩, fr⟩
  · obtain ⟨ne, hj⟩ := keep j d' hj
    obtain ⟨h1, h2, h3, u, h5, h6⟩ := e.own j d' hj
    exact ⟨by rw [List.getElem?_set_ne (Ne.symm ne)]; exact h1, h2, h3, u, h5, h6.mono fr⟩
  · have e2 : shR (r.set i (.sh d)) = (shR r).set i (some d) := by
      unfold shR
      rw [List.map_set]
      rfl
    rw [e2]
    exact (e.env.mono fr).set i (Rp.mono fr _ _ h)
/-- a slot is stored, a new list -/
theorem EnvS.setOw (e : EnvS K fx E pa S0 S A σ H r p) {a : Addr} {u : HO} {dd : D} (i : Nat) (hi : i < r.length) (hE : E.H a = none) (hS : ¬ S a) (ha : H a = some u) (hr : OwnO K pa (hid (fun b => S b ∨ b = a) H) u dd) (hen : EnvE K pa (hid (fun b => S b ∨ b = a) H) σ (shR r))
    (hown : ∀ (j : Nat) (d : D), j ≠ i → r[j]? = some (.ow d) → ∃ u, H (A j) = some u ∧ OwnO K pa (hid (fun b => S b ∨ b = a) H) u d) :
    ∃ S' A', EnvS K fx E pa S0 S' A' (σ.set i (some (.ref a))) H (r.set i (.ow dd)) p ∧ ∀ b, S' b → S b ∨ b = a := by
  have keep : ∀ (j : Nat) (d' : D), (r.set i (.ow dd))[j]? = some (.ow d') → (j = i ∧ d' = dd) ∨ (j ≠ i ∧ r[j]? = some (.ow d')) := fun j d' hj => by
    by_cases hij : i = j
    · subst hij
      rw [List.getElem?_set_self hi] at hj
      cases hj
      exact .inl ⟨rfl, rfl⟩
    · rw [List.getElem?_set_ne hij] at hj
      exact .inr ⟨fun z => hij z.symm, hj⟩
  have sub : ∀ b, (S0 b ∨ ∃ (j : Nat) (d' : D), (r.set i (.ow dd))[j]? = some (.ow d') ∧ (if j = i then a else A j) = b) → S b ∨ b = a := fun b z => by
    rcases z with z | ⟨j, d', hj, hA⟩
    · exact .inl ((e.hS b).mpr (.inl z))
    · rcases keep j d' hj with ⟨rfl, _⟩ | ⟨ne, hj⟩
      · rw [if_pos rfl] at hA; exact .inr hA.symm
      · rw [if_neg ne] at hA; exact .inl ((e.hS b).mpr (.inr ⟨j, d', hj, hA⟩))
  have sm : Same (hid (fun b => S b ∨ b = a) H) (hid (fun b => S0 b ∨ ∃ (j : Nat) (d' : D), (r.set i (.ow dd))[j]? = some (.ow d') ∧ (if j = i then a else A j) = b) H) := fun b o hb => by
    obtain ⟨n, hb⟩ := of_hid hb
    exact hid_of (fun z => n (sub b z)) hb
  have nS0 : ¬ S0 a := fun z => hS ((e.hS a).mpr (.inl z))
  refine ⟨_, fun j => if j = i then a else A j, ⟨e.sta, e.pap, e.pan, e.tbs, e.sub, e.new, e.ext, fun a => Iff.rfl, fun j d' hj => ?_, fun j k d1 d2 h1 h2 hA => ?_, ?_⟩, sub⟩
  · rcases keep j d' hj with ⟨rfl, rfl⟩ | ⟨ne, hj⟩
    · simp only [if_pos rfl]
      exact ⟨List.getElem?_set_self (by have := e.env.len; unfold shR at this; rw [List.length_map] at this; omega), hE, nS0, u, ha, hr.mono sm⟩
    · simp only [if_neg ne]
      obtain ⟨h1, h2, h3, _⟩ := e.own j d' hj
      obtain ⟨u', h5, h6⟩ := hown j d' ne hj
      exact ⟨by rw [List.getElem?_set_ne (Ne.symm ne)]; exact h1, h2, h3, u', h5, h6.mono sm⟩
  · have na : ∀ (j : Nat) (d' : D), r[j]? = some (.ow d') → A j ≠ a := fun j d' hj z => hS ((e.hS a).mpr (.inr ⟨j, d', hj, z⟩))
    rcases keep j d1 h1 with ⟨e1, _⟩ | ⟨ne, g1⟩
    · rcases keep k d2 h2 with ⟨e2, _⟩ | ⟨ne2, g2⟩
      · rw [e1, e2]
      · simp only [if_pos e1, if_neg ne2] at hA
        exact absurd hA.symm (na k d2 g2)
    · rcases keep k d2 h2 with ⟨e2, _⟩ | ⟨ne2, g2⟩
      · simp only [if_pos e2, if_neg ne] at hA
        exact absurd hA (na j d1 g1)
      · simp only [if_neg ne, if_neg ne2] at hA
        exact e.inj j k d1 d2 g1 g2 hA
  · have en2 := hen.mono sm
    refine ⟨?_, fun j d' hj => ?_⟩
    · rw [List.length_set, en2.len]
      unfold shR
      rw [List.length_map, List.length_map, List.length_set]
    · have hj2 := shR_get.mp hj
      by_cases hij : i = j
      · subst hij
        rw [List.getElem?_set_self hi] at hj2
        cases hj2
      · rw [List.getElem?_set_ne hij] at hj2
        obtain ⟨v, h1, h2⟩ := en2.at_ j d' (shR_get.mpr hj2)
        exact ⟨v, by rw [List.getElem?_set_ne hij]; exact h1, h2⟩
end
end Dt
namespace Dt
variable [GTab]
open PySem PySem.Spec PyProof.Rows L2
section
variable {K : PySem.W.Frag} {fx : Bool} {E : En}
def sNext : MS := fun r p => some (.nx r p)
def sSeq (a b : MS) : MS := fun r p => match a r p with | some (.nx r p) => b r p | o => o
theorem red_seq {a b : MS} {D : Ends} {σ : L2.St} {H : Hp} (h : tS K fx E (sSeq a b) D σ H) : tSeq (tS K fx E a) (tS K fx E b) D σ H := by
  obtain ⟨pa, S0, S, A, r, p, o, e, m, q⟩ := h
  unfold sSeq at m
  split at m
  · rename_i r1 p1 m1
    exact ⟨pa, S0, S, A, r, p, _, e, m1, fun pa' S0' S' A' σ' H' e' f => ⟨pa', S0', S', A', r1, p1, o, e', m, q.after f⟩⟩
  · rename_i hne
    refine ⟨pa, S0, S, A, r, p, o, e, m, ?_⟩
    cases o with
    | nx r1 p1 => exact absurd m (hne r1 p1)
    | rt d p1 => exact q
    | bk r1 p1 => exact q
    | ct r1 p1 => exact q
theorem red_next {D : Ends} {σ : L2.St} {H : Hp} (h : tS K fx E sNext D σ H) : tNext D σ H := by
  obtain ⟨pa, S0, S, A, r, p, o, e, m, q⟩ := h
  cases m
  exact q pa S0 S A σ H e Frm.refl
def sAsg (i : Nat) (me : M) : MS := fun r p => match me (shR r) p with | some (d, p) => some (.nx (r.set i (.sh d)) p) | none => none
theorem red_asg {i : Nat} {me : M} {D : Ends} {σ : L2.St} {H : Hp} (h : tS K fx E (sAsg i me) D σ H) : tAsg (tM K me) (gName i) D σ H := by
  obtain ⟨pa, S0, S, A, r, p, o, e, m, q⟩ := h
  unfold sAsg at m
  split at m
  · rename_i d p1 m1
    cases m
    refine ⟨pa, S, shR r, p, d, p1, e.cn, m1, fun v H1 x1 s1 r1 => ?_⟩
    have e1 := e.go x1 (e.st0 s1)
    obtain ⟨S', e2, f2⟩ := e1.setSh i r1
    exact q pa S0 S' A _ H1 e2 ((e.frm x1).trans f2)
  · cases m
/-- scalars -/
def sc : D → Bool
  | .non => true | .bl _ => true | .int _ => true | .str _ => true | _ => false
theorem Rp.scal {pa pb : PAx} {H H' : Hp} {v : V} {d : D} (f : sc d = true) (h : Rp K pa H v d) : Rp K pb H' v d := by
  cases h with
  | non => exact .non
  | bl b => exact .bl b
  | int i => exact .int i
  | str x z => exact .str x z
  | _ => cases f
def sAsgV (i : Nat) (me : M) : MS := fun r p => match me (viR r) p with | some (d, p) => if sc d = true then some (.nx (r.set i (.sh d)) p) else none | none => none
/-- a new list, owned from here -/
def sNew (i : Nat) (mf : ML) : MS := fun r p => match mf (shR r) p with | some (ds, p) => if i < r.length then some (.nx (r.set i (.ow (.lst ds))) p) else none | none => none
theorem EnvS.mine {pa : PAx} {S0 S : Addr → Prop} {A : Nat → Addr} {σ : L2.St} {H : Hp} {r : Sv} {p p' : List Int} (e : EnvS K fx E pa S0 S A σ H r p) {i : Nat} (hi : i < r.length) {H1 : Hp} {a : Addr} {u : HO} {dd : D} (x1 : Ext pa H H1) (s1 : Sta pa S H1 p') (hn : H a = none) (ha : H1 a = some u)
    (hr : OwnO K pa (hid (fun b => S b ∨ b = a) H1) u dd) : ∃ S' A', EnvS K fx E pa S0 S' A' (σ.set i (some (.ref a))) H1 (r.set i (.ow dd)) p' ∧ Frm S H S' H1 := by
  have e1 := e.go x1 (e.st0 s1)
  have nS : ¬ S a := e.staS.new hn
  have hE : E.H a = none := e.newE hn
  have sm : Same (hid S H) (hid (fun b => S b ∨ b = a) H1) := sub_hid hn (e.frm x1)
  obtain ⟨S', A', e2, h2⟩ := e1.setOw (a := a) (u := u) (dd := dd) i hi hE nS ha hr (e.env.mono sm) fun j d ne hj => by
    obtain ⟨_, _, h3, u', h5, h6⟩ := e.own j d hj
    exact ⟨u', x1 _ _ (fun z => h3 (e.sta.mutS z)) h5, h6.mono sm⟩
  exact ⟨S', A', e2, fun b o hb => by
    obtain ⟨n1, h1⟩ := of_hid hb
    refine hid_of (fun z => ?_) (of_hid (e.frm x1 b o hb)).2
    rcases h2 b z with z | z
    · exact n1 z
    · rw [z, hn] at h1; cases h1⟩
/-- an owned list is changed -/
theorem EnvS.setL {pa : PAx} {S0 S : Addr → Prop} {A : Nat → Addr} {σ : L2.St} {H : Hp} {r : Sv} {p : List Int} (e : EnvS K fx E pa S0 S A σ H r p) {i : Nat} {d : D} (hi : r[i]? = some (.ow d)) {v : HO} {dd : D} (hr : OwnO K pa (hid S H) v dd) :
    ∃ S', EnvS K fx E pa S0 S' A σ (upd H (A i) v) (r.set i (.ow dd)) p ∧ Frm S H S' (upd H (A i) v) := by
  obtain ⟨h1, h2, h3, u, h5, h6⟩ := e.own i d hi
  have hSA : S (A i) := (e.hS _).mpr (.inr ⟨i, d, hi, rfl⟩)
  have hlt : i < r.length := (List.getElem?_eq_some_iff.mp hi).1
  have keep : ∀ (j : Nat) (d' : D), (r.set i (.ow dd))[j]? = some (.ow d') → (j = i ∧ d' = dd) ∨ (j ≠ i ∧ r[j]? = some (.ow d')) := fun j d' hj => by
    by_cases hij : i = j
    · subst hij
      rw [List.getElem?_set_self hlt] at hj
      cases hj
      exact .inl ⟨rfl, rfl⟩
    · rw [List.getElem?_set_ne hij] at hj
      exact .inr ⟨fun z => hij z.symm, hj⟩
  have iff : ∀ a, S a ↔ (S0 a ∨ ∃ (j : Nat) (d' : D), (r.set i (.ow dd))[j]? = some (.ow d') ∧ A j = a) := fun a => by
    rw [e.hS a]
    constructor
    · rintro (z | ⟨j, d', hj, hA⟩)
      · exact .inl z
      · by_cases hij : i = j
        · subst hij; exact .inr ⟨i, _, List.getElem?_set_self hlt, hA⟩
        · exact .inr ⟨j, d', by rw [List.getElem?_set_ne hij]; exact hj, hA⟩
    · rintro (z | ⟨j, d', hj, hA⟩)
      · exact .inl z
      · rcases keep j d' hj with ⟨rfl, _⟩ | ⟨_, hj⟩
        · exact .inr ⟨_, d, hi, hA⟩
        · exact .inr ⟨j, d', hj, hA⟩
  have sm : Same (hid S H) (hid S (upd H (A i) v)) := fun b o hb => by
    obtain ⟨n, hb⟩ := of_hid hb
    exact hid_of n (by rw [upd_ne (fun z => n (by rw [z]; exact hSA))]; exact hb)
  refine ⟨S, ⟨e.sta.put _ (fun z => h3 (e.sta.mutS z)) h5 h6.nst hr.ntp, e.pap, e.pan, e.tbs, e.sub, e.new, fun b o n hb => ?_, iff, fun j d' hj => ?_, fun j k d1 d2 g1 g2 hA => ?_, ?_⟩, sm⟩
  · rw [upd_ne (fun z => by rw [z, h2] at hb; cases hb)]
    exact e.ext b o n hb
  · rcases keep j d' hj with ⟨rfl, rfl⟩ | ⟨ne, hj⟩
    · exact ⟨h1, h2, h3, v, upd_same, hr.mono sm⟩
    · obtain ⟨k1, k2, k3, u', k5, k6⟩ := e.own j d' hj
      exact ⟨k1, k2, k3, u', by rw [upd_ne (fun z => ne (e.inj j i d' d hj hi z))]; exact k5, k6.mono sm⟩
  · rcases keep j d1 g1 with ⟨e1, _⟩ | ⟨_, g1'⟩
    · rcases keep k d2 g2 with ⟨e2, _⟩ | ⟨_, g2'⟩
      · rw [e1, e2]
      · exact e.inj j k d d2 (by rw [e1]; exact hi) g2' hA
    · rcases keep k d2 g2 with ⟨e2, _⟩ | ⟨_, g2'⟩
      · exact e.inj j k d1 d g1' (by rw [e2]; exact hi) hA
      · exact e.inj j k d1 d2 g1' g2' hA
  · have en2 := e.env.mono sm
    refine ⟨?_, fun j d' hj => ?_⟩
    · rw [en2.len]
      unfold shR
      rw [List.length_map, List.length_map, List.length_set]
    · have hj2 := shR_get.mp hj
      by_cases hij : i = j
      · subst hij
        rw [List.getElem?_set_self hlt] at hj2
        cases hj2
      · rw [List.getElem?_set_ne hij] at hj2
        exact en2.at_ j d' (shR_get.mpr hj2)
def owL (r : Sv) (i : Nat) : Option (List D) := match r[i]? with | some (.ow (.lst ds)) => some ds | _ => none
theorem owL_eq {r : Sv} {i : Nat} {ds : List D} (h : owL r i = some ds) : r[i]? = some (.ow (.lst ds)) := by
  unfold owL at h
  split at h
  · rename_i es he
    cases h
    exact he
  · cases h
/-- x.append(e) -/
def sApp (i : Nat) (me : M) : MS := fun r p => match owL r i, me (shR r) p with | some ds, some (d, p) => if ds.length < lim then some (.nx (r.set i (.ow (.lst (ds ++ [d])))) p) else none | _, _ => none
theorem red_app {i : Nat} {me : M} {D : Ends} {σ : L2.St} {H : Hp} (h : tS K fx E (sApp i me) D σ H) : tDrop (tBM K "list" rAppend (tVar i) (tCons (tM K me) tNil)) D σ H := by
  obtain ⟨pa, S0, S, A, r, p, o, e, m, q⟩ := h
  unfold sApp at m
  split at m
  · rename_i ds d p1 hr m1
    split at m
    · rename_i hl
      cases m
      have hi := owL_eq hr
      obtain ⟨h1, h2, h3, u0, h5, h60⟩ := e.own i _ hi
      obtain ⟨xs, rfl, h6⟩ := h60.lst
      refine ⟨_, h1, .inl ⟨rfl, xs, SqL.of h5⟩, ?_⟩
      refine ⟨pa, S, shR r, p, d, p1, e.cn, m1, fun v H1 x1 s1 r1 => ?_⟩
      have e1 := e.go x1 (e.st0 s1)
      obtain ⟨_, _, _, u1, k5, k60⟩ := e1.own i _ hi
      obtain ⟨xs1, rfl, k6⟩ := k60.lst
      obtain ⟨S', e2, f2⟩ := e1.setL (v := .lst _) (dd := .lst _) hi (k6.append (.cons r1 .nil))
      refine ⟨_, xs1, v, rfl, rfl, k5, ?_, q pa S0 S' A σ _ e2 ((e.frm x1).trans f2)⟩
      rw [k6.length]
      have := lim_lt
      omega
    · cases m
  · cases m
/-- an expression for its effects -/
def sDrop (me : M) : MS := fun r p => match me (viR r) p with | some (_, p) => some (.nx r p) | none => none
theorem red_drop {me : M} {D : Ends} {σ : L2.St} {H : Hp} (h : tS K fx E (sDrop me) D σ H) : tDrop (tM K me) D σ H := by
  obtain ⟨pa, S0, S, A, r, p, o, e, m, q⟩ := h
  unfold sDrop at m
  split at m
  · rename_i d p1 m1
    cases m
    exact ⟨pa, S0, viR r, p, d, p1, e.vis, m1, fun v H1 x1 s1 r1 => q pa S0 S A σ H1 (e.go x1 s1) (e.frm x1)⟩
  · cases m
/-- return e -/
def sRet (fx : Bool) (me : M) : MS := fun r p => match me (viR r) p with | some (d, p) => if (!fx || np d) = true then some (.rt d p) else none | none => none
theorem red_ret {me : M} {D : Ends} {σ : L2.St} {H : Hp} (h : tS K fx E (sRet fx me) D σ H) : tRet (tM K me) D σ H := by
  obtain ⟨pa, S0, S, A, r, p, o, e, m, q⟩ := h
  unfold sRet at m
  split at m
  · rename_i d p1 m1
    split at m
    · rename_i hs
      cases m
      refine ⟨pa, S0, viR r, p, d, p1, e.vis, m1, fun v H1 x1 s1 r1 => ?_⟩
      have e1 := e.go x1 s1
      have sm : Same (hid S0 H1) (hid E.S H1) := fun b o hb => by
        obtain ⟨n, hb⟩ := of_hid hb
        exact hid_of (fun z => n (e.sub b z)) hb
      have r2 : Rp K pa (hid E.S H1) v d := Rp.mono sm _ _ r1
      cases hf : fx with
      | false =>
        have so := e.outF hf s1
        obtain ⟨hp, hq⟩ := e.pap hf
        subst hp
        exact q v H1 e1.ext so r2
      | true =>
        rw [hf] at hs
        exact q v H1 e1.ext (e.outN hf s1) (Rp.chg d v (by simpa using hs) r2)
    · cases m
  · cases m
def sRetN : MS := fun r p => some (.rt .non p)
def sBrk : MS := fun r p => some (.bk r p)
def sCnt : MS := fun r p => some (.ct r p)
def sNev : MS := fun _ _ => none
theorem red_nev {D : Ends} {σ : L2.St} {H : Hp} (h : tS K fx E sNev D σ H) : tNever D σ H := by
  obtain ⟨pa, S0, S, A, r, p, o, e, m, q⟩ := h
  cases m
def sIf (t : MB) (a b : MS) : MS := fun r p => match t (viR r) p with | some (true, p) => a r p | some (false, p) => b r p | none => none
theorem red_if {t : MB} {a b : MS} {D : Ends} {σ : L2.St} {H : Hp} (h : tS K fx E (sIf t a b) D σ H) : tIfS (tMB K t) (tS K fx E a) (tS K fx E b) D σ H := by
  obtain ⟨pa, S0, S, A, r, p, o, e, m, q⟩ := h
  unfold sIf at m
  split at m
  · rename_i p1 m1
    exact ⟨pa, S0, viR r, p, true, p1, e.vis, m1, fun H1 x1 s1 => ⟨pa, S0, S, A, r, p1, o, e.go x1 s1, m, q.after (e.frm x1)⟩⟩
  · rename_i p1 m1
    exact ⟨pa, S0, viR r, p, false, p1, e.vis, m1, fun H1 x1 s1 => ⟨pa, S0, S, A, r, p1, o, e.go x1 s1, m, q.after (e.frm x1)⟩⟩
  · cases m
/-- x op= e, x shared -/
def sAug (i : Nat) (f : D → D → Option D) (me : M) : MS := fun r p => match (shR r)[i]?, me (shR r) p with | some (some x), some (d, p) => (f x d).map fun z => .nx (r.set i (.sh z)) p | _, _ => none
abbrev GS := D → Sv → List Int → Option (Sv × List Int)
structure TgS (K : PySem.W.Frag) (fx : Bool) (g : TG) (mg : GS) : Prop where
  run : ∀ (E : En) pa S0 S A σ H r p x d r' p' (Q : L2.St → Hp → Prop), EnvS K fx E pa S0 S A σ H r p → Rp K pa (hid S H) x d → mg d r p = some (r', p') →
    (∀ S' A' σ' H', EnvS K fx E pa S0 S' A' σ' H' r' p' → Frm S H S' H' → Q σ' H') → g x σ H Q
def gsN (i : Nat) : GS := fun d r p => some (r.set i (.sh d), p)
theorem tgs_name (i : Nat) : TgS K fx (gName i) (gsN i) := ⟨fun E pa S0 S A σ H r p x d r' p' Q e h m q => by
  cases m
  obtain ⟨S', e2, f2⟩ := e.setSh i h
  exact q S' A _ H e2 f2⟩
/-- pool[k] = .. -/
def gsP (mo mi : M) : GS := fun d r p => match mo (shR r) p with
  | some (.pool, p1) => match mi (shR r) p1 with
    | some (.int k, p2) => match d, ixN p2.length k with
      | .int n, some j => some (r, p2.set j n)
      | _, _ => none
    | _ => none
  | _ => none
theorem tgs_pool {mo mi : M} : TgS K fx (gSub (tM K mo) (tM K mi) rSetL) (gsP mo mi) := ⟨fun E pa S0 S A σ H r p x d r' p' Q e h m q => by
  unfold gsP at m
  split at m
  · rename_i p1 m1
    split at m
    · rename_i k p2 m2
      split at m
      · rename_i n j hj
        cases m
        cases h
        refine ⟨pa, S, shR r, p, _, p1, e.cn, m1, fun v H1 x1 s1 r1 => ?_⟩
        have sg : ∀ {H1 : Hp} {p1 : List Int}, Sta pa S H1 p1 → Sta pa S0 H1 p1 := fun s1 => (e.st0 s1)
        have e1 := e.go x1 (sg s1)
        cases r1 with
        | @pool a hp =>
          refine ⟨pa, S, shR r, p1, _, p2, e1.cn, m2, fun w H2 x2 s2 r2 => ?_⟩
          have e2 := e1.go x2 (sg s2)
          cases r2
          have ha := (s2.pool a hp).1
          have hS0 : S0 a := (e.sta.pool a hp).2
          have hSa : S a := (s2.pool a hp).2
          refine ⟨a, p2.map V.int, k, j, rfl, rfl, ha, by rw [List.length_map]; exact hj, ?_⟩
          have sm : Same (hid S H2) (hid S (upd H2 a (.lst ((p2.map V.int).set j (.int n))))) := fun b o hb => by
            obtain ⟨n1, h1⟩ := of_hid hb
            exact hid_of n1 (by rw [upd_ne (fun z => n1 (by rw [z]; exact hSa))]; exact h1)
          refine q S A σ _ ⟨⟨fun b hb => ?_, fun b hb => ?_, ok_upd _ e2.sta.tab ha nst_lst fun z => e2.sta.pn a hp (.inr z), e2.sta.ms, e2.sta.pn, fun b w hb hw => by
            by_cases z : b = a
            · rw [z, upd_same] at hw
              cases hw
              rintro (⟨_, z⟩ | ⟨_, _, z⟩) <;> cases z
            · rw [upd_ne z] at hw
              exact e2.sta.ntp b w hb hw⟩, e.pap, e.pan, e.tbs, e.sub, e.new, fun b o nb hb => ?_, e.hS, fun i d hd => ?_, e.inj, e2.env.mono sm⟩ (((e.frm x1).trans (e1.frm x2)).trans sm)
          · rw [hp] at hb
            cases hb
            exact ⟨by rw [upd_same, List.map_set], hS0⟩
          · by_cases hz : b = a
            · rw [hz]; exact ⟨_, upd_same⟩
            · obtain ⟨o, ho⟩ := e2.sta.trk b hb
              exact ⟨o, by rw [upd_ne hz]; exact ho⟩
          · by_cases hz : b = a
            · subst hz
              cases hf : fx with
              | false => exact absurd (by rw [← (e.pap hf).1]; exact .inl hp) nb
              | true => rw [(e.pan hf).2 b hp] at hb; cases hb
            · rw [upd_ne hz]
              exact e2.ext b o nb hb
          · obtain ⟨g1, g2, g3, u, g5, g6⟩ := e2.own i d hd
            exact ⟨g1, g2, g3, u, by rw [upd_ne (fun z => g3 (by rw [z]; exact hS0))]; exact g5, g6.mono sm⟩
      · cases m
    · cases m
  · cases m⟩
abbrev GSs := List D → Sv → List Int → Option (Sv × List Int)
structure TgsS (K : PySem.W.Frag) (fx : Bool) (g : TGs) (mg : GSs) : Prop where
  run : ∀ (E : En) pa S0 S A σ H r p xs ds r' p' (Q : L2.St → Hp → Prop), EnvS K fx E pa S0 S A σ H r p → RpL K pa (hid S H) xs ds → mg ds r p = some (r', p') →
    (∀ S' A' σ' H', EnvS K fx E pa S0 S' A' σ' H' r' p' → Frm S H S' H' → Q σ' H') → g xs σ H Q
def gss0 : GSs := fun ds r p => match ds with | [] => some (r, p) | _ => none
def gssC (g : GS) (gs : GSs) : GSs := fun ds r p => match ds with | d :: ds => (g d r p).bind fun x => gs ds x.1 x.2 | [] => none
theorem tgss_nil : TgsS K fx gNil gss0 := ⟨fun E pa S0 S A σ H r p xs ds r' p' Q e h m q => by
  cases h with
  | nil => cases m; exact ⟨rfl, q S A σ H e Frm.refl⟩
  | cons _ _ => cases m⟩
theorem tgss_cons {g : TG} {gs : TGs} {mg : GS} {mgs : GSs} (h1 : TgS K fx g mg) (h2 : TgsS K fx gs mgs) : TgsS K fx (gCons g gs) (gssC mg mgs) := ⟨fun E pa S0 S A σ H r p xs ds r' p' Q e h m q => by
  cases h with
  | nil => cases m
  | cons ha hb =>
    simp only [gssC] at m
    cases em : mg _ r p with
    | none => rw [em] at m; cases m
    | some y =>
      obtain ⟨r1, p1⟩ := y
      rw [em] at m
      exact ⟨_, _, rfl, h1.run E pa S0 S A σ H r p _ _ r1 p1 _ e ha em fun S1 A1 σ1 H1 e1 f1 => h2.run E pa S0 S1 A1 σ1 H1 r1 p1 _ _ r' p' _ e1 (RpL.mono f1 _ _ hb) m fun S2 A2 σ2 H2 e2 f2 => q S2 A2 σ2 H2 e2 (f1.trans f2)⟩⟩
def gsT (n : Nat) (gs : GSs) : GS := fun d r p => match d with | .tup ds => if ds.length = n then gs ds r p else none | _ => none
theorem tgs_tup {n : Nat} {gs : TGs} {mgs : GSs} (h : TgsS K fx gs mgs) : TgS K fx (gTup K n gs) (gsT n mgs) := ⟨fun E pa S0 S A σ H r p x d r' p' Q e hx m q => by
  unfold gsT at m
  split at m
  · split at m
    · rename_i hl
      cases hx with
      | tup k1 k2 => exact ⟨_, _, rfl, sameT hid_sub k1, by rw [k2.length]; exact hl, h.run E pa S0 S A σ H r p _ _ r' p' Q e k2 m q⟩
    · cases m
  · cases m⟩
/-- target = e -/
def sAsgG (me : M) (mg : GS) : MS := fun r p => match me (shR r) p with | some (d, p) => (mg d r p).map fun x => .nx x.1 x.2 | none => none
theorem red_asgG {me : M} {g : TG} {mg : GS} (hg : TgS K fx g mg) {D : Ends} {σ : L2.St} {H : Hp} (h : tS K fx E (sAsgG me mg) D σ H) : tAsg (tM K me) g D σ H := by
  obtain ⟨pa, S0, S, A, r, p, o, e, m, q⟩ := h
  unfold sAsgG at m
  split at m
  · rename_i d p1 m1
    cases em : mg d r p1 with
    | none => rw [em] at m; cases m
    | some y =>
      obtain ⟨r1, p2⟩ := y
      rw [em] at m
      cases m
      refine ⟨pa, S, shR r, p, d, p1, e.cn, m1, fun v H1 x1 s1 r1' => ?_⟩
      have e1 := e.go x1 (e.st0 s1)
      exact hg.run E pa S0 S A σ H1 r p1 v d r1 p2 _ e1 r1' em fun S2 A2 σ2 H2 e2 f2 => q pa S0 S2 A2 σ2 H2 e2 ((e.frm x1).trans f2)
  · cases m
end
end Dt
namespace Dt
variable [GTab]
open PySem PySem.Spec PyProof.Rows L2
section
variable {K : PySem.W.Frag} {fx : Bool} {E : En}
def forGo (mg : GS) (b : MS) : List D → MS
  | [] => fun r p => some (.nx r p)
  | d :: ds => fun r p => match mg d r p with
    | some (r, p) => match b r p with
      | some (.nx r p) => forGo mg b ds r p
      | some (.ct r p) => forGo mg b ds r p
      | some (.bk r p) => some (.nx r p)
      | some (.rt d p) => some (.rt d p)
      | none => none
    | none => none
def sFor (fx : Bool) (mi : ML) (mg : GS) (b : MS) : MS := fun r p => match mi (shR r) p with | some (ds, p) => if (!fx || nps ds) = true then forGo mg b ds r p else none | none => none
theorem nps_get : ∀ {ds : List D} {i : Nat} {d : D}, nps ds = true → ds[i]? = some d → np d = true
  | [], _, _, _, e => by simp at e
  | x :: xs, 0, d, h, e => by
    simp at e; subst e
    rw [nps, Bool.and_eq_true] at h; exact h.1
  | x :: xs, i + 1, d, h, e => by
    rw [nps, Bool.and_eq_true] at h
    exact nps_get h.2 (by simpa using e)
theorem red_for {wi : TI} {g : TG} {mi : ML} {mg : GS} {b : MS} (hi : IterD K wi mi) (hg : TgS K fx g mg) {D : Ends} {σ : L2.St} {H : Hp} (h : tS K fx E (sFor fx mi mg b) D σ H) : tFor wi g (tS K fx E b) D σ H := by
  obtain ⟨pa, S0, S, A, r, p, o, e, m, q⟩ := h
  unfold sFor at m
  split at m
  · rename_i ds p1 m1
    split at m
    · rename_i hnp
      refine hi pa S σ H (shR r) p ds p1 _ e.cn m1 fun J H1 x1 s1 ok => ?_
      have e1 := e.go x1 (e.st0 s1)
      have q1 := q.after (e.frm x1)
      refine ⟨fun i k σ' H' => ∃ pa' S0' S' A' r' p', k = ds.length + 1 - i ∧ i ≤ ds.length ∧ EnvS K fx E pa' S0' S' A' σ' H' r' p' ∧ Frm S H1 S' H' ∧ forGo mg b (ds.drop i) r' p' = some o ∧ PostS K fx E S' H' o D,
        ⟨ds.length + 1, pa, S0, S, A, r, p1, rfl, Nat.zero_le _, e1, Frm.refl, by rw [List.drop_zero]; exact m, q1⟩, ?_⟩
      rintro i k σ' H' ⟨pa', S0', S', A', r', p', rfl, hil, e', fr, m', q'⟩
      by_cases hlt : i < ds.length
      · refine .inr ⟨ok.go i S' H' fr e'.staS.trk hlt, fun σ2 H2 => ∃ pa2 S02 S2 A2 r2 p2, EnvS K fx E pa2 S02 S2 A2 σ2 H2 r2 p2 ∧ Frm S H1 S2 H2 ∧ forGo mg b (ds.drop (i + 1)) r2 p2 = some o ∧ PostS K fx E S2 H2 o D, fun σ2 H2 hN => ?_, fun x H2 hy => ?_⟩
        · obtain ⟨pa2, S02, S2, A2, r2, p2, a1, a2, a3, a4⟩ := hN
          exact ⟨ds.length + 1 - (i + 1), by omega, pa2, S02, S2, A2, r2, p2, rfl, hlt, a1, a2, a3, a4⟩
        · obtain ⟨x2, d, hd, rd⟩ := ok.yld i S' H' x H2 fr e'.staS.trk hlt hy
          have hdrop : ds.drop i = d :: ds.drop (i + 1) := by
            rw [List.drop_eq_getElem_cons hlt]
            rw [List.getElem?_eq_getElem hlt] at hd
            rw [Option.some.inj hd]
          have rd' : Rp K pa' (hid S' H2) x d := by
            cases hf : fx with
            | false =>
              have h1 := (e'.pap hf).1
              have h2 := (e.pap hf).1
              rw [h1, ← h2]
              exact rd
            | true =>
              rw [hf] at hnp
              exact Rp.chg d x (nps_get (by simpa using hnp) hd) rd
          have e2 := e'.go (Ext.of x2) (e'.sta.same x2)
          have f2 := e'.frm (Ext.of x2)
          rw [hdrop] at m'
          simp only [forGo] at m'
          split at m'
          · rename_i r3 p3 m3
            refine hg.run E pa' S0' S' A' σ' H2 r' p' x d r3 p3 _ e2 rd' m3 fun S3 A3 σ3 H3 e3 f3 => ?_
            have q3 := (q'.after f2).after f3
            have fr3 : Frm S H1 S3 H3 := (fr.trans f2).trans f3
            split at m'
            · rename_i r4 p4 m4
              exact ⟨pa', S0', S3, A3, r3, p3, _, e3, m4, fun pa5 S05 S5 A5 σ5 H5 e5 f5 => ⟨pa5, S05, S5, A5, r4, p4, e5, fr3.trans f5, m', q3.after f5⟩⟩
            · rename_i r4 p4 m4
              exact ⟨pa', S0', S3, A3, r3, p3, _, e3, m4, fun pa5 S05 S5 A5 σ5 H5 e5 f5 => ⟨pa5, S05, S5, A5, r4, p4, e5, fr3.trans f5, m', q3.after f5⟩⟩
            · rename_i r4 p4 m4
              cases m'
              exact ⟨pa', S0', S3, A3, r3, p3, _, e3, m4, q3⟩
            · rename_i r4 p4 m4
              cases m'
              exact ⟨pa', S0', S3, A3, r3, p3, _, e3, m4, q3⟩
            · cases m'
          · cases m'
      · have hie : i = ds.length := by omega
        subst hie
        rw [List.drop_length] at m'
        cases m'
        exact .inl ⟨ok.stop _ S' H' fr e'.staS.trk (Nat.le_refl _), q' pa' S0' S' A' σ' H' e' Frm.refl⟩
    · cases m
  · cases m
/-- a, b = e1, e2 -/
def sPar (i j : Nat) (ms : ML) : MS := fun r p => match ms (shR r) p with | some ([x, y], p) => some (.nx ((r.set i (.sh x)).set j (.sh y)) p) | _ => none
theorem red_par {i j : Nat} {ms : ML} {D : Ends} {σ : L2.St} {H : Hp} (h : tS K fx E (sPar i j ms) D σ H) : tPar i j (tML K ms) D σ H := by
  obtain ⟨pa, S0, S, A, r, p, o, e, m, q⟩ := h
  unfold sPar at m
  split at m
  · rename_i x y p1 m1
    cases m
    refine ⟨pa, S, shR r, p, _, p1, e.cn, m1, fun vs H1 x1 s1 r1 => ?_⟩
    obtain ⟨v, w, rfl, rv, rw'⟩ := r1.two
    have e1 := e.go x1 (e.st0 s1)
    obtain ⟨S2, e2, f2⟩ := e1.setSh i rv
    obtain ⟨S3, e3, f3⟩ := e2.setSh j (Rp.mono f2 _ _ rw')
    exact ⟨v, w, rfl, q pa S0 S3 A _ H1 e3 (((e.frm x1).trans f2).trans f3)⟩
  · cases m
/-- a, b = e1, [..]: b owned -/
def sParO (i j : Nat) (me : M) (mf : ML) : MS := fun r p => match me (shR r) p with
  | some (x, p) => (match mf (shR r) p with
    | some (ds, p) => if j < r.length then some (.nx ((r.set i (.sh x)).set j (.ow (.lst ds))) p) else none
    | none => none)
  | none => none
theorem red_parO {i j : Nat} (hij : i ≠ j) {me : M} {mf : ML} {D : Ends} {σ : L2.St} {H : Hp} (h : tS K fx E (sParO i j me mf) D σ H) : tPar i j (tCons (tM K me) (tCons (tF K mf) tNil)) D σ H := by
  obtain ⟨pa, S0, S, A, r, p, o, e, m, q⟩ := h
  unfold sParO at m
  split at m
  · rename_i x p1 m1
    split at m
    · rename_i ds p2 m2
      split at m
      · rename_i hj
        cases m
        refine ⟨pa, S, shR r, p, x, p1, e.cn, m1, fun v H1 x1 s1 r1 => ?_⟩
        have e1 := e.go x1 (e.st0 s1)
        refine ⟨pa, S, shR r, p1, ds, p2, e1.cn, m2, fun a xs H2 x2 s2 hn ha hr => ?_⟩
        refine ⟨v, .ref a, rfl, ?_⟩
        obtain ⟨S2, A2, e2, f2⟩ := e1.mine (dd := .lst _) hj x2 s2 hn ha hr
        obtain ⟨S3, e3, f3⟩ := e2.setSh i (Rp.mono f2 _ _ r1)
        rw [List.set_comm _ _ hij]
        refine q pa S0 S3 A2 _ H2 ?_ (((e.frm x1).trans f2).trans f3)
        rw [List.set_comm _ _ hij]
        exact e3
      · cases m
    · cases m
  · cases m
/-- x = a new list of ints, the pool from here -/
def asInts : List D → Option (List Int)
  | [] => some []
  | .int b :: ds => (asInts ds).map (b :: ·)
  | _ => none
theorem asInts_eq : ∀ {ds : List D} {bs : List Int}, asInts ds = some bs → ds = bs.map D.int
  | [], _, h => by cases h; rfl
  | d :: ds, bs, h => by
    cases d with
    | int b =>
      simp only [asInts] at h
      cases e : asInts ds with
      | none => rw [e] at h; cases h
      | some cs => rw [e] at h; cases h; rw [asInts_eq e]; rfl
    | _ => cases h
def Cl.clean : Cl → Cl
  | .sh d => if np d = true then .sh d else .no
  | _ => .no
def sPool (i : Nat) (mf : ML) : MS := fun r p => match mf (shR r) p with
  | some (ds, _) => (match asInts ds with | some ns => if i < r.length then some (.nx ((r.map Cl.clean).set i (.sh .pool)) ns) else none | none => none)
  | none => none
end
end Dt
namespace Dt
variable [GTab]
open PySem PySem.Spec PyProof.Rows L2
section
variable {fx : Bool} {X : Cx} {st : Stmt} {rest : List Stmt} {ma mb : MS} {pos : Pos}
theorem jss_nil : JSs fx X [] sNext := ⟨fun E => pss_nil.weak fun D σ H => red_next⟩
theorem jss_cons (h1 : JS fx X st ma) (h2 : JSs fx X rest mb) : JSs fx X (st :: rest) (sSeq ma mb) := ⟨fun E => (pss_cons (h1.ps E) (h2.ps E)).weak fun D σ H => red_seq⟩
theorem jss_one (h1 : JS fx X st ma) : JSs fx X [st] ma := ⟨fun E => pss_one (h1.ps E)⟩
theorem jss_nev {sts : List Stmt} : JSs fx X sts sNev := ⟨fun E => pss_never.weak fun D σ H => red_nev⟩
theorem js_nev : JS fx X st sNev := ⟨fun E => ps_never.weak fun D σ H => red_nev⟩
variable {e : Expr} {me : M} {i : Nat} {x : Str} {pos' : Pos}
theorem js_ret (h : JE X e me) : JS fx X (.Return (some e) pos) (sRet fx me) := ⟨fun E => (ps_ret h.pe).weak fun D σ H => red_ret⟩
theorem js_drop (h : JE X e me) (hs : swapsWith e none pos.line X.env = pure false := by rfl) : JS fx X (.Expr e pos) (sDrop me) := ⟨fun E => (ps_expr h.pe hs).weak fun D σ H => red_drop⟩
theorem js_asg (h : JE X e me) (hN : X.N.Nodup) (hi : X.N[i]? = some x := by rfl) (hx : Loc X.env.scope x := by first | exact Or.inl rfl | exact Or.inr rfl) (hs : swapsWith e (some (.Name x pos')) pos.line X.env = pure false := by rfl)
    (hf : X.fn x = true ∨ X.env.scope.names.lookup x = some .local := by first | exact .inl rfl | exact .inr rfl) : JS fx X (.Assign [.Name x pos'] e pos) (sAsg i me) := ⟨fun E => (ps_set hN hi hx h.pe hs hf).weak fun D σ H => red_asg⟩
/-- y = [.. for ..] on one line -/
theorem js_asgG {tg : Expr} {g : TG} {mg : GS} (h : JE X e me) (hg : PG X tg g) (hgd : TgS X.K fx g mg) (hs : swapsWithSole [tg] e pos.line X.env = pure false := by rfl) (hw : swappedStores [tg] e X.env = pure none := by rfl)
    (h1 : (assignEach [tg] X.env).map (·.2) = [assign tg X.env] := by rfl) : JS fx X (.Assign [tg] e pos) (sAsgG me mg) := ⟨fun E => (ps_asg h.pe hg hs hw h1).weak fun D σ H => red_asgG hgd⟩
theorem js_if {c : Expr} {a b : List Stmt} {mt : MB} (hc : JT X c mt) (ha : JSs fx X a ma) (hb : JSs fx X b mb) : JS fx X (.If c a b pos) (sIf mt ma mb) := ⟨fun E => (ps_if hc.pt (ha.ps E) (hb.ps E)).weak fun D σ H => red_if⟩
theorem js_for {tg iter : Expr} {b : List Stmt} {mi : ML} {g : TG} {mg : GS} (hp : PassesOwn (model X.prog X.w) X.A X.env X.xe) (hc : X.calm = true) (hi : JI X tg iter mi) (hg : PG X tg g) (hgd : TgS X.K fx g mg) (hb : JSs fx X b mb)
    (hs : ∀ x, foldedSetIterable iter X.env x = pure x := by intro _; rfl) : JS fx X (.For tg iter b [] pos) (sFor fx mi mg mb) := by
  obtain ⟨wi, h1, h2⟩ := hi.ex
  exact ⟨fun E => (ps_for hp hc h1 hg (hb.ps E) hs).weak fun D σ H => red_for h2 hgd⟩
theorem js_app {e : Expr} {me : M} {vp apos cpos : Pos} (h : JE X e me) (hN : X.N[i]? = some x := by rfl) (hv : Vis X.env.scope x := by first | exact Or.inl rfl | exact Or.inr (Or.inl rfl) | exact Or.inr (Or.inr rfl)) (hd : (x == ("__debug__" : Str)) = false := by decide) (hcd : (x == ("__classdict__" : Str)) = false := by decide)
    (hbase : attributeBase (.Name x vp) "append" X.env (eval (.Name x vp) X.env) = eval (.Name x vp) X.env := by rfl)
    (hfew : ((backTo cpos (starEach [e] X.env)).all (fun x => !x.1) && (backToKw cpos (keywordEach [] X.env)).all (fun x => x.1.isSome) && decide ([e].length + ([] : List Keyword).length + (if ([] : List Keyword).isEmpty then 0 else 1) < 30)) = true := by rfl)
    (hline : (apos.endLine == cpos.line) = true := by rfl) (hs : starEach [e] X.env = (false, eval e X.env) :: starEach [] X.env := by rfl) (hpl : (backTo cpos (starEach [] X.env)).any (·.1) = false := by rfl)
    (hsw : swapsWith (.Call (.Attribute (.Name x vp) "append" apos) [e] [] cpos) none pos.line X.env = pure false := by rfl) :
    JS fx X (.Expr (.Call (.Attribute (.Name x vp) "append" apos) [e] [] cpos) pos) (sApp i me) :=
  ⟨fun E => (ps_expr (pe_bm PySem.F.plainAttrs_list PySem.F.slot_list_append PySem.F.type_list_append mt_append (pe_var hN hv hd hcd) (pa_cons h.pe pa_nil hs) hbase hfew hline hs hpl) hsw).weak fun D σ H => red_app⟩
theorem js_par {i j : Nat} {x y : Str} {a b : Expr} {ms : ML} {px py pt : Pos} {kt k2 pt2} (hc : X.calm = true) (hN : X.N.Nodup) (ha : JA X [a, b] ms) (hi : X.N[i]? = some x := by rfl) (hj : X.N[j]? = some y := by rfl) (hij : i ≠ j := by decide)
    (hx : X.env.scope.names.lookup x = some .local := by rfl) (hy : X.env.scope.names.lookup y = some .local := by rfl)
    (hw : swappedStores [.Tuple [.Name x px, .Name y py] kt pt] (.Tuple [a, b] k2 pt2) X.env = pure (some [x, y]) := by rfl)
    (hs : swapsWithSole [.Tuple [.Name x px, .Name y py] kt pt] (.Tuple [a, b] k2 pt2) pos.line X.env = pure false := by rfl) :
    JS fx X (.Assign [.Tuple [.Name x px, .Name y py] kt pt] (.Tuple [a, b] k2 pt2) pos) (sPar i j ms) := ⟨fun E => (ps_par hc hN hi hj hij hx hy ha.pa hw hs).weak fun D σ H => red_par⟩
theorem js_parO {i j : Nat} {x y : Str} {a b : Expr} {me : M} {mf : ML} {px py pt : Pos} {kt k2 pt2} (hc : X.calm = true) (hN : X.N.Nodup) (ha : JE X a me) (hb : JF X b mf) (hi : X.N[i]? = some x := by rfl) (hj : X.N[j]? = some y := by rfl) (hij : i ≠ j := by decide)
    (hx : X.env.scope.names.lookup x = some .local := by rfl) (hy : X.env.scope.names.lookup y = some .local := by rfl)
    (hw : swappedStores [.Tuple [.Name x px, .Name y py] kt pt] (.Tuple [a, b] k2 pt2) X.env = pure (some [x, y]) := by rfl)
    (hs : swapsWithSole [.Tuple [.Name x px, .Name y py] kt pt] (.Tuple [a, b] k2 pt2) pos.line X.env = pure false := by rfl)
    (h1 : starEach [a, b] X.env = (false, eval a X.env) :: starEach [b] X.env := by rfl) (h2 : starEach [b] X.env = (false, eval b X.env) :: starEach [] X.env := by rfl) :
    JS fx X (.Assign [.Tuple [.Name x px, .Name y py] kt pt] (.Tuple [a, b] k2 pt2) pos) (sParO i j me mf) := ⟨fun E => (ps_par hc hN hi hj hij hx hy (pa_cons ha.pe (pa_cons hb.pe pa_nil h2) h1) hw hs).weak fun D σ H => red_parO hij⟩
/-- new lists -/
theorem jf_lst {es : List Expr} {ms : ML} (h : JA X es ms) : JF X (.List es pos) (fun r p => bnd (ms r p) fun ds p => if ds.length ≤ lim then some (ds, p) else none) := ⟨(pe_lst h.pa).weak fun σ H Q ⟨pa, S, r, p, ds, p', c, e, q⟩ => by
  obtain ⟨xs, p1, e1, e⟩ := bnd_some e
  split at e
  · rename_i hl
    obtain ⟨rfl, rfl⟩ := pr e
    refine ⟨pa, S, r, p, xs, p1, c, e1, fun v1 H1 x1 s1 r1 => ⟨by rw [r1.length]; exact lim_sz hl, fun a n => ?_⟩⟩
    exact q a _ _ (x1.trans (Ext.of (same_upd n))) (s1.same (same_upd n)) (x1.free (s1.notpool n) n) upd_same (RpL.mono (sub_hid n (Same.hid (same_upd n))) _ _ r1)
  · cases e⟩
/-- a starred argument -/
def mStar (a : M) (b : ML) : ML := fun r p => bnd (a r p) fun x p => match x with
  | .lst ds => bnd (b r p) fun ys p => some (ds ++ ys, p)
  | .tup ds => bnd (b r p) fun ys p => some (ds ++ ys, p)
  | _ => none
end
def startR (N n : Nat) (ds : List D) : Sv := ds.map .sh ++ List.replicate (N - n) .no
def runF (N n : Nat) (m : MS) : MF := fun ds p => match m (startR N n ds) p with | some (.rt d p) => some (d, p) | some (.nx _ p) => some (.non, p) | _ => none
section
variable {P : Program} {w : World} {K : PySem.W.Frag} {mg : Str → Option Value} {base : Heap}
theorem env_start {fx : Bool} {N ps : List Str} {pa : PAx} {S : Addr → Prop} {H : Hp} {p : List Int} {vs : List V} {ds : List D} (hfx : fx = true → pa.po = none) (hl : ds.length = ps.length) (hN : ps.length ≤ N.length) (s : Sta pa S H p) (r : RpL K pa (hid S H) vs ds) :
    EnvS K fx ⟨pa, S, H⟩ pa S S (fun _ => 0) (start N vs) H (startR N.length ps.length ds) p := by
  have no : ∀ (i : Nat) (d : D), (startR N.length ps.length ds)[i]? ≠ some (.ow d) := fun i d h => by
    unfold startR at h
    by_cases hi : i < ds.length
    · rw [List.getElem?_append_left (by rw [List.length_map]; exact hi), List.getElem?_map] at h
      cases e : ds[i]? with
      | none => rw [e] at h; cases h
      | some x => rw [e] at h; cases h
    · rw [List.getElem?_append_right (by rw [List.length_map]; omega), List.getElem?_replicate] at h
      split at h <;> cases h
  refine ⟨s, fun _ => ⟨rfl, fun a ha => (s.pool a ha).2⟩, fun hf => ⟨hfx hf, fun b hb => ?_⟩, ⟨rfl, s.ms⟩, fun _ h => h, fun _ h => .inl h, Ext.refl, fun a => ⟨.inl, fun h => ?_⟩, fun i d h => absurd h (no i d), fun i j d e h => absurd h (no i d), ?_, fun i d h => ?_⟩
  · rw [hfx hf] at hb; cases hb
  · rcases h with h | ⟨i, d, h, _⟩
    · exact h
    · exact absurd h (no i d)
  · unfold L2.start shR startR
    have := r.length
    rw [List.length_append, List.length_map, List.length_replicate, List.length_map, List.length_append, List.length_map, List.length_replicate]
    omega
  · have h2 := shR_get.mp h
    have hrl := r.length
    unfold startR at h2
    by_cases hi : i < ds.length
    · rw [List.getElem?_append_left (by rw [List.length_map]; exact hi), List.getElem?_map] at h2
      cases e : ds[i]? with
      | none => rw [e] at h2; cases h2
      | some x =>
        rw [e] at h2
        cases h2
        obtain ⟨v, h3, h4⟩ := r.get e
        refine ⟨v, ?_, h4⟩
        unfold L2.start
        rw [List.getElem?_append_left (by rw [List.length_map]; omega), List.getElem?_map, h3]
        rfl
    · rw [List.getElem?_append_right (by rw [List.length_map]; omega), List.getElem?_replicate] at h2
      split at h2 <;> cases h2
theorem fn_ok {x qual : Str} {st : Stmt} {f : Addr} {fd : FuncData} {N ps : List Str} {k : Nat} {m : MS} (F : Fun K x qual st f fd) (S : FnScope N ps (defScope st)) (hN : ps.length ≤ N.length)
    (body : ∀ (cdv : Value) (A : Around) (outer : List Env) (s : Shared) (H : Hp) (E : XK), Room k (A.deeper (envOfC qual (defScope st) s.heap.objs.size f cdv)) → JSs false (cxOf CX0 P w K mg base N qual (defScope st) f cdv A outer s H E).nox (defBody st) m) :
    FnOk P w K mg base CX0 (k + 1) f fd ps (spM K ps.length (runF N.length ps.length m)) := by
  refine F.ok S (fun vs H Q E h => ?_) (fun cdv A outer s H vs Q E hr h => ?_)
  · obtain ⟨pa, S, p, ds, d, p', s, r, hl, e, q⟩ := h
    rw [r.length, hl]
  · obtain ⟨pa, S0, p, ds, d, p', sta, r, hl, e, q⟩ := h
    refine ⟨_, (body cdv A outer s H E hr).ps ⟨pa, S0, H⟩, ?_⟩
    unfold runF at e
    have e0 := env_start (fx := false) (N := N) (fun z => by cases z) hl hN sta r
    split at e
    · rename_i d1 p1 m1
      obtain ⟨rfl, rfl⟩ := pr e
      exact ⟨pa, S0, S0, _, _, p, _, e0, m1, fun v H' x s2 r2 => q v H' x s2 r2⟩
    · rename_i r1 p1 m1
      obtain ⟨rfl, rfl⟩ := pr e
      exact ⟨pa, S0, S0, _, _, p, _, e0, m1, fun pa2 S02 S2 A2 σ2 H2 e2 f2 => by
        have so := e2.outF rfl e2.sta
        obtain ⟨h1, h2⟩ := e2.pap rfl
        subst h1
        exact q .non H2 e2.ext so .non⟩
    · cases e
/-- the law's own def: no pool at its entry -/
def spL (K : PySem.W.Frag) (n : Nat) (m : MF) : Sp := fun vs H Q _ => ∃ tb S p ds d p', Sta ⟨none, tb⟩ S H p ∧ RpL K ⟨none, tb⟩ (hid S H) vs ds ∧ ds.length = n ∧ m ds p = some (d, p') ∧ PostE K ⟨none, tb⟩ S H p' d Q
end
end Dt
namespace Dt
variable [GTab]
open PySem PySem.Spec PyProof.Rows L2
section
variable {X : Cx}
def mEnumT (a : ML) : ML := fun r p => bnd (a r p) fun xs p => match xs with
  | [.tup ds] => some (enumD ds, p)
  | _ => none
/-- zip(a, b, strict=c) -/
def sqOf : D → Option (Bool × List D)
  | .lst ds => some (false, ds)
  | .tup ds => some (true, ds)
  | _ => none
def zipOk (c t u : Bool) (n m : Nat) : Bool := if c = true then n == m else t == u
def mZipK (c : Bool) (a : ML) : ML := fun r p => bnd (a r p) fun xs p => match xs with
  | [x, y] => match sqOf x, sqOf y with
    | some (t, ds), some (u, es) => if zipOk c t u ds.length es.length = true then some (zipD ds es, p) else none
    | _, _ => none
  | _ => none
end
abbrev MFl := List D → List Int → MR (List D)
def spFr (K : PySem.W.Frag) (n : Nat) (m : MFl) : Sp := fun vs H Q _ => ∃ pa S p ds es p', Sta pa S H p ∧ RpL K pa (hid S H) vs ds ∧ ds.length = n ∧ m ds p = some (es, p') ∧
  ∀ a xs H', Ext pa H H' → Sta pa S H' p' → H a = none → H' a = some (.lst xs) → RpL K pa (hid (fun b => S b ∨ b = a) H') xs es → Q (.ref a) H'
def mCallF (n : Nat) (m : MFl) (a : ML) : ML := fun r p => bnd (a r p) fun ds p => if ds.length = n then m ds p else none
theorem red_callF {K : PySem.W.Frag} {n : Nat} {m : MFl} {a : ML} {σ : L2.St} {H : Hp} {Q : VK} {E : XK} (h : tF K (mCallF n m a) σ H Q) : tCall (spFr K n m) [] E (tML K a) σ H Q := by
  obtain ⟨pa, S, r, p, ds, p', c, e, q⟩ := h
  obtain ⟨xs, p1, e1, e⟩ := bnd_some e
  split at e
  · rename_i hl
    refine ⟨pa, S, r, p, xs, p1, c, e1, fun vs H1 x1 s1 r1 => ?_⟩
    refine ⟨pa, S, p1, xs, ds, p', s1, by rw [List.append_nil]; exact r1, hl, e, fun a ys H' x s' hn ha hr => ?_⟩
    exact q a ys H' (x1.trans x) s' (x1.free (s1.notpool hn) hn) ha hr
  · cases e
section
variable {X : Cx} {k n : Nat} {f : Addr} {fd : FuncData} {ps : List Str} {m : MFl} {x : Str} {p pos : Pos} {e : Expr} {es : List Expr} {ms : ML}
theorem jf_call (F : FnOk X.prog X.w X.K X.mg X.base CX0 k f fd ps (spFr X.K n m)) (hr : Room k X.A) (hm : X.mg x = some (.ref f)) (hk : PySem.W.keepIn X.K (.ref f) = true) (hb : Binds X.K fd ps []) (ha : JA X (e :: es) ms) (hg : Gl X x := by rfl) (hdb : (x == ("__debug__" : Str)) = false := by decide)
    (he : starEach (e :: es) X.env = (false, eval e X.env) :: starEach es X.env := by rfl) (hpl : (backTo pos (starEach es X.env)).any (·.1) = false := by rfl) : JF X (.Call (.Name x p) (e :: es) [] pos) (mCallF n m ms) :=
  ⟨(pe_call F hr hg hm hk hb .nil pass0 ha.pa hdb he hpl).weak fun σ H Q h => red_callF h⟩
end
end Dt
namespace Dt
variable [GTab]
open PySem PySem.Spec PyProof.Rows L2
abbrev MSl := Sv → List Int → MR (List D)
def tR (K : PySem.W.Frag) (E : En) (mf : MSl) : TS := fun D σ H => ∃ pa S0 S A r p es p', EnvS K false E pa S0 S A σ H r p ∧ mf r p = some (es, p') ∧
  ∀ a xs H', Ext E.pa E.H H' → Sta E.pa E.S H' p' → E.H a = none → H' a = some (.lst xs) → RpL K E.pa (hid (fun b => E.S b ∨ b = a) H') xs es → D.rt (.ref a) H'
structure JSsR (X : Cx) (sts : List Stmt) (mf : MSl) : Prop where
  ps : ∀ E, PSs X sts (tR X.K E mf)
section
variable {X : Cx} {st : Stmt} {rest : List Stmt} {m0 : MS} {mf : MSl} {me : ML} {e : Expr} {pos : Pos}
def rRet (me : ML) : MSl := fun r p => me (viR r) p
def rSeq (a : MS) (b : MSl) : MSl := fun r p => match a r p with | some (.nx r p) => b r p | _ => none
theorem jr_ret (h : JF X e me) : JSsR X [.Return (some e) pos] (rRet me) := ⟨fun E => (pss_one (ps_ret h.pe)).weak fun D σ H ⟨pa, S0, S, A, r, p, es, p', e, em, q⟩ => by
  refine ⟨pa, S0, viR r, p, es, p', e.vis, em, fun a xs H' x s hn ha hr => ?_⟩
  have so := e.outF rfl s
  obtain ⟨h1, h2⟩ := e.pap rfl
  subst h1
  refine q a xs H' (e.ext.trans x) so (e.ext.free (e.sta.notpool hn) hn) ha (RpL.mono (hid_mono (fun b o _ h => h) fun b hb o ho => ?_) _ _ hr)
  rcases hb with hb | hb
  · exact .inl (e.sub b hb)
  · exact .inr hb⟩
theorem jr_cons (h1 : JS false X st m0) (h2 : JSsR X rest mf) : JSsR X (st :: rest) (rSeq m0 mf) := ⟨fun E => (pss_cons (h1.ps E) (h2.ps E)).weak fun D σ H ⟨pa, S0, S, A, r, p, es, p', e, em, q⟩ => by
  unfold rSeq at em
  split at em
  · rename_i r1 p1 e1
    exact ⟨pa, S0, S, A, r, p, _, e, e1, fun pa2 S02 S2 A2 σ2 H2 e2 f2 => ⟨pa2, S02, S2, A2, r1, p1, es, p', e2, em, q⟩⟩
  · cases em⟩
end
section
variable {P : Program} {w : World} {K : PySem.W.Frag} {mg : Str → Option Value} {base : Heap}
def runR (N n : Nat) (m : MSl) : MFl := fun ds p => m (startR N n ds) p
theorem fn_okFr {x qual : Str} {st : Stmt} {f : Addr} {fd : FuncData} {N ps : List Str} {k : Nat} {m : MSl} (F : Fun K x qual st f fd) (S : FnScope N ps (defScope st)) (hN : ps.length ≤ N.length)
    (body : ∀ (cdv : Value) (A : Around) (outer : List Env) (s : Shared) (H : Hp) (E : XK), Room k (A.deeper (envOfC qual (defScope st) s.heap.objs.size f cdv)) → JSsR (cxOf CX0 P w K mg base N qual (defScope st) f cdv A outer s H E).nox (defBody st) m) :
    FnOk P w K mg base CX0 (k + 1) f fd ps (spFr K ps.length (runR N.length ps.length m)) := by
  refine F.ok S (fun vs H Q E h => ?_) (fun cdv A outer s H vs Q E hr h => ?_)
  · obtain ⟨pa, S, p, ds, d, p', s, r, hl, e, q⟩ := h
    rw [r.length, hl]
  · obtain ⟨pa, S0, p, ds, es, p', sta, r, hl, e, q⟩ := h
    refine ⟨_, (body cdv A outer s H E hr).ps ⟨pa, S0, H⟩, ?_⟩
    have e0 := env_start (fx := false) (N := N) (fun z => by cases z) hl hN sta r
    exact ⟨pa, S0, S0, _, _, p, es, p', e0, e, fun a xs H' x s' hn ha hr => q a xs H' x s' hn ha hr⟩
end
end Dt
namespace Dt
variable [GTab]
open PySem PySem.Spec PyProof.Rows L2
section
variable {X : Cx} {K : PySem.W.Frag}
theorem je_gstr {x : Str} {z : Str} {pos : Pos} (hm : ∃ t, X.mg x = some (.str z t)) (hl : z.length ≤ lim := by decide +kernel) (hg : Gl X x := by rfl) (hd : (x == ("__debug__" : Str)) = false := by decide) : JE X (.Name x pos) (mC (.str z)) := by
  obtain ⟨t, ht⟩ := hm
  exact je_glob (v := .str z) ht ⟨t, rfl⟩ (fun _ _ => .str z hl) hg hd
theorem je_gint {x : Str} {z : Int} {pos : Pos} (hm : ∃ t, X.mg x = some (.int z t)) (hg : Gl X x := by rfl) (hd : (x == ("__debug__" : Str)) = false := by decide) : JE X (.Name x pos) (mC (.int z)) := by
  obtain ⟨t, ht⟩ := hm
  exact je_glob (v := .int z) ht ⟨t, rfl⟩ (fun _ _ => .int z) hg hd
end
theorem bt_len : bootBuiltins "len" = some (.builtin "len") := by decide +kernel
theorem bt_abs : bootBuiltins "abs" = some (.builtin "abs") := by decide +kernel
theorem bt_all : bootBuiltins "all" = some (.builtin "all") := by decide +kernel
theorem bt_divmod : bootBuiltins "divmod" = some (.builtin "divmod") := by decide +kernel
theorem bt_min : bootBuiltins "min" = some (.builtin "min") := by decide +kernel
theorem bt_max : bootBuiltins "max" = some (.builtin "max") := by decide +kernel
theorem bt_int : bootBuiltins "int" = some (.type "int") := by decide +kernel
theorem bt_tuple : bootBuiltins "tuple" = some (.type "tuple") := by decide +kernel
theorem bt_str : bootBuiltins "str" = some (.type "str") := by decide +kernel
section
variable {X : Cx} {elt tg iter : Expr} {scope : Scope} {pos : Pos} {mi : ML} {me : M} {mt : MB} {g : TG} {ts : List Nat} {mg : D → Ev → Option Ev}
theorem jf_lcN {ifs : List Expr} (N : List Str) (sc : Scope) (own : List (Str × Nat)) (hc : X.calm = true) (hN : X.N.Nodup) (hi : JI X tg iter mi) (ok : BlkOk N sc scope own)
    (hg : ∀ (s : Shared) (H : Hp) (C : Addr) (cl : List (Str × Addr)) (fp : List Addr), PG (X.blk s H scope (compEnvC scope cl C X.env) fp) tg g) (hgd : TgD X.K g ts mg) (hts : ∀ t ∈ ts, t ∈ own.map (·.2))
    (ht : ∀ (s : Shared) (H : Hp) (C : Addr) (cl : List (Str × Addr)) (fp : List Addr), JTs (X.blk s H scope (compEnvC scope cl C X.env) fp) ifs mt) (he : ∀ (s : Shared) (H : Hp) (C : Addr) (cl : List (Str × Addr)) (fp : List Addr), JE (X.blk s H scope (compEnvC scope cl C X.env) fp) elt me)
    (hNe : X.N = N := by rfl) (hsc : X.env.scope = sc := by rfl) (hs : ∀ x, foldedSetIterable iter X.env x = pure x := by intro _; rfl) :
    JF X (.ListComp elt [⟨tg, iter, ifs, 0⟩] scope pos) (mLc (own.map (·.2)) mi mg mt me) := by
  subst hNe
  subst hsc
  exact jf_lc own hc hN hi ok hg hgd hts ht he hs
theorem js_setLc {fx : Bool} {i : Nat} {y : Str} {py spos : Pos} {ifs : List Expr} (N : List Str) (sc : Scope) (own : List (Str × Nat)) (hc : X.calm = true) (hN : X.N.Nodup) (hi : JI X tg iter mi) (ok : BlkOk N sc scope own)
    (hg : ∀ (s : Shared) (H : Hp) (C : Addr) (cl : List (Str × Addr)) (fp : List Addr), PG (X.blk s H scope (compEnvC scope cl C X.env) fp) tg g) (hgd : TgD X.K g ts mg) (hts : ∀ t ∈ ts, t ∈ own.map (·.2))
    (ht : ∀ (s : Shared) (H : Hp) (C : Addr) (cl : List (Str × Addr)) (fp : List Addr), JTs (X.blk s H scope (compEnvC scope cl C X.env) fp) ifs mt) (he : ∀ (s : Shared) (H : Hp) (C : Addr) (cl : List (Str × Addr)) (fp : List Addr), JE (X.blk s H scope (compEnvC scope cl C X.env) fp) elt me)
    (hy : X.N[i]? = some y := by rfl) (hyl : X.env.scope.names.lookup y = some .local := by rfl)
    (hsw : swapsWith (.ListComp elt [⟨tg, iter, ifs, 0⟩] scope pos) (some (.Name y py)) spos.line X.env = pure true := by exact sw_true rfl rfl rfl rfl)
    (hNe : X.N = N := by rfl) (hsc : X.env.scope = sc := by rfl) (hs : ∀ x, foldedSetIterable iter X.env x = pure x := by intro _; rfl) :
    JS fx X (.Assign [.Name y py] (.ListComp elt [⟨tg, iter, ifs, 0⟩] scope pos) spos) (sAsg i (mOfF (mLc (own.map (·.2)) mi mg mt me))) := by
  subst hNe
  subst hsc
  obtain ⟨wi, h1, h2⟩ := hi.ex
  exact ⟨fun E => (ps_setLc hc hN hy hyl hsw h1 ok hg (fun s H C cl fp => (ht s H C cl fp).pt) (fun s H C cl fp => (he s H C cl fp).pe) hs).weak fun D σ H h => red_lc h2 hgd hts (red_ofF (red_asg h))⟩
end
def mFresh (a : ML) : ML := fun r p => bnd (a r p) fun ds p => if ds.length ≤ lim then some (ds, p) else none
end Dt
namespace Dt
variable [GTab]
open PySem PySem.Spec PyProof.Rows L2
def Wp {α : Type} (x : MR α) (Q : α → List Int → Prop) : Prop := ∃ a p, x = some (a, p) ∧ Q a p
@[simp] theorem wp_none {α : Type} {Q : α → List Int → Prop} : Wp (none : MR α) Q ↔ False := by simp [Wp]
@[simp] theorem wp_some {α : Type} {Q : α → List Int → Prop} {a : α} {p : List Int} : Wp (some (a, p)) Q ↔ Q a p := ⟨fun ⟨a', p', e, h⟩ => by cases e; exact h, fun h => ⟨a, p, rfl, h⟩⟩
@[simp] theorem wp_bnd {α β : Type} {x : MR α} {f : α → List Int → MR β} {Q : β → List Int → Prop} : Wp (bnd x f) Q ↔ Wp x fun a p => Wp (f a p) Q := by
  cases x with
  | none => simp [bnd]
  | some a => obtain ⟨a, p⟩ := a; simp [bnd]
@[simp] theorem wp_lft {α : Type} {x : Option α} {p : List Int} {Q : α → List Int → Prop} : Wp (lft x p) Q ↔ ∃ a, x = some a ∧ Q a p := by
  cases x <;> simp [lft]
@[simp] theorem wp_ite {α : Type} {c : Prop} [Decidable c] {x y : MR α} {Q : α → List Int → Prop} : Wp (if c then x else y) Q ↔ (if c then Wp x Q else Wp y Q) := by
  split <;> rfl
theorem Wp.mono {α : Type} {x : MR α} {Q R : α → List Int → Prop} (h : Wp x Q) (q : ∀ a p, Q a p → R a p) : Wp x R := by
  obtain ⟨a, p, e, h⟩ := h
  exact ⟨a, p, e, q a p h⟩
theorem Wp.of_eq {α : Type} {x : MR α} {a : α} {p : List Int} {Q : α → List Int → Prop} (e : x = some (a, p)) (h : Q a p) : Wp x Q := ⟨a, p, e, h⟩
def Pr2 (ds : List D) (q : D → D → Prop) : Prop := match ds with
  | [x, y] => q x y
  | _ => False
@[simp] theorem pr2 {x y : D} {q : D → D → Prop} : Pr2 [x, y] q ↔ q x y := Iff.rfl
theorem pr2_of {ds : List D} {q : D → D → Prop} (h : Pr2 ds q) : ∃ x y, ds = [x, y] ∧ q x y := by
  unfold Pr2 at h
  split at h
  · exact ⟨_, _, rfl, h⟩
  · exact h.elim
section
variable {r : Ev} {p : List Int} {Q : D → List Int → Prop} {QB : Bool → List Int → Prop} {QL : List D → List Int → Prop}
@[simp] theorem wp_c {d : D} : Wp (mC d r p) Q ↔ Q d p := by simp [mC]
@[simp] theorem wp_op {f : D → D → Option D} {a b : M} : Wp (mOp f a b r p) Q ↔ Wp (a r p) fun x p => Wp (b r p) fun y p => ∃ z, f x y = some z ∧ Q z p := by simp [mOp]
@[simp] theorem wp_un {f : D → Option D} {a : M} : Wp (mUn f a r p) Q ↔ Wp (a r p) fun x p => ∃ z, f x = some z ∧ Q z p := by simp [mUn]
@[simp] theorem wp_nil : Wp (mNil r p) QL ↔ QL [] p := by simp [mNil]
@[simp] theorem wp_cons {a : M} {b : ML} : Wp (mCons a b r p) QL ↔ Wp (a r p) fun x p => Wp (b r p) fun xs p => QL (x :: xs) p := by simp [mCons]
@[simp] theorem wp_cb {f : List D → Option D} {a : ML} : Wp (mCB f a r p) Q ↔ Wp (a r p) fun xs p => ∃ z, f xs = some z ∧ Q z p := by simp [mCB]
@[simp] theorem wp_mt {f : D → List D → Option D} {o : M} {a : ML} : Wp (mMt f o a r p) Q ↔ Wp (o r p) fun x p => Wp (a r p) fun xs p => ∃ z, f x xs = some z ∧ Q z p := by simp [mMt]
@[simp] theorem wp_tst {a : M} : Wp (mTst a r p) QB ↔ Wp (a r p) fun x p => ∃ b, x = .bl b ∧ QB b p := by
  simp only [mTst, wp_bnd]
  refine ⟨fun h => h.mono fun a p h => ?_, fun h => h.mono fun a p h => ?_⟩
  · split at h
    · exact ⟨_, rfl, by simpa using h⟩
    · simp at h
  · obtain ⟨b, rfl, h⟩ := h
    simpa using h
@[simp] theorem wp_tru {a : M} : Wp (mTru a r p) QB ↔ Wp (a r p) fun x p => ∃ b, dTru x = some b ∧ QB b p := by simp [mTru]
@[simp] theorem wp_and {a b : MB} : Wp (mAnd a b r p) QB ↔ Wp (a r p) fun x p => if x = true then Wp (b r p) QB else QB false p := by simp [mAnd]
@[simp] theorem wp_or {a b : MB} : Wp (mOr a b r p) QB ↔ Wp (a r p) fun x p => if x = true then QB true p else Wp (b r p) QB := by simp [mOr]
@[simp] theorem wp_not {a : MB} : Wp (mNot a r p) QB ↔ Wp (a r p) fun x p => QB (!x) p := by simp [mNot]
@[simp] theorem wp_if {t : MB} {a b : M} : Wp (mIf t a b r p) Q ↔ Wp (t r p) fun x p => if x = true then Wp (a r p) Q else Wp (b r p) Q := by simp [mIf]
@[simp] theorem wp_andV {a b : M} : Wp (mAndV a b r p) Q ↔ Wp (a r p) fun x p => ∃ k, dTru x = some k ∧ if k = true then Wp (b r p) Q else Q x p := by simp [mAndV]
@[simp] theorem wp_orV {a b : M} : Wp (mOrV a b r p) Q ↔ Wp (a r p) fun x p => ∃ k, dTru x = some k ∧ if k = true then Q x p else Wp (b r p) Q := by simp [mOrV]
@[simp] theorem wp_notV {a : M} : Wp (mNotV a r p) Q ↔ Wp (a r p) fun x p => ∃ k, dTru x = some k ∧ Q (.bl (!k)) p := by simp [mNotV]
@[simp] theorem wp_tup {a : ML} : Wp (mTup a r p) Q ↔ Wp (a r p) fun xs p => xs.length ≤ lim ∧ Q (.tup xs) p := by simp [mTup]
@[simp] theorem wp_lst {a : ML} : Wp (mLst a r p) Q ↔ Wp (a r p) fun xs p => xs.length ≤ lim ∧ Q (.lst xs) p := by simp [mLst]
@[simp] theorem wp_ofF {a : ML} : Wp (mOfF a r p) Q ↔ Wp (a r p) fun xs p => Q (.lst xs) p := by simp [mOfF]
@[simp] theorem wp_isi {T : String} {a : M} : Wp (mIsi T a r p) Q ↔ Wp (a r p) fun x p => ∃ z, dIsi T x = some z ∧ Q z p := by simp [mIsi]
@[simp] theorem wp_sl {a : M} {lo hi : MO} : Wp (mSl a lo hi r p) Q ↔ Wp (a r p) fun x p => Wp (lo r p) fun l p => Wp (hi r p) fun h p => ∃ z, dSl x l h = some z ∧ Q z p := by simp [mSl]
@[simp] theorem wp_oNone {Q : Option Int → List Int → Prop} : Wp (oNone r p) Q ↔ Q none p := by simp [oNone]
@[simp] theorem wp_oSome {a : M} {Q : Option Int → List Int → Prop} : Wp (oSome a r p) Q ↔ Wp (a r p) fun x p => ∃ i, x = .int i ∧ Q (some i) p := by
  simp only [oSome, wp_bnd]
  refine ⟨fun h => h.mono fun a p h => ?_, fun h => h.mono fun a p h => ?_⟩
  · split at h
    · exact ⟨_, rfl, by simpa using h⟩
    · simp at h
  · obtain ⟨b, rfl, h⟩ := h
    simpa using h
@[simp] theorem wp_call {n : Nat} {m : MF} {a : ML} : Wp (mCall n m a r p) Q ↔ Wp (a r p) fun ds p => ds.length = n ∧ Wp (m ds p) Q := by simp [mCall]
@[simp] theorem wp_callF {n : Nat} {m : MFl} {a : ML} : Wp (mCallF n m a r p) QL ↔ Wp (a r p) fun ds p => ds.length = n ∧ Wp (m ds p) QL := by simp [mCallF]
@[simp] theorem wp_items {a : M} : Wp (mItems a r p) QL ↔ Wp (a r p) fun x p => ∃ z, itemsOf x = some z ∧ QL z p := by simp [mItems]
@[simp] theorem wp_lc {vs : List Nat} {mi : ML} {mg : D → Ev → Option Ev} {mt : MB} {me : M} : Wp (mLc vs mi mg mt me r p) QL ↔ Wp (mi r p) fun ds p => ds.length ≤ lim ∧ Wp (lcGo mg mt me (wipeR r vs) ds p) QL := by simp [mLc]
/-- an index, no pool -/
def ixD (x y : D) (p : List Int) : Option D := match x, y with
  | .pool, .int i => (atI p i).map D.int
  | x, y => dIx x y
@[simp] theorem wp_ix {a b : M} : Wp (mIx a b r p) Q ↔ Wp (a r p) fun x p => Wp (b r p) fun y p => ∃ z, ixD x y p = some z ∧ Q z p := by
  simp only [mIx, wp_bnd]
  refine ⟨fun h => h.mono fun a p h => h.mono fun b p h => ?_, fun h => h.mono fun a p h => h.mono fun b p h => ?_⟩
  · split at h
    · simpa [ixD] using h
    · rename_i h0
      rw [wp_lft] at h
      unfold ixD
      split
      · rename_i i
        exact (h0 _ rfl rfl).elim
      · exact h
  · split
    · simpa [ixD] using h
    · rename_i h0
      rw [wp_lft]
      unfold ixD at h
      split at h
      · rename_i i
        exact (h0 _ rfl rfl).elim
      · exact h
@[simp] theorem wp_chain {f g : D → D → Option D} {a b c : M} : Wp (mChain f g a b c r p) Q ↔ Wp (a r p) fun x p => Wp (b r p) fun y p => ∃ z, f x y = some z ∧ ∃ k, z = .bl k ∧ if k = true then Wp (c r p) fun w p => ∃ z, g y w = some z ∧ Q z p else Q (.bl false) p := by
  simp only [mChain, wp_bnd, wp_lft]
  refine ⟨fun h => h.mono fun a p h => h.mono fun b p ⟨z, e, h⟩ => ⟨z, e, ?_⟩, fun h => h.mono fun a p h => h.mono fun b p ⟨z, e, h⟩ => ⟨z, e, ?_⟩⟩
  · split at h
    · exact ⟨true, rfl, by simpa using h⟩
    · exact ⟨false, rfl, by simpa using h⟩
    · simp at h
  · obtain ⟨k, rfl, h⟩ := h
    cases k <;> simpa using h
@[simp] theorem wp_star {a : M} {b : ML} : Wp (mStar a b r p) QL ↔ Wp (a r p) fun x p => ∃ ds, (x = .lst ds ∨ x = .tup ds) ∧ Wp (b r p) fun ys p => QL (ds ++ ys) p := by
  simp only [mStar, wp_bnd]
  refine ⟨fun h => h.mono fun a p h => ?_, fun h => h.mono fun a p h => ?_⟩
  · split at h
    · exact ⟨_, .inl rfl, by simpa using h⟩
    · exact ⟨_, .inr rfl, by simpa using h⟩
    · simp at h
  · obtain ⟨ds, rfl | rfl, h⟩ := h <;> simpa using h
@[simp] theorem wp_rng1 {a : ML} : Wp (mRng1 a r p) QL ↔ Wp (a r p) fun xs p => ∃ n, xs = [.int n] ∧ rngOk n = true ∧ QL (rngD 0 n.toNat) p := by
  simp only [mRng1, wp_bnd]
  refine ⟨fun h => h.mono fun a p h => ?_, fun h => h.mono fun a p h => ?_⟩
  · split at h
    · simp only [wp_ite, wp_some, wp_none] at h
      split at h
      · exact ⟨_, rfl, by assumption, h⟩
      · exact h.elim
    · simp at h
  · obtain ⟨n, rfl, hn, h⟩ := h
    simp [hn, h]
@[simp] theorem wp_rng2 {a : ML} : Wp (mRng2 a r p) QL ↔ Wp (a r p) fun xs p => Pr2 xs fun x y => ∃ m, x = .int m ∧ ∃ n, y = .int n ∧ (rngOk m && rngOk n) = true ∧ QL (rngD m (n - m).toNat) p := by
  simp only [mRng2, wp_bnd]
  refine ⟨fun h => h.mono fun a p h => ?_, fun h => h.mono fun a p h => ?_⟩
  · split at h
    · simp only [wp_ite, wp_some, wp_none] at h
      split at h
      · exact ⟨_, rfl, _, rfl, by assumption, h⟩
      · exact h.elim
    · simp at h
  · obtain ⟨x, y, rfl, m, rfl, n, rfl, hn, h⟩ := pr2_of h
    simp only [hn, if_true, wp_some]
    exact h
@[simp] theorem wp_enum {a : ML} : Wp (mEnum a r p) QL ↔ Wp (a r p) fun xs p => ∃ ds, xs = [.lst ds] ∧ QL (enumD ds) p := by
  simp only [mEnum, wp_bnd]
  refine ⟨fun h => h.mono fun a p h => ?_, fun h => h.mono fun a p h => ?_⟩
  · split at h
    · exact ⟨_, rfl, by simpa using h⟩
    · simp at h
  · obtain ⟨n, rfl, h⟩ := h
    simpa using h
@[simp] theorem wp_enumT {a : ML} : Wp (mEnumT a r p) QL ↔ Wp (a r p) fun xs p => ∃ ds, xs = [.tup ds] ∧ QL (enumD ds) p := by
  simp only [mEnumT, wp_bnd]
  refine ⟨fun h => h.mono fun a p h => ?_, fun h => h.mono fun a p h => ?_⟩
  · split at h
    · exact ⟨_, rfl, by simpa using h⟩
    · simp at h
  · obtain ⟨n, rfl, h⟩ := h
    simpa using h
def zpD : List D → Option (List D)
  | [.lst ds, .lst es] => some (zipD ds es)
  | [.tup ds, .tup es] => some (zipD ds es)
  | _ => none
@[simp] theorem wp_zip {a : ML} : Wp (mZip a r p) QL ↔ Wp (a r p) fun xs p => ∃ ds, zpD xs = some ds ∧ QL ds p := by
  simp only [mZip, wp_bnd]
  refine ⟨fun h => h.mono fun a p h => ?_, fun h => h.mono fun a p h => ?_⟩
  · split at h <;> simpa [zpD] using h
  · unfold zpD at h
    split at h <;> simpa using h
def zpK (c : Bool) : List D → Option (List D)
  | [x, y] => match sqOf x, sqOf y with
    | some (t, ds), some (u, es) => if zipOk c t u ds.length es.length = true then some (zipD ds es) else none
    | _, _ => none
  | _ => none
@[simp] theorem wp_zipK {c : Bool} {a : ML} : Wp (mZipK c a r p) QL ↔ Wp (a r p) fun xs p => ∃ ds, zpK c xs = some ds ∧ QL ds p := by
  simp only [mZipK, wp_bnd]
  refine ⟨fun h => h.mono fun a p h => ?_, fun h => h.mono fun a p h => ?_⟩
  · unfold zpK
    split at h
    · split at h
      · simp only [wp_ite, wp_some, wp_none] at h
        split at h
        · rename_i h1 h2 h3
          exact ⟨_, by simp only [h1, h2, h3, if_true], h⟩
        · exact h.elim
      · simp at h
    · simp at h
  · unfold zpK at h
    split at h
    · split at h
      · split at h
        · rename_i h1 h2 h3
          simp only [h1, h2, h3, if_true, wp_some]
          simpa using h
        · simp at h
      · simp at h
    · simp at h
end
def Ws (o : Option Out) (nx : Sv → List Int → Prop) (rt : D → List Int → Prop) (bk ct : Sv → List Int → Prop) : Prop := match o with
  | some (.nx r p) => nx r p
  | some (.rt d p) => rt d p
  | some (.bk r p) => bk r p
  | some (.ct r p) => ct r p
  | none => False
section
variable {r : Sv} {p : List Int} {nx bk ct : Sv → List Int → Prop} {rt : D → List Int → Prop}
theorem Ws.mono {o : Option Out} {nx' bk' ct' : Sv → List Int → Prop} {rt' : D → List Int → Prop} (h : Ws o nx rt bk ct) (h1 : ∀ r p, nx r p → nx' r p) (h2 : ∀ r p, rt r p → rt' r p) (h3 : ∀ r p, bk r p → bk' r p) (h4 : ∀ r p, ct r p → ct' r p) : Ws o nx' rt' bk' ct' := by
  unfold Ws at *
  split at h
  · exact h1 _ _ h
  · exact h2 _ _ h
  · exact h3 _ _ h
  · exact h4 _ _ h
  · exact h.elim
@[simp] theorem ws_next : Ws (sNext r p) nx rt bk ct ↔ nx r p := Iff.rfl
@[simp] theorem ws_brk : Ws (sBrk r p) nx rt bk ct ↔ bk r p := Iff.rfl
@[simp] theorem ws_cnt : Ws (sCnt r p) nx rt bk ct ↔ ct r p := Iff.rfl
@[simp] theorem ws_nev : Ws (sNev r p) nx rt bk ct ↔ False := Iff.rfl
@[simp] theorem ws_retN : Ws (sRetN r p) nx rt bk ct ↔ rt .non p := Iff.rfl
@[simp] theorem ws_seq {a b : MS} : Ws (sSeq a b r p) nx rt bk ct ↔ Ws (a r p) (fun r p => Ws (b r p) nx rt bk ct) rt bk ct := by
  unfold sSeq
  cases a r p with
  | none => rfl
  | some o => cases o <;> rfl
@[simp] theorem ws_asg {i : Nat} {me : M} : Ws (sAsg i me r p) nx rt bk ct ↔ Wp (me (shR r) p) fun d p => nx (r.set i (.sh d)) p := by
  unfold sAsg
  cases me (shR r) p with
  | none => simp [Ws]
  | some a => obtain ⟨a, p⟩ := a; simp [Ws]
@[simp] theorem ws_asgV {i : Nat} {me : M} : Ws (sAsgV i me r p) nx rt bk ct ↔ Wp (me (viR r) p) fun d p => sc d = true ∧ nx (r.set i (.sh d)) p := by
  unfold sAsgV
  cases me (viR r) p with
  | none => simp [Ws]
  | some a =>
    obtain ⟨a, p⟩ := a
    simp only [wp_some]
    cases sc a <;> simp [Ws]
@[simp] theorem ws_new {i : Nat} {mf : ML} : Ws (sNew i mf r p) nx rt bk ct ↔ Wp (mf (shR r) p) fun ds p => i < r.length ∧ nx (r.set i (.ow (.lst ds))) p := by
  unfold sNew
  cases mf (shR r) p with
  | none => simp [Ws]
  | some a =>
    obtain ⟨a, p⟩ := a
    simp only [wp_some]
    by_cases h : i < r.length <;> simp [Ws, h]
@[simp] theorem ws_app {i : Nat} {me : M} : Ws (sApp i me r p) nx rt bk ct ↔ ∃ ds, owL r i = some ds ∧ Wp (me (shR r) p) fun d p => ds.length < lim ∧ nx (r.set i (.ow (.lst (ds ++ [d])))) p := by
  unfold sApp
  cases owL r i with
  | none => simp [Ws]
  | some ds =>
    cases me (shR r) p with
    | none => simp [Ws]
    | some a =>
      obtain ⟨a, p⟩ := a
      by_cases h : ds.length < lim <;> simp [Ws, h]
@[simp] theorem ws_drop {me : M} : Ws (sDrop me r p) nx rt bk ct ↔ Wp (me (viR r) p) fun _ p => nx r p := by
  unfold sDrop
  cases me (viR r) p with
  | none => simp [Ws]
  | some a => obtain ⟨a, p⟩ := a; simp [Ws]
@[simp] theorem ws_ret {fx : Bool} {me : M} : Ws (sRet fx me r p) nx rt bk ct ↔ Wp (me (viR r) p) fun d p => (!fx || np d) = true ∧ rt d p := by
  unfold sRet
  cases me (viR r) p with
  | none => simp [Ws]
  | some a =>
    obtain ⟨a, p⟩ := a
    simp only [wp_some]
    by_cases h : (!fx || np a) = true
    · simp [Ws, h]
    · simp [Ws, h]
@[simp] theorem ws_if {t : MB} {a b : MS} : Ws (sIf t a b r p) nx rt bk ct ↔ Wp (t (viR r) p) fun x p => if x = true then Ws (a r p) nx rt bk ct else Ws (b r p) nx rt bk ct := by
  unfold sIf
  cases t (viR r) p with
  | none => simp [Ws]
  | some x =>
    obtain ⟨x, p⟩ := x
    cases x <;> simp
@[simp] theorem ws_aug {i : Nat} {f : D → D → Option D} {me : M} : Ws (sAug i f me r p) nx rt bk ct ↔ ∃ x, (shR r)[i]? = some (some x) ∧ Wp (me (shR r) p) fun d p => ∃ z, f x d = some z ∧ nx (r.set i (.sh z)) p := by
  unfold sAug
  cases (shR r)[i]? with
  | none => simp [Ws]
  | some x =>
    cases x with
    | none => simp [Ws]
    | some x =>
      cases me (shR r) p with
      | none => simp [Ws]
      | some a =>
        obtain ⟨a, p⟩ := a
        cases h : f x a <;> simp [Ws, h]
@[simp] theorem ws_par {i j : Nat} {ms : ML} : Ws (sPar i j ms r p) nx rt bk ct ↔ Wp (ms (shR r) p) fun ds p => Pr2 ds fun x y => nx ((r.set i (.sh x)).set j (.sh y)) p := by
  unfold sPar
  split
  · rename_i x y p e
    rw [e, wp_some]
    rfl
  · rename_i h
    cases e : ms (shR r) p with
    | none => simp [Ws]
    | some a =>
      obtain ⟨ds, p⟩ := a
      simp only [Ws, wp_some, false_iff]
      intro hq
      obtain ⟨x, y, rfl, _⟩ := pr2_of hq
      exact h x y p e
@[simp] theorem ws_parO {i j : Nat} {me : M} {mf : ML} : Ws (sParO i j me mf r p) nx rt bk ct ↔ Wp (me (shR r) p) fun x p => Wp (mf (shR r) p) fun ds p => j < r.length ∧ nx ((r.set i (.sh x)).set j (.ow (.lst ds))) p := by
  unfold sParO
  cases me (shR r) p with
  | none => simp [Ws]
  | some a =>
    obtain ⟨a, p⟩ := a
    simp only [wp_some]
    cases mf (shR r) p with
    | none => simp [Ws]
    | some b =>
      obtain ⟨b, p⟩ := b
      by_cases h : j < r.length <;> simp [Ws, h]
@[simp] theorem ws_asgG {me : M} {mg : GS} : Ws (sAsgG me mg r p) nx rt bk ct ↔ Wp (me (shR r) p) fun d p => ∃ x, mg d r p = some x ∧ nx x.1 x.2 := by
  unfold sAsgG
  cases me (shR r) p with
  | none => simp [Ws]
  | some a =>
    obtain ⟨a, p⟩ := a
    rw [wp_some]
    cases h : mg a r p with
    | none => simp [Ws, h]
    | some x => exact ⟨fun q => ⟨x, rfl, by simpa [Ws, h] using q⟩, fun ⟨x', e, q⟩ => by cases e; simpa [Ws, h] using q⟩
@[simp] theorem ws_for {fx : Bool} {mi : ML} {mg : GS} {b : MS} : Ws (sFor fx mi mg b r p) nx rt bk ct ↔ Wp (mi (shR r) p) fun ds p => (!fx || nps ds) = true ∧ Ws (forGo mg b ds r p) nx rt bk ct := by
  unfold sFor
  cases mi (shR r) p with
  | none => simp [Ws]
  | some a =>
    obtain ⟨a, p⟩ := a
    simp only [wp_some]
    by_cases h : (!fx || nps a) = true
    · simp [h]
    · simp [Ws, h]
@[simp] theorem ws_pool {i : Nat} {mf : ML} : Ws (sPool i mf r p) nx rt bk ct ↔ Wp (mf (shR r) p) fun ds _ => ∃ ns, asInts ds = some ns ∧ i < r.length ∧ nx ((r.map Cl.clean).set i (.sh .pool)) ns := by
  unfold sPool
  cases mf (shR r) p with
  | none => simp [Ws]
  | some a =>
    obtain ⟨a, p⟩ := a
    simp only [wp_some]
    cases e : asInts a with
    | none => simp [Ws]
    | some ns => by_cases h : i < r.length <;> simp [Ws, h]
theorem wp_runF {N n : Nat} {m : MS} {ds : List D} {Q : D → List Int → Prop} : Wp (runF N n m ds p) Q ↔ Ws (m (startR N n ds) p) (fun _ p => Q .non p) Q (fun _ _ => False) (fun _ _ => False) := by
  unfold runF
  cases m (startR N n ds) p with
  | none => simp [Ws]
  | some o => cases o <;> simp [Ws]
/-- for, with an invariant over what is left -/
theorem ws_forGo {mg : GS} {b : MS} (I : List D → Sv → List Int → Prop) : ∀ {ds : List D} {r : Sv} {p : List Int}, I ds r p →
    (∀ d ds r p, I (d :: ds) r p → ∃ r1 p1, mg d r p = some (r1, p1) ∧ Ws (b r1 p1) (fun r p => I ds r p) rt (fun r p => nx r p) (fun r p => I ds r p)) → (∀ r p, I [] r p → nx r p) → Ws (forGo mg b ds r p) nx rt bk ct
  | [], r, p, h, _, hd => hd r p h
  | d :: ds, r, p, h, hs, hd => by
    obtain ⟨r1, p1, e, h1⟩ := hs d ds r p h
    unfold forGo
    simp only [e]
    cases eb : b r1 p1 with
    | none => rw [eb] at h1; exact h1.elim
    | some o =>
      rw [eb] at h1
      cases o with
      | nx r2 p2 => exact ws_forGo I (show I ds r2 p2 from h1) hs hd
      | ct r2 p2 => exact ws_forGo I (show I ds r2 p2 from h1) hs hd
      | bk r2 p2 => exact h1
      | rt d p => exact h1
end
/-- a comprehension, with an invariant over what is left and what is made -/
theorem wp_lcGo {mg : D → Ev → Option Ev} {mt : MB} {me : M} {r0 : Ev} (I : List D → List D → List Int → Prop) : ∀ {ds acc : List D} {p : List Int}, I ds acc p →
    (∀ d ds acc p, I (d :: ds) acc p → ∃ r1, mg d r0 = some r1 ∧ Wp (mt r1 p) fun b p => if b = true then Wp (me r1 p) fun y p => I ds (acc ++ [y]) p else I ds acc p) → Wp (lcGo mg mt me r0 ds p) fun ys p => I [] (acc ++ ys) p
  | [], acc, p, h, _ => by simpa [lcGo] using h
  | d :: ds, acc, p, h, hs => by
    obtain ⟨r1, e, h1⟩ := hs d ds acc p h
    unfold lcGo
    simp only [e, wp_bnd]
    refine h1.mono fun b p1 h2 => ?_
    cases b with
    | false =>
      simp only [Bool.false_eq_true, if_false] at h2 ⊢
      exact wp_lcGo I h2 hs
    | true =>
      simp only [if_true] at h2 ⊢
      rw [wp_bnd]
      refine h2.mono fun y p2 h3 => ?_
      rw [wp_bnd]
      refine (wp_lcGo I h3 hs).mono fun ys p3 h4 => ?_
      rw [wp_some]
      rwa [List.append_assoc] at h4
end Dt
namespace Dt
variable [GTab]
open PySem PySem.Spec PyProof.Rows L2
section
variable {K : PySem.W.Frag} {mg : Str → Option Value} {h : Heap}
theorem mkF {x : Str} {st : Stmt} {ps : List Str} {f : Addr} {oc : Value} {od an : Option Addr} {osl : Array (Option Value)} {kV doc pm cdv ct : Value} (X : K.In h) (G : h.Ns mainGlobals mg)
    (a : PySem.W.nsIn K mainGlobals x = some (some (.ref f))) (l : K.lookup f = some ⟨oc, od, .func (PySem.W.fnOf x x (defArgs st) (defBody st) (defScope st) .none kV doc pm an cdv ct), osl⟩)
    (c : PySem.W.codeIn K cdv x = true) (k : PySem.W.keepIn K (.ref f) = true)
    (b : ∀ (kV doc pm : Value) (an : Option Addr) (cdv ct : Value) (us : List Value), us.length = ps.length → bindArgs (PySem.W.fnOf x x (defArgs st) (defBody st) (defScope st) .none kV doc pm an cdv ct) ⟨us, []⟩ = pure (ps.zip us)) :
    ∃ a fd, Fun K x x st a fd ∧ mg x = some (.ref a) ∧ Binds K fd ps [] :=
  have F := fun_mk (st := st) l c k
  ⟨f, _, F, PySem.W.mg_of X G a, F.binds b⟩
theorem bt_of {x y : Str} {st : Stmt} {f : Addr} {fd : FuncData} (F : Fun K x x st f fd) (b : ∀ (kV doc pm : Value) (an : Option Addr) (cdv ct : Value) (v : Value), bindArgs (PySem.W.fnOf x x (defArgs st) (defBody st) (defScope st) .none kV doc pm an cdv ct) ⟨[v], []⟩ = pure [(y, v)]) (s : Shared) (v : Value) : BindsTo s fd ⟨[v], []⟩ [(y, v)] := by
  obtain ⟨oc, od, kV, doc, pm, an, cdv, ct, osl, rfl, _, _⟩ := F.ex
  exact .of_eq (b _ _ _ _ _ _ _)
/-- the same where tables of code objects stand -/
theorem spL_lawT {m : MF} {a : Addr} {ns : List Int} {H : Hp} {T : List (Addr × Str)} (hG : GTab.tb = T) (hu : ∀ p ∈ T, ∀ p' ∈ T, p.1 = p'.1 → p.2 = p'.2) (hT : ∀ q ∈ T, H q.1 = some (.tbl #[])) (hS : SqL K H a (ns.map V.int)) (ok : Wp (m [.scr ns] []) fun d _ => d = .bl true) (E : XK) : spL K 1 m [.ref a] H (fun v _ => v = .bl true) E := by
  obtain ⟨d, q, e, rfl⟩ := ok
  have hb : ∀ b, b ∈ T.map (·.1) → H b = some (.tbl #[]) := fun b h => by
    obtain ⟨q, hq, rfl⟩ := List.mem_map.mp h
    exact hT q hq
  have nT : ∀ {o : HO}, H a = some o → (∀ ps, o ≠ .tbl ps) → a ∉ T.map (·.1) := fun {o} h n z => by
    rw [hb a z] at h
    exact n _ (Option.some.inj h).symm
  refine ⟨.of T hu, fun b => b ∈ T.map (·.1), [], [.scr ns], _, q, ⟨fun a h => (by cases h), fun a h => ⟨_, hb a h⟩, ⟨fun q hq => .nil (hT q hq), trivial, fun p h => hG ▸ h⟩, fun b h => (by rcases h with h | h; exact h; cases h), fun _ h => (by cases h), fun b o h ho => (by rw [hb b h] at ho; cases ho; rintro (⟨_, z⟩ | ⟨_, _, z⟩) <;> cases z)⟩, .cons (.scr ?_) .nil, rfl, e, fun v H' _ _ r => ?_⟩
  · rcases hS with (h | ⟨o, h⟩) | h
    · exact .inl (.inl (hid_of (nT h fun ps z => by cases z) h))
    · exact .inl (.inr ⟨o, hid_of (nT h fun ps z => by cases z) h⟩)
    · exact .inr h
  · cases r; rfl
end
end Dt
namespace Dt
variable [GTab]
open PySem PySem.Spec PyProof.Rows L2
section
variable {r : Ev} {p : List Int} {Q : D → List Int → Prop} {QB : Bool → List Int → Prop} {QL : List D → List Int → Prop} {QO : Option Int → List Int → Prop}
theorem wi_var {i : Nat} {d : D} (h : r[i]? = some (some d)) (q : Q d p) : Wp (mVar i r p) Q := by unfold mVar; rw [h]; exact wp_some.mpr q
theorem wi_c {d : D} (h : Q d p) : Wp (mC d r p) Q := wp_c.mpr h
theorem wi_op {f : D → D → Option D} {a b : M} (h : Wp (a r p) fun x p => Wp (b r p) fun y p => ∃ z, f x y = some z ∧ Q z p) : Wp (mOp f a b r p) Q := wp_op.mpr h
theorem wi_un {f : D → Option D} {a : M} (h : Wp (a r p) fun x p => ∃ z, f x = some z ∧ Q z p) : Wp (mUn f a r p) Q := wp_un.mpr h
theorem wi_nil (h : QL [] p) : Wp (mNil r p) QL := wp_nil.mpr h
theorem wi_cons {a : M} {b : ML} (h : Wp (a r p) fun x p => Wp (b r p) fun xs p => QL (x :: xs) p) : Wp (mCons a b r p) QL := wp_cons.mpr h
theorem wi_cb {f : List D → Option D} {a : ML} (h : Wp (a r p) fun xs p => ∃ z, f xs = some z ∧ Q z p) : Wp (mCB f a r p) Q := wp_cb.mpr h
theorem wi_mt {f : D → List D → Option D} {o : M} {a : ML} (h : Wp (o r p) fun x p => Wp (a r p) fun xs p => ∃ z, f x xs = some z ∧ Q z p) : Wp (mMt f o a r p) Q := wp_mt.mpr h
theorem wi_tst {a : M} (h : Wp (a r p) fun x p => ∃ b, x = .bl b ∧ QB b p) : Wp (mTst a r p) QB := wp_tst.mpr h
theorem wi_tru {a : M} (h : Wp (a r p) fun x p => ∃ b, dTru x = some b ∧ QB b p) : Wp (mTru a r p) QB := wp_tru.mpr h
theorem wi_and {a b : MB} (h : Wp (a r p) fun x p => if x = true then Wp (b r p) QB else QB false p) : Wp (mAnd a b r p) QB := wp_and.mpr h
theorem wi_or {a b : MB} (h : Wp (a r p) fun x p => if x = true then QB true p else Wp (b r p) QB) : Wp (mOr a b r p) QB := wp_or.mpr h
theorem wi_not {a : MB} (h : Wp (a r p) fun x p => QB (!x) p) : Wp (mNot a r p) QB := wp_not.mpr h
theorem wi_if {t : MB} {a b : M} (h : Wp (t r p) fun x p => if x = true then Wp (a r p) Q else Wp (b r p) Q) : Wp (mIf t a b r p) Q := wp_if.mpr h
theorem wi_andV {a b : M} (h : Wp (a r p) fun x p => ∃ k, dTru x = some k ∧ if k = true then Wp (b r p) Q else Q x p) : Wp (mAndV a b r p) Q := wp_andV.mpr h
theorem wi_orV {a b : M} (h : Wp (a r p) fun x p => ∃ k, dTru x = some k ∧ if k = true then Q x p else Wp (b r p) Q) : Wp (mOrV a b r p) Q := wp_orV.mpr h
theorem wi_notV {a : M} (h : Wp (a r p) fun x p => ∃ k, dTru x = some k ∧ Q (.bl (!k)) p) : Wp (mNotV a r p) Q := wp_notV.mpr h
theorem wi_tup {a : ML} (h : Wp (a r p) fun xs p => xs.length ≤ lim ∧ Q (.tup xs) p) : Wp (mTup a r p) Q := wp_tup.mpr h
theorem wi_lst {a : ML} (h : Wp (a r p) fun xs p => xs.length ≤ lim ∧ Q (.lst xs) p) : Wp (mLst a r p) Q := wp_lst.mpr h
theorem wi_ofF {a : ML} (h : Wp (a r p) fun xs p => Q (.lst xs) p) : Wp (mOfF a r p) Q := wp_ofF.mpr h
theorem wi_fresh {a : ML} (h : Wp (a r p) fun xs p => xs.length ≤ lim ∧ QL xs p) : Wp (mFresh a r p) QL := by
  unfold mFresh
  refine wp_bnd.mpr (h.mono fun xs p h => ?_)
  rw [if_pos h.1]
  exact wp_some.mpr h.2
theorem wi_isi {T : String} {a : M} (h : Wp (a r p) fun x p => ∃ z, dIsi T x = some z ∧ Q z p) : Wp (mIsi T a r p) Q := wp_isi.mpr h
theorem wi_sl {a : M} {lo hi : MO} (h : Wp (a r p) fun x p => Wp (lo r p) fun l p => Wp (hi r p) fun h p => ∃ z, dSl x l h = some z ∧ Q z p) : Wp (mSl a lo hi r p) Q := wp_sl.mpr h
theorem wi_oNone (h : QO none p) : Wp (oNone r p) QO := wp_oNone.mpr h
theorem wi_oSome {a : M} (h : Wp (a r p) fun x p => ∃ i, x = .int i ∧ QO (some i) p) : Wp (oSome a r p) QO := wp_oSome.mpr h
theorem wi_call {n : Nat} {m : MF} {a : ML} (h : Wp (a r p) fun ds p => ds.length = n ∧ Wp (m ds p) Q) : Wp (mCall n m a r p) Q := wp_call.mpr h
theorem wi_callF {n : Nat} {m : MFl} {a : ML} (h : Wp (a r p) fun ds p => ds.length = n ∧ Wp (m ds p) QL) : Wp (mCallF n m a r p) QL := wp_callF.mpr h
theorem wi_items {a : M} (h : Wp (a r p) fun x p => ∃ z, itemsOf x = some z ∧ QL z p) : Wp (mItems a r p) QL := wp_items.mpr h
theorem wi_lc {vs : List Nat} {mi : ML} {mg : D → Ev → Option Ev} {mt : MB} {me : M} (h : Wp (mi r p) fun ds p => ds.length ≤ lim ∧ Wp (lcGo mg mt me (wipeR r vs) ds p) QL) : Wp (mLc vs mi mg mt me r p) QL := wp_lc.mpr h
theorem wi_ix {a b : M} (h : Wp (a r p) fun x p => Wp (b r p) fun y p => ∃ z, ixD x y p = some z ∧ Q z p) : Wp (mIx a b r p) Q := wp_ix.mpr h
theorem wi_chain {f g : D → D → Option D} {a b c : M} (h : Wp (a r p) fun x p => Wp (b r p) fun y p => ∃ z, f x y = some z ∧ ∃ k, z = .bl k ∧ if k = true then Wp (c r p) fun w p => ∃ z, g y w = some z ∧ Q z p else Q (.bl false) p) : Wp (mChain f g a b c r p) Q := wp_chain.mpr h
theorem wi_star {a : M} {b : ML} (h : Wp (a r p) fun x p => ∃ ds, (x = .lst ds ∨ x = .tup ds) ∧ Wp (b r p) fun ys p => QL (ds ++ ys) p) : Wp (mStar a b r p) QL := wp_star.mpr h
theorem wi_rng1 {a : ML} (h : Wp (a r p) fun xs p => ∃ n, xs = [.int n] ∧ rngOk n = true ∧ QL (rngD 0 n.toNat) p) : Wp (mRng1 a r p) QL := wp_rng1.mpr h
theorem wi_rng2 {a : ML} (h : Wp (a r p) fun xs p => Pr2 xs fun x y => ∃ m, x = .int m ∧ ∃ n, y = .int n ∧ (rngOk m && rngOk n) = true ∧ QL (rngD m (n - m).toNat) p) : Wp (mRng2 a r p) QL := wp_rng2.mpr h
theorem wi_enum {a : ML} (h : Wp (a r p) fun xs p => ∃ ds, xs = [.lst ds] ∧ QL (enumD ds) p) : Wp (mEnum a r p) QL := wp_enum.mpr h
theorem wi_enumT {a : ML} (h : Wp (a r p) fun xs p => ∃ ds, xs = [.tup ds] ∧ QL (enumD ds) p) : Wp (mEnumT a r p) QL := wp_enumT.mpr h
theorem wi_zip {a : ML} (h : Wp (a r p) fun xs p => ∃ ds, zpD xs = some ds ∧ QL ds p) : Wp (mZip a r p) QL := wp_zip.mpr h
theorem wi_zipK {c : Bool} {a : ML} (h : Wp (a r p) fun xs p => ∃ ds, zpK c xs = some ds ∧ QL ds p) : Wp (mZipK c a r p) QL := wp_zipK.mpr h
theorem wi_yes (h : QB true p) : Wp (tYesM r p) QB := wp_some.mpr h
theorem ite_t {c : Bool} {A B : Prop} (h : c = true) (a : A) : if c = true then A else B := by rw [if_pos h]; exact a
theorem ite_f {c : Bool} {A B : Prop} (h : c = false) (b : B) : if c = true then A else B := by rw [if_neg (by rw [h]; decide)]; exact b
theorem ite_b {c : Bool} {A B : Prop} (a : c = true → A) (b : c = false → B) : if c = true then A else B := by
  cases c
  · exact ite_f rfl (b rfl)
  · exact ite_t rfl (a rfl)
theorem star_l {ds : List D} {P : List D → Prop} (h : P ds) : ∃ es, (D.lst ds = .lst es ∨ D.lst ds = .tup es) ∧ P es := ⟨ds, .inl rfl, h⟩
theorem star_t {ds : List D} {P : List D → Prop} (h : P ds) : ∃ es, (D.tup ds = .lst es ∨ D.tup ds = .tup es) ∧ P es := ⟨ds, .inr rfl, h⟩
end
section
variable {r : Sv} {p : List Int} {nx bk ct : Sv → List Int → Prop} {rt : D → List Int → Prop}
theorem si_next (h : nx r p) : Ws (sNext r p) nx rt bk ct := h
theorem si_brk (h : bk r p) : Ws (sBrk r p) nx rt bk ct := h
theorem si_cnt (h : ct r p) : Ws (sCnt r p) nx rt bk ct := h
theorem si_retN (h : rt .non p) : Ws (sRetN r p) nx rt bk ct := h
theorem si_seq {a b : MS} (h : Ws (a r p) (fun r p => Ws (b r p) nx rt bk ct) rt bk ct) : Ws (sSeq a b r p) nx rt bk ct := ws_seq.mpr h
theorem si_asg {i : Nat} {me : M} (h : Wp (me (shR r) p) fun d p => nx (r.set i (.sh d)) p) : Ws (sAsg i me r p) nx rt bk ct := ws_asg.mpr h
theorem si_asgV {i : Nat} {me : M} (h : Wp (me (viR r) p) fun d p => sc d = true ∧ nx (r.set i (.sh d)) p) : Ws (sAsgV i me r p) nx rt bk ct := ws_asgV.mpr h
theorem si_new {i : Nat} {mf : ML} (h : Wp (mf (shR r) p) fun ds p => i < r.length ∧ nx (r.set i (.ow (.lst ds))) p) : Ws (sNew i mf r p) nx rt bk ct := ws_new.mpr h
theorem si_app {i : Nat} {me : M} {ds : List D} (h1 : owL r i = some ds) (h : Wp (me (shR r) p) fun d p => ds.length < lim ∧ nx (r.set i (.ow (.lst (ds ++ [d])))) p) : Ws (sApp i me r p) nx rt bk ct := ws_app.mpr ⟨ds, h1, h⟩
theorem si_drop {me : M} (h : Wp (me (viR r) p) fun _ p => nx r p) : Ws (sDrop me r p) nx rt bk ct := ws_drop.mpr h
theorem si_ret {me : M} (h : Wp (me (viR r) p) fun d p => rt d p) : Ws (sRet false me r p) nx rt bk ct := ws_ret.mpr (h.mono fun d p q => ⟨rfl, q⟩)
theorem si_retX {me : M} (h : Wp (me (viR r) p) fun d p => np d = true ∧ rt d p) : Ws (sRet true me r p) nx rt bk ct := ws_ret.mpr (h.mono fun d p q => ⟨by simpa using q.1, q.2⟩)
theorem si_if {t : MB} {a b : MS} (h : Wp (t (viR r) p) fun x p => if x = true then Ws (a r p) nx rt bk ct else Ws (b r p) nx rt bk ct) : Ws (sIf t a b r p) nx rt bk ct := ws_if.mpr h
theorem si_aug {i : Nat} {f : D → D → Option D} {me : M} {x : D} (h1 : (shR r)[i]? = some (some x)) (h : Wp (me (shR r) p) fun d p => ∃ z, f x d = some z ∧ nx (r.set i (.sh z)) p) : Ws (sAug i f me r p) nx rt bk ct := ws_aug.mpr ⟨x, h1, h⟩
theorem si_par {i j : Nat} {ms : ML} (h : Wp (ms (shR r) p) fun ds p => Pr2 ds fun x y => nx ((r.set i (.sh x)).set j (.sh y)) p) : Ws (sPar i j ms r p) nx rt bk ct := ws_par.mpr h
theorem si_parO {i j : Nat} {me : M} {mf : ML} (h : Wp (me (shR r) p) fun x p => Wp (mf (shR r) p) fun ds p => j < r.length ∧ nx ((r.set i (.sh x)).set j (.ow (.lst ds))) p) : Ws (sParO i j me mf r p) nx rt bk ct := ws_parO.mpr h
theorem si_asgG {me : M} {mg : GS} (h : Wp (me (shR r) p) fun d p => ∃ x, mg d r p = some x ∧ nx x.1 x.2) : Ws (sAsgG me mg r p) nx rt bk ct := ws_asgG.mpr h
theorem si_for {mi : ML} {mg : GS} {b : MS} (h : Wp (mi (shR r) p) fun ds p => Ws (forGo mg b ds r p) nx rt bk ct) : Ws (sFor false mi mg b r p) nx rt bk ct := ws_for.mpr (h.mono fun _ _ q => ⟨rfl, q⟩)
theorem si_forX {mi : ML} {mg : GS} {b : MS} (h : Wp (mi (shR r) p) fun ds p => nps ds = true ∧ Ws (forGo mg b ds r p) nx rt bk ct) : Ws (sFor true mi mg b r p) nx rt bk ct := ws_for.mpr (h.mono fun _ _ q => ⟨by simpa using q.1, q.2⟩)
theorem si_pool {i : Nat} {mf : ML} (h : Wp (mf (shR r) p) fun ds _ => ∃ ns, asInts ds = some ns ∧ i < r.length ∧ nx ((r.map Cl.clean).set i (.sh .pool)) ns) : Ws (sPool i mf r p) nx rt bk ct := ws_pool.mpr h
end
theorem fi_run {N n : Nat} {m : MS} {ds : List D} {p : List Int} {Q : D → List Int → Prop} (h : Ws (m (startR N n ds) p) (fun _ p => Q .non p) Q (fun _ _ => False) (fun _ _ => False)) : Wp (runF N n m ds p) Q := wp_runF.mpr h
theorem ev_mod {i j : Int} (h : 0 < j) : dMod (.int i) (.int j) = some (.int (i % j)) := by simp [dMod, dII, h]
theorem ev_div {i j : Int} (h : 0 < j) (h2 : j < 1073741824) : dDiv (.int i) (.int j) = some (.int (i / j)) := by simp [dDiv, dII, h, h2]
theorem ev_divmod {i j : Int} (h : 0 < j) (h2 : j < 1073741824) : dDivmod [.int i, .int j] = some (.tup [.int (i / j), .int (i % j)]) := by simp [dDivmod, h, h2]
theorem ev_mulR {i j : Int} (h : -18446744073709551616 < j) (h2 : j < 18446744073709551616) : dMul (.int i) (.int j) = some (.int (i * j)) := by
  show (if _ then _ else _) = _
  refine if_pos ?_
  simp only [Bool.or_eq_true, Bool.and_eq_true, decide_eq_true_eq]
  exact .inr ⟨by simpa using h, by simpa using h2⟩
theorem ev_mulL {i j : Int} (h : -18446744073709551616 < i) (h2 : i < 18446744073709551616) : dMul (.int i) (.int j) = some (.int (i * j)) := by
  show (if _ then _ else _) = _
  refine if_pos ?_
  simp only [Bool.or_eq_true, Bool.and_eq_true, decide_eq_true_eq]
  exact .inl ⟨by simpa using h, by simpa using h2⟩
end Dt
namespace Dt
variable [GTab]
open PySem PySem.Spec PyProof.Rows L2
def lexLe (a b : Str × Int) : Bool := !SrtS.lexS b a
def psort (xs : List (Str × Int)) : List (Str × Int) := xs.mergeSort lexLe
abbrev dPr (q : Str × Int) : D := .tup [.str q.1, .int q.2]
def itemsD : D → Option (List (Key × D))
  | .dk ks ds => some (ks.zip ds)
  | _ => none
def asSI : List (Key × D) → Option (List (Str × Int))
  | [] => some []
  | (.inr x, .int i) :: m => (asSI m).map ((x, i) :: ·)
  | _ => none
/-- sorted(e.items()) -/
def mSortIt (a : M) : M := fun r p => bnd (a r p) fun x p => match (itemsD x).bind asSI with
  | some qs => some (.lst ((psort qs).map dPr), p)
  | none => none
end Dt
namespace Dt
variable [GTab]
open PySem PySem.Spec PyProof.Rows L2
section
variable {X : Cx} {pos : Pos}
theorem je_dict0 : JE X (.Dict [] [] pos) (mC (.dk [] [])) := ⟨pe_dnewK.weak fun σ H Q ⟨pa, S, r, p, d, p', c, e, q⟩ n hn => by
  cases e
  refine q _ _ (Ext.of (same_upd hn)) (c.sta.same (same_upd hn)) ?_
  exact Rp.dkv (m := []) (.inl (hid_of (c.sta.new hn) upd_same)) .nil (fun _ h => by cases h)⟩
end
/-- list(e.items()) -/
def mListIt (a : M) : M := fun r p => bnd (a r p) fun x p => match itemsD x with
  | some m => some (.lst (m.map fun q => .tup [dKey q.1, q.2]), p)
  | none => none
end Dt
namespace Dt
variable [GTab]
open PySem PySem.Spec PyProof.Rows L2
def dcGo (mg : D → Ev → Option Ev) (mt : MB) (mk mv : M) (r0 : Ev) : List D → List (Key × D) → List Int → MR (List (Key × D))
  | [], acc, p => some (acc, p)
  | d :: ds, acc, p => match mg d r0 with
    | none => none
    | some r1 => bnd (mt r1 p) fun b p => if b = true then bnd (mk r1 p) fun k p => bnd (mv r1 p) fun v p => match keyOf k with
        | some kk => dcGo mg mt mk mv r0 ds (putG acc kk v) p
        | none => none
      else dcGo mg mt mk mv r0 ds acc p
def mDc (vs : List Nat) (mi : ML) (mg : D → Ev → Option Ev) (mt : MB) (mk mv : M) : M := fun r p => bnd (mi r p) fun ds p => if ds.length ≤ lim then bnd (dcGo mg mt mk mv (wipeR r vs) ds [] p) fun m p => some (dkv m, p) else none
end Dt
namespace L2
open PySem PySem.Spec PyProof.Rows
end L2
namespace Dt
open PySem PySem.Spec PyProof.Rows L2
end Dt
namespace Dt
open PySem PySem.Spec PyProof.Rows L2
end Dt
namespace Dt
variable [GTab]
open PySem PySem.Spec PyProof.Rows L2
abbrev MSi := Addr → Sv → List Int → MR (List D)
def tI (K : PySem.W.Frag) (E : En) (x dx C : Addr) (mf : MSi) : TS := fun D σ H => ∃ S0 S A r p fs p', EnvS K false E E.pa S0 S A σ H r p ∧ mf x r p = some (fs, p') ∧
  ∀ σ' H' xs, (∀ b o, ¬ E.pa.mut b → b ≠ x → b ≠ dx → E.H b = some o → H' b = some o) → Sta E.pa E.S H' p' → SlX.Slt H' x C dx (xs.map some) → RpL K E.pa (hid E.S H') xs fs → D.nx σ' H'
end Dt
namespace Dt
open PySem PySem.Spec PyProof.Rows L2
end Dt
namespace Dt
variable [GTab]
open PySem PySem.Spec PyProof.Rows L2
section
variable {X : Cx} {K : PySem.W.Frag}
def dRemovePre : D → List D → Option D
  | .str a, [.str b] => if (Txt.removeprefix a b).length ≤ lim then some (.str (Txt.removeprefix a b)) else none
  | _, _ => none
theorem md_removePre : MtD K "str" (fun x xs H Q => ∃ a b, x = .str a ∧ xs = [.str b] ∧ a.length ≤ sizeLine ∧ Q (.str (Txt.removeprefix a b)) H) dRemovePre := by
  intro pa S H p x xs d ds z Q s rx rxs h q
  unfold dRemovePre at h
  split at h
  · split at h
    · rename_i hl
      cases h
      cases rx with
      | str _ ha =>
        cases rxs with
        | cons r1 r2 => cases r2; cases r1; exact ⟨_, _, rfl, rfl, by have := lim_lt; omega, q _ H (fun _ _ h => h) (.str _ hl)⟩
    · cases h
  · cases h
theorem dRemovePre_str {d : D} {ds : List D} {z : D} (h : dRemovePre d ds = some z) : ∃ x, d = .str x := by
  unfold dRemovePre at h
  split at h
  · exact ⟨_, rfl⟩
  · cases h
section
variable {o e : Expr} {mo : M} {ms : ML} {apos cpos : Pos}
theorem je_starts {es : List Expr} (ho : JE X o mo) (ha : JA X (e :: es) ms)
    (hbase : attributeBase o "startswith" X.env (eval o X.env) = eval o X.env := by rfl)
    (hfew : ((backTo cpos (starEach (e :: es) X.env)).all (fun x => !x.1) && (backToKw cpos (keywordEach [] X.env)).all (fun x => x.1.isSome) && decide ((e :: es).length + ([] : List Keyword).length + (if ([] : List Keyword).isEmpty then 0 else 1) < 30)) = true := by rfl)
    (hline : (apos.endLine == cpos.line) = true := by rfl) (hs : starEach (e :: es) X.env = (false, eval e X.env) :: starEach es X.env := by rfl) (hplain : (backTo cpos (starEach es X.env)).any (·.1) = false := by rfl) :
    JE X (.Call (.Attribute o "startswith" apos) (e :: es) [] cpos) (mMt dStarts mo ms) := je_mt PySem.F.plainAttrs_str PySem.F.slot_str_startswith PySem.F.type_str_startswith mt_startswith md_starts (ty_str fun _ _ _ => dStarts_str) ho ha hbase hfew hline hs hplain
theorem je_removePre {es : List Expr} (ho : JE X o mo) (ha : JA X (e :: es) ms)
    (hbase : attributeBase o "removeprefix" X.env (eval o X.env) = eval o X.env := by rfl)
    (hfew : ((backTo cpos (starEach (e :: es) X.env)).all (fun x => !x.1) && (backToKw cpos (keywordEach [] X.env)).all (fun x => x.1.isSome) && decide ((e :: es).length + ([] : List Keyword).length + (if ([] : List Keyword).isEmpty then 0 else 1) < 30)) = true := by rfl)
    (hline : (apos.endLine == cpos.line) = true := by rfl) (hs : starEach (e :: es) X.env = (false, eval e X.env) :: starEach es X.env := by rfl) (hplain : (backTo cpos (starEach es X.env)).any (·.1) = false := by rfl) :
    JE X (.Call (.Attribute o "removeprefix" apos) (e :: es) [] cpos) (mMt dRemovePre mo ms) := je_mt PySem.F.plainAttrs_str PySem.F.slot_str_removeprefix PySem.F.type_str_removeprefix mt_removeprefix md_removePre (ty_str fun _ _ _ => dRemovePre_str) ho ha hbase hfew hline hs hplain
end
def nSmall (i : Int) : Bool := decide (i.natAbs.log2 < 1920)
def boolText (b : Bool) : Str := if b then "True" else "False"
def dRepr : List D → Option D
  | [.int i] => if nSmall i = true ∧ (toString i : Str).length ≤ lim then some (.str (toString i)) else none
  | [.bl b] => some (.str (boolText b))
  | [.non] => some (.str "None")
  | _ => none
def rRepr : List V → Hp → VK → Prop := fun xs H Q => (∃ i, xs = [.int i] ∧ i.natAbs.log2 < 1920 ∧ Q (.str (toString i)) H) ∨ (∃ b, xs = [.bl b] ∧ Q (.str (boolText b)) H) ∨ xs = [.non] ∧ Q (.str "None") H
theorem call_reprD : CallR X (.builtin "repr") rRepr := by
  intro pins s σ H xs us Q I r h
  rcases h with h | ⟨b, rfl, q⟩ | ⟨rfl, q⟩
  · exact SkE.call_repr_int pins s σ H xs us Q I r h
  · obtain ⟨u, rfl, rb⟩ := vals1 r
    cases rb
    exact PySem.P.repr_of_bool ⟨.str _, H, I.tok _, ⟨_, rfl⟩, q⟩
  · obtain ⟨u, rfl, rb⟩ := vals1 r
    cases rb
    exact PySem.P.repr_of_none ⟨.str _, H, I.tok _, ⟨_, rfl⟩, q⟩
theorem cd_repr : CallD K rRepr dRepr := by
  intro pa S H p xs ds z Q s r h q
  cases r with
  | nil => cases h
  | cons r1 r2 =>
    cases r2 with
    | cons _ _ => cases r1 <;> cases h
    | nil =>
      cases r1 with
      | int i =>
        unfold dRepr at h
        simp only at h
        split at h
        · rename_i hh
          cases h
          exact .inl ⟨i, rfl, of_decide_eq_true hh.1, q _ H (fun _ _ h => h) (.str _ hh.2)⟩
        · cases h
      | bl b => cases h; exact .inr (.inl ⟨b, rfl, q _ H (fun _ _ h => h) (.str _ (by cases b <;> decide +kernel))⟩)
      | non => cases h; exact .inr (.inr ⟨rfl, q _ H (fun _ _ h => h) (.str _ (by decide +kernel))⟩)
      | _ => cases h
def dStr : List D → Option D
  | [.int i] => if nSmall i = true ∧ (toString i : Str).length ≤ lim then some (.str (toString i)) else none
  | [.str x] => some (.str x)
  | _ => none
def dIntA : List D → Option D
  | [.str a] => if a.length ≤ 640 then (PySem.intText? a).map .int else none
  | ds => dInt ds
theorem call_intA : CallR X (.type "int") (fun xs H Q => (∃ a n, xs = [.str a] ∧ PySem.intText? a = some n ∧ a.length ≤ 640 ∧ Q (.int n) H) ∨ (∃ i, xs = [.int i] ∧ Q (.int i) H) ∨ ∃ k, xs = [.bl k] ∧ Q (.int (if k then 1 else 0)) H) := by
  intro pins s σ H xs us Q I r h
  rcases h with h | h
  · exact call_int_str pins s σ H xs us Q I r h
  · exact call_int1 pins s σ H xs us Q I r h
theorem cd_intA : CallD K (fun xs H Q => (∃ a n, xs = [.str a] ∧ PySem.intText? a = some n ∧ a.length ≤ 640 ∧ Q (.int n) H) ∨ (∃ i, xs = [.int i] ∧ Q (.int i) H) ∨ ∃ k, xs = [.bl k] ∧ Q (.int (if k then 1 else 0)) H) dIntA := by
  intro pa S H p xs ds z Q s r h q
  unfold dIntA at h
  split at h
  · rename_i a
    split at h
    · rename_i hl
      obtain ⟨n, hn, rfl⟩ := Option.map_eq_some_iff.mp h
      cases r with
      | cons r1 r2 => cases r2; cases r1; exact .inl ⟨a, n, rfl, hn, hl, q _ H (fun _ _ h => h) (.int _)⟩
    · cases h
  · exact .inr (cd_int pa S H p _ _ z Q s r h q)
def dMulA : D → D → Option D
  | .lst ds, .int k => if 0 ≤ k ∧ k ≤ 1000 ∧ ds.length ≤ 1000 then some (.lst (List.replicate k.toNat ds).flatten) else none
  | x, y => dMul x y
theorem RpL.rep {pa : PAx} {H : Hp} {vs : List V} {ds : List D} (h : RpL K pa H vs ds) : ∀ n, RpL K pa H (List.replicate n vs).flatten (List.replicate n ds).flatten
  | 0 => .nil
  | n + 1 => by
    rw [List.replicate_succ, List.replicate_succ, List.flatten_cons, List.flatten_cons]
    exact h.append (RpL.rep h n)
theorem op_mulA : OpR X (binaryOp .Mult) (fun x y H Q => rI CMul (fun i j => .int (i * j)) x y H Q ∨ rRep x y H Q) := by
  intro pins s σ H x y v u Q I rx ry h
  rcases h with h | h
  · exact op_mul pins s σ H x y v u Q I rx ry h
  · exact op_rep pins s σ H x y v u Q I rx ry h
theorem od_mulA : OpD K (fun x y H Q => rI CMul (fun i j => .int (i * j)) x y H Q ∨ rRep x y H Q) dMulA := by
  intro pa S H p x y d e z Q s r r' h q
  unfold dMulA at h
  split at h
  · rename_i ds k
    split at h
    · rename_i hk
      cases h
      cases r with
      | lst h1 h2 =>
        cases r'
        have hl := h2.length
        refine .inr ⟨_, k, _, rfl, rfl, hid_sub _ _ h1, by omega, by omega, ?_, fun a n => q _ _ (same_upd n) (Rp.newL s (h2.rep _) n)⟩
        have h3 : k.toNat ≤ 1000 := by omega
        have h4 := Nat.mul_le_mul (hl ▸ hk.2.2) h3
        have h5 : 1000 * 1000 ≤ sizeLine := by decide +kernel
        omega
    · cases h
  · exact .inl (od_mul pa S H p x y d e z Q s r r' h q)
def mEnumA (a : ML) : ML := fun r p => bnd (a r p) fun xs p => match xs with
  | [.lst ds] => some (enumD ds, p)
  | [.tup ds] => some (enumD ds, p)
  | _ => none
end
end Dt
namespace Dt
variable [GTab]
open PySem PySem.Spec PyProof.Rows L2
section
variable {X : Cx} {K : PySem.W.Frag} {fx : Bool} {E : En}
def sPar3 (i j l : Nat) (ms : ML) : MS := fun r p => match ms (shR r) p with | some ([x, y, z], p) => some (.nx (((r.set i (.sh x)).set j (.sh y)).set l (.sh z)) p) | _ => none
theorem RpL.three {pa : PAx} {H : Hp} {vs : List V} {x y z : D} (h : RpL K pa H vs [x, y, z]) : ∃ u v w, vs = [u, v, w] ∧ Rp K pa H u x ∧ Rp K pa H v y ∧ Rp K pa H w z := by
  cases h with
  | cons a b =>
    cases b with
    | cons b c =>
      cases c with
      | cons c d => cases d; exact ⟨_, _, _, rfl, a, b, c⟩
theorem red_par3 {i j l : Nat} {ms : ML} {D : Ends} {σ : L2.St} {H : Hp} (h : tS K fx E (sPar3 i j l ms) D σ H) : tPar3 i j l (tML K ms) D σ H := by
  obtain ⟨pa, S0, S, A, r, p, o, e, m, q⟩ := h
  unfold sPar3 at m
  split at m
  · rename_i x y z p1 m1
    cases m
    refine ⟨pa, S, shR r, p, _, p1, e.cn, m1, fun vs H1 x1 s1 r1 => ?_⟩
    obtain ⟨v, w, u, rfl, rv, rw', ru⟩ := r1.three
    have e1 := e.go x1 (e.st0 s1)
    obtain ⟨S2, e2, f2⟩ := e1.setSh i rv
    obtain ⟨S3, e3, f3⟩ := e2.setSh j (Rp.mono f2 _ _ rw')
    obtain ⟨S4, e4, f4⟩ := e3.setSh l (Rp.mono f3 _ _ (Rp.mono f2 _ _ ru))
    exact ⟨v, w, u, rfl, q pa S0 S4 A _ H1 e4 ((((e.frm x1).trans f2).trans f3).trans f4)⟩
  · cases m
theorem js_par3 {i j l : Nat} {x y z : Str} {a b c : Expr} {ms : ML} {px py pz pt pos : Pos} {kt k2 pt2} (hc : X.calm = true) (hN : X.N.Nodup) (ha : JA X [a, b, c] ms) (hi : X.N[i]? = some x := by rfl) (hj : X.N[j]? = some y := by rfl) (hl : X.N[l]? = some z := by rfl) (hij : i ≠ j := by decide) (hil : i ≠ l := by decide) (hjl : j ≠ l := by decide)
    (hx : X.env.scope.names.lookup x = some .local := by rfl) (hy : X.env.scope.names.lookup y = some .local := by rfl) (hz : X.env.scope.names.lookup z = some .local := by rfl)
    (hw : swappedStores [.Tuple [.Name x px, .Name y py, .Name z pz] kt pt] (.Tuple [a, b, c] k2 pt2) X.env = pure (some [x, y, z]) := by rfl)
    (hs : swapsWithSole [.Tuple [.Name x px, .Name y py, .Name z pz] kt pt] (.Tuple [a, b, c] k2 pt2) pos.line X.env = pure false := by rfl) :
    JS fx X (.Assign [.Tuple [.Name x px, .Name y py, .Name z pz] kt pt] (.Tuple [a, b, c] k2 pt2) pos) (sPar3 i j l ms) := ⟨fun E => (ps_par3 hc hN hi hj hl hij hil hjl hx hy hz ha.pa hw hs).weak fun D σ H => red_par3⟩
end
end Dt
namespace Dt
variable [GTab]
open PySem PySem.Spec PyProof.Rows L2
section
variable {X : Cx} {K : PySem.W.Frag} {c f m : Str} {C g : Addr} {e o : Expr} {es : List Expr} {me : M} {ms : ML} {p p2 pos apos : Pos} {k n : Nat} {mm : MF} {pl : Sem Bool}
/-- isinstance(x, C) of an instance of C -/
def mIsiC (c : Str) (a : M) : M := fun r p => bnd (a r p) fun x p => match x with | .slt c' _ => if c' = c then some (.bl true, p) else none | _ => none
/-- x.f, f the slot -/
def mSlt (c : Str) (i : Nat) (a : M) : M := fun r p => bnd (a r p) fun x p => match x with | .slt c' fs => if c' = c then lft fs[i]? p else none | _ => none
/-- x.f, f a property -/
def mProp (c : Str) (mm : MF) (a : M) : M := fun r p => bnd (a r p) fun x p => match x with | .slt c' fs => if c' = c then mm [.slt c fs] p else none | _ => none
/-- x.m(..) -/
def mMeth (c : Str) (n : Nat) (mm : MF) (a : M) (ms : ML) : M := fun r p => bnd (a r p) fun x p => match x with | .slt c' fs => if c' = c then bnd (ms r p) fun ds p => if ds.length = n then mm (.slt c fs :: ds) p else none else none | _ => none
end
end Dt
namespace Dt
variable [GTab]
open PySem PySem.Spec PyProof.Rows L2
theorem bt_repr : bootBuiltins "repr" = some (.builtin "repr") := by decide +kernel
section
variable {X : Cx} {K : PySem.W.Frag} {k : Nat} {f : Addr} {fd : FuncData} {ps : List Str} {m : MF} {x : Str} {p pos : Pos} {e : Expr} {mf : ML}
def mCallP (m : MF) (mf : ML) : M := fun r p => match mf r p with
  | some (ds, p1) => (match asInts ds with
    | some ns => (match m [.pool] ns with
      | some (d, _) => if np d = true then some (d, p1) else none
      | none => none)
    | none => none)
  | none => none
theorem red_callP {σ : L2.St} {H : Hp} {Q : VK} {E : XK} (h : tM K (mCallP m mf) σ H Q) : tCall (spM K 1 m) [] E (tCons (tF K mf) tNil) σ H Q := by
  obtain ⟨pa, S, r, p, d, p', c, e, q⟩ := h
  unfold mCallP at e
  split at e
  · rename_i ds p1 m1
    split at e
    · rename_i ns hns
      split at e
      · rename_i d1 p2 m2
        split at e
        · rename_i hnp
          obtain ⟨rfl, rfl⟩ := pr e
          refine ⟨pa, S, r, p, ds, p1, c, m1, fun a xs H1 x1 s1 hn ha hr => ?_⟩
          rw [asInts_eq hns] at hr
          have hxs := hr.ints_of
          subst hxs
          have hpa : ¬ pa.mut a := c.sta.notpool hn
          refine ⟨⟨some a, pa.c⟩, fun b => S b ∨ b = a, ns, [.pool], d1, p2, ⟨fun b hb => ?_, fun b hb => ?_, s1.tab, fun b h => .inl (s1.ms b h), fun b h z => (by cases h; exact hpa (.inr z)), fun b w hb hw => (by
            rcases hb with hb | rfl
            · exact s1.ntp b w hb hw
            · rw [ha] at hw
              cases hw
              rintro (⟨_, z⟩ | ⟨_, _, z⟩) <;> cases z)⟩, .cons (.pool rfl) .nil, rfl, m2, fun v H' x2 s2 r2 => ?_⟩
          · cases hb; exact ⟨ha, .inr rfl⟩
          · rcases hb with hb | rfl
            · exact s1.trk b hb
            · exact ⟨_, ha⟩
          · have ne : ∀ b o, H b = some o → b ≠ a := fun b o hb z => by rw [z, hn] at hb; cases hb
            have np : ∀ b o, H b = some o → ¬ pa.mut b → ¬ (PAx.mk (some a) pa.c).mut b := fun b o hb n z => by
              rcases z with z | z
              · exact ne b o hb (Option.some.inj z).symm
              · exact n (.inr z)
            refine q v H' (fun b o n hb => x2 b o (np b o hb n) (x1 b o n hb)) ⟨fun b hb => ⟨x2 b _ (fun z => ?_) (s1.pool b hb).1, (s1.pool b hb).2⟩, fun b hb => s2.trk b (.inl hb), s2.tab, s1.ms, s1.pn, fun b w hb hw => s2.ntp b w (.inl hb) hw⟩ ?_
            · rcases z with z | z
              · exact ne b _ (c.sta.pool b hb).1 (Option.some.inj z).symm
              · exact s1.pn b hb z
            exact Rp.mono (hid_mono (fun b o _ h => h) fun b hb o _ => .inl hb) _ _ (Rp.chg _ _ hnp r2)
        · cases e
      · cases e
    · cases e
  · cases e
structure JK (X : Cx) (kws : List Keyword) (ms : ML) : Prop where pk : PK X kws (tML X.K ms)
theorem jk_nil : JK X [] mNil := ⟨⟨fun pos pins s σ H Q I ⟨pa, S, r, p, ds, p', c, e, q⟩ => by
  cases e
  exact pk_nil.run pos pins s σ H Q I (q [] H Ext.refl c.sta .nil)⟩⟩
theorem jk_cons {me : M} {ms : ML} {nm : Option Str} {kpos : Pos} {kws : List Keyword} (h : JE X e me) (h' : JK X kws ms) : JK X (⟨nm, e, kpos⟩ :: kws) (mCons me ms) :=
  ⟨⟨fun pos pins s σ H Q I q => (pk_cons h.pe h'.pk).run pos pins s σ H Q I (red_cons q)⟩⟩
/-- how a def is bound by keywords alone -/
def KwB (K : PySem.W.Frag) (fd : FuncData) (ps : List Str) : Prop := ∀ (s : Shared) (ws : List Value), ws.length = ps.length → BindsTo s fd ⟨[], ps.zip ws⟩ (ps.zip ws)
theorem pe_callK0 {sp : Sp} {E : XK} {CX : CXT} {kws : List Keyword} {tk : TA} (F : FnOk X.prog X.w X.K X.mg X.base CX k f fd ps sp) (hr : Room k X.A) (hg : Gl X x) (hm : X.mg x = some (.ref f)) (hk : PySem.W.keepIn X.K (.ref f) = true) (hb : KwB X.K fd ps) (hx : Passes CX X E)
    (hkw : PK X kws tk) (hall : (backToKw pos (keywordEach kws X.env)).all (·.1.isSome) = true := by rfl) (hks : (backToKw pos (keywordEach kws X.env)).filterMap (·.1) = ps := by rfl)
    (hdb : (x == ("__debug__" : Str)) = false := by decide)
    (hpl : ((backTo pos (starEach [] X.env)).any (·.1) || (backToKw pos (keywordEach kws X.env)).any (·.1.isNone)) = false := by rfl) :
    PE X (.Call (.Name x p) [] kws pos) (tCall sp [] E tk) := by
  refine ⟨fun pins s σ H Q I h => ?_⟩
  refine wpAny_Call_Name_kw (ld_glob I hg hm ?_ hdb)
  refine PySem.W.callWith_KW0 (h₀ := X.base) I.ok.mod.kin hk hall (thn (hkw.run pos pins s σ H _ I h) fun ws s1 ⟨zs, H1, I1, rz, q⟩ => ⟨I1.kIn, ?_⟩) hpl
  rw [hks]
  have q : sp (zs ++ []) H1 Q E := q
  rw [List.append_nil] at q
  have hl : ws.length = ps.length := by rw [← rz.length]; exact F.len _ _ _ _ q
  refine wpAny_call (codeAny_mono (F.run X.A X.stack s1 H1 ⟨[], ps.zip ws⟩ ws zs Q E hr I1.env0 (hb s1 ws hl) rz q) fun r s' hq => ?_)
  cases r with
  | error e => exact hx pins σ H1 s1 e s' I1 hq
  | ok fl =>
    cases fl with
    | ret u => exact I1.after hq
    | next => exact False.elim hq
    | brk => exact False.elim hq
    | cont => exact False.elim hq
theorem je_callK0 {n : Nat} {ms : ML} {kws : List Keyword} (F : FnOk X.prog X.w X.K X.mg X.base CX0 k f fd ps (spM X.K n m)) (hr : Room k X.A) (hm : X.mg x = some (.ref f)) (hk : PySem.W.keepIn X.K (.ref f) = true) (hb : KwB X.K fd ps) (hkw : JK X kws ms) (hg : Gl X x := by rfl)
    (hall : (backToKw pos (keywordEach kws X.env)).all (·.1.isSome) = true := by rfl) (hks : (backToKw pos (keywordEach kws X.env)).filterMap (·.1) = ps := by rfl)
    (hdb : (x == ("__debug__" : Str)) = false := by decide)
    (hpl : ((backTo pos (starEach [] X.env)).any (·.1) || (backToKw pos (keywordEach kws X.env)).any (·.1.isNone)) = false := by rfl) : JE X (.Call (.Name x p) [] kws pos) (mCall n m ms) :=
  ⟨(pe_callK0 F hr hg hm hk hb pass0 hkw.pk hall hks hdb hpl).weak fun σ H Q => red_call⟩
end
section
variable {K : PySem.W.Frag} {mg : Str → Option Value} {h : Heap}
theorem kwB_of {x qual : Str} {st : Stmt} {f : Addr} {fd : FuncData} {ps : List Str} (F : Fun K x qual st f fd) (b : ∀ (kV doc pm : Value) (an : Option Addr) (cdv ct : Value) (ws : List Value), ws.length = ps.length → bindArgs (PySem.W.fnOf x qual (defArgs st) (defBody st) (defScope st) .none kV doc pm an cdv ct) ⟨[], ps.zip ws⟩ = pure (ps.zip ws)) : KwB K fd ps := by
  obtain ⟨oc, od, kV, doc, pm, an, cdv, ct, osl, rfl, _, _⟩ := F.ex
  exact fun s ws hl => .of_eq (b _ _ _ _ _ _ _ hl)
end
end Dt
namespace Dt
open PySem PySem.Spec PyProof.Rows L2
end Dt
namespace Dt
variable [GTab]
open PySem PySem.Spec PyProof.Rows L2
def sCatO (i : Nat) (me : M) : MS := fun r p => match owL r i, me (shR r) p with | some ds, some (.lst es, p) => if ds.length + es.length ≤ lim then some (.nx (r.set i (.sh (.lst (ds ++ es)))) p) else none | _, _ => none
section
variable {r : Ev} {p : List Int} {Q : D → List Int → Prop} {QB : Bool → List Int → Prop} {QL : List D → List Int → Prop}
theorem wi_enumA {a : ML} (h : Wp (a r p) fun xs p => ∃ ds, (xs = [.lst ds] ∨ xs = [.tup ds]) ∧ QL (enumD ds) p) : Wp (mEnumA a r p) QL := by
  unfold mEnumA
  refine wp_bnd.mpr (h.mono fun xs p ⟨ds, h1, h2⟩ => ?_)
  rcases h1 with rfl | rfl
  · exact wp_some.mpr h2
  · exact wp_some.mpr h2
theorem wi_slt {c : Str} {i : Nat} {a : M} (h : Wp (a r p) fun x p => ∃ fs d, x = .slt c fs ∧ fs[i]? = some d ∧ Q d p) : Wp (mSlt c i a r p) Q := by
  unfold mSlt
  refine wp_bnd.mpr (h.mono fun x p ⟨fs, d, h1, h2, h3⟩ => ?_)
  subst h1
  simp only [if_pos rfl, h2, lft_some]
  exact wp_some.mpr h3
theorem wi_isiC {c : Str} {a : M} (h : Wp (a r p) fun x p => ∃ fs, x = .slt c fs ∧ Q (.bl true) p) : Wp (mIsiC c a r p) Q := by
  unfold mIsiC
  refine wp_bnd.mpr (h.mono fun x p ⟨fs, h1, h2⟩ => ?_)
  subst h1
  simp only [if_pos rfl]
  exact wp_some.mpr h2
theorem wi_prop {c : Str} {mm : MF} {a : M} (h : Wp (a r p) fun x p => ∃ fs, x = .slt c fs ∧ Wp (mm [.slt c fs] p) Q) : Wp (mProp c mm a r p) Q := by
  unfold mProp
  refine wp_bnd.mpr (h.mono fun x p ⟨fs, h1, h2⟩ => ?_)
  subst h1
  simp only [if_pos rfl]
  exact h2
theorem wi_callP {m : MF} {mf : ML} (h : Wp (mf r p) fun ds p => ∃ ns, asInts ds = some ns ∧ Wp (m [.pool] ns) fun d _ => np d = true ∧ Q d p) : Wp (mCallP m mf r p) Q := by
  obtain ⟨ds, p1, e1, ns, e2, d, p2, e3, h1, h2⟩ := h
  unfold mCallP
  rw [e1]
  simp only [e2, e3, if_pos h1]
  exact wp_some.mpr h2
theorem wi_dc {vs : List Nat} {mi : ML} {mg : D → Ev → Option Ev} {mt : MB} {mk mv : M} (h : Wp (mi r p) fun ds p => ds.length ≤ lim ∧ Wp (dcGo mg mt mk mv (wipeR r vs) ds [] p) fun m p => Q (dkv m) p) : Wp (mDc vs mi mg mt mk mv r p) Q := by
  unfold mDc
  refine wp_bnd.mpr (h.mono fun ds p ⟨h1, h2⟩ => ?_)
  rw [if_pos h1]
  exact wp_bnd.mpr (h2.mono fun m p h => wp_some.mpr h)
theorem wi_sortIt {a : M} (h : Wp (a r p) fun x p => ∃ qs, (itemsD x).bind asSI = some qs ∧ Q (.lst ((psort qs).map dPr)) p) : Wp (mSortIt a r p) Q := by
  unfold mSortIt
  refine wp_bnd.mpr (h.mono fun x p ⟨qs, h1, h2⟩ => ?_)
  rw [h1]
  exact wp_some.mpr h2
theorem wi_listIt {a : M} (h : Wp (a r p) fun x p => ∃ m, itemsD x = some m ∧ Q (.lst (m.map fun q => .tup [dKey q.1, q.2])) p) : Wp (mListIt a r p) Q := by
  unfold mListIt
  refine wp_bnd.mpr (h.mono fun x p ⟨m, h1, h2⟩ => ?_)
  rw [h1]
  exact wp_some.mpr h2
end
section
variable {r : Sv} {p : List Int} {nx bk ct : Sv → List Int → Prop} {rt : D → List Int → Prop}
theorem si_catO {i : Nat} {me : M} {ds : List D} (h1 : owL r i = some ds) (h : Wp (me (shR r) p) fun d p => ∃ es, d = .lst es ∧ ds.length + es.length ≤ lim ∧ nx (r.set i (.sh (.lst (ds ++ es)))) p) : Ws (sCatO i me r p) nx rt bk ct := by
  obtain ⟨d, p1, e1, es, rfl, h2, h3⟩ := h
  unfold sCatO
  rw [h1, e1]
  simp only [if_pos h2]
  exact h3
theorem si_par3 {i j l : Nat} {ms : ML} (h : Wp (ms (shR r) p) fun ds p => ∃ x y z, ds = [x, y, z] ∧ nx (((r.set i (.sh x)).set j (.sh y)).set l (.sh z)) p) : Ws (sPar3 i j l ms r p) nx rt bk ct := by
  obtain ⟨ds, p1, e1, x, y, z, rfl, h2⟩ := h
  unfold sPar3
  rw [e1]
  exact h2
end
end Dt
namespace Dt
open PySem PySem.Spec PyProof.Rows L2
structure RoomG (k : Nat) (A : Around) : Prop where
  room : Room k A
  gd : A.guards = some []
theorem RoomG.mono {j k : Nat} {A : Around} (r : RoomG k A) (h : j ≤ k) : RoomG j A := ⟨r.room.mono h, r.gd⟩
theorem RoomG.deeper {k : Nat} {A : Around} (r : RoomG (k + 1) A) (env : Env) : RoomG k (A.deeper env) := ⟨r.room.deeper env, r.gd⟩
theorem RoomG.in1 {k : Nat} {A : Around} (r : RoomG (k + 1) A) : RoomG k A.in1 := ⟨r.room.in1, r.gd⟩
theorem RoomG.units {k : Nat} {A : Around} (r : RoomG k A) : A.units + 64 < cLine := r.room.units
structure FnG (P : Program) (w : World) (K : PySem.W.Frag) (mg : Str → Option Value) (base : Heap) (k : Nat) (f : Addr) (fd : FuncData) (ps : List Str) (sp : Sp) : Prop where
  len : ∀ vs H Q E, sp vs H Q E → vs.length = ps.length
  run : ∀ (A : Around) (outer : List Env) (s : Shared) (H : Hp) (args : Args) (us : List Value) (vs : List V) (Q : VK) (E : XK), RoomG k A →
    Env0 P w K mg base A outer s H → BindsTo s fd args (ps.zip us) → Vals vs us → sp vs H Q E → codeAny (model P w) A (.call (.ref f) args) (CR CX0 outer P w H s Q E) s
/-- a promise by place -/
def FnRG (P : Program) (w : World) (K : PySem.W.Frag) (mg : Str → Option Value) (base : Heap) (k : Nat) (f : Addr) (sp : Sp) : Prop :=
  ∀ (A : Around) (outer : List Env) (s : Shared) (H : Hp) (us : List Value) (vs : List V) (Q : VK) (E : XK), RoomG k A →
    Env0 P w K mg base A outer s H → Vals vs us → sp vs H Q E → codeAny (model P w) A (.call (.ref f) ⟨us, []⟩) (CR CX0 outer P w H s Q E) s
section
variable {P : Program} {w : World} {K : PySem.W.Frag} {mg : Str → Option Value} {base : Heap} {k : Nat} {f : Addr} {fd : FuncData} {N ps : List Str} {sp sp' : Sp}
theorem FnRG.imp (F : FnRG P w K mg base k f sp) (h : ∀ vs H Q E, sp' vs H Q E → sp vs H Q E) : FnRG P w K mg base k f sp' := fun A o s H us vs Q E r e v q => F A o s H us vs Q E r e v (h _ _ _ _ q)
theorem FnG.byPlace (F : FnG P w K mg base k f fd ps sp) (hb : Binds K fd ps []) : FnRG P w K mg base k f sp := fun A outer s H us vs Q E hr e0 rv q => by
  have lv := F.len _ _ _ _ q
  have lu : us.length = ps.length := rv.length.symm.trans lv
  have hK : K.In s.heap := e0.mod.kin.keeps fun b o z => (e0.bs b o z).1
  have hB := hb s us hK (by rw [List.append_nil]; exact lu)
  rw [List.append_nil] at hB
  exact F.run A outer s H ⟨us, []⟩ us vs Q E hr e0 hB rv q
/-- a def of the text keeps its promise, by its body -/
theorem fnG_of {x qual : Str} {st : Stmt} (F : Fun K x qual st f fd) (S : FnScope N ps (defScope st)) (len : ∀ vs H Q E, sp vs H Q E → vs.length = ps.length)
    (body : ∀ (cdv : Value) (A : Around) (outer : List Env) (s : Shared) (H : Hp) (vs : List V) (Q : VK) (E : XK), RoomG k (A.deeper (envOfC qual (defScope st) s.heap.objs.size f cdv)) → sp vs H Q E →
      ∃ t, PSs (cxOf CX0 P w K mg base N qual (defScope st) f cdv A outer s H E).nox (defBody st) t ∧ t { nx := fun _ H' => Q .non H', rt := Q } (start N vs) H) : FnG P w K mg base (k + 1) f fd ps sp := by
  obtain ⟨oc, od, kV, doc, pm, an, cdv, ct, osl, rfl, lk, hcd⟩ := F.ex
  refine ⟨len, fun A outer s H args us vs Q E hr e0 hb rv hq => ?_⟩
  have old : ∀ b o, base.get? b = some o → s.heap.get? b = some o := fun b o z => (e0.bs b o z).1
  have inK : K.In s.heap := e0.mod.kin.keeps old
  have noL : s.heap.NoLimit := e0.mod.nolimit.keeps old
  have kinds : ∀ y ∈ ps.zip us, (defScope st).names.lookup y.1 = some .local ∨ ((defScope st).names.lookup y.1 = some .cell ∧ ((cellsFrom (s.heap.objs.size + 1) (defScope st).names []).lookup y.1).isSome = true) := by
    rintro ⟨n, v⟩ hy
    exact (S.par n (List.of_mem_zip hy).1).imp id fun z => ⟨z, PySem.W.cellsFrom_some _ _ _ (.inl z)⟩
  obtain ⟨t, ht, tq⟩ := body cdv A outer s H vs Q E (hr.deeper _) hq
  refine codeAny_call_function hr.room.depth (inK _ _ lk) rfl S.co S.gen rfl (PySem.W.codeRec_of inK hcd) (hb _ _ _ _ ?_)
  refine wpAny_newFunctionEnv_cells S.kind kinds fun env he s1 y => ?_
  cases he
  refine ⟨noL.keeps y.toInCall.keep, codeAny_func (wpAny_mono (ht.nox.run [] s1 (start N vs) H _ (inv_start S hr.room.hd e0 (len _ _ _ _ hq) rv y) tq) (fun fl s' z => ?_) fun _ _ z => z)⟩
  cases fl with
  | brk => exact z.elim fun _ z => z.elim fun _ z => z.2.elim
  | cont => exact z.elim fun _ z => z.elim fun _ z => z.2.elim
  | next => exact let ⟨_, H', J, q⟩ := z; ⟨.non, H', J.os, J.bare, J.base, J.hok, rfl, q⟩
  | ret u => exact let ⟨v, _, H', J, r, q⟩ := z; ⟨v, H', J.os, J.bare, J.base, J.hok, r, q⟩
end
section
variable {X : Cx} {k : Nat} {f : Addr} {fd : FuncData} {ps : List Str} {sp : Sp} {pins : List (Addr × Obj)} {σ : L2.St} {H : Hp} {s : Shared} {Q : VK}
/-- what a call gives back -/
def FlE (X : Cx) (pins : List (Addr × Obj)) (σ : L2.St) (Q : VK) (r : Result) (s' : Shared) : Prop := match r with | .ok (.ret v) => EP X pins σ Q v s' | .ok _ => False | .error e => X.xe e s'
theorem fl_end {E : XK} {r : Result} {s' : Shared} (I : Inv X pins σ H s) (z : CR CX0 X.stack X.prog X.w H s Q E r s') : FlE X pins σ Q r s' := by
  cases r with
  | error e => exact False.elim z
  | ok fl =>
    cases fl with
    | ret u => exact I.after z
    | _ => exact False.elim z
theorem run_place {us : List Value} {vs : List V} {E : XK} (F : FnRG X.prog X.w X.K X.mg X.base k f sp) (hr : RoomG k X.A) (I : Inv X pins σ H s) (rv : Vals vs us) (q : sp vs H Q E) :
    codeAny (model X.prog X.w) X.A (.call (.ref f) ⟨us, []⟩) (FlE X pins σ Q) s :=
  codeAny_mono (F X.A X.stack s H us vs Q E hr I.env0 rv q) fun _ _ z => fl_end I z
variable {x : Str} {e : Expr} {es : List Expr} {t : TA} {E : XK} {p pos : Pos}
/-- f(e, ..) -/
theorem pe_callG (F : FnG X.prog X.w X.K X.mg X.base k f fd ps sp) (hr : RoomG k X.A) (hg : Gl X x) (hm : X.mg x = some (.ref f)) (hk : PySem.W.keepIn X.K (.ref f) = true) (hb : Binds X.K fd ps []) (ha : PA X (e :: es) t)
    (hdb : (x == ("__debug__" : Str)) = false := by decide) (he : starEach (e :: es) X.env = (false, eval e X.env) :: starEach es X.env := by rfl) (hpl : (backTo pos (starEach es X.env)).any (·.1) = false := by rfl) :
    PE X (.Call (.Name x p) (e :: es) [] pos) (tCall sp [] E t) :=
  ⟨fun pins s σ H Q I h => wpAny_Call_Name_kw (ld_glob I hg hm (PySem.W.callWith_K (h₀ := X.base) I.ok.mod.kin hk (thn (ha.run pos pins s σ H _ I h) fun us s1 ⟨vs, H1, I1, r, q⟩ => ⟨I1.kIn, by
    have q : sp (vs ++ []) H1 Q E := q
    rw [List.append_nil] at q
    exact wpAny_call (run_place (F.byPlace hb) hr I1 r q)⟩) he hpl) hdb)⟩
end
end Dt
namespace Dt
open PySem PySem.Spec PyProof.Rows L2
section
variable {P : Program} {w : World} {K : PySem.W.Frag} {mg mb : Str → Option Value} {k : Nat} {fa a : Addr} {fd : FuncData} {x : Str} {sp : Sp} {s1 : Shared} {vs : List Value} {ns : List Int} {H : Hp}
/-- what the law's call promises -/
def LawEnd (s1 : Shared) (r : Result) (s' : Shared) : Prop := r = .ok (.ret (.bool true)) ∧ OldK s1.heap s'.heap ∧ s'.os = s1.os ∧ AllBare s'.gens
end
end Dt
namespace Dt
variable [GTab]
open PySem PySem.Spec PyProof.Rows L2
mutual
def toPy : D → Option PyData
  | .non => some .none
  | .bl b => some (.bool b)
  | .int i => some (.int i)
  | .str x => some (.str x)
  | .lst ds => (toPys ds).map .list
  | .tup ds => (toPys ds).map .tuple
  | _ => none
def toPys : List D → Option (List PyData)
  | [] => some []
  | d :: ds => match toPy d, toPys ds with
    | some p, some ps => some (p :: ps)
    | _, _ => none
end
section
variable {X : Cx} {pins : List (Addr × Obj)} {σ : L2.St} {H : Hp} {s : Shared} {pa : PAx}
mutual
theorem reads_D (I : Inv X pins σ H s) : ∀ (d : D) (v : V) (u : Value) (q : PyData), Rp X.K pa H v d → RelV v u → toPy d = some q → ∃ as, Reads s.heap u q as
  | .non, _, _, _, r, ru, h => by
    cases r
    cases ru
    cases h
    exact ⟨_, .none⟩
  | .bl b, _, _, _, r, ru, h => by
    cases r
    cases ru
    cases h
    exact ⟨_, .bool b⟩
  | .int i, _, _, _, r, ru, h => by
    cases r
    obtain ⟨t, rfl⟩ := ru
    cases h
    exact ⟨_, .int i t⟩
  | .str x, _, _, _, r, ru, h => by
    cases r
    obtain ⟨t, rfl⟩ := ru
    cases h
    exact ⟨_, .str x t⟩
  | .lst ds, _, _, _, r, ru, h => by
    obtain ⟨ps, e, rfl⟩ := Option.map_eq_some_iff.mp (show (toPys ds).map PyData.list = _ from h)
    cases r with
    | lst h1 h2 =>
      cases ru
      obtain ⟨its, rv, ⟨o, ho, hc, n, hd⟩, _, _⟩ := Rp.isList I (SqL.of h1)
      obtain ⟨as, ra⟩ := reads_Ds I ds _ _ _ h2 rv e
      exact ⟨_, .list ho hc hd (by simpa using ra)⟩
  | .tup ds, _, _, _, r, ru, h => by
    obtain ⟨ps, e, rfl⟩ := Option.map_eq_some_iff.mp (show (toPys ds).map PyData.tuple = _ from h)
    cases r with
    | tup h1 h2 =>
      cases ru
      obtain ⟨its, rv, ⟨o, ho, hc, n, hd⟩, _, _⟩ := Rp.isTup I h1
      obtain ⟨as, ra⟩ := reads_Ds I ds _ _ _ h2 rv e
      exact ⟨_, .tuple ho hc hd (by simpa using ra)⟩
  | .pool, _, _, _, _, _, h => by cases h
  | .scr _, _, _, _, _, _, h => by cases h
  | .dk _ _, _, _, _, _, _, h => by cases h
  | .dt _ _, _, _, _, _, _, h => by cases h
  | .ins _ _ _, _, _, _, _, _, h => by cases h
  | .slt _ _, _, _, _, _, _, h => by cases h
  | .fn _, _, _, _, _, _, h => by cases h
  | .adr _, _, _, _, _, _, h => by cases h
  | .ptp _, _, _, _, _, _, h => by cases h
  | .act _ _ _ _, _, _, _, _, _, h => by cases h
theorem reads_Ds (I : Inv X pins σ H s) : ∀ (ds : List D) (vs : List V) (us : List Value) (qs : List PyData), RpL X.K pa H vs ds → Vals vs us → toPys ds = some qs → ∃ as, ReadsAll s.heap us qs as
  | [], _, _, _, r, ru, h => by
    cases r
    cases ru
    cases h
    exact ⟨_, .nil⟩
  | d :: ds, _, _, _, r, ru, h => by
    cases r with
    | cons r1 r2 =>
      cases ru with
      | cons u1 u2 =>
        simp only [toPys] at h
        split at h
        · rename_i q qs e1 e2
          cases h
          obtain ⟨a1, h1⟩ := reads_D I d _ _ _ r1 u1 e1
          obtain ⟨a2, h2⟩ := reads_Ds I ds _ _ _ r2 u2 e2
          exact ⟨_, .cons h1 h2⟩
        · cases h
end
end
def dReprA : List D → Option D
  | [.lst ds] => match toPy (.lst ds) with
    | some q => if (q.showable && !q.hasDict) = true ∧ q.depth ≤ 50 ∧ q.shown.length ≤ lim then some (.str q.shown) else none
    | none => none
  | [.tup ds] => match toPy (.tup ds) with
    | some q => if (q.showable && !q.hasDict) = true ∧ q.depth ≤ 50 ∧ q.shown.length ≤ lim then some (.str q.shown) else none
    | none => none
  | ds => dRepr ds
def rReprA (K : PySem.W.Frag) : List V → Hp → VK → Prop := fun xs H Q => rRepr xs H Q ∨ ∃ (pa : PAx) (a : Addr) (d : D) (q : PyData), xs = [.ref a] ∧ Rp K pa H (.ref a) d ∧ toPy d = some q ∧ (q.showable && !q.hasDict) = true ∧ q.depth ≤ 50 ∧ q.shown.length ≤ lim ∧ Q (.str q.shown) H
theorem call_reprA {X : Cx} (hg : X.A.guards = some []) (hu : X.A.units + 64 < cLine) : CallR X (.builtin "repr") (rReprA X.K) := by
  intro pins s σ H xs us Q I r h
  rcases h with h | ⟨pa, a, d, q, rfl, rp, e, hs, hd, hl, hq⟩
  · exact call_reprD pins s σ H xs us Q I r h
  · obtain ⟨u, rfl, ru⟩ := vals1 r
    obtain ⟨as, ra⟩ := reads_D I d _ _ _ rp ru e
    obtain rfl : u = Value.ref a := ru
    rw [Bool.and_eq_true, Bool.not_eq_true'] at hs
    refine repr_of_reads' (prog := X.prog) (w := X.w) ra hs.1 (fun z => by rw [hs.2] at z; cases z) hg (by omega) (fun _ _ z => z) (fun h' u tk hk => ?_) (lim_sz hl)
    exact ⟨.str q.shown, H, I.kept (t' := tk) hk, ⟨u, rfl⟩, hq⟩
theorem cd_reprA {K : PySem.W.Frag} : CallD K (rReprA K) dReprA := by
  intro pa S H p xs ds z Q s r h q
  unfold dReprA at h
  split at h
  · rename_i ds
    split at h
    · rename_i q0 e
      split at h
      · rename_i hh
        cases h
        obtain ⟨v, rfl, rv⟩ := r.one
        cases rv with
        | lst h1 h2 => exact .inr ⟨pa, _, .lst ds, q0, rfl, Rp.mono hid_sub _ _ (.lst h1 h2), e, hh.1, hh.2.1, hh.2.2, q _ H (fun _ _ h => h) (.str _ hh.2.2)⟩
      · cases h
    · cases h
  · rename_i ds
    split at h
    · rename_i q0 e
      split at h
      · rename_i hh
        cases h
        obtain ⟨v, rfl, rv⟩ := r.one
        cases rv with
        | tup h1 h2 => exact .inr ⟨pa, _, .tup ds, q0, rfl, Rp.mono hid_sub _ _ (.tup h1 h2), e, hh.1, hh.2.1, hh.2.2, q _ H (fun _ _ h => h) (.str _ hh.2.2)⟩
      · cases h
    · cases h
  · exact .inl (cd_repr pa S H p _ _ z Q s r h q)
end Dt
namespace Dt
variable [GTab]
open PySem PySem.Spec PyProof.Rows L2
section
variable {K : PySem.W.Frag} {pa : PAx} {S : Addr → Prop} {H H' : Hp} {d : Addr} {u : HO} {o : Obj} {σ : L2.St} {r : Ev} {p p' : List Int}
theorem EnvE.keep (e : EnvE K pa H σ r) (s : Keep K H H') : EnvE K pa H' σ r := ⟨e.len, fun i d h => let ⟨v, h1, h2⟩ := e.at_ i d h; ⟨v, h1, Rp.keep s _ _ h2⟩⟩
def isDct (u : HO) : Prop := (∃ kvs, u = .dK kvs) ∨ ∃ kvs, u = .dT kvs
theorem isDct.nst (h : isDct u) : ¬ Stb u := by
  rcases h with ⟨k, rfl⟩ | ⟨k, rfl⟩
  · exact nst_dK
  · exact nst_dT
end
end Dt
namespace Dt
variable [GTab]
open PySem PySem.Spec PyProof.Rows L2
section
variable {P : Program} {w : World} {K : PySem.W.Frag} {mg : Str → Option Value} {base : Heap} {x qual : Str} {st : Stmt} {f : Addr} {fd : FuncData} {N ps : List Str} {k : Nat} {m : MS}
theorem fn_okG (F : Fun K x qual st f fd) (S : FnScope N ps (defScope st)) (hN : ps.length ≤ N.length)
    (body : ∀ (cdv : Value) (A : Around) (outer : List Env) (s : Shared) (H : Hp) (E : XK), RoomG k (A.deeper (envOfC qual (defScope st) s.heap.objs.size f cdv)) → JSs false (cxOf CX0 P w K mg base N qual (defScope st) f cdv A outer s H E).nox (defBody st) m) :
    FnG P w K mg base (k + 1) f fd ps (spM K ps.length (runF N.length ps.length m)) := by
  refine fnG_of F S (fun vs H Q E h => ?_) (fun cdv A outer s H vs Q E hr h => ?_)
  · obtain ⟨pa, S, p, ds, d, p', s, r, hl, e, q⟩ := h
    rw [r.length, hl]
  · obtain ⟨pa, S0, p, ds, d, p', sta, r, hl, e, q⟩ := h
    refine ⟨_, (body cdv A outer s H E hr).ps ⟨pa, S0, H⟩, ?_⟩
    unfold runF at e
    have e0 := env_start (fx := false) (N := N) (fun z => by cases z) hl hN sta r
    split at e
    · rename_i d1 p1 m1
      obtain ⟨rfl, rfl⟩ := pr e
      exact ⟨pa, S0, S0, _, _, p, _, e0, m1, fun v H' x s2 r2 => q v H' x s2 r2⟩
    · rename_i r1 p1 m1
      obtain ⟨rfl, rfl⟩ := pr e
      exact ⟨pa, S0, S0, _, _, p, _, e0, m1, fun pa2 S02 S2 A2 σ2 H2 e2 f2 => by
        have so := e2.outF rfl e2.sta
        obtain ⟨h1, h2⟩ := e2.pap rfl
        subst h1
        exact q .non H2 e2.ext so .non⟩
    · cases e
theorem fn_okLG (F : Fun K x qual st f fd) (S : FnScope N ps (defScope st)) (hN : ps.length ≤ N.length)
    (body : ∀ (cdv : Value) (A : Around) (outer : List Env) (s : Shared) (H : Hp) (E : XK), RoomG k (A.deeper (envOfC qual (defScope st) s.heap.objs.size f cdv)) → JSs true (cxOf CX0 P w K mg base N qual (defScope st) f cdv A outer s H E).nox (defBody st) m) :
    FnG P w K mg base (k + 1) f fd ps (spL K ps.length (runF N.length ps.length m)) := by
  refine fnG_of F S (fun vs H Q E h => ?_) (fun cdv A outer s H vs Q E hr h => ?_)
  · obtain ⟨tb, S, p, ds, d, p', s, r, hl, e, q⟩ := h
    rw [r.length, hl]
  · obtain ⟨tb, S0, p, ds, d, p', sta, r, hl, e, q⟩ := h
    refine ⟨_, (body cdv A outer s H E hr).ps ⟨⟨none, tb⟩, S0, H⟩, ?_⟩
    unfold runF at e
    have e0 := env_start (fx := true) (N := N) (fun _ => rfl) hl hN sta r
    split at e
    · rename_i d1 p1 m1
      obtain ⟨rfl, rfl⟩ := pr e
      exact ⟨⟨none, tb⟩, S0, S0, _, _, p, _, e0, m1, fun v H' x s2 r2 => q v H' x s2 r2⟩
    · rename_i r1 p1 m1
      obtain ⟨rfl, rfl⟩ := pr e
      exact ⟨⟨none, tb⟩, S0, S0, _, _, p, _, e0, m1, fun pa2 S02 S2 A2 σ2 H2 e2 f2 => q .non H2 e2.ext (e2.outN rfl e2.sta) .non⟩
    · cases e
end
section
variable {X : Cx} {k n : Nat} {f : Addr} {fd : FuncData} {ps : List Str} {m : MF} {x : Str} {p pos : Pos} {e : Expr} {es : List Expr} {ms mf : ML}
theorem je_callG (F : FnG X.prog X.w X.K X.mg X.base k f fd ps (spM X.K n m)) (hr : RoomG k X.A) (hm : X.mg x = some (.ref f)) (hk : PySem.W.keepIn X.K (.ref f) = true) (hb : Binds X.K fd ps []) (ha : JA X (e :: es) ms) (hg : Gl X x := by rfl) (hdb : (x == ("__debug__" : Str)) = false := by decide)
    (he : starEach (e :: es) X.env = (false, eval e X.env) :: starEach es X.env := by rfl) (hpl : (backTo pos (starEach es X.env)).any (·.1) = false := by rfl) : JE X (.Call (.Name x p) (e :: es) [] pos) (mCall n m ms) :=
  ⟨(pe_callG (E := E0) F hr hg hm hk hb ha.pa hdb he hpl).weak fun σ H Q => red_call⟩
theorem je_callPG (F : FnG X.prog X.w X.K X.mg X.base k f fd ps (spM X.K 1 m)) (hr : RoomG k X.A) (hm : X.mg x = some (.ref f)) (hk : PySem.W.keepIn X.K (.ref f) = true) (hb : Binds X.K fd ps []) (ha : JF X e mf) (hg : Gl X x := by rfl) (hdb : (x == ("__debug__" : Str)) = false := by decide)
    (he : starEach [e] X.env = (false, eval e X.env) :: starEach [] X.env := by rfl) (hpl : (backTo pos (starEach [] X.env)).any (·.1) = false := by rfl) : JE X (.Call (.Name x p) [e] [] pos) (mCallP m mf) :=
  ⟨(pe_callG (E := E0) F hr hg hm hk hb (pa_cons ha.pe pa_nil he) hdb he hpl).weak fun σ H Q => red_callP⟩
end
end Dt
namespace Dt
variable [GTab]
open PySem PySem.Spec PyProof.Rows L2
section
variable {K : PySem.W.Frag} {fx : Bool} {E : En} {pa : PAx} {S0 S S' : Addr → Prop} {A : Nat → Addr} {σ : L2.St} {H H' : Hp} {r : Sv} {p p' : List Int} {d : Addr} {u : HO} {o : Obj}
theorem OwnO.keep {pa : PAx} {Hh Hh' : Hp} (k : Keep K Hh Hh') {w : HO} {x : D} (h : OwnO K pa Hh w x) : OwnO K pa Hh' w x := by
  unfold OwnO at *
  split at h
  · exact RpL.keep k _ _ h
  · exact ⟨h.1.keep k, h.2⟩
  · exact h.elim
end
end Dt
namespace Dt
variable [GTab]
open PySem PySem.Spec PyProof.Rows L2
section
variable {X : Cx} {K : PySem.W.Frag} {c : Str} {C g : Addr} {k : Nat} {mm : MF}
/-- x in rec, x not in rec -/
def mInOwn (c : Str) (neg : Bool) (mm : MF) (a b : M) : M := fun r p => bnd (a r p) fun x p => bnd (b r p) fun y p => match y with
  | .slt c' fs => if c' = c then (match mm [.slt c fs, x] p with | some (.bl z, p) => some (.bl (if neg = true then !z else z), p) | _ => none) else none
  | _ => none
variable {a b : Expr} {ma mb : M} {pos : Pos}
def dMulB : D → D → Option D
  | .tup ds, .int k => if 2 ≤ k ∧ k ≤ 1000 ∧ ds ≠ [] ∧ ds.length ≤ 1000 then some (.tup (List.replicate k.toNat ds).flatten) else none
  | x, y => dMulA x y
theorem op_mulB : OpR X (binaryOp .Mult) (fun x y H Q => (rI CMul (fun i j => .int (i * j)) x y H Q ∨ rRep x y H Q) ∨ rRepT X.K x y H Q) := by
  intro pins s σ H x y v u Q I rx ry h
  rcases h with h | h
  · exact op_mulA pins s σ H x y v u Q I rx ry h
  · exact op_repT pins s σ H x y v u Q I rx ry h
theorem od_mulB : OpD K (fun x y H Q => (rI CMul (fun i j => .int (i * j)) x y H Q ∨ rRep x y H Q) ∨ rRepT K x y H Q) dMulB := by
  intro pa S H p x y d e z Q s r r' h q
  unfold dMulB at h
  split at h
  · rename_i ds k
    split at h
    · rename_i hk
      cases h
      cases r with
      | tup h1 h2 =>
        cases r'
        have hl := h2.length
        exact .inr ⟨_, k, _, rfl, rfl, sameT hid_sub h1, fun z => hk.2.2.1 (by
          have := hl
          rw [z] at this
          exact List.eq_nil_of_length_eq_zero this.symm), hk.1, hk.2.1, by omega, fun a n => q _ _ (same_upd n) (Rp.newT s (h2.rep _) n)⟩
    · cases h
  · exact .inl (od_mulA pa S H p x y d e z Q s r r' h q)
end
end Dt
namespace Dt
variable [GTab]
open PySem PySem.Spec PyProof.Rows L2
section
variable {X : Cx} {K : PySem.W.Frag} {k n : Nat} {f C : Addr} {fd : FuncData} {ps ks : List Str} {m : MF} {x c : Str} {p pos : Pos} {e : Expr} {es : List Expr} {ms : ML}
/-- how a def is bound by keywords alone, in another order: the j-th parameter has the idx[j]-th keyword's value -/
def permL {α : Type} (idx : List Nat) (d : α) (xs : List α) : List α := idx.map fun j => xs.getD j d
def KwP (fd : FuncData) (ps ks : List Str) (idx : List Nat) : Prop := ∀ (s : Shared) (ws : List Value), ws.length = ks.length → BindsTo s fd ⟨[], ks.zip ws⟩ (ps.zip (permL idx .none ws))
def mCallKP (idx : List Nat) (n : Nat) (m : MF) (ms : ML) : M := fun r p => bnd (ms r p) fun ds p => if ds.length = n then m (permL idx .non ds) p else none
theorem RpL.perm {pa : PAx} {H : Hp} {vs : List V} {ds : List D} (h : RpL K pa H vs ds) : ∀ idx : List Nat, RpL K pa H (permL idx .non vs) (permL idx .non ds)
  | [] => .nil
  | j :: idx => .cons (by
      show Rp K pa H (vs.getD j .non) (ds.getD j .non)
      cases e : ds[j]? with
      | some d =>
        obtain ⟨v, h1, h2⟩ := h.get e
        simpa [List.getD, e, h1] using h2
      | none =>
        have : vs[j]? = none := by
          rw [List.getElem?_eq_none_iff] at e ⊢
          rw [h.length] at *
          exact e
        simpa [List.getD, e, this] using Rp.non) (RpL.perm h idx)
theorem valsD {vs : List V} {us : List Value} (h : Vals vs us) : ∀ j, RelV (vs.getD j .non) (us.getD j .none) := by
  induction h with
  | nil => exact fun j => by cases j <;> exact rfl
  | cons a _ ih =>
    intro j
    cases j with
    | zero => exact a
    | succ j => exact ih j
theorem valsP {vs : List V} {us : List Value} (h : Vals vs us) : ∀ idx : List Nat, Vals (permL idx .non vs) (permL idx .none us)
  | [] => .nil
  | j :: idx => .cons (valsD h j) (valsP h idx)
theorem pe_callKP {sp : Sp} {E : XK} {idx : List Nat} {kws : List Keyword} {tk : TA} (F : FnOk X.prog X.w X.K X.mg X.base CX0 k f fd ps sp) (hr : Room k X.A) (hg : Gl X x) (hm : X.mg x = some (.ref f)) (hk : PySem.W.keepIn X.K (.ref f) = true) (hb : KwP fd ps ks idx)
    (hkw : PK X kws tk) (hall : (backToKw pos (keywordEach kws X.env)).all (·.1.isSome) = true := by rfl) (hks : (backToKw pos (keywordEach kws X.env)).filterMap (·.1) = ks := by rfl)
    (hdb : (x == ("__debug__" : Str)) = false := by decide)
    (hpl : ((backTo pos (starEach [] X.env)).any (·.1) || (backToKw pos (keywordEach kws X.env)).any (·.1.isNone)) = false := by rfl) :
    PE X (.Call (.Name x p) [] kws pos) (fun σ H Q => tk σ H fun zs H1 => zs.length = ks.length ∧ sp (permL idx .non zs) H1 Q E) := by
  refine ⟨fun pins s σ H Q I h => ?_⟩
  refine wpAny_Call_Name_kw (ld_glob I hg hm ?_ hdb)
  refine PySem.W.callWith_KW0 (h₀ := X.base) I.ok.mod.kin hk hall (thn (hkw.run pos pins s σ H _ I h) fun ws s1 ⟨zs, H1, I1, rz, hl, q⟩ => ⟨I1.kIn, ?_⟩) hpl
  rw [hks]
  refine wpAny_call (codeAny_mono (F.run X.A X.stack s1 H1 ⟨[], ks.zip ws⟩ (permL idx .none ws) (permL idx .non zs) Q E hr I1.env0 (hb s1 ws (rz.length.symm.trans hl)) (valsP rz idx) q) fun r s' hq => ?_)
  cases r with
  | error e => exact pass0 pins σ H1 s1 e s' I1 hq
  | ok fl =>
    cases fl with
    | ret u => exact I1.after hq
    | next => exact False.elim hq
    | brk => exact False.elim hq
    | cont => exact False.elim hq
theorem je_callKP {idx : List Nat} {kws : List Keyword} (F : FnOk X.prog X.w X.K X.mg X.base CX0 k f fd ps (spM X.K n m)) (hr : Room k X.A) (hm : X.mg x = some (.ref f)) (hk : PySem.W.keepIn X.K (.ref f) = true) (hb : KwP fd ps ks idx) (hkw : JK X kws ms) (hn : n = ks.length ∧ n = idx.length) (hg : Gl X x := by rfl)
    (hall : (backToKw pos (keywordEach kws X.env)).all (·.1.isSome) = true := by rfl) (hks : (backToKw pos (keywordEach kws X.env)).filterMap (·.1) = ks := by rfl)
    (hdb : (x == ("__debug__" : Str)) = false := by decide)
    (hpl : ((backTo pos (starEach [] X.env)).any (·.1) || (backToKw pos (keywordEach kws X.env)).any (·.1.isNone)) = false := by rfl) : JE X (.Call (.Name x p) [] kws pos) (mCallKP idx n m ms) :=
  ⟨(pe_callKP (E := E0) F hr hg hm hk hb hkw.pk hall hks hdb hpl).weak fun σ H Q ⟨pa, S, r, p, d, p', cn, em, q⟩ => by
    obtain ⟨ds, p1, e1, em2⟩ := bnd_some em
    split at em2
    · rename_i hl
      refine ⟨pa, S, r, p, ds, p1, cn, e1, fun vs H1 x1 s1 r1 => ⟨by rw [r1.length, hl, hn.1], pa, S, p1, _, d, p', s1, r1.perm idx, ?_, em2, q.after cn x1⟩⟩
      unfold permL
      rw [List.length_map, hn.2]
    · cases em2⟩
end
section
variable {K : PySem.W.Frag} {mg : Str → Option Value} {h : Heap} {c m x qual : Str} {C f : Addr} {st : Stmt} {ps ks : List Str} {fd : FuncData} {oc : Value} {od an : Option Addr} {osl : Array (Option Value)} {kV doc pm cdv ct : Value}
theorem kwP_of {idx : List Nat} (F : Fun K x qual st f fd) (b : ∀ (kV doc pm : Value) (an : Option Addr) (cdv ct : Value) (ws : List Value), ws.length = ks.length → bindArgs (PySem.W.fnOf x qual (defArgs st) (defBody st) (defScope st) .none kV doc pm an cdv ct) ⟨[], ks.zip ws⟩ = pure (ps.zip (permL idx .none ws))) : KwP fd ps ks idx := by
  obtain ⟨oc, od, kV, doc, pm, an, cdv, ct, osl, rfl, _, _⟩ := F.ex
  exact fun s ws hl => .of_eq (b _ _ _ _ _ _ _ hl)
end
end Dt
namespace Dt
variable [GTab]
open PySem PySem.Spec PyProof.Rows L2
section
variable {X : Cx} {K : PySem.W.Frag}
def dMulC : D → D → Option D
  | .str x, .int k => if k = 0 then some (.str Str.empty) else if k = 1 then some (.str x) else none
  | x, y => dMulB x y
def rMulS : R2 := fun x y H Q => ∃ a n, x = .str a ∧ y = .int n ∧ ((n = 0 ∧ Q (.str Str.empty) H) ∨ n = 1 ∧ Q (.str a) H)
theorem op_mulC : OpR X (binaryOp .Mult) (fun x y H Q => ((rI CMul (fun i j => .int (i * j)) x y H Q ∨ rRep x y H Q) ∨ rRepT X.K x y H Q) ∨ rMulS x y H Q) := by
  intro pins s σ H x y v u Q I rx ry h
  rcases h with h | ⟨a, n, rfl, rfl, h⟩
  · exact op_mulB pins s σ H x y v u Q I rx ry h
  · obtain ⟨t, rfl⟩ := rx
    obtain ⟨t2, rfl⟩ := ry
    rcases h with ⟨rfl, q⟩ | ⟨rfl, q⟩
    · exact PySem.P.mul_str_none (by decide) (by decide) ⟨.str Str.empty, H, I.tok _, ⟨_, rfl⟩, q⟩
    · refine PySem.P.mul_str (by decide) (fun _ z => by simp at z) (fun _ z => by simp at z) ?_
      rw [if_neg (by decide), if_pos (by simp)]
      exact ⟨.str a, H, I, ⟨t, rfl⟩, q⟩
theorem od_mulC : OpD K (fun x y H Q => ((rI CMul (fun i j => .int (i * j)) x y H Q ∨ rRep x y H Q) ∨ rRepT K x y H Q) ∨ rMulS x y H Q) dMulC := by
  intro pa S H p x y d e z Q s r r' h q
  unfold dMulC at h
  split at h
  · rename_i a k
    cases r with
    | str _ ha =>
      cases r'
      split at h
      · rename_i h0
        cases h
        exact .inr ⟨a, k, rfl, rfl, .inl ⟨h0, q _ H (fun _ _ h => h) (.str _ (by decide))⟩⟩
      · split at h
        · rename_i h1
          cases h
          exact .inr ⟨a, k, rfl, rfl, .inr ⟨h1, q _ H (fun _ _ h => h) (.str _ ha)⟩⟩
        · cases h
  · exact .inl (od_mulB pa S H p x y d e z Q s r r' h q)
end
end Dt
namespace Dt
variable [GTab]
open PySem PySem.Spec PyProof.Rows L2
def sShr (i : Nat) : MS := fun r p => match r[i]? with
  | some (.ow d) => some (.nx (r.set i (.sh d)) p)
  | _ => none
theorem si_shr {r : Sv} {p : List Int} {nx bk ct : Sv → List Int → Prop} {rt : D → List Int → Prop} {i : Nat} {d : D} (h1 : r[i]? = some (.ow d)) (h : nx (r.set i (.sh d)) p) : Ws (sShr i r p) nx rt bk ct := by
  unfold sShr
  rw [h1]
  exact h
end Dt
namespace Zs
open PySem PySem.Spec PyProof.Rows L2 PySem.Froz
/-- the payload D holds the texts l, each once, and can be walked -/
structure TxW (P : Program) (w : World) (D : SD) (l : List Str) : Prop where
  ok : TxOk P w D l
  nd : l.Nodup
  ris : Ris D.2.2.place.toList
  led : w.params.followText "set-order" = true ∨ D.2.2.led = true
section
variable {P : Program} {w : World} {A : Around} {E : Value → Shared → Prop} {s : Shared}
theorem TxW.new {ep : Nat} : TxW P w (#[], ep, .fresh 0 0 (!w.params.followText "set-order")) [] := by
  refine ⟨TxOk.nil (by rfl), List.nodup_nil, List.Pairwise.nil, ?_⟩
  show _ ∨ (!w.params.followText "set-order") = true
  cases w.params.followText "set-order" <;> simp
end
end Zs
namespace Zs
open PySem PySem.Spec PyProof.Rows L2 PySem.Froz
end Zs
namespace Zs
open PySem PySem.Spec PyProof.Rows L2 PySem.Froz
end Zs
namespace Zs
open PySem PySem.Spec PyProof.Rows L2 PySem.Froz
end Zs
namespace Dt
open PySem PySem.Spec PyProof.Rows L2 Zs
end Dt
namespace Dt
open PySem PySem.Spec PyProof.Rows L2
end Dt
namespace Dt
variable [GTab]
open PySem PySem.Spec PyProof.Rows L2
section
variable {X : Cx} {K : PySem.W.Frag}
/-- a def of the module, as a value -/
structure GFn (K : PySem.W.Frag) (mg : Str → Option Value) (x : Str) (a : Addr) : Prop where
  mg : mg x = some (.ref a)
  ns : PySem.W.nsIn K mainGlobals x = some (some (.ref a))
inductive AltsV (X : Cx) (n : Nat) : List (Str × MF) → Prop
  | nil : AltsV X n []
  | cons {k : Nat} {f : Addr} {fd : FuncData} {ps : List Str} {m : MF} {x : Str} {l : List (Str × MF)} (F : FnOk X.prog X.w X.K X.mg X.base CX0 k f fd ps (spM X.K n m)) (hr : Room k X.A) (hn : GFn X.K X.mg x f) (hk : PySem.W.keepIn X.K (.ref f) = true) (hb : Binds X.K fd ps []) (t : AltsV X n l) : AltsV X n ((x, m) :: l)
theorem AltsV.get {n : Nat} {l : List (Str × MF)} (A : AltsV X n l) : ∀ {x : Str} {m : MF}, l.lookup x = some m → ∃ (k : Nat) (f : Addr) (fd : FuncData) (ps : List Str), FnOk X.prog X.w X.K X.mg X.base CX0 k f fd ps (spM X.K n m) ∧ Room k X.A ∧ GFn X.K X.mg x f ∧ PySem.W.keepIn X.K (.ref f) = true ∧ Binds X.K fd ps [] := by
  induction A with
  | nil => intro x m h; cases h
  | @cons k f fd ps m0 x0 l F hr hn hk hb t ih =>
    intro x m h
    rw [List.lookup_cons] at h
    split at h
    · rename_i he
      cases h
      cases (beq_iff_eq.mp he)
      exact ⟨k, f, fd, ps, F, hr, hn, hk, hb⟩
    · exact ih h
end
end Dt
namespace Dt
variable [GTab]
open PySem PySem.Spec PyProof.Rows L2
section
variable {X : Cx} {K : PySem.W.Frag}
/-- the pairs of a display -/
def mPairs : List (M × M) → Ev → List Int → MR (List (Key × D))
  | [], _, p => some ([], p)
  | (mk, mv) :: l, r, p => bnd (mk r p) fun k p => bnd (mv r p) fun v p => bnd (mPairs l r p) fun ps p => match keyOf k with
    | some kk => some ((kk, v) :: ps, p)
    | none => none
def mDisp (l : List (M × M)) : M := fun r p => bnd (mPairs l r p) fun ps p => some (dkv (mergeG [] ps), p)
variable {pos : Pos}
end
end Dt
namespace Dt
variable [GTab]
open PySem PySem.Spec PyProof.Rows L2
section
variable {X : Cx} {K : PySem.W.Frag} {e : Expr} {me : M} {pos : Pos}
def mJs : List M → Str → M
  | [], acc, _, p => some (.str acc, p)
  | m :: ms, acc, r, p => bnd (m r p) fun d p => match d with
    | .str y => if (acc ++ y).length ≤ lim then mJs ms (acc ++ y) r p else none
    | _ => none
end
end Dt
namespace Dt
variable [GTab]
open PySem PySem.Spec PyProof.Rows L2
section
variable {X : Cx} {K : PySem.W.Frag} {c : Str} {C g : Addr} {k : Nat} {mm : MF} {sp : Sp}
/-- where the class has its own def of this name -/
structure Dun (K : PySem.W.Frag) (C : Addr) (name : Str) (g : Addr) : Prop where
  at_ : PySem.W.findIn K (.ref C) name = some (some (.ref g))
  fn : PySem.W.isFn K (.ref g) = true
def mOwn1 (c : Str) (mm : MF) (ok : D → Option D) (a : M) : M := fun r p => bnd (a r p) fun x p => match x with
  | .slt c' fs => if c' = c then bnd (mm [.slt c fs] p) fun z p => lft (ok z) p else none
  | _ => none
variable {e : Expr} {me : M} {p pos : Pos}
def mSubOwn (c : Str) (mm : MF) (a b : M) : M := fun r p => bnd (a r p) fun x p => bnd (b r p) fun y p => match x with
  | .slt c' fs => if c' = c then mm [.slt c fs, y] p else none
  | _ => none
end
end Dt
namespace Dt
variable [GTab]
open PySem PySem.Spec PyProof.Rows L2
section
variable {X : Cx} {K : PySem.W.Frag} {c : Str} {C g : Addr} {k : Nat} {mm : MF} {sp : Sp}
def tyV : D → Option String
  | .non => some "NoneType" | .bl _ => some "bool" | .int _ => some "int" | .str _ => some "str" | .lst _ => some "list" | .tup _ => some "tuple" | .dk _ _ => some "dict" | _ => none
theorem tyX_D {pa : PAx} {S : Addr → Prop} {H : Hp} {v : V} {d : D} {t : String} (r : Rp K pa (hid S H) v d) (h : tyV d = some t) : TyX K H v (.type t) := by
  cases r with
  | non => cases h; exact .base .non
  | bl b => cases h; exact .base (.bl b)
  | int b => cases h; exact .base (.int b)
  | str b _ => cases h; exact .base (.str b)
  | lst h1 h2 => cases h; exact .base (.lst (hid_sub _ _ h1))
  | tup h1 h2 => cases h; exact sqT_ty (sameT hid_sub h1)
  | dk h1 h2 h4 h3 =>
    cases h
    rcases sameR hid_sub h1 with z | ⟨o, z⟩
    · exact .base (.dK z)
    · exact .fDict z
  | _ => cases h
/-- where the class has its own __eq__, and no __ne__ -/
structure OwnEq (K : PySem.W.Frag) (C g : Addr) : Prop where
  eq : Dun K C "__eq__" g
  ne : PySem.W.findIn K (.ref C) "__ne__" = some (some (.builtin "object.__ne__"))
  ob : PySem.W.mroIn K C (.type "object") = some true
  nf : (["NoneType", "bool", "int", "str", "list", "tuple", "dict"].all fun T => PySem.W.notFirst K C (.type T)) = true
def rgtD (c : Str) : D → Bool
  | .slt c' _ => c' = c
  | d => (tyV d).isSome
def mEqOwn (c : Str) (neg : Bool) (mm : MF) (a b : M) : M := fun r p => bnd (a r p) fun x p => bnd (b r p) fun y p => match x with
  | .slt c' fs => if c' = c ∧ rgtD c y = true then (match mm [.slt c fs, y] p with | some (.bl z, p) => some (.bl (if neg = true then !z else z), p) | _ => none) else none
  | _ => none
variable {a b : Expr} {ma mb : M} {pos : Pos}
end
end Dt
namespace Dt
variable [GTab]
open PySem PySem.Spec PyProof.Rows L2
section
variable {X : Cx} {K : PySem.W.Frag} {c : Str} {C : Addr} {e : Expr} {me : M} {p p2 pos : Pos}
def dIsiA (T : String) (d : D) : Option D := match tyV d with | some t => (kitB t T).map .bl | none => none
def mIsiA (T : String) (a : M) : M := fun r p => bnd (a r p) fun x p => lft (dIsiA T x) p
/-- isinstance(e, T), T a built-in class; e may be a dict, too -/
theorem je_isiA {T : String} {Tn : Str} (he : JE X e me) (hm : X.mg "isinstance" = none) (hT : X.mg Tn = none) (hb : bootBuiltins Tn = some (.type T)) (hi : bootBuiltins "isinstance" = some (.builtin "isinstance") := by decide +kernel) (hg : Gl X "isinstance" := by rfl) (hgT : Gl X Tn := by rfl)
    (hn : Tn ≠ "__name__" := by decide) (hdb : (Tn == ("__debug__" : Str)) = false := by decide)
    (hs : starEach [e, .Name Tn p2] X.env = (false, eval e X.env) :: starEach [.Name Tn p2] X.env := by rfl) (hpl : (backTo pos (starEach [.Name Tn p2] X.env)).any (·.1) = false := by rfl) :
    JE X (.Call (.Name "isinstance" p) [e, .Name Tn p2] [] pos) (mIsiA T me) :=
  ⟨(pe_callB (x := "isinstance") call_isi hg hm hi (pa_cons he.pe (pa_cons (pe_bltn (v := .ty T) hgT hT hb rfl hn hdb) pa_nil) hs) (by decide) (by decide) hs hpl).weak fun σ H Q ⟨pa, S, r, p, d, p', c, e, q⟩ => by
    obtain ⟨x, p1, e1, e⟩ := bnd_some e
    obtain ⟨z, e4, rfl, rfl⟩ := lft_eq e
    refine ⟨pa, S, r, p, x, p1, c, e1, fun v1 H1 x1 s1 r1 => ?_⟩
    unfold dIsiA at e4
    split at e4
    · rename_i t ht
      cases e5 : kitB t T with
      | none => rw [e5] at e4; cases e4
      | some b =>
        rw [e5] at e4
        cases e4
        exact ⟨v1, .ty T, _, _, b, rfl, .ty T, tyX_D r1 ht, kit_ty e5, q _ H1 x1 s1 (.bl b)⟩
    · cases e4⟩
/-- what isinstance(x, C) answers of built-in values -/
structure NoIsi (K : PySem.W.Frag) (C : Addr) : Prop where
  no : (["NoneType", "bool", "int", "str", "list", "tuple", "dict"].all fun T => PySem.W.kitOne K (.type T) (.ref C) == some false) = true
theorem NoIsi.at_ (N : NoIsi K C) {d : D} {t : String} (h : tyV d = some t) : PySem.W.kitOne K (.type t) (.ref C) = some false := by
  have := List.all_eq_true.mp N.no
  cases d <;> cases h <;> exact beq_iff_eq.mp (this _ (by simp))
def mIsiO (c : Str) (a : M) : M := fun r p => bnd (a r p) fun x p => match x with
  | .slt c' _ => if c' = c then some (.bl true, p) else none
  | d => if (tyV d).isSome = true then some (.bl false, p) else none
end
end Dt
namespace Dt
variable [GTab]
open PySem PySem.Spec PyProof.Rows L2
def scPy : D → Option PyData
  | .non => some .none
  | .bl b => some (.bool b)
  | .int i => some (.int i)
  | .str x => some (.str x)
  | _ => none
def keyPy : Key → PyData
  | .inl i => .int i
  | .inr x => .str x
def scPys : List (Key × D) → Option (List (PyData × PyData))
  | [] => some []
  | (k, d) :: m => match scPy d, scPys m with
    | some p, some ps => some ((keyPy k, p) :: ps)
    | _, _ => none
theorem reads_sc {K : PySem.W.Frag} {pa : PAx} {H : Hp} {h : Heap} {v : V} {d : D} {u : Value} {q : PyData} (r : Rp K pa H v d) (ru : RelV v u) (e : scPy d = some q) : Reads h u q [] := by
  cases r <;> simp only [scPy] at e <;> cases e
  · cases ru; exact .none
  · cases ru; exact .bool _
  · obtain ⟨t, rfl⟩ := ru; exact .int _ t
  · obtain ⟨t, rfl⟩ := ru; exact .str _ t
theorem reads_key {P : Program} {w : World} {h : Heap} {k : Key} {u : Value} (e : (mixKind P w).is k u = true) : Reads h u (keyPy k) [] := by
  rcases keyIs_shape e with ⟨i, t, rfl, rfl⟩ | ⟨x, t, rfl, rfl⟩
  · exact .int _ _
  · exact .str _ _
theorem reads_pairs {P : Program} {w : World} {h : Heap} {K : PySem.W.Frag} {pa : PAx} {H : Hp} : ∀ {es : List DictEntry} {vs : List (Key × Value)} {kv : List (Key × V)} {m : List (Key × D)} {q : List (PyData × PyData)}, Pairs (mixKind P w) es vs → KV kv vs → KRp K pa H kv m → scPys m = some q →
    ReadsAll h (es.map (·.key)) (q.map (·.1)) [] ∧ ReadsAll h (es.map (·.val)) (q.map (·.2)) []
  | _, _, _, _, _, .nil, r, r2, e => by
    cases r
    cases r2
    cases e
    exact ⟨.nil, .nil⟩
  | _, _, _, _, _, .cons h1 h2 t, r, r2, e => by
    cases r with
    | cons a b =>
      cases r2 with
      | @cons _ y _ ys c d =>
        obtain ⟨k2, d2⟩ := y
        simp only [scPys] at e
        split at e
        · rename_i p0 ps e1 e2
          cases e
          obtain ⟨g1, g2⟩ := reads_pairs (h := h) t b d e2
          have k1 := reads_key (h := h) h1
          rw [← a.1, c.1] at k1
          refine ⟨.cons (as := []) (bs := []) k1 g1, .cons (as := []) (bs := []) ?_ g2⟩
          have h3 := reads_sc (h := h) c.2 a.2 e1
          rw [← h2] at h3
          exact h3
        · cases e
def dReprK : List D → Option D
  | [.dk ks ds] => match scPys (ks.zip ds) with
    | some q => if (PyData.dict q).showable = true ∧ (PyData.dict q).depth ≤ 50 ∧ (PyData.dict q).shown.length ≤ lim then some (.str (PyData.dict q).shown) else none
    | none => none
  | ds => dReprA ds
def rReprK (K : PySem.W.Frag) : List V → Hp → VK → Prop := fun xs H Q => rReprA K xs H Q ∨ ∃ (pa : PAx) (a : Addr) (kv : List (Key × V)) (m : List (Key × D)) (q : List (PyData × PyData)), xs = [.ref a] ∧ Rd H a (.dK kv) ∧ KRp K pa H kv m ∧ scPys m = some q ∧ (PyData.dict q).showable = true ∧ (PyData.dict q).depth ≤ 50 ∧ (PyData.dict q).shown.length ≤ lim ∧ Q (.str (PyData.dict q).shown) H
theorem call_reprK {X : Cx} (hg : X.A.guards = some []) (hu : X.A.units + 64 < cLine) : CallR X (.builtin "repr") (rReprK X.K) := by
  intro pins s σ H xs us Q I r h
  rcases h with h | ⟨pa, a, kv, m, q, rfl, hd, rm, e, h1, h2, h3, hq⟩
  · exact call_reprA hg hu pins s σ H xs us Q I r h
  · obtain ⟨u, rfl, ru⟩ := vals1 r
    obtain rfl : u = Value.ref a := ru
    obtain ⟨z, hsm, vs, rel, o, es, ep, ho, hc, hdat, hk, hp, hn⟩ := dk_rd I.hok hd
    obtain ⟨g1, g2⟩ := reads_pairs (h := s.heap) hp rel rm e
    have ra : Reads s.heap (.ref a) (.dict q) (a :: [] ++ []) := .dict ho hc.1 hdat g1 g2
    refine repr_of_reads' (prog := X.prog) (w := X.w) ra h1 (fun _ hm => ?_) hg (by omega) (fun _ _ z => z) (fun h' u tk hk => ?_) (lim_sz h3)
    · rw [List.append_nil, List.mem_singleton] at hm
      rw [hm] at hsm
      simp at hsm
    · exact ⟨.str (PyData.dict q).shown, H, I.kept (t' := tk) hk, ⟨u, rfl⟩, hq⟩
theorem cd_reprK {K : PySem.W.Frag} : CallD K (rReprK K) dReprK := by
  intro pa S H p xs ds z Q s r h q
  unfold dReprK at h
  split at h
  · rename_i ks ds
    split at h
    · rename_i q0 e
      split at h
      · rename_i hh
        cases h
        obtain ⟨v, rfl, rv⟩ := r.one
        obtain ⟨a, kv, rfl, g1, g2, g3, g4⟩ := rv.dk_inv
        exact .inr ⟨pa, a, kv, _, q0, rfl, sameR hid_sub g1, KRp.mono hid_sub g2, e, hh.1, hh.2.1, hh.2.2, q _ H (fun _ _ h => h) (.str _ hh.2.2)⟩
      · cases h
    · cases h
  · exact .inl (cd_reprA pa S H p xs _ z Q s r h q)
end Dt
namespace Dt
open PySem PySem.Spec PyProof.Rows L2
end Dt
namespace Dt
variable [GTab]
open PySem PySem.Spec PyProof.Rows L2
section
variable {X : Cx} {K : PySem.W.Frag} {c m : Str} {C g : Addr} {k n : Nat} {mm : MF} {o : Expr} {me : M} {ms : ML} {apos pos : Pos} {pl : Sem Bool} {fd : FuncData} {ps ks : List Str} {idx : List Nat}
def mMethK (c : Str) (idx : List Nat) (n : Nat) (mm : MF) (a : M) (ms : ML) : M := fun r p => bnd (a r p) fun x p => match x with
  | .slt c' fs => if c' = c then bnd (ms r p) fun ds p => if ds.length = n then mm (.slt c fs :: permL idx .non ds) p else none else none
  | _ => none
end
end Dt
namespace Dt
variable [GTab]
open PySem PySem.Spec PyProof.Rows L2
section
variable {X : Cx} {K : PySem.W.Frag}
def mTruK (a : M) : MB := fun r p => bnd (a r p) fun x p => match x with | .dk ks ds => if ds.length = ks.length then some (!ks.isEmpty, p) else none | _ => none
end
end Dt
namespace Dt
open PySem PySem.Spec PyProof.Rows L2
end Dt
namespace Dt
open PySem PySem.Spec PyProof.Rows L2
end Dt
namespace Dt
open PySem PySem.Spec PyProof.Rows L2
end Dt
namespace Dt
variable [GTab]
open PySem PySem.Spec PyProof.Rows L2
section
variable {X : Cx} {K : PySem.W.Frag}
/-- a tuple again, no more known -/
def dFg : D → D
  | .ptp ds => .tup ds
  | d => d
def mFg (a : M) : M := fun r p => bnd (a r p) fun x p => some (dFg x, p)
end
end Dt
namespace Dt
variable [GTab]
open PySem PySem.Spec PyProof.Rows L2
/-- a body, run in the frame of its own code -/
structure PAt (X : Cx) (c : Code) (sts : List Stmt) (t : TS) : Prop where
  run : ∀ (pins : List (Addr × Obj)) (s : Shared) (σ : L2.St) (H : Hp) (D : Ends), Inv X pins σ H s → t D σ H → _root_.PySem.wpAt (model X.prog X.w) X.A c (execs sts X.env) (SP X pins D) X.xe s
section
variable {X : Cx} {c : Code} {st : Stmt} {rest sts : List Stmt} {t u : TS}
theorem pat_of (h : PSs X sts t) : PAt X c sts t := ⟨fun pins s σ H D I h' => _root_.PySem.wpAt_of_wpAny (h.run pins s σ H D I h')⟩
theorem PAt.weak (h : PAt X c sts t) (w : ∀ D σ H, u D σ H → t D σ H) : PAt X c sts u := ⟨fun pins s σ H D I q => h.run pins s σ H D I (w D σ H q)⟩
end
/-- what a def f must know of its class D0 to say super() -/
structure SupK (P : Program) (K : PySem.W.Frag) (f cda cc D0 : Addr) (sf : Str) : Prop where
  fn : ∃ (oc : Value) (od : Option Addr) (fd : FuncData) (osl : Array (Option Value)) (ar : Arg), K.lookup f = some ⟨oc, od, .func fd, osl⟩ ∧ (fd.params.posonlyargs ++ fd.params.args).head? = some ar ∧ ar.arg = sf
  code : ∃ (ccl : Value) (cdd : Option Addr) (vs : Array Value) (ccs : Array (Option Value)) (file : Str) (tf : Tok), K.lookup cda = some ⟨ccl, cdd, .fields vs, ccs⟩ ∧ vs[2]? = some (.str file tf) ∧ ((P.main.file : Str) == file) = true
  cell : ∃ (cl : Value) (cld : Option Addr) (csl : Array (Option Value)), K.lookup cc = some ⟨cl, cld, .cell (some (.ref D0)), csl⟩
  cls : ∃ cd, PySem.W.clsIn K D0 = some cd
  any : PySem.W.nsIn K cStatics "thirdparty.any" = some none
  top : (P.main.scope.names.lookup ("super" : Str)).isSome = false
end Dt
namespace Dt
variable [GTab]
open PySem PySem.Spec PyProof.Rows L2
open NdefX (NF NScope CellsAt startF envF ncx inv_startN)
section
variable {CX : CXT} {P : Program} {w : World} {K : PySem.W.Frag} {mg : Str → Option Value} {base : Heap} {k : Nat} {f cda cc : Addr} {name qual : Str} {params : Arguments} {body : List Stmt} {scope : Scope} {dV kV doc pm ct oc : Value} {an od : Option Addr} {osl : Array (Option Value)} {N ps : List Str} {sp : Sp}
/-- its words as NF -/
abbrev nfC (name qual : Str) (params : Arguments) (body : List Stmt) (scope : Scope) (cc cda : Addr) : NF := ⟨name, qual, params, body, scope, [("__class__", cc)], cda⟩
theorem fn_ofC (lk : K.lookup f = some ⟨oc, od, .func (PySem.W.fnX name qual params body scope [("__class__", cc)] dV kV doc pm an (.ref cda) ct), osl⟩) (hcd : PySem.W.codeIn K (.ref cda) qual = true) (S : NScope N ps ["__class__"] scope)
    (hcell : ∃ (cl : Value) (cld : Option Addr) (csl : Array (Option Value)) (v : Option Value), K.lookup cc = some ⟨cl, cld, .cell v, csl⟩) (len : ∀ vs H Q E, sp vs H Q E → vs.length = ps.length)
    (hbody : ∀ (A : Around) (outer : List Env) (s : Shared) (H : Hp) (vs : List V) (Q : VK) (E : XK), Room k (A.deeper (envF (nfC name qual params body scope cc cda) f s.heap.objs.size)) → sp vs H Q E →
      ∃ t, PAt (ncx CX P w K mg base N (nfC name qual params body scope cc cda) f A outer s H E) (.func body (envF (nfC name qual params body scope cc cda) f s.heap.objs.size)) body t ∧ t { nx := fun _ H' => Q .non H', rt := Q } (startF N vs [none]) H) :
    FnOk P w K mg base CX (k + 1) f (PySem.W.fnX name qual params body scope [("__class__", cc)] dV kV doc pm an (.ref cda) ct) ps sp := by
  refine ⟨len, fun A outer s H args us vs Q E hr e0 hb r hsp => ?_⟩
  have hl := len _ _ _ _ hsp
  have KX : K.In s.heap := e0.mod.kin.keeps fun b o e => (e0.bs b o e).1
  have lim : s.heap.NoLimit := e0.mod.nolimit.keeps fun b o e => (e0.bs b o e).1
  obtain ⟨cl, cld, csl, v0, hcc⟩ := hcell
  refine codeAny_call_function hr.depth (KX _ _ lk) rfl S.co S.gen rfl (PySem.W.codeRec_of KX hcd) (hb _ _ _ _ ?_)
  refine wpAny_newFunctionEnv S.nocell (fun ⟨n, _⟩ hy => S.par n (List.of_mem_zip hy).1) (fun h₁ hns hsb => ⟨lim.fresh _ hsb, ?_⟩) S.kind
  show codeAny _ _ (.func body (envF (nfC name qual params body scope cc cda) f s.heap.objs.size)) _ _
  refine PySem.ks_codeAny_funcAt ?_
  have kp : ∀ b o, s.heap.get? b = some o → h₁.get? b = some o := fun b o e => hsb.extBut b o (Nat.ne_of_lt (Heap.lt_size e)) (Heap.get?_push_of_some _ e)
  obtain ⟨t, ht, hq⟩ := hbody A outer s H vs Q E (hr.deeper _) hsp
  have C : CellsAt (nfC name qual params body scope cc cda).cl ["__class__"] [none] s.heap H := by
    have one : ∀ {y : Str} {c : Addr}, ([("__class__", cc)] : List (Str × Addr)).lookup y = some c → c = cc ∧ y = "__class__" := fun {y c} e => by
      rw [List.lookup_cons] at e
      split at e
      · rename_i h
        cases e
        exact ⟨rfl, by simpa using h⟩
      · cases e
    refine ⟨rfl, fun y c e => ?_, fun x y c e1 e2 => by rw [(one e1).2, (one e2).2], fun i y hi => ?_⟩
    · rw [(one e).1]
      exact ⟨(e0.bs _ _ (e0.mod.kin _ _ hcc)).2, v0, _, KX _ _ hcc, rfl⟩
    · cases i with
      | zero =>
        cases hi
        exact ⟨cc, by simp [List.lookup], fun v hv => by cases hv⟩
      | succ i => cases hi
  have I : Inv (ncx CX P w K mg base N (nfC name qual params body scope cc cda) f A outer s H E) [] (startF N vs [none]) H { s with heap := h₁, toks := s.toks + (ps.zip us).length } := inv_startN S hr.hd e0 hl r C hns kp
  refine PySem.ks_wpAt_mono (ht.run [] _ (startF N vs [none]) H _ I hq) (fun fl s' hs => ?_) fun e s' hs => hs
  have fin : ∀ {σ' : L2.St} {H' : Hp} {v : V} {u : Value}, Inv (ncx CX P w K mg base N (nfC name qual params body scope cc cda) f A outer s H E) [] σ' H' s' → L2.RelV v u → Q v H' → CE outer P w H s Q u s' :=
    fun {σ' H' v u} J rv q => ⟨v, H', J.os, J.bare, J.base, J.hok, rv, q⟩
  cases fl with
  | ret u =>
    obtain ⟨v, σ', H', J, rv, q⟩ := hs
    exact fin J rv q
  | next =>
    obtain ⟨σ', H', J, q⟩ := hs
    exact fin (v := V.non) (u := Value.none) J rfl q
  | brk =>
    obtain ⟨_, _, _, q⟩ := hs
    exact False.elim q
  | cont =>
    obtain ⟨_, _, _, q⟩ := hs
    exact False.elim q
end
end Dt
namespace Dt
open PySem PySem.Spec PyProof.Rows L2
open NdefX (NF NScope CellsAt startF envF ncx inv_startN)
end Dt
namespace Dt
variable [GTab]
open PySem PySem.Spec PyProof.Rows L2
open NdefX (NF NScope CellsAt startF envF ncx inv_startN)
theorem PAt.nox {X : Cx} {c : Code} {sts : List Stmt} {t : TS} (h : PAt X.nox c sts t) : PAt X c sts t := ⟨fun pins s σ H D I hw =>
  PySem.ks_wpAt_mono (h.run pins s σ H D (I.wish _) hw) (fun _ _ q => SP.unwish q) fun _ _ z => False.elim z⟩
section
variable {P : Program} {w : World} {K : PySem.W.Frag} {mg : Str → Option Value} {base : Heap} {cls : Addr → Prop} {fns : List Str}
/-- a method that knows its class, as it stands behind the top; kws: its keyword-only defaults -/
structure FunC (P : Program) (K : PySem.W.Frag) (x qual : Str) (st : Stmt) (kws : List (Str × V)) (f : Addr) (fd : FuncData) (cda cc D0 : Addr) (sf : Str) : Prop where
  ex : ∃ (oc : Value) (od : Option Addr) (kV doc pm : Value) (an : Option Addr) (ct : Value) (osl : Array (Option Value)),
    fd = PySem.W.fnX x qual (defArgs st) (defBody st) (defScope st) [("__class__", cc)] .none kV doc pm an (.ref cda) ct ∧ K.lookup f = some ⟨oc, od, .func fd, osl⟩ ∧ PySem.W.codeIn K (.ref cda) qual = true ∧ KwdV K kV kws
  sup : SupK P K f cda cc D0 sf
end
/-- a class of the module -/
structure ClV (K : PySem.W.Frag) (mg : Str → Option Value) (c : Str) (C : Addr) : Prop where
  ns : PySem.W.nsIn K mainGlobals c = some (some (.ref C))
  mg : mg c = some (.ref C)
  cls : Cls K C
end Dt
namespace Dt
variable [GTab]
open PySem PySem.Spec PyProof.Rows L2
section
variable {X : Cx} {k n : Nat} {sp : Sp} {o e : Expr} {es : List Expr} {f m : Str} {pos apos : Pos} {ta : TE} {t : TA} {pl : Sem Bool}
/-- which def each class has of that name -/
inductive VT (X : Cx) (m : Str) (n : Nat) : List (Str × MF) → Prop
  | nil : VT X m n []
  | cons {c : Str} {C g : Addr} {k : Nat} {mm : MF} {l : List (Str × MF)} : ClV X.K X.mg c C → Meth X.K C m g → FnR X.prog X.w X.K X.mg X.base CX0 k g (spM X.K (n + 1) mm) → Room k X.A → VT X m n l → VT X m n ((c, mm) :: l)
theorem VT.at_ : ∀ {l : List (Str × MF)} {c : Str} {mm : MF}, VT X m n l → l.lookup c = some mm → ∃ C g k, ClV X.K X.mg c C ∧ Meth X.K C m g ∧ FnR X.prog X.w X.K X.mg X.base CX0 k g (spM X.K (n + 1) mm) ∧ Room k X.A
  | _, _, _, .nil, h => by cases h
  | _, c, mm, .cons (c := c0) a b d r t, h => by
    rw [List.lookup_cons] at h
    cases hb : c == c0 with
    | true =>
      rw [hb] at h
      cases h
      have e : c = c0 := by simpa using hb
      subst e
      exact ⟨_, _, _, a, b, d, r⟩
    | false =>
      rw [hb] at h
      exact VT.at_ t h
inductive FT (X : Cx) (f : Str) : List Str → Prop
  | nil : FT X f []
  | cons {c : Str} {C : Addr} {l : List Str} : ClV X.K X.mg c C → NoAttr X.K C f → FT X f l → FT X f (c :: l)
theorem FT.at_ : ∀ {l : List Str} {c : Str}, FT X f l → c ∈ l → ∃ C, ClV X.K X.mg c C ∧ NoAttr X.K C f
  | _, _, .nil, h => by cases h
  | _, c, .cons a b t, h => by
    rcases List.mem_cons.mp h with rfl | h
    · exact ⟨_, a, b⟩
    · exact FT.at_ t h
inductive CT (X : Cx) (f : Str) : List (Str × D) → Prop
  | nil : CT X f []
  | cons {c : Str} {C : Addr} {d : D} {v : V} {u : Value} {l : List (Str × D)} : ClV X.K X.mg c C → Con X.K C f v u → (∀ pa H, Rp X.K pa H v d) → CT X f l → CT X f ((c, d) :: l)
theorem CT.at_ : ∀ {l : List (Str × D)} {c : Str} {d : D}, CT X f l → l.lookup c = some d → ∃ C v u, ClV X.K X.mg c C ∧ Con X.K C f v u ∧ ∀ pa H, Rp X.K pa H v d
  | _, _, _, .nil, h => by cases h
  | _, c, d, .cons (c := c0) a b r t, h => by
    rw [List.lookup_cons] at h
    cases hb : c == c0 with
    | true =>
      rw [hb] at h
      cases h
      have e : c = c0 := by simpa using hb
      subst e
      exact ⟨_, _, _, a, b, r⟩
    | false =>
      rw [hb] at h
      exact CT.at_ t h
inductive PT' (X : Cx) (f : Str) : List (Str × MF) → Prop
  | nil : PT' X f []
  | cons {c : Str} {C p g : Addr} {k : Nat} {fd : FuncData} {ps : List Str} {mm : MF} {l : List (Str × MF)} : ClV X.K X.mg c C → PropOf X.K C f p g → FnOk X.prog X.w X.K X.mg X.base CX0 k g fd ps (spM X.K 1 mm) → Room (k + 1) X.A → Binds X.K fd ps [] → PT' X f l → PT' X f ((c, mm) :: l)
theorem PT'.at_ : ∀ {l : List (Str × MF)} {c : Str} {mm : MF}, PT' X f l → l.lookup c = some mm → ∃ C p g k fd ps, ClV X.K X.mg c C ∧ PropOf X.K C f p g ∧ FnOk X.prog X.w X.K X.mg X.base CX0 k g fd ps (spM X.K 1 mm) ∧ Room (k + 1) X.A ∧ Binds X.K fd ps []
  | _, _, _, .nil, h => by cases h
  | _, c, mm, .cons (c := c0) a b d r z t, h => by
    rw [List.lookup_cons] at h
    cases hb : c == c0 with
    | true =>
      rw [hb] at h
      cases h
      have e : c = c0 := by simpa using hb
      subst e
      exact ⟨_, _, _, _, _, _, a, b, d, r, z⟩
    | false =>
      rw [hb] at h
      exact PT'.at_ t h
end
end Dt
namespace Dt
variable [GTab]
open PySem PySem.Spec PyProof.Rows L2
section
variable {X : Cx} {k : Nat} {fe e : Expr} {es : List Expr} {kws : List Keyword} {pos : Pos} {tf : TE} {t : TA} {ks : List Str}
/-- the classes whose instances may be called, and their __call__ -/
inductive OT (X : Cx) (n : Nat) : List (Str × MF) → Prop
  | nil : OT X n []
  | cons {c : Str} {C g : Addr} {k : Nat} {mm : MF} {l : List (Str × MF)} : ClV X.K X.mg c C → StX.CallO X.K C g → FnR X.prog X.w X.K X.mg X.base CX0 k g (spM X.K (n + 1) mm) → Room k X.A → OT X n l → OT X n ((c, mm) :: l)
theorem OT.at_ {n : Nat} : ∀ {l : List (Str × MF)} {c : Str} {mm : MF}, OT X n l → l.lookup c = some mm → ∃ C g k, ClV X.K X.mg c C ∧ StX.CallO X.K C g ∧ FnR X.prog X.w X.K X.mg X.base CX0 k g (spM X.K (n + 1) mm) ∧ Room k X.A
  | _, _, _, .nil, h => by cases h
  | _, c, mm, .cons (c := c0) a b d r t, h => by
    rw [List.lookup_cons] at h
    cases hb : c == c0 with
    | true =>
      rw [hb] at h
      cases h
      have e : c = c0 := by simpa using hb
      subst e
      exact ⟨_, _, _, a, b, d, r⟩
    | false =>
      rw [hb] at h
      exact OT.at_ t h
/-- .. and by keywords in the parameters' order -/
inductive OTK (X : Cx) (ks : List Str) : List (Str × MF) → Prop
  | nil : OTK X ks []
  | cons {c : Str} {C g : Addr} {k : Nat} {fd : FuncData} {ps : List Str} {mm : MF} {l : List (Str × MF)} : ClV X.K X.mg c C → StX.CallO X.K C g → FnOk X.prog X.w X.K X.mg X.base CX0 k g fd ps (spM X.K (ks.length + 1) mm) → (∀ (s : Shared) (u : Value) (ws : List Value), ws.length = ks.length → BindsTo s fd ⟨[u], ks.zip ws⟩ (ps.zip (u :: ws))) → Room k X.A → OTK X ks l → OTK X ks ((c, mm) :: l)
theorem OTK.at_ : ∀ {l : List (Str × MF)} {c : Str} {mm : MF}, OTK X ks l → l.lookup c = some mm → ∃ C g k fd ps, ClV X.K X.mg c C ∧ StX.CallO X.K C g ∧ FnOk X.prog X.w X.K X.mg X.base CX0 k g fd ps (spM X.K (ks.length + 1) mm) ∧ (∀ (s : Shared) (u : Value) (ws : List Value), ws.length = ks.length → BindsTo s fd ⟨[u], ks.zip ws⟩ (ps.zip (u :: ws))) ∧ Room k X.A
  | _, _, _, .nil, h => by cases h
  | _, c, mm, .cons (c := c0) a b d z r t, h => by
    rw [List.lookup_cons] at h
    cases hb : c == c0 with
    | true =>
      rw [hb] at h
      cases h
      have e : c = c0 := by simpa using hb
      subst e
      exact ⟨_, _, _, _, _, a, b, d, z, r⟩
    | false =>
      rw [hb] at h
      exact OTK.at_ t h
/-- the classes whose instances are told, and what isinstance(x, T) says of each -/
inductive IT (X : Cx) (T : Addr) : List (Str × Bool) → Prop
  | nil : IT X T []
  | cons {c : Str} {C : Addr} {b : Bool} {l : List (Str × Bool)} : ClV X.K X.mg c C → PySem.W.findIn X.K (.ref C) "__class__" = some (some (.builtin "object.__class__")) → PySem.W.specialIn X.K (.builtin "object.__class__") "__get__" = some (some (.builtin "getset_descriptor.__get__")) → PySem.W.takesIn X.K (.builtin "object.__class__") = some true → PySem.W.mroIn X.K C (.type "object") = some true → PySem.W.kitOne X.K (.ref C) (.ref T) = some b → IT X T l → IT X T ((c, b) :: l)
theorem IT.at_ {T : Addr} : ∀ {l : List (Str × Bool)} {c : Str} {b : Bool}, IT X T l → l.lookup c = some b → ∃ C, ClV X.K X.mg c C ∧ PySem.W.findIn X.K (.ref C) "__class__" = some (some (.builtin "object.__class__")) ∧ PySem.W.specialIn X.K (.builtin "object.__class__") "__get__" = some (some (.builtin "getset_descriptor.__get__")) ∧ PySem.W.takesIn X.K (.builtin "object.__class__") = some true ∧ PySem.W.mroIn X.K C (.type "object") = some true ∧ PySem.W.kitOne X.K (.ref C) (.ref T) = some b
  | _, _, _, .nil, h => by cases h
  | _, c, b, .cons (c := c0) a1 a2 a3 a4 a5 a6 t, h => by
    rw [List.lookup_cons] at h
    cases hb : c == c0 with
    | true =>
      rw [hb] at h
      cases h
      have e : c = c0 := by simpa using hb
      subst e
      exact ⟨_, a1, a2, a3, a4, a5, a6⟩
    | false =>
      rw [hb] at h
      exact IT.at_ t h
end
end Dt
namespace Dt
open PySem PySem.Spec PyProof.Rows L2
end Dt
namespace Dt
variable [GTab]
open PySem PySem.Spec PyProof.Rows L2
section
variable {X : Cx} {c f : Str} {C g : Addr}
structure IsI (K : PySem.W.Frag) (C : Addr) : Prop where
  h1 : PySem.W.findIn K (.ref C) "__class__" = some (some (.builtin "object.__class__"))
  h2 : PySem.W.specialIn K (.builtin "object.__class__") "__get__" = some (some (.builtin "getset_descriptor.__get__"))
  h3 : PySem.W.takesIn K (.builtin "object.__class__") = some true
  h4 : PySem.W.mroIn K C (.type "object") = some true
end
section
variable {K : PySem.W.Frag} {mg : Str → Option Value} {h : Heap} {c : Str} {C T g f p : Addr}
/-- what a def that says super() must know -/
theorem mkFC {P : Program} {x qual : Str} {st : Stmt} {kws : List (Str × V)} {cda cc D0 : Addr} {sf : Str} {oc doc pm ct kV ccl cl : Value} {od an cdd cld : Option Addr} {osl ccs csl : Array (Option Value)} {vs : Array Value} {file : Str} {tf : Tok} {cd : ClassData} {ar : Arg}
    (l : K.lookup f = some ⟨oc, od, .func (PySem.W.fnX x qual (defArgs st) (defBody st) (defScope st) [("__class__", cc)] .none kV doc pm an (.ref cda) ct), osl⟩) (c : PySem.W.codeIn K (.ref cda) qual = true) (kw : KwdV K kV kws)
    (hp : ((defArgs st).posonlyargs ++ (defArgs st).args).head? = some ar) (har : ar.arg = sf) (lc : K.lookup cda = some ⟨ccl, cdd, .fields vs, ccs⟩) (hvs : vs[2]? = some (.str file tf)) (hf : ((P.main.file : Str) == file) = true)
    (lcc : K.lookup cc = some ⟨cl, cld, .cell (some (.ref D0)), csl⟩) (hD : PySem.W.clsIn K D0 = some cd) (any : PySem.W.nsIn K cStatics "thirdparty.any" = some none) (top : (P.main.scope.names.lookup ("super" : Str)).isSome = false) :
    ∃ fd, FunC P K x qual st kws f fd cda cc D0 sf :=
  ⟨_, ⟨⟨oc, od, kV, doc, pm, an, ct, osl, rfl, l, c, kw⟩, ⟨⟨oc, od, _, osl, ar, l, hp, har⟩, ⟨ccl, cdd, vs, ccs, file, tf, lc, hvs, hf⟩, ⟨cl, cld, csl, lcc⟩, ⟨cd, hD⟩, any, top⟩⟩⟩
theorem FunC.binds {P : Program} {x qual : Str} {st : Stmt} {kws : List (Str × V)} {fd : FuncData} {cda cc D0 : Addr} {sf : Str} {ps : List Str} (F : FunC P K x qual st kws f fd cda cc D0 sf)
    (b : ∀ (kV doc pm : Value) (an : Option Addr) (ct : Value) (us : List Value), us.length = ps.length → bindArgs (PySem.W.fnX x qual (defArgs st) (defBody st) (defScope st) [("__class__", cc)] .none kV doc pm an (.ref cda) ct) ⟨us, []⟩ = pure (ps.zip us)) : Binds K fd ps [] := by
  obtain ⟨oc, od, kV, doc, pm, an, ct, osl, rfl, lk, hcd, _⟩ := F.ex
  exact Binds.all fun us hl => b kV doc pm an ct us hl
theorem mkKw0 {kV : Value} : KwdV K kV [] := .inl rfl
/-- the def at a place that is known -/
def AtF (K : PySem.W.Frag) (f : Addr) : Prop := True
theorem mkFCa {P : Program} {x qual : Str} {st : Stmt} {kws : List (Str × V)} {cda cc D0 : Addr} {sf : Str} {oc doc pm ct kV ccl cl : Value} {od an cdd cld : Option Addr} {osl ccs csl : Array (Option Value)} {vs : Array Value} {file : Str} {tf : Tok} {cd : ClassData} {ar : Arg} (q : AtF K f)
    (l : K.lookup f = some ⟨oc, od, .func (PySem.W.fnX x qual (defArgs st) (defBody st) (defScope st) [("__class__", cc)] .none kV doc pm an (.ref cda) ct), osl⟩) (c : PySem.W.codeIn K (.ref cda) qual = true) (kw : KwdV K kV kws)
    (hp : ((defArgs st).posonlyargs ++ (defArgs st).args).head? = some ar) (har : ar.arg = sf) (lc : K.lookup cda = some ⟨ccl, cdd, .fields vs, ccs⟩) (hvs : vs[2]? = some (.str file tf)) (hf : ((P.main.file : Str) == file) = true)
    (lcc : K.lookup cc = some ⟨cl, cld, .cell (some (.ref D0)), csl⟩) (hD : PySem.W.clsIn K D0 = some cd) (any : PySem.W.nsIn K cStatics "thirdparty.any" = some none) (top : (P.main.scope.names.lookup ("super" : Str)).isSome = false) :
    ∃ fd, FunC P K x qual st kws f fd cda cc D0 sf := mkFC l c kw hp har lc hvs hf lcc hD any top
end
end Dt
namespace Dt
open PySem PySem.Spec PyProof.Rows L2
end Dt
namespace Dt
open PySem PySem.Spec PyProof.Rows L2
end Dt
namespace Dt
variable [GTab]
open PySem PySem.Spec PyProof.Rows L2
section
variable {X : Cx} {nm : Str} {j n : Nat}
/-- the classes that have a def of this name -/
inductive DT (X : Cx) (nm : Str) (j n : Nat) : List (Str × MF) → Prop
  | nil : DT X nm j n []
  | cons {c : Str} {C g : Addr} {k : Nat} {mm : MF} {l : List (Str × MF)} : ClV X.K X.mg c C → Dun X.K C nm g → FnR X.prog X.w X.K X.mg X.base CX0 k g (spM X.K (n + 1) mm) → Room (k + j) X.A → DT X nm j n l → DT X nm j n ((c, mm) :: l)
theorem DT.at_ : ∀ {l : List (Str × MF)} {c : Str} {mm : MF}, DT X nm j n l → l.lookup c = some mm → ∃ C g k, ClV X.K X.mg c C ∧ Dun X.K C nm g ∧ FnR X.prog X.w X.K X.mg X.base CX0 k g (spM X.K (n + 1) mm) ∧ Room (k + j) X.A
  | _, _, _, .nil, h => by cases h
  | _, c, mm, .cons (c := c0) a b d r t, h => by
    rw [List.lookup_cons] at h
    cases hb : c == c0 with
    | true =>
      rw [hb] at h
      cases h
      have e : c = c0 := by simpa using hb
      subst e
      exact ⟨_, _, _, a, b, d, r⟩
    | false =>
      rw [hb] at h
      exact DT.at_ t h
variable {e : Expr} {me : M} {p pos : Pos} {l : List (Str × MF)}
end
end Dt
namespace Dt
open PySem PySem.Spec PyProof.Rows L2
end Dt
namespace Dt
open PySem PySem.Spec PyProof.Rows L2
end Dt
namespace Dt
open PySem PySem.Spec PyProof.Rows L2
end Dt
namespace Dt
variable [GTab]
open PySem PySem.Spec PyProof.Rows L2
section
variable {X : Cx} {n : Nat}
/-- what instances may stand on the right -/
inductive RT (K : PySem.W.Frag) (mg : Str → Option Value) (C : Addr) : List Str → Prop
  | nil : RT K mg C []
  | cons {c : Str} {D : Addr} {l : List Str} : ClV K mg c D → IsI K D → PySem.W.notFirst K C (.ref D) = true → RT K mg C l → RT K mg C (c :: l)
theorem RT.at_ {K : PySem.W.Frag} {mg : Str → Option Value} {C : Addr} : ∀ {l : List Str} {c : Str}, RT K mg C l → c ∈ l → ∃ D, ClV K mg c D ∧ IsI K D ∧ PySem.W.notFirst K C (.ref D) = true
  | _, _, .nil, h => by cases h
  | _, c, .cons (c := c0) a b d t, h => by
    rcases List.mem_cons.mp h with rfl | h
    · exact ⟨_, a, b, d⟩
    · exact RT.at_ t h
inductive ET (X : Cx) (ks : List Str) : List (Str × MF) → Prop
  | nil : ET X ks []
  | cons {c : Str} {C g : Addr} {k : Nat} {mm : MF} {l : List (Str × MF)} : ClV X.K X.mg c C → OwnEq X.K C g → FnR X.prog X.w X.K X.mg X.base CX0 k g (spM X.K 2 mm) → Room (k + 1) X.A → RT X.K X.mg C ks → ET X ks l → ET X ks ((c, mm) :: l)
theorem ET.at_ {ks : List Str} : ∀ {l : List (Str × MF)} {c : Str} {mm : MF}, ET X ks l → l.lookup c = some mm → ∃ C g k, ClV X.K X.mg c C ∧ OwnEq X.K C g ∧ FnR X.prog X.w X.K X.mg X.base CX0 k g (spM X.K 2 mm) ∧ Room (k + 1) X.A ∧ RT X.K X.mg C ks
  | _, _, _, .nil, h => by cases h
  | _, c, mm, .cons (c := c0) a b d r u t, h => by
    rw [List.lookup_cons] at h
    cases hb : c == c0 with
    | true =>
      rw [hb] at h
      cases h
      have e : c = c0 := by simpa using hb
      subst e
      exact ⟨_, _, _, a, b, d, r, u⟩
    | false =>
      rw [hb] at h
      exact ET.at_ t h
variable {a b : Expr} {ma mb : M} {pos : Pos} {l : List (Str × MF)} {ks : List Str}
end
section
variable {X : Cx} {K : PySem.W.Frag} {mg : Str → Option Value}
structure FmO (K : PySem.W.Frag) (C : Addr) : Prop where
  fo : PySem.W.findIn K (.ref C) "__format__" = some (some (.builtin "object.__format__"))
  ob : PySem.W.mroIn K C (.type "object") = some true
inductive FM (X : Cx) : List (Str × MF) → Prop
  | nil : FM X []
  | cons {c : Str} {C g : Addr} {k : Nat} {mm : MF} {l : List (Str × MF)} : ClV X.K X.mg c C → FmO X.K C → Dun X.K C "__str__" g → FnR X.prog X.w X.K X.mg X.base CX0 k g (spM X.K 1 mm) → Room (k + 1) X.A → FM X l → FM X ((c, mm) :: l)
theorem FM.at_ : ∀ {l : List (Str × MF)} {c : Str} {mm : MF}, FM X l → l.lookup c = some mm → ∃ C g k, ClV X.K X.mg c C ∧ FmO X.K C ∧ Dun X.K C "__str__" g ∧ FnR X.prog X.w X.K X.mg X.base CX0 k g (spM X.K 1 mm) ∧ Room (k + 1) X.A
  | _, _, _, .nil, h => by cases h
  | _, c, mm, .cons (c := c0) a u b d r t, h => by
    rw [List.lookup_cons] at h
    cases hb : c == c0 with
    | true =>
      rw [hb] at h
      cases h
      have e : c = c0 := by simpa using hb
      subst e
      exact ⟨_, _, _, a, u, b, d, r⟩
    | false =>
      rw [hb] at h
      exact FM.at_ t h
end
end Dt
namespace Dt
variable [GTab]
open PySem PySem.Spec PyProof.Rows L2
section
variable {X : Cx}
/-- classes with different addresses -/
inductive ND (K : PySem.W.Frag) (mg : Str → Option Value) : List Str → List Addr → Prop
  | nil : ND K mg [] []
  | cons {c : Str} {C : Addr} {ks : List Str} {As : List Addr} : ClV K mg c C → ND K mg ks As → ND K mg (c :: ks) (C :: As)
theorem ND.in_ {K : PySem.W.Frag} {mg : Str → Option Value} : ∀ {ks : List Str} {As : List Addr}, ND K mg ks As → ∀ {c : Str} {C : Addr}, c ∈ ks → ClV K mg c C → C ∈ As
  | _, _, .nil, c, C, h, _ => by cases h
  | _, _, .cons (C := C0) T t, c, C, h, TC => by
    rcases List.mem_cons.mp h with rfl | h
    · have e := T.mg
      rw [TC.mg] at e
      injection e with e
      injection e with e
      exact List.mem_cons.mpr (.inl e)
    · exact List.mem_cons_of_mem _ (t.in_ h TC)
theorem ND.inj {K : PySem.W.Frag} {mg : Str → Option Value} : ∀ {ks : List Str} {As : List Addr}, ND K mg ks As → As.Nodup → ∀ {c c' : Str} {C : Addr}, c ∈ ks → c' ∈ ks → ClV K mg c C → ClV K mg c' C → c = c'
  | _, _, .nil, _, c, c', C, h, _, _, _ => by cases h
  | _, _, .cons (c := c0) (C := C0) T t, nd, c, c', C, h, h', TC, TC' => by
    have n2 := List.nodup_cons.mp nd
    have same : ∀ {x : Str}, x = c0 → ClV K mg x C → C = C0 := fun e k => by
      subst e
      have e := T.mg
      rw [k.mg] at e
      injection e with e
      injection e with e
    rcases List.mem_cons.mp h with e1 | h1 <;> rcases List.mem_cons.mp h' with e2 | h2
    · rw [e1, e2]
    · exact absurd (same e1 TC ▸ t.in_ h2 TC') n2.1
    · exact absurd (same e2 TC' ▸ t.in_ h1 TC) n2.1
    · exact t.inj n2.2 h1 h2 TC TC'
end
end Dt
namespace Dt
open PySem PySem.Spec PyProof.Rows L2
end Dt
namespace Dt
open PySem PySem.Spec PyProof.Rows L2
end Dt
namespace Dt
open PySem PySem.Spec PyProof.Rows L2
end Dt
namespace L2
open PySem PySem.Spec PyProof.Rows L2.DX
end L2
namespace Dt
open PySem PySem.Spec PyProof.Rows L2
end Dt
namespace Dt
open PySem PySem.Spec PyProof.Rows L2
end Dt
namespace Dt
open PySem PySem.Spec PyProof.Rows L2
end Dt
namespace Dt
variable [GTab]
open PySem PySem.Spec PyProof.Rows L2
def dReprS : List D → Option D
  | [.str x] => if (reprText x).length ≤ lim then some (.str (reprText x)) else none
  | ds => dReprK ds
def rReprS (K : PySem.W.Frag) : List V → Hp → VK → Prop := fun xs H Q => rReprK K xs H Q ∨ ∃ x, xs = [.str x] ∧ (reprText x).length ≤ lim ∧ Q (.str (reprText x)) H
theorem call_reprS {X : Cx} (hg : X.A.guards = some []) (hu : X.A.units + 64 < cLine) : CallR X (.builtin "repr") (rReprS X.K) := by
  intro pins s σ H xs us Q I r h
  rcases h with h | ⟨x, rfl, hl, hq⟩
  · exact call_reprK hg hu pins s σ H xs us Q I r h
  · obtain ⟨u, rfl, t, rfl⟩ := vals1 r
    exact PySem.P.repr_of_str ⟨.str _, H, I.tok _, ⟨_, rfl⟩, hq⟩ (lim_sz hl)
theorem cd_reprS {K : PySem.W.Frag} : CallD K (rReprS K) dReprS := by
  intro pa S H p xs ds z Q s r h q
  unfold dReprS at h
  split at h
  · rename_i x
    split at h
    · rename_i hh
      cases h
      obtain ⟨v, rfl, rv⟩ := r.one
      cases rv with
      | str _ hz => exact .inr ⟨x, rfl, hh, q _ H (fun _ _ h => h) (.str _ hh)⟩
    · cases h
  · exact .inl (cd_reprK pa S H p xs _ z Q s r h q)
end Dt
namespace Dt
open PySem PySem.Spec PyProof.Rows L2
section
variable {P : Program} {w : World} {K : PySem.W.Frag} {mg mb : Str → Option Value} {k : Nat} {fa a : Addr} {fd : FuncData} {x : Str} {sp : Sp} {s1 : Shared} {vs : List Value} {ns : List Int} {H : Hp} {cs : List (Addr × Addr)}
abbrev tabO : Obj := { cls := .none, data := .fields #[] }
structure Trk (s1 : Shared) (a : Addr) (cs : List (Addr × Addr)) (H : Hp) : Prop where
  tb : ∀ p ∈ cs, s1.heap.get? p.2 = some tabO
  ht : ∀ p ∈ cs, H p.2 = some (.tbl #[])
  only : ∀ b, H b ≠ none → b = a ∨ ∃ p ∈ cs, p.2 = b
  shape : ∀ b, H b = none ∨ (∃ p ∈ cs, p.2 = b) ∨ ∃ ob xs, H b = some (.frz ob (.lst xs))
theorem Trk.free (T : Trk s1 a cs H) (ha : s1.heap.get? a = some { cls := .type "list", data := .seq vs.toArray }) {b : Addr} {o : Obj} (e : s1.heap.get? b = some o) (n1 : ∀ ys n, o.data ≠ .seq ys n) (n2 : o.data ≠ .fields #[]) : H b = none := by
  refine Classical.byContradiction fun z => ?_
  rcases T.only b z with rfl | ⟨p, hp, rfl⟩
  · rw [ha] at e; cases e; exact n1 _ _ rfl
  · rw [T.tb p hp] at e; cases e; exact n2 rfl
theorem Trk.nsK (T : Trk s1 a cs H) (ha : s1.heap.get? a = some { cls := .type "list", data := .seq vs.toArray }) {b : Addr} {m : Str → Option Value} (h : s1.heap.Ns b m) : (hidT s1.heap H).Ns b m := by
  obtain ⟨o, es, ep, e, d, r⟩ := h
  exact ⟨o, es, ep, hidT_get e (T.free ha e (fun _ _ z => (by rw [d] at z; cases z)) fun z => (by rw [d] at z; cases z)), d, r⟩
theorem Trk.inK (T : Trk s1 a cs H) (KX : K.In s1.heap) (nT : ∀ p ∈ cs, K.lookup p.2 = none) (hK : H a ≠ none → K.lookup a = none) : K.In (hidT s1.heap H) := fun b o e => by
  refine hidT_get (KX b o e) (Classical.byContradiction fun z => ?_)
  rcases T.only b z with y | ⟨p, hp, y⟩
  · subst y; rw [hK z] at e; cases e
  · subst y; rw [nT p hp] at e; cases e
theorem Trk.tabB (T : Trk s1 a cs H) (ha : s1.heap.get? a = some { cls := .type "list", data := .seq vs.toArray }) (hns : s1.heap.Ns mainGlobals mg)
    (hbm : ∃ (bm : Addr) (ob : Obj), mg "__builtins__" = some (.ref bm) ∧ bm ≠ builtinsNs ∧ s1.heap.get? bm = some ob ∧ ob.cls = .type "module" ∧ ob.dict = some builtinsNs ∧ ob.data = .plain)
    {c t : Addr} (hp : (c, t) ∈ cs) (C : PySem.W.CodeHd s1.heap c t) : LamX.TabB (hidT s1.heap H) mg c t := by
  have ht := T.tb _ hp
  have plain : ∀ {b : Addr} {o : Obj}, s1.heap.get? b = some o → o.data ≠ .fields #[] → b ≠ t := fun e n y => by
    subst y
    rw [ht] at e
    cases e
    exact n rfl
  have gt : mainGlobals ≠ t := by
    obtain ⟨o, es, ep, e, d, _⟩ := hns
    exact plain e fun z => by rw [d] at z; cases z
  refine ⟨?_, ?_, gt⟩
  · obtain ⟨o, us, f1, f2, f3, f4, f5, f6, f7, e, q1, q2, q3, q⟩ := C
    refine ⟨o, us, f1, f2, f3, f4, f5, f6, f7, hidT_get e (T.free ha e (fun _ _ z => (by rw [q2] at z; cases z)) fun z => ?_), q1, q2, q3, q⟩
    rw [q2] at z
    cases z
    cases q3
  · obtain ⟨bm, ob, m1, m2, m3, m4, m5, m6⟩ := hbm
    refine ⟨bm, ob, m1, m2, fun y => ?_, plain m3 fun z => (by rw [m6] at z; cases z), hidT_get m3 (T.free ha m3 (fun _ _ z => (by rw [m6] at z; cases z)) fun z => (by rw [m6] at z; cases z)), m4, m5, m6⟩
    obtain ⟨o, es, ep, e, d, _⟩ := hns
    rw [y, e] at m3
    cases m3
    rw [d] at m6
    cases m6
theorem entry_coreT (T : Trk s1 a cs H) (KX : K.In s1.heap) (nT : ∀ p ∈ cs, K.lookup p.2 = none) (C : ∀ p ∈ cs, PySem.W.CodeHd s1.heap p.1 p.2) (hns : s1.heap.Ns mainGlobals mg) (hb : s1.heap.Ns builtinsNs mb) (hbb : ∀ x : Str, x ≠ "__name__" → mb x = bootBuiltins x) (hlim : s1.heap.NoLimit) (hg : s1.gens = #[])
    (hbm : ∃ (bm : Addr) (ob : Obj), mg "__builtins__" = some (.ref bm) ∧ bm ≠ builtinsNs ∧ s1.heap.get? bm = some ob ∧ ob.cls = .type "module" ∧ ob.dict = some builtinsNs ∧ ob.data = .plain)
    (ha : s1.heap.get? a = some { cls := .type "list", data := .seq vs.toArray }) (hr : Room k callerA) (F : ∀ base : Heap, K.In base → base.Ns mainGlobals mg → (∀ p ∈ cs, LamX.TabB base mg p.1 p.2) → FnG P w K mg base k fa fd [x] sp) (hbind : ∀ (s : Shared) (u : Value), BindsTo s fd ⟨[u], []⟩ [(x, u)])
    (q : sp [.ref a] H (fun v _ => v = .bl true) fun _ _ _ => False) (hok : HOk P w H s1.heap) (hK : H a ≠ none → K.lookup a = none) :
    codeAny (model P w) callerA (.call (.ref fa) ⟨[.ref a], []⟩) (LawEnd s1) s1 := by
  have kb := T.inK KX nT hK
  have nm := T.nsK ha hns
  have md : Mod K mg (hidT s1.heap H) := ⟨kb, nm, ⟨mb, T.nsK ha hb, hbb⟩, hlim.elim fun mc z => ⟨mc, T.nsK ha z.1, z.2⟩⟩
  have e0 : Env0 P w K mg (hidT s1.heap H) callerA [] s1 H := { frames := rfl, mod := md, bs := fun b o e => of_hidT e, bsz := Nat.le_of_eq (hidT_size _ _), funs := trivial, frf := (fun b z => nomatch (show b ∈ ([] : List Addr) from z)), hok := hok, bare := .of_eq hg }
  have tB : ∀ p ∈ cs, LamX.TabB (hidT s1.heap H) mg p.1 p.2 := fun p hp => T.tabB ha hns hbm (c := p.1) (t := p.2) hp (C p hp)
  refine codeAny_mono ((F _ kb nm tB).run callerA [] s1 H ⟨[.ref a], []⟩ [.ref a] [.ref a] _ _ ⟨hr, rfl⟩ e0 (hbind s1 (.ref a)) (.cons rfl .nil) q) fun r s' z => ?_
  match r, z with
  | .error e, z => exact z.elim
  | .ok .next, z => exact z.elim
  | .ok .brk, z => exact z.elim
  | .ok .cont, z => exact z.elim
  | .ok (.ret u), ⟨v, H', os, bare, un, hok', rv, (qv : v = .bl true)⟩ =>
    subst qv
    cases (show u = Value.bool true from rv)
    have grow : ∀ p ∈ cs, ∃ more : Array Value, s'.heap.get? p.2 = some { cls := .none, data := .fields (#[] ++ more) } := fun p hp => by
      obtain ⟨more, y⟩ := un.tbls p.2 #[] (T.ht p hp)
      exact ⟨more, hok' p.2 _ y⟩
    have keep : ∀ b o, (¬ ∃ p ∈ cs, p.2 = b) → s1.heap.get? b = some o → s'.heap.get? b = some o := fun b o nb e => by
      rcases T.shape b with y | y | ⟨ob, xs, y⟩
      · exact un.keep b o e y (fun y => nomatch (show b ∈ ([] : List Addr) from y)) (fun y => nomatch y)
      · exact absurd y nb
      · have old := (hok b _ y).1
        have new := (hok' b _ (un.frzs b ob _ y)).1
        rw [e] at old
        cases old
        exact new
    refine ⟨rfl, ⟨fun b o e => ?_, fun b o e => ?_⟩, os, bare⟩
    · by_cases nb : ∃ p ∈ cs, p.2 = b
      · obtain ⟨p, hp, rfl⟩ := nb
        obtain ⟨more, hm⟩ := grow p hp
        have ht := T.tb p hp
        rw [e] at ht
        cases ht
        exact .inr (.inl ⟨((C p hp).tab (T.tb p hp)).isCodeTable, rfl, #[], more, rfl, hm⟩)
      · exact .inl (keep b o nb e)
    · by_cases nb : ∃ p ∈ cs, p.2 = b
      · obtain ⟨p, hp, rfl⟩ := nb
        obtain ⟨more, hm⟩ := grow p hp
        exact ⟨_, hm⟩
      · exact ⟨o, keep b o nb e⟩
open Classical in
theorem entry_ofT (KX : K.In s1.heap) (hT : ∀ p ∈ cs, s1.heap.get? p.2 = some tabO) (nT : ∀ p ∈ cs, K.lookup p.2 = none) (C : ∀ p ∈ cs, PySem.W.CodeHd s1.heap p.1 p.2) (hns : s1.heap.Ns mainGlobals mg) (hb : s1.heap.Ns builtinsNs mb) (hbb : ∀ x : Str, x ≠ "__name__" → mb x = bootBuiltins x) (hlim : s1.heap.NoLimit) (hg : s1.gens = #[])
    (hbm : ∃ (bm : Addr) (ob : Obj), mg "__builtins__" = some (.ref bm) ∧ bm ≠ builtinsNs ∧ s1.heap.get? bm = some ob ∧ ob.cls = .type "module" ∧ ob.dict = some builtinsNs ∧ ob.data = .plain)
    (ha : s1.heap.get? a = some { cls := .type "list", data := .seq vs.toArray }) (hi : IntsAre vs ns) (hl : ns.length ≤ sizeLine) (hr : Room k callerA)
    (F : ∀ base : Heap, K.In base → base.Ns mainGlobals mg → (∀ p ∈ cs, LamX.TabB base mg p.1 p.2) → FnG P w K mg base k fa fd [x] sp)
    (hbind : ∀ (s : Shared) (u : Value), BindsTo s fd ⟨[u], []⟩ [(x, u)]) (hsp : ∀ H : Hp, (∀ p ∈ cs, H p.2 = some (.tbl #[])) → SqL K H a (ns.map V.int) → sp [.ref a] H (fun v _ => v = .bl true) fun _ _ _ => False) :
    codeAny (model P w) callerA (.call (.ref fa) ⟨[.ref a], []⟩) (LawEnd s1) s1 := by
  have rv := vals_ints hi
  have lv := hi.length
  have aT : ¬ ∃ p ∈ cs, p.2 = a := fun ⟨p, hp, y⟩ => by
    have z := hT p hp
    rw [y, ha] at z
    have z2 : Data.seq vs.toArray _ = Data.fields #[] := congrArg Obj.data (Option.some.inj z)
    cases z2
  let H0 : Hp := fun b => if ∃ p ∈ cs, p.2 = b then some (.tbl #[]) else none
  have h0t : ∀ p ∈ cs, H0 p.2 = some (.tbl #[]) := fun p hp => if_pos ⟨p, hp, rfl⟩
  have h0n : ∀ b, (¬ ∃ p ∈ cs, p.2 = b) → H0 b = none := fun b n => if_neg n
  have h0s : ∀ b o, H0 b = some o → (∃ p ∈ cs, p.2 = b) ∧ o = .tbl #[] := fun b o e => by
    by_cases n : ∃ p ∈ cs, p.2 = b
    · refine ⟨n, ?_⟩
      have : H0 b = some (.tbl #[]) := if_pos n
      rw [this] at e
      cases e
      rfl
    · rw [h0n b n] at e
      cases e
  have ok0 : ∀ b, (∃ p ∈ cs, p.2 = b) → s1.heap.get? b = some tabO := fun b ⟨p, hp, y⟩ => y ▸ hT p hp
  cases hk : K.lookup a with
  | some o =>
    have e := KX a o hk
    rw [ha] at e
    cases e
    have hS : SqL K H0 a (ns.map V.int) := .inr ⟨_, vs.toArray, _, hk, rfl, rfl, rfl, by rw [List.size_toArray, lv]; exact hl, by simpa using rv⟩
    refine entry_coreT ⟨hT, h0t, fun b z => ?_, fun b => ?_⟩ KX nT C hns hb hbb hlim hg hbm ha hr F hbind (hsp _ h0t hS) (fun b v z => ?_) fun z => absurd (h0n a aT) z
    · cases e : H0 b with
      | none => exact absurd e z
      | some v => exact .inr (h0s b v e).1
    · by_cases n : ∃ p ∈ cs, p.2 = b
      · exact .inr (.inl n)
      · exact .inl (h0n b n)
    · obtain ⟨n, rfl⟩ := h0s b v z
      exact ok0 b n
  | none =>
    let u : HO := .frz { cls := .type "list", data := .seq vs.toArray } (.lst (ns.map V.int))
    let H : Hp := upd H0 a u
    have at_ : H a = some u := upd_same
    have off : ∀ b, b ≠ a → H b = H0 b := fun b n => upd_ne n
    have ht : ∀ p ∈ cs, H p.2 = some (.tbl #[]) := fun p hp => (off _ fun z => aT ⟨p, hp, z⟩).trans (h0t p hp)
    refine entry_coreT (H := H) ⟨hT, ht, fun b z => ?_, fun b => ?_⟩ KX nT C hns hb hbb hlim hg hbm ha hr F hbind (hsp _ ht (.inl (.inr ⟨_, at_⟩))) (fun b v z => ?_) fun _ => hk
    · by_cases n : b = a
      · exact .inl n
      · rw [off b n] at z
        cases e : H0 b with
        | none => exact absurd e z
        | some v => exact .inr (h0s b v e).1
    · by_cases n : b = a
      · exact .inr (.inr ⟨_, _, by rw [n]; exact at_⟩)
      · by_cases m : ∃ p ∈ cs, p.2 = b
        · exact .inr (.inl m)
        · exact .inl ((off b n).trans (h0n b m))
    · by_cases n : b = a
      · subst n
        rw [at_] at z
        cases z
        exact ⟨ha, by rw [List.length_map]; exact hl, vs, _, rv, ha⟩
      · rw [off b n] at z
        obtain ⟨m, rfl⟩ := h0s b v z
        exact ok0 b m
end
/-- the goal that the head leaves, with tables -/
theorem walk_ofGT {l : PySem.W.OpenLaw} {n k : Nat} {q : Program} {loose : List Str} {XP : (Str → Option Value) → Heap → Prop} {YP : World → Heap → Prop} {d : DefRec} {K : Params → PySem.W.Frag} {sp : World → Sp} {x : Str} (cs : List (Addr × Addr))
    (hn : l.most = some n) (hn2 : n ≤ sizeLine) (hdf : d.params.defaults = []) (hr : Room k callerA) (hY : ∀ (w : World) (h : Heap), YP w h → (K w.params).In h ∧ (∀ p ∈ cs, h.get? p.2 = some tabO) ∧ (∀ p ∈ cs, (K w.params).lookup p.2 = none) ∧ ∀ p ∈ cs, PySem.W.CodeHd h p.1 p.2)
    (F : ∀ (w : World) (mg : Str → Option Value) (fa : Addr) (h : Heap), (K w.params).In h → h.Ns mainGlobals mg → mg d.name = some (.ref fa) → ∃ fd : FuncData, (∀ (s : Shared) (u : Value), BindsTo s fd ⟨[u], []⟩ [(x, u)]) ∧
      ∀ base : Heap, (K w.params).In base → base.Ns mainGlobals mg → (∀ p ∈ cs, LamX.TabB base mg p.1 p.2) → FnG l.prog w (K w.params) mg base k fa fd [x] (sp w))
    (hsp : ∀ (w : World) (H : Hp) (a : Addr) (ns : List Int), ns.length ≤ n → (∀ p ∈ cs, H p.2 = some (.tbl #[])) → SqL (K w.params) H a (ns.map V.int) → sp w [.ref a] H (fun v _ => v = .bl true) fun _ _ _ => False) : PySem.W.WalkO q loose XP YP l.row.toRowW d [] (fun f vs => PySem.call f vs) :=
  Att.attach_call hn hdf fun w s0 s1 mg mb fa o pm cd doc a vs ns G Y ho hd hcd hmg hobj hints hlen hg => by
    obtain ⟨y1, y2, y3, y4⟩ := hY w _ Y
    obtain ⟨fd, hb, hF⟩ := F w mg fa _ y1 G.T.g hmg
    exact entry_ofT y1 y2 y3 y4 G.T.g G.T.b G.T.builtins G.T.nolimit hg G.T.bmain hobj hints (Nat.le_trans hlen hn2) hr hF hb fun H h0 hS => hsp w H a ns hlen h0 hS
end Dt
namespace Dt
open PySem PySem.Spec PyProof.Rows L2 LamX NdefX
end Dt
namespace Dt
open PySem PySem.Spec PyProof.Rows L2 LamX NdefX
end Dt
namespace Dt
open PySem PySem.Spec PyProof.Rows L2
end Dt
namespace Dt
variable [GTab]
open PySem PySem.Spec PyProof.Rows L2 LamX NdefX
section
variable {X : Cx} {pins : List (Addr × Obj)} {σ : L2.St} {H : Hp} {s : Shared} {P : Addr} {ql : Str}
/-- one more code object in the table at P -/
theorem tab_grow {H : Hp} {P c' : Addr} {ql : Str} {ps : Array Value} {pos : Pos} (hP : H P = some (.tbl ps)) (ht : TriplesOk ps.toList)
    (ha : ∀ (p : Pos) (cv : Value), codeAmong p ps.toList = some cv → ∃ c, cv = .ref c ∧ H c = some (CodeO c ql)) (n : H c' = none) :
    TabS (upd (upd H P (.tbl (ps ++ #[rawInt pos.line, rawInt pos.col, .ref c']))) c' (CodeO c' ql)) P ql := by
  have eL : (ps ++ #[rawInt pos.line, rawInt pos.col, Value.ref c']).toList = ps.toList ++ [rawInt pos.line, rawInt pos.col, .ref c'] := Array.toList_append
  refine ⟨ps ++ #[rawInt pos.line, rawInt pos.col, .ref c'], ?_, ?_, fun p cv e => ?_⟩
  · rw [upd_ne (ne_of_none hP n), upd_same]
  · rw [eL]
    exact TriplesOk_snoc _ _ _ _ ht
  · rw [eL] at e
    rcases among_app _ ht e with z | z
    · obtain ⟨c0, e1, e2⟩ := ha p cv z
      refine ⟨c0, e1, ?_⟩
      rw [upd_ne (ne_of_none e2 n), upd_ne fun z => codeO_ne ps (Option.some.inj (e2.symm.trans (by rw [z]; exact hP)))]
      exact e2
    · exact ⟨c', z, upd_same⟩
theorem lam_made {c : Addr} {params : Arguments} {body : Expr} {scope : Scope} {pos : Pos} {E : Value → Shared → Prop} {Q : Value → Shared → Prop} (I : Inv X pins σ H s) (TB : LamX.TabB X.base X.mg c P) (hcode : X.env.code = .ref c)
    (hq : ql = X.env.qual ++ "<lambda>") (hT : TabS H P ql) (hdef : defaultsOf params X.env = ([], [])) (hfree : ∀ y ∈ scope.names, y.2 = .free → ∃ c, X.env.cells.lookup y.1 = some c)
    (h : ∀ (f c' : Addr) (pm ctv : Value) (H1 : Hp) (s' : Shared), Inv X pins σ H1 s' → (∀ b o, b ≠ P → H b = some o → H1 b = some o) → TabS H1 P ql →
      s'.heap.get? f = some (PySem.W.kla_obj "<lambda>" ql params body scope (cloFrom X.env.cells scope.names []) pm c' ctv) → H1 f = none → f ∉ frs X.stack → H1 c' = some (CodeO c' ql) → Q (.ref f) s') :
    wpAny (model X.prog X.w) X.A (eval (.Lambda params body scope pos) X.env) Q E s := by
  subst hq
  obtain ⟨ps, hP, ht, ha⟩ := hT
  have bP := TB.bm.keeps I.bk
  have gP : s.heap.get? P = some { cls := .none, data := .fields ps } := I.hok P _ hP
  have fresh : ∀ f, s.heap.objs.size ≤ f → f ∉ frs X.stack := fun f hf z => by
    rcases List.mem_cons.mp (I.stkSub _ z) with e | e
    · exact absurd (e ▸ I.lt) (Nat.not_lt.mpr hf)
    · exact I.nofs hf e
  refine PySem.W.kla_eval hdef ?_
  cases hc : codeAmong pos ps.toList with
  | some cv =>
    obtain ⟨c', rfl, hco⟩ := ha pos cv hc
    exact PySem.W.kla_makeFunctionHit (c := c) (closure_ok hfree) I.ok.glob (I.mod.glob.keeps I.bk) hcode (TB.code.keeps I.bk) gP ht hc bP fun ctv h' tk hx hsz =>
      h _ c' _ ctv H _ (I.kept fun b o e => Heap.get?_push_of_some _ (hx b o e)) (fun _ _ _ e => e) ⟨ps, hP, ht, ha⟩ (Heap.get?_push_size _ rfl) (I.hok.fresh hsz) (fresh _ hsz) hco
  | none =>
    refine PySem.W.kla_makeFunction (c := c) (closure_ok hfree) I.ok.glob (I.mod.glob.keeps I.bk) hcode (TB.code.keeps I.bk) gP ht hc TB.gP bP fun c' ctv h' tk hx hge hlt ⟨c2, oc, vs, t, e2, hoc, hd, hv⟩ htb => ?_
    cases e2
    have nC : H c' = none := I.hok.fresh hge
    have hsz : s.heap.objs.size ≤ h'.objs.size := Nat.le_trans hge (Nat.le_of_lt hlt)
    have J := inv_table (t' := tk) (more := #[rawInt pos.line, rawInt pos.col, .ref c']) (h' := h'.push (PySem.W.kla_obj "<lambda>" (X.env.qual ++ "<lambda>") params body scope (cloFrom X.env.cells scope.names []) ((X.mg "__name__").getD .none) c' ctv)) I hP
      (fun b o hb e => Heap.get?_push_of_some _ (hx b o hb e)) (Heap.get?_push_of_some _ htb) hge ⟨oc, vs, t, Heap.get?_push_of_some _ hoc, hd, hv⟩
    refine h _ c' _ ctv _ _ J (fun b o hb e => ?_) (tab_grow hP ht ha nC) (Heap.get?_push_size _ rfl) ?_ (fresh _ hsz) upd_same
    · rw [upd_ne (ne_of_none e nC), upd_ne hb]
      exact e
    · rw [upd_ne (Nat.ne_of_gt hlt), upd_ne (Nat.ne_of_gt (Nat.lt_of_lt_of_le (Heap.lt_size gP) hsz))]
      exact I.hok.fresh hsz
end
end Dt
namespace Dt
variable [GTab]
open PySem PySem.Spec PyProof.Rows L2 LamX NdefX
mutual
def NA : D → Prop
  | .act _ _ _ _ => False
  | .lst xs => NAL xs
  | .tup xs => NAL xs
  | .ptp xs => NAL xs
  | .dk _ vs => NAL vs
  | .dt _ vs => NAL vs
  | .ins _ _ vs => NAL vs
  | .slt _ vs => NAL vs
  | _ => True
def NAL : List D → Prop
  | [] => True
  | d :: ds => NA d ∧ NAL ds
end
section
variable {K : PySem.W.Frag} {pa q : PAx} {H : Hp}
def Sc (d : D) : Prop := (∃ i, d = .int i) ∨ ∃ x, d = .str x ∧ x.length ≤ lim
def scV : D → V
  | .int i => .int i
  | .str x => .str x
  | _ => .non
theorem Rp.ofSc {d : D} (h : Sc d) : Rp K pa H (scV d) d := by
  rcases h with ⟨i, rfl⟩ | ⟨x, rfl, h⟩
  · exact .int i
  · exact .str x h
theorem Rp.sc {v : V} {d : D} (r : Rp K pa H v d) (h : Sc d) : v = scV d := by
  rcases h with ⟨i, rfl⟩ | ⟨x, rfl, h⟩ <;> cases r <;> rfl
theorem RpL.ofScs : ∀ {ds : List D}, (∀ d ∈ ds, Sc d) → RpL K pa H (ds.map scV) ds
  | [], _ => .nil
  | d :: ds, h => .cons (.ofSc (h d List.mem_cons_self)) (RpL.ofScs fun z hz => h z (List.mem_cons_of_mem _ hz))
theorem RpL.scs : ∀ {vs : List V} {ds : List D}, RpL K pa H vs ds → (∀ d ∈ ds, Sc d) → vs = ds.map scV
  | _, _, .nil, _ => rfl
  | _, d :: ds, .cons r t, h => by rw [List.map_cons, ← r.sc (h d List.mem_cons_self), ← RpL.scs t fun z hz => h z (List.mem_cons_of_mem _ hz)]
def Tv (K : PySem.W.Frag) (H : Hp) (v : V) (ds : List D) : Prop := (∀ d ∈ ds, Sc d) ∧ ∃ b, v = .ref b ∧ SqT K H b (ds.map scV)
theorem Tv.keep {H' : Hp} {v : V} {ds : List D} (t : Tv K H v ds) (e : ∀ b o, H b = some o → TupO o → H' b = some o) : Tv K H' v ds := by
  obtain ⟨h, b, rfl, hb⟩ := t
  refine ⟨h, b, rfl, ?_⟩
  rcases hb with (hb | ⟨o, hb⟩) | hb
  · exact .inl (.inl (e _ _ hb (.inl ⟨_, rfl⟩)))
  · exact .inl (.inr ⟨o, e _ _ hb (.inr ⟨_, _, rfl⟩)⟩)
  · exact .inr hb
theorem Tv.rp {S : Addr → Prop} {p : List Int} {v : V} {ds : List D} (t : Tv K H v ds) (s : Sta q S H p) : Rp K pa (hid S H) v (.tup ds) := by
  obtain ⟨h, b, rfl, hb⟩ := t
  refine .tup ?_ (RpL.ofScs h)
  rcases hb with (hb | ⟨o, hb⟩) | hb
  · exact .inl (.inl (hid_of (fun z => s.ntp b _ z hb (.inl ⟨_, rfl⟩)) hb))
  · exact .inl (.inr ⟨o, hid_of (fun z => s.ntp b _ z hb (.inr ⟨_, _, rfl⟩)) hb⟩)
  · exact .inr hb
theorem Tv.of {S : Addr → Prop} {v : V} {ds : List D} (r : Rp K pa (hid S H) v (.tup ds)) (h : ∀ d ∈ ds, Sc d) : Tv K H v ds := by
  cases r with
  | tup h1 h2 =>
    rw [h2.scs h] at h1
    exact ⟨h, _, rfl, sameT hid_sub h1⟩
end
theorem putK_keys {κ : Type} [DecidableEq κ] (kvs : List (κ × V)) (k : κ) (v : V) : (putK kvs k v).map (·.1) = kvs.map (·.1) ∨ valV kvs k = none ∧ (putK kvs k v).map (·.1) = kvs.map (·.1) ++ [k] := by
  cases e : valV kvs k with
  | none => exact .inr ⟨rfl, by rw [putK_new v e, List.map_append]; rfl⟩
  | some w =>
    refine .inl ?_
    unfold putK
    rw [if_pos (by rw [valV_any, e]; rfl), List.map_map]
    refine List.map_congr_left fun z _ => ?_
    show (if z.1 = k then (z.1, v) else z).1 = z.1
    split <;> rfl
/-- the object of the lists: its place and class, its steps, its dict, the lists, the places asked -/
structure LO0 where
  x : Addr
  C : Addr
  dx : Addr
  va : V
  kd : Addr
  src : Nat → Str → List D
  all : List (List Key)
def spot (n : Nat) (k : Str) : List Key := [.inl (n : Int), .inr k]
structure LstOk (K : PySem.W.Frag) (L : LO0) (H : Hp) : Prop where
  ins : H L.x = some (.ins L.C L.dx [("acts", L.va), ("known", .ref L.kd)])
  kn : ∃ kvs, H L.kd = some (.dT kvs) ∧ (kvs.map (·.1)).Nodup ∧ (∀ k ∈ kvs.map (·.1), k ∈ L.all) ∧ ∀ n k v, valV kvs (spot n k) = some v → Tv K H v (L.src n k)
theorem spot_inj {n m : Nat} {j k : Str} (h : spot n j = spot m k) : n = m ∧ j = k := by
  unfold spot at h
  injection h with h1 h2
  injection h2 with h2 _
  injection h1 with h1
  injection h2 with h2
  exact ⟨Int.ofNat.inj h1, h2⟩
theorem LstOk.put {K : PySem.W.Frag} {L : LO0} {H : Hp} {kvs : List (List Key × V)} {n : Nat} {k : Str} {v : V} (h : LstOk K L H) (hk : H L.kd = some (.dT kvs)) (ha : spot n k ∈ L.all) (t : Tv K H v (L.src n k)) :
    LstOk K L (upd H L.kd (.dT (putK kvs (spot n k) v))) := by
  obtain ⟨kvs', h1, h2, h3, h4⟩ := h.kn
  rw [hk] at h1
  cases h1
  have tp : ∀ b o, H b = some o → TupO o → upd H L.kd (.dT (putK kvs (spot n k) v)) b = some o := fun b o hb ht => by
    rw [upd_ne fun z => ?_]
    · exact hb
    · rw [z, hk] at hb
      cases hb
      rcases ht with ⟨_, z⟩ | ⟨_, _, z⟩ <;> cases z
  refine ⟨?_, _, upd_same, ?_, ?_, fun m j w e => ?_⟩
  · rw [upd_ne fun z => ?_]
    · exact h.ins
    · have e := h.ins
      rw [z, hk] at e
      cases e
  · rcases putK_keys kvs (spot n k) v with e | ⟨e1, e⟩
    · rw [e]; exact h2
    · exact nd_putK v h2 e1
  · intro z hz
    rcases putK_keys kvs (spot n k) v with e | ⟨_, e⟩
    · rw [e] at hz; exact h3 z hz
    · rw [e] at hz
      rcases List.mem_append.mp hz with hz | hz
      · exact h3 z hz
      · rw [List.mem_singleton.mp hz]; exact ha
  · rw [valV_put] at e
    split at e
    · rename_i he
      obtain ⟨rfl, rfl⟩ := spot_inj he
      cases e
      exact t.keep tp
    · exact (h4 m j w e).keep tp
theorem LstOk.keep {K : PySem.W.Frag} {L : LO0} {H H' : Hp} (h : LstOk K L H) (e : ∀ b o, H b = some o → ((Stb o ∧ ∀ ps, o ≠ .tbl ps) ∨ b = L.kd) → H' b = some o) : LstOk K L H' := by
  obtain ⟨kvs, h1, h2, h3, h4⟩ := h.kn
  refine ⟨e _ _ h.ins (.inl ⟨.inr (.inr (.inr (.inr ⟨_, _, _, _, rfl⟩))), fun ps z => by cases z⟩), kvs, e _ _ h1 (.inr rfl), h2, h3, fun n k v hv => (h4 n k v hv).keep fun b o hb ht => e b o hb (.inl ?_)⟩
  rcases ht with ⟨xs, rfl⟩ | ⟨ob, xs, rfl⟩
  · exact ⟨.inr (.inr (.inl ⟨_, rfl⟩)), fun ps z => by cases z⟩
  · exact ⟨.inr (.inr (.inr (.inl ⟨_, _, rfl⟩))), fun ps z => by cases z⟩
theorem codeO_stb {c : Addr} {ql : Str} : Stb (CodeO c ql) ∧ ∀ ps, CodeO c ql ≠ .tbl ps := ⟨.inr (.inl ⟨_, _, rfl⟩), codeO_ne⟩
/-- .. and the code object at c' is known, too -/
def PAx.and (q : PAx) (c' : Addr) (ql : Str) : PAx := ⟨q.po, ⟨q.c.tb, q.c.mx, fun H => q.c.iv H ∧ H c' = some (CodeO c' ql), q.c.un, q.c.nm, fun H H' e h => ⟨q.c.ivk H H' e h.1, e _ _ h.2 (.inl codeO_stb)⟩⟩⟩
/-- what a state's kind says of the lists -/
structure LQ (K : PySem.W.Frag) (L : LO0) (q : PAx) : Prop where
  mx : q.c.mx L.kd
  iv : ∀ H, q.c.iv H → LstOk K L H
  put : ∀ H kvs, q.c.iv H → LstOk K L (upd H L.kd (.dT kvs)) → q.c.iv (upd H L.kd (.dT kvs))
section
variable {K : PySem.W.Frag} {L : LO0} {P c' : Addr} {ql : Str} {q : PAx} {S : Addr → Prop} {H H1 : Hp} {p : List Int}
theorem LQ.and (h : LQ K L q) : LQ K L (q.and c' ql) := by
  refine ⟨h.mx, fun H z => h.iv H z.1, fun H kvs z l => ⟨h.put H kvs z.1 l, ?_⟩⟩
  obtain ⟨kv, e, _⟩ := (h.iv H z.1).kn
  rw [upd_ne fun y => ?_]
  · exact z.2
  · have e2 := z.2
    rw [y, e] at e2
    cases e2
theorem Sta.and (s : Sta q S H p) (h : H c' = some (CodeO c' ql)) : Sta (q.and c' ql) S H p := ⟨s.pool, s.trk, ⟨s.tab.tabs, ⟨s.tab.inv, h⟩, s.tab.gl⟩, s.ms, s.pn, s.ntp⟩
theorem Sta.un (s : Sta (q.and c' ql) S H p) : Sta q S H p := ⟨s.pool, s.trk, ⟨s.tab.tabs, s.tab.inv.1, s.tab.gl⟩, s.ms, s.pn, s.ntp⟩
/-- the table grows -/
theorem Sta.lam (s : Sta q S H p) (l : (P, ql) ∈ GTab.tb) (e : ∀ b o, b ≠ P → H b = some o → H1 b = some o) (t : TabS H1 P ql) : Sta q S H1 p ∧ Ext q H H1 := by
  have l := s.tab.gl _ l
  have hP : q.c.mut P := .inl (List.mem_map.mpr ⟨_, l, rfl⟩)
  obtain ⟨ps0, t0, _⟩ := s.tab.tabs _ l
  have nt : ∀ b o, H b = some o → (∀ ps, o ≠ .tbl ps) → b ≠ P := fun b o hb n z => by
    rw [z, t0] at hb
    exact n _ (Option.some.inj hb).symm
  refine ⟨⟨fun a h => ⟨e _ _ (fun z => s.pn a h (z ▸ hP)) (s.pool a h).1, (s.pool a h).2⟩, fun a h => ?_, ⟨fun z hz => ?_, q.c.ivk H H1 (fun b o hb z => ?_) s.tab.inv, s.tab.gl⟩, s.ms, s.pn, fun a o ha h => ?_⟩, fun b o nb hb => e b o (fun z => nb (z ▸ .inr hP)) hb⟩
  · by_cases z : a = P
    · obtain ⟨ps, t1, _⟩ := t
      exact ⟨_, z ▸ t1⟩
    · obtain ⟨o, ho⟩ := s.trk a h
      exact ⟨o, e _ _ z ho⟩
  · by_cases y : z.1 = P
    · rw [y, q.c.un z hz _ l y]; exact t
    · obtain ⟨ps, h1, h2, h3⟩ := s.tab.tabs z hz
      refine ⟨ps, e _ _ y h1, h2, fun pos cv hc => ?_⟩
      obtain ⟨c0, e1, e2⟩ := h3 pos cv hc
      exact ⟨c0, e1, e _ _ (nt _ _ e2 codeO_ne) e2⟩
  · refine e b o ?_ hb
    rcases z with ⟨_, z⟩ | z
    · exact nt _ _ hb z
    · intro y
      exact q.c.nm _ l (y ▸ z)
  · by_cases z : a = P
    · obtain ⟨ps, t1, _⟩ := t
      rw [z, t1] at h
      cases h
      rintro (⟨_, z⟩ | ⟨_, _, z⟩) <;> cases z
    · obtain ⟨o', ho⟩ := s.trk a ha
      have h2 := e _ _ z ho
      rw [h] at h2
      cases h2
      exact s.ntp a _ ha ho
end
end Dt
namespace Dt
open PySem PySem.Spec PyProof.Rows L2 LamX NdefX
end Dt
namespace Dt
variable [GTab]
open PySem PySem.Spec PyProof.Rows L2 LamX NdefX
theorem NAL.mem : ∀ {ds : List D} {d : D}, NAL ds → d ∈ ds → NA d
  | [], _, _, h => by cases h
  | a :: ds, d, n, h => by
    unfold NAL at n
    rcases List.mem_cons.mp h with rfl | h
    · exact n.1
    · exact NAL.mem n.2 h
end Dt
namespace Dt
open PySem PySem.Spec PyProof.Rows L2 LamX NdefX
end Dt
namespace Dt
open PySem PySem.Spec PyProof.Rows L2 LamX NdefX
end Dt
namespace Dt
variable [GTab]
open PySem PySem.Spec PyProof.Rows L2 LamX NdefX
section
variable {P : Program} {w : World} {K : PySem.W.Frag} {mg : Str → Option Value} {base : Heap} {kb k n : Nat} {g c C T : Addr} {fd : FuncData} {x qual : Str} {st : Stmt}
/-- the kind of the states while the lists are found -/
def PAx.lst (pa : PAx) (K : PySem.W.Frag) (L : LO0) (hn : ∀ p ∈ pa.c.tb, p.1 ≠ L.kd) : PAx := ⟨pa.po, ⟨pa.c.tb, fun b => pa.c.mx b ∨ b = L.kd, fun H => pa.c.iv H ∧ LstOk K L H, pa.c.un, fun p hp z => z.elim (pa.c.nm p hp) (hn p hp),
  fun H H' e h => ⟨pa.c.ivk H H' (fun b o hb z => e b o hb (z.imp id .inl)) h.1, h.2.keep fun b o hb z => e b o hb (z.imp id .inr)⟩⟩⟩
theorem LQ.lst {pa : PAx} {L : LO0} (hn : ∀ p ∈ pa.c.tb, p.1 ≠ L.kd) (hm : ¬ pa.c.mx L.kd) : LQ K L (pa.lst K L hn) := by
  refine ⟨.inr rfl, fun H z => z.2, fun H kvs z l => ⟨pa.c.ivk H _ (fun b o hb y => ?_) z.1, l⟩⟩
  rw [upd_ne fun e => ?_]
  · exact hb
  · obtain ⟨kv, h1, _⟩ := z.2.kn
    rw [e, h1] at hb
    cases hb
    rcases y with ⟨y, _⟩ | y
    · exact nst_dT y
    · exact hm (e ▸ y)
/-- the lists' object is made -/
theorem Sta.lst {pa : PAx} {S : Addr → Prop} {H H2 : Hp} {p : List Int} {L : LO0} (s : Sta pa S H p) (hk : H L.kd = none) (sm : Same H H2) (l : LstOk K L H2) :
    ∃ (hn : ∀ p ∈ pa.c.tb, p.1 ≠ L.kd) (_ : ¬ pa.c.mx L.kd), Sta (pa.lst K L hn) (fun b => S b ∨ b = L.kd) H2 p := by
  have nS : ¬ S L.kd := s.new hk
  have hn : ∀ p ∈ pa.c.tb, p.1 ≠ L.kd := fun p hp z => nS (z ▸ s.ms _ (.inl (List.mem_map.mpr ⟨p, hp, rfl⟩)))
  refine ⟨hn, fun z => nS (s.ms _ (.inr z)), ?_⟩
  obtain ⟨kvs, h1, _⟩ := l.kn
  have s2 : Sta pa (fun b => S b ∨ b = L.kd) H2 p := s.more sm (fun _ h => .inl h) fun a h z => by
    rcases h with h | rfl
    · exact absurd h z
    · exact ⟨_, h1, by rintro (⟨_, z⟩ | ⟨_, _, z⟩) <;> cases z⟩
  refine ⟨s2.pool, s2.trk, ⟨s2.tab.tabs, ⟨s2.tab.inv, l⟩, s2.tab.gl⟩, fun b h => ?_, fun a h z => ?_, s2.ntp⟩
  · rcases h with h | h | h
    · exact .inl (s.ms _ (.inl h))
    · exact .inl (s.ms _ (.inr h))
    · exact .inr h
  · rcases z with z | z | z
    · exact s.pn a h (.inl z)
    · exact s.pn a h (.inr z)
    · exact nS (z ▸ (s.pool a h).2)
end
end Dt
namespace Dt
open PySem PySem.Spec PyProof.Rows L2 LamX NdefX
end Dt
namespace Dt
open PySem PySem.Spec PyProof.Rows L2
end Dt
namespace Dt
open PySem PySem.Spec PyProof.Rows L2 Zs PySem.Froz
end Dt
namespace Dt
open PySem PySem.Spec PyProof.Rows L2
end Dt
namespace Dt
open PySem PySem.Spec PyProof.Rows L2 LamX NdefX
end Dt
namespace Dt
open PySem PySem.Spec PyProof.Rows L2
end Dt
namespace Dt
variable [GTab]
open PySem PySem.Spec PyProof.Rows L2
structure FunD (K : PySem.W.Frag) (x qual : Str) (st : Stmt) (f : Addr) (fd : FuncData) : Prop where
  ex : ∃ (oc : Value) (od : Option Addr) (dV kV doc pm : Value) (an : Option Addr) (cdv ct : Value) (osl : Array (Option Value)),
    fd = PySem.W.fnOf x qual (defArgs st) (defBody st) (defScope st) dV kV doc pm an cdv ct ∧ K.lookup f = some ⟨oc, od, .func fd, osl⟩ ∧ PySem.W.codeIn K cdv qual = true
  kp : PySem.W.keepIn K (.ref f) = true
section
variable {P : Program} {w : World} {K : PySem.W.Frag} {mg : Str → Option Value} {base : Heap}
theorem FunD.ok {x qual : Str} {st : Stmt} {f : Addr} {fd : FuncData} {N ps : List Str} {k : Nat} {sp : Sp} (F : FunD K x qual st f fd) (S : FnScope N ps (defScope st)) (len : ∀ vs H Q E, sp vs H Q E → vs.length = ps.length)
    (hbody : ∀ (cdv : Value) (A : Around) (outer : List Env) (s : Shared) (H : Hp) (vs : List V) (Q : VK) (E : XK), Room k (A.deeper (envOfC qual (defScope st) s.heap.objs.size f cdv)) → sp vs H Q E →
      ∃ t, PSs (cxOf CX0 P w K mg base N qual (defScope st) f cdv A outer s H E).nox (defBody st) t ∧ t { nx := fun _ H' => Q .non H', rt := Q } (start N vs) H) : FnOk P w K mg base CX0 (k + 1) f fd ps sp := by
  obtain ⟨oc, od, dV, kV, doc, pm, an, cdv, ct, osl, rfl, lk, hcd⟩ := F.ex
  refine fn_of lk hcd S len fun A outer s H vs Q E hr hsp => ?_
  obtain ⟨t, h, q⟩ := hbody cdv A outer s H vs Q E hr hsp
  exact ⟨t, h.nox, q⟩
end
/-- the defaults as values of the layer, in every heap -/
def DfOk (K : PySem.W.Frag) (dvs : List V) (dd : List D) : Prop := ∀ (pa : PAx) (S : Addr → Prop) (H : Hp), RpL K pa (hid S H) dvs dd
theorem DfOk.nil {K : PySem.W.Frag} : DfOk K [] [] := fun _ _ _ => .nil
theorem DfOk.int {K : PySem.W.Frag} {dvs : List V} {dd : List D} (i : Int) (h : DfOk K dvs dd) : DfOk K (.int i :: dvs) (.int i :: dd) := fun pa S H => .cons (.int i) (h pa S H)
theorem DfOk.unit {K : PySem.W.Frag} {dvs : List V} {dd : List D} {t : Addr} {o : Obj} {n : Nat} (lk : K.lookup t = some o) (hc : o.cls = .type "tuple") (hs : o.data = .seq #[] n) (h : DfOk K dvs dd) : DfOk K (.ref t :: dvs) (.tup [] :: dd) := fun pa S H =>
  .cons (.tup (.inr ⟨o, #[], n, lk, hc, hs, Nat.zero_le _, .nil⟩) .nil) (h pa S H)
end Dt
namespace Dt
open PySem PySem.Spec PyProof.Rows L2
end Dt
namespace Dt
open PySem PySem.Spec PyProof.Rows L2
theorem isub_tt : isSubtype (Value.type "tuple") (Value.type "tuple") = pure true := rfl
theorem exc_loop {M : Model} {A : Around} {E : Value → Shared → Prop} {K : PySem.W.Frag} {h : Heap} {cls : Value} (X : K.In h) : ∀ {cs : List Value} {g : Value → Bool} {s : Shared} {Q : PUnit → Shared → Prop}, (∀ c ∈ cs, PySem.W.exmOne K cls c = some (g c)) → (∀ (b : Addr) (o : Obj), h.get? b = some o → s.heap.get? b = some o) → Q PUnit.unit s →
    wpAny M A (forIn cs PUnit.unit fun c __s => do
        let __do_lift ← isExcClass c
        if (!__do_lift) = true then do
            rule "try.except-non-exception-class"
            raiseErrorWords "TypeError" "catching classes that do not inherit from BaseException is not allowed"
            pure (ForInStep.yield PUnit.unit)
          else pure (ForInStep.yield PUnit.unit)) Q E s
  | [], g, s, Q, _, _, q => by
    rw [List.forIn_nil]
    exact PySem.W.nd_pure q
  | c :: cs, g, s, Q, hx, k, q => by
    rw [List.forIn_cons]
    obtain ⟨e1, _⟩ := PySem.W.exm_cls X (hx c List.mem_cons_self)
    refine wpAny_bind (wpAny_bind ?_)
    refine e1 A _ E s k ?_
    show wpAny M A (pure (ForInStep.yield PUnit.unit)) _ E s
    refine PySem.W.nd_pure ?_
    exact exc_loop X (fun c hc => hx c (List.mem_cons_of_mem _ hc)) k q
theorem sub_loop {M : Model} {A : Around} {E : Value → Shared → Prop} {K : PySem.W.Frag} {h : Heap} {cls : Value} (X : K.In h) : ∀ {cs : List Value} {g : Value → Bool} {s : Shared} {Q : Option Bool × Unit → Shared → Prop}, (∀ c ∈ cs, PySem.W.exmOne K cls c = some (g c)) → (∀ (b : Addr) (o : Obj), h.get? b = some o → s.heap.get? b = some o) → Q (if cs.any g = true then (some true, ()) else (none, ())) s →
    wpAny M A (forIn cs ((none, ()) : Option Bool × Unit) fun c __s => do
          let __do_lift ← isSubtype cls c
          if __do_lift = true then pure (ForInStep.done (some true, ())) else pure (ForInStep.yield (none, ()))) Q E s
  | [], g, s, Q, _, _, q => by
    rw [List.forIn_nil]
    exact PySem.W.nd_pure q
  | c :: cs, g, s, Q, hx, k, q => by
    rw [List.forIn_cons]
    obtain ⟨_, e1⟩ := PySem.W.exm_cls X (hx c List.mem_cons_self)
    refine wpAny_bind (wpAny_bind ?_)
    refine e1 A _ E s k ?_
    cases hg : g c with
    | true =>
      rw [List.any_cons, hg] at q
      show wpAny M A (pure (ForInStep.done (some true, ()))) _ E s
      exact PySem.W.nd_pure (PySem.W.nd_pure q)
    | false =>
      rw [List.any_cons, hg, Bool.false_or] at q
      show wpAny M A (pure (ForInStep.yield (none, ()))) _ E s
      exact PySem.W.nd_pure (sub_loop X (fun c hc => hx c (List.mem_cons_of_mem _ hc)) k q)
theorem exm_tuple {M : Model} {A : Around} {E : Value → Shared → Prop} {K : PySem.W.Frag} {h : Heap} {e tup : Addr} {cls : Value} {cs : List Value} {g : Value → Bool} {o : Obj} {n : Nat} {s : Shared} {Q : Bool → Shared → Prop} (X : K.In h) (LT : PySem.W.Looks M h (typeOf (.ref e)) cls)
    (hx : ∀ c ∈ cs, PySem.W.exmOne K cls c = some (g c)) (k : ∀ (b : Addr) (o : Obj), h.get? b = some o → s.heap.get? b = some o) (ht : s.heap.get? tup = some o) (hc : o.cls = .type "tuple") (hd : o.data = .seq cs.toArray n) (q : Q (cs.any g) s) :
    wpAny M A (excMatches (.ref e) (.ref tup)) Q E s := by
  unfold excMatches isInstance
  refine wpAny_bind (wpAny_bind (wpAny_typeOf_ref ht ?_))
  rw [hc, isub_tt]
  refine PySem.W.nd_pure ?_
  show wpAny M A (seqItems? (.ref tup) >>= _) Q E s
  refine wpAny_bind (wpAny_seqItems ht hd ?_)
  refine wpAny_bind (PySem.W.nd_pure ?_)
  show wpAny M A (forIn cs PUnit.unit _ >>= _) Q E s
  refine wpAny_bind (exc_loop X hx k ?_)
  refine wpAny_bind (LT A _ E s k ?_)
  refine wpAny_bind (sub_loop X hx k ?_)
  have e : ((some cs.toArray).getD #[]).toList = cs := by simp
  rw [e]
  cases hb : cs.any g with
  | true =>
    rw [hb] at q
    exact PySem.W.nd_pure q
  | false =>
    rw [hb] at q
    exact PySem.W.nd_pure q
inductive GlobsX (X : Cx) : List Expr → List Value → Prop
  | nil : GlobsX X [] []
  | cons {x : Str} {p : Pos} {c : Value} {es : List Expr} {cs : List Value} : Gl X x → X.mg x = some c → (x == ("__debug__" : Str)) = false → GlobsX X es cs → GlobsX X (.Name x p :: es) (c :: cs)
theorem GlobsX.suite {X : Cx} {a : Addr} {pn : List (Addr × Obj)} : ∀ {es : List Expr} {cs : List Value}, GlobsX X es cs → GlobsX (X.suite a pn) es cs
  | _, _, .nil => .nil
  | _, _, .cons h1 h2 h3 h => .cons h1 h2 h3 (GlobsX.suite h)
theorem spl_globs {X : Cx} {pins : List (Addr × Obj)} {σ : L2.St} {H : Hp} {E : Value → Shared → Prop} {pos : Pos} : ∀ {es : List Expr} {cs : List Value} {s : Shared} {Q : List Value → Shared → Prop}, GlobsX X es cs → L2.Inv X pins σ H s → Q cs s → wpAny (model X.prog X.w) X.A (spliced (backTo pos (starEach es X.env))) Q E s
  | _, _, s, Q, .nil, I, q => Calls.spliced_nil q
  | _, _, s, Q, .cons (x := x) (p := p) (es := es) h1 h2 h3 h, I, q => by
    show wpAny _ _ (spliced ((false, eval (.Name x p) X.env) :: backTo pos (starEach es X.env))) Q E s
    exact Calls.spliced_cons (ld_glob I h1 h2 (spl_globs h I q) h3)
theorem GlobsX.len {X : Cx} : ∀ {es : List Expr} {cs : List Value}, GlobsX X es cs → es.length = cs.length
  | _, _, .nil => rfl
  | _, _, .cons _ _ _ h => congrArg (· + 1) (GlobsX.len h)
def wAsT (K : PySem.W.Frag) (cs : List Value) (i : Nat) (ts : Addr → Value → Option Addr → TS) (D : Ends) : WX := fun cls d σ H =>
  (∃ g : Value → Bool, (∀ c ∈ cs, PySem.W.exmOne K cls c = some (g c)) ∧ cs.any g = true) ∧ ∀ a : Addr, H a = none → ts a cls d { nx := fun σ' H' => D.nx (List.set σ' i none) H', rt := D.rt, bk := fun σ' H' => D.bk (List.set σ' i none) H', ct := fun σ' H' => D.ct (List.set σ' i none) H' } (List.set σ i (some (V.ref a))) H
theorem ff_push {h B : Heap} {o : Obj} : ∀ {l : List Env}, h.FunFrames B l → (h.push o).FunFrames B l
  | [], _ => trivial
  | env :: l, ⟨h1, ⟨L, o', e1, e2, e3, e4⟩, h3⟩ => ⟨h1, ⟨L, o', e1, e2, Heap.get?_push_of_some o e3, e4⟩, ff_push h3⟩
theorem fly_push {B h : Heap} {l : List Env} {a : Addr} {Zp : Obj → Prop} {o : Obj} (f : HandSPX.FlyingZ B l a Zp h) : HandSPX.FlyingZ B l a Zp (h.push o) := by
  obtain ⟨h1, h2, h3, oe, vs, T, oT, ts, e1, e2, e3, e4, e5, e6, e7, e8, e9⟩ := f
  exact ⟨fun b u e => Heap.get?_push_of_some o (h1 b u e), h2, ff_push h3, oe, vs, T, oT, ts, Heap.get?_push_of_some o e1, e2, e3, e4, e5, e6, Heap.get?_push_of_some o e7, e8, e9⟩
theorem up_push {h : Heap} {o : Obj} : h.UpToSlots (h.push o) := fun b u e _ => ⟨u.slots, Heap.get?_push_of_some o e⟩
theorem not_frame {h B : Heap} {l : List Env} {a : Addr} {o : Obj} {vs : Array Value} (ff : h.FunFrames B l) (e : h.get? a = some o) (d : o.data = .fields vs) : a ∉ frs l := fun hm => by
  obtain ⟨_, o', e', hnf⟩ := Heap.FunFrames.mem ff hm
  rw [e] at e'
  injection e' with e'
  subst e'
  exact hnf vs d
theorem ps_try_asT {X : Cx} {es : List Expr} {cs : List Value} {n : Str} {i kk : Nat} {body suite : List Stmt} {b₀ : Stmt} {tp pos pos' : Pos} {tb : WX → TS} {ts : Addr → Value → Option Addr → TS} (hs : X.stack = X.env :: X.outer) (hf : X.env.frame = some X.env.locals) (hN : X.N.Nodup) (hi : X.N[i]? = some n) (hln : X.env.kindOf n = some NameKind.local)
    (hc : GlobsX X es cs) (hsz : cs.length ≤ 1000)
    (hb : ∀ (W : WX) (pn : List (Addr × Obj)) (xe : Value → Shared → Prop), Takes (X.tr pn xe) W → PassesOwn (model X.prog X.w) X.A X.env xe → PSs (X.tr pn xe) body (tb W))
    (hsu : ∀ (a : Addr) (oe : Obj) (cls : Value) (d : Option Addr) (pn : List (Addr × Obj)), Zc cls d oe → (∃ vs, oe.data = Data.fields vs) → PSs (X.suite a ((a, oe) :: pn)) (b₀ :: suite) (ts a cls d)) :
    PS X (Stmt.Try body [ExceptHandler.ExceptHandler (some (Expr.Tuple es kk tp)) (some n) (b₀ :: suite) pos'] [] [] pos) fun D σ H => tb (wAsT X.K cs i ts D) D σ H := by
  refine ⟨fun pins s σ H D I h => ?_⟩
  have ok := I.ok
  have hfr : X.A.frames = some (X.env :: X.outer) := by rw [ok.frames, hs]
  refine wpAny_Try_except (wpAny_mono ((hb (wAsT X.K cs i ts D) (X.pn ++ pins) (fun e s₁ => wpAny (model X.prog X.w) X.A (noteFrame e X.env) (fun _ s₂ => wpAny (model X.prog X.w) X.A (setFlight e none) (fun _ s₃ => wpAny (model X.prog X.w) X.A (handleBy e X.env [ExceptHandler.ExceptHandler (some (Expr.Tuple es kk tp)) (some n) (b₀ :: suite) pos']) (SP X pins D) X.xe s₃) X.xe s₂) X.xe s₁) ?_ PassesOwn.looking).run [] s σ H D (I.toTry _) h) ?_ (fun e s1 he => he))
  · rintro u s' ⟨a, B, sI, pins', σ', H', cls, d, rfl, J', nb, up, sky, na, os, ag, ⟨g, hx, hany⟩, hyes⟩
    have J := J'.ofTry ok
    have sky' : Sky B (X.env :: X.outer) a (Zc cls d) X.env.locals s'.heap := by
      rw [← hs]
      exact sky
    refine Sky.land Zc.steady hfr hf sky' fun h3 fl3 up3 => ?_
    have J3 : L2.Inv X pins σ' H' { s' with heap := h3 } := J.landed nb fl3.1 (Heap.UpToSlots.trans up up3) os ag
    obtain ⟨oe3, vs3, he3, hz3, hd3⟩ := fl3.there
    have nfr := not_frame fl3.2.2.1 he3 hd3
    have nL : a ≠ X.env.locals := fun z => nfr (List.mem_filterMap.mpr ⟨X.env, List.mem_cons_self, by rw [hf, z]⟩)
    have nF : a ∉ X.fs := fun hm => by
      obtain ⟨e, he, q⟩ := List.mem_filterMap.mp hm
      exact nfr (List.mem_filterMap.mpr ⟨e, List.mem_cons_of_mem _ he, q⟩)
    have S3 := J3.suite he3 hd3 na nL nF
    refine wpAny_handleBy_cons (codeAny_handlers_test (wpAny_Tuple_spliced (spl_globs (GlobsX.suite hc) S3 ⟨?_, ?_⟩))) (fun q => by cases q)
    · exact Nat.le_trans hsz (by decide)
    · have LT : PySem.W.Looks (model X.prog X.w) h3 (typeOf (.ref a)) cls := fun A Q E s k q => wpAny_typeOf_ref (k a oe3 he3) (by rw [hz3.1]; exact q)
      refine exm_tuple (K := X.K) (h := h3) J3.kIn LT hx (fun b o e => Heap.get?_push_of_some _ e) (Heap.get?_push_size h3 rfl) rfl rfl ?_
      rw [hany]
      refine codeAny_handlers_suite_as (HandSPX.lands_againZ (fly_push fl3) fun h4 fl4 up4 => ?_)
      have J4 : L2.Inv X pins σ' H' { s' with heap := h4 } := J.landed nb fl4.1 (Heap.UpToSlots.trans (Heap.UpToSlots.trans up up3) (Heap.UpToSlots.trans up_push up4)) os ag
      obtain ⟨oe4, vs4, he4, hz4, hd4⟩ := fl4.there
      have S4 := J4.suite he4 hd4 na nL nF
      refine store_ok (X := X.suite a ((a, oe4) :: (X.pn ++ pins))) (v := V.ref a) S4 hN hi (.inl hln) rfl (fun s5 S5 => wpAny_mono ((hsu a oe4 cls d (X.pn ++ pins) hz4 ⟨vs4, hd4⟩).run [] s5 (List.set σ' i (some (V.ref a))) H' _ S5 (hyes a na)) (fun f s6 hsp => ?_) (fun _ _ z => z.elim)) (.inr hln)
      have end_ : ∀ {σ6 : L2.St} {H6 : Hp} {Q : Unit → Shared → Prop}, L2.Inv (X.suite a ((a, oe4) :: (X.pn ++ pins))) [] σ6 H6 s6 → (∀ s7, L2.Inv X pins (List.set σ6 i none) H6 s7 → Q () s7) → wpAny (model X.prog X.w) X.A (do
          bindName X.env n Value.none
          unbindBehindTheSuite X.env n pos') Q X.xe s6 := fun S6 hq => gone_ok (Inv.unsuite S6 ok) hN hi hln hq
      cases f with
      | next =>
        obtain ⟨σ6, H6, S6, q6⟩ := hsp
        exact end_ S6 fun s7 J7 => ⟨_, H6, J7, q6⟩
      | brk =>
        obtain ⟨σ6, H6, S6, q6⟩ := hsp
        exact end_ S6 fun s7 J7 => ⟨_, H6, J7, q6⟩
      | cont =>
        obtain ⟨σ6, H6, S6, q6⟩ := hsp
        exact end_ S6 fun s7 J7 => ⟨_, H6, J7, q6⟩
      | ret u =>
        obtain ⟨v6, σ6, H6, S6, r6, q6⟩ := hsp
        exact end_ S6 fun s7 J7 => ⟨v6, _, H6, J7, r6, q6⟩
  · intro f s1 hsp
    cases f with
    | next =>
      obtain ⟨σ', H', J', q⟩ := hsp
      exact wpAny_execs_nil ⟨σ', H', J'.ofTry ok, q⟩
    | brk =>
      obtain ⟨σ', H', J', q⟩ := hsp
      exact ⟨σ', H', J'.ofTry ok, q⟩
    | cont =>
      obtain ⟨σ', H', J', q⟩ := hsp
      exact ⟨σ', H', J'.ofTry ok, q⟩
    | ret u =>
      obtain ⟨v, σ', H', J', r, q⟩ := hsp
      exact ⟨v, σ', H', J'.ofTry ok, r, q⟩
end Dt
namespace Dt
open PySem PySem.Spec PyProof.Rows L2
structure FnP (P : Program) (w : World) (K : PySem.W.Frag) (mg : Str → Option Value) (base : Heap) (CX : CXT) (k : Nat) (f : Addr) (fd : FuncData) (ps : List Str) (p : Addr × Obj) (sp : Sp) : Prop where
  len : ∀ (vs : List V) (H : Hp) (Q : VK) (E : XK), sp vs H Q E → vs.length = ps.length
  run : ∀ (A : Around) (outer : List Env) (s : Shared) (H : Hp) (args : Args) (us : List Value) (vs : List V) (Q : VK) (E : XK),
    L2H.RoomH k A → L2H.PinOk outer H s p → Env0 P w K mg base A outer s H → BindsTo s fd args (ps.zip us) → Vals vs us → sp vs H Q E → codeAny (model P w) A (Code.call (Value.ref f) args) (CR CX outer P w H s Q E) s
theorem fn_ofP {CX : CXT} {P : Program} {w : World} {K : PySem.W.Frag} {mg : Str → Option Value} {base : Heap} {k : Nat} {f : Addr} {name qual : Str} {params : Arguments} {body : List Stmt} {scope : Scope} {dV kV doc pm cdv ct oc : Value} {an od : Option Addr} {osl : Array (Option Value)} {N ps : List Str} {p : Addr × Obj} {sp : Sp}
    (lk : K.lookup f = some { cls := oc, dict := od, data := Data.func (PySem.W.fnOf name qual params body scope dV kV doc pm an cdv ct), slots := osl }) (hcd : PySem.W.codeIn K cdv qual = true) (S : FnScope N ps scope) (len : ∀ (vs : List V) (H : Hp) (Q : VK) (E : XK), sp vs H Q E → vs.length = ps.length)
    (hbody : ∀ (A : Around) (outer : List Env) (s : Shared) (H : Hp) (vs : List V) (Q : VK) (E : XK), L2H.RoomH k (A.deeper (envOfC qual scope s.heap.objs.size f cdv)) → sp vs H Q E →
      ∃ t, PSs (L2H.cxH CX P w K mg base N qual scope f cdv A outer s H E p) body t ∧ t { nx := fun _ H' => Q V.non H', rt := Q } (L2.start N vs) H) :
    FnP P w K mg base CX (k + 1) f (PySem.W.fnOf name qual params body scope dV kV doc pm an cdv ct) ps p sp := by
  refine ⟨len, fun A outer s H args us vs Q E hr hpin e0 hb r hsp => ?_⟩
  have hl := len vs H Q E hsp
  have KX := PySem.W.Frag.In.keeps e0.mod.kin fun b o e => (e0.bs b o e).left
  have lim := Heap.NoLimit.keeps e0.mod.nolimit fun b o e => (e0.bs b o e).left
  have hkind : ∀ y ∈ ps.zip us, scope.names.lookup y.1 = some .local ∨ (scope.names.lookup y.1 = some .cell ∧ ((cellsFrom (s.heap.objs.size + 1) scope.names []).lookup y.1).isSome = true) := fun ⟨n, v⟩ hy => by
    rcases S.par n (List.of_mem_zip hy).1 with q | q
    · exact .inl q
    · exact .inr ⟨q, PySem.W.cellsFrom_some _ _ _ (.inl q)⟩
  refine codeAny_call_function (L2H.RoomH.depth hr) (KX f _ lk) rfl S.co S.gen rfl (PySem.W.codeRec_of KX hcd) (hb (model P w) A.in1 _ _ (wpAny_newFunctionEnv_cells S.kind hkind fun env he s1 x => ?_))
  subst he
  refine ⟨Heap.NoLimit.keeps lim x.toInCall.keep, codeAny_func ?_⟩
  obtain ⟨t, ht, hq⟩ := hbody A outer s H vs Q E (L2H.RoomH.deeper hr (envOfC qual scope s.heap.objs.size f cdv)) hsp
  have I := L2H.inv_startH (CX := CX) (E := E) S hpin e0 hl r x
  refine wpAny_mono (ht.run [] s1 (L2.start N vs) H { nx := fun _ H' => Q V.non H', rt := Q } I hq) (fun fl s' hs => ?_) (fun e s' hs => hs)
  cases fl with
  | next =>
    obtain ⟨σ', H', J, q⟩ := hs
    exact ⟨V.non, H', J.os, J.bare, J.base, J.hok, (rfl : L2.RelV V.non Value.none), q⟩
  | brk =>
    obtain ⟨_, _, _, q⟩ := hs
    exact q.elim
  | cont =>
    obtain ⟨_, _, _, q⟩ := hs
    exact q.elim
  | ret u =>
    obtain ⟨v, σ', H', J, rv, q⟩ := hs
    exact ⟨v, H', J.os, J.bare, J.base, J.hok, rv, q⟩
theorem run_fnP {X : Cx} {CX : CXT} {k : Nat} {f : Addr} {fd : FuncData} {ps : List Str} {p : Addr × Obj} {sp : Sp} {E : L2H.St → XK} {pins : List (Addr × Obj)} {σ : L2H.St} {H : Hp} {s : Shared} {Q : VK} {us : List Value} {vs : List V} (F : FnP X.prog X.w X.K X.mg X.base CX k f fd ps p sp) (hr : L2H.RoomH k X.A) (hp : p ∈ X.pn) (hb : L2.Binds X.K fd ps []) (hx : PassesAt CX X σ (E σ)) (I : L2.Inv X pins σ H s) (r : Vals vs us) (h : sp vs H Q (E σ)) :
    wpAny (model X.prog X.w) X.A (call (Value.ref f) us) (EP X pins σ Q) X.xe s := by
  have hl : us.length = ps.length := by rw [← Vals.length r]; exact F.len vs H Q (E σ) h
  have b := hb s us (Inv.kIn I) (by rw [List.append_nil]; exact hl)
  rw [List.append_nil] at b
  have P1 := I.pin p (List.mem_append_left pins hp)
  have hpin : L2H.PinOk X.stack H s p := ⟨P1.1, P1.2.1, fun hm => Or.elim (List.mem_cons.mp (Inv.stkSub I p.1 hm)) P1.2.2.1 P1.2.2.2.1, P1.2.2.2.2⟩
  refine wpAny_call (codeAny_mono (F.run X.A X.stack s H { pos := us } us vs Q (E σ) hr hpin (Inv.env0 I) b r h) fun r s' hq => ?_)
  cases r with
  | error e => exact hx pins H s e s' I hq
  | ok fl =>
    cases fl with
    | next => exact hq.elim
    | brk => exact hq.elim
    | cont => exact hq.elim
    | ret u => exact Inv.after I hq
theorem pe_callP {X : Cx} {CX : CXT} {k : Nat} {f : Addr} {fd : FuncData} {ps : List Str} {p : Addr × Obj} {sp : Sp} {E : L2H.St → XK} {x : Str} {q pos : Pos} {e : Expr} {es : List Expr} {t : TA} (F : FnP X.prog X.w X.K X.mg X.base CX k f fd ps p sp) (hr : L2H.RoomH k X.A) (hp : p ∈ X.pn) (hg : Gl X x) (hm : X.mg x = some (Value.ref f)) (hk : PySem.W.keepIn X.K (Value.ref f) = true) (hb : L2.Binds X.K fd ps []) (hx : ∀ σ : L2.St, PassesAt CX X σ (E σ)) (ha : PA X (e :: es) t)
    (hdb : (x == ("__debug__" : Str)) = false := by decide) (he : starEach (e :: es) X.env = (false, eval e X.env) :: starEach es X.env := by rfl) (hpl : ((backTo pos (starEach es X.env)).any fun x => x.fst) = false := by rfl) :
    PE X ((Expr.Name x q).Call (e :: es) [] pos) (tCallS sp E t) := by
  refine ⟨fun pins s σ H Q I h => wpAny_Call_Name_kw (ld_glob I hg hm (PySem.W.callWith_K I.ok.mod.kin hk (thn (ha.run pos pins s σ H (fun vs H1 => sp vs H1 Q (E σ)) I h) fun us s1 hh => ?_) he hpl) hdb)⟩
  obtain ⟨vs, H1, I1, r, q⟩ := hh
  exact ⟨Inv.kIn I1, run_fnP F hr hp hb (hx σ) I1 r q⟩
end Dt
namespace Dt
open PySem PySem.Spec PyProof.Rows L2
section
variable {X : Cx} {pins : List (Addr × Obj)} {σ : L2.St} {H : Hp} {s : Shared} {a C : Addr}
/-- the bound ValueError.__init__ is called: nothing of it is told -/
theorem xsup_call {u : Addr} {us : List Value} {Q : Value → Shared → Prop} {E : Value → Shared → Prop} (T : OexC X.K C) (I : Inv X pins σ H s) (e : H a = some (exo a C none)) (hu : s.heap.get? u = some (PySem.W.kxs_mw "ValueError.__init__" a)) (hl : us.length ≤ sizeLine)
    (h : ∀ s', Inv X pins σ H s' → Q .none s') : wpAny (model X.prog X.w) X.A (call (.ref u) us) Q E s := by
  obtain ⟨nm, q, N, bs, bm, sn, sub, ab, col, dd, k0, k1, k2, k3, k5, hC, hbm⟩ := T.cls
  obtain ⟨t1, ho⟩ := exo_at I.hok e
  obtain ⟨hp, g, d, t, os⟩ := s
  have hC' : hp.get? C = _ := I.kIn _ _ hC
  have fin : ∀ h' t2, (∀ b o, b ≠ a → hp.get? b = some o → h'.get? b = some o) → h'.get? a = some ({ cls := .ref C, dict := none, data := .fields #[.ref t2, .none, .none, .none, .bool false, .none] } : Obj) → Q .none ⟨h', g, d, t, os⟩ := fun h' t2 k hx => by
    have J := I.write (t' := t) (x := a) (e := a) (o := exo a C none) (by rw [e]; exact True.intro) (.inl rfl) k ⟨_, hx⟩ (exo_ok hx)
    have eu : upd H a (exo a C none) = H := by
      funext b
      by_cases hb : b = a
      · rw [hb, upd_same, e]
      · rw [upd_ne hb]
    rw [eu] at J
    exact h _ J
  refine wpAny_call (codeAny_of_tree ?_)
  show wpAny _ X.A.in1 (callAny (.ref u) ⟨us, []⟩) _ _ _
  simp only [callAny]
  refine wpAny_bind (wpAny_load hu ?_)
  simp only [PySem.W.kxs_mw, show (Value.type "method-wrapper" == Value.type "method" || Value.type "method-wrapper" == Value.type "builtin_function_or_method" || Value.type "method-wrapper" == Value.type "method-wrapper") = true by decide, if_true]
  refine PySem.W.KFB.if_so (by decide) ?_
  refine wpAny_bind (PySem.W.check_bound_init F.excBase_ValueError.toExcCallFacts hC' ho rfl ?_)
  refine wpAny_bind (wpAny_pure (wpAny_pure ?_))
  refine ⟨plainId_quiet F.excBase_ValueError.init.plain _, codeAny_builtin F.excBase_ValueError.initEntry ?_⟩
  exact PySem.W.exc_init_tree (cls := .ref C) (t0 := t1) (dv := none) (c2 := .none) (c3 := .none) (b4 := .bool false) ho hl fun h' k e' _ => fin h' _ k e'
end
/-- what the class says of super() -/
structure XSup (K : PySem.W.Frag) (C : Addr) : Prop where
  oex : OexC K C
  sub : PySem.W.mroIn K C (.ref C) = some true
  at_ : PySem.W.ks_superIn K C C "__init__" = some (some (.builtin "ValueError.__init__"))
  ve : PySem.W.subIn K (.ref C) (.type "ValueError") = some true
/-- super().__init__(e) -/
def tXSup (K : PySem.W.Frag) (C : Addr) (t : TA) : TS := fun D σ H => ∃ x, σ[0]? = some (some (.ref x)) ∧ H x = some (exo x C none) ∧ t σ H fun vs H1 => H1 x = some (exo x C none) ∧ vs.length ≤ 1000 ∧ D.nx σ H1
section
variable {X : Cx} {k : Nat} {f cda cc D0 : Addr} {self : Str} {body rest : List Stmt} {e : Expr} {es : List Expr} {t : TA} {u : TS} {p0 p1 apos pos pos2 : Pos}
theorem pat_xsup {pl : Sem Bool} (S : SupK X.prog X.K f cda cc D0 self) (XS : XSup X.K D0) (hfu : X.env.func = some f) (hco : X.env.code = .ref cda) (hcl : X.env.cells.lookup ("__class__" : Str) = some cc) (hN : X.N[0]? = some self)
    (hks : X.env.scope.names.lookup ("super" : Str) = some .globalImplicit) (hkc : X.env.scope.names.lookup ("__class__" : Str) = some .free) (hka : X.env.scope.names.lookup self = some .local) (hm : X.mg "super" = none)
    (ha : PA X (e :: es) t) (hrest : PAt X (.func body X.env) rest u)
    (hst : starEach (e :: es) X.env = (false, eval e X.env) :: starEach es X.env := by rfl) (hpl : (backTo pos (starEach es X.env)).any (·.1) = false := by rfl)
    (hi : interactive X.env = false := by rfl) (hsw : swapsWith (.Call (.Attribute (.Call (.Name "super" p0) [] [] p1) "__init__" apos) (e :: es) [] pos) none pos2.line X.env = pure false := by rfl)
    (he : eval (.Call (.Attribute (.Call (.Name "super" p0) [] [] p1) "__init__" apos) (e :: es) [] pos) X.env = (do
      let ov ← attributeBase (.Call (.Name "super" p0) [] [] p1) "__init__" X.env (eval (.Call (.Name "super" p0) [] [] p1) X.env)
      standAt apos.atName
      let (f, first) ← holding [ov] (getMethod ov "__init__" pl)
      callWith pos f first (backTo pos (starEach (e :: es) X.env)) []) := by rfl) :
    PAt X (.func body X.env) (.Expr (.Call (.Attribute (.Call (.Name "super" p0) [] [] p1) "__init__" apos) (e :: es) [] pos) pos2 :: rest) (tSeq (tXSup X.K D0 t) u) := by
  refine ⟨fun pins s σ H D I h => ?_⟩
  obtain ⟨x, hσ, hex, q⟩ := h
  have KX : X.K.In s.heap := I.kIn
  obtain ⟨oc, od, fd, osl, ar, hf, hp, har⟩ := S.fn
  obtain ⟨ccl, cdd, vs, ccs, file, tf, hcode, hvs, hfile⟩ := S.code
  obtain ⟨cl, cld, csl, hcell⟩ := S.cell
  obtain ⟨cdD, hD⟩ := S.cls
  obtain ⟨oD, hD1, hD2⟩ : ∃ oD, s.heap.get? D0 = some oD ∧ oD.data = .cls cdD := by
    unfold PySem.W.clsIn at hD
    split at hD
    · rename_i c d cd' sl ho
      cases hD
      exact ⟨_, KX _ _ ho, rfl⟩
    · cases hD
  have hal : PySem.W.alongIn X.K "__init__" ((cdD.mro.dropWhile (· != .ref D0)).drop 1) = some (some (.builtin "ValueError.__init__")) := by
    have := XS.at_
    unfold PySem.W.ks_superIn at this
    rw [hD] at this
    exact this
  obtain ⟨m, hns, hloc⟩ := I.loc
  obtain ⟨u0, ru, lk⟩ := hloc 0 self (.ref x) hN hσ (.inl hka)
  obtain rfl : u0 = Value.ref x := ru
  have hself : m self = some (.ref x) := by
    rcases lk with ⟨_, h1⟩ | ⟨h1 | h1, _⟩
    · exact h1
    · rw [show X.env.kindOf self = X.env.scope.names.lookup self from rfl, hka] at h1; cases h1
    · rw [show X.env.kindOf self = X.env.scope.names.lookup self from rfl, hka] at h1; cases h1
  obtain ⟨t1, hxg⟩ := exo_at I.hok hex
  refine PySem.ks_wpAt_execs_cons (PySem.ks_wpAt_Expr_any (PySem.ks_wpAt_MethodCall ?_ he) hi hsw)
  refine PySem.ks_wpAt_super_base (ar := ar) hks hkc (by decide) hfu (KX _ _ hf) rfl hp hco (KX _ _ hcode) rfl hvs hfile S.top ?_
  obtain ⟨mb, b1, b2⟩ := I.mod.blt
  refine PySem.W.ks_loadName_global I.ok.kind hks (Calls.loadGlobal_builtin (by rw [I.ok.glob]; exact I.mod.glob.keeps I.bk) hm (by rw [I.ok.blt]; exact b1.keeps I.bk) ((b2 "super" (by decide)).trans (by decide +kernel : bootBuiltins "super" = some (.type "super"))) ⟨rfl, ?_⟩)
  refine wpAny_loadName_free I.ok.kind hkc hcl ⟨_, KX _ _ hcell, rfl⟩ ?_
  rw [har]
  refine wpAny_loadName_local I.ok.kind hka hns hself ?_
  refine PySem.ks_wpAny_isType_cls hD1 hD2 ⟨rfl, ?_⟩
  refine PySem.ks_wpAny_call_super hD1 hD2 hxg rfl (fun c z => by cases z) (PySem.W.looks_mroIn KX XS.sub) (fun h' eo kp => ?_)
  have I1 : Inv X pins σ H { s with heap := h' } := I.kept (t' := s.toks) kp
  have KX1 : X.K.In h' := I1.kIn
  have J1 : PySem.W.InstAt h' x ({ cls := .ref D0, dict := none, data := .fields #[.ref t1, .none, .none, .none, .bool false, .none] } : Obj) D0 none := ⟨kp _ _ hxg, rfl, rfl, trivial⟩
  have hI : PySem.W.Looks (model X.prog X.w) h' (isInstance (.ref x) (.type "ValueError")) true := J1.type.andThen (PySem.W.looks_subIn KX1 XS.ve)
  refine PySem.W.kxs_getMethod (h := h') PySem.W.kxs_ValueError eo (PySem.W.looks_opaque KX1 S.any) (l₀ := cdD.mro) ?_ rfl KX1 hal hI (fun z => ?_) (by decide) ?_
  · exact fun A Q E s k q => wpAny_bind ((PySem.W.looks_clsIn KX1 hD) A _ E s k (wpAny_pure q))
  · subst z
    rw [hxg] at hD1
    cases hD1
    cases hD2
  · have I2 := ClX.pin_new (t' := s.toks + 1) (o := PySem.W.kxs_mw "ValueError.__init__" x) I1 (h' := h'.push (PySem.W.kxs_mw "ValueError.__init__" x)) (fun _ _ z => Heap.get?_push_of_some _ z) (Nat.le_refl _) (Heap.get?_push_size h' rfl) (fun v z => nomatch z)
    rw [hst]
    refine PySem.W.kxs_callWith (i := "ValueError.__init__") (x := x) (by show (false || (backTo pos (starEach es X.env)).any (·.1)) = false; rw [hpl]; rfl) ?_
    have hh := ha.run pos _ _ σ H _ I2 q
    rw [hst] at hh
    refine PySem.Calls.evalArgs_plain (thn hh fun us s3 ⟨vs3, H2, I3, rv, ea, hlen, q2⟩ => ⟨ClX.pin_at I3, ?_⟩)
    have hl3 : us.length ≤ sizeLine := by
      rw [← Paired.length rv, sizeLine_eq]
      omega
    refine xsup_call XS.oex (ClX.unpin I3) ea (ClX.pin_at I3) hl3 fun s4 I4 => ?_
    exact hrest.run pins s4 σ H2 D I4 q2
end
end Dt
namespace Dt
open PySem PySem.Spec PyProof.Rows L2
open NdefX (NF NScope CellsAt startF envF ncx inv_startN)
def spXI (C : Addr) (fl : Str) : Sp := fun vs H Q _ => ∃ a v, vs = [.ref a, v] ∧ H a = some (exo a C none) ∧ ∀ dx, H dx = none → dx ≠ a → Q .non (upd (upd H dx (exd dx [(fl, v)])) a (exo a C (some dx)))
section
variable [GTab] {P : Program} {w : World} {K : PySem.W.Frag} {mg : Str → Option Value} {base : Heap}
theorem fn_xi {qual fl : Str} {st : Stmt} {kws : List (Str × V)} {f cda cc C : Addr} {fd : FuncData} {N : List Str} {k : Nat} (F : FunC P K "__init__" qual st kws f fd cda cc C "self") (S : NScope N ["self", fl] ["__class__"] (defScope st)) (XS : XSup K C) (hno : PySem.W.findIn K (.ref C) fl = some none)
    (body : ∀ (A : Around) (outer : List Env) (s : Shared) (H : Hp) (E : XK),
      PAt (ncx CX0 P w K mg base N (nfC "__init__" qual (defArgs st) (defBody st) (defScope st) cc cda) f A outer s H E) (.func (defBody st) (ncx CX0 P w K mg base N (nfC "__init__" qual (defArgs st) (defBody st) (defScope st) cc cda) f A outer s H E).env) (defBody st) (tSeq (tXSup K C (tCons (tVar 1) tNil)) (tOst K fl (tVar 0) (tVar 1)))) :
    FnOk P w K mg base CX0 (k + 1) f fd ["self", fl] (spXI C fl) := by
  obtain ⟨oc, od, kV, doc, pm, an, ct, osl, rfl, lk, hcd, _⟩ := F.ex
  obtain ⟨cl, cld, csl, hcell⟩ := F.sup.cell
  have hN : 3 ≤ N.length := by
    have q := congrArg List.length S.pre
    simp only [List.length_take, List.length_append, List.length_cons, List.length_nil] at q
    omega
  refine fn_ofC lk hcd S ⟨cl, cld, csl, _, hcell⟩ (fun vs H Q E ⟨a, v, e, _⟩ => by rw [e]; rfl) fun A outer s H vs Q E hr h => ?_
  obtain ⟨a, v, rfl, ha, q⟩ := h
  refine ⟨_, body A outer s H E, ?_⟩
  refine ⟨a, rfl, ha, ⟨v, rfl, ⟨ha, (by show 1 ≤ 1000; omega), ?_⟩⟩⟩
  refine ⟨v, rfl, .ref a, rfl, a, C, rfl, XS.oex, hno, .inl ⟨ha, fun dx n ne => q dx n ne⟩⟩
/-- what is known of an exception's class with one field -/
structure XcV (P : Program) (K : PySem.W.Frag) (mg : Str → Option Value) (c fl : Str) (C fI : Addr) (fd : FuncData) : Prop where
  ns : PySem.W.nsIn K mainGlobals c = some (some (.ref C))
  gC : mg c = some (.ref C)
  b : L2.Binds K fd ["self", fl] []
  xs : XSup K C
  iC : PySem.W.findIn K (.ref C) "__init__" = some (some (.ref fI))
  tI : PySem.W.typeIn K (.ref fI) = some (.type "function")
  hno : PySem.W.findIn K (.ref C) fl = some none
end
section
variable {X : Cx} {c fl : Str} {C fI : Addr} {fd : FuncData} {k : Nat} {e : Expr} {te : TE} {p pos : Pos}
theorem pmk_x (T : XcV X.prog X.K X.mg c fl C fI fd) (FI : FnOk X.prog X.w X.K X.mg X.base CX0 k fI fd ["self", fl] (spXI C fl)) (hr : Room (k + 1) X.A) (hg : Gl X c) (he : PE X e te)
    (hdb : (c == ("__debug__" : Str)) = false := by decide) (hs : starEach [e] X.env = (false, eval e X.env) :: starEach [] X.env := by rfl) :
    PMk X (.Call (.Name c p) [e] [] pos) (tMkO C (spXI C fl) [] (tCons te tNil)) :=
  pmk_oex T.xs.oex T.iC T.tI FI hr T.b .nil (fun _ _ _ _ _ _ _ z => z.elim) hg T.gC (pa_cons he pa_nil hs) hdb hs rfl
/-- what pmk_x wants, of a value -/
theorem mkx_end {C : Addr} {fl : Str} {v : V} {H1 : Hp} {Q : XK} (q : ∀ d, H1 d = none → Q (.ref C) (some d) (upd H1 d (.xd [(fl, v)]))) :
    [v].length ≤ 1000 ∧ ∀ a, H1 a = none → spXI C fl (.ref a :: ([v] ++ [])) (upd H1 a (exo a C none)) (fun v H2 => v = .non ∧ ∃ (d : Addr) (fs : List (Str × V)), H2 a = some (exo a C (some d)) ∧ H2 d = some (exd d fs) ∧ H1 d = none ∧ Q (.ref C) (some d) (upd (del H2 a) d (.xd fs))) (fun _ _ _ => False) := by
  refine ⟨(by show 1 ≤ 1000; omega), fun a ha => ⟨a, v, rfl, upd_same, fun dx n ne => ⟨rfl, dx, [(fl, v)], upd_same, by rw [upd_ne ne, upd_same], ?_, ?_⟩⟩⟩
  · rw [upd_ne ne] at n
    exact n
  · have hd : H1 dx = none := by
      rw [upd_ne ne] at n
      exact n
    have e : upd (del (upd (upd (upd H1 a (exo a C none)) dx (exd dx [(fl, v)])) a (exo a C (some dx))) a) dx (.xd [(fl, v)]) = upd H1 dx (.xd [(fl, v)]) := by
      funext b
      by_cases hb : b = dx
      · rw [hb, upd_same, upd_same]
      · rw [upd_ne hb, upd_ne hb]
        by_cases hba : b = a
        · rw [hba, del_same, ha]
        · rw [del_ne hba, upd_ne hba, upd_ne hb, upd_ne hba]
    rw [e]
    exact q dx hd
end
end Dt
namespace Dt
variable [GTab]
open PySem PySem.Spec PyProof.Rows L2
/-- an exception, among the outcomes: its class, its field, the field's value -/
def exn (c f : Str) (d : D) : D := .ins c [] [.str f, d]
def isExn : D → Bool
  | .ins _ [] (_ :: _) => true
  | _ => false
theorem exn_is (c f : Str) (d : D) : isExn (exn c f d) = true := rfl
theorem not_exn {K : PySem.W.Frag} {pa : PAx} {H : Hp} {v : V} {d : D} (h : Rp K pa H v d) : isExn d = false := by
  cases h with
  | ins h0 h1 h2 h3 =>
    rename_i ns xs ds
    cases ns with
    | cons a l => rfl
    | nil =>
      cases ds with
      | nil => rfl
      | cons b l2 =>
        have hl := h3.length
        rw [h2] at hl
        cases hl
  | _ => rfl
/-- how it lies behind what let it out -/
def XAt (K : PySem.W.Frag) (pa : PAx) (S : Addr → Prop) (H0 H : Hp) (d : D) (cls : Value) (dd : Option Addr) : Prop :=
  ∃ c f x C a v, d = exn c f x ∧ PySem.W.nsIn K mainGlobals c = some (some (.ref C)) ∧ cls = .ref C ∧ dd = some a ∧ H0 a = none ∧ H a = some (.xd [(f, v)]) ∧ Rp K pa (hid S H) v x
def XtS (K : PySem.W.Frag) (pa : PAx) (S : Addr → Prop) (H0 : Hp) (d : D) (p : List Int) (W : XK) : Prop := ∀ cls dd H', Ext pa H0 H' → Sta pa S H' p → XAt K pa S H0 H' d cls dd → W cls dd H'
def PostX (K : PySem.W.Frag) (pa : PAx) (S : Addr → Prop) (H : Hp) (p : List Int) (d : D) (Q : VK) (W : XK) : Prop := if isExn d = true then XtS K pa S H d p W else PostE K pa S H p d Q
def PostR (K : PySem.W.Frag) (E : En) (W : XK) (S : Addr → Prop) (H : Hp) (o : Out) (D : Ends) : Prop := match o with
  | .nx r p => NxS K false E S H r p D.nx
  | .rt d p => PostX K E.pa E.S E.H p d D.rt W
  | .bk r p => NxS K false E S H r p D.bk
  | .ct r p => NxS K false E S H r p D.ct
def tRz (K : PySem.W.Frag) (E : En) (W : XK) (m : MS) : TS := fun D σ H => ∃ pa S0 S A r p o, EnvS K false E pa S0 S A σ H r p ∧ m r p = some o ∧ PostR K E W S H o D
structure JR (X : Cx) (W : XK) (st : Stmt) (m : MS) : Prop where ps : ∀ E, PS X st (tRz X.K E W m)
structure JRs (X : Cx) (W : XK) (st : List Stmt) (m : MS) : Prop where ps : ∀ E, PSs X st (tRz X.K E W m)
/-- an expression that may let an exception out -/
def tX (K : PySem.W.Frag) (W : XK) (m : M) : TE := fun σ H Q => ∃ pa S r p d p', Cn K pa S σ H r p ∧ m r p = some (d, p') ∧ PostX K pa S H p' d Q W
structure JX (X : Cx) (W : XK) (e : Expr) (m : M) : Prop where pe : PE X e (tX X.K W m)
theorem postX_of {K : PySem.W.Frag} {pa : PAx} {S : Addr → Prop} {H : Hp} {p : List Int} {d : D} {Q : VK} {W : XK} (h : PostX K pa S H p d Q W) : PostE K pa S H p d Q := by
  unfold PostX at h
  split at h
  · rename_i hx
    intro v H' x s r
    rw [not_exn r] at hx
    cases hx
  · exact h
section
variable {K : PySem.W.Frag} {E : En} {W : XK} {pa : PAx} {S0 S S' : Addr → Prop} {A : Nat → Addr} {σ : L2.St} {H H' : Hp} {r : Sv} {p p' : List Int} {o : Out} {Dn : Ends} {X : Cx} {st : Stmt} {rest sts : List Stmt} {m ma mb : MS} {pos : Pos} {e : Expr} {me : M}
theorem PostR.after (f : Frm S H S' H') (h : PostR K E W S H o Dn) : PostR K E W S' H' o Dn := by
  cases o with
  | nx r p => exact NxS.after f h
  | rt d p => exact h
  | bk r p => exact NxS.after f h
  | ct r p => exact NxS.after f h
theorem red_of {D : Ends} (h : tRz K E W m D σ H) : tS K false E m D σ H := by
  obtain ⟨pa, S0, S, A, r, p, o, e, m1, q⟩ := h
  refine ⟨pa, S0, S, A, r, p, o, e, m1, ?_⟩
  cases o with
  | nx r p => exact q
  | rt d p => exact postX_of q
  | bk r p => exact q
  | ct r p => exact q
/-- what lets no exception out -/
theorem jr_of (h : JS false X st m) : JR X W st m := ⟨fun E => (h.ps E).weak fun D σ H => red_of⟩
theorem jrs_of (h : JSs false X sts m) : JRs X W sts m := ⟨fun E => (h.ps E).weak fun D σ H => red_of⟩
theorem redR_seq {a b : MS} {D : Ends} (h : tRz K E W (sSeq a b) D σ H) : tSeq (tRz K E W a) (tRz K E W b) D σ H := by
  obtain ⟨pa, S0, S, A, r, p, o, e, m, q⟩ := h
  unfold sSeq at m
  split at m
  · rename_i r1 p1 m1
    exact ⟨pa, S0, S, A, r, p, _, e, m1, fun pa' S0' S' A' σ' H' e' f => ⟨pa', S0', S', A', r1, p1, o, e', m, q.after f⟩⟩
  · rename_i hne
    refine ⟨pa, S0, S, A, r, p, o, e, m, ?_⟩
    cases o with
    | nx r1 p1 => exact absurd m (hne r1 p1)
    | rt d p1 => exact q
    | bk r1 p1 => exact q
    | ct r1 p1 => exact q
theorem jrs_cons (h1 : JR X W st ma) (h2 : JRs X W rest mb) : JRs X W (st :: rest) (sSeq ma mb) := ⟨fun E => (pss_cons (h1.ps E) (h2.ps E)).weak fun D σ H => redR_seq⟩
theorem jrs_one (h1 : JR X W st ma) : JRs X W [st] ma := ⟨fun E => pss_one (h1.ps E)⟩
theorem redR_if {t : MB} {a b : MS} {D : Ends} (h : tRz K E W (sIf t a b) D σ H) : tIfS (tMB K t) (tRz K E W a) (tRz K E W b) D σ H := by
  obtain ⟨pa, S0, S, A, r, p, o, e, m, q⟩ := h
  unfold sIf at m
  split at m
  · rename_i p1 m1
    exact ⟨pa, S0, viR r, p, true, p1, e.vis, m1, fun H1 x1 s1 => ⟨pa, S0, S, A, r, p1, o, e.go x1 s1, m, q.after (e.frm x1)⟩⟩
  · rename_i p1 m1
    exact ⟨pa, S0, viR r, p, false, p1, e.vis, m1, fun H1 x1 s1 => ⟨pa, S0, S, A, r, p1, o, e.go x1 s1, m, q.after (e.frm x1)⟩⟩
  · cases m
theorem jr_if {c : Expr} {a b : List Stmt} {mt : MB} (hc : JT X c mt) (ha : JRs X W a ma) (hb : JRs X W b mb) : JR X W (.If c a b pos) (sIf mt ma mb) := ⟨fun E => (ps_if hc.pt (ha.ps E) (hb.ps E)).weak fun D σ H => redR_if⟩
end
end Dt
namespace Dt
variable [GTab]
open PySem PySem.Spec PyProof.Rows L2
theorem PostX.after {K : PySem.W.Frag} {pa : PAx} {S : Addr → Prop} {σ : L2.St} {H H' : Hp} {r : Ev} {p p' : List Int} {d : D} {Q : VK} {W : XK} (c : Cn K pa S σ H r p) (q : PostX K pa S H p' d Q W) (e : Ext pa H H') {p1 : List Int} (s1 : Sta pa S H' p1) : PostX K pa S H' p' d Q W := by
  unfold PostX at *
  split
  · rename_i hx
    rw [if_pos hx] at q
    refine fun cls dd H2 x s a => q cls dd H2 (e.trans x) s ?_
    obtain ⟨c', f, y, C, b, v, h1, h2, h3, h4, h5, h6, h7⟩ := a
    exact ⟨c', f, y, C, b, v, h1, h2, h3, h4, e.free (s1.notpool h5) h5, h6, h7⟩
  · rename_i hx
    rw [if_neg hx] at q
    exact PostE.after c q e
def spR (K : PySem.W.Frag) (n : Nat) (m : MF) : Sp := fun vs H Q W => ∃ pa S p ds d p', Sta pa S H p ∧ RpL K pa (hid S H) vs ds ∧ ds.length = n ∧ m ds p = some (d, p') ∧ PostX K pa S H p' d Q W
def sRaise (c fl : Str) (me : M) : MS := fun r p => match me (viR r) p with | some (d, p) => some (.rt (exn c fl d) p) | none => none
def sDropX (me : M) : MS := fun r p => match me (viR r) p with | some (d, p) => if isExn d = true then some (.rt d p) else some (.nx r p) | none => none
section
variable {K : PySem.W.Frag} {E : En} {W : XK} {pa : PAx} {S0 S S' : Addr → Prop} {A : Nat → Addr} {σ : L2.St} {H H' : Hp} {r : Sv} {p p' : List Int}
/-- out of the def -/
theorem EnvS.xout {d : D} {cls : Value} {dd : Option Addr} {T : Addr → Prop} (e : EnvS K false E pa S0 S A σ H r p) (x : Ext pa H H') (s : Sta pa S0 H' p') (hT : ∀ b, E.S b → T b) (a : XAt K pa T H H' d cls dd) : Ext E.pa E.H H' ∧ Sta E.pa E.S H' p' ∧ XAt K E.pa E.S E.H H' d cls dd := by
  have e1 := e.go x s
  have so := e.outF rfl s
  obtain ⟨hp, _⟩ := e.pap rfl
  subst hp
  refine ⟨e1.ext, so, ?_⟩
  obtain ⟨c, f, y, C, b, v, h1, h2, h3, h4, h50, h5, h6⟩ := a
  refine ⟨c, f, y, C, b, v, h1, h2, h3, h4, e.newE h50, h5, Rp.mono (fun z o hz => ?_) _ _ h6⟩
  obtain ⟨n, hz⟩ := of_hid hz
  exact hid_of (fun q => n (hT z q)) hz
theorem EnvS.xts {d : D} {D : Ends} {Q : VK} (e : EnvS K false E pa S0 S A σ H r p) (hx : isExn d = true) (q : PostX K E.pa E.S E.H p' d D.rt W) : PostX K pa S0 H p' d Q W := by
  unfold PostX at *
  rw [if_pos hx] at q ⊢
  intro cls dd H2 x s a
  obtain ⟨h1, h2, h3⟩ := e.xout x s e.sub a
  exact q cls dd H2 h1 h2 h3
theorem redR_dropX {me : M} {D : Ends} (h : tRz K E W (sDropX me) D σ H) : tDrop (tX K W me) D σ H := by
  obtain ⟨pa, S0, S, A, r, p, o, e, m, q⟩ := h
  unfold sDropX at m
  split at m
  · rename_i d p1 m1
    refine ⟨pa, S0, viR r, p, d, p1, e.vis, m1, ?_⟩
    split at m
    · rename_i hx
      cases m
      exact e.xts (D := D) hx q
    · rename_i hx
      cases m
      unfold PostX
      rw [if_neg hx]
      exact fun v H1 x1 s1 r1 => q pa S0 S A σ H1 (e.go x1 s1) (e.frm x1)
  · cases m
end
section
variable {X : Cx} {W : XK} {c fl x : Str} {C fI f : Addr} {fd : FuncData} {k n i : Nat} {e : Expr} {es : List Expr} {me : M} {ms : ML} {m : MF} {ps : List Str} {p pos pos' pos2 : Pos}
theorem jr_raise (T : XcV X.prog X.K X.mg c fl C fI fd) (FI : FnOk X.prog X.w X.K X.mg X.base CX0 k fI fd ["self", fl] (spXI C fl)) (hr : Room (k + 1) X.A) (tk : Takes X fun c d _ H => W c d H) (he : JE X e me) (hc : X.calm = true := by rfl) (hg : Gl X c := by rfl)
    (hdb : (c == ("__debug__" : Str)) = false := by decide) (hs : starEach [e] X.env = (false, eval e X.env) :: starEach [] X.env := by rfl) : JR X W (.Raise (some (.Call (.Name c p) [e] [] pos)) none pos2) (sRaise c fl me) := by
  refine ⟨fun E => (ps_raise hc tk (pmk_x T FI hr hg he.pe hdb hs)).weak fun D σ H h => ?_⟩
  obtain ⟨pa, S0, S, A, r, p, o, e, m, q⟩ := h
  unfold sRaise at m
  split at m
  · rename_i d p1 m1
    cases m
    refine ⟨pa, S0, viR r, p, d, p1, e.vis, m1, fun v H1 x1 s1 r1 => mkx_end fun dd hdd => ?_⟩
    have q' : XtS X.K E.pa E.S E.H (exn c fl d) p1 W := by
      have z : PostX X.K E.pa E.S E.H p1 (exn c fl d) D.rt W := q
      unfold PostX at z
      rw [if_pos (exn_is c fl d)] at z
      exact z
    have sm : Same H1 (upd H1 dd (.xd [(fl, v)])) := same_upd hdd
    have s2 : Sta pa S0 (upd H1 dd (.xd [(fl, v)])) p1 := s1.same sm
    have xa : XAt X.K pa S0 H (upd H1 dd (.xd [(fl, v)])) (exn c fl d) (.ref C) (some dd) := ⟨c, fl, d, C, dd, v, rfl, T.ns, rfl, rfl, x1.free (s1.notpool hdd) hdd, upd_same, Rp.mono (Same.hid sm) _ _ r1⟩
    obtain ⟨h1, h2, h3⟩ := e.xout (x1.trans (Ext.of sm)) s2 e.sub xa
    exact q' _ _ _ h1 h2 h3
  · cases m
theorem jr_dropX (h : JX X W e me) (hs : swapsWith e none pos.line X.env = pure false := by rfl) : JR X W (.Expr e pos) (sDropX me) := ⟨fun E => (ps_expr h.pe hs).weak fun D σ H => redR_dropX⟩
theorem redX_call {K : PySem.W.Frag} {a : ML} {σ : L2.St} {H : Hp} {Q : VK} (h : tX K W (mCall n m a) σ H Q) : tCall (spR K n m) [] W (tML K a) σ H Q := by
  obtain ⟨pa, S, r, p, d, p', c, e, q⟩ := h
  obtain ⟨ds, p1, e1, e⟩ := bnd_some e
  split at e
  · rename_i hn
    refine ⟨pa, S, r, p, ds, p1, c, e1, fun vs H1 x1 s1 r1 => ?_⟩
    refine ⟨pa, S, p1, ds, d, p', s1, ?_, hn, e, q.after c x1 s1⟩
    rw [List.append_nil]
    exact r1
  · cases e
theorem jx_call (F : FnOk X.prog X.w X.K X.mg X.base (L2.CX X.prog X.w) k f fd ps (spR X.K n m)) (hr : Room k X.A) (tk : Takes X fun c d _ H => W c d H) (hm : X.mg x = some (.ref f)) (hk : PySem.W.keepIn X.K (.ref f) = true) (hb : L2.Binds X.K fd ps []) (ha : JA X (e :: es) ms) (hg : Gl X x := by rfl) (hdb : (x == ("__debug__" : Str)) = false := by decide)
    (he : starEach (e :: es) X.env = (false, eval e X.env) :: starEach es X.env := by rfl) (hpl : (backTo pos (starEach es X.env)).any (·.1) = false := by rfl) : JX X W (.Call (.Name x p) (e :: es) [] pos) (mCall n m ms) :=
  ⟨(pe_call F hr hg hm hk hb .nil (passes_call tk fun _ _ _ _ h => h) ha.pa hdb he hpl).weak fun σ H Q => redX_call⟩
end
section
variable {P : Program} {w : World} {K : PySem.W.Frag} {mg : Str → Option Value} {base : Heap}
theorem tk_cx {N : List Str} {qual : Str} {scope : Scope} {f : Addr} {cd : Value} {A : Around} {outer : List Env} {s : Shared} {H : Hp} {E : XK} : Takes (cxOf (L2.CX P w) P w K mg base N qual scope f cd A outer s H E) fun c d _ H => E c d H := takes_of rfl rfl rfl rfl
theorem fn_okR {x qual : Str} {st : Stmt} {f : Addr} {fd : FuncData} {N ps : List Str} {k : Nat} {m : MS} (F : Fun K x qual st f fd) (S : FnScope N ps (defScope st)) (hN : ps.length ≤ N.length)
    (body : ∀ (cdv : Value) (A : Around) (outer : List Env) (s : Shared) (H : Hp) (E : XK), Room k (A.deeper (envOfC qual (defScope st) s.heap.objs.size f cdv)) → JRs (cxOf (L2.CX P w) P w K mg base N qual (defScope st) f cdv A outer s H E) E (defBody st) m) :
    FnOk P w K mg base (L2.CX P w) (k + 1) f fd ps (spR K ps.length (runF N.length ps.length m)) := by
  refine F.okX S (fun vs H Q E h => ?_) (fun cdv A outer s H vs Q E hr h => ?_)
  · obtain ⟨pa, S, p, ds, d, p', s, r, hl, e, q⟩ := h
    rw [r.length, hl]
  · obtain ⟨pa, S0, p, ds, d, p', sta, r, hl, e, q⟩ := h
    refine ⟨_, (body cdv A outer s H E hr).ps ⟨pa, S0, H⟩, ?_⟩
    unfold runF at e
    have e0 := env_start (fx := false) (N := N) (fun z => by cases z) hl hN sta r
    split at e
    · rename_i d1 p1 m1
      obtain ⟨rfl, rfl⟩ := pr e
      exact ⟨pa, S0, S0, _, _, p, _, e0, m1, q⟩
    · rename_i r1 p1 m1
      obtain ⟨rfl, rfl⟩ := pr e
      exact ⟨pa, S0, S0, _, _, p, _, e0, m1, fun pa2 S02 S2 A2 σ2 H2 e2 f2 => by
        have so := e2.outF rfl e2.sta
        obtain ⟨h1, h2⟩ := e2.pap rfl
        subst h1
        exact postX_of q .non H2 e2.ext so .non⟩
    · cases e
end
end Dt
namespace Dt
variable [GTab]
open PySem PySem.Spec PyProof.Rows L2
/-- the exception at hand: its place, its dict's place and object, the field, its value -/
structure Xf where
  a : Addr
  dd : Addr
  od : Obj
  fl : Str
  v : V
  x : D
/-- the object -/
structure XoOk (i : Xf) (C : Addr) (oe : Obj) : Prop where
  cls : oe.cls = .ref C
  dict : oe.dict = some i.dd
  data : ∃ vs, oe.data = .fields vs
/-- what its class says -/
structure XIs (K : PySem.W.Frag) (C : Addr) : Prop where
  hcl : (PySem.W.clsIn K C).isSome = true
  hga : PySem.W.findIn K (.ref C) "__getattribute__" = some (some (.builtin "BaseException.__getattribute__"))
  hgt : PySem.W.findIn K (.ref C) "__getattr__" = some none
  hsub : PySem.W.subIn K (.ref C) (.type "BaseException") = some true
  hdct : PySem.W.hasDictIn K C = true
  ha : PySem.W.findIn K (.ref C) "__class__" = some (some (.builtin "object.__class__"))
  hn : PySem.W.specialIn K (.builtin "object.__class__") "__get__" = some (some (.builtin "getset_descriptor.__get__"))
  htk : PySem.W.takesIn K (.builtin "object.__class__") = some true
  hm : PySem.W.mroIn K C (.type "object") = some true
section
variable {X : Cx} {C : Addr} {oe : Obj} {i : Xf}
theorem xo_inst {pins : List (Addr × Obj)} {σ : L2.St} {H : Hp} {s : Shared} (O : XoOk i C oe) (hp : (i.a, oe) ∈ X.pn) (hH : H i.dd = some (.frz i.od (.xd [(i.fl, i.v)]))) (I : Inv X pins σ H s) : PySem.W.InstAt s.heap i.a oe C (some i.od) := by
  obtain ⟨hget, _⟩ := I.pin (i.a, oe) (List.mem_append.mpr (.inl hp))
  obtain ⟨e, _⟩ : ObjOk X.prog X.w H s.heap i.dd (.frz i.od (.xd [(i.fl, i.v)])) := I.hok _ _ hH
  obtain ⟨vs, hv⟩ := O.data
  have h1 := O.cls
  have h2 := O.dict
  obtain ⟨oc, od, oda, osl⟩ := oe
  dsimp only at h1 h2 hv
  subst h1 h2 hv
  exact ⟨hget, rfl, rfl, e⟩
theorem xo_at {pins : List (Addr × Obj)} {σ : L2.St} {H : Hp} {s : Shared} (hH0 : X.H_0 i.dd = some (.frz i.od (.xd [(i.fl, i.v)]))) (I : Inv X pins σ H s) : H i.dd = some (.frz i.od (.xd [(i.fl, i.v)])) := I.base.frzs _ _ _ hH0
theorem call_isX (T : XIs X.K C) (O : XoOk i C oe) (hp : (i.a, oe) ∈ X.pn) (hH0 : X.H_0 i.dd = some (.frz i.od (.xd [(i.fl, i.v)]))) : CallR X (.builtin "isinstance") (rIsE X.K C i.a) := by
  intro pins s σ H xs us Q I r h
  obtain ⟨c, cv, b, rfl, hcv, e, q⟩ := h
  cases r with
  | cons rx rr =>
    cases rr with
    | cons rt rr =>
      cases rr
      cases rx
      have ec := hcv _ rt
      subst ec
      have J := xo_inst O hp (xo_at hH0 I) I
      exact PySem.W.kia_one (PySem.W.kitx_exc T.hcl T.hga T.hgt T.hsub T.ha T.hn T.htk T.hm) I.kIn J e (fun z => nomatch z) fun tk => ⟨.bl b, H, I.kept (t' := tk) fun _ _ z => z, rfl, q⟩
def mIsE (a : Addr) (b : Bool) (me : M) : M := fun r p => bnd (me r p) fun x p => match x with
  | .adr a' => if a' = a then some (.bl b, p) else none
  | _ => none
variable {e : Expr} {me : M} {Tn : Str} {p p2 pos : Pos} {b : Bool}
theorem je_isX {T : Addr} (T' : XIs X.K C) (O : XoOk i C oe) (hp : (i.a, oe) ∈ X.pn) (hH0 : X.H_0 i.dd = some (.frz i.od (.xd [(i.fl, i.v)]))) (hT : X.mg Tn = some (.ref T)) (hk : PySem.W.kitOne X.K (.ref C) (.ref T) = some b) (he : JE X e me) (hm : X.mg "isinstance" = none) (hi : bootBuiltins "isinstance" = some (.builtin "isinstance") := by decide +kernel) (hg : Gl X "isinstance" := by rfl) (hgT : Gl X Tn := by rfl) (hdb : (Tn == ("__debug__" : Str)) = false := by decide)
    (hs : starEach [e, .Name Tn p2] X.env = (false, eval e X.env) :: starEach [.Name Tn p2] X.env := by rfl) (hpl : (backTo pos (starEach [.Name Tn p2] X.env)).any (·.1) = false := by rfl) :
    JE X (.Call (.Name "isinstance" p) [e, .Name Tn p2] [] pos) (mIsE i.a b me) :=
  ⟨(pe_callB (x := "isinstance") (call_isX T' O hp hH0) hg hm hi (pa_cons he.pe (pa_cons (pe_glob (v := .ref T) hgT hT rfl hdb) pa_nil) hs) (by decide) (by decide) hs hpl).weak fun σ H Q ⟨pa, S, r, p, d, p', cc, em, q⟩ => by
    obtain ⟨x, p1, e1, em2⟩ := bnd_some em
    clear em
    refine ⟨pa, S, r, p, x, p1, cc, e1, fun v1 H1 x1 s1 r1 => ?_⟩
    split at em2
    · split at em2
      · rename_i ha
        subst ha
        obtain ⟨rfl, rfl⟩ := pr em2
        cases r1
        exact ⟨.ref T, .ref T, b, rfl, fun u hu => hu, hk, q _ H1 x1 s1 (.bl b)⟩
      · cases em2
    · cases em2⟩
theorem je_isXb {T : String} (T' : XIs X.K C) (O : XoOk i C oe) (hp : (i.a, oe) ∈ X.pn) (hH0 : X.H_0 i.dd = some (.frz i.od (.xd [(i.fl, i.v)]))) (hT : X.mg Tn = none) (hb : bootBuiltins Tn = some (.type T)) (hk : PySem.W.kitOne X.K (.ref C) (.type T) = some b) (he : JE X e me) (hm : X.mg "isinstance" = none) (hi : bootBuiltins "isinstance" = some (.builtin "isinstance") := by decide +kernel) (hg : Gl X "isinstance" := by rfl) (hgT : Gl X Tn := by rfl)
    (hn : Tn ≠ "__name__" := by decide) (hdb : (Tn == ("__debug__" : Str)) = false := by decide)
    (hs : starEach [e, .Name Tn p2] X.env = (false, eval e X.env) :: starEach [.Name Tn p2] X.env := by rfl) (hpl : (backTo pos (starEach [.Name Tn p2] X.env)).any (·.1) = false := by rfl) :
    JE X (.Call (.Name "isinstance" p) [e, .Name Tn p2] [] pos) (mIsE i.a b me) :=
  ⟨(pe_callB (x := "isinstance") (call_isX T' O hp hH0) hg hm hi (pa_cons he.pe (pa_cons (pe_bltn (v := .ty T) hgT hT hb rfl hn hdb) pa_nil) hs) (by decide) (by decide) hs hpl).weak fun σ H Q ⟨pa, S, r, p, d, p', cc, em, q⟩ => by
    obtain ⟨x, p1, e1, em2⟩ := bnd_some em
    clear em
    refine ⟨pa, S, r, p, x, p1, cc, e1, fun v1 H1 x1 s1 r1 => ?_⟩
    split at em2
    · split at em2
      · rename_i ha
        subst ha
        obtain ⟨rfl, rfl⟩ := pr em2
        cases r1
        exact ⟨.ty T, .type T, b, rfl, fun u hu => hu, hk, q _ H1 x1 s1 (.bl b)⟩
      · cases em2
    · cases em2⟩
/-- e.f -/
def tFld (a : Addr) (v : V) (te : TE) : TE := fun σ H Q => te σ H fun x H1 => x = .ref a ∧ Q v H1
theorem pe_fld {te : TE} (T : XIs X.K C) (O : XoOk i C oe) (hp : (i.a, oe) ∈ X.pn) (hH0 : X.H_0 i.dd = some (.frz i.od (.xd [(i.fl, i.v)]))) (hno : PySem.W.findIn X.K (.ref C) i.fl = some none) (he : PE X e te) (hb : attributeBase e i.fl X.env (eval e X.env) = eval e X.env) :
    PE X (.Attribute e i.fl pos) (tFld i.a i.v te) := by
  refine ⟨fun pins s σ H Q I h => ?_⟩
  refine attr_of hb (thn (he.run pins s σ H _ I h) fun u s1 hh => ?_)
  obtain ⟨x, H1, I1, rx, ex, q⟩ := hh
  subst ex
  obtain rfl : u = Value.ref i.a := rx
  have hH := xo_at hH0 I1
  have J := xo_inst O hp hH I1
  obtain ⟨eod, hx⟩ : ObjOk X.prog X.w H1 s1.heap i.dd (.frz i.od (.xd [(i.fl, i.v)])) := I1.hok _ _ hH
  obtain ⟨mA, hns, hr⟩ := (show ObjOk X.prog X.w H1 s1.heap i.dd (.xd [(i.fl, i.v)]) from hx)
  obtain ⟨od, ho, hl⟩ := lookIn_ns hns
  rw [eod] at ho
  cases ho
  have l : ([(i.fl, i.v)] : List (Str × V)).lookup i.fl = some i.v := by simp [List.lookup]
  obtain ⟨u, hu, ru⟩ := RelO.some_of (v := i.v) (o := mA i.fl) (by rw [← l]; exact hr i.fl)
  exact HandSPX.exc_get I1.kIn J T.hga T.hgt T.hsub (PySem.W.findObj_own T.hdct hno rfl (by rw [hl, hu])) (handed_of ru) ⟨i.v, H1, I1.tok _, ru, q⟩
end
end Dt
namespace Dt
variable [GTab]
open PySem PySem.Spec PyProof.Rows L2
def CEx (K : PySem.W.Frag) (i : Xf) (E : En) : Prop := E.H i.dd = some (.frz i.od (.xd [(i.fl, i.v)])) ∧ ¬ E.pa.mut i.dd ∧ Rp K E.pa (hid E.S E.H) i.v i.x
structure JC (X : Cx) (i : Xf) (st : Stmt) (m : MS) : Prop where ps : ∀ E, CEx X.K i E → PS X st (tS X.K false E m)
structure JCs (X : Cx) (i : Xf) (st : List Stmt) (m : MS) : Prop where ps : ∀ E, CEx X.K i E → PSs X st (tS X.K false E m)
def tZ (K : PySem.W.Frag) (E : En) (m : M) : TE := fun σ H Q => ∃ pa S0 S A r p d p', EnvS K false E pa S0 S A σ H r p ∧ m (viR r) p = some (d, p') ∧ PostE K pa S0 H p' d Q
def tZA (K : PySem.W.Frag) (E : En) (m : ML) : TA := fun σ H Q => ∃ pa S0 S A r p ds p', EnvS K false E pa S0 S A σ H r p ∧ m (viR r) p = some (ds, p') ∧ ∀ vs H', Ext pa H H' → Sta pa S0 H' p' → RpL K pa (hid S0 H') vs ds → Q vs H'
structure JZ (X : Cx) (i : Xf) (e : Expr) (m : M) : Prop where pe : ∀ E, CEx X.K i E → PE X e (tZ X.K E m)
structure JZA (X : Cx) (i : Xf) (es : List Expr) (m : ML) : Prop where pa : ∀ E, CEx X.K i E → PA X es (tZA X.K E m)
section
variable {X : Cx} {i : Xf} {st : Stmt} {rest sts : List Stmt} {m ma mb : MS} {pos : Pos} {e : Expr} {me : M} {C : Addr} {oe : Obj}
theorem jcs_of (h : JSs false X sts m) : JCs X i sts m := ⟨fun E _ => h.ps E⟩
theorem jcs_cons (h1 : JC X i st ma) (h2 : JCs X i rest mb) : JCs X i (st :: rest) (sSeq ma mb) := ⟨fun E c => (pss_cons (h1.ps E c) (h2.ps E c)).weak fun D σ H => red_seq⟩
theorem jcs_one (h1 : JC X i st ma) : JCs X i [st] ma := ⟨fun E c => pss_one (h1.ps E c)⟩
theorem jcs_nil : JCs X i [] sNext := jcs_of jss_nil
theorem jc_if {c : Expr} {a b : List Stmt} {mt : MB} (hc : JT X c mt) (ha : JCs X i a ma) (hb : JCs X i b mb) : JC X i (.If c a b pos) (sIf mt ma mb) := ⟨fun E h => (ps_if hc.pt (ha.ps E h) (hb.ps E h)).weak fun D σ H => red_if⟩
/-- out of the def, and into what stands there -/
theorem EnvS.xframe {K : PySem.W.Frag} {E : En} {pa : PAx} {S0 S : Addr → Prop} {A : Nat → Addr} {σ : L2.St} {H H1 : Hp} {r : Sv} {p p1 : List Int} (h : EnvS K false E pa S0 S A σ H r p) (x1 : Ext pa H H1) (s1 : Sta pa S0 H1 p1) :
    pa = E.pa ∧ Ext E.pa E.H H1 ∧ Sta E.pa E.S H1 p1 ∧ Same (hid E.S E.H) (hid S0 H1) ∧ Same (hid S0 H1) (hid E.S H1) := by
  have e1 := h.go x1 s1
  have so := h.outF rfl s1
  have hpa := (h.pap rfl).1
  subst hpa
  refine ⟨rfl, e1.ext, so, fun b o hb => ?_, fun b o hb => ?_⟩
  · obtain ⟨n, hb⟩ := of_hid hb
    refine hid_of (fun z => ?_) (e1.ext b o (fun z => n (so.mutS z)) hb)
    rcases h.new b z with z | z
    · exact n z
    · rw [z] at hb
      cases hb
  · obtain ⟨n, hb⟩ := of_hid hb
    exact hid_of (fun z => n (h.sub b z)) hb
theorem jc_ret (h : JZ X i e me) : JC X i (.Return (some e) pos) (sRet false me) := ⟨fun E c => (ps_ret (h.pe E c)).weak fun D σ H hh => by
  obtain ⟨pa, S0, S, A, r, p, o, en, m, q⟩ := hh
  unfold sRet at m
  split at m
  · rename_i d p1 m1
    rw [if_pos (show (!false || np d) = true from rfl)] at m
    cases m
    refine ⟨pa, S0, S, A, r, p, d, p1, en, m1, fun v H' x s r => ?_⟩
    obtain ⟨hpa, h1, h2, h3, h4⟩ := en.xframe x s
    subst hpa
    exact q v H' h1 h2 (Rp.mono h4 _ _ r)
  · cases m⟩
theorem jc_asg {j : Nat} {x : Str} {pos' : Pos} (h : JZ X i e me) (hN : X.N.Nodup) (hi : X.N[j]? = some x := by rfl) (hx : Loc X.env.scope x := by first | exact Or.inl rfl | exact Or.inr rfl) (hs : swapsWith e (some (.Name x pos')) pos.line X.env = pure false := by rfl)
    (hf : X.fn x = true ∨ X.env.scope.names.lookup x = some .local := by first | exact .inl rfl | exact .inr rfl) : JC X i (.Assign [.Name x pos'] e pos) (sAsgV j me) := ⟨fun E c => (ps_set hN hi hx (h.pe E c) hs hf).weak fun D σ H hh => by
  obtain ⟨pa, S0, S, A, r, p, o, en, m, q⟩ := hh
  unfold sAsgV at m
  split at m
  · rename_i d p1 m1
    split at m
    · rename_i hsc
      cases m
      refine ⟨pa, S0, S, A, r, p, d, p1, en, m1, fun v H1 x1 s1 r1 => ?_⟩
      have e1 := en.go x1 s1
      obtain ⟨S', e2, f2⟩ := e1.setSh (x := v) (d := d) j (Rp.scal hsc r1)
      exact q pa S0 S' A _ H1 e2 ((en.frm x1).trans f2)
    · cases m
  · cases m⟩
open Classical in
noncomputable def mFld (i : Xf) (n : Str) (me : M) : M := fun r p => if n = i.fl then bnd (me r p) fun y p => match y with
  | .adr a' => if a' = i.a then some (i.x, p) else none
  | _ => none
  else none
theorem jz_fld {n : Str} (T : XIs X.K C) (O : XoOk i C oe) (hp : (i.a, oe) ∈ X.pn) (hH0 : X.H_0 i.dd = some (.frz i.od (.xd [(i.fl, i.v)]))) (hno : PySem.W.findIn X.K (.ref C) i.fl = some none) (he : JE X e me) (hb : attributeBase e n X.env (eval e X.env) = eval e X.env := by rfl) : JZ X i (.Attribute e n pos) (mFld i n me) := ⟨fun E c => by
  by_cases hn : n = i.fl
  · subst hn
    refine (pe_fld T O hp hH0 hno he.pe hb).weak fun σ H Q hh => ?_
    obtain ⟨pa, S0, S, A, r, p, d, p', en, m, q⟩ := hh
    unfold mFld at m
    rw [if_pos rfl] at m
    obtain ⟨y, p1, m1, m2⟩ := bnd_some m
    refine ⟨pa, S0, viR r, p, y, p1, en.vis, m1, fun v1 H1 x1 s1 r1 => ?_⟩
    split at m2
    · rename_i a'
      split at m2
      · rename_i ha
        subst ha
        obtain ⟨rfl, rfl⟩ := pr m2
        cases r1
        obtain ⟨hpa, h1, h2, h3, h4⟩ := en.xframe x1 s1
        subst hpa
        exact ⟨rfl, q _ H1 x1 s1 (Rp.mono h3 _ _ c.2.2)⟩
      · cases m2
    · cases m2
  · refine ⟨fun pins s σ H Q I hh => ?_⟩
    obtain ⟨pa, S0, S, A, r, p, d, p', en, m, q⟩ := hh
    unfold mFld at m
    rw [if_neg hn] at m
    cases m⟩
theorem jz_of (h : JE X e me) : JZ X i e me := ⟨fun E c => h.pe.weak fun σ H Q hh => by
  obtain ⟨pa, S0, S, A, r, p, d, p', en, m, q⟩ := hh
  exact ⟨pa, S0, viR r, p, d, p', en.vis, m, q⟩⟩
theorem jza_nil : JZA X i [] mNil := ⟨fun E c => pa_nil.weak fun σ H Q hh => by
  obtain ⟨pa, S0, S, A, r, p, ds, p', en, m, q⟩ := hh
  cases m
  exact q [] H Ext.refl en.sta .nil⟩
theorem jza_cons {es : List Expr} {ms : ML} (h : JZ X i e me) (h' : JZA X i es ms) (hs : starEach (e :: es) X.env = (false, eval e X.env) :: starEach es X.env := by rfl) : JZA X i (e :: es) (mCons me ms) := ⟨fun E c => (pa_cons (h.pe E c) (h'.pa E c) hs).weak fun σ H Q hh => by
  obtain ⟨pa, S0, S, A, r, p, ds, p', en, m, q⟩ := hh
  obtain ⟨x, p1, m1, m2⟩ := bnd_some m
  obtain ⟨xs, p2, m3, m4⟩ := bnd_some m2
  obtain ⟨rfl, rfl⟩ := pr m4
  exact ⟨pa, S0, S, A, r, p, x, p1, en, m1, fun v H1 x1 s1 r1 => ⟨pa, S0, S, A, r, p1, xs, p2, en.go x1 s1, m3, fun vs H2 x2 s2 r2 => q (v :: vs) H2 (x1.trans x2) s2 (.cons (Rp.mono (x2.hid s1) _ _ r1) r2)⟩⟩⟩
theorem jz_lst {es : List Expr} {ms : ML} (h : JZA X i es ms) : JZ X i (.List es pos) (mLst ms) := ⟨fun E c => (pe_lst (h.pa E c)).weak fun σ H Q hh => by
  obtain ⟨pa, S0, S, A, r, p, d, p', en, m, q⟩ := hh
  obtain ⟨xs, p1, m1, m2⟩ := bnd_some m
  split at m2
  · rename_i hl
    obtain ⟨rfl, rfl⟩ := pr m2
    refine ⟨pa, S0, S, A, r, p, xs, p1, en, m1, fun vs H1 x1 s1 r1 => ⟨by rw [r1.length]; exact lim_sz hl, fun a n => ?_⟩⟩
    exact q (.ref a) _ (x1.trans (Ext.of (same_upd n))) (s1.same (same_upd n)) (Rp.newL s1 r1 n)
  · cases m2⟩
theorem jz_cb {rc : List V → Hp → VK → Prop} {f : List D → Option D} {ms : ML} (hf : CallD X.K rc f) (h : ∀ E, CEx X.K i E → PE X e (tCB rc (tZA X.K E ms))) : JZ X i e (mCB f ms) := ⟨fun E c => (h E c).weak fun σ H Q hh => by
  obtain ⟨pa, S0, S, A, r, p, d, p', en, m, q⟩ := hh
  obtain ⟨xs, p1, m1, m2⟩ := bnd_some m
  obtain ⟨z, e4, rfl, rfl⟩ := lft_eq m2
  refine ⟨pa, S0, S, A, r, p, xs, p1, en, m1, fun vs H1 x1 s1 r1 => ?_⟩
  exact hf pa S0 H1 p1 vs xs z Q s1 r1 e4 fun u H2 x2 r2 => q u H2 (x1.trans (Ext.of x2)) (s1.same x2) r2⟩
theorem jz_if {t a b : Expr} {mt : MB} {na nb : M} (h : JT X t mt) (ha : JZ X i a na) (hb : JZ X i b nb) : JZ X i (.IfExp t a b pos) (mIf mt na nb) := ⟨fun E c => (pe_ifExp h.pt (ha.pe E c) (hb.pe E c)).weak fun σ H Q hh => by
  obtain ⟨pa, S0, S, A, r, p, d, p', en, m, q⟩ := hh
  obtain ⟨x, p1, m1, m2⟩ := bnd_some m
  refine ⟨pa, S0, viR r, p, x, p1, en.vis, m1, fun H1 x1 s1 => ?_⟩
  cases x with
  | true => exact ⟨pa, S0, S, A, r, p1, d, p', en.go x1 s1, m2, PostE.after en.vis q x1⟩
  | false => exact ⟨pa, S0, S, A, r, p1, d, p', en.go x1 s1, m2, PostE.after en.vis q x1⟩⟩
end
def spP (K : PySem.W.Frag) (i : Xf) (n : Nat) (m : MF) : Sp := fun vs H Q _ => ∃ pa S p ds d p', CEx K i ⟨pa, S, H⟩ ∧ Sta pa S H p ∧ RpL K pa (hid S H) vs ds ∧ ds.length = n ∧ m ds p = some (d, p') ∧ PostE K pa S H p' d Q
theorem fn_okP {P : Program} {w : World} {K : PySem.W.Frag} {mg : Str → Option Value} {base : Heap} {x qual : Str} {st : Stmt} {f : Addr} {fd : FuncData} {N ps : List Str} {k : Nat} {m : MS} {i : Xf} {oe : Obj} (F : Fun K x qual st f fd) (S : FnScope N ps (defScope st)) (hN : ps.length ≤ N.length)
    (body : ∀ (cdv : Value) (A : Around) (outer : List Env) (s : Shared) (H : Hp) (E : XK), L2H.RoomH k (A.deeper (envOfC qual (defScope st) s.heap.objs.size f cdv)) → H i.dd = some (.frz i.od (.xd [(i.fl, i.v)])) → JCs (L2H.cxH CX0 P w K mg base N qual (defScope st) f cdv A outer s H E (i.a, oe)) i (defBody st) m) :
    FnP P w K mg base CX0 (k + 1) f fd ps (i.a, oe) (spP K i ps.length (runF N.length ps.length m)) := by
  obtain ⟨oc, od, kV, doc, pm, an, cdv, ct, osl, rfl, lk, hcd⟩ := F.ex
  refine fn_ofP lk hcd S (fun vs H Q E h => ?_) (fun A outer s H vs Q E hr h => ?_)
  · obtain ⟨pa, S, p, ds, d, p', c, s, r, hl, e, q⟩ := h
    rw [r.length, hl]
  · obtain ⟨pa, S0, p, ds, d, p', c, sta, r, hl, e, q⟩ := h
    refine ⟨_, (body cdv A outer s H E hr c.1).ps ⟨pa, S0, H⟩ c, ?_⟩
    unfold runF at e
    have e0 := env_start (fx := false) (N := N) (fun z => by cases z) hl hN sta r
    split at e
    · rename_i d1 p1 m1
      obtain ⟨rfl, rfl⟩ := pr e
      exact ⟨pa, S0, S0, _, _, p, _, e0, m1, fun v H' x s2 r2 => q v H' x s2 r2⟩
    · rename_i r1 p1 m1
      obtain ⟨rfl, rfl⟩ := pr e
      exact ⟨pa, S0, S0, _, _, p, _, e0, m1, fun pa2 S02 S2 A2 σ2 H2 e2 f2 => by
        have so := e2.outF rfl e2.sta
        obtain ⟨h1, h2⟩ := e2.pap rfl
        subst h1
        exact q .non H2 e2.ext so .non⟩
    · cases e
end Dt
namespace Dt
variable [GTab]
open PySem PySem.Spec PyProof.Rows L2
section
variable {X : Cx} {pins : List (Addr × Obj)} {σ : L2.St} {H : Hp} {s : Shared}
theorem lockX {d : Addr} {fs : List (Str × V)} (I : Inv X pins σ H s) (h : H d = some (.xd fs)) : ∃ od, Inv X pins σ (upd H d (.frz od (.xd fs))) s := by
  have x : ObjOk X.prog X.w H s.heap d (.xd fs) := I.hok d _ h
  obtain ⟨mA, ⟨od, es, ep, e, e2⟩, hr⟩ := x
  have ne : ∀ {b : Addr} {u : HO}, H b = some u → u ≠ .xd fs → b ≠ d := fun {b u} q n z => by
    rw [z, h] at q
    exact n (Option.some.inj q).symm
  have new : ObjOk X.prog X.w (upd H d (.frz od (.xd fs))) s.heap d (.frz od (.xd fs)) := ⟨e, ⟨mA, ⟨od, es, ep, e, e2⟩, hr⟩⟩
  have un : Un X.fs [] H (upd H d (.frz od (.xd fs))) s.heap s.heap := {
    keep := fun b o q n _ _ => q
    slot := fun b o q n _ _ => ⟨o.slots, q⟩
    free := fun b o q n _ => by rw [upd_ne (fun z => by rw [z, h] at n; cases n)]; exact n
    there := fun b o q _ => ⟨o, q⟩
    tups := fun b xs q => by rw [upd_ne (ne q (fun z => nomatch z))]; exact q
    frzs := fun b o v q => by rw [upd_ne (ne q (fun z => nomatch z))]; exact q
    tbls := fun b ps q => ⟨#[], by rw [upd_ne (ne q (fun z => nomatch z)), q]; simp⟩ }
  refine ⟨od, I.un (t' := s.toks) un fun b o q => ?_⟩
  by_cases hb : b = d
  · subst hb
    rw [upd_same] at q
    cases q
    exact new
  · rw [upd_ne hb] at q
    exact (I.hok b o q).stay (fun c u _ z => z) (fun c hc => by rw [upd_ne (ne hc (fun z => nomatch z))]; exact hc) (fun c xs hc => by rw [upd_ne (ne hc (fun z => nomatch z))]; exact hc)
theorem takes_len {W : WX} (tk : Takes X W) : Takes X fun c d σ H => σ.length = X.N.length → W c d σ H := fun u s' ⟨a, B, sI, pins, σ, H, cls, d, e, I, nb, up, sky, na, os, ag, w⟩ =>
  tk u s' ⟨a, B, sI, pins, σ, H, cls, d, e, I, nb, up, sky, na, os, ag, w I.len⟩
end
theorem keep_frzX {K : PySem.W.Frag} {H : Hp} {d : Addr} {o : Obj} {fl : Str} {v0 : V} (h : H d = some (.xd [(fl, v0)])) : Keep K H (upd H d (.frz o (.xd [(fl, v0)]))) := by
  have ne : ∀ {b : Addr} {w : HO}, H b = some w → w ≠ .xd [(fl, v0)] → (upd H d (.frz o (.xd [(fl, v0)]))) b = some w := fun {b w} hb n => by
    rw [upd_ne fun z => n (by rw [z, h] at hb; exact (Option.some.inj hb).symm)]
    exact hb
  have rd : ∀ {b : Addr} {w : HO}, w ≠ .xd [(fl, v0)] → Rd H b w → Rd (upd H d (.frz o (.xd [(fl, v0)]))) b w := fun {b w} n hb => by
    rcases hb with hb | ⟨q, hb⟩
    · exact .inl (ne hb n)
    · exact .inr ⟨q, ne hb (fun z => nomatch z)⟩
  refine ⟨fun a xs q => ne q (fun z => nomatch z), fun a xs q => ?_, fun a xs q => ?_, fun a k q => rd (fun z => nomatch z) q, fun a k q => rd (fun z => nomatch z) q, fun a C dx fs q => ne q (fun z => nomatch z), fun a C dx vs q => ?_, fun a o2 xs q => ne q (fun z => nomatch z)⟩
  · rcases q with q | q
    · exact .inl (rd (fun z => nomatch z) q)
    · exact .inr q
  · rcases q with q | q
    · exact .inl (rd (fun z => nomatch z) q)
    · exact .inr q
  · rcases q with ⟨q1, q2⟩ | ⟨q1, q2⟩
    · exact .inl ⟨ne q1 (fun z => nomatch z), q2⟩
    · exact .inr ⟨ne q1 (fun z => (by unfold SlX.SlO at z; cases z)), ne q2 (fun z => nomatch z)⟩
theorem env_none {K : PySem.W.Frag} {pa : PAx} {S : Addr → Prop} {H : Hp} {p : List Int} {σ : L2.St} {n : Nat} (s : Sta pa S H p) (hl : σ.length = n) : EnvS K false ⟨pa, S, H⟩ pa S S (fun _ => 0) σ H (List.replicate n .no) p := by
  have no : ∀ (i : Nat) (d : D), (List.replicate n Cl.no)[i]? ≠ some (.ow d) := fun i d h => by
    rw [List.getElem?_replicate] at h
    split at h <;> cases h
  refine ⟨s, fun _ => ⟨rfl, fun a ha => (s.pool a ha).2⟩, fun hf => (by cases hf), ⟨rfl, s.ms⟩, fun _ h => h, fun _ h => .inl h, Ext.refl, fun a => ⟨.inl, fun h => ?_⟩, fun i d h => absurd h (no i d), fun i j d e h => absurd h (no i d), ?_, fun i d h => ?_⟩
  · rcases h with h | ⟨i, d, h, _⟩
    · exact h
    · exact absurd h (no i d)
  · unfold shR
    rw [List.length_map, List.length_replicate]
    exact hl
  · have h2 := shR_get.mp h
    rw [List.getElem?_replicate] at h2
    split at h2 <;> cases h2
/-- a call, of a def that asks about the exception at hand -/
theorem jz_callP {X : Cx} {i : Xf} {oe : Obj} {k n : Nat} {f : Addr} {fd : FuncData} {ps : List Str} {m : MF} {x : Str} {p pos : Pos} {e : Expr} {es : List Expr} {ms : ML} (F : FnP X.prog X.w X.K X.mg X.base CX0 k f fd ps (i.a, oe) (spP X.K i n m)) (hr : L2H.RoomH k X.A) (hp : (i.a, oe) ∈ X.pn) (hm : X.mg x = some (.ref f)) (hk : PySem.W.keepIn X.K (.ref f) = true) (hb : L2.Binds X.K fd ps []) (ha : JA X (e :: es) ms) (hg : Gl X x := by rfl) (hdb : (x == ("__debug__" : Str)) = false := by decide)
    (he : starEach (e :: es) X.env = (false, eval e X.env) :: starEach es X.env := by rfl) (hpl : ((backTo pos (starEach es X.env)).any fun x => x.fst) = false := by rfl) : JZ X i (.Call (.Name x p) (e :: es) [] pos) (mCall n m ms) := ⟨fun E c =>
  (pe_callP (E := fun _ _ _ _ => False) F hr hp hg hm hk hb (fun _ _ _ _ _ _ _ z => z.elim) ha.pa hdb he hpl).weak fun σ H Q hh => by
    obtain ⟨pa, S0, S, A, r, p, d, p', en, m1, q⟩ := hh
    obtain ⟨ds, p1, e1, m2⟩ := bnd_some m1
    split at m2
    · rename_i hn
      refine ⟨pa, S0, viR r, p, ds, p1, en.vis, e1, fun vs H1 x1 s1 r1 => ?_⟩
      obtain ⟨hpa, h1, h2, h3, h4⟩ := en.xframe x1 s1
      subst hpa
      exact ⟨E.pa, S0, p1, ds, d, p', ⟨h1 _ _ c.2.1 c.1, c.2.1, Rp.mono h3 _ _ c.2.2⟩, s1, r1, hn, m2, PostE.after en.vis q x1⟩
    · cases m2⟩
/-- what is known of a class that may be caught -/
structure XKn (K : PySem.W.Frag) (cs : List Value) (c f : Str) (C : Addr) : Prop where
  ns : PySem.W.nsIn K mainGlobals c = some (some (.ref C))
  is_ : XIs K C
  hno : PySem.W.findIn K (.ref C) f = some none
  exm : ∃ g : Value → Bool, (∀ v ∈ cs, PySem.W.exmOne K (.ref C) v = some (g v)) ∧ cs.any g = true
/-- what x makes of what the lambda did: out -/
def TC (K : PySem.W.Frag) (out : D → List Int → Option (D × List Int)) : (XK → Hp → VK → Prop) → Hp → VK → Prop := fun tl H Q =>
  ∃ pa S p d p' o p'', Sta pa S H p ∧ (∀ Qv Ex, PostX K pa S H p' d Qv Ex → tl Ex H Qv) ∧ out d p' = some (o, p'') ∧ PostE K pa S H p'' o Q
section
open LamX
variable {X : Cx} {x a told n : Str} {Ng : List Str} {q : Str} {sg : Scope} {g : Addr} {cdg : Value} {es : List Expr} {cs : List Value} {kk : Nat} {tp p1 p2 p3 p4 p5 p6 : Pos} {b₀ rst : Stmt} {suite : List Stmt} {msu : Xf → Str → MS} {mrest : MS} {out : D → List Int → Option (D × List Int)}
abbrev cxG (X : Cx) (Ng : List Str) (x : Str) (sg : Scope) (g : Addr) (cdg : Value) (s : Shared) (H : Hp) : Cx := (cxOf C8.CX0 X.prog X.w X.K X.mg X.base Ng x sg g cdg X.A X.stack s H C8.E0).nox
theorem caught_gives (hNd : Ng.Nodup) (hl4 : Ng.length = 4) (h1 : Ng[1]? = some told) (h2 : Ng[2]? = some n) (lt : sg.names.lookup told = some .local) (ln : sg.names.lookup n = some .local) (hsz : cs.length ≤ 1000)
    (hc : ∀ s H, GlobsX (cxG X Ng x sg g cdg s H) es cs)
    (hsu : ∀ s H a oe pn i C c, XKn X.K cs c i.fl C → XoOk i C oe → i.a = a → JCs ((cxG X Ng x sg g cdg s H).suite a ((a, oe) :: pn)) i (b₀ :: suite) (msu i c))
    (hre : ∀ s H, JS false (cxG X Ng x sg g cdg s H) rst mrest)
    (ho1 : ∀ c f x p o p'' C, out (exn c f x) p = some (o, p'') → PySem.W.nsIn X.K mainGlobals c = some (some (.ref C)) → XKn X.K cs c f C ∧ ∀ a dd od v, msu ⟨a, dd, od, f, v, x⟩ c ((List.replicate 4 .no).set 2 (.sh (.adr a))) p = some (.rt o p''))
    (ho2 : ∀ d p o p'', isExn d = false → out d p = some (o, p'') → mrest ((List.replicate 4 .no).set 1 (.sh d)) p = some (.rt o p'')) :
    GivesTo X Ng x sg g cdg [.Try [.Assign [.Name told p1] (.Call (.Name a p2) [] [] p3) p4] [.ExceptHandler (some (.Tuple es kk tp)) (some n) (b₀ :: suite) p5] [] [] p6, rst] a q (TC X.K out) := by
  intro f c' s H Q tl act hco h
  obtain ⟨pa, S, p, d, p', o, p'', sta, htl, hout, hq⟩ := h
  have hfn : ∀ y, (cxG X Ng x sg g cdg s H).fn y = true := fun y => rfl
  refine ⟨_, pss_cons (ps_try_asT (X := cxG X Ng x sg g cdg s H) (i := 2) (kk := kk) (tp := tp) (pos := p6) (pos' := p5)
      (tb := fun W Dn σ H => ∃ Ech : XK, (∀ cls d σ' H', Ech cls d H' → σ'.length = Ng.length → W cls d σ' H') ∧ σ[0]? = some (some (.ref f)) ∧ H c' = some (CodeO c' q) ∧ tl Ech H fun v H' => Dn.nx (σ.set 1 (some v)) H')
      (ts := fun a cls d' Dn σ H => ∃ (C : Addr) (c fl : Str) (v : V) (y : D) (dd : Addr), cls = .ref C ∧ d' = some dd ∧ XKn X.K cs c fl C ∧ H dd = some (.xd [(fl, v)]) ∧ ∀ od, ∃ E : En, CEx X.K ⟨a, dd, od, fl, v, y⟩ E ∧ tS X.K false E (msu ⟨a, dd, od, fl, v, y⟩ c) Dn σ (upd H dd (.frz od (.xd [(fl, v)]))))
      rfl rfl hNd h2 ln (hc s H) hsz (fun W pn xe tk _ => ?body) (fun a oe cls d' pn hz hd => ?suite)) (pss_one ((hre s H).ps ⟨pa, S, H⟩)), ?fin⟩
  case body =>
    refine ⟨fun pins s' σ H' D I h' => ?_⟩
    obtain ⟨Ech, hW, e1, e2, e3⟩ := h'
    have hp := act (fun c d σ H => σ.length = Ng.length → W c d σ H) pn xe Ech p2 p3 (takes_len tk) (fun cls d σ' H' z hl => hW cls d σ' H' z hl)
    exact (pss_one (ps_set (X := (cxG X Ng x sg g cdg s H).tr pn xe) (i := 1) (pos := p4) (pos' := p1) hNd h1 (.inl lt) hp rfl (.inr lt))).run pins s' σ H' D I ⟨e1, e2, e3⟩
  case suite =>
    refine ⟨fun pins s' σ H' D I h' => ?_⟩
    obtain ⟨C, c, fl, v, y, dd, rfl, rfl, xk, hdd, hh⟩ := h'
    obtain ⟨od, I2⟩ := lockX I hdd
    obtain ⟨E, ce, ht⟩ := hh od
    exact ((hsu s H a oe pn ⟨a, dd, od, fl, v, y⟩ C c xk ⟨hz.1, hz.2, hd⟩ rfl).ps E ce).run pins s' σ _ D I2 ht
  case fin =>
    refine ⟨fun cls dd H' => isExn d = true ∧ Ext pa H H' ∧ Sta pa S H' p' ∧ XAt X.K pa S H H' d cls dd, fun cls dd σ' H' he hl => ?_, rfl, hco, ?_⟩
    · obtain ⟨hx, ex, st, c, fl, y, C, ad, v, rfl, hns, rfl, rfl, hn0, had, rp⟩ := he
      obtain ⟨xk, hm⟩ := ho1 c fl y p' o p'' C hout hns
      refine ⟨xk.exm, fun a na => ⟨C, c, fl, v, y, ad, rfl, rfl, xk, had, fun od => ?_⟩⟩
      have nm : ¬ pa.mut ad := sta.notpool hn0
      have nS : ¬ S ad := sta.new hn0
      have st2 : Sta pa S (upd H' ad (.frz od (.xd [(fl, v)]))) p' := st.put _ nm had nst_xd (by rintro (⟨_, z⟩ | ⟨_, _, z⟩) <;> cases z)
      have rp2 : Rp X.K pa (hid S (upd H' ad (.frz od (.xd [(fl, v)])))) v y := by
        have e : hid S (upd H' ad (.frz od (.xd [(fl, v)]))) = upd (hid S H') ad (.frz od (.xd [(fl, v)])) := by
          funext b
          by_cases hb : b = ad
          · subst hb
            rw [upd_same]
            exact hid_of nS upd_same
          · rw [upd_ne hb]
            unfold hid
            split
            · rfl
            · rw [upd_ne hb]
        rw [e]
        exact Rp.keep (keep_frzX (hid_of nS had)) _ _ rp
      refine ⟨⟨pa, S, upd H' ad (.frz od (.xd [(fl, v)]))⟩, ⟨upd_same, nm, rp2⟩, ?_⟩
      have e0 := env_none (K := X.K) (n := 4) st2 (σ := σ') (by rw [hl, hl4])
      obtain ⟨S', e1, _⟩ := e0.setSh (x := .ref a) (d := .adr a) 2 (.adr a)
      refine ⟨pa, S, S', _, _, p', _, e1, hm a ad od v, fun w H2 x2 s2 r2 => hq w H2 ?_ s2 r2⟩
      intro b u nb hb
      have h1 := ex b u nb hb
      refine x2 b u nb ?_
      show (upd H' ad (.frz od (.xd [(fl, v)]))) b = some u
      rw [upd_ne (fun z => by rw [z, hn0] at hb; cases hb)]
      exact h1
    · refine htl _ _ ?_
      unfold PostX
      split
      · rename_i hx
        exact fun cls dd H' x s a => ⟨hx, x, s, a⟩
      · rename_i hx
        intro v H1 x1 s1 r1
        have e0 := (env_none (K := X.K) (n := 4) sta (σ := L2.start Ng [.ref f]) (by unfold L2.start; simp; omega)).go x1 s1
        obtain ⟨S', e1, _⟩ := e0.setSh (x := v) (d := d) 1 r1
        exact ⟨pa, S, S', _, _, p', _, e1, ho2 d p' o p'' (by simpa using hx) hout, fun w H2 x2 s2 r2 => hq w H2 x2 s2 r2⟩
end
end Dt
namespace Dt
variable [GTab]
open PySem PySem.Spec PyProof.Rows L2
section
variable {X : Cx} {W : XK} {x : Str} {f : Addr} {fd : FuncData} {k n : Nat} {m : MF} {ms : ML} {ps ks : List Str} {p pos : Pos}
theorem jx_callKP {idx : List Nat} {kws : List Keyword} (F : FnOk X.prog X.w X.K X.mg X.base (L2.CX X.prog X.w) k f fd ps (spR X.K n m)) (hr : Room k X.A) (tk : Takes X fun c d _ H => W c d H) (hm : X.mg x = some (.ref f)) (hk : PySem.W.keepIn X.K (.ref f) = true) (hb : KwP fd ps ks idx) (hkw : JK X kws ms) (hn : n = ks.length ∧ n = idx.length) (hg : Gl X x := by rfl)
    (hall : (backToKw pos (keywordEach kws X.env)).all (·.1.isSome) = true := by rfl) (hks : (backToKw pos (keywordEach kws X.env)).filterMap (·.1) = ks := by rfl)
    (hdb : (x == ("__debug__" : Str)) = false := by decide)
    (hpl : ((backTo pos (starEach [] X.env)).any (·.1) || (backToKw pos (keywordEach kws X.env)).any (·.1.isNone)) = false := by rfl) : JX X W (.Call (.Name x p) [] kws pos) (mCallKP idx n m ms) := by
  have pe : PE X (.Call (.Name x p) [] kws pos) (fun σ H Q => tML X.K ms σ H fun zs H1 => zs.length = ks.length ∧ spR X.K n m (permL idx .non zs) H1 Q W) := by
    refine ⟨fun pins s σ H Q I h => ?_⟩
    refine wpAny_Call_Name_kw (ld_glob I hg hm ?_ hdb)
    refine PySem.W.callWith_KW0 (h₀ := X.base) I.ok.mod.kin hk hall (thn (hkw.pk.run pos pins s σ H _ I h) fun ws s1 ⟨zs, H1, I1, rz, hl, q⟩ => ⟨I1.kIn, ?_⟩) hpl
    rw [hks]
    refine wpAny_call (codeAny_mono (F.run X.A X.stack s1 H1 ⟨[], ks.zip ws⟩ (permL idx .none ws) (permL idx .non zs) Q W hr I1.env0 (hb s1 ws (rz.length.symm.trans hl)) (valsP rz idx) q) fun r s' hq => ?_)
    cases r with
    | error e => exact passes_call tk (fun _ _ _ _ h => h) pins σ H1 s1 e s' I1 hq
    | ok fl =>
      cases fl with
      | ret u => exact I1.after hq
      | next => exact False.elim hq
      | brk => exact False.elim hq
      | cont => exact False.elim hq
  exact ⟨pe.weak fun σ H Q ⟨pa, S, r, p, d, p', cn, em, q⟩ => by
    obtain ⟨ds, p1, e1, em2⟩ := bnd_some em
    split at em2
    · rename_i hl
      refine ⟨pa, S, r, p, ds, p1, cn, e1, fun vs H1 x1 s1 r1 => ⟨by rw [r1.length, hl, hn.1], pa, S, p1, _, d, p', s1, r1.perm idx, ?_, em2, q.after cn x1 s1⟩⟩
      unfold permL
      rw [List.length_map, hn.2]
    · cases em2⟩
end
section
open LamX
theorem tk_lam {X : Cx} {A : Around} {outer : List Env} {s : Shared} {H : Hp} {E : XK} {scope : Scope} {f c' : Addr} : Takes (lamCx X A outer s H E scope f c') fun c d _ H => E c d H := takes_of rfl rfl rfl rfl
def mCaught (out : D → List Int → Option (D × List Int)) (ml : M) : M := fun r p => bnd (ml r p) fun d p => out d p
variable {X : Cx} {x a : Str} {Ng : List Str} {st : Stmt} {g c P : Addr} {fd : FuncData} {out : D → List Int → Option (D × List Int)} {ml : M} {params : Arguments} {body : Expr} {scope : Scope} {p lpos pos : Pos} {k : Nat}
theorem je_caught (F : Fun X.K x x st g fd) (hb : L2.Binds X.K fd [a] []) (Sg : FnScope Ng [a] (defScope st)) (hNg : Ng[0]? = some a) (hva : Vis (defScope st) a) (hm : X.mg x = some (.ref g))
    (hG : ∀ cdg, GivesTo X Ng x (defScope st) g cdg (defBody st) a (X.env.qual ++ "<lambda>") (TC X.K out))
    (TB : LamX.TabB X.base X.mg c P) (hcode : X.env.code = .ref c) (hT : (P, X.env.qual ++ "<lambda>") ∈ GTab.tb) (hr : Room (k + 2) X.A) (L : LamS X.env.scope scope)
    (hbody : ∀ (A : Around) (outer : List Env) (s : Shared) (H : Hp) (E : XK) (f c' : Addr), Room k (A.deeper (lamEnv X scope s.heap.objs.size f c')) → JX (lamCx X A outer s H E scope f c') E body ml)
    (hg : Gl X x := by rfl) (hdef : defaultsOf params X.env = ([], []) := by rfl)
    (hbind : ∀ (q : Str) (cl : List (Str × Addr)) (pm cv ctv : Value), bindArgs (PySem.W.kla_fn "<lambda>" q params body scope cl pm cv ctv) ⟨[], []⟩ = pure [] := by intro _ _ _ _ _; rfl)
    (hdb : (x == ("__debug__" : Str)) = false := by decide) (hd : (a == ("__debug__" : Str)) = false := by decide) (hcd : (a == ("__classdict__" : Str)) = false := by decide) :
    JE X (.Call (.Name x p) [.Lambda params body scope lpos] [] pos) (mCaught out ml) := by
  refine ⟨⟨fun pins s σ H Q I h => ?_⟩⟩
  obtain ⟨pa, S, r, p0, o, p'', cn, em, q⟩ := h
  obtain ⟨d, p', e1, e2⟩ := bnd_some em
  obtain ⟨oc, od, kV, doc, pm0, an, cdv, ct, osl, rfl, lk, hcg⟩ := F.ex
  refine wpAny_Call_Name_kw (ld_glob I hg hm ?_ hdb)
  refine PySem.W.callWith_K (h₀ := X.base) I.ok.mod.kin F.kp ?_ (by rfl) (by rfl)
  show wpAny _ _ (spliced ((false, eval (.Lambda params body scope lpos) X.env) :: backTo pos (starEach [] X.env))) _ _ s
  refine Calls.spliced_cons (lam_made I TB hcode rfl (cn.sta.tab.tabs _ (cn.sta.tab.gl _ hT)) hdef (L.has I.ok) fun f c' pm' ctv H1 s' I1 keep t1 hf hfn hfr hco => ?_)
  obtain ⟨st2, x2⟩ := cn.sta.lam hT keep t1
  have cn2 : Cn X.K pa S σ H1 r p0 := cn.go x2 st2
  refine Calls.spliced_nil ⟨I1.kIn, ?_⟩
  have rc : codeAny (model X.prog X.w) X.A (.call (.ref g) ⟨[.ref f], []⟩) (CR C8.CX0 X.stack X.prog X.w H1 s' Q C8.E0) s' := by
    refine run_ofS (N := Ng) (ps := [a]) (us := [.ref f]) (vs := [.ref f]) lk hcg Sg hr I1.env0 (hb s' [.ref f] I1.kIn rfl) (.cons rfl .nil) rfl fun hr' => ?_
    obtain ⟨t', ht', hq'⟩ := hG cdv f c' s' H1 Q (fun E H' Q' => tX X.K E ml σ H' Q') (fun W pn xe E p1 p2 tk hW => pe_act (i := 0) I1 L hf hfn hfr (hbind _ _ _ _ _) tk hW hr' (fun A outer s H hr2 => (hbody A outer s H E f c' hr2).pe) hNg hva hd hcd) hco
      ⟨pa, S, p0, d, p', o, p'', st2, fun Qv Ex hx => ⟨pa, S, r, p0, d, p', cn2, e1, hx⟩, e2, PostE.after cn q x2⟩
    exact ⟨t', ht'.nox, hq'⟩
  refine wpAny_call (codeAny_mono rc fun r s2 hq => ?_)
  cases r with
  | error e => exact (show False from hq).elim
  | ok fl =>
    cases fl with
    | ret u => exact I1.after hq
    | next => exact False.elim hq
    | brk => exact False.elim hq
    | cont => exact False.elim hq
end
end Dt
namespace Dt
variable [GTab]
open PySem PySem.Spec PyProof.Rows L2
section
variable {P : Program} {w : World} {K : PySem.W.Frag} {mg : Str → Option Value} {base : Heap} {x qual : Str} {st : Stmt} {f : Addr} {fd : FuncData} {N ps : List Str} {k : Nat} {m : MS} {sp : Sp}
theorem fnG_ofC {x qual : Str} {st : Stmt} (F : Fun K x qual st f fd) (S : FnScope N ps (defScope st)) (len : ∀ vs H Q E, sp vs H Q E → vs.length = ps.length)
    (body : ∀ (cdv : Value) (A : Around) (outer : List Env) (s : Shared) (H : Hp) (vs : List V) (Q : VK) (E : XK), fd.code = cdv → RoomG k (A.deeper (envOfC qual (defScope st) s.heap.objs.size f cdv)) → sp vs H Q E →
      ∃ t, PSs (cxOf CX0 P w K mg base N qual (defScope st) f cdv A outer s H E).nox (defBody st) t ∧ t { nx := fun _ H' => Q .non H', rt := Q } (start N vs) H) : FnG P w K mg base (k + 1) f fd ps sp := by
  obtain ⟨oc, od, kV, doc, pm, an, cdv, ct, osl, rfl, lk, hcd⟩ := F.ex
  refine ⟨len, fun A outer s H args us vs Q E hr e0 hb rv hq => ?_⟩
  have old : ∀ b o, base.get? b = some o → s.heap.get? b = some o := fun b o z => (e0.bs b o z).1
  have inK : K.In s.heap := e0.mod.kin.keeps old
  have noL : s.heap.NoLimit := e0.mod.nolimit.keeps old
  have kinds : ∀ y ∈ ps.zip us, (defScope st).names.lookup y.1 = some .local ∨ ((defScope st).names.lookup y.1 = some .cell ∧ ((cellsFrom (s.heap.objs.size + 1) (defScope st).names []).lookup y.1).isSome = true) := by
    rintro ⟨n, v⟩ hy
    exact (S.par n (List.of_mem_zip hy).1).imp id fun z => ⟨z, PySem.W.cellsFrom_some _ _ _ (.inl z)⟩
  obtain ⟨t, ht, tq⟩ := body cdv A outer s H vs Q E rfl (hr.deeper _) hq
  refine codeAny_call_function hr.room.depth (inK _ _ lk) rfl S.co S.gen rfl (PySem.W.codeRec_of inK hcd) (hb _ _ _ _ ?_)
  refine wpAny_newFunctionEnv_cells S.kind kinds fun env he s1 y => ?_
  cases he
  refine ⟨noL.keeps y.toInCall.keep, codeAny_func (wpAny_mono (ht.nox.run [] s1 (start N vs) H _ (inv_start S hr.room.hd e0 (len _ _ _ _ hq) rv y) tq) (fun fl s' z => ?_) fun _ _ z => z)⟩
  cases fl with
  | brk => exact z.elim fun _ z => z.elim fun _ z => z.2.elim
  | cont => exact z.elim fun _ z => z.elim fun _ z => z.2.elim
  | next => exact let ⟨_, H', J, q⟩ := z; ⟨.non, H', J.os, J.bare, J.base, J.hok, rfl, q⟩
  | ret u => exact let ⟨v, _, H', J, r, q⟩ := z; ⟨v, H', J.os, J.bare, J.base, J.hok, r, q⟩
theorem fn_okGC (F : Fun K x qual st f fd) (S : FnScope N ps (defScope st)) (hN : ps.length ≤ N.length)
    (body : ∀ (cdv : Value) (A : Around) (outer : List Env) (s : Shared) (H : Hp) (E : XK), fd.code = cdv → RoomG k (A.deeper (envOfC qual (defScope st) s.heap.objs.size f cdv)) → JSs false (cxOf CX0 P w K mg base N qual (defScope st) f cdv A outer s H E).nox (defBody st) m) :
    FnG P w K mg base (k + 1) f fd ps (spM K ps.length (runF N.length ps.length m)) := by
  refine fnG_ofC F S (fun vs H Q E h => ?_) (fun cdv A outer s H vs Q E hcd hr h => ?_)
  · obtain ⟨pa, S, p, ds, d, p', s, r, hl, e, q⟩ := h
    rw [r.length, hl]
  · obtain ⟨pa, S0, p, ds, d, p', sta, r, hl, e, q⟩ := h
    refine ⟨_, (body cdv A outer s H E hcd hr).ps ⟨pa, S0, H⟩, ?_⟩
    unfold runF at e
    have e0 := env_start (fx := false) (N := N) (fun z => by cases z) hl hN sta r
    split at e
    · rename_i d1 p1 m1
      obtain ⟨rfl, rfl⟩ := pr e
      exact ⟨pa, S0, S0, _, _, p, _, e0, m1, fun v H' x s2 r2 => q v H' x s2 r2⟩
    · rename_i r1 p1 m1
      obtain ⟨rfl, rfl⟩ := pr e
      exact ⟨pa, S0, S0, _, _, p, _, e0, m1, fun pa2 S02 S2 A2 σ2 H2 e2 f2 => by
        have so := e2.outF rfl e2.sta
        obtain ⟨h1, h2⟩ := e2.pap rfl
        subst h1
        exact q .non H2 e2.ext so .non⟩
    · cases e
end
end Dt
namespace Dt
variable [GTab]
open PySem PySem.Spec PyProof.Rows L2
section
variable {X : Cx} {i : Xf} {sts : List Stmt} {m1 m2 : MS}
theorem jcs_ite {p : Prop} [Decidable p] (h1 : p → JCs X i sts m1) (h2 : JCs X i sts m2) : JCs X i sts (if p then m1 else m2) := by
  split
  · exact h1 (by assumption)
  · exact h2
theorem jcs_nev : JCs X i sts sNev := jcs_of jss_nev
theorem jz_callB {x : Str} {id : String} {rc : List V → Hp → VK → Prop} {f : List D → Option D} {e : Expr} {es : List Expr} {ms : ML} {p pos : Pos} (hc : CallR X (.builtin id) rc) (hf : CallD X.K rc f) (hm : X.mg x = none) (hv : bootBuiltins x = some (.builtin id)) (ha : JZA X i (e :: es) ms) (hg : Gl X x := by rfl) (hn : x ≠ "__name__" := by decide) (hdb : (x == ("__debug__" : Str)) = false := by decide)
    (he : starEach (e :: es) X.env = (false, eval e X.env) :: starEach es X.env := by rfl) (hpl : (backTo pos (starEach es X.env)).any (·.1) = false := by rfl) : JZ X i (.Call (.Name x p) (e :: es) [] pos) (mCB f ms) :=
  jz_cb hf fun E c => pe_callB hc hg hm hv (ha.pa E c) hn hdb he hpl
end
/-- tab: class and field, and the number told -/
def caughtOut (tab : List ((Str × Str) × Int)) : D → List Int → Option (D × List Int) := fun d p => match d with
  | .ins c [] [.str f, x] => match tab.lookup (c, f), dReprS [x] with
    | some i, some s => some (.lst [.int i, s], p)
    | _, _ => none
  | d => match dReprS [d] with
    | some s => some (.lst [.str "told", s], p)
    | none => none
theorem caught_exn {tab : List ((Str × Str) × Int)} {c f : Str} {x o : D} {p p' : List Int} (h : caughtOut tab (exn c f x) p = some (o, p')) : ∃ i s, tab.lookup (c, f) = some i ∧ dReprS [x] = some s ∧ o = .lst [.int i, s] ∧ p' = p := by
  unfold caughtOut exn at h
  simp only at h
  split at h
  · rename_i i s e1 e2
    obtain ⟨rfl, rfl⟩ := pr h
    exact ⟨i, s, e1, e2, rfl, rfl⟩
  · cases h
theorem caught_told {tab : List ((Str × Str) × Int)} {d o : D} {p p' : List Int} (hx : isExn d = false) (h : caughtOut tab d p = some (o, p')) : ∃ s, dReprS [d] = some s ∧ o = .lst [.str "told", s] ∧ p' = p := by
  unfold caughtOut at h
  split at h
  · cases hx
  · split at h
    · rename_i s e1
      obtain ⟨rfl, rfl⟩ := pr h
      exact ⟨s, e1, rfl, rfl⟩
    · cases h
theorem caught_ok {tab : List ((Str × Str) × Int)} {c f : Str} {x : D} {i : Int} {s : D} {p : List Int} (h1 : tab.lookup (c, f) = some i) (h2 : dReprS [x] = some s) : caughtOut tab (exn c f x) p = some (.lst [.int i, s], p) := by
  unfold caughtOut exn
  simp only [h1, h2]
/-- which classes are known: class, field, number -/
inductive XTab (K : PySem.W.Frag) (cs : List Value) : List ((Str × Str) × Int) → Prop
  | nil : XTab K cs []
  | cons {c f : Str} {i : Int} {C : Addr} {l : List ((Str × Str) × Int)} : XKn K cs c f C → XTab K cs l → XTab K cs (((c, f), i) :: l)
theorem XTab.at_ {K : PySem.W.Frag} {cs : List Value} {c f : Str} {i : Int} : ∀ {l : List ((Str × Str) × Int)}, XTab K cs l → l.lookup (c, f) = some i → ∃ C, XKn K cs c f C
  | _, .nil, h => by cases h
  | _, .cons (c := c0) (f := f0) x t, h => by
    rw [List.lookup_cons] at h
    cases hb : (c, f) == (c0, f0) with
    | true =>
      have e := eq_of_beq hb
      cases e
      exact ⟨_, x⟩
    | false =>
      rw [hb] at h
      exact XTab.at_ t h
theorem XKn.same {K : PySem.W.Frag} {cs : List Value} {c f : Str} {C C' : Addr} (x : XKn K cs c f C) (h : PySem.W.nsIn K mainGlobals c = some (some (.ref C'))) : XKn K cs c f C' := by
  have e := x.ns.symm.trans h
  cases e
  exact x
end Dt
namespace Dt
variable [GTab]
open PySem PySem.Spec PyProof.Rows L2
section
variable {X : Cx} {e : Expr} {me : M} {p p2 pos : Pos}
/-- the classes whose instances may be asked, and what isinstance(x, T) says of each -/
inductive ITb (X : Cx) (T : String) : List (Str × Bool) → Prop
  | nil : ITb X T []
  | cons {c : Str} {C : Addr} {b : Bool} {l : List (Str × Bool)} : ClV X.K X.mg c C → IsI X.K C → PySem.W.kitOne X.K (.ref C) (.type T) = some b → ITb X T l → ITb X T ((c, b) :: l)
theorem ITb.at_ {T : String} : ∀ {l : List (Str × Bool)} {c : Str} {b : Bool}, ITb X T l → l.lookup c = some b → ∃ C, ClV X.K X.mg c C ∧ IsI X.K C ∧ PySem.W.kitOne X.K (.ref C) (.type T) = some b
  | _, _, _, .nil, h => by cases h
  | _, c, b, .cons (c := c0) a1 a2 a3 t, h => by
    rw [List.lookup_cons] at h
    cases hb : c == c0 with
    | true =>
      rw [hb] at h
      cases h
      have e : c = c0 := by simpa using hb
      subst e
      exact ⟨_, a1, a2, a3⟩
    | false =>
      rw [hb] at h
      exact ITb.at_ t h
end
section
variable {K : PySem.W.Frag} {cls : Value}
theorem _root_.L2H.RoomH.units {k : Nat} {A : Around} (r : L2H.RoomH k A) : A.units + 64 < cLine := by have := r.un; omega
inductive ExL (K : PySem.W.Frag) (cls : Value) : List Value → Bool → Prop
  | nil : ExL K cls [] false
  | cons {v : Value} {b r : Bool} {l : List Value} : PySem.W.exmOne K cls v = some b → ExL K cls l r → ExL K cls (v :: l) (b || r)
theorem ExL.to : ∀ {l : List Value} {r : Bool}, ExL K cls l r → (∀ v ∈ l, PySem.W.exmOne K cls v = some ((PySem.W.exmOne K cls v).getD false)) ∧ l.any (fun v => (PySem.W.exmOne K cls v).getD false) = r
  | _, _, .nil => ⟨fun _ h => (by cases h), rfl⟩
  | _, _, .cons h t => by
    obtain ⟨h1, h2⟩ := ExL.to t
    refine ⟨fun v hv => ?_, ?_⟩
    · rcases List.mem_cons.mp hv with rfl | hv
      · rw [h]; rfl
      · exact h1 v hv
    · rw [List.any_cons, h, h2]
      rfl
theorem mkXKn {cs : List Value} {c f : Str} {C : Addr} (ns : PySem.W.nsIn K mainGlobals c = some (some (.ref C))) (h1 : (PySem.W.clsIn K C).isSome = true) (h2 : PySem.W.findIn K (.ref C) "__getattribute__" = some (some (.builtin "BaseException.__getattribute__"))) (h3 : PySem.W.findIn K (.ref C) "__getattr__" = some none)
    (h4 : PySem.W.subIn K (.ref C) (.type "BaseException") = some true) (h5 : PySem.W.hasDictIn K C = true) (h6 : PySem.W.findIn K (.ref C) "__class__" = some (some (.builtin "object.__class__"))) (h7 : PySem.W.specialIn K (.builtin "object.__class__") "__get__" = some (some (.builtin "getset_descriptor.__get__")))
    (h8 : PySem.W.takesIn K (.builtin "object.__class__") = some true) (h9 : PySem.W.mroIn K C (.type "object") = some true) (hno : PySem.W.findIn K (.ref C) f = some none) (ex : ExL K (.ref C) cs true) : XKn K cs c f C :=
  ⟨ns, ⟨h1, h2, h3, h4, h5, h6, h7, h8, h9⟩, hno, ⟨_, ex.to⟩⟩
theorem mkXSup {C : Addr} {nm q : Str} {N : Addr} {bs bm : List Value} {sn : List Str} {sub : List Value} {ab : Bool} {col : Option Bool} {dd : Option Addr} {k0 k1 k2 k3 k5 : Option Value}
    (h0 : K.lookup C = some (excClassObj nm q C N bs bm true sn sub ab col dd k0 k1 k2 k3 k5 "ValueError.__new__")) (h1 : PySem.HandSPX.refsVE bm = true) (h2 : PySem.W.findIn K (.ref C) "__setattr__" = some (some (.builtin "object.__setattr__"))) (h3 : PySem.W.subIn K (.ref C) (.type "BaseException") = some true)
    (h4 : PySem.W.typeIn K (.ref C) = some (.type "type")) (h5 : PySem.W.keepIn K (.ref C) = true) (h6 : PySem.W.mroIn K C (.ref C) = some true) (h7 : PySem.W.ks_superIn K C C "__init__" = some (some (.builtin "ValueError.__init__"))) (h8 : PySem.W.subIn K (.ref C) (.type "ValueError") = some true) : XSup K C :=
  ⟨⟨⟨nm, q, N, bs, bm, sn, sub, ab, col, dd, k0, k1, k2, k3, k5, h0, h1⟩, h2, h3, h4, h5⟩, h6, h7, h8⟩
theorem XKn.eqC {cs cs' : List Value} {c f f' : Str} {C C' : Addr} (x : XKn K cs c f C) (y : XKn K cs' c f' C') : C = C' := by
  have e := x.ns.symm.trans y.ns
  cases e
  rfl
end
theorem xt_ne {c f c0 f0 : Str} {m : Int} {l : List ((Str × Str) × Int)} (h : c ≠ c0) : List.lookup (c, f) (((c0, f0), m) :: l) = List.lookup (c, f) l := by
  rw [List.lookup_cons]
  have e : ((c, f) == (c0, f0)) = false := by
    refine Bool.eq_false_iff.mpr fun hb => h ?_
    have e := eq_of_beq hb
    cases e
    rfl
  rw [e]
theorem xt_none {c f : Str} : ∀ {l : List ((Str × Str) × Int)}, (∀ q ∈ l, q.1.1 ≠ c) → List.lookup (c, f) l = none
  | [], _ => rfl
  | ((c0, f0), m) :: l, h => by
    rw [xt_ne (fun e => h _ List.mem_cons_self e.symm)]
    exact xt_none fun q hq => h q (List.mem_cons_of_mem _ hq)
theorem xt_only {c f f' : Str} {n m : Int} {l : List ((Str × Str) × Int)} (hno : ∀ q ∈ l, q.1.1 ≠ c) (h : List.lookup (c, f) (((c, f'), m) :: l) = some n) : f = f' ∧ n = m := by
  rw [List.lookup_cons] at h
  cases hb : (c, f) == (c, f') with
  | true =>
    rw [hb] at h
    have e := eq_of_beq hb
    cases e
    cases h
    exact ⟨rfl, rfl⟩
  | false =>
    rw [hb] at h
    have h : List.lookup (c, f) l = some n := h
    rw [xt_none hno] at h
    cases h
theorem roomH_markD {k : Nat} {A : Around} (r : Room k A) (h : Option Value) : L2H.RoomH k (A.mark h) := ⟨r.dp, r.un⟩
end Dt
namespace Dt
open PySem PySem.Spec PyProof.Rows L2
end Dt
namespace Dt
variable [GTab]
open PySem PySem.Spec PyProof.Rows L2
section
variable {K : PySem.W.Frag} {mg : Str → Option Value} {h : Heap} {c fl : Str} {C T f : Addr}
structure XcP (K : PySem.W.Frag) (mg : Str → Option Value) (c : Str) (C f : Addr) : Prop where
  ns : PySem.W.nsIn K mainGlobals c = some (some (.ref C))
  gC : mg c = some (.ref C)
  iC : PySem.W.findIn K (.ref C) "__init__" = some (some (.ref f))
  tI : PySem.W.typeIn K (.ref f) = some (.type "function")
theorem mkXp (X : K.In h) (G : h.Ns mainGlobals mg) (ns : PySem.W.nsIn K mainGlobals c = some (some (.ref C))) (iC : PySem.W.findIn K (.ref C) "__init__" = some (some (.ref f))) (tI : PySem.W.typeIn K (.ref f) = some (.type "function")) : XcP K mg c C f :=
  ⟨ns, PySem.W.mg_of X G ns, iC, tI⟩
theorem XcP.at_ (x : XcP K mg c C f) : AtF K f := trivial
theorem mkXS {nm q : Str} {N : Addr} {bs bm : List Value} {sn : List Str} {sub : List Value} {ab : Bool} {col : Option Bool} {dd : Option Addr} {k0 k1 k2 k3 k5 : Option Value} (x : XcP K mg c C f)
    (h0 : K.lookup C = some (excClassObj nm q C N bs bm true sn sub ab col dd k0 k1 k2 k3 k5 "ValueError.__new__")) (h1 : PySem.HandSPX.refsVE bm = true) (h2 : PySem.W.findIn K (.ref C) "__setattr__" = some (some (.builtin "object.__setattr__"))) (h3 : PySem.W.subIn K (.ref C) (.type "BaseException") = some true)
    (h4 : PySem.W.typeIn K (.ref C) = some (.type "type")) (h5 : PySem.W.keepIn K (.ref C) = true) (h6 : PySem.W.mroIn K C (.ref C) = some true) (h7 : PySem.W.ks_superIn K C C "__init__" = some (some (.builtin "ValueError.__init__"))) (h8 : PySem.W.subIn K (.ref C) (.type "ValueError") = some true) : XSup K C :=
  mkXSup h0 h1 h2 h3 h4 h5 h6 h7 h8
theorem mkXV {P : Program} {fd : FuncData} (x : XcP K mg c C f) (b : Binds K fd ["self", fl] []) (xs : XSup K C) (hno : PySem.W.findIn K (.ref C) fl = some none) : XcV P K mg c fl C f fd := ⟨x.ns, x.gC, b, xs, x.iC, x.tI, hno⟩
theorem mkXK {cs : List Value} (x : XcP K mg c C f) (fl : Str) (h1 : PySem.W.isClsIn K C = true) (h2 : PySem.W.findIn K (.ref C) "__getattribute__" = some (some (.builtin "BaseException.__getattribute__"))) (h3 : PySem.W.findIn K (.ref C) "__getattr__" = some none)
    (h4 : PySem.W.subIn K (.ref C) (.type "BaseException") = some true) (h5 : PySem.W.hasDictIn K C = true) (h6 : PySem.W.findIn K (.ref C) "__class__" = some (some (.builtin "object.__class__"))) (h7 : PySem.W.specialIn K (.builtin "object.__class__") "__get__" = some (some (.builtin "getset_descriptor.__get__")))
    (h8 : PySem.W.takesIn K (.builtin "object.__class__") = some true) (h9 : PySem.W.mroIn K C (.type "object") = some true) (hno : PySem.W.findIn K (.ref C) fl = some none) (ex : ∃ r, ExL K (.ref C) cs r ∧ r = true) : XKn K cs c fl C := by
  obtain ⟨r, e, rfl⟩ := ex
  exact mkXKn x.ns h1 h2 h3 h4 h5 h6 h7 h8 h9 hno e
/-- a class that is asked -/
structure KiT (K : PySem.W.Frag) (T : Addr) : Prop where
  ic : PySem.W.isClsIn K T = true
  tm : PySem.W.typeIn K (.ref T) = some (.type "type")
structure CgT (K : PySem.W.Frag) (mg : Str → Option Value) (t : Str) (T : Addr) : Prop where
  g : mg t = some (.ref T)
  k : KiT K T
theorem mkCg {t : Str} (X : K.In h) (G : h.Ns mainGlobals mg) (ns : PySem.W.nsIn K mainGlobals t = some (some (.ref T))) (ic : PySem.W.isClsIn K T = true) (tm : PySem.W.typeIn K (.ref T) = some (.type "type")) : CgT K mg t T := ⟨PySem.W.mg_of X G ns, ic, tm⟩
theorem mkKtS {t : Str} (x : XcP K mg c C f) (q : CgT K mg t T) {b : Bool} (e : (Value.ref C == Value.ref T) = false ∨ b = true) (sub : PySem.W.subIn K (.ref C) (.ref T) = some b) : PySem.W.kitOne K (.ref C) (.ref T) = some b := by
  unfold PySem.W.kitOne
  split
  · rename_i h
    rcases e with e | rfl
    · rw [e] at h; cases h
    · rfl
  · show (if ((PySem.W.clsIn K T).isSome && PySem.W.typeIn K (.ref T) == some (.type "type")) = true then PySem.W.subIn K (.ref C) (.ref T) else none) = some b
    have ic : (PySem.W.clsIn K T).isSome = true := q.k.ic
    rw [ic, q.k.tm, sub]
    exact if_pos (by simp)
theorem mkKtB {t : String} {b : Bool} (x : XcP K mg c C f) (m : PySem.W.kitMeta t = true) (sub : PySem.W.subIn K (.ref C) (.type t) = some b) : PySem.W.kitOne K (.ref C) (.type t) = some b := by
  unfold PySem.W.kitOne
  rw [if_neg (by show ¬ (false : Bool) = true; decide)]
  show (if PySem.W.kitMeta t = true then PySem.W.subIn K (.ref C) (.type t) else none) = some b
  rw [if_pos m, sub]
theorem CgT.be {t : Str} (q : CgT K mg t T) (h : PySem.W.subIn K (.ref T) (.type "BaseException") = some true) : PySem.W.subIn K (.ref T) (.type "BaseException") = some true := h
theorem ExL.consG {t : Str} {cls : Value} {b r : Bool} {l : List Value} (q : CgT K mg t T) (be : PySem.W.subIn K (.ref T) (.type "BaseException") = some true) (e : PySem.W.subIn K cls (.ref T) = some b) (h : ExL K cls l r) : ExL K cls (.ref T :: l) (b || r) := by
  refine .cons ?_ h
  unfold PySem.W.exmOne
  rw [be, if_pos (by simp)]
  show (if ((PySem.W.clsIn K T).isSome && PySem.W.typeIn K (.ref T) == some (.type "type")) = true then PySem.W.subIn K cls (.ref T) else none) = some b
  have ic : (PySem.W.clsIn K T).isSome = true := q.k.ic
  rw [ic, q.k.tm, e]
  exact if_pos (by simp)
/-- mkF, with the place of the code object -/
theorem mkFl {x : Str} {st : Stmt} {ps : List Str} {oc : Value} {od an : Option Addr} {osl : Array (Option Value)} {kV doc pm ct : Value} {cd : Addr} (X : K.In h) (G : h.Ns mainGlobals mg)
    (a : PySem.W.nsIn K mainGlobals x = some (some (.ref f))) (l : K.lookup f = some ⟨oc, od, .func (PySem.W.fnOf x x (defArgs st) (defBody st) (defScope st) .none kV doc pm an (.ref cd) ct), osl⟩)
    (c : PySem.W.codeIn K (.ref cd) x = true) (k : PySem.W.keepIn K (.ref f) = true)
    (b : ∀ (kV doc pm : Value) (an : Option Addr) (cdv ct : Value) (us : List Value), us.length = ps.length → bindArgs (PySem.W.fnOf x x (defArgs st) (defBody st) (defScope st) .none kV doc pm an cdv ct) ⟨us, []⟩ = pure (ps.zip us)) :
    ∃ a fd, Fun K x x st a fd ∧ mg x = some (.ref a) ∧ Binds K fd ps [] ∧ fd.code = .ref cd :=
  have F := fun_mk (st := st) l c k
  ⟨f, _, F, PySem.W.mg_of X G a, F.binds b, rfl⟩
theorem kt_in1 {t : Addr} {o : Obj} {h : Heap} (X : PySem.W.Frag.In ((t, o) :: K) h) (hn : K.lookup t = none) : PySem.W.Frag.In K h ∧ h.get? t = some o := by
  refine ⟨fun b u e => X b u ?_, X t o (by rw [List.lookup_cons, beq_self_eq_true])⟩
  rw [List.lookup_cons]
  cases q : (b == t) with
  | false => exact e
  | true =>
    rw [beq_iff_eq.mp q, hn] at e
    cases e
theorem codeHd_of1 {h : Heap} {c t : Addr} {od : Option Addr} {osl : Array (Option Value)} {us : Array Value} {f : Str} {a1 a2 a3 : Tok} {i j : Int} {b : Bool} (e : h.get? c = some ⟨.type "code", od, .fields us, osl⟩)
    (h11 : us[11]? = some (.ref t)) (h18 : us.getD 18 .none = .str f a1) (h7 : us.getD 7 .none = .int i a2) (h9 : us.getD 9 .none = .bool b) (h10 : us.getD 10 .none = .int j a3) (ne : c ≠ t) : PySem.W.CodeHd h c t :=
  ⟨_, us, f, a1, i, a2, b, j, a3, e, rfl, rfl, h11, by rw [Array.getD_eq_getD_getElem?, h11]; rfl, h18, h7, h9, h10, ne⟩
end
end Dt
namespace Dt
open PySem PySem.Spec PyProof.Rows L2
end Dt
namespace Dt
variable [GTab]
open PySem PySem.Spec PyProof.Rows L2
theorem beq_dec {α : Type} [DecidableEq α] [BEq α] [LawfulBEq α] (a b : α) : (a == b) = decide (a = b) := by
  by_cases h : a = b <;> simp [h]
abbrev TS (r : List Str) : D := .tup (r.map .str)
@[simp] theorem flat_str (n : Nat) (x : Str) : flat n (.str x) = true := by unfold flat; rfl
@[simp] theorem flat_int (n : Nat) (x : Int) : flat n (.int x) = true := by unfold flat; rfl
@[simp] theorem flat_bl (n : Nat) (x : Bool) : flat n (.bl x) = true := by unfold flat; rfl
@[simp] theorem flat_non (n : Nat) : flat n .non = true := by unfold flat; rfl
@[simp] theorem flats_nil (n : Nat) : flats n [] = true := by unfold flats; rfl
@[simp] theorem flats_cons (n : Nat) (x : D) (xs : List D) : flats n (x :: xs) = (flat n x && flats n xs) := by rw [flats]
@[simp] theorem flat_tup (n : Nat) (xs : List D) : flat (n + 1) (.tup xs) = flats n xs := by rw [flat]
@[simp] theorem flat_lst (n : Nat) (xs : List D) : flat (n + 1) (.lst xs) = flats n xs := by rw [flat]
@[simp] theorem flats_strs (n : Nat) : ∀ xs : List Str, flats n (xs.map .str) = true
  | [] => flats_nil n
  | x :: xs => by rw [List.map_cons, flats_cons, flats_strs n xs]; simp
@[simp] theorem flats_bls (n : Nat) : ∀ xs : List Bool, flats n (xs.map .bl) = true
  | [] => flats_nil n
  | x :: xs => by rw [List.map_cons, flats_cons, flats_bls n xs]; simp
theorem flats_all {α : Type} (n : Nat) (f : α → D) (h : ∀ x, flat n (f x) = true) : ∀ xs : List α, flats n (xs.map f) = true
  | [] => flats_nil n
  | x :: xs => by rw [List.map_cons, flats_cons, flats_all n f h xs, h]; rfl
@[simp] theorem flats_TS (n : Nat) (xs : List (List Str)) : flats (n + 1) (xs.map TS) = true := flats_all _ _ (fun x => by rw [flat_tup]; exact flats_strs n x) xs
@[simp] theorem deqv_str (a b : Str) : deqv (.str a) (.str b) = (a == b) := by simp [deqv]
theorem deqvs_map {α : Type} [DecidableEq α] (f : α → D) (h : ∀ a b, deqv (f a) (f b) = decide (a = b)) : ∀ xs ys : List α, deqvs (xs.map f) (ys.map f) = decide (xs = ys)
  | [], [] => by simp [deqvs]
  | [], y :: ys => by simp [deqvs]
  | x :: xs, [] => by simp [deqvs]
  | x :: xs, y :: ys => by
    rw [List.map_cons, List.map_cons, deqvs, h, deqvs_map f h xs ys]
    simp
theorem deqvs_strs (xs ys : List Str) : deqvs (xs.map .str) (ys.map .str) = decide (xs = ys) := deqvs_map _ (fun a b => by rw [deqv_str]; simp [beq_dec]) xs ys
theorem deqvs_bls (xs ys : List Bool) : deqvs (xs.map .bl) (ys.map .bl) = decide (xs = ys) := deqvs_map _ (fun a b => by rw [deqv]; simp [beq_dec]) xs ys
theorem deqv_TS (xs ys : List Str) : deqv (TS xs) (TS ys) = decide (xs = ys) := by unfold TS; rw [deqv]; exact deqvs_strs xs ys
theorem ev_eqS {a b : Str} : dEq (.str a) (.str b) = some (.bl (decide (a = b))) := by
  unfold dEq; simp [beq_dec]
theorem ev_neS {a b : Str} : dNe (.str a) (.str b) = some (.bl (!decide (a = b))) := by
  unfold dNe; simp [beq_dec]
theorem ev_eqI {a b : Int} : dEq (.int a) (.int b) = some (.bl (decide (a = b))) := by
  unfold dEq; simp [deqv, beq_dec]
theorem ev_neI {a b : Int} : dNe (.int a) (.int b) = some (.bl (!decide (a = b))) := by
  unfold dNe; simp [deqv, beq_dec]
theorem ev_eqT {a b : List Str} : dEq (.tup (a.map .str)) (.tup (b.map .str)) = some (.bl (decide (a = b))) := by
  unfold dEq deep; rw [flat_tup, flat_tup, flats_strs, flats_strs, deqv, deqvs_strs]; rfl
theorem ev_eqT1 {a : List Str} {b : Str} : dEq (.tup (a.map .str)) (.tup [.str b]) = some (.bl (decide (a = [b]))) := ev_eqT (b := [b])
theorem ev_eqL {a b : List Str} : dEq (.lst (a.map .str)) (.lst (b.map .str)) = some (.bl (decide (a = b))) := by
  unfold dEq deep; rw [flat_lst, flat_lst, flats_strs, flats_strs, deqv, deqvs_strs]; rfl
theorem ev_neB {a b : List Bool} : dNe (.lst (a.map .bl)) (.lst (b.map .bl)) = some (.bl (!decide (a = b))) := by
  unfold dNe deep; rw [flat_lst, flat_lst, flats_bls, flats_bls, deqv, deqvs_bls]; rfl
theorem any_map {α : Type} [DecidableEq α] (f : α → D) (h : ∀ a b, deqv (f a) (f b) = decide (a = b)) (x : α) : ∀ xs : List α, ((xs.map f).any fun e => deqv e (f x)) = decide (x ∈ xs)
  | [] => by simp
  | y :: ys => by
    rw [List.map_cons, List.any_cons, h, any_map f h x ys]
    by_cases e : y = x
    · subst e; simp
    · have e2 : ¬ x = y := fun z => e z.symm
      simp [e, e2]
theorem ev_inL {a : Str} {xs : List Str} : dIn (.str a) (.lst (xs.map .str)) = some (.bl (decide (a ∈ xs))) := by
  unfold dIn; simp only [flat_str, flats_strs, Bool.and_self, if_true]
  rw [any_map _ (fun a b => by rw [deqv_str]; simp [beq_dec])]
theorem ev_inT {a : Str} {xs : List Str} : dIn (.str a) (.tup (xs.map .str)) = some (.bl (decide (a ∈ xs))) := by
  unfold dIn; simp only [flat_str, flats_strs, Bool.and_self, if_true]
  rw [any_map _ (fun a b => by rw [deqv_str]; simp [beq_dec])]
theorem ev_ninL {a : Str} {xs : List Str} : dNotIn (.str a) (.lst (xs.map .str)) = some (.bl (!decide (a ∈ xs))) := by
  unfold dNotIn; rw [ev_inL]
theorem ev_ninT {a : Str} {xs : List Str} : dNotIn (.str a) (.tup (xs.map .str)) = some (.bl (!decide (a ∈ xs))) := by
  unfold dNotIn; rw [ev_inT]
theorem ev_inTL {a : List Str} {xs : List (List Str)} : dIn (.tup (a.map .str)) (.lst (xs.map TS)) = some (.bl (decide (a ∈ xs))) := by
  unfold dIn; simp only [flat_tup, flats_strs, flats_TS, Bool.and_self, if_true]
  rw [any_map TS deqv_TS]
  exact congrArg some (congrArg D.bl (decide_eq_decide.mpr Iff.rfl))
theorem ev_ninTL {a : List Str} {xs : List (List Str)} : dNotIn (.tup (a.map .str)) (.lst (xs.map TS)) = some (.bl (!decide (a ∈ xs))) := by
  unfold dNotIn; rw [ev_inTL]
theorem dcut_take {α : Type} (xs : List α) {i : Int} (h : 0 ≤ i) : dcut xs none (some i) = xs.take i.toNat := by
  obtain ⟨n, rfl⟩ := Int.eq_ofNat_of_zero_le h
  unfold dcut
  rw [HT.sIx_none, HT.sIx_nat, List.drop_zero, Nat.sub_zero, Int.toNat_natCast]
  rcases Nat.le_total n xs.length with h | h
  · rw [Nat.min_eq_left h]
  · rw [Nat.min_eq_right h, List.take_length, List.take_of_length_le h]
theorem dcut_drop {α : Type} (xs : List α) {i : Int} (h : 0 ≤ i) : dcut xs (some i) none = xs.drop i.toNat := by
  obtain ⟨n, rfl⟩ := Int.eq_ofNat_of_zero_le h
  unfold dcut
  rw [HT.sIx_none, HT.sIx_nat, Int.toNat_natCast]
  rcases Nat.le_total n xs.length with h | h
  · rw [Nat.min_eq_left h, List.take_of_length_le (by rw [List.length_drop]; exact Nat.le_refl _)]
  · rw [Nat.min_eq_right h, List.drop_length, List.drop_of_length_le h, List.take_nil]
theorem sIx_neg (n d : Nat) {k : Nat} (h : 0 < k) : HT.sIx n d (some (-(k : Int))) = n - k := by
  show (if (-(k : Int)) < 0 then (-(k : Int) + (n : Int)).toNat else _) = _
  rw [if_pos (by omega)]
  omega
theorem dcut_init {α : Type} (xs : List α) {k : Nat} (h : 0 < k) : dcut xs none (some (-(k : Int))) = xs.take (xs.length - k) := by
  unfold dcut
  rw [HT.sIx_none, sIx_neg _ _ h, List.drop_zero, Nat.sub_zero]
theorem cutS_tl (z : Str) (lo hi : Option Int) : (cutS z lo hi).cps.toList = dcut z.cps.toList lo hi := by
  unfold cutS dcut
  rw [TL.len_tl]
theorem atI_at {α : Type} {xs : List α} {i : Int} {v : α} (h0 : 0 ≤ i) (h : xs[i.toNat]? = some v) : atI xs i = some v := by
  obtain ⟨n, rfl⟩ := Int.eq_ofNat_of_zero_le h0
  exact atI_nat (by simpa using h)
theorem ix_str {x : Str} {i : Int} {c : Nat} (h0 : 0 ≤ i) (h : x.cps.toList[i.toNat]? = some c) (p : List Int) : ixD (.str x) (.int i) p = some (.str ⟨#[c]⟩) := by
  show (atI x.cps.toList i).map _ = _
  rw [atI_at h0 h]
  rfl
theorem ix_lst {xs : List D} {i : Int} {d : D} (h0 : 0 ≤ i) (h : xs[i.toNat]? = some d) (p : List Int) : ixD (.lst xs) (.int i) p = some d := atI_at h0 h
theorem ix_lstS {xs : List Str} {i : Int} {d : Str} (h0 : 0 ≤ i) (h : xs[i.toNat]? = some d) (p : List Int) : ixD (.lst (xs.map .str)) (.int i) p = some (.str d) := ix_lst h0 (by rw [List.getElem?_map, h]; rfl) p
theorem ev_all {bs : List Bool} : dAll [.lst (bs.map .bl)] = some (.bl (bs.all id)) := by
  show (asBls (bs.map .bl)).map _ = _
  rw [asBls_map]
  rfl
theorem ev_any {bs : List Bool} : dAny [.lst (bs.map .bl)] = some (.bl (bs.any id)) := by
  show (asBls (bs.map .bl)).map _ = _
  rw [asBls_map]
  rfl
@[simp] theorem nps_strs : ∀ xs : List Str, nps (xs.map .str) = true
  | [] => by simp [nps]
  | x :: xs => by rw [List.map_cons, nps, nps_strs xs]; simp [np]
theorem lcGo_map {α : Type} {mg : D → Ev → Option Ev} {mt : MB} {me : M} {r0 : Ev} {p : List Int} (g : α → D) (t : α → Bool) (f : α → D) : ∀ {xs : List α}, (∀ x ∈ xs, ∃ r1, mg (g x) r0 = some r1 ∧ mt r1 p = some (t x, p) ∧ (t x = true → me r1 p = some (f x, p))) → lcGo mg mt me r0 (xs.map g) p = some ((xs.filter t).map f, p)
  | [], _ => rfl
  | x :: xs, h => by
    obtain ⟨r1, e1, e2, e3⟩ := h x List.mem_cons_self
    have ih := lcGo_map g t f (xs := xs) fun d hd => h d (List.mem_cons_of_mem _ hd)
    rw [List.map_cons]
    unfold lcGo
    simp only [e1, e2, bnd]
    cases ht : t x with
    | true => simp only [if_true, e3 ht, ih, List.filter_cons, ht, List.map_cons]
    | false => simp [ih, List.filter_cons, ht]
theorem lcGo_all {α : Type} {mg : D → Ev → Option Ev} {me : M} {mt : MB} {r0 : Ev} {p : List Int} (g : α → D) (f : α → D) {xs : List α} (h : ∀ x ∈ xs, ∃ r1, mg (g x) r0 = some r1 ∧ mt r1 p = some (true, p) ∧ me r1 p = some (f x, p)) : lcGo mg mt me r0 (xs.map g) p = some (xs.map f, p) := by
  have := lcGo_map (mg := mg) (mt := mt) (me := me) (r0 := r0) (p := p) g (fun _ => true) f (xs := xs) fun x hx => by
    obtain ⟨r1, a, b, c⟩ := h x hx
    exact ⟨r1, a, b, fun _ => c⟩
  rwa [List.filter_eq_self.mpr fun _ _ => rfl] at this
theorem Wp.eq {α : Type} {x : MR α} {d : α} {p : List Int} (h : Wp x fun a q => a = d ∧ q = p) : x = some (d, p) := by
  obtain ⟨a, q, e, rfl, rfl⟩ := h
  exact e
theorem ev_all_map {α : Type} {f : α → Bool} {xs : List α} : dAll [.lst (xs.map fun x => .bl (f x))] = some (.bl (xs.all f)) := by
  have e : (xs.map fun x => D.bl (f x)) = (xs.map f).map .bl := by rw [List.map_map]; rfl
  rw [e, ev_all, List.all_map]
  rfl
theorem ev_any_map {α : Type} {f : α → Bool} {xs : List α} : dAny [.lst (xs.map fun x => .bl (f x))] = some (.bl (xs.any f)) := by
  have e : (xs.map fun x => D.bl (f x)) = (xs.map f).map .bl := by rw [List.map_map]; rfl
  rw [e, ev_any, List.any_map]
  rfl
theorem bl_i {c : Bool} {P : Bool → Prop} (h : P c) : ∃ b, D.bl c = .bl b ∧ P b := ⟨c, rfl, h⟩
theorem int_i {c : Int} {P : Int → Prop} (h : P c) : ∃ b, D.int c = .int b ∧ P b := ⟨c, rfl, h⟩
theorem tru_bl {c : Bool} {P : Bool → Prop} (h : P c) : ∃ b, dTru (.bl c) = some b ∧ P b := ⟨c, rfl, h⟩
theorem neg_i {c : Int} {P : D → Prop} (h : P (.int (-c))) : ∃ z, dNeg (.int c) = some z ∧ P z := ⟨_, rfl, h⟩
theorem len_l {xs : List D} {P : D → Prop} (h : P (.int xs.length)) : ∃ z, dLen [.lst xs] = some z ∧ P z := ⟨_, rfl, h⟩
theorem len_t {xs : List D} {P : D → Prop} (h : P (.int xs.length)) : ∃ z, dLen [.tup xs] = some z ∧ P z := ⟨_, rfl, h⟩
theorem tup_l {xs : List D} {P : D → Prop} (h : P (.tup xs)) : ∃ z, dTuple [.lst xs] = some z ∧ P z := ⟨_, rfl, h⟩
theorem it_l {xs : List D} {P : List D → Prop} (h : P xs) : ∃ z, itemsOf (.lst xs) = some z ∧ P z := ⟨_, rfl, h⟩
theorem it_t {xs : List D} {P : List D → Prop} (h : P xs) : ∃ z, itemsOf (.tup xs) = some z ∧ P z := ⟨_, rfl, h⟩
theorem ev_inTL1 {a : Str} {xs : List (List Str)} : dIn (.tup [.str a]) (.lst (xs.map TS)) = some (.bl (decide ([a] ∈ xs))) := ev_inTL (a := [a])
theorem ev_ninTL1 {a : Str} {xs : List (List Str)} : dNotIn (.tup [.str a]) (.lst (xs.map TS)) = some (.bl (!decide ([a] ∈ xs))) := ev_ninTL (a := [a])
theorem ev_ninTL0 {xs : List (List Str)} : dNotIn (.tup []) (.lst (xs.map TS)) = some (.bl (!decide ([] ∈ xs))) := ev_ninTL (a := [])
theorem sl_take1 {xs : List Str} : dSl (.tup (xs.map .str)) none (some 1) = some (.tup ((xs.take 1).map .str)) := by
  show some (D.tup (dcut (xs.map D.str) none (some 1))) = _
  rw [dcut_take _ (by decide), List.map_take]
  rfl
theorem sl_drop1 {xs : List Str} : dSl (.tup (xs.map .str)) (some 1) none = some (.tup ((xs.drop 1).map .str)) := by
  show some (D.tup (dcut (xs.map D.str) (some 1) none)) = _
  rw [dcut_drop _ (by decide), List.map_drop]
  rfl
theorem sl_takeL {α : Type} (f : α → D) {xs : List α} {i : Int} (h : 0 ≤ i) : dSl (.lst (xs.map f)) none (some i) = some (.lst ((xs.take i.toNat).map f)) := by
  show some (D.lst (dcut (xs.map f) none (some i))) = _
  rw [dcut_take _ h, List.map_take]
theorem sl_dropL {α : Type} (f : α → D) {xs : List α} {i : Int} (h : 0 ≤ i) : dSl (.lst (xs.map f)) (some i) none = some (.lst ((xs.drop i.toNat).map f)) := by
  show some (D.lst (dcut (xs.map f) (some i) none)) = _
  rw [dcut_drop _ h, List.map_drop]
theorem ev_addL {a b : List D} (h : a.length + b.length ≤ lim) : dAdd (.lst a) (.lst b) = some (.lst (a ++ b)) := if_pos h
theorem ev_addS {a b : Str} (h : a.length + b.length ≤ lim) : dAdd (.str a) (.str b) = some (.str (a ++ b)) := if_pos h
theorem ev_addI {a b : Int} : dAdd (.int a) (.int b) = some (.int (a + b)) := rfl
end Dt
namespace Tx
variable [Dt.GTab]
open PySem PySem.Spec PyProof.Rows L2 Dt
def sSl : Str := "/"
def sLet : Str := "abcdefghijklmnopqrstuvwxyz"
abbrev tl (x : Str) : List Nat := x.cps.toList
structure Nm (s : Str) : Prop where
  pos : 1 ≤ s.length
  le : s.length ≤ 8
  lets : ∀ c ∈ tl s, c ∈ tl sLet
theorem let_no {c : Nat} (h : c ∈ tl sLet) : c ≠ 47 ∧ c ≠ 42 ∧ c ≠ 46 ∧ c ≠ 32 ∧ c ≠ 61 ∧ 97 ≤ c ∧ c ≤ 122 := by
  have : ∀ c ∈ tl sLet, c ≠ 47 ∧ c ≠ 42 ∧ c ≠ 46 ∧ c ≠ 32 ∧ c ≠ 61 ∧ 97 ≤ c ∧ c ≤ 122 := by decide +kernel
  exact this c h
theorem Nm.nosl {s : Str} (h : Nm s) : 47 ∉ tl s := fun z => (let_no (h.lets _ z)).1 rfl
def J (ps : List Str) : Str := Txt.join sSl ps
def noSl (s : Str) : Prop := 47 ∉ TL.tl s
theorem split_J {ps : List Str} (h : ps ≠ []) (hp : ∀ p ∈ ps, noSl p) : Txt.split (J ps) sSl = ps :=
  TL.split_join (y := sSl) (s := 47) (S := []) (by decide +kernel) (by decide +kernel) h hp
theorem J_inj {ps qs : List Str} (h : ps ≠ []) (hp : ∀ p ∈ ps, noSl p) (h' : qs ≠ []) (hq : ∀ p ∈ qs, noSl p) (e : J ps = J qs) : ps = qs := by
  rw [← split_J h hp, ← split_J h' hq, e]
theorem len_sl : sSl.length = 1 := by decide +kernel
/-- short names, few of them -/
structure Sml (n : Nat) (ps : List Str) : Prop where
  cnt : ps.length ≤ n
  ech : ∀ s ∈ ps, s.length ≤ 8
theorem sum_le {α : Type} (f : α → Nat) (b : Nat) : ∀ l : List α, (∀ x ∈ l, f x ≤ b) → (l.map f).sum ≤ l.length * b
  | [], _ => by simp
  | x :: l, h => by
    have h1 := h x List.mem_cons_self
    have h2 := sum_le f b l fun y hy => h y (List.mem_cons_of_mem _ hy)
    rw [List.map_cons, List.sum_cons, List.length_cons, Nat.add_mul, Nat.one_mul]
    omega
theorem Sml.sz {n : Nat} {ps : List Str} (h : Sml n ps) (hn : n ≤ 100000) : joinSz sSl ps ≤ lim := by
  unfold joinSz
  have h1 := sum_le (·.length) 8 ps h.ech
  have h2 := h.cnt
  rw [len_sl]
  unfold lim
  have : ps.length * 8 ≤ 100000 * 8 := Nat.mul_le_mul_right 8 (by omega)
  omega
theorem Sml.len {n : Nat} {ps : List Str} (h : Sml n ps) (hn : n ≤ 100000) : (J ps).length ≤ lim := by
  have h1 := h.sz hn
  have h2 := joinLen sSl ps
  unfold J
  rw [TL.join_eq]
  omega
theorem J_snoc {ps : List Str} (h : ps ≠ []) (x : Str) : J (ps ++ [x]) = J ps ++ sSl ++ x := by
  unfold J
  rw [TL.join_eq, TL.join_eq]
  refine TL.ext_tl ?_
  rw [TL.tl_join, TL.tl_append, TL.tl_append, TL.tl_join]
  induction ps with
  | nil => exact absurd rfl h
  | cons p ps ih =>
    cases ps with
    | nil => simp [TL.joinL]
    | cons q qs =>
      have ih := ih (by simp)
      simp only [List.cons_append, List.map_cons, TL.joinL] at ih ⊢
      rw [ih]
      simp
theorem J_one (x : Str) : J [x] = x := by
  unfold J
  rw [TL.join_eq]
  rfl
structure PsOk (ps : List Str) : Prop where
  ne : ps ≠ []
  le : ps.length ≤ 3
  nm : ∀ n ∈ ps, Nm n
def Pth (s : Str) : Prop := ∃ ps, PsOk ps ∧ s = J ps
theorem PsOk.nosl {ps : List Str} (h : PsOk ps) : ∀ p ∈ ps, noSl p := fun p hp => (h.nm p hp).nosl
theorem PsOk.sml {ps : List Str} (h : PsOk ps) : Sml 3 ps := ⟨h.le, fun s hs => (h.nm s hs).le⟩
theorem PsOk.split {ps : List Str} (h : PsOk ps) : Txt.split (J ps) sSl = ps := split_J h.ne h.nosl
theorem PsOk.len {ps : List Str} (h : PsOk ps) : (J ps).length ≤ 27 := by
  have h2 := joinLen sSl ps
  have h3 : joinSz sSl ps ≤ 27 := by
    unfold joinSz
    have h1 := sum_le (·.length) 8 ps fun s hs => (h.nm s hs).le
    have h4 := h.le
    rw [len_sl]
    omega
  unfold J
  rw [TL.join_eq]
  omega
theorem Pth.len {s : Str} (h : Pth s) : s.length ≤ 27 := by
  obtain ⟨ps, h1, rfl⟩ := h
  exact h1.len
theorem mem_joinL {S : List Nat} {c : Nat} : ∀ {ls : List (List Nat)}, c ∈ TL.joinL S ls → c ∈ S ∨ ∃ l ∈ ls, c ∈ l
  | [], h => by cases h
  | [l], h => .inr ⟨l, by simp, h⟩
  | l :: l2 :: ls, h => by
    have h : c ∈ l ++ (S ++ TL.joinL S (l2 :: ls)) := by simpa [TL.joinL] using h
    rcases List.mem_append.mp h with h | h
    · exact .inr ⟨l, by simp, h⟩
    · rcases List.mem_append.mp h with h | h
      · exact .inl h
      · rcases mem_joinL h with h | ⟨l', h1, h2⟩
        · exact .inl h
        · exact .inr ⟨l', List.mem_cons_of_mem _ h1, h2⟩
theorem Pth.chars {s : Str} (h : Pth s) : ∀ c ∈ tl s, c ∈ tl sLet ∨ c = 47 := by
  obtain ⟨ps, h1, rfl⟩ := h
  intro c hc
  have e : tl (J ps) = TL.joinL (tl sSl) (ps.map tl) := by
    unfold J
    rw [TL.join_eq]
    exact TL.tl_join sSl ps
  rw [e] at hc
  rcases mem_joinL hc with h | ⟨l, h2, h3⟩
  · have : tl sSl = [47] := by decide +kernel
    rw [this] at h
    exact .inr (List.mem_singleton.mp h)
  · obtain ⟨w, hw, rfl⟩ := List.mem_map.mp h2
    exact .inl ((h1.nm w hw).lets c h3)
theorem Pth.no {s : Str} (h : Pth s) : 32 ∉ tl s ∧ 61 ∉ tl s := by
  refine ⟨fun z => ?_, fun z => ?_⟩
  · rcases h.chars _ z with e | e
    · exact (let_no e).2.2.2.1 rfl
    · cases e
  · rcases h.chars _ z with e | e
    · exact (let_no e).2.2.2.2.1 rfl
    · cases e
theorem Pth.snoc {p : List Str} {n : Str} (h : PsOk p) (h2 : p.length ≤ 2) (hn : Nm n) : PsOk (p ++ [n]) ∧ J (p ++ [n]) = J p ++ sSl ++ n := by
  refine ⟨⟨by simp, by rw [List.length_append, List.length_singleton]; omega, fun s hs => ?_⟩, J_snoc h.ne n⟩
  rcases List.mem_append.mp hs with h1 | h1
  · exact h.nm s h1
  · rw [List.mem_singleton.mp h1]; exact hn
def lt1 (k : Nat) : Str := ⟨#[97 + k]⟩
theorem lt1_tl (k : Nat) : tl (lt1 k) = [97 + k] := rfl
theorem let_at {k : Nat} (h : k < 26) : (tl sLet)[k]? = some (97 + k) := by
  have : ∀ k : Fin 26, (tl sLet)[k.val]? = some (97 + k.val) := by decide +kernel
  exact this ⟨k, h⟩
theorem lt1_nm {k : Nat} (h : k < 26) : Nm (lt1 k) where
  pos := by show 1 ≤ 1; decide
  le := by show 1 ≤ 8; decide
  lets := fun c hc => by
    rw [lt1_tl] at hc
    rw [List.mem_singleton.mp hc]
    exact List.mem_of_getElem? (let_at h)
theorem mem_joinL0 {c : Nat} : ∀ {ls : List (List Nat)}, c ∈ TL.joinL [] ls → ∃ l ∈ ls, c ∈ l
  | [], h => by cases h
  | [l], h => ⟨l, by simp, h⟩
  | l :: l2 :: ls, h => by
    have h : c ∈ l ++ ([] ++ TL.joinL [] (l2 :: ls)) := h
    rw [List.nil_append] at h
    rcases List.mem_append.mp h with h | h
    · exact ⟨l, by simp, h⟩
    · obtain ⟨l', h1, h2⟩ := mem_joinL0 h
      exact ⟨l', List.mem_cons_of_mem _ h1, h2⟩
def sEm : Str := ""
structure GoodW (ws : List Str) : Prop where
  ne : ws ≠ []
  nm : ∀ s ∈ ws, Nm s
  ln : ws.length ≤ 3
def nmB (s : Str) : Bool := decide (1 ≤ s.length) && decide (s.length ≤ 8) && (tl s).all fun c => decide (c ∈ tl sLet)
def goodB (ws : List Str) : Bool := decide (ws ≠ []) && ws.all nmB && decide (ws.length ≤ 3)
theorem good_of {ws : List Str} (h : goodB ws = true) : GoodW ws := by
  unfold goodB at h
  rw [Bool.and_eq_true, Bool.and_eq_true] at h
  refine ⟨of_decide_eq_true h.1.1, fun s hs => ?_, of_decide_eq_true h.2⟩
  have h2 := List.all_eq_true.mp h.1.2 s hs
  unfold nmB at h2
  rw [Bool.and_eq_true, Bool.and_eq_true] at h2
  exact ⟨of_decide_eq_true h2.1.1, of_decide_eq_true h2.1.2, fun c hc => of_decide_eq_true (List.all_eq_true.mp h2.2 c hc)⟩
theorem join1 {ws : List Str} (h : ∀ w ∈ ws, w.length ≤ 1) (hn : ws.length ≤ 7) (hA : ∀ w ∈ ws, ∀ c ∈ tl w, c ∈ tl sLet) : ∃ z, dJoin (.str "") [.lst (ws.map .str)] = some (.str z) ∧ z.length ≤ 7 ∧ ∀ c ∈ tl z, c ∈ tl sLet := by
  have hz : joinSz sEm ws ≤ 7 := by
    unfold joinSz
    have h1 := sum_le (·.length) 1 ws h
    have h2 : sEm.length = 0 := by decide +kernel
    rw [h2, Nat.mul_zero, Nat.add_zero]
    omega
  refine ⟨Txt.join sEm ws, ?_, ?_, ?_⟩
  · show (match asStrs (ws.map D.str) with | some ys => if joinSz sEm ys ≤ lim then some (D.str (Txt.join sEm ys)) else none | none => none) = _
    rw [asStrs_map]
    refine if_pos ?_
    unfold lim
    omega
  · have := joinLen sEm ws
    rw [TL.join_eq]
    omega
  · intro c hc
    have e : tl (Txt.join sEm ws) = TL.joinL [] (ws.map tl) := by
      rw [TL.join_eq]
      exact TL.tl_join sEm ws
    rw [e] at hc
    obtain ⟨l, h1, h2⟩ := mem_joinL0 hc
    obtain ⟨w, hw, rfl⟩ := List.mem_map.mp h1
    exact hA w hw c h2
def under (k p : Str) : Bool := decide (k = p) || decide ((tl k).take (p.length + 1) = tl p ++ [47])
theorem tl_sl : tl sSl = [47] := by decide +kernel
theorem starts_eq (k p : Str) : Txt.startswith k (p ++ "/") = decide ((tl k).take (p.length + 1) = tl p ++ [47]) := by
  have hl : (p ++ "/" : Str).length = p.length + 1 := by rw [str_app_len]; rfl
  have ht : tl (p ++ "/" : Str) = tl p ++ [47] := TL.tl_append _ _
  unfold Txt.startswith
  rw [hl]
  unfold Builtin.Str.subAt
  rw [hl, Nat.zero_add]
  have e : (k.cps.extract 0 (p.length + 1)).toList = (tl k).take (p.length + 1) := by simp
  by_cases h : (tl k).take (p.length + 1) = tl p ++ [47]
  · rw [decide_eq_true h]
    have h1 : p.length + 1 ≤ k.length := by
      have := congrArg List.length h
      rw [List.length_take, List.length_append, List.length_singleton, ← TL.len_tl, ← TL.len_tl] at this
      omega
    have h2 : k.cps.extract 0 (p.length + 1) = (p ++ "/" : Str).cps := Array.toList_inj.mp (by rw [e, h]; exact ht.symm)
    rw [h2]
    simp [h1]
  · rw [decide_eq_false h, Bool.and_eq_false_iff]
    refine .inr ?_
    rw [beq_eq_false_iff_ne]
    intro z
    refine h ?_
    rw [← e, z]
    exact ht
end Tx
namespace Tx
variable [Dt.GTab]
open PySem PySem.Spec PyProof.Rows L2 Dt
def fK (q : Str × Int) : Key × D := (Sum.inr q.1, .int q.2)
abbrev box (qs : List (Str × Int)) : D := dkv (qs.map fK)
end Tx
namespace Tx
variable [Dt.GTab]
open PySem PySem.Spec PyProof.Rows L2 Dt
def num (i : Int) : Str := toString i
/-- the digits of an integer, without the sign -/
def numD (i : Int) : Str := toString ((i.natAbs : Nat) : Int)
theorem tl_numD (i : Int) : tl (numD i) = TL.numL i.natAbs := TL.tl_num _
theorem tl_num_pos {i : Int} (h : 0 ≤ i) : tl (num i) = TL.numL i.natAbs := by
  have e : i = ((i.natAbs : Nat) : Int) := by omega
  unfold num
  rw [e]
  exact TL.tl_num _
theorem tl_num_neg {i : Int} (h : i < 0) : tl (num i) = 45 :: TL.numL i.natAbs := by
  cases i with
  | ofNat m => exact absurd h (by simp)
  | negSucc m =>
    have e : (toString (Int.negSucc m) : String) = "-" ++ Nat.repr (m + 1) := rfl
    have h1 : tl (num (Int.negSucc m)) = ("-" ++ Nat.repr (m + 1)).toList.map Char.toNat := TL.tl_ofString _
    rw [h1, String.toList_append, List.map_append]
    have h2 : TL.numL (Int.negSucc m).natAbs = (Nat.repr (m + 1)).toList.map Char.toNat := by
      show TL.numL (m + 1) = _
      rw [← TL.tl_num (m + 1)]
      exact TL.tl_ofString _
    rw [h2]
    rfl
theorem num_text {i : Int} (h : i.natAbs < 10 ^ 100) : PySem.intText? (num i) = some i ∧ (num i).length ≤ 101 ∧ (numD i).length ≤ 100 := by
  have hl : (TL.numL i.natAbs).length ≤ 100 := TL.numL_len (by decide) h
  have hd : (numD i).length ≤ 100 := by rw [TL.len_tl, show TL.tl (numD i) = _ from tl_numD i]; exact hl
  by_cases hi : 0 ≤ i
  · have e := tl_num_pos hi
    have hln : (num i).length ≤ 100 := by rw [TL.len_tl, show TL.tl (num i) = _ from e]; exact hl
    refine ⟨?_, by omega, hd⟩
    rw [intText_digits (by rw [show (num i).cps.toList = _ from e]; exact TL.numL_digits _) (by rw [show (num i).cps.toList = _ from e]; exact TL.numL_ne _) (by omega), show (num i).cps.toList = _ from e, TL.numL_val]
    congr 1
    omega
  · have e := tl_num_neg (show i < 0 by omega)
    have hln : (num i).length ≤ 101 := by
      rw [TL.len_tl, show TL.tl (num i) = _ from e, List.length_cons]
      omega
    refine ⟨?_, hln, hd⟩
    rw [intText_neg (show (num i).cps.toList = _ from e) (TL.numL_digits _) (TL.numL_ne _) (by omega), TL.numL_val]
    congr 1
    omega
end Tx
namespace Tx
variable [Dt.GTab]
open PySem PySem.Spec PyProof.Rows L2 Dt
structure KsOk (ps : List Str) : Prop where
  ne : ps ≠ []
  le : ps.length ≤ 60
  nm : ∀ n ∈ ps, Nm n
def Kth (s : Str) : Prop := ∃ ps, KsOk ps ∧ s = J ps
theorem PsOk.ks {ps : List Str} (h : PsOk ps) : KsOk ps := ⟨h.ne, Nat.le_trans h.le (by decide), h.nm⟩
theorem Pth.kth {s : Str} (h : Pth s) : Kth s := let ⟨ps, h1, e⟩ := h; ⟨ps, h1.ks, e⟩
theorem KsOk.nosl {ps : List Str} (h : KsOk ps) : ∀ p ∈ ps, noSl p := fun p hp => (h.nm p hp).nosl
theorem KsOk.sml {ps : List Str} (h : KsOk ps) : Sml 60 ps := ⟨h.le, fun s hs => (h.nm s hs).le⟩
theorem KsOk.split {ps : List Str} (h : KsOk ps) : Txt.split (J ps) sSl = ps := split_J h.ne h.nosl
theorem KsOk.len {ps : List Str} (h : KsOk ps) : (J ps).length ≤ 540 := by
  have h2 := joinLen sSl ps
  have h3 : joinSz sSl ps ≤ 540 := by
    unfold joinSz
    have h1 := sum_le (·.length) 8 ps fun s hs => (h.nm s hs).le
    have h4 := h.le
    rw [len_sl]
    omega
  unfold J
  rw [TL.join_eq]
  omega
theorem Kth.len {s : Str} (h : Kth s) : s.length ≤ 540 := by
  obtain ⟨ps, h1, rfl⟩ := h
  exact h1.len
theorem Kth.chars {s : Str} (h : Kth s) : ∀ c ∈ tl s, c ∈ tl sLet ∨ c = 47 := by
  obtain ⟨ps, h1, rfl⟩ := h
  intro c hc
  have e : tl (J ps) = TL.joinL (tl sSl) (ps.map tl) := by
    unfold J
    rw [TL.join_eq]
    exact TL.tl_join sSl ps
  rw [e] at hc
  rcases mem_joinL hc with h | ⟨l, h2, h3⟩
  · rw [tl_sl] at h
    exact .inr (List.mem_singleton.mp h)
  · obtain ⟨w, hw, rfl⟩ := List.mem_map.mp h2
    exact .inl ((h1.nm w hw).lets c h3)
theorem Kth.no {s : Str} (h : Kth s) : 32 ∉ tl s ∧ 61 ∉ tl s := by
  refine ⟨fun z => ?_, fun z => ?_⟩
  · rcases h.chars _ z with e | e
    · exact (let_no e).2.2.2.1 rfl
    · cases e
  · rcases h.chars _ z with e | e
    · exact (let_no e).2.2.2.2.1 rfl
    · cases e
structure RowZ (q : Str × Int) : Prop where
  kth : Kth q.1
  sz : q.2.natAbs < 10 ^ 100
theorem nSmall_of {i : Int} (h : i.natAbs < 10 ^ 100) : nSmall i = true := by
  unfold nSmall
  refine decide_eq_true ?_
  have h1 : i.natAbs.log2 < 1920 := by
    by_cases h0 : i.natAbs = 0
    · rw [h0]; decide
    · rw [Nat.log2_lt h0]
      exact Nat.lt_trans h (by decide +kernel)
  exact h1
theorem dStr_num {i : Int} (h : i.natAbs < 10 ^ 100) : dStr [.int i] = some (.str (num i)) := by
  show (if nSmall i = true ∧ (toString i : Str).length ≤ lim then some (D.str (toString i)) else none) = _
  refine if_pos ⟨nSmall_of h, ?_⟩
  have := (num_text h).2.1
  show (num i).length ≤ lim
  unfold lim
  omega
end Tx
namespace Tx
variable [Dt.GTab]
open PySem PySem.Spec PyProof.Rows L2 Dt
theorem wi_callKP {r : Ev} {p : List Int} {Q : D → List Int → Prop} {idx : List Nat} {n : Nat} {m : MF} {ms : ML} (h : Wp (ms r p) fun ds p => ds.length = n ∧ Wp (m (permL idx .non ds) p) Q) : Wp (mCallKP idx n m ms r p) Q := by
  obtain ⟨ds, q, e, h1, h2⟩ := h
  unfold mCallKP
  rw [wp_bnd]
  refine Wp.of_eq e ?_
  rw [if_pos h1]
  exact h2
theorem J_ne {ps : List Str} (h : ps ≠ []) (hn : ∀ n ∈ ps, Nm n) : J ps ≠ "" := fun z => by
  have e := J_inj h (fun p hp => (hn p hp).nosl) (qs := [""]) (by simp) (fun p hp => by
    rw [List.mem_singleton.mp hp]
    show 47 ∉ tl ("" : Str)
    decide +kernel) (by rw [z]; rfl)
  have := hn "" (by rw [e]; simp)
  exact absurd this.pos (by decide)
/-- k names -/
def Wd (k : Nat) (s : Str) : Prop := ∃ ps : List Str, ps.length = k ∧ (∀ n ∈ ps, Nm n) ∧ s = J ps
theorem Wd.kth {k : Nat} {s : Str} (h : Wd k s) (h1 : 1 ≤ k) (h2 : k ≤ 60) : Kth s := by
  obtain ⟨ps, e, hn, rfl⟩ := h
  exact ⟨ps, ⟨fun z => (by rw [z] at e; simp at e; omega), by omega, hn⟩, rfl⟩
theorem Wd.len {k : Nat} {s : Str} (h : Wd k s) (h2 : k ≤ 60) : s.length ≤ 540 := by
  by_cases h1 : 1 ≤ k
  · exact (h.kth h1 h2).len
  · obtain ⟨ps, e, hn, rfl⟩ := h
    have : ps = [] := List.eq_nil_of_length_eq_zero (by omega)
    subst this
    show ("" : Str).length ≤ 540
    decide
theorem Wd.snoc {k : Nat} {s w : Str} (h : Wd k s) (hw : Nm w) (hs : s ≠ "") : Wd (k + 1) (s ++ "/" ++ w) := by
  obtain ⟨ps, e, hn, rfl⟩ := h
  refine ⟨ps ++ [w], by rw [List.length_append, List.length_singleton, e], fun n h => ?_, ?_⟩
  · rcases List.mem_append.mp h with h | h
    · exact hn n h
    · rw [List.mem_singleton.mp h]; exact hw
  · rw [J_snoc (fun z => hs (by rw [z]; rfl))]
    rfl
theorem Wd.one {w : Str} (hw : Nm w) : Wd 1 w := ⟨[w], rfl, fun n h => by rw [List.mem_singleton.mp h]; exact hw, (J_one w).symm⟩
theorem Wd.nil {k : Nat} (h : Wd k "") : k = 0 := by
  obtain ⟨ps, e, hn, h⟩ := h
  by_cases hp : ps = []
  · subst hp; exact e.symm
  · exact absurd h.symm (J_ne hp hn)
theorem kth_of {ps : List Str} (h1 : ps ≠ []) (h2 : ps.length ≤ 60) (h3 : ps.all nmB = true) : Kth (J ps) := by
  refine ⟨ps, ⟨h1, h2, fun s hs => ?_⟩, rfl⟩
  have h2 := List.all_eq_true.mp h3 s hs
  unfold nmB at h2
  rw [Bool.and_eq_true, Bool.and_eq_true] at h2
  exact ⟨of_decide_eq_true h2.1.1, of_decide_eq_true h2.1.2, fun c hc => of_decide_eq_true (List.all_eq_true.mp h2.2 c hc)⟩
theorem nmB_nm {s : Str} (h2 : nmB s = true) : Nm s := by
  unfold nmB at h2
  rw [Bool.and_eq_true, Bool.and_eq_true] at h2
  exact ⟨of_decide_eq_true h2.1.1, of_decide_eq_true h2.1.2, fun c hc => of_decide_eq_true (List.all_eq_true.mp h2.2 c hc)⟩
end Tx
namespace Tx
open PySem PySem.Spec PyProof.Rows L2 Dt
end Tx
namespace Tx
variable [Dt.GTab]
open PySem PySem.Spec PyProof.Rows L2 Dt
section
variable {r : Ev} {p : List Int} {Q : D → List Int → Prop} {QB : Bool → List Int → Prop} {QL : List D → List Int → Prop}
theorem wi_isiA {T : String} {a : M} (h : Wp (a r p) fun x p => ∃ z, dIsiA T x = some z ∧ Q z p) : Wp (mIsiA T a r p) Q := by
  obtain ⟨x, p1, e1, z, e2, hq⟩ := h
  unfold mIsiA
  refine wp_bnd.mpr (Wp.of_eq e1 ?_)
  rw [wp_lft]
  exact ⟨z, e2, hq⟩
theorem wi_isiO {c : Str} {a : M} (h : Wp (a r p) fun x p => ∃ b, ((∃ fs, x = .slt c fs) ∧ b = true ∨ ((∀ c' fs, x ≠ .slt c' fs) ∧ (tyV x).isSome = true) ∧ b = false) ∧ Q (.bl b) p) : Wp (mIsiO c a r p) Q := by
  obtain ⟨x, p1, e1, b, hb, hq⟩ := h
  unfold mIsiO
  refine wp_bnd.mpr (Wp.of_eq e1 ?_)
  rcases hb with ⟨⟨fs, rfl⟩, rfl⟩ | ⟨⟨hn, ht⟩, rfl⟩
  · simp only [if_true]
    exact Wp.of_eq rfl hq
  · split
    · exact absurd rfl (hn _ _)
    · rw [if_pos ht]
      exact Wp.of_eq rfl hq
theorem wi_eqOwn {c : Str} {neg : Bool} {mm : MF} {a b : M} (h : Wp (a r p) fun x p => Wp (b r p) fun y p => ∃ fs k, x = .slt c fs ∧ rgtD c y = true ∧ mm [.slt c fs, y] p = some (.bl k, p) ∧ Q (.bl (if neg = true then !k else k)) p) : Wp (mEqOwn c neg mm a b r p) Q := by
  obtain ⟨x, p1, e1, y, p2, e2, fs, k, rfl, hy, e3, hq⟩ := h
  unfold mEqOwn
  refine wp_bnd.mpr (Wp.of_eq e1 (wp_bnd.mpr (Wp.of_eq e2 ?_)))
  simp only [true_and, if_pos hy, e3]
  exact Wp.of_eq rfl hq
theorem wi_own1 {c : Str} {ok : D → Option D} {mm : MF} {a : M} (h : Wp (a r p) fun x p => ∃ fs, x = .slt c fs ∧ Wp (mm [.slt c fs] p) fun z p => ∃ y, ok z = some y ∧ Q y p) : Wp (mOwn1 c mm ok a r p) Q := by
  obtain ⟨x, p1, e1, fs, rfl, h⟩ := h
  unfold mOwn1
  refine wp_bnd.mpr (Wp.of_eq e1 ?_)
  simp only [if_true]
  refine wp_bnd.mpr (h.mono fun z p h => ?_)
  rw [wp_lft]
  exact h
theorem wi_subOwn {c : Str} {mm : MF} {a b : M} (h : Wp (a r p) fun x p => Wp (b r p) fun y p => ∃ fs, x = .slt c fs ∧ Wp (mm [.slt c fs, y] p) Q) : Wp (mSubOwn c mm a b r p) Q := by
  obtain ⟨x, p1, e1, y, p2, e2, fs, rfl, h⟩ := h
  unfold mSubOwn
  refine wp_bnd.mpr (Wp.of_eq e1 (wp_bnd.mpr (Wp.of_eq e2 ?_)))
  simp only [if_true]
  exact h
theorem wi_inOwn {c : Str} {neg : Bool} {mm : MF} {a b : M} (h : Wp (a r p) fun x p => Wp (b r p) fun y p => ∃ fs, y = .slt c fs ∧ Wp (mm [.slt c fs, x] p) fun z p => ∃ k, z = .bl k ∧ Q (.bl (if neg = true then !k else k)) p) : Wp (mInOwn c neg mm a b r p) Q := by
  obtain ⟨x, p1, e1, y, p2, e2, fs, rfl, z, p3, e3, k, rfl, hq⟩ := h
  unfold mInOwn
  refine wp_bnd.mpr (Wp.of_eq e1 (wp_bnd.mpr (Wp.of_eq e2 ?_)))
  simp only [if_true, e3]
  exact Wp.of_eq rfl hq
theorem wi_meth {c : Str} {n : Nat} {mm : MF} {a : M} {ms : ML} (h : Wp (a r p) fun x p => ∃ fs, x = .slt c fs ∧ Wp (ms r p) fun ds p => ds.length = n ∧ Wp (mm (.slt c fs :: ds) p) Q) : Wp (mMeth c n mm a ms r p) Q := by
  obtain ⟨x, p1, e1, fs, rfl, h⟩ := h
  unfold mMeth
  refine wp_bnd.mpr (Wp.of_eq e1 ?_)
  simp only [if_true]
  refine wp_bnd.mpr (h.mono fun ds p h => ?_)
  rw [if_pos h.1]
  exact h.2
theorem wi_methK {c : Str} {n : Nat} {idx : List Nat} {mm : MF} {a : M} {ms : ML} (h : Wp (a r p) fun x p => ∃ fs, x = .slt c fs ∧ Wp (ms r p) fun ds p => ds.length = n ∧ Wp (mm (.slt c fs :: permL idx .non ds) p) Q) : Wp (mMethK c idx n mm a ms r p) Q := by
  obtain ⟨x, p1, e1, fs, rfl, h⟩ := h
  unfold mMethK
  refine wp_bnd.mpr (Wp.of_eq e1 ?_)
  simp only [if_true]
  refine wp_bnd.mpr (h.mono fun ds p h => ?_)
  rw [if_pos h.1]
  exact h.2
theorem wi_js0 {acc : Str} (h : Q (.str acc) p) : Wp (mJs [] acc r p) Q := by unfold mJs; exact Wp.of_eq rfl h
theorem wi_js {m : M} {ms : List M} {acc : Str} (h : Wp (m r p) fun d p => ∃ y, d = .str y ∧ (acc ++ y).length ≤ lim ∧ Wp (mJs ms (acc ++ y) r p) Q) : Wp (mJs (m :: ms) acc r p) Q := by
  obtain ⟨x, p1, e1, y, rfl, hl, h⟩ := h
  unfold mJs
  refine wp_bnd.mpr (Wp.of_eq e1 ?_)
  show Wp (if (acc ++ y).length ≤ lim then mJs ms (acc ++ y) r p1 else none) Q
  rw [if_pos hl]
  exact h
theorem wi_truK {a : M} (h : Wp (a r p) fun x p => ∃ qs : List (Str × Int), x = box qs ∧ QB (!decide (qs = [])) p) : Wp (mTruK a r p) QB := by
  obtain ⟨x, p1, e1, qs, rfl, h⟩ := h
  unfold mTruK
  refine wp_bnd.mpr (Wp.of_eq e1 ?_)
  show Wp (if ((qs.map fK).map (·.2)).length = ((qs.map fK).map (·.1)).length then some (!((qs.map fK).map (·.1)).isEmpty, p1) else none) QB
  rw [if_pos (by rw [List.length_map, List.length_map, List.length_map, List.length_map])]
  refine Wp.of_eq rfl ?_
  cases qs with
  | nil => exact h
  | cons q qs => simpa using h
theorem wi_fg {a : M} (h : Wp (a r p) fun x p => Q (dFg x) p) : Wp (mFg a r p) Q := by
  unfold mFg
  exact wp_bnd.mpr (h.mono fun x p h => Wp.of_eq rfl h)
theorem wi_disp {l : List (M × M)} (h : Wp (mPairs l r p) fun ps p => Q (dkv (mergeG [] ps)) p) : Wp (mDisp l r p) Q := by
  unfold mDisp
  exact wp_bnd.mpr (h.mono fun ps p h => Wp.of_eq rfl h)
theorem wi_pairs0 {Q : List (Key × D) → List Int → Prop} (h : Q [] p) : Wp (mPairs [] r p) Q := by unfold mPairs; exact Wp.of_eq rfl h
theorem wi_pairs {Q : List (Key × D) → List Int → Prop} {mk mv : M} {l : List (M × M)} (h : Wp (mk r p) fun k p => Wp (mv r p) fun v p => ∃ kk, keyOf k = some kk ∧ Wp (mPairs l r p) fun ps p => Q ((kk, v) :: ps) p) : Wp (mPairs ((mk, mv) :: l) r p) Q := by
  obtain ⟨k, p1, e1, v, p2, e2, kk, e3, h⟩ := h
  unfold mPairs
  refine wp_bnd.mpr (Wp.of_eq e1 (wp_bnd.mpr (Wp.of_eq e2 (wp_bnd.mpr (h.mono fun ps p h => ?_)))))
  rw [e3]
  exact Wp.of_eq rfl h
end
def Sw (k n : Nat) (d : D) : Prop := ∃ q, toPy d = some q ∧ q.showable = true ∧ q.hasDict = false ∧ q.depth ≤ k ∧ q.leavesShort 110 = true ∧ q.bulk ≤ n
theorem Sw.mono {k n k' n' : Nat} {d : D} (h : Sw k n d) (h1 : k ≤ k') (h2 : n ≤ n') : Sw k' n' d := by
  obtain ⟨q, e, a, b, c, f, g⟩ := h
  exact ⟨q, e, a, b, Nat.le_trans c h1, f, Nat.le_trans g h2⟩
theorem int_short {i : Int} (h : i.natAbs < 10 ^ 100) : (PyData.int i).showable = true ∧ (PyData.int i).leavesShort 110 = true := by
  refine ⟨?_, ?_⟩
  · simp only [PyData.showable]
    exact nSmall_of h
  · simp only [PyData.leavesShort, PyData.shown]
    refine decide_eq_true ?_
    have := (num_text h).2.1
    show (num i).length ≤ 110
    omega
theorem Kth.small {s : Str} (h : Kth s) : ∀ c ∈ tl s, c < 16 ^ 8 := fun c hc => by
  have hL : ∀ c ∈ tl sLet, c < 16 ^ 8 := by decide +kernel
  rcases h.chars c hc with e | e
  · exact hL c e
  · omega
end Tx
namespace Tx
open PySem PySem.Spec PyProof.Rows L2 Dt
end Tx
namespace Tx
end Tx
namespace Tx
variable [Dt.GTab]
open PySem PySem.Spec PyProof.Rows L2 Dt
def T : List Str → List Nat
  | [] => []
  | n :: ns => 47 :: (tl n ++ T ns)
theorem T_app : ∀ (a b : List Str), T (a ++ b) = T a ++ T b
  | [], _ => rfl
  | n :: a, b => by simp [T, T_app a b]
theorem tl_J (n : Str) : ∀ ns : List Str, tl (J (n :: ns)) = tl n ++ T ns := by
  intro ns
  have key : ∀ (n : Str) (ns : List Str), TL.joinL [47] (tl n :: ns.map tl) = tl n ++ T ns := by
    intro n ns
    induction ns generalizing n with
    | nil => simp [TL.joinL, T]
    | cons m ns ih =>
      rw [List.map_cons]
      simp only [TL.joinL, T]
      rw [ih m]
      rfl
  unfold J
  have e : tl (Txt.join sSl (n :: ns)) = TL.joinL (tl sSl) ((n :: ns).map tl) := by
    rw [TL.join_eq]
    exact TL.tl_join sSl (n :: ns)
  rw [e, tl_sl, List.map_cons, key]
theorem tl_J_app {ps : List Str} (h : ps ≠ []) (rest : List Str) : tl (J (ps ++ rest)) = tl (J ps) ++ T rest := by
  cases ps with
  | nil => exact absurd rfl h
  | cons n ns => rw [List.cons_append, tl_J, tl_J, T_app, List.append_assoc]
theorem cut47 {A B X Y : List Nat} (hA : 47 ∉ A) (hB : 47 ∉ B) (hX : X = [] ∨ X.head? = some 47) (hY : Y.head? = some 47) (e : A ++ X = B ++ Y) : A = B ∧ X = Y := by
  induction A generalizing B with
  | nil =>
    cases B with
    | nil => exact ⟨rfl, e⟩
    | cons b B =>
      rw [List.nil_append] at e
      rcases hX with h | h
      · rw [h] at e; cases e
      · rw [e] at h
        injection h with h
        exact absurd (by rw [← h]; exact List.mem_cons_self) hB
  | cons a A ih =>
    cases B with
    | nil =>
      rw [List.nil_append] at e
      rw [← e] at hY
      injection hY with hY
      exact absurd (by rw [← hY]; exact List.mem_cons_self) hA
    | cons b B =>
      injection e with e1 e2
      subst e1
      obtain ⟨h1, h2⟩ := ih (fun z => hA (List.mem_cons_of_mem _ z)) (fun z => hB (List.mem_cons_of_mem _ z)) e2
      exact ⟨by rw [h1], h2⟩
theorem T_head (ns : List Str) : T ns = [] ∨ (T ns).head? = some 47 := by
  cases ns with
  | nil => exact .inl rfl
  | cons n ns => exact .inr rfl
theorem pre_of {t : List Nat} : ∀ {ms : List Str} {m n : Str} {ns : List Str}, 47 ∉ tl n → (∀ x ∈ ns, 47 ∉ tl x) → 47 ∉ tl m → (∀ x ∈ ms, 47 ∉ tl x) → tl n ++ T ns = tl m ++ T ms ++ 47 :: t → ∃ rest, n :: ns = (m :: ms) ++ rest := by
  intro ms
  induction ms with
  | nil =>
    intro m n ns hn hns hm hms e
    rw [show T [] = [] from rfl, List.append_nil] at e
    obtain ⟨h1, h2⟩ := cut47 hn hm (T_head ns) rfl e
    exact ⟨ns, by rw [TL.ext_tl h1]; rfl⟩
  | cons m2 ms ih =>
    intro m n ns hn hns hm hms e
    rw [List.append_assoc] at e
    obtain ⟨h1, h2⟩ := cut47 hn hm (T_head ns) rfl e
    cases ns with
    | nil => cases h2
    | cons n2 ns =>
      injection h2 with _ h2
      obtain ⟨rest, h3⟩ := ih (hns n2 List.mem_cons_self) (fun x hx => hns x (List.mem_cons_of_mem _ hx)) (hms m2 List.mem_cons_self) (fun x hx => hms x (List.mem_cons_of_mem _ hx)) h2
      exact ⟨rest, by rw [TL.ext_tl h1, h3]; rfl⟩
/-- a key of at most n names -/
def Kq (n : Nat) (s : Str) : Prop := ∃ ps : List Str, ps ≠ [] ∧ ps.length ≤ n ∧ (∀ x ∈ ps, Nm x) ∧ s = J ps
theorem Kq.kth {n : Nat} {s : Str} (h : Kq n s) (hn : n ≤ 60) : Kth s := by
  obtain ⟨ps, h1, h2, h3, e⟩ := h
  exact ⟨ps, ⟨h1, Nat.le_trans h2 hn, h3⟩, e⟩
theorem Kq.mono {n m : Nat} {s : Str} (h : Kq n s) (hn : n ≤ m) : Kq m s := by
  obtain ⟨ps, h1, h2, h3, e⟩ := h
  exact ⟨ps, h1, Nat.le_trans h2 hn, h3, e⟩
theorem under_of {k p : Str} {n m : Nat} (hk : Kq n k) (hp : Kq m p) (h : under k p = true) : ∃ ps rest, ps ≠ [] ∧ (∀ x ∈ ps, Nm x) ∧ (∀ x ∈ rest, Nm x) ∧ p = J ps ∧ k = J (ps ++ rest) ∧ (ps ++ rest).length ≤ n ∧ ps.length ≤ m := by
  obtain ⟨ks, k1, k2, k3, rfl⟩ := hk
  obtain ⟨ps, p1, p2, p3, rfl⟩ := hp
  suffices H : ∃ rest, ks = ps ++ rest by
    obtain ⟨rest, e⟩ := H
    exact ⟨ps, rest, p1, p3, fun x hx => k3 x (by rw [e]; exact List.mem_append_right _ hx), rfl, by rw [e], by rw [← e]; exact k2, p2⟩
  unfold under at h
  rw [Bool.or_eq_true] at h
  rcases h with h | h
  · have e := J_inj k1 (fun x hx => (k3 x hx).nosl) p1 (fun x hx => (p3 x hx).nosl) (of_decide_eq_true h)
    exact ⟨[], by rw [e, List.append_nil]⟩
  · have h := of_decide_eq_true h
    cases ps with
    | nil => exact absurd rfl p1
    | cons m ms =>
      cases ks with
      | nil => exact absurd rfl k1
      | cons n ns =>
        have e : tl (J (n :: ns)) = tl (J (m :: ms)) ++ [47] ++ (tl (J (n :: ns))).drop ((J (m :: ms)).length + 1) := by
          rw [← h, List.take_append_drop]
        rw [tl_J, tl_J, List.append_assoc] at e
        exact pre_of (k3 n List.mem_cons_self).nosl (fun x hx => (k3 x (List.mem_cons_of_mem _ hx)).nosl) (p3 m List.mem_cons_self).nosl (fun x hx => (p3 x (List.mem_cons_of_mem _ hx)).nosl) e
/-- a key carried from one path to another -/
def mv (p q k : Str) : Str := q ++ cutS k (some (p.length : Int)) none
theorem tl_mv (p q k : Str) : tl (mv p q k) = tl q ++ (tl k).drop p.length := by
  unfold mv
  rw [show tl (q ++ cutS k (some (p.length : Int)) none) = _ from TL.tl_append _ _]
  congr 1
  rw [show TL.tl (cutS k (some (p.length : Int)) none) = _ from cutS_tl k _ _, dcut_drop _ (Int.natCast_nonneg _)]
  rfl
theorem mv_J {ps qs rest : List Str} (hp : ps ≠ []) (hq : qs ≠ []) : mv (J ps) (J qs) (J (ps ++ rest)) = J (qs ++ rest) := by
  refine TL.ext_tl ?_
  rw [show TL.tl _ = _ from tl_mv _ _ _, tl_J_app hp, show TL.tl (J (qs ++ rest)) = _ from tl_J_app hq rest]
  congr 1
  rw [show (J ps).length = (tl (J ps)).length from TL.len_tl _]
  exact List.drop_left
theorem sub_pre {k p : Str} (h : ∃ t, tl k = tl p ++ t) : Builtin.Str.subAt k p 0 = true := by
  obtain ⟨t, h⟩ := h
  unfold Builtin.Str.subAt
  rw [beq_iff_eq]
  refine Array.toList_inj.mp ?_
  have h2 : (k.cps.extract 0 (0 + p.length)).toList = (tl k).take p.length := by simp
  rw [h2, h, show p.length = (tl p).length from TL.len_tl _]
  exact List.take_left
theorem remove_pre {k p : Str} (h : ∃ t, tl k = tl p ++ t) (hp : 1 ≤ p.length) : Txt.removeprefix k p = cutS k (some (p.length : Int)) none := by
  have hs := sub_pre h
  obtain ⟨t, h⟩ := h
  have hl : p.length ≤ k.length := by
    have := congrArg List.length h
    rw [List.length_append] at this
    rw [TL.len_tl p, TL.len_tl k, show TL.tl k = _ from rfl]
    show (tl p).length ≤ (tl k).length
    omega
  unfold Txt.removeprefix
  rw [hs]
  show (if (k.length - p.length == k.length) = true then k else Builtin.Str.strSub k p.length k.length) = _
  rw [if_neg (by simp; omega)]
  refine TL.ext_tl ?_
  rw [TL.tl_strSub_end, show TL.tl (cutS k (some (p.length : Int)) none) = _ from cutS_tl k _ _, dcut_drop _ (Int.natCast_nonneg _)]
  rfl
end Tx
namespace Tx
variable [Dt.GTab]
open PySem PySem.Spec PyProof.Rows L2 Dt
theorem take_len1 (A : List Nat) (c : Nat) (X : List Nat) : (A ++ c :: X).take (A.length + 1) = A ++ [c] := by
  induction A with
  | nil => rfl
  | cons a A ih =>
    rw [List.cons_append, List.length_cons, List.take_succ_cons, ih]
    rfl
theorem under_J {ps : List Str} (h : ps ≠ []) (rest : List Str) : under (J (ps ++ rest)) (J ps) = true := by
  unfold under
  rw [Bool.or_eq_true]
  cases rest with
  | nil => exact .inl (decide_eq_true (by rw [List.append_nil]))
  | cons n ns =>
    refine .inr (decide_eq_true ?_)
    rw [tl_J_app h, show (J ps).length = (tl (J ps)).length from TL.len_tl _]
    exact take_len1 _ 47 (tl n ++ T ns)
theorem pre_two {ps qs a b : List Str} (e : ps ++ a = qs ++ b) : (∃ r, qs = ps ++ r) ∨ ∃ r, ps = qs ++ r := by
  rcases List.append_eq_append_iff.mp e with ⟨r, h, _⟩ | ⟨r, h, _⟩
  · exact .inl ⟨r, h⟩
  · exact .inr ⟨r, h⟩
theorem no_both {k p q : Str} {n m l : Nat} (hk : Kq n k) (hp : Kq m p) (hq : Kq l q) (h1 : under k p = true) (h2 : under k q = true) : under q p = true ∨ under p q = true := by
  obtain ⟨ps, a, p1, p2, p3, rfl, ek, _, _⟩ := under_of hk hp h1
  obtain ⟨qs, b, q1, q2, q3, rfl, ek2, _, _⟩ := under_of hk hq h2
  have e : ps ++ a = qs ++ b := J_inj (fun z => p1 (List.append_eq_nil_iff.mp z).1) (fun x hx => by
    rcases List.mem_append.mp hx with h | h
    · exact (p2 x h).nosl
    · exact (p3 x h).nosl) (fun z => q1 (List.append_eq_nil_iff.mp z).1) (fun x hx => by
    rcases List.mem_append.mp hx with h | h
    · exact (q2 x h).nosl
    · exact (q3 x h).nosl) (ek.symm.trans ek2)
  rcases pre_two e with ⟨r, h⟩ | ⟨r, h⟩
  · rw [h]; exact .inl (under_J p1 r)
  · rw [h]; exact .inr (under_J q1 r)
/-- a key under two paths exchanged -/
def sw (p q k : Str) : Str := if under k p = true then mv p q k else if under k q = true then mv q p k else k
structure Apart (p q : Str) : Prop where
  a : under p q = false
  b : under q p = false
theorem Apart.no {k p q : Str} {n m l : Nat} (h : Apart p q) (hk : Kq n k) (hp : Kq m p) (hq : Kq l q) (h1 : under k p = true) : under k q = false := by
  cases h2 : under k q with
  | false => rfl
  | true =>
    rcases no_both hk hp hq h1 h2 with z | z
    · rw [h.b] at z; cases z
    · rw [h.a] at z; cases z
end Tx
namespace Tx
variable [Dt.GTab]
open PySem PySem.Spec PyProof.Rows L2 Dt
def Sx (k n : Nat) (d : D) : Prop := ∃ q, toPy d = some q ∧ q.showable = true ∧ q.hasDict = false ∧ q.depth ≤ k ∧ q.shown.length ≤ n
theorem sx_int {i : Int} (h : i.natAbs < 10 ^ 100) : Sx 0 110 (.int i) :=
  ⟨.int i, by simp [toPy], (int_short h).1, by simp [PyData.hasDict], by simp [PyData.depth], by simpa only [PyData.leavesShort, decide_eq_true_eq] using (int_short h).2⟩
theorem sx_str {s : Str} {n : Nat} (h : ∀ c ∈ tl s, c < 16 ^ 8) (hl : s.length ≤ n) : Sx 0 (10 * n + 2) (.str s) :=
  ⟨.str s, by simp [toPy], by simp [PyData.showable], by simp [PyData.hasDict], by simp [PyData.depth], by
    have := PySem.StrLaws.reprText_len s h
    simp only [PyData.shown]
    omega⟩
theorem sx_all {k n : Nat} : ∀ {ds : List D}, (∀ d ∈ ds, Sx k n d) → ∃ qs, toPys ds = some qs ∧ PyData.showableAll qs = true ∧ PyData.hasDictAll qs = false ∧ PyData.depthAll qs ≤ k ∧ (PyData.shownAll qs).length = ds.length ∧ ((PyData.shownAll qs).map (·.length)).sum ≤ ds.length * n
  | [], _ => ⟨[], by simp [toPys], by simp [PyData.showableAll], by simp [PyData.hasDictAll], by simp [PyData.depthAll], by simp [PyData.shownAll], by simp [PyData.shownAll]⟩
  | d :: ds, h => by
    obtain ⟨q, e, a, b, c, g⟩ := h d List.mem_cons_self
    obtain ⟨qs, e2, a2, b2, c2, f2, g2⟩ := sx_all fun y hy => h y (List.mem_cons_of_mem _ hy)
    refine ⟨q :: qs, by simp [toPys, e, e2], by simp [PyData.showableAll, a, a2], by simp [PyData.hasDictAll, b, b2], ?_, by simp [PyData.shownAll, f2], ?_⟩
    · simp only [PyData.depthAll]
      omega
    · simp only [PyData.shownAll, List.map_cons, List.sum_cons]
      rw [List.length_cons, Nat.add_mul, Nat.one_mul]
      omega
theorem sx_tup {k n m : Nat} {ds : List D} (h : ∀ d ∈ ds, Sx k n d) (hl : ds.length ≤ m) : Sx (k + 1) (m * (n + 2) + 3) (.tup ds) := by
  obtain ⟨qs, e, a, b, c, f, g⟩ := sx_all h
  refine ⟨.tuple qs, by simp [toPy, e], by simp [PyData.showable, a], by simp [PyData.hasDict, b], by simp only [PyData.depth]; omega, ?_⟩
  have h2 := tupleText_len_le (PyData.shownAll qs)
  have h3 : ds.length * (n + 2) ≤ m * (n + 2) := Nat.mul_le_mul_right _ hl
  have h4 : ds.length * (n + 2) = ds.length * n + ds.length * 2 := Nat.mul_add ..
  simp only [PyData.shown]
  omega
theorem sx_lst {k n m : Nat} {ds : List D} (h : ∀ d ∈ ds, Sx k n d) (hl : ds.length ≤ m) : Sx (k + 1) (m * (n + 2) + 3) (.lst ds) := by
  obtain ⟨qs, e, a, b, c, f, g⟩ := sx_all h
  refine ⟨.list qs, by simp [toPy, e], by simp [PyData.showable, a], by simp [PyData.hasDict, b], by simp only [PyData.depth]; omega, ?_⟩
  have h2 := listText_len_le (PyData.shownAll qs)
  have h3 : ds.length * (n + 2) ≤ m * (n + 2) := Nat.mul_le_mul_right _ hl
  have h4 : ds.length * (n + 2) = ds.length * n + ds.length * 2 := Nat.mul_add ..
  simp only [PyData.shown]
  omega
def RQ (n : Nat) (q : Str × Int) : Prop := Kq n q.1 ∧ q.2.natAbs < 10 ^ 100
structure BoxOk (qs : List (Str × Int)) : Prop where
  row : ∀ q ∈ qs, RowZ q
  nd : (qs.map (·.1)).Nodup
  ln : qs.length ≤ 5000
structure BQ (n l : Nat) (b : List (Str × Int)) : Prop where
  row : ∀ q ∈ b, RQ n q
  nd : (b.map (·.1)).Nodup
  ln : b.length ≤ l
theorem BQ.ok {n l : Nat} {b : List (Str × Int)} (h : BQ n l b) (hn : n ≤ 60) (hl : l ≤ 5000) : BoxOk b := ⟨fun q hq => ⟨(h.row q hq).1.kth hn, (h.row q hq).2⟩, h.nd, Nat.le_trans h.ln hl⟩
theorem BQ.perm {n l : Nat} {b c : List (Str × Int)} (h : BQ n l b) (hp : c.Perm b) : BQ n l c := ⟨fun q hq => h.row q (hp.mem_iff.mp hq), (hp.map _).nodup_iff.mpr h.nd, by rw [hp.length_eq]; exact h.ln⟩
theorem BQ.mono {n l n' l' : Nat} {b : List (Str × Int)} (h : BQ n l b) (h1 : n ≤ n') (h2 : l ≤ l') : BQ n' l' b := ⟨fun q hq => ⟨(h.row q hq).1.mono h1, (h.row q hq).2⟩, h.nd, Nat.le_trans h.ln h2⟩
theorem BQ.filter {n l : Nat} {b : List (Str × Int)} (h : BQ n l b) (t : Str × Int → Bool) : BQ n l (b.filter t) :=
  ⟨fun q hq => h.row q (List.mem_filter.mp hq).1, List.Sublist.nodup (List.Sublist.map _ List.filter_sublist) h.nd, Nat.le_trans (List.length_filter_le _ _) h.ln⟩
def tk (s t : Str) (b : List (Str × Int)) : List (Str × Int) := (b.filter fun z => under z.1 s).map fun z => (mv s t z.1, z.2)
def st (cp : Bool) (s : Str) (b : List (Str × Int)) : List (Str × Int) := b.filter fun z => cp || !(under z.1 s)
def Rc (cp md : Bool) (s t : Str) (b : List (Str × Int)) : List (Str × Int) := if md = true then mergeG (st cp s b) (tk s t b) else mergeG (tk s t b) (st cp s b)
theorem BQ.len {n l : Nat} {b : List (Str × Int)} (h : BQ n l b) : BQ n b.length b := ⟨h.row, h.nd, Nat.le_refl _⟩
inductive ST
  | carry (cp : Bool) (p q : Str) (md : Bool)
  | swap (p q : Str)
  | drop (p : Str)
  | keep (p : Str)
  | put (p : Str) (v : Int)
  | dfl (p : Str) (v : Int)
def wMd (md : Bool) : Str := if md = true then "moved" else "resident"
namespace ST
def kd : ST → Str
  | .carry false .. => "move"
  | .carry true .. => "copy"
  | .swap .. => "swap"
  | .drop _ => "drop"
  | .keep _ => "keep"
  | .put .. => "put"
  | .dfl .. => "default"
def cls : ST → Str
  | .carry false .. => "Move"
  | .carry true .. => "Copy"
  | .swap .. => "Swap"
  | .drop _ => "Drop"
  | .keep _ => "Keep"
  | .put .. => "Put"
  | .dfl .. => "Default"
def ws : ST → List D
  | .carry _ p q md => [.str p, .str q, .str (wMd md)]
  | .swap p q => [.str p, .str q]
  | .drop p => [.str p]
  | .keep p => [.str p]
  | .put p v => [.str p, .int v]
  | .dfl p v => [.str p, .int v]
abbrev tup (a : ST) : D := .tup (.str a.kd :: a.ws)
def R : ST → List (Str × Int) → List (Str × Int)
  | .carry cp p q md, b => Rc cp md p q b
  | .swap p q, b => b.map fun z => (sw p q z.1, z.2)
  | .drop p, b => b.filter fun z => !(under z.1 p)
  | .keep p, b => b.filter fun z => under z.1 p
  | .put p v, b => mergeG b [(p, v)]
  | .dfl p v, b => mergeG [(p, v)] b
def cpy : ST → Bool
  | .carry true .. => true
  | _ => false
end ST
def after (as : List ST) (b : List (Str × Int)) : List (Str × Int) := as.foldl (fun b a => a.R b) b
def cps (as : List ST) : Nat := (as.filter ST.cpy).length
namespace ST
def parts : ST → List Str
  | .carry cp p q md => [(ST.carry cp p q md).kd, p, q, wMd md]
  | .swap p q => ["swap", p, q]
  | .drop p => ["drop", p]
  | .keep p => ["keep", p]
  | .put p v => ["put", p, num v]
  | .dfl p v => ["default", p, num v]
def line (a : ST) : Str := Txt.join " " a.parts
end ST
end Tx
namespace Tx
variable [Dt.GTab]
open PySem PySem.Spec PyProof.Rows L2 Dt
structure GoodX (ws : List Str) : Prop where
  ne : ws ≠ []
  nm : ∀ s ∈ ws, Nm s
  ln : ws.length ≤ 4
theorem GoodW.x {ws : List Str} (h : GoodW ws) : GoodX ws := ⟨h.ne, h.nm, Nat.le_succ_of_le h.ln⟩
end Tx
namespace Tx
variable [Dt.GTab]
open PySem PySem.Spec PyProof.Rows L2 Dt
theorem parts_len (a : ST) : a.parts.length ≤ 4 := by cases a <;> simp [ST.parts]
end Tx
namespace Tx
variable [Dt.GTab]
open PySem PySem.Spec PyProof.Rows L2 Dt
theorem rng_cons {N n : Nat} {d : D} {ds : List D} (h : d :: ds = (rngD 0 N).drop n) : n < N ∧ d = .int (n : Int) ∧ ds = (rngD 0 N).drop (n + 1) := by
  have hl : (rngD 0 N).length = N := by simp [rngD]
  have hlt : n < N := by
    rcases Nat.lt_or_ge n N with h1 | h1
    · exact h1
    · rw [List.drop_of_length_le (by rw [hl]; exact h1)] at h
      cases h
  have e1 : (rngD 0 N)[n]? = some (.int (0 + (n : Int))) := by
    unfold rngD
    rw [List.getElem?_map, List.getElem?_range hlt]
    rfl
  obtain ⟨hj, e2⟩ := List.getElem?_eq_some_iff.mp e1
  rw [List.drop_eq_getElem_cons hj, e2] at h
  injection h with h1 h2
  exact ⟨hlt, by rw [h1, Int.zero_add], h2⟩
theorem rng_nil {N n : Nat} (h : [] = (rngD 0 N).drop n) : N ≤ n := by
  rcases Nat.lt_or_ge n N with h1 | h1
  · exfalso
    have := congrArg List.length h
    simp [rngD] at this
    omega
  · exact h1
inductive Kd
  | move | copy | swap | drop | keep | put | dfl
namespace Kd
def w : Kd → Str
  | .move => "move" | .copy => "copy" | .swap => "swap" | .drop => "drop" | .keep => "keep" | .put => "put" | .dfl => "default"
def c : Kd → Str
  | .move => "Move" | .copy => "Copy" | .swap => "Swap" | .drop => "Drop" | .keep => "Keep" | .put => "Put" | .dfl => "Default"
end Kd
def ST.k : ST → Kd
  | .carry false .. => .move
  | .carry true .. => .copy
  | .swap .. => .swap
  | .drop _ => .drop
  | .keep _ => .keep
  | .put .. => .put
  | .dfl .. => .dfl
end Tx
namespace Tx
open PySem PySem.Spec PyProof.Rows L2 Dt
end Tx
namespace Tx
variable [Dt.GTab]
open PySem PySem.Spec PyProof.Rows L2 Dt
abbrev NdK (b : List (Str × Int)) : Prop := (b.map (·.1)).Nodup
theorem getG_mem {k : Str} {v : Int} : ∀ {b : List (Str × Int)}, NdK b → (getG b k = some v ↔ (k, v) ∈ b)
  | [], _ => by simp [getG]
  | q :: b, nd => by
    unfold NdK at nd
    rw [List.map_cons, List.nodup_cons] at nd
    have ih := getG_mem (k := k) (v := v) nd.2
    unfold getG at ih ⊢
    rw [List.find?_cons, List.mem_cons]
    by_cases h : q.1 = k
    · rw [show decide (q.1 = k) = true from decide_eq_true h]
      constructor
      · intro e
        cases e
        exact .inl (by rw [← h])
      · rintro (e | e)
        · rw [← e]; rfl
        · exact absurd (List.mem_map.mpr ⟨(k, v), e, rfl⟩) (by rw [← h]; exact nd.1)
    · rw [show decide (q.1 = k) = false from decide_eq_false h]
      refine Iff.trans ih ⟨.inr, ?_⟩
      rintro (e | e)
      · exact absurd (by rw [← e]) h
      · exact e
abbrev Src := Str ⊕ Int
def endI (fd : List Src) : Bool := match fd.getLast? with
  | some (.inr _) => true
  | _ => false
def goJ : List Src → List Src → List Src
  | fd, [] => fd
  | fd, x :: xs => if endI fd = true then fd else if memK fd x = true then goJ fd xs else goJ (fd ++ [x]) xs
def joinS (near far : List Src) : List Src := goJ [] (near ++ far)
def srcR : List ST → Str → List Src
  | [], k => [.inl k]
  | .carry cp p q md :: as, k =>
    if under k q = true then
      (if md = true then joinS (srcR as (mv q p k)) (if (!cp && under k p) = true then [] else srcR as k)
      else joinS (if (!cp && under k p) = true then [] else srcR as k) (srcR as (mv q p k)))
    else if (!cp && under k p) = true then [] else srcR as k
  | .swap p q :: as, k => srcR as (sw p q k)
  | .drop p :: as, k => if under k p = true then [] else srcR as k
  | .keep p :: as, k => if under k p = true then srcR as k else []
  | .put p v :: as, k => if k = p then [.inr v] else srcR as k
  | .dfl p v :: as, k => if k = p then joinS (srcR as k) [.inr v] else srcR as k
/-- what a list of sources tells of a record; an integer v tells f v -/
def told (f : Int → Int) (b : List (Str × Int)) : List Src → Option Int
  | [] => none
  | .inr v :: _ => some (f v)
  | .inl k :: L => (getG b k).or (told f b L)
end Tx
namespace Tx
variable [Dt.GTab]
open PySem PySem.Spec PyProof.Rows L2 Dt
theorem sx_non : Sx 0 10 .non := ⟨.none, by simp [toPy], by simp [PyData.showable], by simp [PyData.hasDict], by simp [PyData.depth], by decide⟩
theorem reprS_int {i : Int} (h : i.natAbs < 10 ^ 100) : ∃ s, dReprS [.int i] = some (.str s) := by
  have h2 := dStr_num h
  refine ⟨num i, ?_⟩
  exact h2
theorem reprS_non : ∃ s, dReprS [.non] = some (.str s) := ⟨"None", rfl⟩
theorem reprS_bl (b : Bool) : ∃ s, dReprS [.bl b] = some (.str s) := ⟨boolText b, rfl⟩
theorem reprS_of {d : D} {k n : Nat} (h : Sx k n d) (hk : k ≤ 50) (hn : n ≤ 16000000) (hi : ∀ i, d = .int i → i.natAbs < 10 ^ 100 := by intro i e; cases e) : ∃ s, dReprS [d] = some (.str s) := by
  obtain ⟨q, e, a, b, c, g⟩ := h
  cases d with
  | str x =>
    refine ⟨reprText x, ?_⟩
    have e2 : q = .str x := by simp [toPy] at e; exact e.symm
    subst e2
    show (if (reprText x).length ≤ lim then some (D.str (reprText x)) else none) = _
    exact if_pos (by simp only [PyData.shown] at g; unfold lim; omega)
  | non => exact reprS_non
  | bl b => exact reprS_bl b
  | int i => exact reprS_int (hi i rfl)
  | lst ds =>
    refine ⟨q.shown, ?_⟩
    show (match toPy (.lst ds) with | some q => if (q.showable && !q.hasDict) = true ∧ q.depth ≤ 50 ∧ q.shown.length ≤ lim then some (D.str q.shown) else none | none => none) = _
    rw [e]
    exact if_pos ⟨by rw [a, b]; rfl, by omega, by unfold lim; omega⟩
  | tup ds =>
    refine ⟨q.shown, ?_⟩
    show (match toPy (.tup ds) with | some q => if (q.showable && !q.hasDict) = true ∧ q.depth ≤ 50 ∧ q.shown.length ≤ lim then some (D.str q.shown) else none | none => none) = _
    rw [e]
    exact if_pos ⟨by rw [a, b]; rfl, by omega, by unfold lim; omega⟩
  | _ => simp [toPy] at e
theorem reprS_strs {xs : List Str} (h : ∀ s ∈ xs, Kth s) (hl : xs.length ≤ 528) : ∃ s, dReprS [.lst (xs.map .str)] = some (.str s) := by
  refine reprS_of (sx_lst (k := 0) (n := 5402) (m := 528) (fun d hd => ?_) (by rw [List.length_map]; exact hl)) (by decide) (by decide)
  obtain ⟨s, hs, rfl⟩ := List.mem_map.mp hd
  exact sx_str (h s hs).small (h s hs).len
theorem ws_forR {N : Nat} {mg : GS} {b : MS} {r : Sv} {p : List Int} {nx bk ct : Sv → List Int → Prop} {rt : D → List Int → Prop} (I : Nat → Sv → List Int → Prop) (h0 : I 0 r p)
    (hs : ∀ n r p, n < N → I n r p → ∃ r1 p1, mg (.int (n : Int)) r p = some (r1, p1) ∧ Ws (b r1 p1) (I (n + 1)) rt nx (I (n + 1))) (hd : ∀ r p, I N r p → nx r p) : Ws (forGo mg b (rngD 0 N) r p) nx rt bk ct := by
  refine ws_forGo (fun ds r q => ∃ n, n ≤ N ∧ ds = (rngD 0 N).drop n ∧ I n r q) ⟨0, Nat.zero_le _, rfl, h0⟩ ?_ ?_
  · rintro d ds r q ⟨n, hn, e, h⟩
    obtain ⟨hlt, rfl, rfl⟩ := rng_cons e
    obtain ⟨r1, p1, e1, h1⟩ := hs n r q hlt h
    exact ⟨r1, p1, e1, h1.mono (fun r q h => ⟨n + 1, hlt, rfl, h⟩) (fun _ _ h => h) (fun _ _ h => h) (fun r q h => ⟨n + 1, hlt, rfl, h⟩)⟩
  · rintro r q ⟨n, hn, e, h⟩
    have : n = N := Nat.le_antisymm hn (rng_nil e)
    subst this
    exact hd r q h
end Tx
namespace Tx
open PySem PySem.Spec PyProof.Rows L2 Dt
end Tx
namespace Tx
open PySem PySem.Spec PyProof.Rows L2 Dt
end Tx
namespace Tx
variable [Dt.GTab]
open PySem PySem.Spec PyProof.Rows L2 Dt
theorem goJ_mem : ∀ (xs fd : List Src) {x : Src}, x ∈ goJ fd xs → x ∈ fd ∨ x ∈ xs
  | [], fd, x, h => .inl h
  | y :: xs, fd, x, h => by
    unfold goJ at h
    split at h
    · exact .inl h
    · split at h
      · exact (goJ_mem xs fd h).imp id (List.mem_cons_of_mem _)
      · rcases goJ_mem xs (fd ++ [y]) h with h | h
        · rcases List.mem_append.mp h with h | h
          · exact .inl h
          · exact .inr (by rw [List.mem_singleton.mp h]; exact List.mem_cons_self)
        · exact .inr (List.mem_cons_of_mem _ h)
theorem joinS_mem {M N : List Src} {x : Src} (h : x ∈ joinS M N) : x ∈ M ∨ x ∈ N := by
  rcases goJ_mem (M ++ N) [] h with h | h
  · cases h
  · exact List.mem_append.mp h
end Tx
namespace Tx
variable [Dt.GTab]
open PySem PySem.Spec PyProof.Rows L2 Dt
theorem Sx.mono {k n k' n' : Nat} {d : D} (h : Sx k n d) (h1 : k ≤ k') (h2 : n ≤ n') : Sx k' n' d := by
  obtain ⟨q, e, a, b, c, g⟩ := h
  exact ⟨q, e, a, b, Nat.le_trans c h1, Nat.le_trans g h2⟩
end Tx
namespace Tx
open PySem PySem.Spec PyProof.Rows L2 Dt
end Tx
namespace Tx
variable [Dt.GTab]
open PySem PySem.Spec PyProof.Rows L2 Dt
/-- a key of names out of W -/
def NW (W : List Str) (s : Str) : Prop := ∃ ps : List Str, ps ≠ [] ∧ (∀ x ∈ ps, Nm x ∧ x ∈ W) ∧ s = J ps
def lvl (W : List Str) : Nat → List (List Str)
  | 0 => [[]]
  | k + 1 => (lvl W k).flatMap fun ps => W.map fun w => ps ++ [w]
def wld (W : List Str) : Nat → List (List Str)
  | 0 => []
  | k + 1 => wld W k ++ lvl W (k + 1)
theorem mem_lvl (W : List Str) : ∀ (k : Nat) (ps : List Str), ps ∈ lvl W k ↔ ps.length = k ∧ ∀ x ∈ ps, x ∈ W
  | 0, ps => by
    unfold lvl
    rw [List.mem_singleton]
    constructor
    · intro h
      subst h
      exact ⟨rfl, fun x hx => by cases hx⟩
    · intro h
      exact List.eq_nil_of_length_eq_zero h.1
  | k + 1, ps => by
    unfold lvl
    rw [List.mem_flatMap]
    constructor
    · rintro ⟨qs, hq, hm⟩
      obtain ⟨w, hw, rfl⟩ := List.mem_map.mp hm
      obtain ⟨h1, h2⟩ := (mem_lvl W k qs).mp hq
      refine ⟨by rw [List.length_append, List.length_singleton, h1], fun x hx => ?_⟩
      rcases List.mem_append.mp hx with h | h
      · exact h2 x h
      · rw [List.mem_singleton.mp h]
        exact hw
    · rintro ⟨h1, h2⟩
      rcases List.eq_nil_or_concat ps with e | ⟨qs, w, e⟩
      · rw [e] at h1
        cases h1
      · rw [List.concat_eq_append] at e
        subst e
        rw [List.length_append, List.length_singleton] at h1
        exact ⟨qs, (mem_lvl W k qs).mpr ⟨by omega, fun x hx => h2 x (List.mem_append_left _ hx)⟩, List.mem_map.mpr ⟨w, h2 w (List.mem_append_right _ (List.mem_singleton.mpr rfl)), rfl⟩⟩
theorem mem_wld (W : List Str) : ∀ (k : Nat) (ps : List Str), ps ∈ wld W k ↔ ps ≠ [] ∧ ps.length ≤ k ∧ ∀ x ∈ ps, x ∈ W
  | 0, ps => by
    unfold wld
    constructor
    · intro h
      cases h
    · rintro ⟨h1, h2, _⟩
      exact absurd (List.eq_nil_of_length_eq_zero (by omega)) h1
  | k + 1, ps => by
    unfold wld
    rw [List.mem_append, mem_wld W k ps, mem_lvl]
    constructor
    · rintro (⟨h1, h2, h3⟩ | ⟨h1, h2⟩)
      · exact ⟨h1, by omega, h3⟩
      · exact ⟨fun e => (by rw [e] at h1; cases h1), by omega, h2⟩
    · rintro ⟨h1, h2, h3⟩
      rcases Nat.lt_or_ge k ps.length with h | h
      · exact .inr ⟨by omega, h3⟩
      · exact .inl ⟨h1, h, h3⟩
end Tx
namespace Tx
variable [Dt.GTab]
open PySem PySem.Spec PyProof.Rows L2 Dt
def oth : List Str := ["fresh", "new", "zz", "other", "q", "qq", "qqq"]
structure GoodN (ws : List Str) : Prop where
  w : GoodW ws
  nd : ws.Nodup
  nf : ∀ s ∈ ws, s ∉ oth
  two : 2 ≤ ws.length
def goodNB (ws : List Str) : Bool := goodB ws && decide ws.Nodup && ws.all (fun s => decide (s ∉ oth)) && decide (2 ≤ ws.length)
theorem goodN_of {ws : List Str} (h : goodNB ws = true) : GoodN ws := by
  unfold goodNB at h
  rw [Bool.and_eq_true, Bool.and_eq_true, Bool.and_eq_true] at h
  exact ⟨good_of h.1.1.1, of_decide_eq_true h.1.1.2, fun s hs => of_decide_eq_true (List.all_eq_true.mp h.1.2 s hs), of_decide_eq_true h.2⟩
def lastC (s : Str) : Option Nat := (tl s).getLast?
theorem oth_last : oth.all (fun s => decide (lastC s ∉ [some 97, some 98, some 99])) = true := by decide +kernel
theorem goodN_abc {ws : List Str} (h3 : ws.length = 3) (hn : ∀ s ∈ ws, Nm s) (hl : ws.map lastC = [some 97, some 98, some 99]) : GoodN ws := by
  refine ⟨⟨fun e => (by rw [e] at h3; cases h3), hn, by omega⟩, ?_, fun s hs ho => ?_, by omega⟩
  · have h : (ws.map lastC).Nodup := by rw [hl]; decide
    unfold List.Nodup at h ⊢
    rw [List.pairwise_map] at h
    exact h.imp fun h e => h (congrArg lastC e)
  · have h := of_decide_eq_true (List.all_eq_true.mp oth_last s ho)
    refine h ?_
    rw [← hl]
    exact List.mem_map.mpr ⟨s, hs, rfl⟩
theorem oth_nm {s : Str} (h : s ∈ oth) : Nm s := by
  have : oth.all nmB = true := by decide +kernel
  exact nmB_nm (List.all_eq_true.mp this s h)
/-- the names and one more -/
theorem GoodN.x {ws : List Str} (h : GoodN ws) {f : Str} (hf : f ∈ oth) : GoodX (ws ++ [f]) ∧ (ws ++ [f]).Nodup := by
  refine ⟨⟨by simp, fun s hs => ?_, by rw [List.length_append, List.length_singleton]; have := h.w.ln; omega⟩, ?_⟩
  · rcases List.mem_append.mp hs with z | z
    · exact h.w.nm s z
    · rw [List.mem_singleton.mp z]
      exact oth_nm hf
  · refine List.nodup_append.mpr ⟨h.nd, by simp, fun a ha b hb e => h.nf a ha ?_⟩
    rw [e, List.mem_singleton.mp hb]
    exact hf
theorem GoodX.mem {W : List Str} (hW : GoodX W) {k : Nat} {ps : List Str} (h : ps ∈ wld W k) : ps ≠ [] ∧ ps.length ≤ k ∧ ∀ x ∈ ps, Nm x := by
  obtain ⟨h1, h2, h3⟩ := (mem_wld W k ps).mp h
  exact ⟨h1, h2, fun x hx => hW.nm x (h3 x hx)⟩
theorem NW.mono {V W : List Str} {s : Str} (h : NW V s) (hs : ∀ x ∈ V, x ∈ W) : NW W s := by
  obtain ⟨ps, h1, h2, e⟩ := h
  exact ⟨ps, h1, fun x hx => ⟨(h2 x hx).1, hs x (h2 x hx).2⟩, e⟩
end Tx
namespace Tx
variable [Dt.GTab]
open PySem PySem.Spec PyProof.Rows L2 Dt
def dd (xs : List Str) : List Str := (mergeG ([] : List (Str × Int)) (xs.map fun k => (k, (0 : Int)))).map (·.1)
def sprd : ST → List Str → List Str
  | .carry cp p q _, ks => dd ((ks.filter fun k => under k p).map (mv p q) ++ ks.filter fun k => cp || !(under k p))
  | .swap p q, ks => ks.map (sw p q)
  | _, ks => ks
def near (as : List ST) (ks : List Str) : List Str := as.foldl (fun ks a => sprd a ks) ks
end Tx
namespace Tx
open PySem PySem.Spec PyProof.Rows L2 Dt
end Tx
namespace Tx
variable [Dt.GTab]
open PySem PySem.Spec PyProof.Rows L2 Dt
/-- an integer in a list is one of a step -/
theorem int_src : ∀ {rs : List ST} {k : Str} {v : Int}, Sum.inr v ∈ srcR rs k → ∃ a ∈ rs, ∃ p, a = .put p v ∨ a = .dfl p v
  | [], k, v, h => by
    have e : (Sum.inr v : Src) = .inl k := List.mem_singleton.mp h
    cases e
  | a :: rs, k, v, h => by
    have ih : ∀ {k : Str}, Sum.inr v ∈ srcR rs k → ∃ x ∈ a :: rs, ∃ p, x = .put p v ∨ x = .dfl p v := fun h => by
      obtain ⟨x, hx, z⟩ := int_src h
      exact ⟨x, List.mem_cons_of_mem _ hx, z⟩
    cases a with
    | carry cp p q md =>
      have hf : Sum.inr v ∈ (if (!cp && under k p) = true then [] else srcR rs k) → ∃ x ∈ ST.carry cp p q md :: rs, ∃ p, x = .put p v ∨ x = .dfl p v := fun h => by
        split at h
        · cases h
        · exact ih h
      have h : Sum.inr v ∈ (if under k q = true then (if md = true then joinS (srcR rs (mv q p k)) (if (!cp && under k p) = true then [] else srcR rs k) else joinS (if (!cp && under k p) = true then [] else srcR rs k) (srcR rs (mv q p k))) else if (!cp && under k p) = true then [] else srcR rs k) := h
      generalize (if (!cp && under k p) = true then [] else srcR rs k) = far at hf h
      split at h
      · split at h
        · exact (joinS_mem h).elim ih hf
        · exact (joinS_mem h).elim hf ih
      · exact hf h
    | swap p q => exact ih h
    | drop p =>
      have h : Sum.inr v ∈ (if under k p = true then [] else srcR rs k) := h
      split at h
      · cases h
      · exact ih h
    | keep p =>
      have h : Sum.inr v ∈ (if under k p = true then srcR rs k else []) := h
      split at h
      · exact ih h
      · cases h
    | put p w =>
      have h : Sum.inr v ∈ (if k = p then [.inr w] else srcR rs k) := h
      split at h
      · have e := List.mem_singleton.mp h
        injection e with e
        exact ⟨_, List.mem_cons_self, p, .inl (by rw [e])⟩
      · exact ih h
    | dfl p w =>
      have h : Sum.inr v ∈ (if k = p then joinS (srcR rs k) [.inr w] else srcR rs k) := h
      split at h
      · rcases joinS_mem h with h | h
        · exact ih h
        · have e := List.mem_singleton.mp h
          injection e with e
          exact ⟨_, List.mem_cons_self, p, .inr (by rw [e])⟩
      · exact ih h
/-- no step gives this integer -/
def NoV (as : List ST) (V : Int) : Prop := ∀ k, (Sum.inr V : Src) ∉ srcR as.reverse k
theorem NoV.of {as : List ST} {V : Int} (h : ∀ a ∈ as, ∀ p, a ≠ .put p V ∧ a ≠ .dfl p V) : NoV as V := fun k hk => by
  obtain ⟨a, ha, p, e⟩ := int_src hk
  rcases e with e | e
  · exact (h a (List.mem_reverse.mp ha) p).1 e
  · exact (h a (List.mem_reverse.mp ha) p).2 e
end Tx
namespace Tx
open PySem PySem.Spec PyProof.Rows L2 Dt
end Tx
namespace Tx
variable [Dt.GTab]
open PySem PySem.Spec PyProof.Rows L2 Dt
section
variable {r : Ev} {rs : Sv} {p : List Int} {Q : D → List Int → Prop} {nx bk ct : Sv → List Int → Prop} {rt : D → List Int → Prop} {me ml : M}
theorem wi_isE {a : Addr} {b : Bool} (h : Wp (me r p) fun x p => x = .adr a ∧ Q (.bl b) p) : Wp (mIsE a b me r p) Q := by
  obtain ⟨x, p1, e1, rfl, hq⟩ := h
  unfold mIsE
  refine wp_bnd.mpr (Wp.of_eq e1 ?_)
  show Wp (if a = a then some (D.bl b, p1) else none) Q
  rw [if_pos rfl]
  exact ⟨_, _, rfl, hq⟩
theorem wi_fldE {i : Xf} {n : Str} (hn : n = i.fl) (h : Wp (me r p) fun x p => x = .adr i.a ∧ Q i.x p) : Wp (mFld i n me r p) Q := by
  obtain ⟨x, p1, e1, rfl, hq⟩ := h
  unfold mFld
  rw [if_pos hn]
  refine wp_bnd.mpr (Wp.of_eq e1 ?_)
  show Wp (if i.a = i.a then some (i.x, p1) else none) Q
  rw [if_pos rfl]
  exact ⟨_, _, rfl, hq⟩
theorem wi_caught {out : D → List Int → Option (D × List Int)} (h : Wp (ml r p) fun d p => Wp (out d p) Q) : Wp (mCaught out ml r p) Q := wp_bnd.mpr h
theorem si_raise {c f : Str} (h : Wp (me (viR rs) p) fun d p => rt (exn c f d) p) : Ws (sRaise c f me rs p) nx rt bk ct := by
  obtain ⟨x, p1, e1, hq⟩ := h
  unfold sRaise
  rw [e1]
  exact hq
theorem si_dropXn (h : Wp (me (viR rs) p) fun d p => isExn d = false ∧ nx rs p) : Ws (sDropX me rs p) nx rt bk ct := by
  obtain ⟨x, p1, e1, h1, hq⟩ := h
  unfold sDropX
  rw [e1]
  simp only [h1]
  exact hq
theorem si_dropXe (h : Wp (me (viR rs) p) fun d p => isExn d = true ∧ rt d p) : Ws (sDropX me rs p) nx rt bk ct := by
  obtain ⟨x, p1, e1, h1, hq⟩ := h
  unfold sDropX
  rw [e1]
  simp only [h1, if_true]
  exact hq
end
/-- the parts of any text -/
theorem joinL_ex : ∀ l : List Nat, ∃ ls : List (List Nat), ls ≠ [] ∧ (∀ x ∈ ls, 47 ∉ x) ∧ TL.joinL [47] ls = l
  | [] => ⟨[[]], by simp, by simp, rfl⟩
  | c :: l => by
    obtain ⟨ls, h1, h2, h3⟩ := joinL_ex l
    by_cases hc : c = 47
    · subst hc
      cases ls with
      | nil => exact absurd rfl h1
      | cons x xs =>
        refine ⟨[] :: x :: xs, by simp, fun y hy => ?_, ?_⟩
        · rcases List.mem_cons.mp hy with rfl | hy
          · simp
          · exact h2 y hy
        · show [] ++ ([47] ++ TL.joinL [47] (x :: xs)) = _
          rw [h3]
          rfl
    · cases ls with
      | nil => exact absurd rfl h1
      | cons x xs =>
        refine ⟨(c :: x) :: xs, by simp, fun y hy => ?_, ?_⟩
        · rcases List.mem_cons.mp hy with rfl | hy
          · intro hm
            rcases List.mem_cons.mp hm with e | e
            · exact hc e.symm
            · exact h2 x List.mem_cons_self e
          · exact h2 y (List.mem_cons_of_mem _ hy)
        · cases xs with
          | nil =>
            show c :: x = _
            rw [← h3]
            rfl
          | cons y ys =>
            show (c :: x) ++ ([47] ++ TL.joinL [47] (y :: ys)) = _
            rw [← h3]
            rfl
theorem str_parts (z : Str) : ∃ ps : List Str, ps ≠ [] ∧ (∀ p ∈ ps, noSl p) ∧ z = J ps := by
  obtain ⟨ls, h1, h2, h3⟩ := joinL_ex (tl z)
  refine ⟨ls.map fun l => ⟨l.toArray⟩, by simpa using h1, fun p hp => ?_, ?_⟩
  · obtain ⟨l, hl, rfl⟩ := List.mem_map.mp hp
    show 47 ∉ TL.tl (⟨l.toArray⟩ : Str)
    have : TL.tl (⟨l.toArray⟩ : Str) = l := by simp [TL.tl]
    rw [this]
    exact h2 l hl
  · unfold J
    rw [TL.join_eq]
    refine TL.ext_tl ?_
    rw [TL.tl_join, List.map_map]
    have e : (ls.map (TL.tl ∘ fun l => (⟨l.toArray⟩ : Str))) = ls := by
      have : (TL.tl ∘ fun l => (⟨l.toArray⟩ : Str)) = id := by
        funext l
        simp [TL.tl]
      rw [this, List.map_id]
    rw [e]
    have es : TL.tl sSl = [47] := by decide +kernel
    rw [es, h3]
theorem joinL_len : ∀ ls : List (List Nat), ls ≠ [] → (TL.joinL [47] ls).length + 1 = (ls.map fun l => l.length + 1).sum
  | [], h => absurd rfl h
  | [x], _ => by simp [TL.joinL]
  | x :: y :: ys, _ => by
    have ih := joinL_len (y :: ys) (by simp)
    show (x ++ ([47] ++ TL.joinL [47] (y :: ys))).length + 1 = _
    rw [List.map_cons, List.sum_cons, ← ih]
    simp
    omega
/-- the weight of parts -/
def wt (ps : List Str) : Nat := (ps.map fun p => p.length + 1).sum
theorem J_len {ps : List Str} (h : ps ≠ []) : (J ps).length + 1 = wt ps := by
  unfold J wt
  rw [TL.join_eq, TL.len_tl, TL.tl_join]
  have es : TL.tl sSl = [47] := by decide +kernel
  rw [es, joinL_len _ (by simpa using h), List.map_map]
  exact congrArg List.sum (List.map_congr_left fun p _ => by show (TL.tl p).length + 1 = p.length + 1; rw [← TL.len_tl])
theorem wt_append (a b : List Str) : wt (a ++ b) = wt a + wt b := by
  unfold wt
  rw [List.map_append, List.sum_append]
theorem wt_len (a : List Str) : a.length ≤ wt a := by
  induction a with
  | nil => simp
  | cons x a ih =>
    unfold wt at *
    rw [List.map_cons, List.sum_cons, List.length_cons]
    omega
theorem ws_rt {o : Option Out} {x : D} {p : List Int} (h : Ws o (fun _ _ => False) (fun d q => d = x ∧ q = p) (fun _ _ => False) (fun _ _ => False)) : o = some (.rt x p) := by
  unfold Ws at h
  split at h
  · exact h.elim
  · obtain ⟨rfl, rfl⟩ := h
    rfl
  · exact h.elim
  · exact h.elim
  · exact h.elim
theorem joinSz_wt (ps : List Str) : joinSz sSl ps = wt ps := by
  unfold joinSz wt
  rw [len_sl]
  induction ps with
  | nil => rfl
  | cons x ps ih =>
    simp only [List.map_cons, List.sum_cons, List.length_cons]
    omega
theorem ev_join {ps : List Str} (h : wt ps ≤ lim) : dJoin (.str "/") [.lst (ps.map .str)] = some (.str (J ps)) := by
  show (match asStrs (ps.map D.str) with | some ys => if joinSz "/" ys ≤ lim then some (D.str (Txt.join "/" ys)) else none | none => none) = _
  rw [asStrs_map]
  refine if_pos ?_
  show joinSz sSl ps ≤ lim
  rw [joinSz_wt]
  exact h
theorem ev_splitP {ps : List Str} (h : ps ≠ []) (hp : ∀ p ∈ ps, noSl p) : dSplit (.str (J ps)) [.str "/"] = some (.lst (ps.map .str)) := by
  have e : dSplit (.str (J ps)) [.str "/"] = some (.lst ((Txt.split (J ps) sSl).map .str)) := rfl
  rw [e, split_J h hp]
theorem wt_take (ps : List Str) (n : Nat) : wt (ps.take n) + wt (ps.drop n) = wt ps := by
  rw [← wt_append, List.take_append_drop]
end Tx
namespace Tx
variable [Dt.GTab]
open PySem PySem.Spec PyProof.Rows L2 Dt
theorem deqv_bl (a b : Bool) : deqv (.bl a) (.bl b) = (a == b) := by simp [deqv]
theorem ev_countB (bs : List Bool) : dCount (.lst (bs.map .bl)) [.bl true] = some (.int (bs.countP (· == true) : Nat)) := by
  show (if (flat 59 (.bl true) && flats 59 (bs.map .bl)) = true then some (D.int ((bs.map D.bl).countP fun e => deqv e (.bl true) : Nat)) else none) = _
  rw [flat_bl, flats_bls, List.countP_map]
  have e : ((fun e => deqv e (.bl true)) ∘ D.bl) = fun b : Bool => b == true := funext fun b => deqv_bl b true
  rw [e]
  rfl
theorem ev_indexB (bs : List Bool) : dIndex (.lst (bs.map .bl)) [.bl true] = (bs.findIdx? (· == true)).map fun j => .int (j : Nat) := by
  show (if (flat 59 (.bl true) && flats 59 (bs.map .bl)) = true then ((bs.map D.bl).findIdx? fun e => deqv e (.bl true)).map (fun j => D.int (j : Nat)) else none) = _
  rw [flat_bl, flats_bls, List.findIdx?_map]
  have e : ((fun e => deqv e (.bl true)) ∘ D.bl) = fun b : Bool => b == true := funext fun b => deqv_bl b true
  rw [e]
  rfl
theorem ev_eqB {a b : List Bool} : dEq (.lst (a.map .bl)) (.lst (b.map .bl)) = some (.bl (decide (a = b))) := by
  unfold dEq deep; rw [flat_lst, flat_lst, flats_bls, flats_bls, deqv, deqvs_bls]; rfl
def errTail : MS := sSeq (sIf (mOr (mTst (mOp dNe (mMt dCount (mVar 1) (mCons (mC (.bl true)) (mNil))) (mC (.int 1)))) (mTst (mOp dNe (mVar 3) (mVar 2)))) (sRet false (mUn dNeg (mC (.int 1)))) (sNext))
  (sSeq (sAsg 4 (mMt dIndex (mVar 1) (mCons (mC (.bl true)) (mNil))))
  (sRet false (mIf (mTst (mOp dEq (mVar 2) (mLst (mCons (mOp dLt (mVar 4) (mC (.int 19))) (mCons (mChain dLt dLt (mC (.int 18)) (mVar 4) (mC (.int 23))) (mCons (mOp dEq (mVar 4) (mC (.int 23))) (mCons (mOp dEq (mVar 4) (mC (.int 24))) (mNil)))))))) (mVar 4) (mUn dNeg (mC (.int 1))))))
theorem err_tail {bs ba : List Bool} {j : Nat} (hc : bs.countP (· == true) = 1) (hi : bs.findIdx? (· == true) = some j)
    (hb : ba = [decide ((j : Int) < 19), if decide ((18 : Int) < j) = true then decide ((j : Int) < 23) else false, decide ((j : Int) = 23), decide ((j : Int) = 24)]) (c0 c4 : Cl) (p : List Int) {nx bk ct : Sv → List Int → Prop} :
    Ws (errTail [c0, .sh (.lst (bs.map .bl)), .sh (.lst (ba.map .bl)), .sh (.lst (ba.map .bl)), c4] p) nx (fun d q => d = .int j ∧ q = p) bk ct := by
  unfold errTail
  refine si_seq (si_if (wi_or (wi_tst (wi_op (wi_mt (wi_var rfl (wi_cons (wi_c (wi_nil ⟨_, ev_countB bs, wi_c ⟨_, ev_neI, bl_i ?_⟩⟩)))))))))
  rw [hc]
  refine ite_f (by decide) (wi_tst (wi_op (wi_var rfl (wi_var rfl ⟨_, ev_neB, bl_i (ite_f (by rw [decide_eq_true rfl]; rfl) (si_next ?_))⟩))))
  refine si_seq (si_asg (wi_mt (wi_var rfl (wi_cons (wi_c (wi_nil ⟨.int (j : Nat), by rw [ev_indexB, hi]; rfl, ?_⟩))))))
  refine si_ret (wi_if (wi_tst (wi_op (wi_var rfl (wi_lst (wi_cons (wi_op (wi_var rfl (wi_c ⟨.bl (decide ((j : Int) < 19)), rfl, ?_⟩)))))))))
  have fin : ∀ (x : Bool), x = (if decide ((18 : Int) < j) = true then decide ((j : Int) < 23) else false) → Wp (mCons (mOp dEq (mVar 4) (mC (.int 23))) (mCons (mOp dEq (mVar 4) (mC (.int 24))) (mNil)) (viR ([c0, .sh (.lst (bs.map .bl)), .sh (.lst (ba.map .bl)), .sh (.lst (ba.map .bl)), c4].set 4 (.sh (.int (j : Nat))))) p) fun xs q =>
      (D.bl (decide ((j : Int) < 19)) :: D.bl x :: xs).length ≤ lim ∧ ∃ z, dEq (.lst (ba.map .bl)) (.lst (D.bl (decide ((j : Int) < 19)) :: D.bl x :: xs)) = some z ∧ ∃ b, z = .bl b ∧ if b = true then Wp (mVar 4 (viR ([c0, .sh (.lst (bs.map .bl)), .sh (.lst (ba.map .bl)), .sh (.lst (ba.map .bl)), c4].set 4 (.sh (.int (j : Nat))))) q) (fun d q => d = .int j ∧ q = p) else Wp (mUn dNeg (mC (.int 1)) (viR ([c0, .sh (.lst (bs.map .bl)), .sh (.lst (ba.map .bl)), .sh (.lst (ba.map .bl)), c4].set 4 (.sh (.int (j : Nat))))) q) (fun d q => d = .int j ∧ q = p) := by
    intro x hx
    refine wi_cons (wi_op (wi_var rfl (wi_c ⟨_, ev_eqI, wi_cons (wi_op (wi_var rfl (wi_c ⟨_, ev_eqI, wi_nil ⟨by show 4 ≤ lim; decide, ?_⟩⟩)))⟩)))
    refine ⟨.bl true, ?_, bl_i (ite_t rfl (wi_var rfl ⟨rfl, rfl⟩))⟩
    rw [show ([D.bl (decide ((j : Int) < 19)), .bl x, .bl (decide ((j : Int) = 23)), .bl (decide ((j : Int) = 24))] : List D) = [decide ((j : Int) < 19), x, decide ((j : Int) = 23), decide ((j : Int) = 24)].map .bl from rfl, ev_eqB, hb, hx, decide_eq_true rfl]
  refine wi_cons (wi_chain (wi_c (wi_var rfl ⟨.bl (decide ((18 : Int) < j)), rfl, _, rfl, ?_⟩)))
  cases hd : decide ((18 : Int) < j) with
  | true => exact ite_t rfl (wi_c ⟨.bl (decide ((j : Int) < 23)), rfl, fin _ (by rw [hd]; rfl)⟩)
  | false => exact ite_f rfl (fin _ (by rw [hd]; rfl))
theorem isE_eq (a : Addr) {r : Ev} (h : r[0]? = some (some (.adr a))) (p : List Int) : ∀ bs : List Bool, (bs.foldr (fun b m => mCons (mIsE a b (mVar 0)) m) mNil : ML) r p = some (bs.map .bl, p)
  | [] => rfl
  | b :: bs => by
    have e1 : mIsE a b (mVar 0) r p = some (.bl b, p) := by
      unfold mIsE mVar
      rw [h]
      show (if a = a then some (D.bl b, p) else none) = _
      rw [if_pos rfl]
    show mCons (mIsE a b (mVar 0)) (bs.foldr (fun b m => mCons (mIsE a b (mVar 0)) m) mNil) r p = _
    unfold mCons
    rw [e1]
    show bnd ((bs.foldr (fun b m => mCons (mIsE a b (mVar 0)) m) mNil : ML) r p) _ = _
    rw [isE_eq a h p bs]
    rfl
theorem isE_new {a : Addr} {rest : MS} {r : Sv} {p : List Int} {i : Nat} {nx bk ct : Sv → List Int → Prop} {rt : D → List Int → Prop} (bs : List Bool) (h : (shR r)[0]? = some (some (.adr a))) (hb : bs.length ≤ lim) (k : Ws (rest (r.set i (.sh (.lst (bs.map .bl)))) p) nx rt bk ct) :
    Ws (sSeq (sAsg i (mLst (bs.foldr (fun b m => mCons (mIsE a b (mVar 0)) m) mNil))) rest r p) nx rt bk ct := by
  refine si_seq (si_asg (wi_lst (Wp.of_eq (isE_eq a h p bs) ⟨by rw [List.length_map]; exact hb, k⟩)))
theorem isE_add {a : Addr} {rest : MS} {r : Sv} {p : List Int} {i : Nat} {nx bk ct : Sv → List Int → Prop} {rt : D → List Int → Prop} (bs : List Bool) {xs : List Bool} (h : (shR r)[0]? = some (some (.adr a))) (hi : (shR r)[i]? = some (some (.lst (xs.map .bl)))) (hb : xs.length + bs.length ≤ lim)
    (k : Ws (rest (r.set i (.sh (.lst ((xs ++ bs).map .bl)))) p) nx rt bk ct) :
    Ws (sSeq (sAsg i (mOp dAdd (mVar i) (mLst (bs.foldr (fun b m => mCons (mIsE a b (mVar 0)) m) mNil)))) rest r p) nx rt bk ct := by
  refine si_seq (si_asg (wi_op ?_))
  refine Wp.of_eq (show mVar i (shR r) p = some (.lst (xs.map .bl), p) by unfold mVar; rw [hi]) ?_
  refine wi_lst (Wp.of_eq (isE_eq a h p bs) ⟨by rw [List.length_map]; omega, .lst ((xs ++ bs).map .bl), ?_, k⟩)
  show (if (xs.map D.bl).length + (bs.map D.bl).length ≤ lim then some (D.lst (xs.map .bl ++ bs.map .bl)) else none) = _
  rw [List.length_map, List.length_map, if_pos hb, List.map_append]
def errBody (a : Addr) (s1 s2 s3 s4 s5 s6 s7 s8 s9 b1 b2 o1 o2 : List Bool) : MS := sSeq (sAsg 1 (mLst (s1.foldr (fun b m => mCons (mIsE a b (mVar 0)) m) mNil))) (sSeq (sAsg 1 (mOp dAdd (mVar 1) (mLst (s2.foldr (fun b m => mCons (mIsE a b (mVar 0)) m) mNil)))) (sSeq (sAsg 1 (mOp dAdd (mVar 1) (mLst (s3.foldr (fun b m => mCons (mIsE a b (mVar 0)) m) mNil)))) (sSeq (sAsg 1 (mOp dAdd (mVar 1) (mLst (s4.foldr (fun b m => mCons (mIsE a b (mVar 0)) m) mNil)))) (sSeq (sAsg 1 (mOp dAdd (mVar 1) (mLst (s5.foldr (fun b m => mCons (mIsE a b (mVar 0)) m) mNil)))) (sSeq (sAsg 1 (mOp dAdd (mVar 1) (mLst (s6.foldr (fun b m => mCons (mIsE a b (mVar 0)) m) mNil)))) (sSeq (sAsg 1 (mOp dAdd (mVar 1) (mLst (s7.foldr (fun b m => mCons (mIsE a b (mVar 0)) m) mNil)))) (sSeq (sAsg 1 (mOp dAdd (mVar 1) (mLst (s8.foldr (fun b m => mCons (mIsE a b (mVar 0)) m) mNil)))) (sSeq (sAsg 1 (mOp dAdd (mVar 1) (mLst (s9.foldr (fun b m => mCons (mIsE a b (mVar 0)) m) mNil)))) (sSeq (sAsg 2 (mLst (b1.foldr (fun b m => mCons (mIsE a b (mVar 0)) m) mNil))) (sSeq (sAsg 2 (mOp dAdd (mVar 2) (mLst (b2.foldr (fun b m => mCons (mIsE a b (mVar 0)) m) mNil)))) (sSeq (sAsg 3 (mLst (o1.foldr (fun b m => mCons (mIsE a b (mVar 0)) m) mNil))) (sSeq (sAsg 3 (mOp dAdd (mVar 3) (mLst (o2.foldr (fun b m => mCons (mIsE a b (mVar 0)) m) mNil)))) errTail))))))))))))
theorem err_all {a : Addr} {s1 s2 s3 s4 s5 s6 s7 s8 s9 b1 b2 o1 o2 : List Bool} {j : Nat} (hs1 : s1.length ≤ 3) (hs2 : s2.length ≤ 3) (hs3 : s3.length ≤ 3) (hs4 : s4.length ≤ 3) (hs5 : s5.length ≤ 3) (hs6 : s6.length ≤ 3) (hs7 : s7.length ≤ 3) (hs8 : s8.length ≤ 3) (hs9 : s9.length ≤ 3) (hb1 : b1.length ≤ 3) (hb2 : b2.length ≤ 3) (ho1 : o1.length ≤ 3) (ho2 : o2.length ≤ 3) (hc : ((((((((s1 ++ s2) ++ s3) ++ s4) ++ s5) ++ s6) ++ s7) ++ s8) ++ s9).countP (· == true) = 1) (hi : ((((((((s1 ++ s2) ++ s3) ++ s4) ++ s5) ++ s6) ++ s7) ++ s8) ++ s9).findIdx? (· == true) = some j)
    (hb : b1 ++ b2 = [decide ((j : Int) < 19), if decide ((18 : Int) < j) = true then decide ((j : Int) < 23) else false, decide ((j : Int) = 23), decide ((j : Int) = 24)]) (ho : o1 ++ o2 = b1 ++ b2) (p : List Int) :
    runF 5 1 (errBody a s1 s2 s3 s4 s5 s6 s7 s8 s9 b1 b2 o1 o2) [.adr a] p = some (.int j, p) := by
  refine Wp.eq (fi_run ?_)
  unfold errBody
  show Ws _ _ _ _ _
  refine isE_new s1 rfl (by unfold lim; omega) ?_
  refine isE_add s2 (xs := s1) rfl rfl (by first | (simp only [List.length_append]; unfold lim; omega) | (unfold lim; omega)) ?_
  refine isE_add s3 (xs := (s1 ++ s2)) rfl rfl (by first | (simp only [List.length_append]; unfold lim; omega) | (unfold lim; omega)) ?_
  refine isE_add s4 (xs := ((s1 ++ s2) ++ s3)) rfl rfl (by first | (simp only [List.length_append]; unfold lim; omega) | (unfold lim; omega)) ?_
  refine isE_add s5 (xs := (((s1 ++ s2) ++ s3) ++ s4)) rfl rfl (by first | (simp only [List.length_append]; unfold lim; omega) | (unfold lim; omega)) ?_
  refine isE_add s6 (xs := ((((s1 ++ s2) ++ s3) ++ s4) ++ s5)) rfl rfl (by first | (simp only [List.length_append]; unfold lim; omega) | (unfold lim; omega)) ?_
  refine isE_add s7 (xs := (((((s1 ++ s2) ++ s3) ++ s4) ++ s5) ++ s6)) rfl rfl (by first | (simp only [List.length_append]; unfold lim; omega) | (unfold lim; omega)) ?_
  refine isE_add s8 (xs := ((((((s1 ++ s2) ++ s3) ++ s4) ++ s5) ++ s6) ++ s7)) rfl rfl (by first | (simp only [List.length_append]; unfold lim; omega) | (unfold lim; omega)) ?_
  refine isE_add s9 (xs := (((((((s1 ++ s2) ++ s3) ++ s4) ++ s5) ++ s6) ++ s7) ++ s8)) rfl rfl (by first | (simp only [List.length_append]; unfold lim; omega) | (unfold lim; omega)) ?_
  refine isE_new b1 rfl (by unfold lim; omega) ?_
  refine isE_add b2 (xs := b1) rfl rfl (by unfold lim; omega) ?_
  refine isE_new o1 rfl (by unfold lim; omega) ?_
  refine isE_add o2 (xs := o1) rfl rfl (by unfold lim; omega) ?_
  have key := err_tail (bs := ((((((((s1 ++ s2) ++ s3) ++ s4) ++ s5) ++ s6) ++ s7) ++ s8) ++ s9)) (ba := b1 ++ b2) hc hi hb (.sh (.adr a)) .no p (nx := fun _ p' => D.non = .int j ∧ p' = p) (bk := fun _ _ => False) (ct := fun _ _ => False)
  rw [ho]
  exact key
end Tx
namespace K01
variable [Dt.GTab]
open PySem PySem.Spec PyProof.Rows L2 Dt

noncomputable section
def topS (i : Nat) : Stmt := PySem.Challenge.pw_keymoves_k01_names_keys_and_paths.main.body.getD i (.Pass ⟨0, 0, 0, 0⟩)
def clsBody : Stmt → List Stmt
  | .ClassDef (body := b) .. => b
  | _ => []
/-- what the module holds -/
structure Fs (P : Program) (K : PySem.W.Frag) (mg : Str → Option Value) where
  C_InvalidKey : Addr
  gm_InvalidKey : mg "InvalidKey" = some (.ref C_InvalidKey)
  C_InvalidPath : Addr
  gm_InvalidPath : mg "InvalidPath" = some (.ref C_InvalidPath)
  C_InvalidWins : Addr
  gm_InvalidWins : mg "InvalidWins" = some (.ref C_InvalidWins)
  C_MoveError : Addr
  gm_MoveError : mg "MoveError" = some (.ref C_MoveError)
  C_SearchError : Addr
  gm_SearchError : mg "SearchError" = some (.ref C_SearchError)
  C_ConflictError : Addr
  gm_ConflictError : mg "ConflictError" = some (.ref C_ConflictError)
  C_InvalidValue : Addr
  gm_InvalidValue : mg "InvalidValue" = some (.ref C_InvalidValue)
  C_InvalidName : Addr
  gm_InvalidName : mg "InvalidName" = some (.ref C_InvalidName)
  C_InvalidStop : Addr
  gm_InvalidStop : mg "InvalidStop" = some (.ref C_InvalidStop)
  C_InvalidPattern : Addr
  gm_InvalidPattern : mg "InvalidPattern" = some (.ref C_InvalidPattern)
  C_InvalidCapacity : Addr
  gm_InvalidCapacity : mg "InvalidCapacity" = some (.ref C_InvalidCapacity)
  C_InvalidCommand : Addr
  gm_InvalidCommand : mg "InvalidCommand" = some (.ref C_InvalidCommand)
  C_NotARecord : Addr
  gm_NotARecord : mg "NotARecord" = some (.ref C_NotARecord)
  C_NotAScript : Addr
  gm_NotAScript : mg "NotAScript" = some (.ref C_NotAScript)
  C_InvalidEntries : Addr
  gm_InvalidEntries : mg "InvalidEntries" = some (.ref C_InvalidEntries)
  C_InvalidSteps : Addr
  gm_InvalidSteps : mg "InvalidSteps" = some (.ref C_InvalidSteps)
  C_InvalidPremises : Addr
  gm_InvalidPremises : mg "InvalidPremises" = some (.ref C_InvalidPremises)
  C_InvalidReader : Addr
  gm_InvalidReader : mg "InvalidReader" = some (.ref C_InvalidReader)
  C_InvalidNames : Addr
  gm_InvalidNames : mg "InvalidNames" = some (.ref C_InvalidNames)
  C_InvalidPatterns : Addr
  gm_InvalidPatterns : mg "InvalidPatterns" = some (.ref C_InvalidPatterns)
  C_InvalidDeed : Addr
  gm_InvalidDeed : mg "InvalidDeed" = some (.ref C_InvalidDeed)
  C_InvalidText : Addr
  gm_InvalidText : mg "InvalidText" = some (.ref C_InvalidText)
  C_MissingKey : Addr
  gm_MissingKey : mg "MissingKey" = some (.ref C_MissingKey)
  C_UnknownName : Addr
  gm_UnknownName : mg "UnknownName" = some (.ref C_UnknownName)
  C_NotLossless : Addr
  gm_NotLossless : mg "NotLossless" = some (.ref C_NotLossless)
  C_NothingToUndo : Addr
  gm_NothingToUndo : mg "NothingToUndo" = some (.ref C_NothingToUndo)
  C_Contradictory : Addr
  gm_Contradictory : mg "Contradictory" = some (.ref C_Contradictory)
  C_TooMany : Addr
  gm_TooMany : mg "TooMany" = some (.ref C_TooMany)
  C_LimitError : Addr
  gm_LimitError : mg "LimitError" = some (.ref C_LimitError)
  a_InvalidKey___init__ : Addr
  f_InvalidKey___init__ : FuncData
  cd_InvalidKey___init__ : Addr
  cc_InvalidKey___init__ : Addr
  F_InvalidKey___init__ : FunC P K "__init__" "InvalidKey.__init__" ((clsBody (topS 5)).getD 0 (.Pass ⟨0, 0, 0, 0⟩)) [] a_InvalidKey___init__ f_InvalidKey___init__ cd_InvalidKey___init__ cc_InvalidKey___init__ C_InvalidKey "self"
  x_InvalidKey : XcV P K mg "InvalidKey" "value" C_InvalidKey a_InvalidKey___init__ f_InvalidKey___init__
  xk_InvalidKey : XKn K [.ref C_MoveError, .ref C_SearchError, .ref C_ConflictError, .ref C_LimitError] "InvalidKey" "value" C_InvalidKey
  kt_InvalidKey_InvalidKey : PySem.W.kitOne K (.ref C_InvalidKey) (.ref C_InvalidKey) = some true
  kt_InvalidKey_InvalidPath : PySem.W.kitOne K (.ref C_InvalidKey) (.ref C_InvalidPath) = some false
  kt_InvalidKey_InvalidWins : PySem.W.kitOne K (.ref C_InvalidKey) (.ref C_InvalidWins) = some false
  kt_InvalidKey_MoveError : PySem.W.kitOne K (.ref C_InvalidKey) (.ref C_MoveError) = some true
  kt_InvalidKey_SearchError : PySem.W.kitOne K (.ref C_InvalidKey) (.ref C_SearchError) = some false
  kt_InvalidKey_ConflictError : PySem.W.kitOne K (.ref C_InvalidKey) (.ref C_ConflictError) = some false
  kt_InvalidKey_ValueError : PySem.W.kitOne K (.ref C_InvalidKey) (.type "ValueError") = some true
  kt_InvalidKey_LookupError : PySem.W.kitOne K (.ref C_InvalidKey) (.type "LookupError") = some false
  kt_InvalidKey_RuntimeError : PySem.W.kitOne K (.ref C_InvalidKey) (.type "RuntimeError") = some false
  kt_InvalidKey_InvalidValue : PySem.W.kitOne K (.ref C_InvalidKey) (.ref C_InvalidValue) = some false
  kt_InvalidKey_InvalidName : PySem.W.kitOne K (.ref C_InvalidKey) (.ref C_InvalidName) = some false
  kt_InvalidKey_InvalidStop : PySem.W.kitOne K (.ref C_InvalidKey) (.ref C_InvalidStop) = some false
  kt_InvalidKey_InvalidPattern : PySem.W.kitOne K (.ref C_InvalidKey) (.ref C_InvalidPattern) = some false
  kt_InvalidKey_InvalidCapacity : PySem.W.kitOne K (.ref C_InvalidKey) (.ref C_InvalidCapacity) = some false
  kt_InvalidKey_InvalidCommand : PySem.W.kitOne K (.ref C_InvalidKey) (.ref C_InvalidCommand) = some false
  kt_InvalidKey_NotARecord : PySem.W.kitOne K (.ref C_InvalidKey) (.ref C_NotARecord) = some false
  kt_InvalidKey_NotAScript : PySem.W.kitOne K (.ref C_InvalidKey) (.ref C_NotAScript) = some false
  kt_InvalidKey_InvalidEntries : PySem.W.kitOne K (.ref C_InvalidKey) (.ref C_InvalidEntries) = some false
  kt_InvalidKey_InvalidSteps : PySem.W.kitOne K (.ref C_InvalidKey) (.ref C_InvalidSteps) = some false
  kt_InvalidKey_InvalidPremises : PySem.W.kitOne K (.ref C_InvalidKey) (.ref C_InvalidPremises) = some false
  kt_InvalidKey_InvalidReader : PySem.W.kitOne K (.ref C_InvalidKey) (.ref C_InvalidReader) = some false
  kt_InvalidKey_InvalidNames : PySem.W.kitOne K (.ref C_InvalidKey) (.ref C_InvalidNames) = some false
  kt_InvalidKey_InvalidPatterns : PySem.W.kitOne K (.ref C_InvalidKey) (.ref C_InvalidPatterns) = some false
  kt_InvalidKey_InvalidDeed : PySem.W.kitOne K (.ref C_InvalidKey) (.ref C_InvalidDeed) = some false
  kt_InvalidKey_InvalidText : PySem.W.kitOne K (.ref C_InvalidKey) (.ref C_InvalidText) = some false
  kt_InvalidKey_MissingKey : PySem.W.kitOne K (.ref C_InvalidKey) (.ref C_MissingKey) = some false
  kt_InvalidKey_UnknownName : PySem.W.kitOne K (.ref C_InvalidKey) (.ref C_UnknownName) = some false
  kt_InvalidKey_NotLossless : PySem.W.kitOne K (.ref C_InvalidKey) (.ref C_NotLossless) = some false
  kt_InvalidKey_NothingToUndo : PySem.W.kitOne K (.ref C_InvalidKey) (.ref C_NothingToUndo) = some false
  kt_InvalidKey_Contradictory : PySem.W.kitOne K (.ref C_InvalidKey) (.ref C_Contradictory) = some false
  kt_InvalidKey_TooMany : PySem.W.kitOne K (.ref C_InvalidKey) (.ref C_TooMany) = some false
  kt_InvalidKey_LimitError : PySem.W.kitOne K (.ref C_InvalidKey) (.ref C_LimitError) = some false
  kt_InvalidKey_ArithmeticError : PySem.W.kitOne K (.ref C_InvalidKey) (.type "ArithmeticError") = some false
  a_InvalidPath___init__ : Addr
  f_InvalidPath___init__ : FuncData
  cd_InvalidPath___init__ : Addr
  cc_InvalidPath___init__ : Addr
  F_InvalidPath___init__ : FunC P K "__init__" "InvalidPath.__init__" ((clsBody (topS 6)).getD 0 (.Pass ⟨0, 0, 0, 0⟩)) [] a_InvalidPath___init__ f_InvalidPath___init__ cd_InvalidPath___init__ cc_InvalidPath___init__ C_InvalidPath "self"
  x_InvalidPath : XcV P K mg "InvalidPath" "value" C_InvalidPath a_InvalidPath___init__ f_InvalidPath___init__
  xk_InvalidPath : XKn K [.ref C_MoveError, .ref C_SearchError, .ref C_ConflictError, .ref C_LimitError] "InvalidPath" "value" C_InvalidPath
  kt_InvalidPath_InvalidKey : PySem.W.kitOne K (.ref C_InvalidPath) (.ref C_InvalidKey) = some false
  kt_InvalidPath_InvalidPath : PySem.W.kitOne K (.ref C_InvalidPath) (.ref C_InvalidPath) = some true
  kt_InvalidPath_InvalidWins : PySem.W.kitOne K (.ref C_InvalidPath) (.ref C_InvalidWins) = some false
  kt_InvalidPath_MoveError : PySem.W.kitOne K (.ref C_InvalidPath) (.ref C_MoveError) = some true
  kt_InvalidPath_SearchError : PySem.W.kitOne K (.ref C_InvalidPath) (.ref C_SearchError) = some false
  kt_InvalidPath_ConflictError : PySem.W.kitOne K (.ref C_InvalidPath) (.ref C_ConflictError) = some false
  kt_InvalidPath_ValueError : PySem.W.kitOne K (.ref C_InvalidPath) (.type "ValueError") = some true
  kt_InvalidPath_LookupError : PySem.W.kitOne K (.ref C_InvalidPath) (.type "LookupError") = some false
  kt_InvalidPath_RuntimeError : PySem.W.kitOne K (.ref C_InvalidPath) (.type "RuntimeError") = some false
  kt_InvalidPath_InvalidValue : PySem.W.kitOne K (.ref C_InvalidPath) (.ref C_InvalidValue) = some false
  kt_InvalidPath_InvalidName : PySem.W.kitOne K (.ref C_InvalidPath) (.ref C_InvalidName) = some false
  kt_InvalidPath_InvalidStop : PySem.W.kitOne K (.ref C_InvalidPath) (.ref C_InvalidStop) = some false
  kt_InvalidPath_InvalidPattern : PySem.W.kitOne K (.ref C_InvalidPath) (.ref C_InvalidPattern) = some false
  kt_InvalidPath_InvalidCapacity : PySem.W.kitOne K (.ref C_InvalidPath) (.ref C_InvalidCapacity) = some false
  kt_InvalidPath_InvalidCommand : PySem.W.kitOne K (.ref C_InvalidPath) (.ref C_InvalidCommand) = some false
  kt_InvalidPath_NotARecord : PySem.W.kitOne K (.ref C_InvalidPath) (.ref C_NotARecord) = some false
  kt_InvalidPath_NotAScript : PySem.W.kitOne K (.ref C_InvalidPath) (.ref C_NotAScript) = some false
  kt_InvalidPath_InvalidEntries : PySem.W.kitOne K (.ref C_InvalidPath) (.ref C_InvalidEntries) = some false
  kt_InvalidPath_InvalidSteps : PySem.W.kitOne K (.ref C_InvalidPath) (.ref C_InvalidSteps) = some false
  kt_InvalidPath_InvalidPremises : PySem.W.kitOne K (.ref C_InvalidPath) (.ref C_InvalidPremises) = some false
  kt_InvalidPath_InvalidReader : PySem.W.kitOne K (.ref C_InvalidPath) (.ref C_InvalidReader) = some false
  kt_InvalidPath_InvalidNames : PySem.W.kitOne K (.ref C_InvalidPath) (.ref C_InvalidNames) = some false
  kt_InvalidPath_InvalidPatterns : PySem.W.kitOne K (.ref C_InvalidPath) (.ref C_InvalidPatterns) = some false
  kt_InvalidPath_InvalidDeed : PySem.W.kitOne K (.ref C_InvalidPath) (.ref C_InvalidDeed) = some false
  kt_InvalidPath_InvalidText : PySem.W.kitOne K (.ref C_InvalidPath) (.ref C_InvalidText) = some false
  kt_InvalidPath_MissingKey : PySem.W.kitOne K (.ref C_InvalidPath) (.ref C_MissingKey) = some false
  kt_InvalidPath_UnknownName : PySem.W.kitOne K (.ref C_InvalidPath) (.ref C_UnknownName) = some false
  kt_InvalidPath_NotLossless : PySem.W.kitOne K (.ref C_InvalidPath) (.ref C_NotLossless) = some false
  kt_InvalidPath_NothingToUndo : PySem.W.kitOne K (.ref C_InvalidPath) (.ref C_NothingToUndo) = some false
  kt_InvalidPath_Contradictory : PySem.W.kitOne K (.ref C_InvalidPath) (.ref C_Contradictory) = some false
  kt_InvalidPath_TooMany : PySem.W.kitOne K (.ref C_InvalidPath) (.ref C_TooMany) = some false
  kt_InvalidPath_LimitError : PySem.W.kitOne K (.ref C_InvalidPath) (.ref C_LimitError) = some false
  kt_InvalidPath_ArithmeticError : PySem.W.kitOne K (.ref C_InvalidPath) (.type "ArithmeticError") = some false
  a_is_name : Addr
  f_is_name : FuncData
  F_is_name : Fun K "is_name" "is_name" (topS 35) a_is_name f_is_name
  g_is_name : mg "is_name" = some (.ref a_is_name)
  b_is_name : Binds K f_is_name ["value"] []
  kw_is_name : KwB K f_is_name ["value"]
  a_names_in : Addr
  f_names_in : FuncData
  F_names_in : Fun K "names_in" "names_in" (topS 36) a_names_in f_names_in
  g_names_in : mg "names_in" = some (.ref a_names_in)
  b_names_in : Binds K f_names_in ["key"] []
  a_is_key : Addr
  f_is_key : FuncData
  F_is_key : Fun K "is_key" "is_key" (topS 37) a_is_key f_is_key
  g_is_key : mg "is_key" = some (.ref a_is_key)
  b_is_key : Binds K f_is_key ["value"] []
  kw_is_key : KwB K f_is_key ["value"]
  a_is_path : Addr
  f_is_path : FuncData
  F_is_path : Fun K "is_path" "is_path" (topS 38) a_is_path f_is_path
  g_is_path : mg "is_path" = some (.ref a_is_path)
  b_is_path : Binds K f_is_path ["value"] []
  kw_is_path : KwB K f_is_path ["value"]
  a__law_draw : Addr
  f__law_draw : FuncData
  F__law_draw : Fun K "_law_draw" "_law_draw" (topS 48) a__law_draw f__law_draw
  g__law_draw : mg "_law_draw" = some (.ref a__law_draw)
  b__law_draw : Binds K f__law_draw ["_law_pool_here", "_law_many"] []
  a__law_names : Addr
  f__law_names : FuncData
  F__law_names : Fun K "_law_names" "_law_names" (topS 50) a__law_names f__law_names
  g__law_names : mg "_law_names" = some (.ref a__law_names)
  b__law_names : Binds K f__law_names ["_law_pool_here"] []
  a__law_word : Addr
  f__law_word : FuncData
  F__law_word : Fun K "_law_word" "_law_word" (topS 54) a__law_word f__law_word
  g__law_word : mg "_law_word" = some (.ref a__law_word)
  b__law_word : Binds K f__law_word ["_law_pool_here"] []
  a__law_thing : Addr
  f__law_thing : FuncData
  F__law_thing : Fun K "_law_thing" "_law_thing" (topS 55) a__law_thing f__law_thing
  g__law_thing : mg "_law_thing" = some (.ref a__law_thing)
  b__law_thing : Binds K f__law_thing ["_law_pool_here"] []
  a__law_path : Addr
  f__law_path : FuncData
  F__law_path : Fun K "_law_path" "_law_path" (topS 49) a__law_path f__law_path
  g__law_path : mg "_law_path" = some (.ref a__law_path)
  b__law_path : Binds K f__law_path ["_law_pool_here", "_law_some", "_law_deep"] []
  a__law_is_name : Addr
  f__law_is_name : FuncData
  F__law_is_name : Fun K "_law_is_name" "_law_is_name" (topS 56) a__law_is_name f__law_is_name
  g__law_is_name : mg "_law_is_name" = some (.ref a__law_is_name)
  b__law_is_name : Binds K f__law_is_name ["_law_thing_here"] []
  a__law_is_key : Addr
  f__law_is_key : FuncData
  F__law_is_key : Fun K "_law_is_key" "_law_is_key" (topS 57) a__law_is_key f__law_is_key
  g__law_is_key : mg "_law_is_key" = some (.ref a__law_is_key)
  b__law_is_key : Binds K f__law_is_key ["_law_thing_here", "_law_most"] []
  a__law_error : Addr
  f__law_error : FuncData
  F__law_error : Fun K "_law_error" "_law_error" (topS 51) a__law_error f__law_error
  g__law_error : mg "_law_error" = some (.ref a__law_error)
  b__law_error : Binds K f__law_error ["_law_e"] []
  a__law_field : Addr
  f__law_field : FuncData
  F__law_field : Fun K "_law_field" "_law_field" (topS 52) a__law_field f__law_field
  g__law_field : mg "_law_field" = some (.ref a__law_field)
  b__law_field : Binds K f__law_field ["_law_e", "_law_at"] []
  a__law_caught : Addr
  f__law_caught : FuncData
  F__law_caught : Fun K "_law_caught" "_law_caught" (topS 53) a__law_caught f__law_caught
  g__law_caught : mg "_law_caught" = some (.ref a__law_caught)
  b__law_caught : Binds K f__law_caught ["_law_act"] []
  a_check_key : Addr
  f_check_key : FuncData
  F_check_key : Fun K "check_key" "check_key" (topS 39) a_check_key f_check_key
  g_check_key : mg "check_key" = some (.ref a_check_key)
  b_check_key : Binds K f_check_key ["value"] []
  a_check_path : Addr
  f_check_path : FuncData
  F_check_path : Fun K "check_path" "check_path" (topS 40) a_check_path f_check_path
  g_check_path : mg "check_path" = some (.ref a_check_path)
  b_check_path : Binds K f_check_path ["value"] []
  a_lies_under : Addr
  f_lies_under : FuncData
  F_lies_under : Fun K "lies_under" "lies_under" (topS 41) a_lies_under f_lies_under
  g_lies_under : mg "lies_under" = some (.ref a_lies_under)
  b_lies_under : Binds K f_lies_under ["key", "path"] []
  a_is_under : Addr
  f_is_under : FuncData
  F_is_under : Fun K "is_under" "is_under" (topS 43) a_is_under f_is_under
  g_is_under : mg "is_under" = some (.ref a_is_under)
  b_is_under : Binds K f_is_under ["key", "path"] []
  kp0_is_under : KwP f_is_under ["key", "path"] ["path", "key"] [1, 0]
  a_replaced : Addr
  f_replaced : FuncData
  F_replaced : Fun K "replaced" "replaced" (topS 42) a_replaced f_replaced
  g_replaced : mg "replaced" = some (.ref a_replaced)
  b_replaced : Binds K f_replaced ["key", "path", "goal"] []
  a_put_at : Addr
  f_put_at : FuncData
  F_put_at : Fun K "put_at" "put_at" (topS 44) a_put_at f_put_at
  g_put_at : mg "put_at" = some (.ref a_put_at)
  b_put_at : Binds K f_put_at ["key", "path", "goal"] []
  kp0_put_at : KwP f_put_at ["key", "path", "goal"] ["goal", "key", "path"] [1, 2, 0]
  kp1_put_at : KwP f_put_at ["key", "path", "goal"] ["goal", "path", "key"] [2, 1, 0]
  a__law_pair_right : Addr
  f__law_pair_right : FuncData
  F__law_pair_right : Fun K "_law_pair_right" "_law_pair_right" (topS 58) a__law_pair_right f__law_pair_right
  g__law_pair_right : mg "_law_pair_right" = some (.ref a__law_pair_right)
  b__law_pair_right : Binds K f__law_pair_right ["_law_k", "_law_p", "_law_q"] []
  a__law_right : Addr
  f__law_right : FuncData
  F__law_right : Fun K "_law_right" "_law_right" (topS 59) a__law_right f__law_right
  g__law_right : mg "_law_right" = some (.ref a__law_right)
  b__law_right : Binds K f__law_right ["_law_pool_here"] []
  a__law_pool : Addr
  f__law_pool : FuncData
  F__law_pool : Fun K "_law_pool" "_law_pool" (topS 47) a__law_pool f__law_pool
  g__law_pool : mg "_law_pool" = some (.ref a__law_pool)
  b__law_pool : Binds K f__law_pool ["_law_cell_here"] []
  a__law_cell : Addr
  f__law_cell : FuncData
  F__law_cell : Fun K "_law_cell" "_law_cell" (topS 46) a__law_cell f__law_cell
  g__law_cell : mg "_law_cell" = some (.ref a__law_cell)
  b__law_cell : Binds K f__law_cell ["_law_cells", "_law_k"] []
  a_law : Addr
  f_law : FuncData
  F_law : Fun K "law" "law" (topS 60) a_law f_law
  g_law : mg "law" = some (.ref a_law)
  b_law : Binds K f_law ["_law_cells"] []
  c_LETTERS : ∃ t, mg "LETTERS" = some (.str "abcdefghijklmnopqrstuvwxyz" t)
  c_LONGEST : ∃ t, mg "LONGEST" = some (.int 8 t)
  c_MAX_PATH : ∃ t, mg "MAX_PATH" = some (.int 3 t)
  c_SLASH : ∃ t, mg "SLASH" = some (.str "/" t)
  n_ArithmeticError : mg "ArithmeticError" = none
  n_LookupError : mg "LookupError" = none
  n_RuntimeError : mg "RuntimeError" = none
  n_ValueError : mg "ValueError" = none
  n_abs : mg "abs" = none
  n_all : mg "all" = none
  n_divmod : mg "divmod" = none
  n_int : mg "int" = none
  n_isinstance : mg "isinstance" = none
  n_len : mg "len" = none
  n_max : mg "max" = none
  n_min : mg "min" = none
  n_range : mg "range" = none
  n_repr : mg "repr" = none
  n_str : mg "str" = none
  n_super : mg "super" = none
  n_tuple : mg "tuple" = none

  lc__law_pair_right : Addr
  lt__law_pair_right : Addr
  lcd__law_pair_right : f__law_pair_right.code = .ref lc__law_pair_right
abbrev s_InvalidKey___init__ : Stmt := (clsBody (topS 5)).getD 0 (.Pass ⟨0, 0, 0, 0⟩)
theorem sc_InvalidKey___init__ : NdefX.NScope ["self", "value", "__class__"] ["self", "value"] ["__class__"] (defScope s_InvalidKey___init__) := NdefX.nscope_by (by decide +kernel)
theorem okx_InvalidKey___init__ {P : Program} {w : World} {K : PySem.W.Frag} {mg : Str → Option Value} {base : Heap} (T : Fs P K mg) : FnOk P w K mg base CX0 1 T.a_InvalidKey___init__ T.f_InvalidKey___init__ ["self", "value"] (spXI T.C_InvalidKey "value") :=
  fn_xi (N := ["self", "value", "__class__"]) T.F_InvalidKey___init__ sc_InvalidKey___init__ T.x_InvalidKey.xs T.x_InvalidKey.hno fun A outer s H E =>
    pat_xsup T.F_InvalidKey___init__.sup T.x_InvalidKey.xs rfl rfl rfl rfl rfl rfl rfl T.n_super (pa_cons (pe_var (i := 1) rfl (.inl rfl)) pa_nil) (pat_of (pss_one (ps_ost (pe_var (i := 0) rfl (.inl rfl)) (pe_var (i := 1) rfl (.inl rfl)))))
abbrev s_InvalidPath___init__ : Stmt := (clsBody (topS 6)).getD 0 (.Pass ⟨0, 0, 0, 0⟩)
theorem sc_InvalidPath___init__ : NdefX.NScope ["self", "value", "__class__"] ["self", "value"] ["__class__"] (defScope s_InvalidPath___init__) := NdefX.nscope_by (by decide +kernel)
theorem okx_InvalidPath___init__ {P : Program} {w : World} {K : PySem.W.Frag} {mg : Str → Option Value} {base : Heap} (T : Fs P K mg) : FnOk P w K mg base CX0 1 T.a_InvalidPath___init__ T.f_InvalidPath___init__ ["self", "value"] (spXI T.C_InvalidPath "value") :=
  fn_xi (N := ["self", "value", "__class__"]) T.F_InvalidPath___init__ sc_InvalidPath___init__ T.x_InvalidPath.xs T.x_InvalidPath.hno fun A outer s H E =>
    pat_xsup T.F_InvalidPath___init__.sup T.x_InvalidPath.xs rfl rfl rfl rfl rfl rfl rfl T.n_super (pa_cons (pe_var (i := 1) rfl (.inl rfl)) pa_nil) (pat_of (pss_one (ps_ost (pe_var (i := 0) rfl (.inl rfl)) (pe_var (i := 1) rfl (.inl rfl)))))
abbrev s_is_name : Stmt := topS 35
theorem sc_is_name : FnScope ["value", "sign"] ["value"] (defScope s_is_name) := ⟨rfl, rfl, rfl, by decide +kernel, rfl, by decide +kernel, by decide +kernel⟩
def c1_is_namet : MB := tYesM
def c1_is_name : M := mOp dIn (mVar 1) (mC (.str "abcdefghijklmnopqrstuvwxyz"))
def b_is_name : MS := sRet false (mAndV (mIsiA "str" (mVar 0)) (mAndV (mChain dLe dLe (mC (.int 1)) (mCB dLen (mCons (mVar 0) (mNil))) (mC (.int 8))) (mCB dAll (mCons (mOfF (mLc [1] (mItems (mVar 0)) (gN 1) c1_is_namet c1_is_name)) (mNil)))))
def m_is_name : MF := runF 2 1 b_is_name
theorem ok_is_name {P : Program} {w : World} {K : PySem.W.Frag} {mg : Str → Option Value} {base : Heap} (T : Fs P K mg) : FnOk P w K mg base CX0 1 T.a_is_name T.f_is_name ["value"] (spM K 1 m_is_name) :=
  fn_ok (N := ["value", "sign"]) (ps := ["value"]) (m := b_is_name) T.F_is_name sc_is_name (by decide) fun cdv A outer s H E hr =>
  (jss_one (js_ret (je_and (je_isiA (je_var 0) T.n_isinstance T.n_str bt_str) (je_and (je_chain op_leD od_le op_leD od_le je_int (je_callB call_lenA cd_len T.n_len bt_len (ja_cons (je_var 0) ja_nil)) (je_gint T.c_LONGEST)) (je_one (je_callB (cr_all rfl) cd_all T.n_all bt_all (ja_cons (JF.je (jf_lcN (mt := c1_is_namet) (me := c1_is_name) ["value", "sign"] (defScope s_is_name) [("sign", 1)] rfl sc_is_name.nd (ji_e (je_var 0)) (blkOk_by (by decide +kernel)) (fun _ _ _ _ _ => (pg_name (i := 1) sc_is_name.nd rfl (.inl rfl))) (tg_name 1) (by decide) (fun _ _ _ _ _ => jts_nil) (fun _ _ _ _ _ => (je_cmp (op_inX hr.units) od_in (je_var 1) (je_gstr T.c_LETTERS) (by rfl))))) ja_nil)))))))
abbrev s_names_in : Stmt := topS 36
theorem sc_names_in : FnScope ["key"] ["key"] (defScope s_names_in) := ⟨rfl, rfl, rfl, by decide +kernel, rfl, by decide +kernel, by decide +kernel⟩
def b_names_in : MS := sRet false (mCB dTuple (mCons (mMt dSplit (mVar 0) (mCons (mC (.str "/")) (mNil))) (mNil)))
def m_names_in : MF := runF 1 1 b_names_in
theorem ok_names_in {P : Program} {w : World} {K : PySem.W.Frag} {mg : Str → Option Value} {base : Heap} (T : Fs P K mg) : FnOk P w K mg base CX0 1 T.a_names_in T.f_names_in ["key"] (spM K 1 m_names_in) :=
  fn_ok (N := ["key"]) (ps := ["key"]) (m := b_names_in) T.F_names_in sc_names_in (by decide) fun cdv A outer s H E hr =>
  (jss_one (js_ret (je_callTy call_tuple_of cd_tuple T.n_tuple bt_tuple (ja_cons (je_split (je_var 0) (ja_cons (je_gstr T.c_SLASH) ja_nil)) ja_nil))))
abbrev s_is_key : Stmt := topS 37
theorem sc_is_key : FnScope ["value", "part"] ["value"] (defScope s_is_key) := ⟨rfl, rfl, rfl, by decide +kernel, rfl, by decide +kernel, by decide +kernel⟩
def c1_is_keyt : MB := tYesM
def c1_is_key : M := mCall 1 m_is_name (mCons (mVar 1) (mNil))
def b_is_key : MS := sRet false (mAndV (mIsiA "str" (mVar 0)) (mCB dAll (mCons (mOfF (mLc [1] (mItems (mCall 1 m_names_in (mCons (mVar 0) (mNil)))) (gN 1) c1_is_keyt c1_is_key)) (mNil))))
def m_is_key : MF := runF 2 1 b_is_key
theorem ok_is_key {P : Program} {w : World} {K : PySem.W.Frag} {mg : Str → Option Value} {base : Heap} (T : Fs P K mg) : FnOk P w K mg base CX0 2 T.a_is_key T.f_is_key ["value"] (spM K 1 m_is_key) :=
  fn_ok (N := ["value", "part"]) (ps := ["value"]) (m := b_is_key) T.F_is_key sc_is_key (by decide) fun cdv A outer s H E hr =>
  (jss_one (js_ret (je_and (je_isiA (je_var 0) T.n_isinstance T.n_str bt_str) (je_one (je_callB (cr_all rfl) cd_all T.n_all bt_all (ja_cons (JF.je (jf_lcN (mt := c1_is_keyt) (me := c1_is_key) ["value", "part"] (defScope s_is_key) [("part", 1)] rfl sc_is_key.nd (ji_e (je_call (ok_names_in T) (hr.mono (by decide)) T.g_names_in T.F_names_in.kp T.b_names_in (ja_cons (je_var 0) ja_nil))) (blkOk_by (by decide +kernel)) (fun _ _ _ _ _ => (pg_name (i := 1) sc_is_key.nd rfl (.inl rfl))) (tg_name 1) (by decide) (fun _ _ _ _ _ => jts_nil) (fun _ _ _ _ _ => (je_call (ok_is_name T) (hr.mono (by decide)) T.g_is_name T.F_is_name.kp T.b_is_name (ja_cons (je_var 1) ja_nil))))) ja_nil))))))
abbrev s_is_path : Stmt := topS 38
theorem sc_is_path : FnScope ["value"] ["value"] (defScope s_is_path) := ⟨rfl, rfl, rfl, by decide +kernel, rfl, by decide +kernel, by decide +kernel⟩
def b_is_path : MS := sRet false (mAndV (mCall 1 m_is_key (mCons (mVar 0) (mNil))) (mOp dLe (mCB dLen (mCons (mCall 1 m_names_in (mCons (mVar 0) (mNil))) (mNil))) (mC (.int 3))))
def m_is_path : MF := runF 1 1 b_is_path
theorem ok_is_path {P : Program} {w : World} {K : PySem.W.Frag} {mg : Str → Option Value} {base : Heap} (T : Fs P K mg) : FnOk P w K mg base CX0 3 T.a_is_path T.f_is_path ["value"] (spM K 1 m_is_path) :=
  fn_ok (N := ["value"]) (ps := ["value"]) (m := b_is_path) T.F_is_path sc_is_path (by decide) fun cdv A outer s H E hr =>
  (jss_one (js_ret (je_and (je_call (ok_is_key T) (hr.mono (by decide)) T.g_is_key T.F_is_key.kp T.b_is_key (ja_cons (je_var 0) ja_nil)) (je_one (je_cmp op_leD od_le (je_callB call_lenA cd_len T.n_len bt_len (ja_cons (je_call (ok_names_in T) (hr.mono (by decide)) T.g_names_in T.F_names_in.kp T.b_names_in (ja_cons (je_var 0) ja_nil)) ja_nil)) (je_gint T.c_MAX_PATH) (by rfl))))))
abbrev s__law_draw : Stmt := topS 48
theorem sc__law_draw : FnScope ["_law_pool_here", "_law_many", "_law_seed", "_law_digit"] ["_law_pool_here", "_law_many"] (defScope s__law_draw) := ⟨rfl, rfl, rfl, by decide +kernel, rfl, by decide +kernel, by decide +kernel⟩
def b__law_draw : MS := sSeq (sAsgG (mOp dAdd (mIx (mVar 0) (mC (.int 2))) (mC (.int 1))) (gsP (mVar 0) (mC (.int 2))))
  (sSeq (sAsg 2 (mCB dIntA (mCons (mIx (mVar 0) (mC (.int 0))) (mNil))))
  (sSeq (sAsgG (mOp dMod (mCB dIntA (mCons (mOp dAdd (mOp dAdd (mOp dMulC (mVar 2) (mOp dAdd (mOp dMod (mCB dIntA (mCons (mVar 2) (mNil))) (mC (.int 39979))) (mC (.int 30011)))) (mOp dMulC (mC (.int 80021)) (mIx (mVar 0) (mC (.int 2))))) (mC (.int 11))) (mNil))) (mC (.int 2147482873))) (gsP (mVar 0) (mC (.int 0))))
  (sSeq (sIf (mTst (mOp dGt (mIx (mVar 0) (mC (.int 1))) (mC (.int 0)))) (sSeq (sAsgG (mCB dDivmod (mCons (mIx (mVar 0) (mC (.int 1))) (mCons (mVar 1) (mNil)))) (gsT 2 (gssC (gsP (mVar 0) (mC (.int 1))) (gssC (gsN 3) (gss0)))))
  (sRet false (mVar 3))) (sNext))
  (sRet false (mOp dMod (mCB dIntA (mCons (mOp dDiv (mIx (mVar 0) (mC (.int 0))) (mC (.int 64))) (mNil))) (mVar 1))))))
def m__law_draw : MF := runF 4 2 b__law_draw
theorem ok__law_draw {P : Program} {w : World} {K : PySem.W.Frag} {mg : Str → Option Value} {base : Heap} (T : Fs P K mg) : FnOk P w K mg base CX0 1 T.a__law_draw T.f__law_draw ["_law_pool_here", "_law_many"] (spM K 2 m__law_draw) :=
  fn_ok (N := ["_law_pool_here", "_law_many", "_law_seed", "_law_digit"]) (ps := ["_law_pool_here", "_law_many"]) (m := b__law_draw) T.F__law_draw sc__law_draw (by decide) fun cdv A outer s H E hr =>
  (jss_cons (js_asgG (je_op op_addD od_add (je_ix hr.units (je_var 0) je_int) je_int) (pg_sub (JE.pe (je_var 0)) (JE.pe je_int) set_list) tgs_pool)
  (jss_cons (js_asg (je_callTy call_intA cd_intA T.n_int bt_int (ja_cons (je_ix hr.units (je_var 0) je_int) ja_nil)) sc__law_draw.nd)
  (jss_cons (js_asgG (je_op op_mod od_mod (je_callTy call_intA cd_intA T.n_int bt_int (ja_cons (je_op op_addD od_add (je_op op_addD od_add (je_op op_mulC od_mulC (je_var 2) (je_op op_addD od_add (je_op op_mod od_mod (je_callTy call_intA cd_intA T.n_int bt_int (ja_cons (je_var 2) ja_nil)) je_int) je_int)) (je_op op_mulC od_mulC je_int (je_ix hr.units (je_var 0) je_int))) je_int) ja_nil)) je_int) (pg_sub (JE.pe (je_var 0)) (JE.pe je_int) set_list) tgs_pool)
  (jss_cons (js_if (jt_cmp op_gtD od_gt (je_ix hr.units (je_var 0) je_int) je_int (by rfl)) (jss_cons (js_asgG (je_callB call_divmod cd_divmod T.n_divmod bt_divmod (ja_cons (je_ix hr.units (je_var 0) je_int) (ja_cons (je_var 1) ja_nil))) (pg_tup rfl (pgs_cons (pg_sub (JE.pe (je_var 0)) (JE.pe je_int) set_list) (pgs_cons (pg_name (i := 3) sc__law_draw.nd rfl (.inl rfl)) pgs_nil))) (tgs_tup (tgss_cons tgs_pool (tgss_cons (tgs_name 3) tgss_nil))))
  (jss_one (js_ret (je_var 3)))) jss_nil)
  (jss_one (js_ret (je_op op_mod od_mod (je_callTy call_intA cd_intA T.n_int bt_int (ja_cons (je_op op_fdiv od_div (je_ix hr.units (je_var 0) je_int) je_int) ja_nil)) (je_var 1))))))))
abbrev s__law_names : Stmt := topS 50
theorem sc__law_names : FnScope ["_law_pool_here", "_law_menu", "_law_way", "_law_found", "_law_k", "_law_word_here", "_law_at"] ["_law_pool_here"] (defScope s__law_names) := ⟨rfl, rfl, rfl, by decide +kernel, rfl, by decide +kernel, by decide +kernel⟩
def c1__law_namest : MB := tYesM
def c1__law_names : M := mIx (mC (.str "abcdefghijklmnopqrstuvwxyz")) (mCall 2 m__law_draw (mCons (mVar 0) (mCons (mC (.int 26)) (mNil))))
def l2__law_names : MS := sSeq (sAsg 5 (mMt dJoin (mC (.str "")) (mCons (mOfF (mLc [6] (mRng1 (mCons (mCall 2 m__law_draw (mCons (mVar 0) (mCons (mC (.int 8)) (mNil)))) (mNil))) (gN 6) c1__law_namest c1__law_names)) (mNil))))
  (sApp 3 (mOp dAdd (mVar 5) (mIx (mC (.str "abc")) (mVar 4))))
def b__law_names : MS := sSeq (sAsg 1 (mLst (mCons (mLst (mCons (mC (.str "a")) (mCons (mC (.str "b")) (mNil)))) (mCons (mLst (mCons (mC (.str "a")) (mCons (mC (.str "b")) (mCons (mC (.str "c")) (mNil))))) (mCons (mLst (mCons (mC (.str "x")) (mCons (mC (.str "xx")) (mNil)))) (mCons (mLst (mCons (mC (.str "db")) (mCons (mC (.str "host")) (mCons (mC (.str "port")) (mNil))))) (mCons (mLst (mCons (mC (.str "k")) (mCons (mC (.str "zzzzzzzz")) (mNil)))) (mNil))))))))
  (sSeq (sParO 2 3 (mCall 2 m__law_draw (mCons (mVar 0) (mCons (mC (.int 7)) (mNil)))) (mFresh (mNil)))
  (sSeq (sIf (mTst (mOp dLt (mVar 2) (mC (.int 5)))) (sRet false (mIx (mVar 1) (mVar 2))) (sNext))
  (sSeq (sFor false (mRng1 (mCons (mC (.int 3)) (mNil))) (gsN 4) l2__law_names)
  (sRet false (mVar 3)))))
def m__law_names : MF := runF 7 1 b__law_names
theorem ok__law_names {P : Program} {w : World} {K : PySem.W.Frag} {mg : Str → Option Value} {base : Heap} (T : Fs P K mg) : FnOk P w K mg base CX0 2 T.a__law_names T.f__law_names ["_law_pool_here"] (spM K 1 m__law_names) :=
  fn_ok (N := ["_law_pool_here", "_law_menu", "_law_way", "_law_found", "_law_k", "_law_word_here", "_law_at"]) (ps := ["_law_pool_here"]) (m := b__law_names) T.F__law_names sc__law_names (by decide) fun cdv A outer s H E hr =>
  (jss_cons (js_asg (je_lst (ja_cons (je_lst (ja_cons je_str (ja_cons je_str ja_nil))) (ja_cons (je_lst (ja_cons je_str (ja_cons je_str (ja_cons je_str ja_nil)))) (ja_cons (je_lst (ja_cons je_str (ja_cons je_str ja_nil))) (ja_cons (je_lst (ja_cons je_str (ja_cons je_str (ja_cons je_str ja_nil)))) (ja_cons (je_lst (ja_cons je_str (ja_cons je_str ja_nil))) ja_nil)))))) sc__law_names.nd)
  (jss_cons (js_parO rfl sc__law_names.nd (je_call (ok__law_draw T) (hr.mono (by decide)) T.g__law_draw T.F__law_draw.kp T.b__law_draw (ja_cons (je_var 0) (ja_cons je_int ja_nil))) (jf_lst ja_nil))
  (jss_cons (js_if (jt_cmp op_ltD od_lt (je_var 2) je_int (by rfl)) (jss_one (js_ret (je_ix hr.units (je_var 1) (je_var 2)))) jss_nil)
  (jss_cons (js_for PassesOwn.never rfl (ji_rng1 (ja_cons je_int ja_nil) T.n_range) (pg_name (i := 4) sc__law_names.nd rfl (.inl rfl)) (tgs_name 4) (id (α := JSs _ _ _ l2__law_names) (jss_cons (js_asg (je_join je_str (ja_cons (JF.je (jf_lcN (mt := c1__law_namest) (me := c1__law_names) ["_law_pool_here", "_law_menu", "_law_way", "_law_found", "_law_k", "_law_word_here", "_law_at"] (defScope s__law_names) [("_law_at", 6)] rfl sc__law_names.nd (ji_rng1 (ja_cons (je_call (ok__law_draw T) (hr.mono (by decide)) T.g__law_draw T.F__law_draw.kp T.b__law_draw (ja_cons (je_var 0) (ja_cons je_int ja_nil))) ja_nil) T.n_range) (blkOk_by (by decide +kernel)) (fun _ _ _ _ _ => (pg_name (i := 6) sc__law_names.nd rfl (.inl rfl))) (tg_name 6) (by decide) (fun _ _ _ _ _ => jts_nil) (fun _ _ _ _ _ => (je_ix hr.units je_str (je_call (ok__law_draw T) (hr.mono (by decide)) T.g__law_draw T.F__law_draw.kp T.b__law_draw (ja_cons (je_var 0) (ja_cons je_int ja_nil))))))) ja_nil)) sc__law_names.nd)
  (jss_one (js_app (je_op op_addD od_add (je_var 5) (je_ix hr.units je_str (je_var 4))))))))
  (jss_one (js_ret (je_var 3)))))))
abbrev s__law_word : Stmt := topS 54
theorem sc__law_word : FnScope ["_law_pool_here", "_law_signs", "_law_size", "_law_word_here", "_law_k", "_law_at"] ["_law_pool_here"] (defScope s__law_word) := ⟨rfl, rfl, rfl, by decide +kernel, rfl, by decide +kernel, by decide +kernel⟩
def c1__law_wordt : MB := tYesM
def c1__law_word : M := mIx (mVar 1) (mCall 2 m__law_draw (mCons (mVar 0) (mCons (mC (.int 26)) (mNil))))
def b__law_word : MS := sSeq (sAsg 1 (mC (.str "abcdefghijklmnopqrstuvwxyz")))
  (sSeq (sAsg 2 (mIx (mLst (mCons (mC (.int 1)) (mCons (mC (.int 2)) (mCons (mC (.int 3)) (mCons (mC (.int 8)) (mCons (mC (.int 9)) (mCons (mC (.int 0)) (mNil)))))))) (mCall 2 m__law_draw (mCons (mVar 0) (mCons (mC (.int 6)) (mNil))))))
  (sSeq (sAsg 3 (mMt dJoin (mC (.str "")) (mCons (mOfF (mLc [4] (mRng1 (mCons (mVar 2) (mNil))) (gN 4) c1__law_wordt c1__law_word)) (mNil))))
  (sSeq (sIf (mOr (mTst (mOp dGt (mCall 2 m__law_draw (mCons (mVar 0) (mCons (mC (.int 4)) (mNil)))) (mC (.int 0)))) (mTst (mOp dEq (mVar 3) (mC (.str ""))))) (sRet false (mVar 3)) (sNext))
  (sSeq (sAsg 5 (mCall 2 m__law_draw (mCons (mVar 0) (mCons (mCB dLen (mCons (mVar 3) (mNil))) (mNil)))))
  (sRet false (mOp dAdd (mOp dAdd (mSl (mVar 3) (oNone) (oSome (mVar 5))) (mIx (mC (.str "AZ09_-/ .=*\n~")) (mCall 2 m__law_draw (mCons (mVar 0) (mCons (mC (.int 13)) (mNil)))))) (mSl (mVar 3) (oSome (mOp dAdd (mVar 5) (mC (.int 1)))) (oNone))))))))
def m__law_word : MF := runF 6 1 b__law_word
theorem ok__law_word {P : Program} {w : World} {K : PySem.W.Frag} {mg : Str → Option Value} {base : Heap} (T : Fs P K mg) : FnOk P w K mg base CX0 2 T.a__law_word T.f__law_word ["_law_pool_here"] (spM K 1 m__law_word) :=
  fn_ok (N := ["_law_pool_here", "_law_signs", "_law_size", "_law_word_here", "_law_k", "_law_at"]) (ps := ["_law_pool_here"]) (m := b__law_word) T.F__law_word sc__law_word (by decide) fun cdv A outer s H E hr =>
  (jss_cons (js_asg je_str sc__law_word.nd)
  (jss_cons (js_asg (je_ix hr.units (je_lst (ja_cons je_int (ja_cons je_int (ja_cons je_int (ja_cons je_int (ja_cons je_int (ja_cons je_int ja_nil))))))) (je_call (ok__law_draw T) (hr.mono (by decide)) T.g__law_draw T.F__law_draw.kp T.b__law_draw (ja_cons (je_var 0) (ja_cons je_int ja_nil)))) sc__law_word.nd)
  (jss_cons (js_asg (je_join je_str (ja_cons (JF.je (jf_lcN (mt := c1__law_wordt) (me := c1__law_word) ["_law_pool_here", "_law_signs", "_law_size", "_law_word_here", "_law_k", "_law_at"] (defScope s__law_word) [("_law_k", 4)] rfl sc__law_word.nd (ji_rng1 (ja_cons (je_var 2) ja_nil) T.n_range) (blkOk_by (by decide +kernel)) (fun _ _ _ _ _ => (pg_name (i := 4) sc__law_word.nd rfl (.inl rfl))) (tg_name 4) (by decide) (fun _ _ _ _ _ => jts_nil) (fun _ _ _ _ _ => (je_ix hr.units (je_var 1) (je_call (ok__law_draw T) (hr.mono (by decide)) T.g__law_draw T.F__law_draw.kp T.b__law_draw (ja_cons (je_var 0) (ja_cons je_int ja_nil))))))) ja_nil)) sc__law_word.nd)
  (jss_cons (js_if (JW.jt (jw_or (jt_cmp op_gtD od_gt (je_call (ok__law_draw T) (hr.mono (by decide)) T.g__law_draw T.F__law_draw.kp T.b__law_draw (ja_cons (je_var 0) (ja_cons je_int ja_nil))) je_int (by rfl)) (jw_or1 (jt_cmp (op_eqX hr.units) od_eq (je_var 3) je_str (by rfl))))) (jss_one (js_ret (je_var 3))) jss_nil)
  (jss_cons (js_asg (je_call (ok__law_draw T) (hr.mono (by decide)) T.g__law_draw T.F__law_draw.kp T.b__law_draw (ja_cons (je_var 0) (ja_cons (je_callB call_lenA cd_len T.n_len bt_len (ja_cons (je_var 3) ja_nil)) ja_nil))) sc__law_word.nd)
  (jss_one (js_ret (je_op op_addD od_add (je_op op_addD od_add (je_sl (je_var 3) jo_none (jo_some (je_var 5))) (je_ix hr.units je_str (je_call (ok__law_draw T) (hr.mono (by decide)) T.g__law_draw T.F__law_draw.kp T.b__law_draw (ja_cons (je_var 0) (ja_cons je_int ja_nil))))) (je_sl (je_var 3) (jo_some (je_op op_addD od_add (je_var 5) je_int)) jo_none)))))))))
abbrev s__law_thing : Stmt := topS 55
theorem sc__law_thing : FnScope ["_law_pool_here", "_law_found", "_law_k"] ["_law_pool_here"] (defScope s__law_thing) := ⟨rfl, rfl, rfl, by decide +kernel, rfl, by decide +kernel, by decide +kernel⟩
def c1__law_thingt : MB := tYesM
def c1__law_thing : M := mCall 1 m__law_word (mCons (mVar 0) (mNil))
def b__law_thing : MS := sSeq (sIf (mTst (mOp dEq (mCall 2 m__law_draw (mCons (mVar 0) (mCons (mC (.int 8)) (mNil)))) (mC (.int 0)))) (sRet false (mIx (mLst (mCons (mC .non) (mCons (mC (.int 0)) (mCons (mC (.bl true)) (mCons (mTup (mNil)) (mCons (mTup (mCons (mC (.str "a")) (mNil))) (mCons (mLst (mCons (mC (.str "a")) (mNil))) (mCons (mC (.dk [] [])) (mCons (mC (.int 7)) (mNil)))))))))) (mCall 2 m__law_draw (mCons (mVar 0) (mCons (mC (.int 8)) (mNil)))))) (sNext))
  (sSeq (sAsg 1 (mMt dJoin (mC (.str "/")) (mCons (mOfF (mLc [2] (mRng1 (mCons (mOp dAdd (mC (.int 1)) (mCall 2 m__law_draw (mCons (mVar 0) (mCons (mC (.int 5)) (mNil))))) (mNil))) (gN 2) c1__law_thingt c1__law_thing)) (mNil))))
  (sRet false (mOp dAdd (mVar 1) (mOp dMulC (mC (.str "/")) (mCB dIntA (mCons (mOp dEq (mCall 2 m__law_draw (mCons (mVar 0) (mCons (mC (.int 12)) (mNil)))) (mC (.int 0))) (mNil)))))))
def m__law_thing : MF := runF 3 1 b__law_thing
theorem ok__law_thing {P : Program} {w : World} {K : PySem.W.Frag} {mg : Str → Option Value} {base : Heap} (T : Fs P K mg) : FnOk P w K mg base CX0 3 T.a__law_thing T.f__law_thing ["_law_pool_here"] (spM K 1 m__law_thing) :=
  fn_ok (N := ["_law_pool_here", "_law_found", "_law_k"]) (ps := ["_law_pool_here"]) (m := b__law_thing) T.F__law_thing sc__law_thing (by decide) fun cdv A outer s H E hr =>
  (jss_cons (js_if (jt_cmp (op_eqX hr.units) od_eq (je_call (ok__law_draw T) (hr.mono (by decide)) T.g__law_draw T.F__law_draw.kp T.b__law_draw (ja_cons (je_var 0) (ja_cons je_int ja_nil))) je_int (by rfl)) (jss_one (js_ret (je_ix hr.units (je_lst (ja_cons je_non (ja_cons je_int (ja_cons je_bl (ja_cons (je_tup ja_nil) (ja_cons (je_tup (ja_cons je_str ja_nil)) (ja_cons (je_lst (ja_cons je_str ja_nil)) (ja_cons je_dict0 (ja_cons je_int ja_nil))))))))) (je_call (ok__law_draw T) (hr.mono (by decide)) T.g__law_draw T.F__law_draw.kp T.b__law_draw (ja_cons (je_var 0) (ja_cons je_int ja_nil)))))) jss_nil)
  (jss_cons (js_asg (je_join je_str (ja_cons (JF.je (jf_lcN (mt := c1__law_thingt) (me := c1__law_thing) ["_law_pool_here", "_law_found", "_law_k"] (defScope s__law_thing) [("_law_k", 2)] rfl sc__law_thing.nd (ji_rng1 (ja_cons (je_op op_addD od_add je_int (je_call (ok__law_draw T) (hr.mono (by decide)) T.g__law_draw T.F__law_draw.kp T.b__law_draw (ja_cons (je_var 0) (ja_cons je_int ja_nil)))) ja_nil) T.n_range) (blkOk_by (by decide +kernel)) (fun _ _ _ _ _ => (pg_name (i := 2) sc__law_thing.nd rfl (.inl rfl))) (tg_name 2) (by decide) (fun _ _ _ _ _ => jts_nil) (fun _ _ _ _ _ => (je_call (ok__law_word T) (hr.mono (by decide)) T.g__law_word T.F__law_word.kp T.b__law_word (ja_cons (je_var 0) ja_nil))))) ja_nil)) sc__law_thing.nd)
  (jss_one (js_ret (je_op op_addD od_add (je_var 1) (je_op op_mulC od_mulC je_str (je_callTy call_intA cd_intA T.n_int bt_int (ja_cons (je_cmp (op_eqX hr.units) od_eq (je_call (ok__law_draw T) (hr.mono (by decide)) T.g__law_draw T.F__law_draw.kp T.b__law_draw (ja_cons (je_var 0) (ja_cons je_int ja_nil))) je_int (by rfl)) ja_nil))))))))
abbrev s__law_path : Stmt := topS 49
theorem sc__law_path : FnScope ["_law_pool_here", "_law_some", "_law_deep", "_law_k"] ["_law_pool_here", "_law_some", "_law_deep"] (defScope s__law_path) := ⟨rfl, rfl, rfl, by decide +kernel, rfl, by decide +kernel, by decide +kernel⟩
def c1__law_patht : MB := tYesM
def c1__law_path : M := mIx (mVar 1) (mCall 2 m__law_draw (mCons (mVar 0) (mCons (mCB dLen (mCons (mVar 1) (mNil))) (mNil))))
def b__law_path : MS := sRet false (mMt dJoin (mC (.str "/")) (mCons (mOfF (mLc [3] (mRng1 (mCons (mOp dAdd (mC (.int 1)) (mCall 2 m__law_draw (mCons (mVar 0) (mCons (mVar 2) (mNil))))) (mNil))) (gN 3) c1__law_patht c1__law_path)) (mNil)))
def m__law_path : MF := runF 4 3 b__law_path
theorem ok__law_path {P : Program} {w : World} {K : PySem.W.Frag} {mg : Str → Option Value} {base : Heap} (T : Fs P K mg) : FnOk P w K mg base CX0 2 T.a__law_path T.f__law_path ["_law_pool_here", "_law_some", "_law_deep"] (spM K 3 m__law_path) :=
  fn_ok (N := ["_law_pool_here", "_law_some", "_law_deep", "_law_k"]) (ps := ["_law_pool_here", "_law_some", "_law_deep"]) (m := b__law_path) T.F__law_path sc__law_path (by decide) fun cdv A outer s H E hr =>
  (jss_one (js_ret (je_join je_str (ja_cons (JF.je (jf_lcN (mt := c1__law_patht) (me := c1__law_path) ["_law_pool_here", "_law_some", "_law_deep", "_law_k"] (defScope s__law_path) [("_law_k", 3)] rfl sc__law_path.nd (ji_rng1 (ja_cons (je_op op_addD od_add je_int (je_call (ok__law_draw T) (hr.mono (by decide)) T.g__law_draw T.F__law_draw.kp T.b__law_draw (ja_cons (je_var 0) (ja_cons (je_var 2) ja_nil)))) ja_nil) T.n_range) (blkOk_by (by decide +kernel)) (fun _ _ _ _ _ => (pg_name (i := 3) sc__law_path.nd rfl (.inl rfl))) (tg_name 3) (by decide) (fun _ _ _ _ _ => jts_nil) (fun _ _ _ _ _ => (je_ix hr.units (je_var 1) (je_call (ok__law_draw T) (hr.mono (by decide)) T.g__law_draw T.F__law_draw.kp T.b__law_draw (ja_cons (je_var 0) (ja_cons (je_callB call_lenA cd_len T.n_len bt_len (ja_cons (je_var 1) ja_nil)) ja_nil))))))) ja_nil))))
abbrev s__law_is_name : Stmt := topS 56
theorem sc__law_is_name : FnScope ["_law_thing_here", "_law_sign"] ["_law_thing_here"] (defScope s__law_is_name) := ⟨rfl, rfl, rfl, by decide +kernel, rfl, by decide +kernel, by decide +kernel⟩
def c1__law_is_namet : MB := tYesM
def c1__law_is_name : M := mChain dLe dLe (mC (.str "a")) (mVar 1) (mC (.str "z"))
def b__law_is_name : MS := sSeq (sIf (mOr (mNot (mTru (mIsiA "str" (mVar 0)))) (mNot (mTst (mChain dLt dLt (mC (.int 0)) (mCB dLen (mCons (mVar 0) (mNil))) (mC (.int 9)))))) (sRet false (mC (.bl false))) (sNext))
  (sRet false (mCB dAll (mCons (mOfF (mLc [1] (mItems (mVar 0)) (gN 1) c1__law_is_namet c1__law_is_name)) (mNil))))
def m__law_is_name : MF := runF 2 1 b__law_is_name
theorem ok__law_is_name {P : Program} {w : World} {K : PySem.W.Frag} {mg : Str → Option Value} {base : Heap} (T : Fs P K mg) : FnOk P w K mg base CX0 1 T.a__law_is_name T.f__law_is_name ["_law_thing_here"] (spM K 1 m__law_is_name) :=
  fn_ok (N := ["_law_thing_here", "_law_sign"]) (ps := ["_law_thing_here"]) (m := b__law_is_name) T.F__law_is_name sc__law_is_name (by decide) fun cdv A outer s H E hr =>
  (jss_cons (js_if (JW.jt (jw_or (jt_not (jt_tru (je_isiA (je_var 0) T.n_isinstance T.n_str bt_str))) (jw_or1 (jt_not (jt_chain op_ltD od_lt op_ltD od_lt je_int (je_callB call_lenA cd_len T.n_len bt_len (ja_cons (je_var 0) ja_nil)) je_int))))) (jss_one (js_ret je_bl)) jss_nil)
  (jss_one (js_ret (je_callB (cr_all rfl) cd_all T.n_all bt_all (ja_cons (JF.je (jf_lcN (mt := c1__law_is_namet) (me := c1__law_is_name) ["_law_thing_here", "_law_sign"] (defScope s__law_is_name) [("_law_sign", 1)] rfl sc__law_is_name.nd (ji_e (je_var 0)) (blkOk_by (by decide +kernel)) (fun _ _ _ _ _ => (pg_name (i := 1) sc__law_is_name.nd rfl (.inl rfl))) (tg_name 1) (by decide) (fun _ _ _ _ _ => jts_nil) (fun _ _ _ _ _ => (je_chain op_leD od_le op_leD od_le je_str (je_var 1) je_str)))) ja_nil)))))
abbrev s__law_is_key : Stmt := topS 57
theorem sc__law_is_key : FnScope ["_law_thing_here", "_law_most", "_law_parts_here", "_law_part_here"] ["_law_thing_here", "_law_most"] (defScope s__law_is_key) := ⟨rfl, rfl, rfl, by decide +kernel, rfl, by decide +kernel, by decide +kernel⟩
def c1__law_is_keyt : MB := tYesM
def c1__law_is_key : M := mCall 1 m__law_is_name (mCons (mVar 3) (mNil))
def b__law_is_key : MS := sSeq (sIf (mNot (mTru (mIsiA "str" (mVar 0)))) (sRet false (mC (.bl false))) (sNext))
  (sSeq (sAsg 2 (mMt dSplit (mVar 0) (mCons (mC (.str "/")) (mNil))))
  (sRet false (mAndV (mOp dLe (mCB dLen (mCons (mVar 2) (mNil))) (mVar 1)) (mCB dAll (mCons (mOfF (mLc [3] (mItems (mVar 2)) (gN 3) c1__law_is_keyt c1__law_is_key)) (mNil))))))
def m__law_is_key : MF := runF 4 2 b__law_is_key
theorem ok__law_is_key {P : Program} {w : World} {K : PySem.W.Frag} {mg : Str → Option Value} {base : Heap} (T : Fs P K mg) : FnOk P w K mg base CX0 2 T.a__law_is_key T.f__law_is_key ["_law_thing_here", "_law_most"] (spM K 2 m__law_is_key) :=
  fn_ok (N := ["_law_thing_here", "_law_most", "_law_parts_here", "_law_part_here"]) (ps := ["_law_thing_here", "_law_most"]) (m := b__law_is_key) T.F__law_is_key sc__law_is_key (by decide) fun cdv A outer s H E hr =>
  (jss_cons (js_if (jt_not (jt_tru (je_isiA (je_var 0) T.n_isinstance T.n_str bt_str))) (jss_one (js_ret je_bl)) jss_nil)
  (jss_cons (js_asg (je_split (je_var 0) (ja_cons je_str ja_nil)) sc__law_is_key.nd)
  (jss_one (js_ret (je_and (je_cmp op_leD od_le (je_callB call_lenA cd_len T.n_len bt_len (ja_cons (je_var 2) ja_nil)) (je_var 1) (by rfl)) (je_one (je_callB (cr_all rfl) cd_all T.n_all bt_all (ja_cons (JF.je (jf_lcN (mt := c1__law_is_keyt) (me := c1__law_is_key) ["_law_thing_here", "_law_most", "_law_parts_here", "_law_part_here"] (defScope s__law_is_key) [("_law_part_here", 3)] rfl sc__law_is_key.nd (ji_e (je_var 2)) (blkOk_by (by decide +kernel)) (fun _ _ _ _ _ => (pg_name (i := 3) sc__law_is_key.nd rfl (.inl rfl))) (tg_name 3) (by decide) (fun _ _ _ _ _ => jts_nil) (fun _ _ _ _ _ => (je_call (ok__law_is_name T) (hr.mono (by decide)) T.g__law_is_name T.F__law_is_name.kp T.b__law_is_name (ja_cons (je_var 3) ja_nil))))) ja_nil))))))))
abbrev s__law_error : Stmt := topS 51
theorem sc__law_error : FnScope ["_law_e", "_law_sorts", "_law_bases", "_law_own", "_law_at"] ["_law_e"] (defScope s__law_error) := ⟨rfl, rfl, rfl, by decide +kernel, rfl, by decide +kernel, by decide +kernel⟩
def be_InvalidKey (a : Addr) : MS := sSeq (sAsg 1 (mLst (mCons (mIsE a true (mVar 0)) (mCons (mIsE a false (mVar 0)) (mCons (mIsE a false (mVar 0)) (mNil))))))
  (sSeq (sAsg 1 (mOp dAdd (mVar 1) (mLst (mCons (mIsE a false (mVar 0)) (mCons (mIsE a false (mVar 0)) (mCons (mIsE a false (mVar 0)) (mNil)))))))
  (sSeq (sAsg 1 (mOp dAdd (mVar 1) (mLst (mCons (mIsE a false (mVar 0)) (mCons (mIsE a false (mVar 0)) (mCons (mIsE a false (mVar 0)) (mNil)))))))
  (sSeq (sAsg 1 (mOp dAdd (mVar 1) (mLst (mCons (mIsE a false (mVar 0)) (mCons (mIsE a false (mVar 0)) (mCons (mIsE a false (mVar 0)) (mNil)))))))
  (sSeq (sAsg 1 (mOp dAdd (mVar 1) (mLst (mCons (mIsE a false (mVar 0)) (mCons (mIsE a false (mVar 0)) (mCons (mIsE a false (mVar 0)) (mNil)))))))
  (sSeq (sAsg 1 (mOp dAdd (mVar 1) (mLst (mCons (mIsE a false (mVar 0)) (mCons (mIsE a false (mVar 0)) (mCons (mIsE a false (mVar 0)) (mNil)))))))
  (sSeq (sAsg 1 (mOp dAdd (mVar 1) (mLst (mCons (mIsE a false (mVar 0)) (mCons (mIsE a false (mVar 0)) (mCons (mIsE a false (mVar 0)) (mNil)))))))
  (sSeq (sAsg 1 (mOp dAdd (mVar 1) (mLst (mCons (mIsE a false (mVar 0)) (mCons (mIsE a false (mVar 0)) (mCons (mIsE a false (mVar 0)) (mNil)))))))
  (sSeq (sAsg 1 (mOp dAdd (mVar 1) (mLst (mCons (mIsE a false (mVar 0)) (mNil)))))
  (sSeq (sAsg 2 (mLst (mCons (mIsE a true (mVar 0)) (mCons (mIsE a false (mVar 0)) (mCons (mIsE a false (mVar 0)) (mNil))))))
  (sSeq (sAsg 2 (mOp dAdd (mVar 2) (mLst (mCons (mIsE a false (mVar 0)) (mNil)))))
  (sSeq (sAsg 3 (mLst (mCons (mIsE a true (mVar 0)) (mCons (mIsE a false (mVar 0)) (mCons (mIsE a false (mVar 0)) (mNil))))))
  (sSeq (sAsg 3 (mOp dAdd (mVar 3) (mLst (mCons (mIsE a false (mVar 0)) (mNil)))))
  (sSeq (sIf (mOr (mTst (mOp dNe (mMt dCount (mVar 1) (mCons (mC (.bl true)) (mNil))) (mC (.int 1)))) (mTst (mOp dNe (mVar 3) (mVar 2)))) (sRet false (mUn dNeg (mC (.int 1)))) (sNext))
  (sSeq (sAsg 4 (mMt dIndex (mVar 1) (mCons (mC (.bl true)) (mNil))))
  (sRet false (mIf (mTst (mOp dEq (mVar 2) (mLst (mCons (mOp dLt (mVar 4) (mC (.int 19))) (mCons (mChain dLt dLt (mC (.int 18)) (mVar 4) (mC (.int 23))) (mCons (mOp dEq (mVar 4) (mC (.int 23))) (mCons (mOp dEq (mVar 4) (mC (.int 24))) (mNil)))))))) (mVar 4) (mUn dNeg (mC (.int 1)))))))))))))))))))
def me_InvalidKey (a : Addr) : MF := runF 5 1 (be_InvalidKey a)
theorem oke_InvalidKey {P : Program} {w : World} {K : PySem.W.Frag} {mg : Str → Option Value} {base : Heap} (T : Fs P K mg) {i : Xf} {oe : Obj} (O : XoOk i T.C_InvalidKey oe) : FnP P w K mg base CX0 2 T.a__law_error T.f__law_error ["_law_e"] (i.a, oe) (spP K i 1 (me_InvalidKey i.a)) :=
  fn_okP (N := ["_law_e", "_law_sorts", "_law_bases", "_law_own", "_law_at"]) (ps := ["_law_e"]) (m := be_InvalidKey i.a) T.F__law_error sc__law_error (by decide) fun cdv A outer s H E hr hH => jcs_of
  (jss_cons (js_asg (je_lst (ja_cons (je_isX T.xk_InvalidKey.is_ O List.mem_cons_self hH T.gm_InvalidKey T.kt_InvalidKey_InvalidKey (je_var 0) T.n_isinstance) (ja_cons (je_isX T.xk_InvalidKey.is_ O List.mem_cons_self hH T.gm_InvalidPath T.kt_InvalidKey_InvalidPath (je_var 0) T.n_isinstance) (ja_cons (je_isX T.xk_InvalidKey.is_ O List.mem_cons_self hH T.gm_InvalidWins T.kt_InvalidKey_InvalidWins (je_var 0) T.n_isinstance) ja_nil)))) sc__law_error.nd)
  (jss_cons (js_asg (je_op op_addD od_add (je_var 1) (je_lst (ja_cons (je_isX T.xk_InvalidKey.is_ O List.mem_cons_self hH T.gm_InvalidValue T.kt_InvalidKey_InvalidValue (je_var 0) T.n_isinstance) (ja_cons (je_isX T.xk_InvalidKey.is_ O List.mem_cons_self hH T.gm_InvalidName T.kt_InvalidKey_InvalidName (je_var 0) T.n_isinstance) (ja_cons (je_isX T.xk_InvalidKey.is_ O List.mem_cons_self hH T.gm_InvalidStop T.kt_InvalidKey_InvalidStop (je_var 0) T.n_isinstance) ja_nil))))) sc__law_error.nd)
  (jss_cons (js_asg (je_op op_addD od_add (je_var 1) (je_lst (ja_cons (je_isX T.xk_InvalidKey.is_ O List.mem_cons_self hH T.gm_InvalidPattern T.kt_InvalidKey_InvalidPattern (je_var 0) T.n_isinstance) (ja_cons (je_isX T.xk_InvalidKey.is_ O List.mem_cons_self hH T.gm_InvalidCapacity T.kt_InvalidKey_InvalidCapacity (je_var 0) T.n_isinstance) (ja_cons (je_isX T.xk_InvalidKey.is_ O List.mem_cons_self hH T.gm_InvalidCommand T.kt_InvalidKey_InvalidCommand (je_var 0) T.n_isinstance) ja_nil))))) sc__law_error.nd)
  (jss_cons (js_asg (je_op op_addD od_add (je_var 1) (je_lst (ja_cons (je_isX T.xk_InvalidKey.is_ O List.mem_cons_self hH T.gm_NotARecord T.kt_InvalidKey_NotARecord (je_var 0) T.n_isinstance) (ja_cons (je_isX T.xk_InvalidKey.is_ O List.mem_cons_self hH T.gm_NotAScript T.kt_InvalidKey_NotAScript (je_var 0) T.n_isinstance) (ja_cons (je_isX T.xk_InvalidKey.is_ O List.mem_cons_self hH T.gm_InvalidEntries T.kt_InvalidKey_InvalidEntries (je_var 0) T.n_isinstance) ja_nil))))) sc__law_error.nd)
  (jss_cons (js_asg (je_op op_addD od_add (je_var 1) (je_lst (ja_cons (je_isX T.xk_InvalidKey.is_ O List.mem_cons_self hH T.gm_InvalidSteps T.kt_InvalidKey_InvalidSteps (je_var 0) T.n_isinstance) (ja_cons (je_isX T.xk_InvalidKey.is_ O List.mem_cons_self hH T.gm_InvalidPremises T.kt_InvalidKey_InvalidPremises (je_var 0) T.n_isinstance) (ja_cons (je_isX T.xk_InvalidKey.is_ O List.mem_cons_self hH T.gm_InvalidReader T.kt_InvalidKey_InvalidReader (je_var 0) T.n_isinstance) ja_nil))))) sc__law_error.nd)
  (jss_cons (js_asg (je_op op_addD od_add (je_var 1) (je_lst (ja_cons (je_isX T.xk_InvalidKey.is_ O List.mem_cons_self hH T.gm_InvalidNames T.kt_InvalidKey_InvalidNames (je_var 0) T.n_isinstance) (ja_cons (je_isX T.xk_InvalidKey.is_ O List.mem_cons_self hH T.gm_InvalidPatterns T.kt_InvalidKey_InvalidPatterns (je_var 0) T.n_isinstance) (ja_cons (je_isX T.xk_InvalidKey.is_ O List.mem_cons_self hH T.gm_InvalidDeed T.kt_InvalidKey_InvalidDeed (je_var 0) T.n_isinstance) ja_nil))))) sc__law_error.nd)
  (jss_cons (js_asg (je_op op_addD od_add (je_var 1) (je_lst (ja_cons (je_isX T.xk_InvalidKey.is_ O List.mem_cons_self hH T.gm_InvalidText T.kt_InvalidKey_InvalidText (je_var 0) T.n_isinstance) (ja_cons (je_isX T.xk_InvalidKey.is_ O List.mem_cons_self hH T.gm_MissingKey T.kt_InvalidKey_MissingKey (je_var 0) T.n_isinstance) (ja_cons (je_isX T.xk_InvalidKey.is_ O List.mem_cons_self hH T.gm_UnknownName T.kt_InvalidKey_UnknownName (je_var 0) T.n_isinstance) ja_nil))))) sc__law_error.nd)
  (jss_cons (js_asg (je_op op_addD od_add (je_var 1) (je_lst (ja_cons (je_isX T.xk_InvalidKey.is_ O List.mem_cons_self hH T.gm_NotLossless T.kt_InvalidKey_NotLossless (je_var 0) T.n_isinstance) (ja_cons (je_isX T.xk_InvalidKey.is_ O List.mem_cons_self hH T.gm_NothingToUndo T.kt_InvalidKey_NothingToUndo (je_var 0) T.n_isinstance) (ja_cons (je_isX T.xk_InvalidKey.is_ O List.mem_cons_self hH T.gm_Contradictory T.kt_InvalidKey_Contradictory (je_var 0) T.n_isinstance) ja_nil))))) sc__law_error.nd)
  (jss_cons (js_asg (je_op op_addD od_add (je_var 1) (je_lst (ja_cons (je_isX T.xk_InvalidKey.is_ O List.mem_cons_self hH T.gm_TooMany T.kt_InvalidKey_TooMany (je_var 0) T.n_isinstance) ja_nil))) sc__law_error.nd)
  (jss_cons (js_asg (je_lst (ja_cons (je_isX T.xk_InvalidKey.is_ O List.mem_cons_self hH T.gm_MoveError T.kt_InvalidKey_MoveError (je_var 0) T.n_isinstance) (ja_cons (je_isX T.xk_InvalidKey.is_ O List.mem_cons_self hH T.gm_SearchError T.kt_InvalidKey_SearchError (je_var 0) T.n_isinstance) (ja_cons (je_isX T.xk_InvalidKey.is_ O List.mem_cons_self hH T.gm_ConflictError T.kt_InvalidKey_ConflictError (je_var 0) T.n_isinstance) ja_nil)))) sc__law_error.nd)
  (jss_cons (js_asg (je_op op_addD od_add (je_var 2) (je_lst (ja_cons (je_isX T.xk_InvalidKey.is_ O List.mem_cons_self hH T.gm_LimitError T.kt_InvalidKey_LimitError (je_var 0) T.n_isinstance) ja_nil))) sc__law_error.nd)
  (jss_cons (js_asg (je_lst (ja_cons (je_isXb T.xk_InvalidKey.is_ O List.mem_cons_self hH T.n_ValueError (by decide +kernel) T.kt_InvalidKey_ValueError (je_var 0) T.n_isinstance) (ja_cons (je_isXb T.xk_InvalidKey.is_ O List.mem_cons_self hH T.n_LookupError (by decide +kernel) T.kt_InvalidKey_LookupError (je_var 0) T.n_isinstance) (ja_cons (je_isXb T.xk_InvalidKey.is_ O List.mem_cons_self hH T.n_RuntimeError (by decide +kernel) T.kt_InvalidKey_RuntimeError (je_var 0) T.n_isinstance) ja_nil)))) sc__law_error.nd)
  (jss_cons (js_asg (je_op op_addD od_add (je_var 3) (je_lst (ja_cons (je_isXb T.xk_InvalidKey.is_ O List.mem_cons_self hH T.n_ArithmeticError (by decide +kernel) T.kt_InvalidKey_ArithmeticError (je_var 0) T.n_isinstance) ja_nil))) sc__law_error.nd)
  (jss_cons (js_if (JW.jt (jw_or (jt_cmp (op_neX hr.units) od_ne (je_count hr.units (je_var 1) (ja_cons je_bl ja_nil)) je_int (by rfl)) (jw_or1 (jt_cmp (op_neX hr.units) od_ne (je_var 3) (je_var 2) (by rfl))))) (jss_one (js_ret (je_un un_neg ud_neg je_int))) jss_nil)
  (jss_cons (js_asg (je_index hr.units (je_var 1) (ja_cons je_bl ja_nil)) sc__law_error.nd)
  (jss_one (js_ret (je_if (jt_cmp (op_eqX hr.units) od_eq (je_var 2) (je_lst (ja_cons (je_cmp op_ltD od_lt (je_var 4) je_int (by rfl)) (ja_cons (je_chain op_ltD od_lt op_ltD od_lt je_int (je_var 4) je_int) (ja_cons (je_cmp (op_eqX hr.units) od_eq (je_var 4) je_int (by rfl)) (ja_cons (je_cmp (op_eqX hr.units) od_eq (je_var 4) je_int (by rfl)) ja_nil))))) (by rfl)) (je_var 4) (je_un un_neg ud_neg je_int)))))))))))))))))))
def be_InvalidPath (a : Addr) : MS := sSeq (sAsg 1 (mLst (mCons (mIsE a false (mVar 0)) (mCons (mIsE a true (mVar 0)) (mCons (mIsE a false (mVar 0)) (mNil))))))
  (sSeq (sAsg 1 (mOp dAdd (mVar 1) (mLst (mCons (mIsE a false (mVar 0)) (mCons (mIsE a false (mVar 0)) (mCons (mIsE a false (mVar 0)) (mNil)))))))
  (sSeq (sAsg 1 (mOp dAdd (mVar 1) (mLst (mCons (mIsE a false (mVar 0)) (mCons (mIsE a false (mVar 0)) (mCons (mIsE a false (mVar 0)) (mNil)))))))
  (sSeq (sAsg 1 (mOp dAdd (mVar 1) (mLst (mCons (mIsE a false (mVar 0)) (mCons (mIsE a false (mVar 0)) (mCons (mIsE a false (mVar 0)) (mNil)))))))
  (sSeq (sAsg 1 (mOp dAdd (mVar 1) (mLst (mCons (mIsE a false (mVar 0)) (mCons (mIsE a false (mVar 0)) (mCons (mIsE a false (mVar 0)) (mNil)))))))
  (sSeq (sAsg 1 (mOp dAdd (mVar 1) (mLst (mCons (mIsE a false (mVar 0)) (mCons (mIsE a false (mVar 0)) (mCons (mIsE a false (mVar 0)) (mNil)))))))
  (sSeq (sAsg 1 (mOp dAdd (mVar 1) (mLst (mCons (mIsE a false (mVar 0)) (mCons (mIsE a false (mVar 0)) (mCons (mIsE a false (mVar 0)) (mNil)))))))
  (sSeq (sAsg 1 (mOp dAdd (mVar 1) (mLst (mCons (mIsE a false (mVar 0)) (mCons (mIsE a false (mVar 0)) (mCons (mIsE a false (mVar 0)) (mNil)))))))
  (sSeq (sAsg 1 (mOp dAdd (mVar 1) (mLst (mCons (mIsE a false (mVar 0)) (mNil)))))
  (sSeq (sAsg 2 (mLst (mCons (mIsE a true (mVar 0)) (mCons (mIsE a false (mVar 0)) (mCons (mIsE a false (mVar 0)) (mNil))))))
  (sSeq (sAsg 2 (mOp dAdd (mVar 2) (mLst (mCons (mIsE a false (mVar 0)) (mNil)))))
  (sSeq (sAsg 3 (mLst (mCons (mIsE a true (mVar 0)) (mCons (mIsE a false (mVar 0)) (mCons (mIsE a false (mVar 0)) (mNil))))))
  (sSeq (sAsg 3 (mOp dAdd (mVar 3) (mLst (mCons (mIsE a false (mVar 0)) (mNil)))))
  (sSeq (sIf (mOr (mTst (mOp dNe (mMt dCount (mVar 1) (mCons (mC (.bl true)) (mNil))) (mC (.int 1)))) (mTst (mOp dNe (mVar 3) (mVar 2)))) (sRet false (mUn dNeg (mC (.int 1)))) (sNext))
  (sSeq (sAsg 4 (mMt dIndex (mVar 1) (mCons (mC (.bl true)) (mNil))))
  (sRet false (mIf (mTst (mOp dEq (mVar 2) (mLst (mCons (mOp dLt (mVar 4) (mC (.int 19))) (mCons (mChain dLt dLt (mC (.int 18)) (mVar 4) (mC (.int 23))) (mCons (mOp dEq (mVar 4) (mC (.int 23))) (mCons (mOp dEq (mVar 4) (mC (.int 24))) (mNil)))))))) (mVar 4) (mUn dNeg (mC (.int 1)))))))))))))))))))
def me_InvalidPath (a : Addr) : MF := runF 5 1 (be_InvalidPath a)
theorem oke_InvalidPath {P : Program} {w : World} {K : PySem.W.Frag} {mg : Str → Option Value} {base : Heap} (T : Fs P K mg) {i : Xf} {oe : Obj} (O : XoOk i T.C_InvalidPath oe) : FnP P w K mg base CX0 2 T.a__law_error T.f__law_error ["_law_e"] (i.a, oe) (spP K i 1 (me_InvalidPath i.a)) :=
  fn_okP (N := ["_law_e", "_law_sorts", "_law_bases", "_law_own", "_law_at"]) (ps := ["_law_e"]) (m := be_InvalidPath i.a) T.F__law_error sc__law_error (by decide) fun cdv A outer s H E hr hH => jcs_of
  (jss_cons (js_asg (je_lst (ja_cons (je_isX T.xk_InvalidPath.is_ O List.mem_cons_self hH T.gm_InvalidKey T.kt_InvalidPath_InvalidKey (je_var 0) T.n_isinstance) (ja_cons (je_isX T.xk_InvalidPath.is_ O List.mem_cons_self hH T.gm_InvalidPath T.kt_InvalidPath_InvalidPath (je_var 0) T.n_isinstance) (ja_cons (je_isX T.xk_InvalidPath.is_ O List.mem_cons_self hH T.gm_InvalidWins T.kt_InvalidPath_InvalidWins (je_var 0) T.n_isinstance) ja_nil)))) sc__law_error.nd)
  (jss_cons (js_asg (je_op op_addD od_add (je_var 1) (je_lst (ja_cons (je_isX T.xk_InvalidPath.is_ O List.mem_cons_self hH T.gm_InvalidValue T.kt_InvalidPath_InvalidValue (je_var 0) T.n_isinstance) (ja_cons (je_isX T.xk_InvalidPath.is_ O List.mem_cons_self hH T.gm_InvalidName T.kt_InvalidPath_InvalidName (je_var 0) T.n_isinstance) (ja_cons (je_isX T.xk_InvalidPath.is_ O List.mem_cons_self hH T.gm_InvalidStop T.kt_InvalidPath_InvalidStop (je_var 0) T.n_isinstance) ja_nil))))) sc__law_error.nd)
  (jss_cons (js_asg (je_op op_addD od_add (je_var 1) (je_lst (ja_cons (je_isX T.xk_InvalidPath.is_ O List.mem_cons_self hH T.gm_InvalidPattern T.kt_InvalidPath_InvalidPattern (je_var 0) T.n_isinstance) (ja_cons (je_isX T.xk_InvalidPath.is_ O List.mem_cons_self hH T.gm_InvalidCapacity T.kt_InvalidPath_InvalidCapacity (je_var 0) T.n_isinstance) (ja_cons (je_isX T.xk_InvalidPath.is_ O List.mem_cons_self hH T.gm_InvalidCommand T.kt_InvalidPath_InvalidCommand (je_var 0) T.n_isinstance) ja_nil))))) sc__law_error.nd)
  (jss_cons (js_asg (je_op op_addD od_add (je_var 1) (je_lst (ja_cons (je_isX T.xk_InvalidPath.is_ O List.mem_cons_self hH T.gm_NotARecord T.kt_InvalidPath_NotARecord (je_var 0) T.n_isinstance) (ja_cons (je_isX T.xk_InvalidPath.is_ O List.mem_cons_self hH T.gm_NotAScript T.kt_InvalidPath_NotAScript (je_var 0) T.n_isinstance) (ja_cons (je_isX T.xk_InvalidPath.is_ O List.mem_cons_self hH T.gm_InvalidEntries T.kt_InvalidPath_InvalidEntries (je_var 0) T.n_isinstance) ja_nil))))) sc__law_error.nd)
  (jss_cons (js_asg (je_op op_addD od_add (je_var 1) (je_lst (ja_cons (je_isX T.xk_InvalidPath.is_ O List.mem_cons_self hH T.gm_InvalidSteps T.kt_InvalidPath_InvalidSteps (je_var 0) T.n_isinstance) (ja_cons (je_isX T.xk_InvalidPath.is_ O List.mem_cons_self hH T.gm_InvalidPremises T.kt_InvalidPath_InvalidPremises (je_var 0) T.n_isinstance) (ja_cons (je_isX T.xk_InvalidPath.is_ O List.mem_cons_self hH T.gm_InvalidReader T.kt_InvalidPath_InvalidReader (je_var 0) T.n_isinstance) ja_nil))))) sc__law_error.nd)
  (jss_cons (js_asg (je_op op_addD od_add (je_var 1) (je_lst (ja_cons (je_isX T.xk_InvalidPath.is_ O List.mem_cons_self hH T.gm_InvalidNames T.kt_InvalidPath_InvalidNames (je_var 0) T.n_isinstance) (ja_cons (je_isX T.xk_InvalidPath.is_ O List.mem_cons_self hH T.gm_InvalidPatterns T.kt_InvalidPath_InvalidPatterns (je_var 0) T.n_isinstance) (ja_cons (je_isX T.xk_InvalidPath.is_ O List.mem_cons_self hH T.gm_InvalidDeed T.kt_InvalidPath_InvalidDeed (je_var 0) T.n_isinstance) ja_nil))))) sc__law_error.nd)
  (jss_cons (js_asg (je_op op_addD od_add (je_var 1) (je_lst (ja_cons (je_isX T.xk_InvalidPath.is_ O List.mem_cons_self hH T.gm_InvalidText T.kt_InvalidPath_InvalidText (je_var 0) T.n_isinstance) (ja_cons (je_isX T.xk_InvalidPath.is_ O List.mem_cons_self hH T.gm_MissingKey T.kt_InvalidPath_MissingKey (je_var 0) T.n_isinstance) (ja_cons (je_isX T.xk_InvalidPath.is_ O List.mem_cons_self hH T.gm_UnknownName T.kt_InvalidPath_UnknownName (je_var 0) T.n_isinstance) ja_nil))))) sc__law_error.nd)
  (jss_cons (js_asg (je_op op_addD od_add (je_var 1) (je_lst (ja_cons (je_isX T.xk_InvalidPath.is_ O List.mem_cons_self hH T.gm_NotLossless T.kt_InvalidPath_NotLossless (je_var 0) T.n_isinstance) (ja_cons (je_isX T.xk_InvalidPath.is_ O List.mem_cons_self hH T.gm_NothingToUndo T.kt_InvalidPath_NothingToUndo (je_var 0) T.n_isinstance) (ja_cons (je_isX T.xk_InvalidPath.is_ O List.mem_cons_self hH T.gm_Contradictory T.kt_InvalidPath_Contradictory (je_var 0) T.n_isinstance) ja_nil))))) sc__law_error.nd)
  (jss_cons (js_asg (je_op op_addD od_add (je_var 1) (je_lst (ja_cons (je_isX T.xk_InvalidPath.is_ O List.mem_cons_self hH T.gm_TooMany T.kt_InvalidPath_TooMany (je_var 0) T.n_isinstance) ja_nil))) sc__law_error.nd)
  (jss_cons (js_asg (je_lst (ja_cons (je_isX T.xk_InvalidPath.is_ O List.mem_cons_self hH T.gm_MoveError T.kt_InvalidPath_MoveError (je_var 0) T.n_isinstance) (ja_cons (je_isX T.xk_InvalidPath.is_ O List.mem_cons_self hH T.gm_SearchError T.kt_InvalidPath_SearchError (je_var 0) T.n_isinstance) (ja_cons (je_isX T.xk_InvalidPath.is_ O List.mem_cons_self hH T.gm_ConflictError T.kt_InvalidPath_ConflictError (je_var 0) T.n_isinstance) ja_nil)))) sc__law_error.nd)
  (jss_cons (js_asg (je_op op_addD od_add (je_var 2) (je_lst (ja_cons (je_isX T.xk_InvalidPath.is_ O List.mem_cons_self hH T.gm_LimitError T.kt_InvalidPath_LimitError (je_var 0) T.n_isinstance) ja_nil))) sc__law_error.nd)
  (jss_cons (js_asg (je_lst (ja_cons (je_isXb T.xk_InvalidPath.is_ O List.mem_cons_self hH T.n_ValueError (by decide +kernel) T.kt_InvalidPath_ValueError (je_var 0) T.n_isinstance) (ja_cons (je_isXb T.xk_InvalidPath.is_ O List.mem_cons_self hH T.n_LookupError (by decide +kernel) T.kt_InvalidPath_LookupError (je_var 0) T.n_isinstance) (ja_cons (je_isXb T.xk_InvalidPath.is_ O List.mem_cons_self hH T.n_RuntimeError (by decide +kernel) T.kt_InvalidPath_RuntimeError (je_var 0) T.n_isinstance) ja_nil)))) sc__law_error.nd)
  (jss_cons (js_asg (je_op op_addD od_add (je_var 3) (je_lst (ja_cons (je_isXb T.xk_InvalidPath.is_ O List.mem_cons_self hH T.n_ArithmeticError (by decide +kernel) T.kt_InvalidPath_ArithmeticError (je_var 0) T.n_isinstance) ja_nil))) sc__law_error.nd)
  (jss_cons (js_if (JW.jt (jw_or (jt_cmp (op_neX hr.units) od_ne (je_count hr.units (je_var 1) (ja_cons je_bl ja_nil)) je_int (by rfl)) (jw_or1 (jt_cmp (op_neX hr.units) od_ne (je_var 3) (je_var 2) (by rfl))))) (jss_one (js_ret (je_un un_neg ud_neg je_int))) jss_nil)
  (jss_cons (js_asg (je_index hr.units (je_var 1) (ja_cons je_bl ja_nil)) sc__law_error.nd)
  (jss_one (js_ret (je_if (jt_cmp (op_eqX hr.units) od_eq (je_var 2) (je_lst (ja_cons (je_cmp op_ltD od_lt (je_var 4) je_int (by rfl)) (ja_cons (je_chain op_ltD od_lt op_ltD od_lt je_int (je_var 4) je_int) (ja_cons (je_cmp (op_eqX hr.units) od_eq (je_var 4) je_int (by rfl)) (ja_cons (je_cmp (op_eqX hr.units) od_eq (je_var 4) je_int (by rfl)) ja_nil))))) (by rfl)) (je_var 4) (je_un un_neg ud_neg je_int)))))))))))))))))))
abbrev s__law_field : Stmt := topS 52
theorem sc__law_field : FnScope ["_law_e", "_law_at"] ["_law_e", "_law_at"] (defScope s__law_field) := ⟨rfl, rfl, rfl, by decide +kernel, rfl, by decide +kernel, by decide +kernel⟩
def bf__law_field (i : Xf) : MS := sSeq (sIf (mOr (mTst (mOp dLt (mVar 1) (mC (.int 11)))) (mTst (mOp dIn (mVar 1) (mLst (mCons (mC (.int 19)) (mCons (mC (.int 20)) (mNil))))))) (sRet false (mFld i "value" (mVar 0))) (sNext))
  (sSeq (sIf (mTst (mOp dIn (mVar 1) (mLst (mCons (mC (.int 21)) (mCons (mC (.int 22)) (mCons (mC (.int 23)) (mNil))))))) (sRet false (mC .non)) (sNext))
  (sSeq (sIf (mTst (mOp dLt (mVar 1) (mC (.int 18)))) (sRet false (mFld i "index" (mVar 0))) (sNext))
  (sRet false (mIf (mTst (mOp dEq (mVar 1) (mC (.int 18)))) (mFld i "line" (mVar 0)) (mFld i "limit" (mVar 0))))))
def mf__law_field (i : Xf) : MF := runF 2 2 (bf__law_field i)
theorem okf__law_field {P : Program} {w : World} {K : PySem.W.Frag} {mg : Str → Option Value} {base : Heap} (T : Fs P K mg) {i : Xf} {oe : Obj} {C : Addr} (xi : XIs K C) (O : XoOk i C oe) (hno : PySem.W.findIn K (.ref C) i.fl = some none) : FnP P w K mg base CX0 2 T.a__law_field T.f__law_field ["_law_e", "_law_at"] (i.a, oe) (spP K i 2 (mf__law_field i)) :=
  fn_okP (N := ["_law_e", "_law_at"]) (ps := ["_law_e", "_law_at"]) (m := bf__law_field i) T.F__law_field sc__law_field (by decide) fun cdv A outer s H E hr hH =>
  (jcs_cons (jc_if (JW.jt (jw_or (jt_cmp op_ltD od_lt (je_var 1) je_int (by rfl)) (jw_or1 (jt_cmp (op_inX hr.units) od_in (je_var 1) (je_lst (ja_cons je_int (ja_cons je_int ja_nil))) (by rfl))))) (jcs_one (jc_ret (jz_fld xi O List.mem_cons_self hH hno (je_var 0)))) jcs_nil)
  (jcs_cons (jc_if (jt_cmp (op_inX hr.units) od_in (je_var 1) (je_lst (ja_cons je_int (ja_cons je_int (ja_cons je_int ja_nil)))) (by rfl)) (jcs_one (jc_ret (jz_of je_non))) jcs_nil)
  (jcs_cons (jc_if (jt_cmp op_ltD od_lt (je_var 1) je_int (by rfl)) (jcs_one (jc_ret (jz_fld xi O List.mem_cons_self hH hno (je_var 0)))) jcs_nil)
  (jcs_one (jc_ret (jz_if (jt_cmp (op_eqX hr.units) od_eq (je_var 1) je_int (by rfl)) (jz_fld xi O List.mem_cons_self hH hno (je_var 0)) (jz_fld xi O List.mem_cons_self hH hno (je_var 0))))))))
abbrev s__law_caught : Stmt := topS 53
theorem sc__law_caught : FnScope ["_law_act", "_law_told", "_law_e", "_law_at"] ["_law_act"] (defScope s__law_caught) := ⟨rfl, rfl, rfl, by decide +kernel, rfl, by decide +kernel, by decide +kernel⟩
def lq__law_pair_right : Str := (envOfC "_law_pair_right" (defScope (topS 58)) 0 0 (.ref 0)).qual ++ "<lambda>"
structure LB {P : Program} {K : PySem.W.Frag} {mg : Str → Option Value} (base : Heap) (T : Fs P K mg) : Prop where
  tb__law_pair_right : LamX.TabB base mg T.lc__law_pair_right T.lt__law_pair_right
  gt__law_pair_right : (T.lt__law_pair_right, lq__law_pair_right) ∈ GTab.tb
def tb__law_caught : List ((Str × Str) × Int) := [(("InvalidKey", "value"), 0), (("InvalidPath", "value"), 1)]
def su_InvalidKey (i : Xf) : MS := sSeq (sAsgV 3 (mCall 1 (me_InvalidKey i.a) (mCons (mVar 2) mNil))) (sRet false (mLst (mCons (mVar 3) (mCons (mCB dReprS (mCons (mCall 2 (mf__law_field i) (mCons (mVar 2) (mCons (mVar 3) mNil))) mNil)) mNil))))
def su_InvalidPath (i : Xf) : MS := sSeq (sAsgV 3 (mCall 1 (me_InvalidPath i.a) (mCons (mVar 2) mNil))) (sRet false (mLst (mCons (mVar 3) (mCons (mCB dReprS (mCons (mCall 2 (mf__law_field i) (mCons (mVar 2) (mCons (mVar 3) mNil))) mNil)) mNil))))
def re__law_caught : MS := sRet false (mLst (mCons (mC (.str "told")) (mCons (mCB dReprS (mCons (mVar 1) mNil)) mNil)))
/-- what the catcher makes of what is caught -/
structure CaughtOk : Prop where
  ev_InvalidKey : ∀ (i : Xf) (s : D) (p : List Int), i.fl = "value" → dReprS [i.x] = some s → su_InvalidKey i ((List.replicate 4 Cl.no).set 2 (.sh (.adr i.a))) p = some (.rt (.lst [.int 0, s]) p)
  ev_InvalidPath : ∀ (i : Xf) (s : D) (p : List Int), i.fl = "value" → dReprS [i.x] = some s → su_InvalidPath i ((List.replicate 4 Cl.no).set 2 (.sh (.adr i.a))) p = some (.rt (.lst [.int 1, s]) p)
  ev : ∀ (d s : D) (p : List Int), dReprS [d] = some s → re__law_caught ((List.replicate 4 Cl.no).set 1 (.sh d)) p = some (.rt (.lst [.str "told", s]) p)
theorem gives__law_caught {X : Cx} (T : Fs X.prog X.K X.mg) (hC : CaughtOk) (hgd : X.A.guards = some []) (hr : Room 4 X.A) (q : Str) (cdg : Value) : LamX.GivesTo X ["_law_act", "_law_told", "_law_e", "_law_at"] "_law_caught" (defScope s__law_caught) T.a__law_caught cdg (defBody s__law_caught) "_law_act" q (TC X.K (caughtOut tb__law_caught)) :=
  caught_gives (told := "_law_told") (n := "_law_e") (cs := [.ref T.C_MoveError, .ref T.C_SearchError, .ref T.C_ConflictError, .ref T.C_LimitError]) (msu := fun i c => if c = "InvalidKey" then su_InvalidKey i else if c = "InvalidPath" then su_InvalidPath i else sNev) (mrest := re__law_caught) (by decide) rfl rfl rfl rfl rfl (by show 4 ≤ 1000; decide)
    (fun s H => (GlobsX.cons rfl T.gm_MoveError (by decide) (GlobsX.cons rfl T.gm_SearchError (by decide) (GlobsX.cons rfl T.gm_ConflictError (by decide) (GlobsX.cons rfl T.gm_LimitError (by decide) GlobsX.nil)))))
    (fun s H a oe pn i C c xk O ha => by
      subst ha
      exact jcs_ite (fun hc => by
      subst hc
      obtain rfl := XKn.eqC xk T.xk_InvalidKey
      exact (jcs_cons (jc_asg (jz_callP (oke_InvalidKey T (i := i) O) (roomH_markD ((hr.deeper _).mono (by decide)) _) List.mem_cons_self T.g__law_error T.F__law_error.kp T.b__law_error (ja_cons (je_var 2) ja_nil)) sc__law_caught.nd)
      (jcs_one (jc_ret (jz_lst (jza_cons (jz_of (je_var 3)) (jza_cons (jz_callB (call_reprS hgd (L2H.RoomH.units (k := 2) (roomH_markD ((hr.deeper _).mono (by decide)) _))) cd_reprS T.n_repr bt_repr (jza_cons (jz_callP (okf__law_field T (i := i) xk.is_ O xk.hno) (roomH_markD ((hr.deeper _).mono (by decide)) _) List.mem_cons_self T.g__law_field T.F__law_field.kp T.b__law_field (ja_cons (je_var 2) (ja_cons (je_var 3) ja_nil))) jza_nil)) jza_nil))))))) (jcs_ite (fun hc => by
      subst hc
      obtain rfl := XKn.eqC xk T.xk_InvalidPath
      exact (jcs_cons (jc_asg (jz_callP (oke_InvalidPath T (i := i) O) (roomH_markD ((hr.deeper _).mono (by decide)) _) List.mem_cons_self T.g__law_error T.F__law_error.kp T.b__law_error (ja_cons (je_var 2) ja_nil)) sc__law_caught.nd)
      (jcs_one (jc_ret (jz_lst (jza_cons (jz_of (je_var 3)) (jza_cons (jz_callB (call_reprS hgd (L2H.RoomH.units (k := 2) (roomH_markD ((hr.deeper _).mono (by decide)) _))) cd_reprS T.n_repr bt_repr (jza_cons (jz_callP (okf__law_field T (i := i) xk.is_ O xk.hno) (roomH_markD ((hr.deeper _).mono (by decide)) _) List.mem_cons_self T.g__law_field T.F__law_field.kp T.b__law_field (ja_cons (je_var 2) (ja_cons (je_var 3) ja_nil))) jza_nil)) jza_nil))))))) (jcs_nev)))
    (fun s H => js_ret (je_lst (ja_cons je_str (ja_cons (je_callB (call_reprS hgd (hr.deeper _).units) cd_reprS T.n_repr bt_repr (ja_cons (je_var 1) ja_nil)) ja_nil))))
    (fun c f x p o p'' C h ns => by
      obtain ⟨n, s, e1, e2, rfl, rfl⟩ := caught_exn h
      obtain ⟨C', xk⟩ := XTab.at_ (cs := [.ref T.C_MoveError, .ref T.C_SearchError, .ref T.C_ConflictError, .ref T.C_LimitError]) (XTab.cons T.xk_InvalidKey (XTab.cons T.xk_InvalidPath XTab.nil)) e1
      refine ⟨xk.same ns, fun a dd od v => ?_⟩
      unfold tb__law_caught at e1
      show ((if c = "InvalidKey" then su_InvalidKey ⟨a, dd, od, f, v, x⟩ else if c = "InvalidPath" then su_InvalidPath ⟨a, dd, od, f, v, x⟩ else sNev) : MS) _ _ = _
      by_cases hc : c = "InvalidKey"
      · subst hc
        rw [if_pos rfl]
        obtain ⟨rfl, rfl⟩ := xt_only (by decide) e1
        exact hC.ev_InvalidKey ⟨a, dd, od, _, v, x⟩ s _ rfl e2
      · rw [if_neg hc]
        rw [xt_ne hc] at e1
        by_cases hc : c = "InvalidPath"
        · subst hc
          rw [if_pos rfl]
          obtain ⟨rfl, rfl⟩ := xt_only (by decide) e1
          exact hC.ev_InvalidPath ⟨a, dd, od, _, v, x⟩ s _ rfl e2
        · rw [if_neg hc]
          rw [xt_ne hc] at e1
          cases e1)
    (fun d p o p'' hx h => by
      obtain ⟨s, e2, rfl, rfl⟩ := caught_told hx h
      exact hC.ev d s _ e2)
abbrev s_check_key : Stmt := topS 39
theorem sc_check_key : FnScope ["value"] ["value"] (defScope s_check_key) := ⟨rfl, rfl, rfl, by decide +kernel, rfl, by decide +kernel, by decide +kernel⟩
def b_check_key : MS := sIf (mNot (mTru (mCall 1 m_is_key (mCons (mVar 0) (mNil))))) (sNev) (sNext)
def m_check_key : MF := runF 1 1 b_check_key
theorem ok_check_key {P : Program} {w : World} {K : PySem.W.Frag} {mg : Str → Option Value} {base : Heap} (T : Fs P K mg) : FnOk P w K mg base CX0 3 T.a_check_key T.f_check_key ["value"] (spM K 1 m_check_key) :=
  fn_ok (N := ["value"]) (ps := ["value"]) (m := b_check_key) T.F_check_key sc_check_key (by decide) fun cdv A outer s H E hr =>
  (jss_one (js_if (jt_not (jt_tru (je_call (ok_is_key T) (hr.mono (by decide)) T.g_is_key T.F_is_key.kp T.b_is_key (ja_cons (je_var 0) ja_nil)))) (jss_one js_nev) jss_nil))
def bx_check_key : MS := sIf (mNot (mTru (mCall 1 m_is_key (mCons (mVar 0) (mNil))))) (sRaise "InvalidKey" "value" (mVar 0)) (sNext)
def mx_check_key : MF := runF 1 1 bx_check_key
theorem okx_check_key {P : Program} {w : World} {K : PySem.W.Frag} {mg : Str → Option Value} {base : Heap} (T : Fs P K mg) : FnOk P w K mg base (L2.CX P w) 3 T.a_check_key T.f_check_key ["value"] (spR K 1 mx_check_key) :=
  fn_okR (N := ["value"]) (ps := ["value"]) (m := bx_check_key) T.F_check_key sc_check_key (by decide) fun cdv A outer s H E hr =>
  (jrs_one (jr_if (jt_not (jt_tru (je_call (ok_is_key T) (hr.mono (by decide)) T.g_is_key T.F_is_key.kp T.b_is_key (ja_cons (je_var 0) ja_nil)))) (jrs_one (jr_raise T.x_InvalidKey (okx_InvalidKey___init__ T) (hr.mono (by decide)) tk_cx (je_var 0))) (jrs_of jss_nil)))
abbrev s_check_path : Stmt := topS 40
theorem sc_check_path : FnScope ["value"] ["value"] (defScope s_check_path) := ⟨rfl, rfl, rfl, by decide +kernel, rfl, by decide +kernel, by decide +kernel⟩
def b_check_path : MS := sIf (mNot (mTru (mCall 1 m_is_path (mCons (mVar 0) (mNil))))) (sNev) (sNext)
def m_check_path : MF := runF 1 1 b_check_path
theorem ok_check_path {P : Program} {w : World} {K : PySem.W.Frag} {mg : Str → Option Value} {base : Heap} (T : Fs P K mg) : FnOk P w K mg base CX0 4 T.a_check_path T.f_check_path ["value"] (spM K 1 m_check_path) :=
  fn_ok (N := ["value"]) (ps := ["value"]) (m := b_check_path) T.F_check_path sc_check_path (by decide) fun cdv A outer s H E hr =>
  (jss_one (js_if (jt_not (jt_tru (je_call (ok_is_path T) (hr.mono (by decide)) T.g_is_path T.F_is_path.kp T.b_is_path (ja_cons (je_var 0) ja_nil)))) (jss_one js_nev) jss_nil))
def bx_check_path : MS := sIf (mNot (mTru (mCall 1 m_is_path (mCons (mVar 0) (mNil))))) (sRaise "InvalidPath" "value" (mVar 0)) (sNext)
def mx_check_path : MF := runF 1 1 bx_check_path
theorem okx_check_path {P : Program} {w : World} {K : PySem.W.Frag} {mg : Str → Option Value} {base : Heap} (T : Fs P K mg) : FnOk P w K mg base (L2.CX P w) 4 T.a_check_path T.f_check_path ["value"] (spR K 1 mx_check_path) :=
  fn_okR (N := ["value"]) (ps := ["value"]) (m := bx_check_path) T.F_check_path sc_check_path (by decide) fun cdv A outer s H E hr =>
  (jrs_one (jr_if (jt_not (jt_tru (je_call (ok_is_path T) (hr.mono (by decide)) T.g_is_path T.F_is_path.kp T.b_is_path (ja_cons (je_var 0) ja_nil)))) (jrs_one (jr_raise T.x_InvalidPath (okx_InvalidPath___init__ T) (hr.mono (by decide)) tk_cx (je_var 0))) (jrs_of jss_nil)))
abbrev s_lies_under : Stmt := topS 41
theorem sc_lies_under : FnScope ["key", "path"] ["key", "path"] (defScope s_lies_under) := ⟨rfl, rfl, rfl, by decide +kernel, rfl, by decide +kernel, by decide +kernel⟩
def b_lies_under : MS := sRet false (mOrV (mOp dEq (mVar 0) (mVar 1)) (mMt dStarts (mVar 0) (mCons (mOp dAdd (mVar 1) (mC (.str "/"))) (mNil))))
def m_lies_under : MF := runF 2 2 b_lies_under
theorem ok_lies_under {P : Program} {w : World} {K : PySem.W.Frag} {mg : Str → Option Value} {base : Heap} (T : Fs P K mg) : FnOk P w K mg base CX0 1 T.a_lies_under T.f_lies_under ["key", "path"] (spM K 2 m_lies_under) :=
  fn_ok (N := ["key", "path"]) (ps := ["key", "path"]) (m := b_lies_under) T.F_lies_under sc_lies_under (by decide) fun cdv A outer s H E hr =>
  (jss_one (js_ret (je_or (je_cmp (op_eqX hr.units) od_eq (je_var 0) (je_var 1) (by rfl)) (je_one (je_starts (je_var 0) (ja_cons (je_op op_addD od_add (je_var 1) (je_gstr T.c_SLASH)) ja_nil))))))
abbrev s_is_under : Stmt := topS 43
theorem sc_is_under : FnScope ["key", "path"] ["key", "path"] (defScope s_is_under) := ⟨rfl, rfl, rfl, by decide +kernel, rfl, by decide +kernel, by decide +kernel⟩
def b_is_under : MS := sSeq (sDrop (mCall 1 m_check_key (mCons (mVar 0) (mNil))))
  (sSeq (sDrop (mCall 1 m_check_path (mCons (mVar 1) (mNil))))
  (sRet false (mCall 2 m_lies_under (mCons (mVar 0) (mCons (mVar 1) (mNil))))))
def m_is_under : MF := runF 2 2 b_is_under
theorem ok_is_under {P : Program} {w : World} {K : PySem.W.Frag} {mg : Str → Option Value} {base : Heap} (T : Fs P K mg) : FnOk P w K mg base CX0 5 T.a_is_under T.f_is_under ["key", "path"] (spM K 2 m_is_under) :=
  fn_ok (N := ["key", "path"]) (ps := ["key", "path"]) (m := b_is_under) T.F_is_under sc_is_under (by decide) fun cdv A outer s H E hr =>
  (jss_cons (js_drop (je_call (ok_check_key T) (hr.mono (by decide)) T.g_check_key T.F_check_key.kp T.b_check_key (ja_cons (je_var 0) ja_nil)))
  (jss_cons (js_drop (je_call (ok_check_path T) (hr.mono (by decide)) T.g_check_path T.F_check_path.kp T.b_check_path (ja_cons (je_var 1) ja_nil)))
  (jss_one (js_ret (je_call (ok_lies_under T) (hr.mono (by decide)) T.g_lies_under T.F_lies_under.kp T.b_lies_under (ja_cons (je_var 0) (ja_cons (je_var 1) ja_nil)))))))
def bx_is_under : MS := sSeq (sDropX (mCall 1 mx_check_key (mCons (mVar 0) (mNil))))
  (sSeq (sDropX (mCall 1 mx_check_path (mCons (mVar 1) (mNil))))
  (sRet false (mCall 2 m_lies_under (mCons (mVar 0) (mCons (mVar 1) (mNil))))))
def mx_is_under : MF := runF 2 2 bx_is_under
theorem okx_is_under {P : Program} {w : World} {K : PySem.W.Frag} {mg : Str → Option Value} {base : Heap} (T : Fs P K mg) : FnOk P w K mg base (L2.CX P w) 5 T.a_is_under T.f_is_under ["key", "path"] (spR K 2 mx_is_under) :=
  fn_okR (N := ["key", "path"]) (ps := ["key", "path"]) (m := bx_is_under) T.F_is_under sc_is_under (by decide) fun cdv A outer s H E hr =>
  (jrs_cons (jr_dropX (jx_call (okx_check_key T) (hr.mono (by decide)) tk_cx T.g_check_key T.F_check_key.kp T.b_check_key (ja_cons (je_var 0) ja_nil)))
  (jrs_cons (jr_dropX (jx_call (okx_check_path T) (hr.mono (by decide)) tk_cx T.g_check_path T.F_check_path.kp T.b_check_path (ja_cons (je_var 1) ja_nil)))
  (jrs_one (jr_of (js_ret (je_call (ok_lies_under T) (hr.mono (by decide)) T.g_lies_under T.F_lies_under.kp T.b_lies_under (ja_cons (je_var 0) (ja_cons (je_var 1) ja_nil))))))))
abbrev s_replaced : Stmt := topS 42
theorem sc_replaced : FnScope ["key", "path", "goal"] ["key", "path", "goal"] (defScope s_replaced) := ⟨rfl, rfl, rfl, by decide +kernel, rfl, by decide +kernel, by decide +kernel⟩
def b_replaced : MS := sRet false (mOp dAdd (mVar 2) (mMt dRemovePre (mVar 0) (mCons (mVar 1) (mNil))))
def m_replaced : MF := runF 3 3 b_replaced
theorem ok_replaced {P : Program} {w : World} {K : PySem.W.Frag} {mg : Str → Option Value} {base : Heap} (T : Fs P K mg) : FnOk P w K mg base CX0 1 T.a_replaced T.f_replaced ["key", "path", "goal"] (spM K 3 m_replaced) :=
  fn_ok (N := ["key", "path", "goal"]) (ps := ["key", "path", "goal"]) (m := b_replaced) T.F_replaced sc_replaced (by decide) fun cdv A outer s H E hr =>
  (jss_one (js_ret (je_op op_addD od_add (je_var 2) (je_removePre (je_var 0) (ja_cons (je_var 1) ja_nil)))))
abbrev s_put_at : Stmt := topS 44
theorem sc_put_at : FnScope ["key", "path", "goal"] ["key", "path", "goal"] (defScope s_put_at) := ⟨rfl, rfl, rfl, by decide +kernel, rfl, by decide +kernel, by decide +kernel⟩
def b_put_at : MS := sSeq (sDrop (mCall 1 m_check_key (mCons (mVar 0) (mNil))))
  (sSeq (sDrop (mCall 1 m_check_path (mCons (mVar 1) (mNil))))
  (sSeq (sDrop (mCall 1 m_check_path (mCons (mVar 2) (mNil))))
  (sRet false (mIf (mTru (mCall 2 m_lies_under (mCons (mVar 0) (mCons (mVar 1) (mNil))))) (mCall 3 m_replaced (mCons (mVar 0) (mCons (mVar 1) (mCons (mVar 2) (mNil))))) (mC .non)))))
def m_put_at : MF := runF 3 3 b_put_at
theorem ok_put_at {P : Program} {w : World} {K : PySem.W.Frag} {mg : Str → Option Value} {base : Heap} (T : Fs P K mg) : FnOk P w K mg base CX0 5 T.a_put_at T.f_put_at ["key", "path", "goal"] (spM K 3 m_put_at) :=
  fn_ok (N := ["key", "path", "goal"]) (ps := ["key", "path", "goal"]) (m := b_put_at) T.F_put_at sc_put_at (by decide) fun cdv A outer s H E hr =>
  (jss_cons (js_drop (je_call (ok_check_key T) (hr.mono (by decide)) T.g_check_key T.F_check_key.kp T.b_check_key (ja_cons (je_var 0) ja_nil)))
  (jss_cons (js_drop (je_call (ok_check_path T) (hr.mono (by decide)) T.g_check_path T.F_check_path.kp T.b_check_path (ja_cons (je_var 1) ja_nil)))
  (jss_cons (js_drop (je_call (ok_check_path T) (hr.mono (by decide)) T.g_check_path T.F_check_path.kp T.b_check_path (ja_cons (je_var 2) ja_nil)))
  (jss_one (js_ret (je_if (jt_tru (je_call (ok_lies_under T) (hr.mono (by decide)) T.g_lies_under T.F_lies_under.kp T.b_lies_under (ja_cons (je_var 0) (ja_cons (je_var 1) ja_nil)))) (je_call (ok_replaced T) (hr.mono (by decide)) T.g_replaced T.F_replaced.kp T.b_replaced (ja_cons (je_var 0) (ja_cons (je_var 1) (ja_cons (je_var 2) ja_nil)))) je_non))))))
def bx_put_at : MS := sSeq (sDropX (mCall 1 mx_check_key (mCons (mVar 0) (mNil))))
  (sSeq (sDropX (mCall 1 mx_check_path (mCons (mVar 1) (mNil))))
  (sSeq (sDropX (mCall 1 mx_check_path (mCons (mVar 2) (mNil))))
  (sRet false (mIf (mTru (mCall 2 m_lies_under (mCons (mVar 0) (mCons (mVar 1) (mNil))))) (mCall 3 m_replaced (mCons (mVar 0) (mCons (mVar 1) (mCons (mVar 2) (mNil))))) (mC .non)))))
def mx_put_at : MF := runF 3 3 bx_put_at
theorem okx_put_at {P : Program} {w : World} {K : PySem.W.Frag} {mg : Str → Option Value} {base : Heap} (T : Fs P K mg) : FnOk P w K mg base (L2.CX P w) 5 T.a_put_at T.f_put_at ["key", "path", "goal"] (spR K 3 mx_put_at) :=
  fn_okR (N := ["key", "path", "goal"]) (ps := ["key", "path", "goal"]) (m := bx_put_at) T.F_put_at sc_put_at (by decide) fun cdv A outer s H E hr =>
  (jrs_cons (jr_dropX (jx_call (okx_check_key T) (hr.mono (by decide)) tk_cx T.g_check_key T.F_check_key.kp T.b_check_key (ja_cons (je_var 0) ja_nil)))
  (jrs_cons (jr_dropX (jx_call (okx_check_path T) (hr.mono (by decide)) tk_cx T.g_check_path T.F_check_path.kp T.b_check_path (ja_cons (je_var 1) ja_nil)))
  (jrs_cons (jr_dropX (jx_call (okx_check_path T) (hr.mono (by decide)) tk_cx T.g_check_path T.F_check_path.kp T.b_check_path (ja_cons (je_var 2) ja_nil)))
  (jrs_one (jr_of (js_ret (je_if (jt_tru (je_call (ok_lies_under T) (hr.mono (by decide)) T.g_lies_under T.F_lies_under.kp T.b_lies_under (ja_cons (je_var 0) (ja_cons (je_var 1) ja_nil)))) (je_call (ok_replaced T) (hr.mono (by decide)) T.g_replaced T.F_replaced.kp T.b_replaced (ja_cons (je_var 0) (ja_cons (je_var 1) (ja_cons (je_var 2) ja_nil)))) je_non)))))))
abbrev s__law_pair_right : Stmt := topS 58
theorem sc__law_pair_right : FnScope ["_law_k", "_law_p", "_law_q", "_law_due", "_law_size", "_law_under", "_law_moved"] ["_law_k", "_law_p", "_law_q"] (defScope s__law_pair_right) := ⟨rfl, rfl, rfl, by decide +kernel, rfl, by decide +kernel, by decide +kernel⟩
def y1__law_pair_right : M := mCall 2 mx_is_under (mCons (mVar 0) (mCons (mVar 1) (mNil)))
def y2__law_pair_right : M := mCall 3 mx_put_at (mCons (mVar 0) (mCons (mVar 1) (mCons (mVar 2) (mNil))))
def y3__law_pair_right : M := mCallKP [1, 0] 2 mx_is_under (mCons (mVar 1) (mCons (mVar 0) (mNil)))
def y4__law_pair_right : M := mCallKP [1, 2, 0] 3 mx_put_at (mCons (mVar 2) (mCons (mVar 0) (mCons (mVar 1) (mNil))))
def b__law_pair_right : MS := sSeq (sAsg 3 (mLst (mCons (mC (.int 2)) (mCons (mC (.str "")) (mNil)))))
  (sSeq (sIf (mNot (mTru (mCall 2 m__law_is_key (mCons (mVar 0) (mCons (mC (.int 99)) (mNil)))))) (sAsg 3 (mLst (mCons (mC (.int 0)) (mCons (mCB dReprS (mCons (mVar 0) (mNil))) (mNil))))) (sIf (mNot (mTru (mCall 2 m__law_is_key (mCons (mVar 1) (mCons (mC (.int 3)) (mNil)))))) (sAsg 3 (mLst (mCons (mC (.int 1)) (mCons (mCB dReprS (mCons (mVar 1) (mNil))) (mNil))))) (sNext)))
  (sSeq (sIf (mTst (mOp dLt (mIx (mVar 3) (mC (.int 0))) (mC (.int 2)))) (sSeq (sIf (mTst (mOp dNe (mCaught (caughtOut tb__law_caught) y1__law_pair_right) (mVar 3))) (sRet false (mC (.bl false))) (sNext))
  (sSeq (sIf (mTst (mOp dNe (mCaught (caughtOut tb__law_caught) y2__law_pair_right) (mVar 3))) (sRet false (mC (.bl false))) (sNext))
  (sRet false (mOp dEq (mCaught (caughtOut tb__law_caught) y3__law_pair_right) (mVar 3))))) (sNext))
  (sSeq (sAsg 4 (mCB dLen (mCons (mMt dSplit (mVar 1) (mCons (mC (.str "/")) (mNil))) (mNil))))
  (sSeq (sAsg 5 (mOp dEq (mSl (mMt dSplit (mVar 0) (mCons (mC (.str "/")) (mNil))) (oNone) (oSome (mVar 4))) (mMt dSplit (mVar 1) (mCons (mC (.str "/")) (mNil)))))
  (sSeq (sIf (mTst (mOp dNe (mCB dReprS (mCons (mLst (mCons (mCall 2 m_is_under (mCons (mVar 0) (mCons (mVar 1) (mNil)))) (mCons (mCallKP [1, 0] 2 m_is_under (mCons (mVar 1) (mCons (mVar 0) (mNil)))) (mNil)))) (mNil))) (mCB dReprS (mCons (mLst (mCons (mVar 5) (mCons (mVar 5) (mNil)))) (mNil))))) (sRet false (mC (.bl false))) (sNext))
  (sSeq (sIf (mNot (mTru (mCall 2 m__law_is_key (mCons (mVar 2) (mCons (mC (.int 3)) (mNil)))))) (sRet false (mOp dEq (mCaught (caughtOut tb__law_caught) y4__law_pair_right) (mLst (mCons (mC (.int 1)) (mCons (mCB dReprS (mCons (mVar 2) (mNil))) (mNil)))))) (sNext))
  (sSeq (sAsg 6 (mIf (mTru (mVar 5)) (mMt dJoin (mC (.str "/")) (mCons (mOp dAdd (mMt dSplit (mVar 2) (mCons (mC (.str "/")) (mNil))) (mSl (mMt dSplit (mVar 0) (mCons (mC (.str "/")) (mNil))) (oSome (mVar 4)) (oNone))) (mNil))) (mC .non)))
  (sRet false (mOp dEq (mCB dReprS (mCons (mLst (mCons (mCall 3 m_put_at (mCons (mVar 0) (mCons (mVar 1) (mCons (mVar 2) (mNil))))) (mCons (mCallKP [2, 1, 0] 3 m_put_at (mCons (mVar 2) (mCons (mVar 1) (mCons (mVar 0) (mNil))))) (mNil)))) (mNil))) (mCB dReprS (mCons (mLst (mCons (mVar 6) (mCons (mVar 6) (mNil)))) (mNil))))))))))))
def m__law_pair_right : MF := runF 7 3 b__law_pair_right
theorem ok__law_pair_right {P : Program} {w : World} {K : PySem.W.Frag} {mg : Str → Option Value} {base : Heap} (T : Fs P K mg) (hC : CaughtOk) (hB : LB base T) : FnG P w K mg base 12 T.a__law_pair_right T.f__law_pair_right ["_law_k", "_law_p", "_law_q"] (spM K 3 m__law_pair_right) :=
  fn_okGC (N := ["_law_k", "_law_p", "_law_q", "_law_due", "_law_size", "_law_under", "_law_moved"]) (ps := ["_law_k", "_law_p", "_law_q"]) (m := b__law_pair_right) T.F__law_pair_right sc__law_pair_right (by decide) fun cdv A outer s H E hcd hr =>
  (jss_cons (js_asg (je_lst (ja_cons je_int (ja_cons je_str ja_nil))) sc__law_pair_right.nd)
  (jss_cons (js_if (jt_not (jt_tru (je_call (ok__law_is_key T) (hr.room.mono (by decide)) T.g__law_is_key T.F__law_is_key.kp T.b__law_is_key (ja_cons (je_var 0) (ja_cons je_int ja_nil))))) (jss_one (js_asg (je_lst (ja_cons je_int (ja_cons (je_callB (call_reprS hr.gd hr.units) cd_reprS T.n_repr bt_repr (ja_cons (je_var 0) ja_nil)) ja_nil))) sc__law_pair_right.nd)) (jss_one (js_if (jt_not (jt_tru (je_call (ok__law_is_key T) (hr.room.mono (by decide)) T.g__law_is_key T.F__law_is_key.kp T.b__law_is_key (ja_cons (je_var 1) (ja_cons je_int ja_nil))))) (jss_one (js_asg (je_lst (ja_cons je_int (ja_cons (je_callB (call_reprS hr.gd hr.units) cd_reprS T.n_repr bt_repr (ja_cons (je_var 1) ja_nil)) ja_nil))) sc__law_pair_right.nd)) jss_nil)))
  (jss_cons (js_if (jt_cmp op_ltD od_lt (je_ix hr.units (je_var 3) je_int) je_int (by rfl)) (jss_cons (js_if (jt_cmp (op_neX hr.units) od_ne (je_caught (k := 5) T.F__law_caught T.b__law_caught sc__law_caught rfl (.inl rfl) T.g__law_caught (fun cdg => gives__law_caught (X := (cxOf CX0 P w K mg base ["_law_k", "_law_p", "_law_q", "_law_due", "_law_size", "_law_under", "_law_moved"] "_law_pair_right" (defScope s__law_pair_right) T.a__law_pair_right cdv A outer s H E).nox) T hC hr.gd (hr.room.mono (by decide)) _ cdg) hB.tb__law_pair_right (hcd.symm.trans T.lcd__law_pair_right) hB.gt__law_pair_right (hr.room.mono (by decide)) (LamX.lamS_by (sc := defScope s__law_pair_right) (by decide +kernel)) (fun A outer s H E f c' hr => id (α := JX _ _ _ y1__law_pair_right) (jx_call (okx_is_under T) (hr.mono (by decide)) tk_lam T.g_is_under T.F_is_under.kp T.b_is_under (ja_cons (je_var 0) (ja_cons (je_var 1) ja_nil))))) (je_var 3) (by rfl)) (jss_one (js_ret je_bl)) jss_nil)
  (jss_cons (js_if (jt_cmp (op_neX hr.units) od_ne (je_caught (k := 5) T.F__law_caught T.b__law_caught sc__law_caught rfl (.inl rfl) T.g__law_caught (fun cdg => gives__law_caught (X := (cxOf CX0 P w K mg base ["_law_k", "_law_p", "_law_q", "_law_due", "_law_size", "_law_under", "_law_moved"] "_law_pair_right" (defScope s__law_pair_right) T.a__law_pair_right cdv A outer s H E).nox) T hC hr.gd (hr.room.mono (by decide)) _ cdg) hB.tb__law_pair_right (hcd.symm.trans T.lcd__law_pair_right) hB.gt__law_pair_right (hr.room.mono (by decide)) (LamX.lamS_by (sc := defScope s__law_pair_right) (by decide +kernel)) (fun A outer s H E f c' hr => id (α := JX _ _ _ y2__law_pair_right) (jx_call (okx_put_at T) (hr.mono (by decide)) tk_lam T.g_put_at T.F_put_at.kp T.b_put_at (ja_cons (je_var 0) (ja_cons (je_var 1) (ja_cons (je_var 2) ja_nil)))))) (je_var 3) (by rfl)) (jss_one (js_ret je_bl)) jss_nil)
  (jss_one (js_ret (je_cmp (op_eqX hr.units) od_eq (je_caught (k := 5) T.F__law_caught T.b__law_caught sc__law_caught rfl (.inl rfl) T.g__law_caught (fun cdg => gives__law_caught (X := (cxOf CX0 P w K mg base ["_law_k", "_law_p", "_law_q", "_law_due", "_law_size", "_law_under", "_law_moved"] "_law_pair_right" (defScope s__law_pair_right) T.a__law_pair_right cdv A outer s H E).nox) T hC hr.gd (hr.room.mono (by decide)) _ cdg) hB.tb__law_pair_right (hcd.symm.trans T.lcd__law_pair_right) hB.gt__law_pair_right (hr.room.mono (by decide)) (LamX.lamS_by (sc := defScope s__law_pair_right) (by decide +kernel)) (fun A outer s H E f c' hr => id (α := JX _ _ _ y3__law_pair_right) (jx_callKP (okx_is_under T) (hr.mono (by decide)) tk_lam T.g_is_under T.F_is_under.kp T.kp0_is_under (jk_cons (je_var 1) (jk_cons (je_var 0) jk_nil)) (by decide)))) (je_var 3) (by rfl)))))) jss_nil)
  (jss_cons (js_asg (je_callB call_lenA cd_len T.n_len bt_len (ja_cons (je_split (je_var 1) (ja_cons je_str ja_nil)) ja_nil)) sc__law_pair_right.nd)
  (jss_cons (js_asg (je_cmp (op_eqX hr.units) od_eq (je_sl (je_split (je_var 0) (ja_cons je_str ja_nil)) jo_none (jo_some (je_var 4))) (je_split (je_var 1) (ja_cons je_str ja_nil)) (by rfl)) sc__law_pair_right.nd)
  (jss_cons (js_if (jt_cmp (op_neX hr.units) od_ne (je_callB (call_reprS hr.gd hr.units) cd_reprS T.n_repr bt_repr (ja_cons (je_lst (ja_cons (je_call (ok_is_under T) (hr.room.mono (by decide)) T.g_is_under T.F_is_under.kp T.b_is_under (ja_cons (je_var 0) (ja_cons (je_var 1) ja_nil))) (ja_cons (je_callKP (ok_is_under T) (hr.room.mono (by decide)) T.g_is_under T.F_is_under.kp T.kp0_is_under (jk_cons (je_var 1) (jk_cons (je_var 0) jk_nil)) (by decide)) ja_nil))) ja_nil)) (je_callB (call_reprS hr.gd hr.units) cd_reprS T.n_repr bt_repr (ja_cons (je_lst (ja_cons (je_var 5) (ja_cons (je_var 5) ja_nil))) ja_nil)) (by rfl)) (jss_one (js_ret je_bl)) jss_nil)
  (jss_cons (js_if (jt_not (jt_tru (je_call (ok__law_is_key T) (hr.room.mono (by decide)) T.g__law_is_key T.F__law_is_key.kp T.b__law_is_key (ja_cons (je_var 2) (ja_cons je_int ja_nil))))) (jss_one (js_ret (je_cmp (op_eqX hr.units) od_eq (je_caught (k := 5) T.F__law_caught T.b__law_caught sc__law_caught rfl (.inl rfl) T.g__law_caught (fun cdg => gives__law_caught (X := (cxOf CX0 P w K mg base ["_law_k", "_law_p", "_law_q", "_law_due", "_law_size", "_law_under", "_law_moved"] "_law_pair_right" (defScope s__law_pair_right) T.a__law_pair_right cdv A outer s H E).nox) T hC hr.gd (hr.room.mono (by decide)) _ cdg) hB.tb__law_pair_right (hcd.symm.trans T.lcd__law_pair_right) hB.gt__law_pair_right (hr.room.mono (by decide)) (LamX.lamS_by (sc := defScope s__law_pair_right) (by decide +kernel)) (fun A outer s H E f c' hr => id (α := JX _ _ _ y4__law_pair_right) (jx_callKP (okx_put_at T) (hr.mono (by decide)) tk_lam T.g_put_at T.F_put_at.kp T.kp0_put_at (jk_cons (je_var 2) (jk_cons (je_var 0) (jk_cons (je_var 1) jk_nil))) (by decide)))) (je_lst (ja_cons je_int (ja_cons (je_callB (call_reprS hr.gd hr.units) cd_reprS T.n_repr bt_repr (ja_cons (je_var 2) ja_nil)) ja_nil))) (by rfl)))) jss_nil)
  (jss_cons (js_asg (je_if (jt_tru (je_var 5)) (je_join je_str (ja_cons (je_op op_addD od_add (je_split (je_var 2) (ja_cons je_str ja_nil)) (je_sl (je_split (je_var 0) (ja_cons je_str ja_nil)) (jo_some (je_var 4)) jo_none)) ja_nil)) je_non) sc__law_pair_right.nd)
  (jss_one (js_ret (je_cmp (op_eqX hr.units) od_eq (je_callB (call_reprS hr.gd hr.units) cd_reprS T.n_repr bt_repr (ja_cons (je_lst (ja_cons (je_call (ok_put_at T) (hr.room.mono (by decide)) T.g_put_at T.F_put_at.kp T.b_put_at (ja_cons (je_var 0) (ja_cons (je_var 1) (ja_cons (je_var 2) ja_nil)))) (ja_cons (je_callKP (ok_put_at T) (hr.room.mono (by decide)) T.g_put_at T.F_put_at.kp T.kp1_put_at (jk_cons (je_var 2) (jk_cons (je_var 1) (jk_cons (je_var 0) jk_nil))) (by decide)) ja_nil))) ja_nil)) (je_callB (call_reprS hr.gd hr.units) cd_reprS T.n_repr bt_repr (ja_cons (je_lst (ja_cons (je_var 6) (ja_cons (je_var 6) ja_nil))) ja_nil)) (by rfl))))))))))))
abbrev s__law_right : Stmt := topS 59
theorem sc__law_right : FnScope ["_law_pool_here", "_law_turn", "_law_thing_here", "_law_word_here", "_law_each", "_law_due", "_law_some", "_law_p", "_law_q", "_law_tail", "_law_near"] ["_law_pool_here"] (defScope s__law_right) := ⟨rfl, rfl, rfl, by decide +kernel, rfl, by decide +kernel, by decide +kernel⟩
def l1__law_right : MS := sSeq (sAsg 5 (mCB dReprS (mCons (mLst (mCons (mCall 1 m__law_is_name (mCons (mVar 4) (mNil))) (mCons (mCall 2 m__law_is_key (mCons (mVar 4) (mCons (mC (.int 99)) (mNil)))) (mCons (mCall 2 m__law_is_key (mCons (mVar 4) (mCons (mC (.int 3)) (mNil)))) (mNil))))) (mNil))))
  (sSeq (sIf (mTst (mOp dNe (mCB dReprS (mCons (mLst (mCons (mCall 1 m_is_name (mCons (mVar 4) (mNil))) (mCons (mCall 1 m_is_key (mCons (mVar 4) (mNil))) (mCons (mCall 1 m_is_path (mCons (mVar 4) (mNil))) (mNil))))) (mNil))) (mVar 5))) (sRet false (mC (.bl false))) (sNext))
  (sIf (mTst (mOp dNe (mCB dReprS (mCons (mLst (mCons (mCall 1 m_is_name (mCons (mVar 4) (mNil))) (mCons (mCall 1 m_is_key (mCons (mVar 4) (mNil))) (mCons (mCall 1 m_is_path (mCons (mVar 4) (mNil))) (mNil))))) (mNil))) (mVar 5))) (sRet false (mC (.bl false))) (sNext)))
def l2__law_right : MS := sSeq (sPar 2 3 (mCons (mCall 1 m__law_thing (mCons (mVar 0) (mNil))) (mCons (mCall 1 m__law_word (mCons (mVar 0) (mNil))) (mNil))))
  (sSeq (sFor false (mItems (mLst (mCons (mVar 2) (mCons (mVar 3) (mNil))))) (gsN 4) l1__law_right)
  (sSeq (sAsg 6 (mCall 1 m__law_names (mCons (mVar 0) (mNil))))
  (sSeq (sPar3 7 8 9 (mCons (mCall 3 m__law_path (mCons (mVar 0) (mCons (mVar 6) (mCons (mC (.int 4)) (mNil))))) (mCons (mCall 3 m__law_path (mCons (mVar 0) (mCons (mVar 6) (mCons (mC (.int 4)) (mNil))))) (mCons (mCall 3 m__law_path (mCons (mVar 0) (mCons (mVar 6) (mCons (mC (.int 3)) (mNil))))) (mNil)))))
  (sSeq (sAsg 10 (mIx (mLst (mCons (mOp dAdd (mOp dAdd (mVar 7) (mC (.str "/"))) (mVar 9)) (mCons (mVar 7) (mCons (mOp dAdd (mVar 7) (mC (.str "a"))) (mCons (mSl (mVar 7) (oNone) (oSome (mUn dNeg (mC (.int 1))))) (mCons (mOp dAdd (mOp dAdd (mVar 7) (mC (.str "a/"))) (mVar 9)) (mCons (mVar 9) (mCons (mVar 2) (mNil))))))))) (mCall 2 m__law_draw (mCons (mVar 0) (mCons (mC (.int 7)) (mNil))))))
  (sIf (mOr (mNot (mTru (mCall 3 m__law_pair_right (mCons (mVar 10) (mCons (mVar 7) (mCons (mVar 8) (mNil))))))) (mOr (mNot (mTru (mCall 3 m__law_pair_right (mCons (mVar 10) (mCons (mVar 2) (mCons (mVar 8) (mNil))))))) (mNot (mTru (mCall 3 m__law_pair_right (mCons (mVar 7) (mCons (mVar 8) (mCons (mVar 2) (mNil))))))))) (sRet false (mC (.bl false))) (sNext))))))
def b__law_right : MS := sSeq (sFor false (mRng1 (mCons (mC (.int 8)) (mNil))) (gsN 1) l2__law_right)
  (sRet false (mC (.bl true)))
def m__law_right : MF := runF 11 1 b__law_right
theorem ok__law_right {P : Program} {w : World} {K : PySem.W.Frag} {mg : Str → Option Value} {base : Heap} (T : Fs P K mg) (hC : CaughtOk) (hB : LB base T) : FnG P w K mg base 15 T.a__law_right T.f__law_right ["_law_pool_here"] (spM K 1 m__law_right) :=
  fn_okG (N := ["_law_pool_here", "_law_turn", "_law_thing_here", "_law_word_here", "_law_each", "_law_due", "_law_some", "_law_p", "_law_q", "_law_tail", "_law_near"]) (ps := ["_law_pool_here"]) (m := b__law_right) T.F__law_right sc__law_right (by decide) fun cdv A outer s H E hr =>
  (jss_cons (js_for PassesOwn.never rfl (ji_rng1 (ja_cons je_int ja_nil) T.n_range) (pg_name (i := 1) sc__law_right.nd rfl (.inl rfl)) (tgs_name 1) (id (α := JSs _ _ _ l2__law_right) (jss_cons (js_par rfl sc__law_right.nd (ja_cons (je_call (ok__law_thing T) (hr.room.mono (by decide)) T.g__law_thing T.F__law_thing.kp T.b__law_thing (ja_cons (je_var 0) ja_nil)) (ja_cons (je_call (ok__law_word T) (hr.room.mono (by decide)) T.g__law_word T.F__law_word.kp T.b__law_word (ja_cons (je_var 0) ja_nil)) ja_nil)))
  (jss_cons (js_for PassesOwn.never rfl (ji_e (je_lst (ja_cons (je_var 2) (ja_cons (je_var 3) ja_nil)))) (pg_name (i := 4) sc__law_right.nd rfl (.inl rfl)) (tgs_name 4) (id (α := JSs _ _ _ l1__law_right) (jss_cons (js_asg (je_callB (call_reprS hr.gd hr.units) cd_reprS T.n_repr bt_repr (ja_cons (je_lst (ja_cons (je_call (ok__law_is_name T) (hr.room.mono (by decide)) T.g__law_is_name T.F__law_is_name.kp T.b__law_is_name (ja_cons (je_var 4) ja_nil)) (ja_cons (je_call (ok__law_is_key T) (hr.room.mono (by decide)) T.g__law_is_key T.F__law_is_key.kp T.b__law_is_key (ja_cons (je_var 4) (ja_cons je_int ja_nil))) (ja_cons (je_call (ok__law_is_key T) (hr.room.mono (by decide)) T.g__law_is_key T.F__law_is_key.kp T.b__law_is_key (ja_cons (je_var 4) (ja_cons je_int ja_nil))) ja_nil)))) ja_nil)) sc__law_right.nd)
  (jss_cons (js_if (jt_cmp (op_neX hr.units) od_ne (je_callB (call_reprS hr.gd hr.units) cd_reprS T.n_repr bt_repr (ja_cons (je_lst (ja_cons (je_call (ok_is_name T) (hr.room.mono (by decide)) T.g_is_name T.F_is_name.kp T.b_is_name (ja_cons (je_var 4) ja_nil)) (ja_cons (je_call (ok_is_key T) (hr.room.mono (by decide)) T.g_is_key T.F_is_key.kp T.b_is_key (ja_cons (je_var 4) ja_nil)) (ja_cons (je_call (ok_is_path T) (hr.room.mono (by decide)) T.g_is_path T.F_is_path.kp T.b_is_path (ja_cons (je_var 4) ja_nil)) ja_nil)))) ja_nil)) (je_var 5) (by rfl)) (jss_one (js_ret je_bl)) jss_nil)
  (jss_one (js_if (jt_cmp (op_neX hr.units) od_ne (je_callB (call_reprS hr.gd hr.units) cd_reprS T.n_repr bt_repr (ja_cons (je_lst (ja_cons (je_callK0 (ok_is_name T) (hr.room.mono (by decide)) T.g_is_name T.F_is_name.kp T.kw_is_name (jk_cons (je_var 4) jk_nil)) (ja_cons (je_callK0 (ok_is_key T) (hr.room.mono (by decide)) T.g_is_key T.F_is_key.kp T.kw_is_key (jk_cons (je_var 4) jk_nil)) (ja_cons (je_callK0 (ok_is_path T) (hr.room.mono (by decide)) T.g_is_path T.F_is_path.kp T.kw_is_path (jk_cons (je_var 4) jk_nil)) ja_nil)))) ja_nil)) (je_var 5) (by rfl)) (jss_one (js_ret je_bl)) jss_nil))))))
  (jss_cons (js_asg (je_call (ok__law_names T) (hr.room.mono (by decide)) T.g__law_names T.F__law_names.kp T.b__law_names (ja_cons (je_var 0) ja_nil)) sc__law_right.nd)
  (jss_cons (js_par3 rfl sc__law_right.nd (ja_cons (je_call (ok__law_path T) (hr.room.mono (by decide)) T.g__law_path T.F__law_path.kp T.b__law_path (ja_cons (je_var 0) (ja_cons (je_var 6) (ja_cons je_int ja_nil)))) (ja_cons (je_call (ok__law_path T) (hr.room.mono (by decide)) T.g__law_path T.F__law_path.kp T.b__law_path (ja_cons (je_var 0) (ja_cons (je_var 6) (ja_cons je_int ja_nil)))) (ja_cons (je_call (ok__law_path T) (hr.room.mono (by decide)) T.g__law_path T.F__law_path.kp T.b__law_path (ja_cons (je_var 0) (ja_cons (je_var 6) (ja_cons je_int ja_nil)))) ja_nil))))
  (jss_cons (js_asg (je_ix hr.units (je_lst (ja_cons (je_op op_addD od_add (je_op op_addD od_add (je_var 7) je_str) (je_var 9)) (ja_cons (je_var 7) (ja_cons (je_op op_addD od_add (je_var 7) je_str) (ja_cons (je_sl (je_var 7) jo_none (jo_some (je_un un_neg ud_neg je_int))) (ja_cons (je_op op_addD od_add (je_op op_addD od_add (je_var 7) je_str) (je_var 9)) (ja_cons (je_var 9) (ja_cons (je_var 2) ja_nil)))))))) (je_call (ok__law_draw T) (hr.room.mono (by decide)) T.g__law_draw T.F__law_draw.kp T.b__law_draw (ja_cons (je_var 0) (ja_cons je_int ja_nil)))) sc__law_right.nd)
  (jss_one (js_if (JW.jt (jw_or (jt_not (jt_tru (je_callG (ok__law_pair_right T hC hB) (hr.mono (by decide)) T.g__law_pair_right T.F__law_pair_right.kp T.b__law_pair_right (ja_cons (je_var 10) (ja_cons (je_var 7) (ja_cons (je_var 8) ja_nil)))))) (jw_or (jt_not (jt_tru (je_callG (ok__law_pair_right T hC hB) (hr.mono (by decide)) T.g__law_pair_right T.F__law_pair_right.kp T.b__law_pair_right (ja_cons (je_var 10) (ja_cons (je_var 2) (ja_cons (je_var 8) ja_nil)))))) (jw_or1 (jt_not (jt_tru (je_callG (ok__law_pair_right T hC hB) (hr.mono (by decide)) T.g__law_pair_right T.F__law_pair_right.kp T.b__law_pair_right (ja_cons (je_var 7) (ja_cons (je_var 8) (ja_cons (je_var 2) ja_nil)))))))))) (jss_one (js_ret je_bl)) jss_nil)))))))))
  (jss_one (js_ret je_bl)))
abbrev s__law_pool : Stmt := topS 47
theorem sc__law_pool : FnScope ["_law_cell_here", "_law_figures"] ["_law_cell_here"] (defScope s__law_pool) := ⟨rfl, rfl, rfl, by decide +kernel, rfl, by decide +kernel, by decide +kernel⟩
def b__law_pool : MSl := rSeq (sAsg 1 (mIf (mOr (mTst (mOp dLt (mVar 0) (mC (.int 0)))) (mTst (mOp dGe (mVar 0) (mOp dPow (mC (.int 10)) (mC (.int 18)))))) (mCB dAbs (mCons (mVar 0) (mNil))) (mC (.int 0))))
  (rRet (mFresh (mCons (mOp dMod (mCB dIntA (mCons (mVar 0) (mNil))) (mC (.int 2147482873))) (mCons (mVar 1) (mCons (mC (.int 0)) (mNil))))))
def m__law_pool : MFl := runR 2 1 b__law_pool
theorem ok__law_pool {P : Program} {w : World} {K : PySem.W.Frag} {mg : Str → Option Value} {base : Heap} (T : Fs P K mg) : FnOk P w K mg base CX0 1 T.a__law_pool T.f__law_pool ["_law_cell_here"] (spFr K 1 m__law_pool) :=
  fn_okFr (N := ["_law_cell_here", "_law_figures"]) (ps := ["_law_cell_here"]) (m := b__law_pool) T.F__law_pool sc__law_pool (by decide) fun cdv A outer s H E hr =>
  (jr_cons (js_asg (je_if (JW.jt (jw_or (jt_cmp op_ltD od_lt (je_var 0) je_int (by rfl)) (jw_or1 (jt_cmp op_geD od_ge (je_var 0) (je_op op_pow od_pow je_int je_int) (by rfl))))) (je_callB call_abs cd_abs T.n_abs bt_abs (ja_cons (je_var 0) ja_nil)) je_int) sc__law_pool.nd)
  (jr_ret (jf_lst (ja_cons (je_op op_mod od_mod (je_callTy call_intA cd_intA T.n_int bt_int (ja_cons (je_var 0) ja_nil)) je_int) (ja_cons (je_var 1) (ja_cons je_int ja_nil))))))
abbrev s__law_cell : Stmt := topS 46
theorem sc__law_cell : FnScope ["_law_cells", "_law_k", "_law_seed", "_law_part_here"] ["_law_cells", "_law_k"] (defScope s__law_cell) := ⟨rfl, rfl, rfl, by decide +kernel, rfl, by decide +kernel, by decide +kernel⟩
def l1__law_cell : MS := sAsg 2 (mOp dMod (mCB dIntA (mCons (mOp dAdd (mOp dMulC (mVar 2) (mC (.int 44017))) (mVar 3)) (mNil))) (mC (.int 2147482873)))
def b__law_cell : MS := sSeq (sIf (mTst (mOp dLt (mVar 1) (mCB dLen (mCons (mVar 0) (mNil))))) (sRet false (mIx (mVar 0) (mVar 1))) (sNext))
  (sSeq (sAsg 2 (mOp dMod (mCB dIntA (mCons (mOp dMulC (mC (.int 59753)) (mOp dAdd (mOp dAdd (mOp dMulC (mVar 1) (mVar 1)) (mOp dMulC (mC (.int 13)) (mVar 1))) (mC (.int 29)))) (mNil))) (mC (.int 2147482873))))
  (sSeq (sFor false (mItems (mSl (mVar 0) (oNone) (oSome (mC (.int 3))))) (gsN 3) l1__law_cell)
  (sRet false (mVar 2))))
def m__law_cell : MF := runF 4 2 b__law_cell
theorem ok__law_cell {P : Program} {w : World} {K : PySem.W.Frag} {mg : Str → Option Value} {base : Heap} (T : Fs P K mg) : FnOk P w K mg base CX0 1 T.a__law_cell T.f__law_cell ["_law_cells", "_law_k"] (spM K 2 m__law_cell) :=
  fn_ok (N := ["_law_cells", "_law_k", "_law_seed", "_law_part_here"]) (ps := ["_law_cells", "_law_k"]) (m := b__law_cell) T.F__law_cell sc__law_cell (by decide) fun cdv A outer s H E hr =>
  (jss_cons (js_if (jt_cmp op_ltD od_lt (je_var 1) (je_callB call_lenA cd_len T.n_len bt_len (ja_cons (je_var 0) ja_nil)) (by rfl)) (jss_one (js_ret (je_ix hr.units (je_var 0) (je_var 1)))) jss_nil)
  (jss_cons (js_asg (je_op op_mod od_mod (je_callTy call_intA cd_intA T.n_int bt_int (ja_cons (je_op op_mulC od_mulC je_int (je_op op_addD od_add (je_op op_addD od_add (je_op op_mulC od_mulC (je_var 1) (je_var 1)) (je_op op_mulC od_mulC je_int (je_var 1))) je_int)) ja_nil)) je_int) sc__law_cell.nd)
  (jss_cons (js_for PassesOwn.never rfl (ji_e (je_sl (je_var 0) jo_none (jo_some je_int))) (pg_name (i := 3) sc__law_cell.nd rfl (.inl rfl)) (tgs_name 3) (id (α := JSs _ _ _ l1__law_cell) (jss_one (js_asg (je_op op_mod od_mod (je_callTy call_intA cd_intA T.n_int bt_int (ja_cons (je_op op_addD od_add (je_op op_mulC od_mulC (je_var 2) je_int) (je_var 3)) ja_nil)) je_int) sc__law_cell.nd))))
  (jss_one (js_ret (je_var 2))))))
abbrev s_law : Stmt := topS 60
theorem sc_law : FnScope ["_law_cells", "_law_odd", "_law_told", "_law_each", "_law_k"] ["_law_cells"] (defScope s_law) := ⟨rfl, rfl, rfl, by decide +kernel, rfl, by decide +kernel, by decide +kernel⟩
def c1_lawt : MB := tYesM
def c1_law : M := mLst (mCons (mCall 1 m_is_name (mCons (mVar 3) (mNil))) (mCons (mCall 1 m_is_key (mCons (mVar 3) (mNil))) (mCons (mCall 1 m_is_path (mCons (mVar 3) (mNil))) (mNil))))
def c2_lawt : MB := tYesM
def c2_law : M := mLst (mCons (mCall 1 m__law_is_name (mCons (mVar 3) (mNil))) (mCons (mCall 2 m__law_is_key (mCons (mVar 3) (mCons (mC (.int 99)) (mNil)))) (mCons (mCall 2 m__law_is_key (mCons (mVar 3) (mCons (mC (.int 3)) (mNil)))) (mNil))))
def c3_lawt : MB := tYesM
def c3_law : M := mCallP m__law_right (mCallF 1 m__law_pool (mCons (mCall 2 m__law_cell (mCons (mVar 0) (mCons (mVar 4) (mNil)))) (mNil)))
def b_law : MS := sSeq (sAsg 1 (mLst (mCons (mC (.str "server/port")) (mCons (mC (.str "/port")) (mCons (mC (.str "port/")) (mCons (mC (.str "a//b")) (mCons (mC (.str "")) (mCons (mC (.str "/")) (mCons (mC (.str "A")) (mCons (mC (.str "a b")) (mCons (mC (.str "abcdefgh")) (mCons (mC (.str "abcdefghi")) (mCons (mC (.str "a/b/c")) (mCons (mC (.str "a/b/c/d")) (mNil)))))))))))))))
  (sSeq (sAsg 2 (mOfF (mLc [3] (mItems (mVar 1)) (gN 3) c1_lawt c1_law)))
  (sSeq (sIf (mTst (mOp dNe (mCB dReprS (mCons (mVar 2) (mNil))) (mCB dReprS (mCons (mOfF (mLc [3] (mItems (mVar 1)) (gN 3) c2_lawt c2_law)) (mNil))))) (sRet true (mC (.bl false))) (sNext))
  (sRet true (mCB dAll (mCons (mOfF (mLc [4] (mRng1 (mCons (mCB dMax2 (mCons (mC (.int 2)) (mCons (mCB dMin2 (mCons (mCB dLen (mCons (mVar 0) (mNil))) (mCons (mC (.int 6)) (mNil)))) (mNil)))) (mNil))) (gN 4) c3_lawt c3_law)) (mNil))))))
def m_law : MF := runF 5 1 b_law
theorem ok_law {P : Program} {w : World} {K : PySem.W.Frag} {mg : Str → Option Value} {base : Heap} (T : Fs P K mg) (hC : CaughtOk) (hB : LB base T) : FnG P w K mg base 18 T.a_law T.f_law ["_law_cells"] (spL K 1 m_law) :=
  fn_okLG (N := ["_law_cells", "_law_odd", "_law_told", "_law_each", "_law_k"]) (ps := ["_law_cells"]) (m := b_law) T.F_law sc_law (by decide) fun cdv A outer s H E hr =>
  (jss_cons (js_asg (je_lst (ja_cons je_str (ja_cons je_str (ja_cons je_str (ja_cons je_str (ja_cons je_str (ja_cons je_str (ja_cons je_str (ja_cons je_str (ja_cons je_str (ja_cons je_str (ja_cons je_str (ja_cons je_str ja_nil))))))))))))) sc_law.nd)
  (jss_cons (js_setLc (mt := c1_lawt) (me := c1_law) ["_law_cells", "_law_odd", "_law_told", "_law_each", "_law_k"] (defScope s_law) [("_law_each", 3)] rfl sc_law.nd (ji_e (je_var 1)) (blkOk_by (by decide +kernel)) (fun _ _ _ _ _ => (pg_name (i := 3) sc_law.nd rfl (.inl rfl))) (tg_name 3) (by decide) (fun _ _ _ _ _ => jts_nil) (fun _ _ _ _ _ => (je_lst (ja_cons (je_call (ok_is_name T) (hr.room.mono (by decide)) T.g_is_name T.F_is_name.kp T.b_is_name (ja_cons (je_var 3) ja_nil)) (ja_cons (je_call (ok_is_key T) (hr.room.mono (by decide)) T.g_is_key T.F_is_key.kp T.b_is_key (ja_cons (je_var 3) ja_nil)) (ja_cons (je_call (ok_is_path T) (hr.room.mono (by decide)) T.g_is_path T.F_is_path.kp T.b_is_path (ja_cons (je_var 3) ja_nil)) ja_nil))))))
  (jss_cons (js_if (jt_cmp (op_neX hr.units) od_ne (je_callB (call_reprS hr.gd hr.units) cd_reprS T.n_repr bt_repr (ja_cons (je_var 2) ja_nil)) (je_callB (call_reprS hr.gd hr.units) cd_reprS T.n_repr bt_repr (ja_cons (JF.je (jf_lcN (mt := c2_lawt) (me := c2_law) ["_law_cells", "_law_odd", "_law_told", "_law_each", "_law_k"] (defScope s_law) [("_law_each", 3)] rfl sc_law.nd (ji_e (je_var 1)) (blkOk_by (by decide +kernel)) (fun _ _ _ _ _ => (pg_name (i := 3) sc_law.nd rfl (.inl rfl))) (tg_name 3) (by decide) (fun _ _ _ _ _ => jts_nil) (fun _ _ _ _ _ => (je_lst (ja_cons (je_call (ok__law_is_name T) (hr.room.mono (by decide)) T.g__law_is_name T.F__law_is_name.kp T.b__law_is_name (ja_cons (je_var 3) ja_nil)) (ja_cons (je_call (ok__law_is_key T) (hr.room.mono (by decide)) T.g__law_is_key T.F__law_is_key.kp T.b__law_is_key (ja_cons (je_var 3) (ja_cons je_int ja_nil))) (ja_cons (je_call (ok__law_is_key T) (hr.room.mono (by decide)) T.g__law_is_key T.F__law_is_key.kp T.b__law_is_key (ja_cons (je_var 3) (ja_cons je_int ja_nil))) ja_nil))))))) ja_nil)) (by rfl)) (jss_one (js_ret je_bl)) jss_nil)
  (jss_one (js_ret (je_callB (cr_all rfl) cd_all T.n_all bt_all (ja_cons (JF.je (jf_lcN (mt := c3_lawt) (me := c3_law) ["_law_cells", "_law_odd", "_law_told", "_law_each", "_law_k"] (defScope s_law) [("_law_k", 4)] rfl sc_law.nd (ji_rng1 (ja_cons (je_callB (call_max2 rfl) cd_max2 T.n_max bt_max (ja_cons je_int (ja_cons (je_callB (call_min2 rfl) cd_min2 T.n_min bt_min (ja_cons (je_callB call_lenA cd_len T.n_len bt_len (ja_cons (je_var 0) ja_nil)) (ja_cons je_int ja_nil))) ja_nil))) ja_nil) T.n_range) (blkOk_by (by decide +kernel)) (fun _ _ _ _ _ => (pg_name (i := 4) sc_law.nd rfl (.inl rfl))) (tg_name 4) (by decide) (fun _ _ _ _ _ => jts_nil) (fun _ _ _ _ _ => (je_callPG (ok__law_right T hC hB) (hr.mono (by decide)) T.g__law_right T.F__law_right.kp T.b__law_right (jf_call (ok__law_pool T) (hr.room.mono (by decide)) T.g__law_pool T.F__law_pool.kp T.b__law_pool (ja_cons (je_call (ok__law_cell T) (hr.room.mono (by decide)) T.g__law_cell T.F__law_cell.kp T.b__law_cell (ja_cons (je_var 0) (ja_cons (je_var 4) ja_nil))) ja_nil)))))) ja_nil)))))))
end
end K01
namespace Tx
variable [Dt.GTab]
open PySem PySem.Spec PyProof.Rows L2 Dt
theorem sx_bl (b : Bool) : Sx 0 5 (.bl b) := ⟨.bool b, by simp [toPy], by simp [PyData.showable], by simp [PyData.hasDict], by simp [PyData.depth], by cases b <;> decide +kernel⟩
theorem repr_bls {bs : List Bool} (h : bs.length ≤ 100) : ∃ s, dReprS [.lst (bs.map .bl)] = some (.str s) := by
  refine reprS_of (sx_lst (k := 0) (n := 5) (m := 100) (fun d hd => ?_) (by rw [List.length_map]; exact h)) (by decide) (by decide)
  obtain ⟨b, _, rfl⟩ := List.mem_map.mp hd
  exact sx_bl b
end Tx
namespace K01
variable [Dt.GTab]
open PySem PySem.Spec PyProof.Rows L2 Dt Tx
local macro_rules
  | `(tactic| walk_at "VC") => `(tactic| repeat (first
        | (with_reducible refine si_raise ?_)
        | (with_reducible refine si_seq ?_)
        | (with_reducible refine si_for ?_)
        | (with_reducible refine si_forX ?_)
        | ((with_reducible apply si_app); rfl)
        | (with_reducible refine si_pool ?_)
        | (with_reducible refine si_asg ?_)
        | (with_reducible refine si_asgV ?_)
        | (with_reducible refine si_new ?_)
        | (with_reducible refine si_drop ?_)
        | (with_reducible refine si_ret ?_)
        | (with_reducible refine si_retX ?_)
        | (with_reducible refine si_if ?_)
        | ((with_reducible apply si_aug); rfl)
        | (with_reducible refine si_par ?_)
        | (with_reducible refine si_parO ?_)
        | (with_reducible refine si_asgG ?_)
        | (with_reducible refine si_next ?_)
        | (with_reducible refine si_brk ?_)
        | (with_reducible refine si_cnt ?_)
        | (with_reducible refine si_retN ?_)
        | ((with_reducible apply si_catO); rfl)
        | (with_reducible refine si_par3 ?_)
        | ((with_reducible apply si_shr); rfl)
        | ((with_reducible apply wi_var); rfl)
        | (with_reducible refine wi_c ?_)
        | (with_reducible refine wi_op ?_)
        | (with_reducible refine wi_un ?_)
        | (with_reducible refine wi_nil ?_)
        | (with_reducible refine wi_cons ?_)
        | (with_reducible refine wi_cb ?_)
        | (with_reducible refine wi_mt ?_)
        | (with_reducible refine wi_tst ?_)
        | (with_reducible refine wi_tru ?_)
        | (with_reducible refine wi_and ?_)
        | (with_reducible refine wi_or ?_)
        | (with_reducible refine wi_not ?_)
        | (with_reducible refine wi_if ?_)
        | (with_reducible refine wi_andV ?_)
        | (with_reducible refine wi_orV ?_)
        | (with_reducible refine wi_notV ?_)
        | (with_reducible refine wi_tup ?_)
        | (with_reducible refine wi_lst ?_)
        | (with_reducible refine wi_ofF ?_)
        | (with_reducible refine wi_fresh ?_)
        | (with_reducible refine wi_isi ?_)
        | (with_reducible refine wi_sl ?_)
        | (with_reducible refine wi_oNone ?_)
        | (with_reducible refine wi_oSome ?_)
        | (with_reducible refine wi_call ?_)
        | (with_reducible refine wi_callF ?_)
        | (with_reducible refine wi_items ?_)
        | (with_reducible refine wi_lc ?_)
        | (with_reducible refine wi_star ?_)
        | (with_reducible refine wi_ix ?_)
        | (with_reducible refine wi_chain ?_)
        | (with_reducible refine wi_rng1 ?_)
        | (with_reducible refine wi_rng2 ?_)
        | (with_reducible refine wi_enum ?_)
        | (with_reducible refine wi_enumT ?_)
        | (with_reducible refine wi_zip ?_)
        | (with_reducible refine wi_zipK ?_)
        | (with_reducible refine wi_yes ?_)
        | (with_reducible refine wi_enumA ?_)
        | (with_reducible refine wi_slt ?_)
        | (with_reducible refine wi_isiC ?_)
        | (with_reducible refine wi_prop ?_)
        | (with_reducible refine wi_callP ?_)
        | (with_reducible refine wi_dc ?_)
        | (with_reducible refine wi_sortIt ?_)
        | (with_reducible refine wi_listIt ?_)
        | (with_reducible refine wi_isiA ?_)
        | (with_reducible refine wi_isiO ?_)
        | (with_reducible refine wi_own1 ?_)
        | (with_reducible refine wi_subOwn ?_)
        | (with_reducible refine wi_inOwn ?_)
        | (with_reducible refine wi_meth ?_)
        | (with_reducible refine wi_methK ?_)
        | (with_reducible refine wi_js0 ?_)
        | (with_reducible refine wi_js ?_)
        | (with_reducible refine wi_disp ?_)
        | (with_reducible refine wi_pairs0 ?_)
        | (with_reducible refine wi_pairs ?_)
        | (with_reducible refine wi_eqOwn ?_)
        | (with_reducible refine wi_truK ?_)
        | (with_reducible refine wi_fg ?_)
        | (with_reducible refine wi_isE ?_)
        | (with_reducible refine wi_caught ?_)
        | (with_reducible refine star_l ?_)
        | (with_reducible refine star_t ?_)
        | (with_reducible refine (pr2 (x := _) (y := _)).mpr ?_)
        | (with_reducible refine ⟨_, ev_eqS, ?_⟩)
        | (with_reducible refine ⟨_, ev_neS, ?_⟩)
        | (with_reducible refine ⟨_, ev_eqI, ?_⟩)
        | (with_reducible refine ⟨_, ev_neI, ?_⟩)
        | (with_reducible refine ⟨_, ev_eqT1, ?_⟩)
        | (with_reducible refine ⟨_, ev_eqT, ?_⟩)
        | (with_reducible refine ⟨_, ev_eqL, ?_⟩)
        | (with_reducible refine ⟨_, ev_neB, ?_⟩)
        | (with_reducible refine ⟨_, ev_inL, ?_⟩)
        | (with_reducible refine ⟨_, ev_inT, ?_⟩)
        | (with_reducible refine ⟨_, ev_ninL, ?_⟩)
        | (with_reducible refine ⟨_, ev_ninT, ?_⟩)
        | (with_reducible refine ⟨_, ev_inTL1, ?_⟩)
        | (with_reducible refine ⟨_, ev_ninTL1, ?_⟩)
        | (with_reducible refine ⟨_, ev_ninTL0, ?_⟩)
        | (with_reducible refine ⟨_, ev_inTL, ?_⟩)
        | (with_reducible refine ⟨_, ev_ninTL, ?_⟩)
        | (with_reducible refine ⟨_, sl_take1, ?_⟩)
        | (with_reducible refine ⟨_, sl_drop1, ?_⟩)
        | (with_reducible refine ⟨_, ev_all_map, ?_⟩)
        | (with_reducible refine ⟨_, ev_any_map, ?_⟩)
        | (with_reducible refine ⟨_, ev_all, ?_⟩)
        | (with_reducible refine ⟨_, ev_any, ?_⟩)
        | (with_reducible refine bl_i ?_)
        | (with_reducible refine int_i ?_)
        | (with_reducible refine tru_bl ?_)
        | (with_reducible refine neg_i ?_)
        | (with_reducible refine len_l ?_)
        | (with_reducible refine len_t ?_)
        | (with_reducible refine tup_l ?_)
        | (with_reducible refine it_l ?_)
        | (with_reducible refine it_t ?_)
        | (refine ite_t (by rfl) ?_)
        | (refine ite_f (by rfl) ?_)
        | (refine ⟨_, ev_mod (by omega), ?_⟩)
        | (refine ⟨_, ev_div (by omega) (by omega), ?_⟩)
        | (refine ⟨_, ev_divmod (by omega) (by omega), ?_⟩)
        | (refine ⟨_, ev_mulR (by omega) (by omega), ?_⟩)
        | (refine ⟨_, ev_mulL (by omega) (by omega), ?_⟩)
        | (refine ⟨_, rfl, ?_⟩)
        | (exact ⟨rfl, rfl⟩)
        | (refine ⟨rfl, ?_⟩)
        | (refine ⟨by decide, ?_⟩)
        | (refine ⟨(by simp only [List.length_cons, List.length_nil, lim]; decide), ?_⟩)
        | (refine ⟨of_decide_eq_true (by rfl), ?_⟩)))
local macro_rules
  | `(tactic| walk_at "VX") => `(tactic| repeat (first
        | (with_reducible refine si_raise ?_)
        | (with_reducible refine si_seq ?_)
        | (with_reducible refine si_for ?_)
        | (with_reducible refine si_forX ?_)
        | ((with_reducible apply si_app); rfl)
        | (with_reducible refine si_pool ?_)
        | (with_reducible refine si_asg ?_)
        | (with_reducible refine si_asgV ?_)
        | (with_reducible refine si_new ?_)
        | (with_reducible refine si_drop ?_)
        | (with_reducible refine si_ret ?_)
        | (with_reducible refine si_retX ?_)
        | (with_reducible refine si_if ?_)
        | ((with_reducible apply si_aug); rfl)
        | (with_reducible refine si_par ?_)
        | (with_reducible refine si_parO ?_)
        | (with_reducible refine si_asgG ?_)
        | (with_reducible refine si_next ?_)
        | (with_reducible refine si_brk ?_)
        | (with_reducible refine si_cnt ?_)
        | (with_reducible refine si_retN ?_)
        | ((with_reducible apply si_catO); rfl)
        | (with_reducible refine si_par3 ?_)
        | ((with_reducible apply si_shr); rfl)
        | ((with_reducible apply wi_var); rfl)
        | (with_reducible refine wi_c ?_)
        | (with_reducible refine wi_op ?_)
        | (with_reducible refine wi_un ?_)
        | (with_reducible refine wi_nil ?_)
        | (with_reducible refine wi_cons ?_)
        | (with_reducible refine wi_cb ?_)
        | (with_reducible refine wi_mt ?_)
        | (with_reducible refine wi_tst ?_)
        | (with_reducible refine wi_tru ?_)
        | (with_reducible refine wi_and ?_)
        | (with_reducible refine wi_or ?_)
        | (with_reducible refine wi_not ?_)
        | (with_reducible refine wi_if ?_)
        | (with_reducible refine wi_andV ?_)
        | (with_reducible refine wi_orV ?_)
        | (with_reducible refine wi_notV ?_)
        | (with_reducible refine wi_tup ?_)
        | (with_reducible refine wi_lst ?_)
        | (with_reducible refine wi_ofF ?_)
        | (with_reducible refine wi_fresh ?_)
        | (with_reducible refine wi_isi ?_)
        | (with_reducible refine wi_sl ?_)
        | (with_reducible refine wi_oNone ?_)
        | (with_reducible refine wi_oSome ?_)
        | (with_reducible refine wi_call ?_)
        | (with_reducible refine wi_callF ?_)
        | (with_reducible refine wi_items ?_)
        | (with_reducible refine wi_lc ?_)
        | (with_reducible refine wi_star ?_)
        | (with_reducible refine wi_ix ?_)
        | (with_reducible refine wi_chain ?_)
        | (with_reducible refine wi_rng1 ?_)
        | (with_reducible refine wi_rng2 ?_)
        | (with_reducible refine wi_enum ?_)
        | (with_reducible refine wi_enumT ?_)
        | (with_reducible refine wi_zip ?_)
        | (with_reducible refine wi_zipK ?_)
        | (with_reducible refine wi_yes ?_)
        | (with_reducible refine wi_enumA ?_)
        | (with_reducible refine wi_slt ?_)
        | (with_reducible refine wi_isiC ?_)
        | (with_reducible refine wi_prop ?_)
        | (with_reducible refine wi_callP ?_)
        | (with_reducible refine wi_dc ?_)
        | (with_reducible refine wi_sortIt ?_)
        | (with_reducible refine wi_listIt ?_)
        | (with_reducible refine wi_isiA ?_)
        | (with_reducible refine wi_isiO ?_)
        | (with_reducible refine wi_own1 ?_)
        | (with_reducible refine wi_subOwn ?_)
        | (with_reducible refine wi_inOwn ?_)
        | (with_reducible refine wi_meth ?_)
        | (with_reducible refine wi_methK ?_)
        | (with_reducible refine wi_js0 ?_)
        | (with_reducible refine wi_js ?_)
        | (with_reducible refine wi_disp ?_)
        | (with_reducible refine wi_pairs0 ?_)
        | (with_reducible refine wi_pairs ?_)
        | (with_reducible refine wi_eqOwn ?_)
        | (with_reducible refine wi_truK ?_)
        | (with_reducible refine wi_fg ?_)
        | (with_reducible refine wi_isE ?_)
        | (with_reducible refine wi_caught ?_)
        | (with_reducible refine star_l ?_)
        | (with_reducible refine star_t ?_)
        | (with_reducible refine (pr2 (x := _) (y := _)).mpr ?_)
        | (with_reducible refine ⟨_, ev_eqS, ?_⟩)
        | (with_reducible refine ⟨_, ev_neS, ?_⟩)
        | (with_reducible refine ⟨_, ev_eqI, ?_⟩)
        | (with_reducible refine ⟨_, ev_neI, ?_⟩)
        | (with_reducible refine ⟨_, ev_eqT1, ?_⟩)
        | (with_reducible refine ⟨_, ev_eqT, ?_⟩)
        | (with_reducible refine ⟨_, ev_eqL, ?_⟩)
        | (with_reducible refine ⟨_, ev_neB, ?_⟩)
        | (with_reducible refine ⟨_, ev_inL, ?_⟩)
        | (with_reducible refine ⟨_, ev_inT, ?_⟩)
        | (with_reducible refine ⟨_, ev_ninL, ?_⟩)
        | (with_reducible refine ⟨_, ev_ninT, ?_⟩)
        | (with_reducible refine ⟨_, ev_inTL1, ?_⟩)
        | (with_reducible refine ⟨_, ev_ninTL1, ?_⟩)
        | (with_reducible refine ⟨_, ev_ninTL0, ?_⟩)
        | (with_reducible refine ⟨_, ev_inTL, ?_⟩)
        | (with_reducible refine ⟨_, ev_ninTL, ?_⟩)
        | (with_reducible refine ⟨_, sl_take1, ?_⟩)
        | (with_reducible refine ⟨_, sl_drop1, ?_⟩)
        | (with_reducible refine ⟨_, ev_all_map, ?_⟩)
        | (with_reducible refine ⟨_, ev_any_map, ?_⟩)
        | (with_reducible refine ⟨_, ev_all, ?_⟩)
        | (with_reducible refine ⟨_, ev_any, ?_⟩)
        | (with_reducible refine bl_i ?_)
        | (with_reducible refine int_i ?_)
        | (with_reducible refine tru_bl ?_)
        | (with_reducible refine neg_i ?_)
        | (with_reducible refine len_l ?_)
        | (with_reducible refine len_t ?_)
        | (with_reducible refine tup_l ?_)
        | (with_reducible refine it_l ?_)
        | (with_reducible refine it_t ?_)
        | (refine ite_t (by rfl) ?_)
        | (refine ite_f (by rfl) ?_)
        | (refine ⟨_, ev_mod (by omega), ?_⟩)
        | (refine ⟨_, ev_div (by omega) (by omega), ?_⟩)
        | (refine ⟨_, ev_divmod (by omega) (by omega), ?_⟩)
        | (refine ⟨_, ev_mulR (by omega) (by omega), ?_⟩)
        | (refine ⟨_, ev_mulL (by omega) (by omega), ?_⟩)
        | (exact ⟨rfl, rfl⟩)
        | (refine ⟨rfl, ?_⟩)
        | (refine ⟨by decide, ?_⟩)
        | (refine ⟨(by simp only [List.length_cons, List.length_nil, lim]; decide), ?_⟩)
        | (refine ⟨of_decide_eq_true (by rfl), ?_⟩)))
theorem draw_ok {n : Int} (h : 0 < n) (hn : n < 1073741824) (a b c : Int) : Wp (m__law_draw [.pool, .int n] [a, b, c]) fun d p => ∃ k a' b' c', d = .int k ∧ p = [a', b', c'] ∧ 0 ≤ k ∧ k < n := by
  unfold m__law_draw
  refine fi_run ?_
  unfold b__law_draw
  walk_at "VC"
  refine ite_b (fun h1 => ?_) fun h1 => ?_
  · walk_at "VC"
    exact ⟨_, _, _, _, rfl, rfl, Int.emod_nonneg _ (by omega), Int.emod_lt_of_pos _ h⟩
  · walk_at "VC"
    exact ⟨_, _, _, _, rfl, rfl, Int.emod_nonneg _ (by omega), Int.emod_lt_of_pos _ h⟩
theorem ev_mulBL {i j : Int} (h1 : -18446744073709551616 < i) (h2 : i < 18446744073709551616) : dMulC (.int i) (.int j) = some (.int (i * j)) := by
  show dMul (.int i) (.int j) = _
  exact ev_mulL h1 h2
theorem law_pool_ok (z : Int) (p : List Int) : ∃ y, m__law_pool [.int z] p = some ([.int (z % 2147482873), .int y, .int 0], p) := by
  unfold m__law_pool runR b__law_pool rSeq
  by_cases h1 : z < 0
  · exact ⟨if z < 0 then -z else z, by simp [startR, sAsg, shR, Cl.s, mIf, mOr, mTst, mOp, mVar, mC, bnd, lft, dLt, dCmp, h1, mCB, mCons, mNil, dAbs, rRet, mFresh, viR, Cl.v, dMod, dII, dInt, dIntA, lim]⟩
  · by_cases h2 : z ≥ 1000000000000000000
    · exact ⟨if z < 0 then -z else z, by simp [startR, sAsg, shR, Cl.s, mIf, mOr, mTst, mOp, mVar, mC, bnd, lft, dLt, dGe, dPow, dCmp, h1, h2, mCB, mCons, mNil, dAbs, rRet, mFresh, viR, Cl.v, dMod, dII, dInt, dIntA, lim]⟩
    · exact ⟨0, by simp [startR, sAsg, shR, Cl.s, mIf, mOr, mTst, mOp, mVar, mC, bnd, lft, dLt, dGe, dPow, dCmp, h1, h2, mCB, mCons, mNil, dAbs, rRet, mFresh, viR, Cl.v, dMod, dII, dInt, dIntA, lim]⟩
theorem sl_scr {ns : List Int} : dSl (.scr ns) none (some 3) = some (.lst ((ns.take 3).map .int)) := by
  show some (D.lst ((dcut ns none (some 3)).map .int)) = _
  rw [dcut_take _ (by decide)]
  rfl
theorem law_cell_ok (ns : List Int) {k : Int} (h0 : 0 ≤ k) (h4 : k < 64) (p : List Int) : Wp (m__law_cell [.scr ns, .int k] p) fun d q => ∃ z, d = .int z ∧ q = p := by
  unfold m__law_cell
  refine fi_run ?_
  unfold b__law_cell
  walk_at "VC"
  refine ite_b (fun h => ?_) fun h => ?_
  · have h : k < ns.length := of_decide_eq_true h
    walk_at "VX"
    refine ⟨.int (ns[k.toNat]'(by omega)), ?_, _, rfl, rfl⟩
    show (atI ns k).map D.int = _
    rw [atI_at h0 (List.getElem?_eq_getElem (by omega))]
    rfl
  · walk_at "VX"
    refine ⟨_, ev_mulBL (by decide) (by decide), ?_⟩
    refine ⟨_, ev_addI, ?_⟩
    walk_at "VX"
    refine ⟨_, ev_addI, ?_⟩
    refine ⟨_, ev_mulBL (by decide) (by decide), ?_⟩
    walk_at "VX"
    refine ⟨_, rfl, ?_⟩
    walk_at "VX"
    refine ⟨_, sl_scr, ?_⟩
    walk_at "VX"
    refine ws_forGo (fun ds r q => ∃ z c3, (∃ ms : List Int, ds = ms.map .int) ∧ r = [.sh (.scr ns), .sh (.int k), .sh (.int z), c3] ∧ q = p) ⟨_, .no, ⟨_, rfl⟩, rfl, rfl⟩ ?_ ?_
    · rintro d ds r q ⟨z, c3, ⟨ms, e⟩, rfl, rfl⟩
      cases ms with
      | nil => cases e
      | cons m ms =>
        cases e
        refine ⟨_, _, rfl, ?_⟩
        unfold l1__law_cell
        walk_at "VC"
        exact ⟨_, _, ⟨ms, rfl⟩, rfl, rfl⟩
    · rintro r q ⟨z, c3, _, rfl, rfl⟩
      walk_at "VC"
      rfl
end K01
namespace K01
variable [Dt.GTab]
open PySem PySem.Spec PyProof.Rows L2 Dt Tx
local macro_rules
  | `(tactic| walk_at "VC") => `(tactic| repeat (first
        | (with_reducible refine si_raise ?_)
        | (with_reducible refine si_seq ?_)
        | (with_reducible refine si_for ?_)
        | (with_reducible refine si_forX ?_)
        | ((with_reducible apply si_app); rfl)
        | (with_reducible refine si_pool ?_)
        | (with_reducible refine si_asg ?_)
        | (with_reducible refine si_asgV ?_)
        | (with_reducible refine si_new ?_)
        | (with_reducible refine si_drop ?_)
        | (with_reducible refine si_ret ?_)
        | (with_reducible refine si_retX ?_)
        | (with_reducible refine si_if ?_)
        | ((with_reducible apply si_aug); rfl)
        | (with_reducible refine si_par ?_)
        | (with_reducible refine si_parO ?_)
        | (with_reducible refine si_asgG ?_)
        | (with_reducible refine si_next ?_)
        | (with_reducible refine si_brk ?_)
        | (with_reducible refine si_cnt ?_)
        | (with_reducible refine si_retN ?_)
        | ((with_reducible apply si_catO); rfl)
        | (with_reducible refine si_par3 ?_)
        | ((with_reducible apply si_shr); rfl)
        | ((with_reducible apply wi_var); rfl)
        | (with_reducible refine wi_c ?_)
        | (with_reducible refine wi_op ?_)
        | (with_reducible refine wi_un ?_)
        | (with_reducible refine wi_nil ?_)
        | (with_reducible refine wi_cons ?_)
        | (with_reducible refine wi_cb ?_)
        | (with_reducible refine wi_mt ?_)
        | (with_reducible refine wi_tst ?_)
        | (with_reducible refine wi_tru ?_)
        | (with_reducible refine wi_and ?_)
        | (with_reducible refine wi_or ?_)
        | (with_reducible refine wi_not ?_)
        | (with_reducible refine wi_if ?_)
        | (with_reducible refine wi_andV ?_)
        | (with_reducible refine wi_orV ?_)
        | (with_reducible refine wi_notV ?_)
        | (with_reducible refine wi_tup ?_)
        | (with_reducible refine wi_lst ?_)
        | (with_reducible refine wi_ofF ?_)
        | (with_reducible refine wi_fresh ?_)
        | (with_reducible refine wi_isi ?_)
        | (with_reducible refine wi_sl ?_)
        | (with_reducible refine wi_oNone ?_)
        | (with_reducible refine wi_oSome ?_)
        | (with_reducible refine wi_call ?_)
        | (with_reducible refine wi_callF ?_)
        | (with_reducible refine wi_items ?_)
        | (with_reducible refine wi_lc ?_)
        | (with_reducible refine wi_star ?_)
        | (with_reducible refine wi_ix ?_)
        | (with_reducible refine wi_chain ?_)
        | (with_reducible refine wi_rng1 ?_)
        | (with_reducible refine wi_rng2 ?_)
        | (with_reducible refine wi_enum ?_)
        | (with_reducible refine wi_enumT ?_)
        | (with_reducible refine wi_zip ?_)
        | (with_reducible refine wi_zipK ?_)
        | (with_reducible refine wi_yes ?_)
        | (with_reducible refine wi_enumA ?_)
        | (with_reducible refine wi_slt ?_)
        | (with_reducible refine wi_isiC ?_)
        | (with_reducible refine wi_prop ?_)
        | (with_reducible refine wi_callP ?_)
        | (with_reducible refine wi_dc ?_)
        | (with_reducible refine wi_sortIt ?_)
        | (with_reducible refine wi_listIt ?_)
        | (with_reducible refine wi_isiA ?_)
        | (with_reducible refine wi_isiO ?_)
        | (with_reducible refine wi_own1 ?_)
        | (with_reducible refine wi_subOwn ?_)
        | (with_reducible refine wi_inOwn ?_)
        | (with_reducible refine wi_meth ?_)
        | (with_reducible refine wi_methK ?_)
        | (with_reducible refine wi_js0 ?_)
        | (with_reducible refine wi_js ?_)
        | (with_reducible refine wi_disp ?_)
        | (with_reducible refine wi_pairs0 ?_)
        | (with_reducible refine wi_pairs ?_)
        | (with_reducible refine wi_eqOwn ?_)
        | (with_reducible refine wi_truK ?_)
        | (with_reducible refine wi_fg ?_)
        | (with_reducible refine wi_isE ?_)
        | (with_reducible refine wi_caught ?_)
        | (with_reducible refine star_l ?_)
        | (with_reducible refine star_t ?_)
        | (with_reducible refine (pr2 (x := _) (y := _)).mpr ?_)
        | (with_reducible refine ⟨_, ev_eqS, ?_⟩)
        | (with_reducible refine ⟨_, ev_neS, ?_⟩)
        | (with_reducible refine ⟨_, ev_eqI, ?_⟩)
        | (with_reducible refine ⟨_, ev_neI, ?_⟩)
        | (with_reducible refine ⟨_, ev_eqT1, ?_⟩)
        | (with_reducible refine ⟨_, ev_eqT, ?_⟩)
        | (with_reducible refine ⟨_, ev_eqL, ?_⟩)
        | (with_reducible refine ⟨_, ev_neB, ?_⟩)
        | (with_reducible refine ⟨_, ev_inL, ?_⟩)
        | (with_reducible refine ⟨_, ev_inT, ?_⟩)
        | (with_reducible refine ⟨_, ev_ninL, ?_⟩)
        | (with_reducible refine ⟨_, ev_ninT, ?_⟩)
        | (with_reducible refine ⟨_, ev_inTL1, ?_⟩)
        | (with_reducible refine ⟨_, ev_ninTL1, ?_⟩)
        | (with_reducible refine ⟨_, ev_ninTL0, ?_⟩)
        | (with_reducible refine ⟨_, ev_inTL, ?_⟩)
        | (with_reducible refine ⟨_, ev_ninTL, ?_⟩)
        | (with_reducible refine ⟨_, sl_take1, ?_⟩)
        | (with_reducible refine ⟨_, sl_drop1, ?_⟩)
        | (with_reducible refine ⟨_, ev_all_map, ?_⟩)
        | (with_reducible refine ⟨_, ev_any_map, ?_⟩)
        | (with_reducible refine ⟨_, ev_all, ?_⟩)
        | (with_reducible refine ⟨_, ev_any, ?_⟩)
        | (with_reducible refine bl_i ?_)
        | (with_reducible refine int_i ?_)
        | (with_reducible refine tru_bl ?_)
        | (with_reducible refine neg_i ?_)
        | (with_reducible refine len_l ?_)
        | (with_reducible refine len_t ?_)
        | (with_reducible refine tup_l ?_)
        | (with_reducible refine it_l ?_)
        | (with_reducible refine it_t ?_)
        | (refine ite_t (by rfl) ?_)
        | (refine ite_f (by rfl) ?_)
        | (refine ⟨_, ev_mod (by omega), ?_⟩)
        | (refine ⟨_, ev_div (by omega) (by omega), ?_⟩)
        | (refine ⟨_, ev_divmod (by omega) (by omega), ?_⟩)
        | (refine ⟨_, ev_mulR (by omega) (by omega), ?_⟩)
        | (refine ⟨_, ev_mulL (by omega) (by omega), ?_⟩)
        | (refine ⟨_, rfl, ?_⟩)
        | (exact ⟨rfl, rfl⟩)
        | (refine ⟨rfl, ?_⟩)
        | (refine ⟨by decide, ?_⟩)
        | (refine ⟨(by simp only [List.length_cons, List.length_nil, lim]; decide), ?_⟩)
        | (refine ⟨of_decide_eq_true (by rfl), ?_⟩)))
local macro_rules
  | `(tactic| walk_at "VX") => `(tactic| repeat (first
        | (with_reducible refine si_raise ?_)
        | (with_reducible refine si_seq ?_)
        | (with_reducible refine si_for ?_)
        | (with_reducible refine si_forX ?_)
        | ((with_reducible apply si_app); rfl)
        | (with_reducible refine si_pool ?_)
        | (with_reducible refine si_asg ?_)
        | (with_reducible refine si_asgV ?_)
        | (with_reducible refine si_new ?_)
        | (with_reducible refine si_drop ?_)
        | (with_reducible refine si_ret ?_)
        | (with_reducible refine si_retX ?_)
        | (with_reducible refine si_if ?_)
        | ((with_reducible apply si_aug); rfl)
        | (with_reducible refine si_par ?_)
        | (with_reducible refine si_parO ?_)
        | (with_reducible refine si_asgG ?_)
        | (with_reducible refine si_next ?_)
        | (with_reducible refine si_brk ?_)
        | (with_reducible refine si_cnt ?_)
        | (with_reducible refine si_retN ?_)
        | ((with_reducible apply si_catO); rfl)
        | (with_reducible refine si_par3 ?_)
        | ((with_reducible apply si_shr); rfl)
        | ((with_reducible apply wi_var); rfl)
        | (with_reducible refine wi_c ?_)
        | (with_reducible refine wi_op ?_)
        | (with_reducible refine wi_un ?_)
        | (with_reducible refine wi_nil ?_)
        | (with_reducible refine wi_cons ?_)
        | (with_reducible refine wi_cb ?_)
        | (with_reducible refine wi_mt ?_)
        | (with_reducible refine wi_tst ?_)
        | (with_reducible refine wi_tru ?_)
        | (with_reducible refine wi_and ?_)
        | (with_reducible refine wi_or ?_)
        | (with_reducible refine wi_not ?_)
        | (with_reducible refine wi_if ?_)
        | (with_reducible refine wi_andV ?_)
        | (with_reducible refine wi_orV ?_)
        | (with_reducible refine wi_notV ?_)
        | (with_reducible refine wi_tup ?_)
        | (with_reducible refine wi_lst ?_)
        | (with_reducible refine wi_ofF ?_)
        | (with_reducible refine wi_fresh ?_)
        | (with_reducible refine wi_isi ?_)
        | (with_reducible refine wi_sl ?_)
        | (with_reducible refine wi_oNone ?_)
        | (with_reducible refine wi_oSome ?_)
        | (with_reducible refine wi_call ?_)
        | (with_reducible refine wi_callF ?_)
        | (with_reducible refine wi_items ?_)
        | (with_reducible refine wi_lc ?_)
        | (with_reducible refine wi_star ?_)
        | (with_reducible refine wi_ix ?_)
        | (with_reducible refine wi_chain ?_)
        | (with_reducible refine wi_rng1 ?_)
        | (with_reducible refine wi_rng2 ?_)
        | (with_reducible refine wi_enum ?_)
        | (with_reducible refine wi_enumT ?_)
        | (with_reducible refine wi_zip ?_)
        | (with_reducible refine wi_zipK ?_)
        | (with_reducible refine wi_yes ?_)
        | (with_reducible refine wi_enumA ?_)
        | (with_reducible refine wi_slt ?_)
        | (with_reducible refine wi_isiC ?_)
        | (with_reducible refine wi_prop ?_)
        | (with_reducible refine wi_callP ?_)
        | (with_reducible refine wi_dc ?_)
        | (with_reducible refine wi_sortIt ?_)
        | (with_reducible refine wi_listIt ?_)
        | (with_reducible refine wi_isiA ?_)
        | (with_reducible refine wi_isiO ?_)
        | (with_reducible refine wi_own1 ?_)
        | (with_reducible refine wi_subOwn ?_)
        | (with_reducible refine wi_inOwn ?_)
        | (with_reducible refine wi_meth ?_)
        | (with_reducible refine wi_methK ?_)
        | (with_reducible refine wi_js0 ?_)
        | (with_reducible refine wi_js ?_)
        | (with_reducible refine wi_disp ?_)
        | (with_reducible refine wi_pairs0 ?_)
        | (with_reducible refine wi_pairs ?_)
        | (with_reducible refine wi_eqOwn ?_)
        | (with_reducible refine wi_truK ?_)
        | (with_reducible refine wi_fg ?_)
        | (with_reducible refine wi_isE ?_)
        | (with_reducible refine wi_caught ?_)
        | (with_reducible refine star_l ?_)
        | (with_reducible refine star_t ?_)
        | (with_reducible refine (pr2 (x := _) (y := _)).mpr ?_)
        | (with_reducible refine ⟨_, ev_eqS, ?_⟩)
        | (with_reducible refine ⟨_, ev_neS, ?_⟩)
        | (with_reducible refine ⟨_, ev_eqI, ?_⟩)
        | (with_reducible refine ⟨_, ev_neI, ?_⟩)
        | (with_reducible refine ⟨_, ev_eqT1, ?_⟩)
        | (with_reducible refine ⟨_, ev_eqT, ?_⟩)
        | (with_reducible refine ⟨_, ev_eqL, ?_⟩)
        | (with_reducible refine ⟨_, ev_neB, ?_⟩)
        | (with_reducible refine ⟨_, ev_inL, ?_⟩)
        | (with_reducible refine ⟨_, ev_inT, ?_⟩)
        | (with_reducible refine ⟨_, ev_ninL, ?_⟩)
        | (with_reducible refine ⟨_, ev_ninT, ?_⟩)
        | (with_reducible refine ⟨_, ev_inTL1, ?_⟩)
        | (with_reducible refine ⟨_, ev_ninTL1, ?_⟩)
        | (with_reducible refine ⟨_, ev_ninTL0, ?_⟩)
        | (with_reducible refine ⟨_, ev_inTL, ?_⟩)
        | (with_reducible refine ⟨_, ev_ninTL, ?_⟩)
        | (with_reducible refine ⟨_, sl_take1, ?_⟩)
        | (with_reducible refine ⟨_, sl_drop1, ?_⟩)
        | (with_reducible refine ⟨_, ev_all_map, ?_⟩)
        | (with_reducible refine ⟨_, ev_any_map, ?_⟩)
        | (with_reducible refine ⟨_, ev_all, ?_⟩)
        | (with_reducible refine ⟨_, ev_any, ?_⟩)
        | (with_reducible refine bl_i ?_)
        | (with_reducible refine int_i ?_)
        | (with_reducible refine tru_bl ?_)
        | (with_reducible refine neg_i ?_)
        | (with_reducible refine len_l ?_)
        | (with_reducible refine len_t ?_)
        | (with_reducible refine tup_l ?_)
        | (with_reducible refine it_l ?_)
        | (with_reducible refine it_t ?_)
        | (refine ite_t (by rfl) ?_)
        | (refine ite_f (by rfl) ?_)
        | (refine ⟨_, ev_mod (by omega), ?_⟩)
        | (refine ⟨_, ev_div (by omega) (by omega), ?_⟩)
        | (refine ⟨_, ev_divmod (by omega) (by omega), ?_⟩)
        | (refine ⟨_, ev_mulR (by omega) (by omega), ?_⟩)
        | (refine ⟨_, ev_mulL (by omega) (by omega), ?_⟩)
        | (exact ⟨rfl, rfl⟩)
        | (refine ⟨rfl, ?_⟩)
        | (refine ⟨by decide, ?_⟩)
        | (refine ⟨(by simp only [List.length_cons, List.length_nil, lim]; decide), ?_⟩)
        | (refine ⟨of_decide_eq_true (by rfl), ?_⟩)))
theorem law_names_N (a b c : Int) : Wp (m__law_names [.pool] [a, b, c]) fun d q => ∃ ws a' b' c', GoodN ws ∧ d = .lst (ws.map .str) ∧ q = [a', b', c'] := by
  unfold m__law_names
  refine fi_run ?_
  unfold b__law_names
  walk_at "VC"
  refine (draw_ok (n := 7) (by decide) (by decide) a b c).mono fun d q hd => ?_
  obtain ⟨k, a, b, c, rfl, rfl, hk0, hk⟩ := hd
  walk_at "VC"
  refine ite_b (fun h => ?_) fun h => ?_
  · have h5 : k < 5 := of_decide_eq_true h
    have hc : k = 0 ∨ k = 1 ∨ k = 2 ∨ k = 3 ∨ k = 4 := by omega
    rcases hc with rfl | rfl | rfl | rfl | rfl
    · walk_at "VC"
      exact ⟨["a", "b"], a, b, c, goodN_of (by decide +kernel), rfl, rfl⟩
    · walk_at "VC"
      exact ⟨["a", "b", "c"], a, b, c, goodN_of (by decide +kernel), rfl, rfl⟩
    · walk_at "VC"
      exact ⟨["x", "xx"], a, b, c, goodN_of (by decide +kernel), rfl, rfl⟩
    · walk_at "VC"
      exact ⟨["db", "host", "port"], a, b, c, goodN_of (by decide +kernel), rfl, rfl⟩
    · walk_at "VC"
      exact ⟨["k", "zzzzzzzz"], a, b, c, goodN_of (by decide +kernel), rfl, rfl⟩
  walk_at "VC"
  refine ws_forGo (fun ds r q => ∃ ws c1 c2 c4 c5 c6 a b c, ds = (rngD 0 3).drop ws.length ∧ ws.length ≤ 3 ∧ (∀ s ∈ ws, Nm s) ∧ ws.map lastC = (List.range ws.length).map (fun i => some (97 + i)) ∧ r = [.sh .pool, c1, c2, .ow (.lst (ws.map .str)), c4, c5, c6] ∧ q = [a, b, c])
    ⟨[], _, _, .no, .no, .no, a, b, c, rfl, by decide, fun s hs => (by cases hs), rfl, rfl, rfl⟩ ?_ ?_
  · rintro d ds r q ⟨ws, c1, c2, c4, c5, c6, a, b, c, hds, hl3, hnm, hla, rfl, rfl⟩
    have hlt : ws.length < 3 := by
      rcases Nat.lt_or_ge ws.length 3 with h | h
      · exact h
      · rw [List.drop_of_length_le (by simp [rngD]; exact h)] at hds
        cases hds
    have hd : d = .int (ws.length : Nat) ∧ ds = (rngD 0 3).drop (ws.length + 1) := by
      have e1 : (rngD 0 3)[ws.length]? = some (.int (0 + (ws.length : Int))) := by
        unfold rngD
        rw [List.getElem?_map, List.getElem?_range hlt]
        rfl
      obtain ⟨hj, e2⟩ := List.getElem?_eq_some_iff.mp e1
      rw [List.drop_eq_getElem_cons hj, e2] at hds
      injection hds with h1 h2
      exact ⟨by rw [h1, Int.zero_add], h2⟩
    obtain ⟨rfl, rfl⟩ := hd
    refine ⟨_, _, rfl, ?_⟩
    unfold l2__law_names
    walk_at "VC"
    refine (draw_ok (n := 8) (by decide) (by decide) a b c).mono fun d q hd => ?_
    obtain ⟨k, a, b, c, rfl, rfl, hk0, hk⟩ := hd
    walk_at "VC"
    refine ⟨by unfold rngOk; simp; omega, ?_⟩
    have hrl : (rngD 0 k.toNat).length = k.toNat := by simp [rngD]
    refine ⟨by rw [hrl]; unfold lim; omega, ?_⟩
    refine (wp_lcGo (acc := []) (fun ds acc q => ∃ ls a b c, acc = ls.map D.str ∧ (∀ s ∈ ls, s.length ≤ 1 ∧ ∀ c ∈ tl s, c ∈ tl sLet) ∧ ls.length + ds.length = k.toNat ∧ q = [a, b, c]) ⟨[], a, b, c, rfl, fun s hs => (by cases hs), by rw [hrl]; simp, rfl⟩ ?_).mono fun ys q hI => ?_
    · rintro d ds acc q ⟨ls, a, b, c, rfl, hls, hlen, rfl⟩
      refine ⟨_, rfl, ?_⟩
      unfold c1__law_namest c1__law_names
      walk_at "VC"
      refine (draw_ok (n := 26) (by decide) (by decide) a b c).mono fun d q hd => ?_
      obtain ⟨i, a, b, c, rfl, rfl, hi0, hi⟩ := hd
      refine ⟨.str (lt1 i.toNat), ix_str (x := sLet) hi0 (let_at (by omega)) _, ls ++ [lt1 i.toNat], a, b, c, by rw [List.map_append]; rfl, fun s hs => ?_, ?_, rfl⟩
      · rcases List.mem_append.mp hs with h | h
        · exact hls s h
        · rw [List.mem_singleton.mp h]
          exact ⟨by show 1 ≤ 1; decide, (lt1_nm (by omega)).lets⟩
      · rw [List.length_append, List.length_singleton]
        rw [List.length_cons] at hlen
        omega
    obtain ⟨ls, a, b, c, e, hls, hlen, rfl⟩ := hI
    rw [List.nil_append] at e
    subst e
    rw [List.length_nil] at hlen
    obtain ⟨z, hz1, hz2, hz3⟩ := join1 (fun w hw => (hls w hw).1) (by omega) fun w hw => (hls w hw).2
    walk_at "VX"
    refine ⟨_, hz1, ?_⟩
    walk_at "VX"
    have habc : ixD (.str "abc") (.int (ws.length : Nat)) [a, b, c] = some (.str (lt1 ws.length)) := by
      refine ix_str (by omega) ?_ _
      have : ∀ j : Fin 3, (("abc" : Str).cps.toList)[(((j.val : Nat) : Int)).toNat]? = some (97 + j.val) := by decide +kernel
      exact this ⟨ws.length, hlt⟩
    refine ⟨_, habc, ?_⟩
    have h11 : (lt1 ws.length).length = 1 := rfl
    refine ⟨_, ev_addS (by rw [h11]; unfold lim; omega), ?_⟩
    refine ⟨by rw [List.length_map]; unfold lim; omega, ?_⟩
    have htl : tl (z ++ lt1 ws.length) = tl z ++ [97 + ws.length] := TL.tl_append _ _
    refine ⟨ws ++ [z ++ lt1 ws.length], c1, c2, .sh (.int (ws.length : Nat)), .sh (.str z), c6, a, b, c, by rw [List.length_append, List.length_singleton], by rw [List.length_append, List.length_singleton]; omega, fun s hs => ?_, ?_, ?_, rfl⟩
    · rcases List.mem_append.mp hs with h | h
      · exact hnm s h
      · rw [List.mem_singleton.mp h]
        refine ⟨by rw [str_app_len, h11]; omega, by rw [str_app_len, h11]; omega, fun c hc => ?_⟩
        rw [htl] at hc
        rcases List.mem_append.mp hc with h | h
        · exact hz3 c h
        · exact (lt1_nm (k := ws.length) (by omega)).lets c h
    · rw [List.map_append, List.length_append, List.length_singleton, List.range_succ, List.map_append, hla]
      congr 1
      show [lastC (z ++ lt1 ws.length)] = [some (97 + ws.length)]
      unfold lastC
      rw [htl]
      simp
    · rw [List.map_append]
      rfl
  · rintro r q ⟨ws, c1, c2, c4, c5, c6, a, b, c, hds, hl3, hnm, hla, rfl, rfl⟩
    walk_at "VC"
    have h3 : ws.length = 3 := by
      rcases Nat.lt_or_ge ws.length 3 with h | h
      · exfalso
        have := congrArg List.length hds
        simp [rngD] at this
        omega
      · omega
    rw [h3] at hla
    exact ⟨ws, a, b, c, goodN_abc h3 hnm hla, rfl, rfl⟩
end K01
namespace K01
variable [Dt.GTab]
open PySem PySem.Spec PyProof.Rows L2 Dt Tx
local macro_rules
  | `(tactic| walk_at "VC") => `(tactic| repeat (first
        | (with_reducible refine si_raise ?_)
        | (with_reducible refine si_seq ?_)
        | (with_reducible refine si_for ?_)
        | (with_reducible refine si_forX ?_)
        | ((with_reducible apply si_app); rfl)
        | (with_reducible refine si_pool ?_)
        | (with_reducible refine si_asg ?_)
        | (with_reducible refine si_asgV ?_)
        | (with_reducible refine si_new ?_)
        | (with_reducible refine si_drop ?_)
        | (with_reducible refine si_ret ?_)
        | (with_reducible refine si_retX ?_)
        | (with_reducible refine si_if ?_)
        | ((with_reducible apply si_aug); rfl)
        | (with_reducible refine si_par ?_)
        | (with_reducible refine si_parO ?_)
        | (with_reducible refine si_asgG ?_)
        | (with_reducible refine si_next ?_)
        | (with_reducible refine si_brk ?_)
        | (with_reducible refine si_cnt ?_)
        | (with_reducible refine si_retN ?_)
        | ((with_reducible apply si_catO); rfl)
        | (with_reducible refine si_par3 ?_)
        | ((with_reducible apply si_shr); rfl)
        | ((with_reducible apply wi_var); rfl)
        | (with_reducible refine wi_c ?_)
        | (with_reducible refine wi_op ?_)
        | (with_reducible refine wi_un ?_)
        | (with_reducible refine wi_nil ?_)
        | (with_reducible refine wi_cons ?_)
        | (with_reducible refine wi_cb ?_)
        | (with_reducible refine wi_mt ?_)
        | (with_reducible refine wi_tst ?_)
        | (with_reducible refine wi_tru ?_)
        | (with_reducible refine wi_and ?_)
        | (with_reducible refine wi_or ?_)
        | (with_reducible refine wi_not ?_)
        | (with_reducible refine wi_if ?_)
        | (with_reducible refine wi_andV ?_)
        | (with_reducible refine wi_orV ?_)
        | (with_reducible refine wi_notV ?_)
        | (with_reducible refine wi_tup ?_)
        | (with_reducible refine wi_lst ?_)
        | (with_reducible refine wi_ofF ?_)
        | (with_reducible refine wi_fresh ?_)
        | (with_reducible refine wi_isi ?_)
        | (with_reducible refine wi_sl ?_)
        | (with_reducible refine wi_oNone ?_)
        | (with_reducible refine wi_oSome ?_)
        | (with_reducible refine wi_call ?_)
        | (with_reducible refine wi_callF ?_)
        | (with_reducible refine wi_items ?_)
        | (with_reducible refine wi_lc ?_)
        | (with_reducible refine wi_star ?_)
        | (with_reducible refine wi_ix ?_)
        | (with_reducible refine wi_chain ?_)
        | (with_reducible refine wi_rng1 ?_)
        | (with_reducible refine wi_rng2 ?_)
        | (with_reducible refine wi_enum ?_)
        | (with_reducible refine wi_enumT ?_)
        | (with_reducible refine wi_zip ?_)
        | (with_reducible refine wi_zipK ?_)
        | (with_reducible refine wi_yes ?_)
        | (with_reducible refine wi_enumA ?_)
        | (with_reducible refine wi_slt ?_)
        | (with_reducible refine wi_isiC ?_)
        | (with_reducible refine wi_prop ?_)
        | (with_reducible refine wi_callP ?_)
        | (with_reducible refine wi_dc ?_)
        | (with_reducible refine wi_sortIt ?_)
        | (with_reducible refine wi_listIt ?_)
        | (with_reducible refine wi_isiA ?_)
        | (with_reducible refine wi_isiO ?_)
        | (with_reducible refine wi_own1 ?_)
        | (with_reducible refine wi_subOwn ?_)
        | (with_reducible refine wi_inOwn ?_)
        | (with_reducible refine wi_meth ?_)
        | (with_reducible refine wi_methK ?_)
        | (with_reducible refine wi_js0 ?_)
        | (with_reducible refine wi_js ?_)
        | (with_reducible refine wi_disp ?_)
        | (with_reducible refine wi_pairs0 ?_)
        | (with_reducible refine wi_pairs ?_)
        | (with_reducible refine wi_eqOwn ?_)
        | (with_reducible refine wi_truK ?_)
        | (with_reducible refine wi_fg ?_)
        | (with_reducible refine wi_isE ?_)
        | (with_reducible refine wi_caught ?_)
        | (with_reducible refine star_l ?_)
        | (with_reducible refine star_t ?_)
        | (with_reducible refine (pr2 (x := _) (y := _)).mpr ?_)
        | (with_reducible refine ⟨_, ev_eqS, ?_⟩)
        | (with_reducible refine ⟨_, ev_neS, ?_⟩)
        | (with_reducible refine ⟨_, ev_eqI, ?_⟩)
        | (with_reducible refine ⟨_, ev_neI, ?_⟩)
        | (with_reducible refine ⟨_, ev_eqT1, ?_⟩)
        | (with_reducible refine ⟨_, ev_eqT, ?_⟩)
        | (with_reducible refine ⟨_, ev_eqL, ?_⟩)
        | (with_reducible refine ⟨_, ev_neB, ?_⟩)
        | (with_reducible refine ⟨_, ev_inL, ?_⟩)
        | (with_reducible refine ⟨_, ev_inT, ?_⟩)
        | (with_reducible refine ⟨_, ev_ninL, ?_⟩)
        | (with_reducible refine ⟨_, ev_ninT, ?_⟩)
        | (with_reducible refine ⟨_, ev_inTL1, ?_⟩)
        | (with_reducible refine ⟨_, ev_ninTL1, ?_⟩)
        | (with_reducible refine ⟨_, ev_ninTL0, ?_⟩)
        | (with_reducible refine ⟨_, ev_inTL, ?_⟩)
        | (with_reducible refine ⟨_, ev_ninTL, ?_⟩)
        | (with_reducible refine ⟨_, sl_take1, ?_⟩)
        | (with_reducible refine ⟨_, sl_drop1, ?_⟩)
        | (with_reducible refine ⟨_, ev_all_map, ?_⟩)
        | (with_reducible refine ⟨_, ev_any_map, ?_⟩)
        | (with_reducible refine ⟨_, ev_all, ?_⟩)
        | (with_reducible refine ⟨_, ev_any, ?_⟩)
        | (with_reducible refine bl_i ?_)
        | (with_reducible refine int_i ?_)
        | (with_reducible refine tru_bl ?_)
        | (with_reducible refine neg_i ?_)
        | (with_reducible refine len_l ?_)
        | (with_reducible refine len_t ?_)
        | (with_reducible refine tup_l ?_)
        | (with_reducible refine it_l ?_)
        | (with_reducible refine it_t ?_)
        | (refine ite_t (by rfl) ?_)
        | (refine ite_f (by rfl) ?_)
        | (refine ⟨_, ev_mod (by omega), ?_⟩)
        | (refine ⟨_, ev_div (by omega) (by omega), ?_⟩)
        | (refine ⟨_, ev_divmod (by omega) (by omega), ?_⟩)
        | (refine ⟨_, ev_mulR (by omega) (by omega), ?_⟩)
        | (refine ⟨_, ev_mulL (by omega) (by omega), ?_⟩)
        | (refine ⟨_, rfl, ?_⟩)
        | (exact ⟨rfl, rfl⟩)
        | (refine ⟨rfl, ?_⟩)
        | (refine ⟨by decide, ?_⟩)
        | (refine ⟨(by simp only [List.length_cons, List.length_nil, lim]; decide), ?_⟩)
        | (refine ⟨of_decide_eq_true (by rfl), ?_⟩)))
local macro_rules
  | `(tactic| walk_at "VX") => `(tactic| repeat (first
        | (with_reducible refine si_raise ?_)
        | (with_reducible refine si_seq ?_)
        | (with_reducible refine si_for ?_)
        | (with_reducible refine si_forX ?_)
        | ((with_reducible apply si_app); rfl)
        | (with_reducible refine si_pool ?_)
        | (with_reducible refine si_asg ?_)
        | (with_reducible refine si_asgV ?_)
        | (with_reducible refine si_new ?_)
        | (with_reducible refine si_drop ?_)
        | (with_reducible refine si_ret ?_)
        | (with_reducible refine si_retX ?_)
        | (with_reducible refine si_if ?_)
        | ((with_reducible apply si_aug); rfl)
        | (with_reducible refine si_par ?_)
        | (with_reducible refine si_parO ?_)
        | (with_reducible refine si_asgG ?_)
        | (with_reducible refine si_next ?_)
        | (with_reducible refine si_brk ?_)
        | (with_reducible refine si_cnt ?_)
        | (with_reducible refine si_retN ?_)
        | ((with_reducible apply si_catO); rfl)
        | (with_reducible refine si_par3 ?_)
        | ((with_reducible apply si_shr); rfl)
        | ((with_reducible apply wi_var); rfl)
        | (with_reducible refine wi_c ?_)
        | (with_reducible refine wi_op ?_)
        | (with_reducible refine wi_un ?_)
        | (with_reducible refine wi_nil ?_)
        | (with_reducible refine wi_cons ?_)
        | (with_reducible refine wi_cb ?_)
        | (with_reducible refine wi_mt ?_)
        | (with_reducible refine wi_tst ?_)
        | (with_reducible refine wi_tru ?_)
        | (with_reducible refine wi_and ?_)
        | (with_reducible refine wi_or ?_)
        | (with_reducible refine wi_not ?_)
        | (with_reducible refine wi_if ?_)
        | (with_reducible refine wi_andV ?_)
        | (with_reducible refine wi_orV ?_)
        | (with_reducible refine wi_notV ?_)
        | (with_reducible refine wi_tup ?_)
        | (with_reducible refine wi_lst ?_)
        | (with_reducible refine wi_ofF ?_)
        | (with_reducible refine wi_fresh ?_)
        | (with_reducible refine wi_isi ?_)
        | (with_reducible refine wi_sl ?_)
        | (with_reducible refine wi_oNone ?_)
        | (with_reducible refine wi_oSome ?_)
        | (with_reducible refine wi_call ?_)
        | (with_reducible refine wi_callF ?_)
        | (with_reducible refine wi_items ?_)
        | (with_reducible refine wi_lc ?_)
        | (with_reducible refine wi_star ?_)
        | (with_reducible refine wi_ix ?_)
        | (with_reducible refine wi_chain ?_)
        | (with_reducible refine wi_rng1 ?_)
        | (with_reducible refine wi_rng2 ?_)
        | (with_reducible refine wi_enum ?_)
        | (with_reducible refine wi_enumT ?_)
        | (with_reducible refine wi_zip ?_)
        | (with_reducible refine wi_zipK ?_)
        | (with_reducible refine wi_yes ?_)
        | (with_reducible refine wi_enumA ?_)
        | (with_reducible refine wi_slt ?_)
        | (with_reducible refine wi_isiC ?_)
        | (with_reducible refine wi_prop ?_)
        | (with_reducible refine wi_callP ?_)
        | (with_reducible refine wi_dc ?_)
        | (with_reducible refine wi_sortIt ?_)
        | (with_reducible refine wi_listIt ?_)
        | (with_reducible refine wi_isiA ?_)
        | (with_reducible refine wi_isiO ?_)
        | (with_reducible refine wi_own1 ?_)
        | (with_reducible refine wi_subOwn ?_)
        | (with_reducible refine wi_inOwn ?_)
        | (with_reducible refine wi_meth ?_)
        | (with_reducible refine wi_methK ?_)
        | (with_reducible refine wi_js0 ?_)
        | (with_reducible refine wi_js ?_)
        | (with_reducible refine wi_disp ?_)
        | (with_reducible refine wi_pairs0 ?_)
        | (with_reducible refine wi_pairs ?_)
        | (with_reducible refine wi_eqOwn ?_)
        | (with_reducible refine wi_truK ?_)
        | (with_reducible refine wi_fg ?_)
        | (with_reducible refine wi_isE ?_)
        | (with_reducible refine wi_caught ?_)
        | (with_reducible refine star_l ?_)
        | (with_reducible refine star_t ?_)
        | (with_reducible refine (pr2 (x := _) (y := _)).mpr ?_)
        | (with_reducible refine ⟨_, ev_eqS, ?_⟩)
        | (with_reducible refine ⟨_, ev_neS, ?_⟩)
        | (with_reducible refine ⟨_, ev_eqI, ?_⟩)
        | (with_reducible refine ⟨_, ev_neI, ?_⟩)
        | (with_reducible refine ⟨_, ev_eqT1, ?_⟩)
        | (with_reducible refine ⟨_, ev_eqT, ?_⟩)
        | (with_reducible refine ⟨_, ev_eqL, ?_⟩)
        | (with_reducible refine ⟨_, ev_neB, ?_⟩)
        | (with_reducible refine ⟨_, ev_inL, ?_⟩)
        | (with_reducible refine ⟨_, ev_inT, ?_⟩)
        | (with_reducible refine ⟨_, ev_ninL, ?_⟩)
        | (with_reducible refine ⟨_, ev_ninT, ?_⟩)
        | (with_reducible refine ⟨_, ev_inTL1, ?_⟩)
        | (with_reducible refine ⟨_, ev_ninTL1, ?_⟩)
        | (with_reducible refine ⟨_, ev_ninTL0, ?_⟩)
        | (with_reducible refine ⟨_, ev_inTL, ?_⟩)
        | (with_reducible refine ⟨_, ev_ninTL, ?_⟩)
        | (with_reducible refine ⟨_, sl_take1, ?_⟩)
        | (with_reducible refine ⟨_, sl_drop1, ?_⟩)
        | (with_reducible refine ⟨_, ev_all_map, ?_⟩)
        | (with_reducible refine ⟨_, ev_any_map, ?_⟩)
        | (with_reducible refine ⟨_, ev_all, ?_⟩)
        | (with_reducible refine ⟨_, ev_any, ?_⟩)
        | (with_reducible refine bl_i ?_)
        | (with_reducible refine int_i ?_)
        | (with_reducible refine tru_bl ?_)
        | (with_reducible refine neg_i ?_)
        | (with_reducible refine len_l ?_)
        | (with_reducible refine len_t ?_)
        | (with_reducible refine tup_l ?_)
        | (with_reducible refine it_l ?_)
        | (with_reducible refine it_t ?_)
        | (refine ite_t (by rfl) ?_)
        | (refine ite_f (by rfl) ?_)
        | (refine ⟨_, ev_mod (by omega), ?_⟩)
        | (refine ⟨_, ev_div (by omega) (by omega), ?_⟩)
        | (refine ⟨_, ev_divmod (by omega) (by omega), ?_⟩)
        | (refine ⟨_, ev_mulR (by omega) (by omega), ?_⟩)
        | (refine ⟨_, ev_mulL (by omega) (by omega), ?_⟩)
        | (exact ⟨rfl, rfl⟩)
        | (refine ⟨rfl, ?_⟩)
        | (refine ⟨by decide, ?_⟩)
        | (refine ⟨(by simp only [List.length_cons, List.length_nil, lim]; decide), ?_⟩)
        | (refine ⟨of_decide_eq_true (by rfl), ?_⟩)))
theorem err_InvalidKey (a : Addr) (p : List Int) : me_InvalidKey a [.adr a] p = some (.int 0, p) := by
  have e : be_InvalidKey a = errBody a [true, false, false] [false, false, false] [false, false, false] [false, false, false] [false, false, false] [false, false, false] [false, false, false] [false, false, false] [false] [true, false, false] [false] [true, false, false] [false] := rfl
  unfold me_InvalidKey
  rw [e]
  exact err_all (j := 0) (by decide) (by decide) (by decide) (by decide) (by decide) (by decide) (by decide) (by decide) (by decide) (by decide) (by decide) (by decide) (by decide) (by decide) (by decide) (by decide) rfl p
theorem fld_InvalidKey (i : Xf) (h : i.fl = "value") (p : List Int) : mf__law_field i [.adr i.a, .int 0] p = some (i.x, p) := by
  refine Wp.eq ?_
  unfold mf__law_field
  refine fi_run ?_
  unfold bf__law_field
  refine si_seq ?_
  refine (id (α := Ws (sRet false (mFld i "value" (mVar 0)) (startR 2 2 [.adr i.a, .int 0]) p) _ _ _ _) ?_)
  refine si_ret (wi_fldE h.symm ?_)
  exact ⟨_, _, rfl, rfl, rfl, rfl⟩
theorem err_InvalidPath (a : Addr) (p : List Int) : me_InvalidPath a [.adr a] p = some (.int 1, p) := by
  have e : be_InvalidPath a = errBody a [false, true, false] [false, false, false] [false, false, false] [false, false, false] [false, false, false] [false, false, false] [false, false, false] [false, false, false] [false] [true, false, false] [false] [true, false, false] [false] := rfl
  unfold me_InvalidPath
  rw [e]
  exact err_all (j := 1) (by decide) (by decide) (by decide) (by decide) (by decide) (by decide) (by decide) (by decide) (by decide) (by decide) (by decide) (by decide) (by decide) (by decide) (by decide) (by decide) rfl p
theorem fld_InvalidPath (i : Xf) (h : i.fl = "value") (p : List Int) : mf__law_field i [.adr i.a, .int 1] p = some (i.x, p) := by
  refine Wp.eq ?_
  unfold mf__law_field
  refine fi_run ?_
  unfold bf__law_field
  refine si_seq ?_
  refine (id (α := Ws (sRet false (mFld i "value" (mVar 0)) (startR 2 2 [.adr i.a, .int 1]) p) _ _ _ _) ?_)
  refine si_ret (wi_fldE h.symm ?_)
  exact ⟨_, _, rfl, rfl, rfl, rfl⟩
theorem caughtOk : CaughtOk := by
  refine ⟨fun i s p hf hs => ?_, fun i s p hf hs => ?_, fun d s p hs => ?_⟩
  · refine ws_rt ?_
    unfold su_InvalidKey
    walk_at "VC"
    refine Wp.of_eq (err_InvalidKey i.a p) ?_
    walk_at "VC"
    refine Wp.of_eq (fld_InvalidKey i hf p) ?_
    walk_at "VX"
    exact ⟨s, hs, wi_nil ⟨by show 2 ≤ lim; decide, rfl, rfl⟩⟩
  · refine ws_rt ?_
    unfold su_InvalidPath
    walk_at "VC"
    refine Wp.of_eq (err_InvalidPath i.a p) ?_
    walk_at "VC"
    refine Wp.of_eq (fld_InvalidPath i hf p) ?_
    walk_at "VX"
    exact ⟨s, hs, wi_nil ⟨by show 2 ≤ lim; decide, rfl, rfl⟩⟩
  · refine ws_rt ?_
    unfold re__law_caught
    walk_at "VX"
    exact ⟨s, hs, wi_nil ⟨by show 2 ≤ lim; decide, rfl, rfl⟩⟩
end K01
namespace K01
variable [Dt.GTab]
open PySem PySem.Spec PyProof.Rows L2 Dt Tx
local macro_rules
  | `(tactic| walk_at "VC") => `(tactic| repeat (first
        | (with_reducible refine si_raise ?_)
        | (with_reducible refine si_seq ?_)
        | (with_reducible refine si_for ?_)
        | (with_reducible refine si_forX ?_)
        | ((with_reducible apply si_app); rfl)
        | (with_reducible refine si_pool ?_)
        | (with_reducible refine si_asg ?_)
        | (with_reducible refine si_asgV ?_)
        | (with_reducible refine si_new ?_)
        | (with_reducible refine si_drop ?_)
        | (with_reducible refine si_ret ?_)
        | (with_reducible refine si_retX ?_)
        | (with_reducible refine si_if ?_)
        | ((with_reducible apply si_aug); rfl)
        | (with_reducible refine si_par ?_)
        | (with_reducible refine si_parO ?_)
        | (with_reducible refine si_asgG ?_)
        | (with_reducible refine si_next ?_)
        | (with_reducible refine si_brk ?_)
        | (with_reducible refine si_cnt ?_)
        | (with_reducible refine si_retN ?_)
        | ((with_reducible apply si_catO); rfl)
        | (with_reducible refine si_par3 ?_)
        | ((with_reducible apply si_shr); rfl)
        | ((with_reducible apply wi_var); rfl)
        | (with_reducible refine wi_c ?_)
        | (with_reducible refine wi_op ?_)
        | (with_reducible refine wi_un ?_)
        | (with_reducible refine wi_nil ?_)
        | (with_reducible refine wi_cons ?_)
        | (with_reducible refine wi_cb ?_)
        | (with_reducible refine wi_mt ?_)
        | (with_reducible refine wi_tst ?_)
        | (with_reducible refine wi_tru ?_)
        | (with_reducible refine wi_and ?_)
        | (with_reducible refine wi_or ?_)
        | (with_reducible refine wi_not ?_)
        | (with_reducible refine wi_if ?_)
        | (with_reducible refine wi_andV ?_)
        | (with_reducible refine wi_orV ?_)
        | (with_reducible refine wi_notV ?_)
        | (with_reducible refine wi_tup ?_)
        | (with_reducible refine wi_lst ?_)
        | (with_reducible refine wi_ofF ?_)
        | (with_reducible refine wi_fresh ?_)
        | (with_reducible refine wi_isi ?_)
        | (with_reducible refine wi_sl ?_)
        | (with_reducible refine wi_oNone ?_)
        | (with_reducible refine wi_oSome ?_)
        | (with_reducible refine wi_call ?_)
        | (with_reducible refine wi_callF ?_)
        | (with_reducible refine wi_items ?_)
        | (with_reducible refine wi_lc ?_)
        | (with_reducible refine wi_star ?_)
        | (with_reducible refine wi_ix ?_)
        | (with_reducible refine wi_chain ?_)
        | (with_reducible refine wi_rng1 ?_)
        | (with_reducible refine wi_rng2 ?_)
        | (with_reducible refine wi_enum ?_)
        | (with_reducible refine wi_enumT ?_)
        | (with_reducible refine wi_zip ?_)
        | (with_reducible refine wi_zipK ?_)
        | (with_reducible refine wi_yes ?_)
        | (with_reducible refine wi_enumA ?_)
        | (with_reducible refine wi_slt ?_)
        | (with_reducible refine wi_isiC ?_)
        | (with_reducible refine wi_prop ?_)
        | (with_reducible refine wi_callP ?_)
        | (with_reducible refine wi_dc ?_)
        | (with_reducible refine wi_sortIt ?_)
        | (with_reducible refine wi_listIt ?_)
        | (with_reducible refine wi_isiA ?_)
        | (with_reducible refine wi_isiO ?_)
        | (with_reducible refine wi_own1 ?_)
        | (with_reducible refine wi_subOwn ?_)
        | (with_reducible refine wi_inOwn ?_)
        | (with_reducible refine wi_meth ?_)
        | (with_reducible refine wi_methK ?_)
        | (with_reducible refine wi_js0 ?_)
        | (with_reducible refine wi_js ?_)
        | (with_reducible refine wi_disp ?_)
        | (with_reducible refine wi_pairs0 ?_)
        | (with_reducible refine wi_pairs ?_)
        | (with_reducible refine wi_eqOwn ?_)
        | (with_reducible refine wi_truK ?_)
        | (with_reducible refine wi_fg ?_)
        | (with_reducible refine wi_isE ?_)
        | (with_reducible refine wi_caught ?_)
        | (with_reducible refine star_l ?_)
        | (with_reducible refine star_t ?_)
        | (with_reducible refine (pr2 (x := _) (y := _)).mpr ?_)
        | (with_reducible refine ⟨_, ev_eqS, ?_⟩)
        | (with_reducible refine ⟨_, ev_neS, ?_⟩)
        | (with_reducible refine ⟨_, ev_eqI, ?_⟩)
        | (with_reducible refine ⟨_, ev_neI, ?_⟩)
        | (with_reducible refine ⟨_, ev_eqT1, ?_⟩)
        | (with_reducible refine ⟨_, ev_eqT, ?_⟩)
        | (with_reducible refine ⟨_, ev_eqL, ?_⟩)
        | (with_reducible refine ⟨_, ev_neB, ?_⟩)
        | (with_reducible refine ⟨_, ev_inL, ?_⟩)
        | (with_reducible refine ⟨_, ev_inT, ?_⟩)
        | (with_reducible refine ⟨_, ev_ninL, ?_⟩)
        | (with_reducible refine ⟨_, ev_ninT, ?_⟩)
        | (with_reducible refine ⟨_, ev_inTL1, ?_⟩)
        | (with_reducible refine ⟨_, ev_ninTL1, ?_⟩)
        | (with_reducible refine ⟨_, ev_ninTL0, ?_⟩)
        | (with_reducible refine ⟨_, ev_inTL, ?_⟩)
        | (with_reducible refine ⟨_, ev_ninTL, ?_⟩)
        | (with_reducible refine ⟨_, sl_take1, ?_⟩)
        | (with_reducible refine ⟨_, sl_drop1, ?_⟩)
        | (with_reducible refine ⟨_, ev_all_map, ?_⟩)
        | (with_reducible refine ⟨_, ev_any_map, ?_⟩)
        | (with_reducible refine ⟨_, ev_all, ?_⟩)
        | (with_reducible refine ⟨_, ev_any, ?_⟩)
        | (with_reducible refine bl_i ?_)
        | (with_reducible refine int_i ?_)
        | (with_reducible refine tru_bl ?_)
        | (with_reducible refine neg_i ?_)
        | (with_reducible refine len_l ?_)
        | (with_reducible refine len_t ?_)
        | (with_reducible refine tup_l ?_)
        | (with_reducible refine it_l ?_)
        | (with_reducible refine it_t ?_)
        | (refine ite_t (by rfl) ?_)
        | (refine ite_f (by rfl) ?_)
        | (refine ⟨_, ev_mod (by omega), ?_⟩)
        | (refine ⟨_, ev_div (by omega) (by omega), ?_⟩)
        | (refine ⟨_, ev_divmod (by omega) (by omega), ?_⟩)
        | (refine ⟨_, ev_mulR (by omega) (by omega), ?_⟩)
        | (refine ⟨_, ev_mulL (by omega) (by omega), ?_⟩)
        | (refine ⟨_, rfl, ?_⟩)
        | (exact ⟨rfl, rfl⟩)
        | (refine ⟨rfl, ?_⟩)
        | (refine ⟨by decide, ?_⟩)
        | (refine ⟨(by simp only [List.length_cons, List.length_nil, lim]; decide), ?_⟩)
        | (refine ⟨of_decide_eq_true (by rfl), ?_⟩)))
local macro_rules
  | `(tactic| walk_at "VX") => `(tactic| repeat (first
        | (with_reducible refine si_raise ?_)
        | (with_reducible refine si_seq ?_)
        | (with_reducible refine si_for ?_)
        | (with_reducible refine si_forX ?_)
        | ((with_reducible apply si_app); rfl)
        | (with_reducible refine si_pool ?_)
        | (with_reducible refine si_asg ?_)
        | (with_reducible refine si_asgV ?_)
        | (with_reducible refine si_new ?_)
        | (with_reducible refine si_drop ?_)
        | (with_reducible refine si_ret ?_)
        | (with_reducible refine si_retX ?_)
        | (with_reducible refine si_if ?_)
        | ((with_reducible apply si_aug); rfl)
        | (with_reducible refine si_par ?_)
        | (with_reducible refine si_parO ?_)
        | (with_reducible refine si_asgG ?_)
        | (with_reducible refine si_next ?_)
        | (with_reducible refine si_brk ?_)
        | (with_reducible refine si_cnt ?_)
        | (with_reducible refine si_retN ?_)
        | ((with_reducible apply si_catO); rfl)
        | (with_reducible refine si_par3 ?_)
        | ((with_reducible apply si_shr); rfl)
        | ((with_reducible apply wi_var); rfl)
        | (with_reducible refine wi_c ?_)
        | (with_reducible refine wi_op ?_)
        | (with_reducible refine wi_un ?_)
        | (with_reducible refine wi_nil ?_)
        | (with_reducible refine wi_cons ?_)
        | (with_reducible refine wi_cb ?_)
        | (with_reducible refine wi_mt ?_)
        | (with_reducible refine wi_tst ?_)
        | (with_reducible refine wi_tru ?_)
        | (with_reducible refine wi_and ?_)
        | (with_reducible refine wi_or ?_)
        | (with_reducible refine wi_not ?_)
        | (with_reducible refine wi_if ?_)
        | (with_reducible refine wi_andV ?_)
        | (with_reducible refine wi_orV ?_)
        | (with_reducible refine wi_notV ?_)
        | (with_reducible refine wi_tup ?_)
        | (with_reducible refine wi_lst ?_)
        | (with_reducible refine wi_ofF ?_)
        | (with_reducible refine wi_fresh ?_)
        | (with_reducible refine wi_isi ?_)
        | (with_reducible refine wi_sl ?_)
        | (with_reducible refine wi_oNone ?_)
        | (with_reducible refine wi_oSome ?_)
        | (with_reducible refine wi_call ?_)
        | (with_reducible refine wi_callF ?_)
        | (with_reducible refine wi_items ?_)
        | (with_reducible refine wi_lc ?_)
        | (with_reducible refine wi_star ?_)
        | (with_reducible refine wi_ix ?_)
        | (with_reducible refine wi_chain ?_)
        | (with_reducible refine wi_rng1 ?_)
        | (with_reducible refine wi_rng2 ?_)
        | (with_reducible refine wi_enum ?_)
        | (with_reducible refine wi_enumT ?_)
        | (with_reducible refine wi_zip ?_)
        | (with_reducible refine wi_zipK ?_)
        | (with_reducible refine wi_yes ?_)
        | (with_reducible refine wi_enumA ?_)
        | (with_reducible refine wi_slt ?_)
        | (with_reducible refine wi_isiC ?_)
        | (with_reducible refine wi_prop ?_)
        | (with_reducible refine wi_callP ?_)
        | (with_reducible refine wi_dc ?_)
        | (with_reducible refine wi_sortIt ?_)
        | (with_reducible refine wi_listIt ?_)
        | (with_reducible refine wi_isiA ?_)
        | (with_reducible refine wi_isiO ?_)
        | (with_reducible refine wi_own1 ?_)
        | (with_reducible refine wi_subOwn ?_)
        | (with_reducible refine wi_inOwn ?_)
        | (with_reducible refine wi_meth ?_)
        | (with_reducible refine wi_methK ?_)
        | (with_reducible refine wi_js0 ?_)
        | (with_reducible refine wi_js ?_)
        | (with_reducible refine wi_disp ?_)
        | (with_reducible refine wi_pairs0 ?_)
        | (with_reducible refine wi_pairs ?_)
        | (with_reducible refine wi_eqOwn ?_)
        | (with_reducible refine wi_truK ?_)
        | (with_reducible refine wi_fg ?_)
        | (with_reducible refine wi_isE ?_)
        | (with_reducible refine wi_caught ?_)
        | (with_reducible refine star_l ?_)
        | (with_reducible refine star_t ?_)
        | (with_reducible refine (pr2 (x := _) (y := _)).mpr ?_)
        | (with_reducible refine ⟨_, ev_eqS, ?_⟩)
        | (with_reducible refine ⟨_, ev_neS, ?_⟩)
        | (with_reducible refine ⟨_, ev_eqI, ?_⟩)
        | (with_reducible refine ⟨_, ev_neI, ?_⟩)
        | (with_reducible refine ⟨_, ev_eqT1, ?_⟩)
        | (with_reducible refine ⟨_, ev_eqT, ?_⟩)
        | (with_reducible refine ⟨_, ev_eqL, ?_⟩)
        | (with_reducible refine ⟨_, ev_neB, ?_⟩)
        | (with_reducible refine ⟨_, ev_inL, ?_⟩)
        | (with_reducible refine ⟨_, ev_inT, ?_⟩)
        | (with_reducible refine ⟨_, ev_ninL, ?_⟩)
        | (with_reducible refine ⟨_, ev_ninT, ?_⟩)
        | (with_reducible refine ⟨_, ev_inTL1, ?_⟩)
        | (with_reducible refine ⟨_, ev_ninTL1, ?_⟩)
        | (with_reducible refine ⟨_, ev_ninTL0, ?_⟩)
        | (with_reducible refine ⟨_, ev_inTL, ?_⟩)
        | (with_reducible refine ⟨_, ev_ninTL, ?_⟩)
        | (with_reducible refine ⟨_, sl_take1, ?_⟩)
        | (with_reducible refine ⟨_, sl_drop1, ?_⟩)
        | (with_reducible refine ⟨_, ev_all_map, ?_⟩)
        | (with_reducible refine ⟨_, ev_any_map, ?_⟩)
        | (with_reducible refine ⟨_, ev_all, ?_⟩)
        | (with_reducible refine ⟨_, ev_any, ?_⟩)
        | (with_reducible refine bl_i ?_)
        | (with_reducible refine int_i ?_)
        | (with_reducible refine tru_bl ?_)
        | (with_reducible refine neg_i ?_)
        | (with_reducible refine len_l ?_)
        | (with_reducible refine len_t ?_)
        | (with_reducible refine tup_l ?_)
        | (with_reducible refine it_l ?_)
        | (with_reducible refine it_t ?_)
        | (refine ite_t (by rfl) ?_)
        | (refine ite_f (by rfl) ?_)
        | (refine ⟨_, ev_mod (by omega), ?_⟩)
        | (refine ⟨_, ev_div (by omega) (by omega), ?_⟩)
        | (refine ⟨_, ev_divmod (by omega) (by omega), ?_⟩)
        | (refine ⟨_, ev_mulR (by omega) (by omega), ?_⟩)
        | (refine ⟨_, ev_mulL (by omega) (by omega), ?_⟩)
        | (exact ⟨rfl, rfl⟩)
        | (refine ⟨rfl, ?_⟩)
        | (refine ⟨by decide, ?_⟩)
        | (refine ⟨(by simp only [List.length_cons, List.length_nil, lim]; decide), ?_⟩)
        | (refine ⟨of_decide_eq_true (by rfl), ?_⟩)))
theorem let_eq : tl sLet = List.range' 97 26 := by decide +kernel
theorem mem_let {c : Nat} : c ∈ tl sLet ↔ 97 ≤ c ∧ c ≤ 122 := by
  rw [let_eq, List.mem_range']
  constructor
  · rintro ⟨i, h1, rfl⟩
    omega
  · intro h
    exact ⟨c - 97, by omega, by omega⟩
theorem chars_len {s : Str} (h : s.length ≤ 3000) : (chars s).length ≤ lim := by
  unfold chars
  rw [List.length_map, ← TL.len_tl]
  unfold lim
  omega
theorem nmB_no1 {s : Str} (h : decide ((1 : Int) ≤ (s.length : Int)) = false) : nmB s = false := by
  have := of_decide_eq_false h
  unfold nmB
  rw [decide_eq_false (show ¬ 1 ≤ s.length by omega)]
  rfl
theorem nmB_no2 {s : Str} (h : decide ((s.length : Int) ≤ (8 : Int)) = false) : nmB s = false := by
  have := of_decide_eq_false h
  unfold nmB
  rw [decide_eq_false (show ¬ s.length ≤ 8 by omega), Bool.and_false]
  rfl
theorem nmB_all {s : Str} (h1 : 1 ≤ s.length) (h2 : s.length ≤ 8) : nmB s = (tl s).all fun c => decide (c ∈ tl sLet) := by
  unfold nmB
  rw [decide_eq_true h1, decide_eq_true h2]
  rfl
theorem is_name_any {s : Str} (hl : s.length ≤ 3000) (p : List Int) : m_is_name [.str s] p = some (.bl (nmB s), p) := by
  refine Wp.eq ?_
  unfold m_is_name
  refine fi_run ?_
  unfold b_is_name
  walk_at "VC"
  refine ite_b (fun h1 => ?_) fun h1 => ?_
  · walk_at "VC"
    refine ite_b (fun h2 => ?_) fun h2 => ?_
    · walk_at "VC"
      refine ⟨?_, Wp.of_eq (lcGo_all (fun c => D.str ⟨#[c]⟩) (fun c => .bl (decide (c ∈ tl sLet))) fun c hc => ⟨_, rfl, rfl, rfl⟩) ?_⟩
      · exact chars_len hl
      walk_at "VC"
      have a1 := of_decide_eq_true h1
      have a2 := of_decide_eq_true h2
      refine ⟨congrArg D.bl ?_, rfl⟩
      rw [nmB_all (by omega) (by omega)]
    · walk_at "VC"
      exact ⟨congrArg D.bl (Eq.trans h2 (nmB_no2 h2).symm), rfl⟩
  · walk_at "VC"
    exact ⟨congrArg D.bl (nmB_no1 h1).symm, rfl⟩
theorem lt1c (c d : Nat) : sLt (⟨#[c]⟩ : Str) ⟨#[d]⟩ = decide (c < d) := by
  unfold sLt
  rw [decide_eq_decide]
  simp [List.cons_lt_cons_iff]
theorem law_is_name_any {s : Str} (hl : s.length ≤ 3000) (p : List Int) : m__law_is_name [.str s] p = some (.bl (nmB s), p) := by
  refine Wp.eq ?_
  unfold m__law_is_name
  refine fi_run ?_
  unfold b__law_is_name
  have key : ∀ (c0 c1 : Cl), 1 ≤ s.length → s.length ≤ 8 → Ws (sRet false (mCB dAll (mCons (mOfF (mLc [1] (mItems (mVar 0)) (gN 1) c1__law_is_namet c1__law_is_name)) (mNil))) [.sh (.str s), c1] p) (fun _ p' => D.non = .bl (nmB s) ∧ p' = p) (fun d q => d = .bl (nmB s) ∧ q = p) (fun _ _ => False) (fun _ _ => False) := by
    intro c0 c1 h1 h2
    walk_at "VC"
    refine ⟨chars_len hl, Wp.of_eq (lcGo_all (fun c => D.str ⟨#[c]⟩) (fun c => .bl (decide (97 ≤ c ∧ c ≤ 122))) fun c hc => ⟨_, rfl, rfl, Wp.eq ?_⟩) ?_⟩
    · unfold c1__law_is_name
      refine wi_chain (wi_c (wi_var rfl ⟨_, rfl, !sLt (⟨#[c]⟩ : Str) ⟨#[97]⟩, rfl, ?_⟩))
      rw [lt1c]
      by_cases hc1 : c < 97
      · rw [decide_eq_true hc1]
        refine ite_f rfl ⟨congrArg D.bl ?_, rfl⟩
        exact (decide_eq_false (by omega)).symm
      · rw [decide_eq_false hc1]
        refine ite_t rfl (wi_c ⟨.bl (!sLt (⟨#[122]⟩ : Str) ⟨#[c]⟩), rfl, congrArg D.bl ?_, rfl⟩)
        rw [lt1c, ← decide_not]
        exact decide_eq_decide.mpr (by omega)
    walk_at "VC"
    refine ⟨congrArg D.bl ?_, rfl⟩
    rw [nmB_all h1 h2]
    have : (fun c : Nat => decide (97 ≤ c ∧ c ≤ 122)) = fun c => decide (c ∈ tl sLet) := by
      funext c
      exact decide_eq_decide.mpr mem_let.symm
    rw [this]
  refine si_seq (si_if (wi_or (wi_not (wi_tru (wi_isiA (wi_var rfl ⟨.bl true, rfl, true, rfl, ite_f rfl ?_⟩))))))
  refine wi_not (wi_tst (wi_chain (wi_c (wi_cb (wi_cons (wi_var rfl (wi_nil ⟨.int s.length, rfl, _, rfl, _, rfl, ?_⟩)))))))
  refine ite_b (fun h1 => ?_) fun h1 => ?_
  · have h1 : (0 : Int) < (s.length : Int) := of_decide_eq_true h1
    refine wi_c ⟨_, rfl, bl_i ?_⟩
    refine ite_b (fun h2 => ?_) fun h2 => ?_
    · have h2 : decide ((s.length : Int) < (9 : Int)) = false := by
        cases hd : decide ((s.length : Int) < (9 : Int)) with
        | false => rfl
        | true =>
          have h3 : (!decide ((s.length : Int) < (9 : Int))) = true := h2
          rw [hd] at h3
          cases h3
      refine si_ret (wi_c ⟨congrArg D.bl (nmB_no2 (decide_eq_false ?_)).symm, rfl⟩)
      have := of_decide_eq_false h2
      omega
    · have h2 : decide ((s.length : Int) < (9 : Int)) = true := by
        cases hd : decide ((s.length : Int) < (9 : Int)) with
        | true => rfl
        | false =>
          have h3 : (!decide ((s.length : Int) < (9 : Int))) = false := h2
          rw [hd] at h3
          cases h3
      have h2 := of_decide_eq_true h2
      exact si_next (key .no .no (by omega) (by omega))
  · refine bl_i (ite_t rfl (si_ret (wi_c ⟨congrArg D.bl (nmB_no1 (decide_eq_false ?_)).symm, rfl⟩)))
    have := of_decide_eq_false h1
    omega
theorem nm_ofB {s : Str} (h : nmB s = true) : Nm s := by
  unfold nmB at h
  rw [Bool.and_eq_true, Bool.and_eq_true] at h
  exact ⟨of_decide_eq_true h.1.1, of_decide_eq_true h.1.2, fun c hc => of_decide_eq_true (List.all_eq_true.mp h.2 c hc)⟩
theorem names_in_any {ps : List Str} (h : ps ≠ []) (hp : ∀ p ∈ ps, noSl p) (p : List Int) : m_names_in [.str (J ps)] p = some (TS ps, p) := by
  refine Wp.eq ?_
  unfold m_names_in
  refine fi_run ?_
  unfold b_names_in
  walk_at "VX"
  refine ⟨_, ev_splitP h hp, ?_⟩
  walk_at "VC"
theorem le_sumN {x : Nat} : ∀ {l : List Nat}, x ∈ l → x ≤ l.sum
  | y :: l, h => by
    rw [List.sum_cons]
    rcases List.mem_cons.mp h with rfl | h
    · omega
    · have := le_sumN h
      omega
theorem parts_len {ps : List Str} (h : ps ≠ []) (hl : (J ps).length ≤ 2000) : ps.length ≤ 2001 ∧ ∀ x ∈ ps, x.length ≤ 2001 := by
  have h1 := J_len h
  refine ⟨?_, fun x hx => ?_⟩
  · have := wt_len ps
    omega
  · have : x.length + 1 ≤ wt ps := by
      unfold wt
      exact le_sumN (List.mem_map.mpr ⟨x, hx, rfl⟩)
    omega
theorem is_key_any {ps : List Str} (h : ps ≠ []) (hp : ∀ p ∈ ps, noSl p) (hl : (J ps).length ≤ 2000) (p : List Int) : m_is_key [.str (J ps)] p = some (.bl (ps.all nmB), p) := by
  obtain ⟨l1, l2⟩ := parts_len h hl
  refine Wp.eq ?_
  unfold m_is_key
  refine fi_run ?_
  unfold b_is_key
  refine si_ret (wi_andV (wi_isiA (wi_var rfl ⟨.bl true, rfl, true, rfl, ite_t rfl ?_⟩)))
  refine wi_cb (wi_cons (wi_ofF (wi_lc (wi_items (wi_call (wi_cons (wi_var rfl (wi_nil ⟨rfl, Wp.of_eq (names_in_any h hp p) (it_t ⟨?_, ?_⟩)⟩))))))))
  · rw [List.length_map]
    unfold lim
    omega
  refine Wp.of_eq (lcGo_all D.str (fun s => .bl (nmB s)) fun s hs => ⟨_, rfl, rfl, Wp.eq ?_⟩) ?_
  · unfold c1_is_key
    exact wi_call (wi_cons (wi_var rfl (wi_nil ⟨rfl, Wp.of_eq (is_name_any (by have := l2 s hs; omega) p) ⟨rfl, rfl⟩⟩)))
  exact wi_nil ⟨_, ev_all_map, rfl, rfl⟩
theorem law_is_key_any {ps : List Str} (h : ps ≠ []) (hp : ∀ p ∈ ps, noSl p) (hl : (J ps).length ≤ 2000) (n : Int) (p : List Int) : m__law_is_key [.str (J ps), .int n] p = some (.bl (decide ((ps.length : Int) ≤ n) && ps.all nmB), p) := by
  obtain ⟨l1, l2⟩ := parts_len h hl
  refine Wp.eq ?_
  unfold m__law_is_key
  refine fi_run ?_
  unfold b__law_is_key
  refine si_seq (si_if (wi_not (wi_tru (wi_isiA (wi_var rfl ⟨.bl true, rfl, true, rfl, ite_f rfl (si_next ?_)⟩)))))
  refine si_seq (si_asg (wi_mt (wi_var rfl (wi_cons (wi_c (wi_nil ⟨_, ev_splitP h hp, ?_⟩))))))
  refine si_ret (wi_andV (wi_op (wi_cb (wi_cons (wi_var rfl (wi_nil ⟨.int (ps.map D.str).length, rfl, wi_var rfl ⟨.bl (decide (((ps.map D.str).length : Int) ≤ n)), rfl, decide (((ps.map D.str).length : Int) ≤ n), rfl, ?_⟩⟩))))))
  rw [List.length_map]
  cases decide ((ps.length : Int) ≤ n) with
  | false => exact ite_f rfl ⟨rfl, rfl⟩
  | true =>
    refine ite_t rfl ?_
    refine wi_cb (wi_cons (wi_ofF (wi_lc (wi_items (wi_var rfl (it_l ⟨?_, ?_⟩))))))
    · rw [List.length_map]
      unfold lim
      omega
    refine Wp.of_eq (lcGo_all D.str (fun s => .bl (nmB s)) fun s hs => ⟨_, rfl, rfl, Wp.eq ?_⟩) ?_
    · unfold c1__law_is_key
      exact wi_call (wi_cons (wi_var rfl (wi_nil ⟨rfl, Wp.of_eq (law_is_name_any (by have := l2 s hs; omega) p) ⟨rfl, rfl⟩⟩)))
    exact wi_nil ⟨_, ev_all_map, rfl, rfl⟩
theorem is_path_any {ps : List Str} (h : ps ≠ []) (hp : ∀ p ∈ ps, noSl p) (hl : (J ps).length ≤ 2000) (p : List Int) : m_is_path [.str (J ps)] p = some (.bl (decide ((ps.length : Int) ≤ 3) && ps.all nmB), p) := by
  refine Wp.eq ?_
  unfold m_is_path
  refine fi_run ?_
  unfold b_is_path
  refine si_ret (wi_andV (wi_call (wi_cons (wi_var rfl (wi_nil ⟨rfl, Wp.of_eq (is_key_any h hp hl p) ⟨_, rfl, ?_⟩⟩)))))
  cases ps.all nmB with
  | false => exact ite_f rfl ⟨by rw [Bool.and_false], rfl⟩
  | true =>
    refine ite_t rfl (wi_op (wi_cb (wi_cons (wi_call (wi_cons (wi_var rfl (wi_nil ⟨rfl, Wp.of_eq (names_in_any h hp p) (wi_nil ⟨.int (ps.map D.str).length, rfl, wi_c ⟨.bl (decide (((ps.map D.str).length : Int) ≤ 3)), rfl, ?_, rfl⟩⟩)⟩)))))))
    rw [List.length_map, Bool.and_true]
end K01
namespace K01
variable [Dt.GTab]
open PySem PySem.Spec PyProof.Rows L2 Dt Tx
structure Thg (d : D) (nB kB pB : Bool) : Prop where
  n1 : ∀ p, m_is_name [d] p = some (.bl nB, p)
  n2 : ∀ p, m__law_is_name [d] p = some (.bl nB, p)
  k1 : ∀ p, m_is_key [d] p = some (.bl kB, p)
  k2 : ∀ p, m__law_is_key [d, .int 99] p = some (.bl kB, p)
  p1 : ∀ p, m_is_path [d] p = some (.bl pB, p)
  p2 : ∀ p, m__law_is_key [d, .int 3] p = some (.bl pB, p)
  key : kB = true → ∃ ps, ps ≠ [] ∧ ps.length ≤ 49 ∧ (∀ x ∈ ps, Nm x) ∧ d = .str (J ps) ∧ (J ps).length ≤ 97
  pk : pB = true → kB = true
  pl : pB = true → ∀ ps, ps ≠ [] → (∀ x ∈ ps, noSl x) → d = .str (J ps) → ps.length ≤ 3
  rp : ∃ s, dReprS [d] = some (.str s)
/-- a short text of signs -/
def Sm (z : Str) : Prop := z.length ≤ 97 ∧ ∀ c ∈ tl z, c < 16 ^ 8
theorem wt_ge : ∀ {ps : List Str}, (∀ x ∈ ps, 1 ≤ x.length) → 2 * ps.length ≤ wt ps
  | [], _ => Nat.zero_le _
  | x :: ps, h => by
    have h1 := h x List.mem_cons_self
    have h2 := wt_ge (ps := ps) fun y hy => h y (List.mem_cons_of_mem _ hy)
    have h3 : wt (x :: ps) = x.length + 1 + wt ps := by
      unfold wt
      rw [List.map_cons, List.sum_cons]
    rw [h3, List.length_cons]
    omega
theorem thg_str {z : Str} (h : Sm z) : ∃ nB kB pB, Thg (.str z) nB kB pB := by
  obtain ⟨ps, h1, h2, rfl⟩ := str_parts z
  have hl := h.1
  have hJ := J_len h1
  have hw := wt_len ps
  refine ⟨nmB (J ps), ps.all nmB, decide ((ps.length : Int) ≤ 3) && ps.all nmB, is_name_any (by omega), law_is_name_any (by omega), is_key_any h1 h2 (by omega), fun p => ?_, is_path_any h1 h2 (by omega), law_is_key_any h1 h2 (by omega) 3, fun hk => ?_, fun hp => ?_, fun hp qs q1 q2 e => ?_, ?_⟩
  · have := law_is_key_any h1 h2 (by omega) 99 p
    rw [decide_eq_true (by omega), Bool.true_and] at this
    exact this
  · have hn := fun x hx => nm_ofB (List.all_eq_true.mp hk x hx)
    have := wt_ge fun x hx => (hn x hx).pos
    exact ⟨ps, h1, by omega, hn, rfl, hl⟩
  · rw [Bool.and_eq_true] at hp
    exact hp.2
  · rw [Bool.and_eq_true] at hp
    have := of_decide_eq_true hp.1
    have e2 : ps = qs := J_inj h1 h2 q1 q2 (D.str.inj e)
    rw [← e2]
    omega
  · exact reprS_of (sx_str h.2 hl) (by decide) (by decide)
def things : List D := [.non, .int 0, .bl true, .tup [], .tup [.str "a"], .lst [.str "a"], .dk [] [], .int 7]
theorem thg_oth {d : D} (h : d ∈ things) : Thg d false false false := by
  unfold things at h
  simp only [List.mem_cons, List.mem_nil_iff, or_false] at h
  have sa : Sx 0 32 (.str "a") := sx_str (by decide +kernel) (n := 3) (by decide +kernel)
  have rt : ∃ s, dReprS [.tup [.str "a"]] = some (.str s) := reprS_of (sx_tup (m := 1) (fun d hd => by rw [List.mem_singleton.mp hd]; exact sa) (by decide)) (by decide) (by decide)
  have rl : ∃ s, dReprS [.lst [.str "a"]] = some (.str s) := reprS_of (sx_lst (m := 1) (fun d hd => by rw [List.mem_singleton.mp hd]; exact sa) (by decide)) (by decide) (by decide)
  have r0 : ∃ s, dReprS [.tup []] = some (.str s) := reprS_of (sx_tup (k := 0) (n := 0) (m := 1) (fun d hd => by cases hd) (by decide)) (by decide) (by decide)
  rcases h with rfl | rfl | rfl | rfl | rfl | rfl | rfl | rfl
  · exact ⟨fun p => rfl, fun p => rfl, fun p => rfl, fun p => rfl, fun p => rfl, fun p => rfl, (fun h => by cases h), (fun h => h), (fun h => by cases h), reprS_of sx_non (by decide) (by decide)⟩
  · exact ⟨fun p => rfl, fun p => rfl, fun p => rfl, fun p => rfl, fun p => rfl, fun p => rfl, (fun h => by cases h), (fun h => h), (fun h => by cases h), reprS_of (sx_int (by decide)) (by decide) (by decide) (by intro i e; cases e; decide)⟩
  · exact ⟨fun p => rfl, fun p => rfl, fun p => rfl, fun p => rfl, fun p => rfl, fun p => rfl, (fun h => by cases h), (fun h => h), (fun h => by cases h), ⟨_, rfl⟩⟩
  · exact ⟨fun p => rfl, fun p => rfl, fun p => rfl, fun p => rfl, fun p => rfl, fun p => rfl, (fun h => by cases h), (fun h => h), (fun h => by cases h), r0⟩
  · exact ⟨fun p => rfl, fun p => rfl, fun p => rfl, fun p => rfl, fun p => rfl, fun p => rfl, (fun h => by cases h), (fun h => h), (fun h => by cases h), rt⟩
  · exact ⟨fun p => rfl, fun p => rfl, fun p => rfl, fun p => rfl, fun p => rfl, fun p => rfl, (fun h => by cases h), (fun h => h), (fun h => by cases h), rl⟩
  · exact ⟨fun p => rfl, fun p => rfl, fun p => rfl, fun p => rfl, fun p => rfl, fun p => rfl, (fun h => by cases h), (fun h => h), (fun h => by cases h), ⟨_, rfl⟩⟩
  · exact ⟨fun p => rfl, fun p => rfl, fun p => rfl, fun p => rfl, fun p => rfl, fun p => rfl, (fun h => by cases h), (fun h => h), (fun h => by cases h), reprS_of (sx_int (by decide)) (by decide) (by decide) (by intro i e; cases e; decide)⟩
section
variable {d : D} {nB kB pB : Bool}
theorem ck_no (h : Thg d nB false pB) (p : List Int) : mx_check_key [d] p = some (exn "InvalidKey" "value" d, p) := by
  refine Wp.eq ?_
  unfold mx_check_key
  refine fi_run ?_
  unfold bx_check_key
  refine si_if (wi_not (wi_tru (wi_call (wi_cons (wi_var rfl (wi_nil ⟨rfl, Wp.of_eq (h.k1 p) ⟨false, rfl, ite_t rfl (si_raise (wi_var rfl ⟨rfl, rfl⟩))⟩⟩))))))
theorem ck_yes (h : Thg d nB true pB) (p : List Int) : mx_check_key [d] p = some (.non, p) ∧ m_check_key [d] p = some (.non, p) := by
  refine ⟨Wp.eq ?_, Wp.eq ?_⟩
  · unfold mx_check_key
    refine fi_run ?_
    unfold bx_check_key
    refine si_if (wi_not (wi_tru (wi_call (wi_cons (wi_var rfl (wi_nil ⟨rfl, Wp.of_eq (h.k1 p) ⟨true, rfl, ite_f rfl (si_next ⟨rfl, rfl⟩)⟩⟩))))))
  · unfold m_check_key
    refine fi_run ?_
    unfold b_check_key
    refine si_if (wi_not (wi_tru (wi_call (wi_cons (wi_var rfl (wi_nil ⟨rfl, Wp.of_eq (h.k1 p) ⟨true, rfl, ite_f rfl (si_next ⟨rfl, rfl⟩)⟩⟩))))))
theorem cp_no (h : Thg d nB kB false) (p : List Int) : mx_check_path [d] p = some (exn "InvalidPath" "value" d, p) := by
  refine Wp.eq ?_
  unfold mx_check_path
  refine fi_run ?_
  unfold bx_check_path
  refine si_if (wi_not (wi_tru (wi_call (wi_cons (wi_var rfl (wi_nil ⟨rfl, Wp.of_eq (h.p1 p) ⟨false, rfl, ite_t rfl (si_raise (wi_var rfl ⟨rfl, rfl⟩))⟩⟩))))))
theorem cp_yes (h : Thg d nB kB true) (p : List Int) : mx_check_path [d] p = some (.non, p) ∧ m_check_path [d] p = some (.non, p) := by
  refine ⟨Wp.eq ?_, Wp.eq ?_⟩
  · unfold mx_check_path
    refine fi_run ?_
    unfold bx_check_path
    refine si_if (wi_not (wi_tru (wi_call (wi_cons (wi_var rfl (wi_nil ⟨rfl, Wp.of_eq (h.p1 p) ⟨true, rfl, ite_f rfl (si_next ⟨rfl, rfl⟩)⟩⟩))))))
  · unfold m_check_path
    refine fi_run ?_
    unfold b_check_path
    refine si_if (wi_not (wi_tru (wi_call (wi_cons (wi_var rfl (wi_nil ⟨rfl, Wp.of_eq (h.p1 p) ⟨true, rfl, ite_f rfl (si_next ⟨rfl, rfl⟩)⟩⟩))))))
end
section
variable {k q r : D} {n1 k1 p1 n2 k2 p2 n3 k3 p3 : Bool}
theorem under_x1 (hk : Thg k n1 false p1) (p : List Int) : mx_is_under [k, q] p = some (exn "InvalidKey" "value" k, p) := by
  refine Wp.eq ?_
  unfold mx_is_under
  refine fi_run ?_
  unfold bx_is_under
  exact si_seq (si_dropXe (wi_call (wi_cons (wi_var rfl (wi_nil ⟨rfl, Wp.of_eq (ck_no hk p) ⟨rfl, rfl, rfl⟩⟩)))))
theorem under_x2 (hk : Thg k n1 true p1) (hq : Thg q n2 k2 false) (p : List Int) : mx_is_under [k, q] p = some (exn "InvalidPath" "value" q, p) := by
  refine Wp.eq ?_
  unfold mx_is_under
  refine fi_run ?_
  unfold bx_is_under
  refine si_seq (si_dropXn (wi_call (wi_cons (wi_var rfl (wi_nil ⟨rfl, Wp.of_eq (ck_yes hk p).1 ⟨rfl, ?_⟩⟩)))))
  exact si_seq (si_dropXe (wi_call (wi_cons (wi_var rfl (wi_nil ⟨rfl, Wp.of_eq (cp_no hq p) ⟨rfl, rfl, rfl⟩⟩)))))
theorem put_x1 (hk : Thg k n1 false p1) (p : List Int) : mx_put_at [k, q, r] p = some (exn "InvalidKey" "value" k, p) := by
  refine Wp.eq ?_
  unfold mx_put_at
  refine fi_run ?_
  unfold bx_put_at
  exact si_seq (si_dropXe (wi_call (wi_cons (wi_var rfl (wi_nil ⟨rfl, Wp.of_eq (ck_no hk p) ⟨rfl, rfl, rfl⟩⟩)))))
theorem put_x2 (hk : Thg k n1 true p1) (hq : Thg q n2 k2 false) (p : List Int) : mx_put_at [k, q, r] p = some (exn "InvalidPath" "value" q, p) := by
  refine Wp.eq ?_
  unfold mx_put_at
  refine fi_run ?_
  unfold bx_put_at
  refine si_seq (si_dropXn (wi_call (wi_cons (wi_var rfl (wi_nil ⟨rfl, Wp.of_eq (ck_yes hk p).1 ⟨rfl, ?_⟩⟩)))))
  exact si_seq (si_dropXe (wi_call (wi_cons (wi_var rfl (wi_nil ⟨rfl, Wp.of_eq (cp_no hq p) ⟨rfl, rfl, rfl⟩⟩)))))
theorem put_x3 (hk : Thg k n1 true p1) (hq : Thg q n2 k2 true) (hr : Thg r n3 k3 false) (p : List Int) : mx_put_at [k, q, r] p = some (exn "InvalidPath" "value" r, p) := by
  refine Wp.eq ?_
  unfold mx_put_at
  refine fi_run ?_
  unfold bx_put_at
  refine si_seq (si_dropXn (wi_call (wi_cons (wi_var rfl (wi_nil ⟨rfl, Wp.of_eq (ck_yes hk p).1 ⟨rfl, ?_⟩⟩)))))
  refine si_seq (si_dropXn (wi_call (wi_cons (wi_var rfl (wi_nil ⟨rfl, Wp.of_eq (cp_yes hq p).1 ⟨rfl, ?_⟩⟩)))))
  exact si_seq (si_dropXe (wi_call (wi_cons (wi_var rfl (wi_nil ⟨rfl, Wp.of_eq (cp_no hr p) ⟨rfl, rfl, rfl⟩⟩)))))
end
end K01
namespace K01
variable [Dt.GTab]
open PySem PySem.Spec PyProof.Rows L2 Dt Tx
local macro_rules
  | `(tactic| walk_at "VC") => `(tactic| repeat (first
        | (with_reducible refine si_raise ?_)
        | (with_reducible refine si_seq ?_)
        | (with_reducible refine si_for ?_)
        | (with_reducible refine si_forX ?_)
        | ((with_reducible apply si_app); rfl)
        | (with_reducible refine si_pool ?_)
        | (with_reducible refine si_asg ?_)
        | (with_reducible refine si_asgV ?_)
        | (with_reducible refine si_new ?_)
        | (with_reducible refine si_drop ?_)
        | (with_reducible refine si_ret ?_)
        | (with_reducible refine si_retX ?_)
        | (with_reducible refine si_if ?_)
        | ((with_reducible apply si_aug); rfl)
        | (with_reducible refine si_par ?_)
        | (with_reducible refine si_parO ?_)
        | (with_reducible refine si_asgG ?_)
        | (with_reducible refine si_next ?_)
        | (with_reducible refine si_brk ?_)
        | (with_reducible refine si_cnt ?_)
        | (with_reducible refine si_retN ?_)
        | ((with_reducible apply si_catO); rfl)
        | (with_reducible refine si_par3 ?_)
        | ((with_reducible apply si_shr); rfl)
        | ((with_reducible apply wi_var); rfl)
        | (with_reducible refine wi_c ?_)
        | (with_reducible refine wi_op ?_)
        | (with_reducible refine wi_un ?_)
        | (with_reducible refine wi_nil ?_)
        | (with_reducible refine wi_cons ?_)
        | (with_reducible refine wi_cb ?_)
        | (with_reducible refine wi_mt ?_)
        | (with_reducible refine wi_tst ?_)
        | (with_reducible refine wi_tru ?_)
        | (with_reducible refine wi_and ?_)
        | (with_reducible refine wi_or ?_)
        | (with_reducible refine wi_not ?_)
        | (with_reducible refine wi_if ?_)
        | (with_reducible refine wi_andV ?_)
        | (with_reducible refine wi_orV ?_)
        | (with_reducible refine wi_notV ?_)
        | (with_reducible refine wi_tup ?_)
        | (with_reducible refine wi_lst ?_)
        | (with_reducible refine wi_ofF ?_)
        | (with_reducible refine wi_fresh ?_)
        | (with_reducible refine wi_isi ?_)
        | (with_reducible refine wi_sl ?_)
        | (with_reducible refine wi_oNone ?_)
        | (with_reducible refine wi_oSome ?_)
        | (with_reducible refine wi_call ?_)
        | (with_reducible refine wi_callF ?_)
        | (with_reducible refine wi_items ?_)
        | (with_reducible refine wi_lc ?_)
        | (with_reducible refine wi_star ?_)
        | (with_reducible refine wi_ix ?_)
        | (with_reducible refine wi_chain ?_)
        | (with_reducible refine wi_rng1 ?_)
        | (with_reducible refine wi_rng2 ?_)
        | (with_reducible refine wi_enum ?_)
        | (with_reducible refine wi_enumT ?_)
        | (with_reducible refine wi_zip ?_)
        | (with_reducible refine wi_zipK ?_)
        | (with_reducible refine wi_yes ?_)
        | (with_reducible refine wi_enumA ?_)
        | (with_reducible refine wi_slt ?_)
        | (with_reducible refine wi_isiC ?_)
        | (with_reducible refine wi_prop ?_)
        | (with_reducible refine wi_callP ?_)
        | (with_reducible refine wi_dc ?_)
        | (with_reducible refine wi_sortIt ?_)
        | (with_reducible refine wi_listIt ?_)
        | (with_reducible refine wi_isiA ?_)
        | (with_reducible refine wi_isiO ?_)
        | (with_reducible refine wi_own1 ?_)
        | (with_reducible refine wi_subOwn ?_)
        | (with_reducible refine wi_inOwn ?_)
        | (with_reducible refine wi_meth ?_)
        | (with_reducible refine wi_methK ?_)
        | (with_reducible refine wi_js0 ?_)
        | (with_reducible refine wi_js ?_)
        | (with_reducible refine wi_disp ?_)
        | (with_reducible refine wi_pairs0 ?_)
        | (with_reducible refine wi_pairs ?_)
        | (with_reducible refine wi_eqOwn ?_)
        | (with_reducible refine wi_truK ?_)
        | (with_reducible refine wi_fg ?_)
        | (with_reducible refine wi_isE ?_)
        | (with_reducible refine wi_caught ?_)
        | (with_reducible refine star_l ?_)
        | (with_reducible refine star_t ?_)
        | (with_reducible refine (pr2 (x := _) (y := _)).mpr ?_)
        | (with_reducible refine ⟨_, ev_eqS, ?_⟩)
        | (with_reducible refine ⟨_, ev_neS, ?_⟩)
        | (with_reducible refine ⟨_, ev_eqI, ?_⟩)
        | (with_reducible refine ⟨_, ev_neI, ?_⟩)
        | (with_reducible refine ⟨_, ev_eqT1, ?_⟩)
        | (with_reducible refine ⟨_, ev_eqT, ?_⟩)
        | (with_reducible refine ⟨_, ev_eqL, ?_⟩)
        | (with_reducible refine ⟨_, ev_neB, ?_⟩)
        | (with_reducible refine ⟨_, ev_inL, ?_⟩)
        | (with_reducible refine ⟨_, ev_inT, ?_⟩)
        | (with_reducible refine ⟨_, ev_ninL, ?_⟩)
        | (with_reducible refine ⟨_, ev_ninT, ?_⟩)
        | (with_reducible refine ⟨_, ev_inTL1, ?_⟩)
        | (with_reducible refine ⟨_, ev_ninTL1, ?_⟩)
        | (with_reducible refine ⟨_, ev_ninTL0, ?_⟩)
        | (with_reducible refine ⟨_, ev_inTL, ?_⟩)
        | (with_reducible refine ⟨_, ev_ninTL, ?_⟩)
        | (with_reducible refine ⟨_, sl_take1, ?_⟩)
        | (with_reducible refine ⟨_, sl_drop1, ?_⟩)
        | (with_reducible refine ⟨_, ev_all_map, ?_⟩)
        | (with_reducible refine ⟨_, ev_any_map, ?_⟩)
        | (with_reducible refine ⟨_, ev_all, ?_⟩)
        | (with_reducible refine ⟨_, ev_any, ?_⟩)
        | (with_reducible refine bl_i ?_)
        | (with_reducible refine int_i ?_)
        | (with_reducible refine tru_bl ?_)
        | (with_reducible refine neg_i ?_)
        | (with_reducible refine len_l ?_)
        | (with_reducible refine len_t ?_)
        | (with_reducible refine tup_l ?_)
        | (with_reducible refine it_l ?_)
        | (with_reducible refine it_t ?_)
        | (refine ite_t (by rfl) ?_)
        | (refine ite_f (by rfl) ?_)
        | (refine ⟨_, ev_mod (by omega), ?_⟩)
        | (refine ⟨_, ev_div (by omega) (by omega), ?_⟩)
        | (refine ⟨_, ev_divmod (by omega) (by omega), ?_⟩)
        | (refine ⟨_, ev_mulR (by omega) (by omega), ?_⟩)
        | (refine ⟨_, ev_mulL (by omega) (by omega), ?_⟩)
        | (refine ⟨_, rfl, ?_⟩)
        | (exact ⟨rfl, rfl⟩)
        | (refine ⟨rfl, ?_⟩)
        | (refine ⟨by decide, ?_⟩)
        | (refine ⟨(by simp only [List.length_cons, List.length_nil, lim]; decide), ?_⟩)
        | (refine ⟨of_decide_eq_true (by rfl), ?_⟩)))
local macro_rules
  | `(tactic| walk_at "VX") => `(tactic| repeat (first
        | (with_reducible refine si_raise ?_)
        | (with_reducible refine si_seq ?_)
        | (with_reducible refine si_for ?_)
        | (with_reducible refine si_forX ?_)
        | ((with_reducible apply si_app); rfl)
        | (with_reducible refine si_pool ?_)
        | (with_reducible refine si_asg ?_)
        | (with_reducible refine si_asgV ?_)
        | (with_reducible refine si_new ?_)
        | (with_reducible refine si_drop ?_)
        | (with_reducible refine si_ret ?_)
        | (with_reducible refine si_retX ?_)
        | (with_reducible refine si_if ?_)
        | ((with_reducible apply si_aug); rfl)
        | (with_reducible refine si_par ?_)
        | (with_reducible refine si_parO ?_)
        | (with_reducible refine si_asgG ?_)
        | (with_reducible refine si_next ?_)
        | (with_reducible refine si_brk ?_)
        | (with_reducible refine si_cnt ?_)
        | (with_reducible refine si_retN ?_)
        | ((with_reducible apply si_catO); rfl)
        | (with_reducible refine si_par3 ?_)
        | ((with_reducible apply si_shr); rfl)
        | ((with_reducible apply wi_var); rfl)
        | (with_reducible refine wi_c ?_)
        | (with_reducible refine wi_op ?_)
        | (with_reducible refine wi_un ?_)
        | (with_reducible refine wi_nil ?_)
        | (with_reducible refine wi_cons ?_)
        | (with_reducible refine wi_cb ?_)
        | (with_reducible refine wi_mt ?_)
        | (with_reducible refine wi_tst ?_)
        | (with_reducible refine wi_tru ?_)
        | (with_reducible refine wi_and ?_)
        | (with_reducible refine wi_or ?_)
        | (with_reducible refine wi_not ?_)
        | (with_reducible refine wi_if ?_)
        | (with_reducible refine wi_andV ?_)
        | (with_reducible refine wi_orV ?_)
        | (with_reducible refine wi_notV ?_)
        | (with_reducible refine wi_tup ?_)
        | (with_reducible refine wi_lst ?_)
        | (with_reducible refine wi_ofF ?_)
        | (with_reducible refine wi_fresh ?_)
        | (with_reducible refine wi_isi ?_)
        | (with_reducible refine wi_sl ?_)
        | (with_reducible refine wi_oNone ?_)
        | (with_reducible refine wi_oSome ?_)
        | (with_reducible refine wi_call ?_)
        | (with_reducible refine wi_callF ?_)
        | (with_reducible refine wi_items ?_)
        | (with_reducible refine wi_lc ?_)
        | (with_reducible refine wi_star ?_)
        | (with_reducible refine wi_ix ?_)
        | (with_reducible refine wi_chain ?_)
        | (with_reducible refine wi_rng1 ?_)
        | (with_reducible refine wi_rng2 ?_)
        | (with_reducible refine wi_enum ?_)
        | (with_reducible refine wi_enumT ?_)
        | (with_reducible refine wi_zip ?_)
        | (with_reducible refine wi_zipK ?_)
        | (with_reducible refine wi_yes ?_)
        | (with_reducible refine wi_enumA ?_)
        | (with_reducible refine wi_slt ?_)
        | (with_reducible refine wi_isiC ?_)
        | (with_reducible refine wi_prop ?_)
        | (with_reducible refine wi_callP ?_)
        | (with_reducible refine wi_dc ?_)
        | (with_reducible refine wi_sortIt ?_)
        | (with_reducible refine wi_listIt ?_)
        | (with_reducible refine wi_isiA ?_)
        | (with_reducible refine wi_isiO ?_)
        | (with_reducible refine wi_own1 ?_)
        | (with_reducible refine wi_subOwn ?_)
        | (with_reducible refine wi_inOwn ?_)
        | (with_reducible refine wi_meth ?_)
        | (with_reducible refine wi_methK ?_)
        | (with_reducible refine wi_js0 ?_)
        | (with_reducible refine wi_js ?_)
        | (with_reducible refine wi_disp ?_)
        | (with_reducible refine wi_pairs0 ?_)
        | (with_reducible refine wi_pairs ?_)
        | (with_reducible refine wi_eqOwn ?_)
        | (with_reducible refine wi_truK ?_)
        | (with_reducible refine wi_fg ?_)
        | (with_reducible refine wi_isE ?_)
        | (with_reducible refine wi_caught ?_)
        | (with_reducible refine star_l ?_)
        | (with_reducible refine star_t ?_)
        | (with_reducible refine (pr2 (x := _) (y := _)).mpr ?_)
        | (with_reducible refine ⟨_, ev_eqS, ?_⟩)
        | (with_reducible refine ⟨_, ev_neS, ?_⟩)
        | (with_reducible refine ⟨_, ev_eqI, ?_⟩)
        | (with_reducible refine ⟨_, ev_neI, ?_⟩)
        | (with_reducible refine ⟨_, ev_eqT1, ?_⟩)
        | (with_reducible refine ⟨_, ev_eqT, ?_⟩)
        | (with_reducible refine ⟨_, ev_eqL, ?_⟩)
        | (with_reducible refine ⟨_, ev_neB, ?_⟩)
        | (with_reducible refine ⟨_, ev_inL, ?_⟩)
        | (with_reducible refine ⟨_, ev_inT, ?_⟩)
        | (with_reducible refine ⟨_, ev_ninL, ?_⟩)
        | (with_reducible refine ⟨_, ev_ninT, ?_⟩)
        | (with_reducible refine ⟨_, ev_inTL1, ?_⟩)
        | (with_reducible refine ⟨_, ev_ninTL1, ?_⟩)
        | (with_reducible refine ⟨_, ev_ninTL0, ?_⟩)
        | (with_reducible refine ⟨_, ev_inTL, ?_⟩)
        | (with_reducible refine ⟨_, ev_ninTL, ?_⟩)
        | (with_reducible refine ⟨_, sl_take1, ?_⟩)
        | (with_reducible refine ⟨_, sl_drop1, ?_⟩)
        | (with_reducible refine ⟨_, ev_all_map, ?_⟩)
        | (with_reducible refine ⟨_, ev_any_map, ?_⟩)
        | (with_reducible refine ⟨_, ev_all, ?_⟩)
        | (with_reducible refine ⟨_, ev_any, ?_⟩)
        | (with_reducible refine bl_i ?_)
        | (with_reducible refine int_i ?_)
        | (with_reducible refine tru_bl ?_)
        | (with_reducible refine neg_i ?_)
        | (with_reducible refine len_l ?_)
        | (with_reducible refine len_t ?_)
        | (with_reducible refine tup_l ?_)
        | (with_reducible refine it_l ?_)
        | (with_reducible refine it_t ?_)
        | (refine ite_t (by rfl) ?_)
        | (refine ite_f (by rfl) ?_)
        | (refine ⟨_, ev_mod (by omega), ?_⟩)
        | (refine ⟨_, ev_div (by omega) (by omega), ?_⟩)
        | (refine ⟨_, ev_divmod (by omega) (by omega), ?_⟩)
        | (refine ⟨_, ev_mulR (by omega) (by omega), ?_⟩)
        | (refine ⟨_, ev_mulL (by omega) (by omega), ?_⟩)
        | (exact ⟨rfl, rfl⟩)
        | (refine ⟨rfl, ?_⟩)
        | (refine ⟨by decide, ?_⟩)
        | (refine ⟨(by simp only [List.length_cons, List.length_nil, lim]; decide), ?_⟩)
        | (refine ⟨of_decide_eq_true (by rfl), ?_⟩)))
theorem lies_under_ok {k p : Str} (hp : p.length ≤ 100) (q : List Int) : m_lies_under [.str k, .str p] q = some (.bl (under k p), q) := by
  refine Wp.eq ?_
  unfold m_lies_under
  refine fi_run ?_
  unfold b_lies_under
  walk_at "VC"
  refine ite_b (fun h => ?_) fun h => ?_
  · have e : k = p := of_decide_eq_true h
    exact ⟨by unfold Tx.under; rw [h]; rfl, rfl⟩
  · walk_at "VX"
    refine ⟨_, ev_addS (by have : ("/" : Str).length = 1 := rfl; rw [this]; unfold lim; omega), ?_⟩
    walk_at "VX"
    refine ⟨.bl (Txt.startswith k (p ++ "/")), rfl, ?_, rfl⟩
    rw [starts_eq]
    unfold Tx.under
    rw [h]
    rfl
theorem cut_len (k : Str) (n : Nat) : (cutS k (some (n : Int)) none).length ≤ k.length := by
  rw [TL.len_tl, TL.len_tl k, show TL.tl (cutS k (some (n : Int)) none) = _ from cutS_tl k _ _, dcut_drop _ (Int.natCast_nonneg _), List.length_drop]
  exact Nat.sub_le _ _
theorem replaced_ok {k p q : Str} (hk : k.length ≤ 1000) (hq : q.length ≤ 1000) (hp : 1 ≤ p.length) (h : ∃ t, tl k = tl p ++ t) (l : List Int) : m_replaced [.str k, .str p, .str q] l = some (.str (mv p q k), l) := by
  refine Wp.eq ?_
  unfold m_replaced
  refine fi_run ?_
  unfold b_replaced
  walk_at "VX"
  have h2 := cut_len k p.length
  refine ⟨.str (cutS k (some (p.length : Int)) none), ?_, ?_⟩
  · show (if (Txt.removeprefix k p).length ≤ lim then some (D.str (Txt.removeprefix k p)) else none) = _
    rw [remove_pre h hp]
    exact if_pos (by unfold lim; omega)
  refine ⟨_, ev_addS (by unfold lim; omega), ?_⟩
  exact ⟨rfl, rfl⟩
theorem take_iff {ks ps : List Str} (k1 : ks ≠ []) (k2 : ∀ x ∈ ks, Nm x) (p1 : ps ≠ []) (p2 : ∀ x ∈ ps, Nm x) : under (J ks) (J ps) = decide (ks.take ps.length = ps) := by
  cases hu : under (J ks) (J ps) with
  | true =>
    obtain ⟨qs, rest, q1, q2, q3, e1, e2, _, _⟩ := under_of (n := ks.length) (m := ps.length) ⟨ks, k1, Nat.le_refl _, k2, rfl⟩ ⟨ps, p1, Nat.le_refl _, p2, rfl⟩ hu
    have e1 := J_inj p1 (fun x hx => (p2 x hx).nosl) q1 (fun x hx => (q2 x hx).nosl) e1
    have e2 := J_inj k1 (fun x hx => (k2 x hx).nosl) (fun z => q1 (List.append_eq_nil_iff.mp z).1) (fun x hx => by
      rcases List.mem_append.mp hx with h | h
      · exact (q2 x h).nosl
      · exact (q3 x h).nosl) e2
    subst e1 e2
    rw [List.take_left]
    exact (decide_eq_true rfl).symm
  | false =>
    refine (decide_eq_false fun e => ?_).symm
    have : ks = ps ++ ks.drop ps.length := by
      conv => lhs; rw [← List.take_append_drop ps.length ks, e]
    have h2 := under_J p1 (ks.drop ps.length)
    rw [← this, hu] at h2
    cases h2
theorem pre_tl {ks ps : List Str} (p1 : ps ≠ []) (e : ks.take ps.length = ps) : J ks = J (ps ++ ks.drop ps.length) ∧ ∃ t, tl (J ks) = tl (J ps) ++ t := by
  have : ks = ps ++ ks.drop ps.length := by
    conv => lhs; rw [← List.take_append_drop ps.length ks, e]
  refine ⟨by rw [← this], T (ks.drop ps.length), ?_⟩
  conv => lhs; rw [this]
  exact tl_J_app p1 _
theorem ne_2 (i : Int) (s : Str) : dNe (.lst [.int i, .str s]) (.lst [.int i, .str s]) = some (.bl false) := by
  unfold dNe deep
  simp [flat, flats, deqv, deqvs]
theorem eq_2 (i : Int) (s : Str) : dEq (.lst [.int i, .str s]) (.lst [.int i, .str s]) = some (.bl true) := by
  unfold dEq deep
  simp [flat, flats, deqv, deqvs]
section
variable {k q r : D} {n1 k1 p1 n2 k2 p2 n3 k3 p3 : Bool}
theorem low_ok {c f : Str} {x : D} {s : Str} {i : Int} (ht : tb__law_caught.lookup (c, f) = some i) (hs : dReprS [x] = some (.str s)) (hi : i < 2) (h1 : ∀ z, mx_is_under [k, q] z = some (exn c f x, z)) (h2 : ∀ z, mx_put_at [k, q, r] z = some (exn c f x, z)) (rest : MS) (c4 c5 c6 : Cl) (z : List Int) :
    Ws (sSeq (sIf (mTst (mOp dLt (mIx (mVar 3) (mC (.int 0))) (mC (.int 2)))) (sSeq (sIf (mTst (mOp dNe (mCaught (caughtOut tb__law_caught) y1__law_pair_right) (mVar 3))) (sRet false (mC (.bl false))) (sNext))
  (sSeq (sIf (mTst (mOp dNe (mCaught (caughtOut tb__law_caught) y2__law_pair_right) (mVar 3))) (sRet false (mC (.bl false))) (sNext))
  (sRet false (mOp dEq (mCaught (caughtOut tb__law_caught) y3__law_pair_right) (mVar 3))))) (sNext)) rest [.sh k, .sh q, .sh r, .sh (.lst [.int i, .str s]), c4, c5, c6] z) (fun _ _ => False) (fun d z' => d = .bl true ∧ z' = z) (fun _ _ => False) (fun _ _ => False) := by
  refine si_seq (si_if (wi_tst (wi_op (wi_ix (wi_var rfl (wi_c ⟨.int i, rfl, wi_c ⟨.bl (decide (i < 2)), rfl, bl_i (ite_t (decide_eq_true hi) ?_)⟩⟩))))))
  refine si_seq (si_if (wi_tst (wi_op (wi_caught ?_))))
  have e1 : ∀ z, y1__law_pair_right (viR [.sh k, .sh q, .sh r, .sh (.lst [.int i, .str s]), c4, c5, c6]) z = some (exn c f x, z) := fun z => by
    refine Wp.eq ?_
    unfold y1__law_pair_right
    exact wi_call (wi_cons (wi_var rfl (wi_cons (wi_var rfl (wi_nil ⟨rfl, Wp.of_eq (h1 z) ⟨rfl, rfl⟩⟩)))))
  have e2 : ∀ z, y2__law_pair_right (viR [.sh k, .sh q, .sh r, .sh (.lst [.int i, .str s]), c4, c5, c6]) z = some (exn c f x, z) := fun z => by
    refine Wp.eq ?_
    unfold y2__law_pair_right
    exact wi_call (wi_cons (wi_var rfl (wi_cons (wi_var rfl (wi_cons (wi_var rfl (wi_nil ⟨rfl, Wp.of_eq (h2 z) ⟨rfl, rfl⟩⟩)))))))
  have e3 : ∀ z, y3__law_pair_right (viR [.sh k, .sh q, .sh r, .sh (.lst [.int i, .str s]), c4, c5, c6]) z = some (exn c f x, z) := fun z => by
    refine Wp.eq ?_
    unfold y3__law_pair_right
    exact wi_callKP (wi_cons (wi_var rfl (wi_cons (wi_var rfl (wi_nil ⟨rfl, Wp.of_eq (h1 z) ⟨rfl, rfl⟩⟩)))))
  refine Wp.of_eq (e1 _) (Wp.of_eq (caught_ok ht hs) (wi_var rfl ⟨_, ne_2 i s, bl_i (ite_f rfl (si_next ?_))⟩))
  refine si_seq (si_if (wi_tst (wi_op (wi_caught (Wp.of_eq (e2 _) (Wp.of_eq (caught_ok ht hs) (wi_var rfl ⟨_, ne_2 i s, bl_i (ite_f rfl (si_next ?_))⟩)))))))
  exact si_ret (wi_op (wi_caught (Wp.of_eq (e3 _) (Wp.of_eq (caught_ok ht hs) (wi_var rfl ⟨_, eq_2 i s, rfl, rfl⟩)))))
theorem repr_2b (u : Bool) : ∃ s, dReprS [.lst [.bl u, .bl u]] = some (.str s) := repr_bls (bs := [u, u]) (by show 2 ≤ 100; decide)
theorem under_ok {ks ps : List Str} (hk : Thg (.str (J ks)) n1 true p1) (hq : Thg (.str (J ps)) n2 k2 true) (hl : (J ps).length ≤ 97) (z : List Int) : m_is_under [.str (J ks), .str (J ps)] z = some (.bl (under (J ks) (J ps)), z) := by
  refine Wp.eq ?_
  unfold m_is_under
  refine fi_run ?_
  unfold b_is_under
  refine si_seq (si_drop (wi_call (wi_cons (wi_var rfl (wi_nil ⟨rfl, Wp.of_eq (ck_yes hk z).2 ?_⟩)))))
  refine si_seq (si_drop (wi_call (wi_cons (wi_var rfl (wi_nil ⟨rfl, Wp.of_eq (cp_yes hq z).2 ?_⟩)))))
  exact si_ret (wi_call (wi_cons (wi_var rfl (wi_cons (wi_var rfl (wi_nil ⟨rfl, Wp.of_eq (lies_under_ok (by omega) z) ⟨rfl, rfl⟩⟩))))))
theorem put_ok {ks ps qs : List Str} (hk : Thg (.str (J ks)) n1 true p1) (hq : Thg (.str (J ps)) n2 k2 true) (hr : Thg (.str (J qs)) n3 k3 true) (a1 : ps ≠ []) (a2 : qs ≠ []) (lk : (J ks).length ≤ 97) (hl : (J ps).length ≤ 97) (lq : (J qs).length ≤ 97) (l1 : 1 ≤ (J ps).length) {u : Bool} (hu : under (J ks) (J ps) = u) (ht : u = true → ks.take ps.length = ps) (z : List Int) :
    m_put_at [.str (J ks), .str (J ps), .str (J qs)] z = some (if u = true then .str (J (qs ++ ks.drop ps.length)) else .non, z) := by
  refine Wp.eq ?_
  unfold m_put_at
  refine fi_run ?_
  unfold b_put_at
  refine si_seq (si_drop (wi_call (wi_cons (wi_var rfl (wi_nil ⟨rfl, Wp.of_eq (ck_yes hk z).2 ?_⟩)))))
  refine si_seq (si_drop (wi_call (wi_cons (wi_var rfl (wi_nil ⟨rfl, Wp.of_eq (cp_yes hq z).2 ?_⟩)))))
  refine si_seq (si_drop (wi_call (wi_cons (wi_var rfl (wi_nil ⟨rfl, Wp.of_eq (cp_yes hr z).2 ?_⟩)))))
  refine si_ret (wi_if (wi_tru (wi_call (wi_cons (wi_var rfl (wi_cons (wi_var rfl (wi_nil ⟨rfl, Wp.of_eq (lies_under_ok (by omega) z) (tru_bl ?_)⟩))))))))
  rw [hu]
  cases u with
  | false => exact ite_f rfl (wi_c ⟨rfl, rfl⟩)
  | true =>
    obtain ⟨e1, e2⟩ := pre_tl a1 (ht rfl)
    refine ite_t rfl (wi_call (wi_cons (wi_var rfl (wi_cons (wi_var rfl (wi_cons (wi_var rfl (wi_nil ⟨rfl, Wp.of_eq (replaced_ok (by omega) (by omega) l1 e2 z) ⟨?_, rfl⟩⟩))))))))
    rw [if_pos rfl, e1, mv_J a1 a2]
end
end K01
namespace K01
variable [Dt.GTab]
open PySem PySem.Spec PyProof.Rows L2 Dt Tx
theorem kth_of {ps : List Str} (h1 : ps ≠ []) (h2 : ps.length ≤ 60) (h3 : ∀ x ∈ ps, Nm x) : Kth (J ps) := Kq.kth (n := 60) ⟨ps, h1, h2, h3, rfl⟩ (Nat.le_refl _)
theorem repr_mm {u : Bool} {w : Str} (h : Kth w) : ∃ s, dReprS [.lst [if u = true then .str w else .non, if u = true then .str w else .non]] = some (.str s) := by
  cases u with
  | true => exact reprS_strs (xs := [w, w]) (fun s hs => by
      rcases List.mem_cons.mp hs with rfl | hs
      · exact h
      · rw [List.mem_singleton.mp hs]; exact h) (by show 2 ≤ 528; decide)
  | false =>
    exact reprS_of (sx_lst (k := 0) (n := 10) (m := 2) (fun d hd => by
      rcases List.mem_cons.mp hd with rfl | hd
      · exact sx_non
      · rw [List.mem_singleton.mp hd]; exact sx_non) (by show 2 ≤ 2; decide)) (by decide) (by decide)
theorem pair_ok {k q r : D} {n1 k1 p1 n2 k2 p2 n3 k3 p3 : Bool} (hk : Thg k n1 k1 p1) (hq : Thg q n2 k2 p2) (hr : Thg r n3 k3 p3) (z : List Int) : m__law_pair_right [k, q, r] z = some (.bl true, z) := by
  refine Wp.eq ?_
  unfold m__law_pair_right
  refine fi_run ?_
  unfold b__law_pair_right
  obtain ⟨sk, hsk⟩ := hk.rp
  obtain ⟨sq, hsq⟩ := hq.rp
  obtain ⟨sr, hsr⟩ := hr.rp
  refine si_seq (si_asg (wi_lst (wi_cons (wi_c (wi_cons (wi_c (wi_nil ⟨by show 2 ≤ lim; decide, ?_⟩)))))))
  cases k1 with
  | false =>
    refine si_seq (si_if (wi_not (wi_tru (wi_call (wi_cons (wi_var rfl (wi_cons (wi_c (wi_nil ⟨rfl, Wp.of_eq (hk.k2 z) ⟨false, rfl, ite_t rfl ?_⟩⟩)))))))) )
    refine si_asg (wi_lst (wi_cons (wi_c (wi_cons (wi_cb (wi_cons (wi_var rfl (wi_nil ⟨_, hsk, wi_nil ⟨by show 2 ≤ lim; decide, ?_⟩⟩))))))))
    exact (low_ok (c := "InvalidKey") (f := "value") rfl hsk (by decide) (under_x1 hk) (put_x1 hk) _ _ _ _ z).mono (fun _ _ h => h.elim) (fun _ _ h => h) (fun _ _ h => h.elim) (fun _ _ h => h.elim)
  | true =>
    refine si_seq (si_if (wi_not (wi_tru (wi_call (wi_cons (wi_var rfl (wi_cons (wi_c (wi_nil ⟨rfl, Wp.of_eq (hk.k2 z) ⟨true, rfl, ite_f rfl ?_⟩⟩)))))))) )
    cases p2 with
    | false =>
      refine si_if (wi_not (wi_tru (wi_call (wi_cons (wi_var rfl (wi_cons (wi_c (wi_nil ⟨rfl, Wp.of_eq (hq.p2 z) ⟨false, rfl, ite_t rfl ?_⟩⟩))))))))
      refine si_asg (wi_lst (wi_cons (wi_c (wi_cons (wi_cb (wi_cons (wi_var rfl (wi_nil ⟨_, hsq, wi_nil ⟨by show 2 ≤ lim; decide, ?_⟩⟩))))))))
      exact (low_ok (c := "InvalidPath") (f := "value") rfl hsq (by decide) (under_x2 hk hq) (put_x2 hk hq) _ _ _ _ z).mono (fun _ _ h => h.elim) (fun _ _ h => h) (fun _ _ h => h.elim) (fun _ _ h => h.elim)
    | true =>
      refine si_if (wi_not (wi_tru (wi_call (wi_cons (wi_var rfl (wi_cons (wi_c (wi_nil ⟨rfl, Wp.of_eq (hq.p2 z) ⟨true, rfl, ite_f rfl (si_next ?_)⟩⟩))))))))
      obtain ⟨ks, a1, a2, a3, rfl, a5⟩ := hk.key rfl
      obtain ⟨ps, b1, b2, b3, rfl, b5⟩ := hq.key (hq.pk rfl)
      have hsk1 := ev_splitP a1 fun x hx => (a3 x hx).nosl
      have hsp1 := ev_splitP b1 fun x hx => (b3 x hx).nosl
      have hti := take_iff a1 a3 b1 b3
      have hun := fun z => under_ok hk hq b5 z
      have hl1 : 1 ≤ (J ps).length := by
        have := J_len b1
        have := wt_ge fun x hx => (b3 x hx).pos
        have := List.length_pos_iff.mpr b1
        omega
      refine si_seq (si_if (wi_tst (wi_op (wi_ix (wi_var rfl (wi_c ⟨.int 2, rfl, wi_c ⟨.bl false, rfl, bl_i (ite_f rfl (si_next ?_))⟩⟩))))))
      refine si_seq (si_asg (wi_cb (wi_cons (wi_mt (wi_var rfl (wi_cons (wi_c (wi_nil ⟨_, hsp1, wi_nil ⟨.int (ps.map D.str).length, rfl, ?_⟩⟩))))))))
      rw [List.length_map]
      refine si_seq (si_asg (wi_op (wi_sl (wi_mt (wi_var rfl (wi_cons (wi_c (wi_nil ⟨_, hsk1, wi_oNone (wi_oSome (wi_var rfl ⟨_, rfl, _, sl_takeL D.str (Int.natCast_nonneg _), ?_⟩))⟩))))))))
      rw [Int.toNat_natCast]
      refine wi_mt (wi_var rfl (wi_cons (wi_c (wi_nil ⟨_, hsp1, _, ev_eqL, ?_⟩))))
      rw [← hti]
      obtain ⟨sb, hsb⟩ := repr_2b (under (J ks) (J ps))
      refine si_seq (si_if (wi_tst (wi_op (wi_cb (wi_cons (wi_lst (wi_cons (wi_call (wi_cons (wi_var rfl (wi_cons (wi_var rfl (wi_nil ⟨rfl, Wp.of_eq (hun _) ?_⟩)))))))))))) )
      refine wi_cons (wi_callKP (wi_cons (wi_var rfl (wi_cons (wi_var rfl (wi_nil ⟨rfl, Wp.of_eq (hun _) (wi_nil ⟨by show 2 ≤ lim; decide, wi_nil ⟨_, hsb, ?_⟩⟩)⟩))))))
      refine wi_cb (wi_cons (wi_lst (wi_cons (wi_var rfl (wi_cons (wi_var rfl (wi_nil ⟨by show 2 ≤ lim; decide, wi_nil ⟨_, hsb, _, ev_neS, bl_i (ite_f (by rw [decide_eq_true rfl]; rfl) (si_next ?_))⟩⟩)))))))
      cases p3 with
      | false =>
        refine si_seq (si_if (wi_not (wi_tru (wi_call (wi_cons (wi_var rfl (wi_cons (wi_c (wi_nil ⟨rfl, Wp.of_eq (hr.p2 z) ⟨false, rfl, ite_t rfl ?_⟩⟩)))))))) )
        refine si_ret (wi_op (wi_caught ?_))
        have e4 : ∀ (c3 c4 c5 c6 : Cl) (z : List Int), y4__law_pair_right (viR [.sh (.str (J ks)), .sh (.str (J ps)), .sh r, c3, c4, c5, c6]) z = some (exn "InvalidPath" "value" r, z) := fun c3 c4 c5 c6 z => by
          refine Wp.eq ?_
          unfold y4__law_pair_right
          exact wi_callKP (wi_cons (wi_var rfl (wi_cons (wi_var rfl (wi_cons (wi_var rfl (wi_nil ⟨rfl, Wp.of_eq (put_x3 hk hq hr z) ⟨rfl, rfl⟩⟩)))))))
        refine Wp.of_eq (e4 _ _ _ _ _) (Wp.of_eq (caught_ok (i := 1) rfl hsr) ?_)
        exact wi_lst (wi_cons (wi_c (wi_cons (wi_cb (wi_cons (wi_var rfl (wi_nil ⟨_, hsr, wi_nil ⟨by show 2 ≤ lim; decide, _, eq_2 1 sr, rfl, rfl⟩⟩)))))))
      | true =>
        obtain ⟨qs, c1, c2, c3, rfl, c5⟩ := hr.key (hr.pk rfl)
        have hsr1 := ev_splitP c1 fun x hx => (c3 x hx).nosl
        have lq := hr.pl rfl qs c1 (fun x hx => (c3 x hx).nosl) rfl
        refine si_seq (si_if (wi_not (wi_tru (wi_call (wi_cons (wi_var rfl (wi_cons (wi_c (wi_nil ⟨rfl, Wp.of_eq (hr.p2 z) ⟨true, rfl, ite_f rfl (si_next ?_)⟩⟩)))))))) )
        generalize hu : under (J ks) (J ps) = u at hti ⊢
        have hput := put_ok hk hq hr b1 c1 a5 b5 c5 hl1 hu (fun e => of_decide_eq_true (by rw [← hti, e]))
        have hkth : Kth (J (qs ++ ks.drop ps.length)) := kth_of (fun z => c1 (List.append_eq_nil_iff.mp z).1) (by rw [List.length_append, List.length_drop]; omega) fun x hx => by
          rcases List.mem_append.mp hx with h | h
          · exact c3 x h
          · exact a3 x (List.mem_of_mem_drop h)
        obtain ⟨sm, hsm⟩ := repr_mm (u := u) hkth
        have hjoin : dJoin (.str "/") [.lst ((qs ++ ks.drop ps.length).map .str)] = some (.str (J (qs ++ ks.drop ps.length))) := by
          refine ev_join ?_
          have w1 := J_len c1
          have w2 := J_len a1
          have w3 := wt_take ks ps.length
          rw [wt_append]
          unfold lim
          omega
        refine si_seq (si_asg (wi_if (wi_tru (wi_var rfl (tru_bl ?_)))))
        have fin : ∀ (c3 c4 c5 : Cl) (z : List Int), Ws (sRet false (mOp dEq (mCB dReprS (mCons (mLst (mCons (mCall 3 m_put_at (mCons (mVar 0) (mCons (mVar 1) (mCons (mVar 2) (mNil))))) (mCons (mCallKP [2, 1, 0] 3 m_put_at (mCons (mVar 2) (mCons (mVar 1) (mCons (mVar 0) (mNil))))) (mNil)))) (mNil))) (mCB dReprS (mCons (mLst (mCons (mVar 6) (mCons (mVar 6) (mNil)))) (mNil))))
            [.sh (.str (J ks)), .sh (.str (J ps)), .sh (.str (J qs)), c3, c4, c5, .sh (if u = true then .str (J (qs ++ ks.drop ps.length)) else .non)] z) (fun _ z' => D.non = .bl true ∧ z' = z) (fun d z' => d = .bl true ∧ z' = z) (fun _ _ => False) (fun _ _ => False) := by
          intro c3 c4 c5 z
          generalize (if u = true then D.str (J (qs ++ ks.drop ps.length)) else .non) = m at hput hsm ⊢
          refine si_ret (wi_op (wi_cb (wi_cons (wi_lst (wi_cons (wi_call (wi_cons (wi_var rfl (wi_cons (wi_var rfl (wi_cons (wi_var rfl (wi_nil ⟨rfl, Wp.of_eq (hput _) ?_⟩)))))))))))) )
          refine wi_cons (wi_callKP (wi_cons (wi_var rfl (wi_cons (wi_var rfl (wi_cons (wi_var rfl (wi_nil ⟨rfl, Wp.of_eq (hput _) (wi_nil ⟨by show 2 ≤ lim; decide, wi_nil ⟨_, hsm, ?_⟩⟩)⟩))))))))
          refine wi_cb (wi_cons (wi_lst (wi_cons (wi_var rfl (wi_cons (wi_var rfl (wi_nil ⟨by show 2 ≤ lim; decide, wi_nil ⟨_, hsm, _, ev_eqS, congrArg D.bl (decide_eq_true rfl), rfl⟩⟩)))))))
        cases u with
        | false => exact ite_f rfl (wi_c (fin _ _ _ z))
        | true =>
          refine ite_t rfl (wi_mt (wi_c (wi_cons (wi_op (wi_mt (wi_var rfl (wi_cons (wi_c (wi_nil ⟨_, hsr1, wi_sl (wi_mt (wi_var rfl (wi_cons (wi_c (wi_nil ⟨_, hsk1, wi_oSome (wi_var rfl ⟨_, rfl, wi_oNone ⟨_, sl_dropL D.str (Int.natCast_nonneg _), ?_⟩⟩)⟩)))))⟩)))))))) )
          rw [Int.toNat_natCast]
          refine ⟨_, ev_addL (by rw [List.length_map, List.length_map, List.length_drop]; unfold lim; omega), ?_⟩
          rw [← List.map_append]
          exact wi_nil ⟨_, hjoin, fin _ _ _ z⟩
end K01
namespace K01
variable [Dt.GTab]
open PySem PySem.Spec PyProof.Rows L2 Dt Tx
def Sg (z : Str) : Prop := ∀ c ∈ tl z, c < 16 ^ 8
theorem sg_app {a b : Str} (h1 : Sg a) (h2 : Sg b) : Sg (a ++ b) := fun c hc => by
  rw [show tl (a ++ b) = tl a ++ tl b from TL.tl_append _ _] at hc
  rcases List.mem_append.mp hc with h | h
  · exact h1 c h
  · exact h2 c h
theorem sg_take {z : Str} {i : Int} (h : 0 ≤ i) (hz : Sg z) : Sg (cutS z none (some i)) := fun c hc => by
  rw [show tl (cutS z none (some i)) = _ from cutS_tl z _ _, dcut_take _ h] at hc
  exact hz c (List.mem_of_mem_take hc)
theorem sg_drop {z : Str} {i : Int} (h : 0 ≤ i) (hz : Sg z) : Sg (cutS z (some i) none) := fun c hc => by
  rw [show tl (cutS z (some i) none) = _ from cutS_tl z _ _, dcut_drop _ h] at hc
  exact hz c (List.mem_of_mem_drop hc)
theorem sg_init {z : Str} (hz : Sg z) : Sg (cutS z none (some (-1))) := fun c hc => by
  have e := dcut_init (z.cps.toList) (k := 1) (by decide)
  rw [show tl (cutS z none (some (-1))) = _ from cutS_tl z _ _, show (some (-1) : Option Int) = some (-((1 : Nat) : Int)) from rfl, e] at hc
  exact hz c (List.mem_of_mem_take hc)
theorem sg_let {z : Str} (h : ∀ c ∈ tl z, c ∈ tl sLet) : Sg z := fun c hc => by
  have := (mem_let.mp (h c hc)).2
  omega
theorem sg_T : ∀ {ns : List Str}, (∀ x ∈ ns, Sg x) → ∀ c ∈ T ns, c < 16 ^ 8
  | [], _, c, hc => by cases hc
  | n :: ns, h, c, hc => by
    rcases List.mem_cons.mp hc with rfl | hc
    · decide
    · rcases List.mem_append.mp hc with hc | hc
      · exact h n List.mem_cons_self c hc
      · exact sg_T (fun x hx => h x (List.mem_cons_of_mem _ hx)) c hc
theorem sg_J {ps : List Str} (h1 : ps ≠ []) (h : ∀ x ∈ ps, Sg x) : Sg (J ps) := by
  cases ps with
  | nil => exact absurd rfl h1
  | cons n ns =>
    intro c hc
    rw [tl_J] at hc
    rcases List.mem_append.mp hc with hc | hc
    · exact h n List.mem_cons_self c hc
    · exact sg_T (fun x hx => h x (List.mem_cons_of_mem _ hx)) c hc
theorem sg_nm {s : Str} (h : Nm s) : Sg s := sg_let h.lets
theorem init_len (z : Str) : (cutS z none (some (-1))).length ≤ z.length := by
  have e := dcut_init (z.cps.toList) (k := 1) (by decide)
  rw [TL.len_tl, TL.len_tl z, show TL.tl (cutS z none (some (-1))) = _ from cutS_tl z _ _, show (some (-1) : Option Int) = some (-((1 : Nat) : Int)) from rfl, e, List.length_take]
  show _ ≤ z.cps.toList.length
  omega
theorem cut_len3 (z : Str) {i : Int} (h : 0 ≤ i) : (cutS z none (some i)).length + (cutS z (some (i + 1)) none).length ≤ z.length := by
  have e1 : (cutS z none (some i)).length = (z.cps.toList.take i.toNat).length := by
    rw [TL.len_tl, show TL.tl (cutS z none (some i)) = _ from cutS_tl z _ _, dcut_take _ h]
  have e2 : (cutS z (some (i + 1)) none).length = (z.cps.toList.drop (i + 1).toNat).length := by
    rw [TL.len_tl, show TL.tl (cutS z (some (i + 1)) none) = _ from cutS_tl z _ _, dcut_drop _ (by omega)]
  have e3 : z.length = z.cps.toList.length := TL.len_tl z
  rw [e1, e2, e3, List.length_take, List.length_drop]
  omega
theorem join_n {ws : List Str} (h : ∀ w ∈ ws, w.length ≤ 1) (hn : ws.length ≤ 9) (hA : ∀ w ∈ ws, ∀ c ∈ tl w, c ∈ tl sLet) : ∃ z, dJoin (.str "") [.lst (ws.map .str)] = some (.str z) ∧ z.length ≤ 9 ∧ ∀ c ∈ tl z, c ∈ tl sLet := by
  have hz : joinSz sEm ws ≤ 9 := by
    unfold joinSz
    have h1 := sum_le (·.length) 1 ws h
    have h2 : sEm.length = 0 := by decide +kernel
    rw [h2, Nat.mul_zero, Nat.add_zero]
    omega
  refine ⟨Txt.join sEm ws, ?_, ?_, ?_⟩
  · show (match asStrs (ws.map D.str) with | some ys => if joinSz sEm ys ≤ lim then some (D.str (Txt.join sEm ys)) else none | none => none) = _
    rw [asStrs_map]
    refine if_pos ?_
    unfold lim
    omega
  · have := joinLen sEm ws
    rw [TL.join_eq]
    omega
  · intro c hc
    have e : tl (Txt.join sEm ws) = TL.joinL [] (ws.map tl) := by
      rw [TL.join_eq]
      exact TL.tl_join sEm ws
    rw [e] at hc
    obtain ⟨l, h1, h2⟩ := mem_joinL0 hc
    obtain ⟨w, hw, rfl⟩ := List.mem_map.mp h1
    exact hA w hw c h2
def sOd : Str := "AZ09_-/ .=*\n~"
theorem sg_od : ∀ c ∈ tl sOd, c < 16 ^ 8 := by decide +kernel
theorem word_ok (a b c : Int) : Wp (m__law_word [.pool] [a, b, c]) fun d q => ∃ z a' b' c', z.length ≤ 10 ∧ Sg z ∧ d = .str z ∧ q = [a', b', c'] := by
  unfold m__law_word
  refine fi_run ?_
  unfold b__law_word
  refine si_seq (si_asg (wi_c ?_))
  refine si_seq (si_asg (wi_ix ?_))
  have em : ∀ r q, mLst (mCons (mC (.int 1)) (mCons (mC (.int 2)) (mCons (mC (.int 3)) (mCons (mC (.int 8)) (mCons (mC (.int 9)) (mCons (mC (.int 0)) (mNil))))))) r q = some (.lst (([1, 2, 3, 8, 9, 0] : List Nat).map fun n : Nat => D.int (n : Int)), q) := fun _ _ => rfl
  refine Wp.of_eq (em _ _) (wi_call (wi_cons (wi_var rfl (wi_cons (wi_c (wi_nil ⟨rfl, ?_⟩))))))
  refine (draw_ok (n := 6) (by decide) (by decide) a b c).mono fun d q hd => ?_
  obtain ⟨k, a, b, c, rfl, rfl, hk0, hk⟩ := hd
  obtain ⟨n, hn⟩ : ∃ n, ([1, 2, 3, 8, 9, 0] : List Nat)[k.toNat]? = some n := ⟨_, List.getElem?_eq_getElem (by show k.toNat < 6; omega)⟩
  have hn9 : n ≤ 9 := by
    have := List.mem_of_getElem? hn
    have key : ∀ n ∈ ([1, 2, 3, 8, 9, 0] : List Nat), n ≤ 9 := by decide
    exact key n this
  refine ⟨.int (n : Int), ix_lst hk0 (by rw [List.getElem?_map, hn]; rfl) _, ?_⟩
  with_reducible refine si_seq (si_asg (wi_mt (wi_c (wi_cons (wi_ofF (wi_lc (wi_rng1 (wi_cons (wi_var rfl (wi_nil ⟨_, rfl, by unfold rngOk; simp; omega, ?_⟩)))))))))) 
  rw [Int.toNat_natCast]
  have hrl : (rngD 0 n).length = n := by simp [rngD]
  refine ⟨by rw [hrl]; unfold lim; omega, ?_⟩
  refine (wp_lcGo (acc := []) (fun ds acc q => ∃ ls a b c, acc = ls.map D.str ∧ (∀ s ∈ ls, s.length ≤ 1 ∧ ∀ c ∈ tl s, c ∈ tl sLet) ∧ ls.length + ds.length = n ∧ q = [a, b, c]) ⟨[], a, b, c, rfl, fun s hs => (by cases hs), by rw [hrl]; simp, rfl⟩ ?_).mono fun ys q hI => ?_
  · rintro d ds acc q ⟨ls, a, b, c, rfl, hls, hlen, rfl⟩
    refine ⟨_, rfl, ?_⟩
    unfold c1__law_wordt c1__law_word
    refine wi_yes (ite_t rfl (wi_ix (wi_var rfl (wi_call (wi_cons (wi_var rfl (wi_cons (wi_c (wi_nil ⟨rfl, ?_⟩)))))))))
    refine (draw_ok (n := 26) (by decide) (by decide) a b c).mono fun d q hd => ?_
    obtain ⟨i, a, b, c, rfl, rfl, hi0, hi⟩ := hd
    refine ⟨.str (lt1 i.toNat), ix_str (x := sLet) hi0 (let_at (by omega)) _, ls ++ [lt1 i.toNat], a, b, c, by rw [List.map_append]; rfl, fun s hs => ?_, ?_, rfl⟩
    · rcases List.mem_append.mp hs with h | h
      · exact hls s h
      · rw [List.mem_singleton.mp h]
        exact ⟨by show 1 ≤ 1; decide, (lt1_nm (by omega)).lets⟩
    · rw [List.length_append, List.length_singleton]
      rw [List.length_cons] at hlen
      omega
  obtain ⟨ls, a, b, c, e, hls, hlen, rfl⟩ := hI
  rw [List.nil_append] at e
  subst e
  rw [List.length_nil] at hlen
  obtain ⟨z, hz1, hz2, hz3⟩ := join_n (fun w hw => (hls w hw).1) (by omega) fun w hw => (hls w hw).2
  refine wi_nil ⟨_, hz1, ?_⟩
  refine si_seq (si_if (wi_or (wi_tst (wi_op (wi_call (wi_cons (wi_var rfl (wi_cons (wi_c (wi_nil ⟨rfl, ?_⟩))))))))))
  refine (draw_ok (n := 4) (by decide) (by decide) a b c).mono fun d q hd => ?_
  obtain ⟨k, a, b, c, rfl, rfl, hk0, hk⟩ := hd
  refine wi_c ⟨.bl (decide (k > 0)), rfl, bl_i (ite_b (fun _ => ?_) fun _ => ?_)⟩
  · exact ite_t rfl (si_ret (wi_var rfl ⟨z, a, b, c, by omega, sg_let hz3, rfl, rfl⟩))
  refine wi_tst (wi_op (wi_var rfl (wi_c ⟨_, ev_eqS, bl_i (ite_b (fun _ => ?_) fun h2 => ?_)⟩)))
  · exact si_ret (wi_var rfl ⟨z, a, b, c, by omega, sg_let hz3, rfl, rfl⟩)
  have hz0 : 0 < z.length := by
    rcases Nat.eq_zero_or_pos z.length with h | h
    · exfalso
      refine of_decide_eq_false h2 (TL.ext_tl ?_)
      rw [TL.len_tl] at h
      rw [List.length_eq_zero_iff.mp h]
      decide +kernel
    · exact h
  refine si_next (si_seq (si_asg (wi_call (wi_cons (wi_var rfl (wi_cons (wi_cb (wi_cons (wi_var rfl (wi_nil ⟨.int z.length, rfl, wi_nil ⟨rfl, ?_⟩⟩))))))))) )
  refine (draw_ok (by omega) (by omega) a b c).mono fun d q hd => ?_
  obtain ⟨i, a, b, c, rfl, rfl, hi0, hi⟩ := hd
  refine si_ret (wi_op (wi_op (wi_sl (wi_var rfl (wi_oNone (wi_oSome (wi_var rfl ⟨_, rfl, .str (cutS z none (some i)), rfl, ?_⟩)))))))
  refine wi_ix (wi_c (wi_call (wi_cons (wi_var rfl (wi_cons (wi_c (wi_nil ⟨rfl, ?_⟩)))))))
  refine (draw_ok (n := 13) (by decide) (by decide) a b c).mono fun d q hd => ?_
  obtain ⟨j, a, b, c, rfl, rfl, hj0, hj⟩ := hd
  have h13 : (tl sOd).length = 13 := by decide +kernel
  obtain ⟨x, hx⟩ : ∃ x, (tl sOd)[j.toNat]? = some x := ⟨_, List.getElem?_eq_getElem (by rw [h13]; omega)⟩
  refine ⟨_, ix_str (x := sOd) hj0 hx _, ?_⟩
  have hc1 := cut_len3 z hi0
  have h1 : (⟨#[x]⟩ : Str).length = 1 := rfl
  refine ⟨_, ev_addS (by rw [h1]; unfold lim; omega), ?_⟩
  refine wi_sl (wi_var rfl (wi_oSome (wi_op (wi_var rfl (wi_c ⟨_, ev_addI, _, rfl, wi_oNone ⟨.str (cutS z (some (i + 1)) none), rfl, ?_⟩⟩)))))
  have hl : (cutS z none (some i) ++ (⟨#[x]⟩ : Str)).length = (cutS z none (some i)).length + 1 := by rw [str_app_len, h1]
  refine ⟨_, ev_addS (by rw [hl]; unfold lim; omega), _, a, b, c, ?_, ?_, rfl, rfl⟩
  · rw [str_app_len, hl]
    omega
  · refine sg_app (sg_app (sg_take hi0 (sg_let hz3)) fun c hc => ?_) (sg_drop (by omega) (sg_let hz3))
    have : c ∈ [x] := hc
    rw [List.mem_singleton.mp this]
    exact sg_od x (List.mem_of_getElem? hx)
theorem wt_le {ps : List Str} {n : Nat} (h : ∀ s ∈ ps, s.length ≤ n) : wt ps ≤ ps.length * (n + 1) := sum_le (fun p : Str => p.length + 1) (n + 1) ps fun x hx => by have := h x hx; omega
abbrev ThgX (d : D) : Prop := ∃ nB kB pB, Thg d nB kB pB
end K01
namespace K01
variable [Dt.GTab]
open PySem PySem.Spec PyProof.Rows L2 Dt Tx
local macro_rules
  | `(tactic| walk_at "VC") => `(tactic| repeat (first
        | (with_reducible refine si_raise ?_)
        | (with_reducible refine si_seq ?_)
        | (with_reducible refine si_for ?_)
        | (with_reducible refine si_forX ?_)
        | ((with_reducible apply si_app); rfl)
        | (with_reducible refine si_pool ?_)
        | (with_reducible refine si_asg ?_)
        | (with_reducible refine si_asgV ?_)
        | (with_reducible refine si_new ?_)
        | (with_reducible refine si_drop ?_)
        | (with_reducible refine si_ret ?_)
        | (with_reducible refine si_retX ?_)
        | (with_reducible refine si_if ?_)
        | ((with_reducible apply si_aug); rfl)
        | (with_reducible refine si_par ?_)
        | (with_reducible refine si_parO ?_)
        | (with_reducible refine si_asgG ?_)
        | (with_reducible refine si_next ?_)
        | (with_reducible refine si_brk ?_)
        | (with_reducible refine si_cnt ?_)
        | (with_reducible refine si_retN ?_)
        | ((with_reducible apply si_catO); rfl)
        | (with_reducible refine si_par3 ?_)
        | ((with_reducible apply si_shr); rfl)
        | ((with_reducible apply wi_var); rfl)
        | (with_reducible refine wi_c ?_)
        | (with_reducible refine wi_op ?_)
        | (with_reducible refine wi_un ?_)
        | (with_reducible refine wi_nil ?_)
        | (with_reducible refine wi_cons ?_)
        | (with_reducible refine wi_cb ?_)
        | (with_reducible refine wi_mt ?_)
        | (with_reducible refine wi_tst ?_)
        | (with_reducible refine wi_tru ?_)
        | (with_reducible refine wi_and ?_)
        | (with_reducible refine wi_or ?_)
        | (with_reducible refine wi_not ?_)
        | (with_reducible refine wi_if ?_)
        | (with_reducible refine wi_andV ?_)
        | (with_reducible refine wi_orV ?_)
        | (with_reducible refine wi_notV ?_)
        | (with_reducible refine wi_tup ?_)
        | (with_reducible refine wi_lst ?_)
        | (with_reducible refine wi_ofF ?_)
        | (with_reducible refine wi_fresh ?_)
        | (with_reducible refine wi_isi ?_)
        | (with_reducible refine wi_sl ?_)
        | (with_reducible refine wi_oNone ?_)
        | (with_reducible refine wi_oSome ?_)
        | (with_reducible refine wi_call ?_)
        | (with_reducible refine wi_callF ?_)
        | (with_reducible refine wi_items ?_)
        | (with_reducible refine wi_lc ?_)
        | (with_reducible refine wi_star ?_)
        | (with_reducible refine wi_ix ?_)
        | (with_reducible refine wi_chain ?_)
        | (with_reducible refine wi_rng1 ?_)
        | (with_reducible refine wi_rng2 ?_)
        | (with_reducible refine wi_enum ?_)
        | (with_reducible refine wi_enumT ?_)
        | (with_reducible refine wi_zip ?_)
        | (with_reducible refine wi_zipK ?_)
        | (with_reducible refine wi_yes ?_)
        | (with_reducible refine wi_enumA ?_)
        | (with_reducible refine wi_slt ?_)
        | (with_reducible refine wi_isiC ?_)
        | (with_reducible refine wi_prop ?_)
        | (with_reducible refine wi_callP ?_)
        | (with_reducible refine wi_dc ?_)
        | (with_reducible refine wi_sortIt ?_)
        | (with_reducible refine wi_listIt ?_)
        | (with_reducible refine wi_isiA ?_)
        | (with_reducible refine wi_isiO ?_)
        | (with_reducible refine wi_own1 ?_)
        | (with_reducible refine wi_subOwn ?_)
        | (with_reducible refine wi_inOwn ?_)
        | (with_reducible refine wi_meth ?_)
        | (with_reducible refine wi_methK ?_)
        | (with_reducible refine wi_js0 ?_)
        | (with_reducible refine wi_js ?_)
        | (with_reducible refine wi_disp ?_)
        | (with_reducible refine wi_pairs0 ?_)
        | (with_reducible refine wi_pairs ?_)
        | (with_reducible refine wi_eqOwn ?_)
        | (with_reducible refine wi_truK ?_)
        | (with_reducible refine wi_fg ?_)
        | (with_reducible refine wi_isE ?_)
        | (with_reducible refine wi_caught ?_)
        | (with_reducible refine star_l ?_)
        | (with_reducible refine star_t ?_)
        | (with_reducible refine (pr2 (x := _) (y := _)).mpr ?_)
        | (with_reducible refine ⟨_, ev_eqS, ?_⟩)
        | (with_reducible refine ⟨_, ev_neS, ?_⟩)
        | (with_reducible refine ⟨_, ev_eqI, ?_⟩)
        | (with_reducible refine ⟨_, ev_neI, ?_⟩)
        | (with_reducible refine ⟨_, ev_eqT1, ?_⟩)
        | (with_reducible refine ⟨_, ev_eqT, ?_⟩)
        | (with_reducible refine ⟨_, ev_eqL, ?_⟩)
        | (with_reducible refine ⟨_, ev_neB, ?_⟩)
        | (with_reducible refine ⟨_, ev_inL, ?_⟩)
        | (with_reducible refine ⟨_, ev_inT, ?_⟩)
        | (with_reducible refine ⟨_, ev_ninL, ?_⟩)
        | (with_reducible refine ⟨_, ev_ninT, ?_⟩)
        | (with_reducible refine ⟨_, ev_inTL1, ?_⟩)
        | (with_reducible refine ⟨_, ev_ninTL1, ?_⟩)
        | (with_reducible refine ⟨_, ev_ninTL0, ?_⟩)
        | (with_reducible refine ⟨_, ev_inTL, ?_⟩)
        | (with_reducible refine ⟨_, ev_ninTL, ?_⟩)
        | (with_reducible refine ⟨_, sl_take1, ?_⟩)
        | (with_reducible refine ⟨_, sl_drop1, ?_⟩)
        | (with_reducible refine ⟨_, ev_all_map, ?_⟩)
        | (with_reducible refine ⟨_, ev_any_map, ?_⟩)
        | (with_reducible refine ⟨_, ev_all, ?_⟩)
        | (with_reducible refine ⟨_, ev_any, ?_⟩)
        | (with_reducible refine bl_i ?_)
        | (with_reducible refine int_i ?_)
        | (with_reducible refine tru_bl ?_)
        | (with_reducible refine neg_i ?_)
        | (with_reducible refine len_l ?_)
        | (with_reducible refine len_t ?_)
        | (with_reducible refine tup_l ?_)
        | (with_reducible refine it_l ?_)
        | (with_reducible refine it_t ?_)
        | (refine ite_t (by rfl) ?_)
        | (refine ite_f (by rfl) ?_)
        | (refine ⟨_, ev_mod (by omega), ?_⟩)
        | (refine ⟨_, ev_div (by omega) (by omega), ?_⟩)
        | (refine ⟨_, ev_divmod (by omega) (by omega), ?_⟩)
        | (refine ⟨_, ev_mulR (by omega) (by omega), ?_⟩)
        | (refine ⟨_, ev_mulL (by omega) (by omega), ?_⟩)
        | (refine ⟨_, rfl, ?_⟩)
        | (exact ⟨rfl, rfl⟩)
        | (refine ⟨rfl, ?_⟩)
        | (refine ⟨by decide, ?_⟩)
        | (refine ⟨(by simp only [List.length_cons, List.length_nil, lim]; decide), ?_⟩)
        | (refine ⟨of_decide_eq_true (by rfl), ?_⟩)))
local macro_rules
  | `(tactic| walk_at "VX") => `(tactic| repeat (first
        | (with_reducible refine si_raise ?_)
        | (with_reducible refine si_seq ?_)
        | (with_reducible refine si_for ?_)
        | (with_reducible refine si_forX ?_)
        | ((with_reducible apply si_app); rfl)
        | (with_reducible refine si_pool ?_)
        | (with_reducible refine si_asg ?_)
        | (with_reducible refine si_asgV ?_)
        | (with_reducible refine si_new ?_)
        | (with_reducible refine si_drop ?_)
        | (with_reducible refine si_ret ?_)
        | (with_reducible refine si_retX ?_)
        | (with_reducible refine si_if ?_)
        | ((with_reducible apply si_aug); rfl)
        | (with_reducible refine si_par ?_)
        | (with_reducible refine si_parO ?_)
        | (with_reducible refine si_asgG ?_)
        | (with_reducible refine si_next ?_)
        | (with_reducible refine si_brk ?_)
        | (with_reducible refine si_cnt ?_)
        | (with_reducible refine si_retN ?_)
        | ((with_reducible apply si_catO); rfl)
        | (with_reducible refine si_par3 ?_)
        | ((with_reducible apply si_shr); rfl)
        | ((with_reducible apply wi_var); rfl)
        | (with_reducible refine wi_c ?_)
        | (with_reducible refine wi_op ?_)
        | (with_reducible refine wi_un ?_)
        | (with_reducible refine wi_nil ?_)
        | (with_reducible refine wi_cons ?_)
        | (with_reducible refine wi_cb ?_)
        | (with_reducible refine wi_mt ?_)
        | (with_reducible refine wi_tst ?_)
        | (with_reducible refine wi_tru ?_)
        | (with_reducible refine wi_and ?_)
        | (with_reducible refine wi_or ?_)
        | (with_reducible refine wi_not ?_)
        | (with_reducible refine wi_if ?_)
        | (with_reducible refine wi_andV ?_)
        | (with_reducible refine wi_orV ?_)
        | (with_reducible refine wi_notV ?_)
        | (with_reducible refine wi_tup ?_)
        | (with_reducible refine wi_lst ?_)
        | (with_reducible refine wi_ofF ?_)
        | (with_reducible refine wi_fresh ?_)
        | (with_reducible refine wi_isi ?_)
        | (with_reducible refine wi_sl ?_)
        | (with_reducible refine wi_oNone ?_)
        | (with_reducible refine wi_oSome ?_)
        | (with_reducible refine wi_call ?_)
        | (with_reducible refine wi_callF ?_)
        | (with_reducible refine wi_items ?_)
        | (with_reducible refine wi_lc ?_)
        | (with_reducible refine wi_star ?_)
        | (with_reducible refine wi_ix ?_)
        | (with_reducible refine wi_chain ?_)
        | (with_reducible refine wi_rng1 ?_)
        | (with_reducible refine wi_rng2 ?_)
        | (with_reducible refine wi_enum ?_)
        | (with_reducible refine wi_enumT ?_)
        | (with_reducible refine wi_zip ?_)
        | (with_reducible refine wi_zipK ?_)
        | (with_reducible refine wi_yes ?_)
        | (with_reducible refine wi_enumA ?_)
        | (with_reducible refine wi_slt ?_)
        | (with_reducible refine wi_isiC ?_)
        | (with_reducible refine wi_prop ?_)
        | (with_reducible refine wi_callP ?_)
        | (with_reducible refine wi_dc ?_)
        | (with_reducible refine wi_sortIt ?_)
        | (with_reducible refine wi_listIt ?_)
        | (with_reducible refine wi_isiA ?_)
        | (with_reducible refine wi_isiO ?_)
        | (with_reducible refine wi_own1 ?_)
        | (with_reducible refine wi_subOwn ?_)
        | (with_reducible refine wi_inOwn ?_)
        | (with_reducible refine wi_meth ?_)
        | (with_reducible refine wi_methK ?_)
        | (with_reducible refine wi_js0 ?_)
        | (with_reducible refine wi_js ?_)
        | (with_reducible refine wi_disp ?_)
        | (with_reducible refine wi_pairs0 ?_)
        | (with_reducible refine wi_pairs ?_)
        | (with_reducible refine wi_eqOwn ?_)
        | (with_reducible refine wi_truK ?_)
        | (with_reducible refine wi_fg ?_)
        | (with_reducible refine wi_isE ?_)
        | (with_reducible refine wi_caught ?_)
        | (with_reducible refine star_l ?_)
        | (with_reducible refine star_t ?_)
        | (with_reducible refine (pr2 (x := _) (y := _)).mpr ?_)
        | (with_reducible refine ⟨_, ev_eqS, ?_⟩)
        | (with_reducible refine ⟨_, ev_neS, ?_⟩)
        | (with_reducible refine ⟨_, ev_eqI, ?_⟩)
        | (with_reducible refine ⟨_, ev_neI, ?_⟩)
        | (with_reducible refine ⟨_, ev_eqT1, ?_⟩)
        | (with_reducible refine ⟨_, ev_eqT, ?_⟩)
        | (with_reducible refine ⟨_, ev_eqL, ?_⟩)
        | (with_reducible refine ⟨_, ev_neB, ?_⟩)
        | (with_reducible refine ⟨_, ev_inL, ?_⟩)
        | (with_reducible refine ⟨_, ev_inT, ?_⟩)
        | (with_reducible refine ⟨_, ev_ninL, ?_⟩)
        | (with_reducible refine ⟨_, ev_ninT, ?_⟩)
        | (with_reducible refine ⟨_, ev_inTL1, ?_⟩)
        | (with_reducible refine ⟨_, ev_ninTL1, ?_⟩)
        | (with_reducible refine ⟨_, ev_ninTL0, ?_⟩)
        | (with_reducible refine ⟨_, ev_inTL, ?_⟩)
        | (with_reducible refine ⟨_, ev_ninTL, ?_⟩)
        | (with_reducible refine ⟨_, sl_take1, ?_⟩)
        | (with_reducible refine ⟨_, sl_drop1, ?_⟩)
        | (with_reducible refine ⟨_, ev_all_map, ?_⟩)
        | (with_reducible refine ⟨_, ev_any_map, ?_⟩)
        | (with_reducible refine ⟨_, ev_all, ?_⟩)
        | (with_reducible refine ⟨_, ev_any, ?_⟩)
        | (with_reducible refine bl_i ?_)
        | (with_reducible refine int_i ?_)
        | (with_reducible refine tru_bl ?_)
        | (with_reducible refine neg_i ?_)
        | (with_reducible refine len_l ?_)
        | (with_reducible refine len_t ?_)
        | (with_reducible refine tup_l ?_)
        | (with_reducible refine it_l ?_)
        | (with_reducible refine it_t ?_)
        | (refine ite_t (by rfl) ?_)
        | (refine ite_f (by rfl) ?_)
        | (refine ⟨_, ev_mod (by omega), ?_⟩)
        | (refine ⟨_, ev_div (by omega) (by omega), ?_⟩)
        | (refine ⟨_, ev_divmod (by omega) (by omega), ?_⟩)
        | (refine ⟨_, ev_mulR (by omega) (by omega), ?_⟩)
        | (refine ⟨_, ev_mulL (by omega) (by omega), ?_⟩)
        | (exact ⟨rfl, rfl⟩)
        | (refine ⟨rfl, ?_⟩)
        | (refine ⟨by decide, ?_⟩)
        | (refine ⟨(by simp only [List.length_cons, List.length_nil, lim]; decide), ?_⟩)
        | (refine ⟨of_decide_eq_true (by rfl), ?_⟩)))
theorem sg_sl : Sg "/" := by show ∀ c ∈ tl ("/" : Str), c < 16 ^ 8; decide +kernel
theorem sg_a : Sg "a" := by show ∀ c ∈ tl ("a" : Str), c < 16 ^ 8; decide +kernel
theorem sg_as : Sg "a/" := by show ∀ c ∈ tl ("a/" : Str), c < 16 ^ 8; decide +kernel
theorem thing_ok (a b c : Int) : Wp (m__law_thing [.pool] [a, b, c]) fun d q => ∃ a' b' c', ThgX d ∧ q = [a', b', c'] := by
  unfold m__law_thing
  refine fi_run ?_
  unfold b__law_thing
  refine si_seq (si_if (wi_tst (wi_op (wi_call (wi_cons (wi_var rfl (wi_cons (wi_c (wi_nil ⟨rfl, ?_⟩)))))))))
  refine (draw_ok (n := 8) (by decide) (by decide) a b c).mono fun d q hd => ?_
  obtain ⟨k, a, b, c, rfl, rfl, hk0, hk⟩ := hd
  refine wi_c ⟨_, ev_eqI, bl_i (ite_b (fun _ => ?_) fun _ => ?_)⟩
  · refine si_ret (wi_ix ?_)
    have em : ∀ r q, mLst (mCons (mC .non) (mCons (mC (.int 0)) (mCons (mC (.bl true)) (mCons (mTup (mNil)) (mCons (mTup (mCons (mC (.str "a")) (mNil))) (mCons (mLst (mCons (mC (.str "a")) (mNil))) (mCons (mC (.dk [] [])) (mCons (mC (.int 7)) (mNil))))))))) r q = some (.lst things, q) := fun _ _ => rfl
    refine Wp.of_eq (em _ _) (wi_call (wi_cons (wi_var rfl (wi_cons (wi_c (wi_nil ⟨rfl, ?_⟩))))))
    refine (draw_ok (n := 8) (by decide) (by decide) a b c).mono fun d q hd => ?_
    obtain ⟨k, a, b, c, rfl, rfl, hk0, hk⟩ := hd
    have hl : things.length = 8 := rfl
    obtain ⟨d, hd⟩ : ∃ d, things[k.toNat]? = some d := ⟨_, List.getElem?_eq_getElem (by rw [hl]; omega)⟩
    exact ⟨d, ix_lst hk0 hd _, a, b, c, ⟨_, _, _, thg_oth (List.mem_of_getElem? hd)⟩, rfl⟩
  refine si_next (si_seq (si_asg (wi_mt (wi_c (wi_cons (wi_ofF (wi_lc (wi_rng1 (wi_cons (wi_op (wi_c (wi_call (wi_cons (wi_var rfl (wi_cons (wi_c (wi_nil ⟨rfl, ?_⟩)))))))))))))))) )
  refine (draw_ok (n := 5) (by decide) (by decide) a b c).mono fun d q hd => ?_
  obtain ⟨k, a, b, c, rfl, rfl, hk0, hk⟩ := hd
  refine ⟨_, ev_addI, wi_nil ⟨_, rfl, by unfold rngOk; simp; omega, ?_⟩⟩
  have hrl : (rngD 0 (1 + k).toNat).length = (1 + k).toNat := by simp [rngD]
  refine ⟨by rw [hrl]; unfold lim; omega, ?_⟩
  refine (wp_lcGo (acc := []) (fun ds acc q => ∃ ls a b c, acc = ls.map D.str ∧ (∀ s ∈ ls, s.length ≤ 10 ∧ Sg s) ∧ ls.length + ds.length = (1 + k).toNat ∧ q = [a, b, c]) ⟨[], a, b, c, rfl, fun s hs => (by cases hs), by rw [hrl]; simp, rfl⟩ ?_).mono fun ys q hI => ?_
  · rintro d ds acc q ⟨ls, a, b, c, rfl, hls, hlen, rfl⟩
    refine ⟨_, rfl, ?_⟩
    unfold c1__law_thingt c1__law_thing
    refine wi_yes (ite_t rfl (wi_call (wi_cons (wi_var rfl (wi_nil ⟨rfl, ?_⟩)))))
    refine (word_ok a b c).mono fun d q hd => ?_
    obtain ⟨w, a, b, c, hw1, hw2, rfl, rfl⟩ := hd
    refine ⟨ls ++ [w], a, b, c, by rw [List.map_append]; rfl, fun s hs => ?_, ?_, rfl⟩
    · rcases List.mem_append.mp hs with h | h
      · exact hls s h
      · rw [List.mem_singleton.mp h]
        exact ⟨hw1, hw2⟩
    · rw [List.length_append, List.length_singleton]
      rw [List.length_cons] at hlen
      omega
  obtain ⟨ls, a, b, c, e, hls, hlen, rfl⟩ := hI
  rw [List.nil_append] at e
  subst e
  rw [List.length_nil] at hlen
  have hne : ls ≠ [] := fun e => (by rw [e] at hlen; simp at hlen; omega)
  have hw := wt_le (n := 10) fun s hs => (hls s hs).1
  have hJ := J_len hne
  have hsg := sg_J hne fun s hs => (hls s hs).2
  refine wi_nil ⟨_, ev_join (by unfold lim; omega), ?_⟩
  refine si_ret (wi_op (wi_var rfl (wi_op (wi_c (wi_cb (wi_cons (wi_op (wi_call (wi_cons (wi_var rfl (wi_cons (wi_c (wi_nil ⟨rfl, ?_⟩)))))))))))) )
  refine (draw_ok (n := 12) (by decide) (by decide) a b c).mono fun d q hd => ?_
  obtain ⟨k, a, b, c, rfl, rfl, hk0, hk⟩ := hd
  refine wi_c ⟨_, ev_eqI, ?_⟩
  have l1 : ("/" : Str).length = 1 := by decide +kernel
  have l0 : (Str.empty : Str).length = 0 := by decide +kernel
  cases decide (k = 0) with
  | true =>
    refine wi_nil ⟨.int 1, rfl, .str "/", rfl, _, ev_addS (by rw [l1]; unfold lim; omega), a, b, c, thg_str ⟨by rw [str_app_len, l1]; omega, sg_app hsg sg_sl⟩, rfl⟩
  | false =>
    refine wi_nil ⟨.int 0, rfl, .str Str.empty, rfl, _, ev_addS (by rw [l0]; unfold lim; omega), a, b, c, thg_str ⟨by rw [str_app_len, l0]; omega, sg_app hsg fun c hc => ?_⟩, rfl⟩
    cases hc
theorem law_path_mem {ws : List Str} (hne : ws ≠ []) (hnm : ∀ s ∈ ws, Nm s) (hln : ws.length ≤ 100) {n : Int} (h0 : 0 < n) (hn : n ≤ 50) (a b c : Int) : Wp (m__law_path [.pool, .lst (ws.map .str), .int n] [a, b, c]) fun d q => ∃ ps a' b' c', (ps ≠ [] ∧ (ps.length : Int) ≤ n ∧ ∀ x ∈ ps, Nm x ∧ x ∈ ws) ∧ d = .str (J ps) ∧ q = [a', b', c'] := by
  have hwl : 1 ≤ ws.length := List.length_pos_iff.mpr hne
  unfold m__law_path
  refine fi_run ?_
  unfold b__law_path
  walk_at "VC"
  refine (draw_ok h0 (by omega) a b c).mono fun d q hd => ?_
  obtain ⟨k, a, b, c, rfl, rfl, hk0, hk⟩ := hd
  walk_at "VX"
  refine ⟨_, ev_addI, ?_⟩
  walk_at "VX"
  refine ⟨_, rfl, by unfold rngOk; simp; omega, ?_⟩
  have hrl : (rngD 0 (1 + k).toNat).length = (1 + k).toNat := by simp [rngD]
  refine ⟨by rw [hrl]; unfold lim; omega, ?_⟩
  refine (wp_lcGo (acc := []) (fun ds acc q => ∃ ls a b c, acc = ls.map D.str ∧ (∀ s ∈ ls, Nm s ∧ s ∈ ws) ∧ ls.length + ds.length = (1 + k).toNat ∧ q = [a, b, c]) ⟨[], a, b, c, rfl, fun s hs => (by cases hs), by rw [hrl]; simp, rfl⟩ ?_).mono fun ys q hI => ?_
  · rintro d ds acc q ⟨ls, a, b, c, rfl, hls, hlen, rfl⟩
    refine ⟨_, rfl, ?_⟩
    unfold c1__law_patht c1__law_path
    walk_at "VC"
    refine (draw_ok (by rw [List.length_map]; omega) (by rw [List.length_map]; omega) a b c).mono fun d q hd => ?_
    obtain ⟨i, a, b, c, rfl, rfl, hi0, hi⟩ := hd
    rw [List.length_map] at hi
    obtain ⟨w, hw⟩ : ∃ w, ws[i.toNat]? = some w := ⟨_, List.getElem?_eq_getElem (by omega)⟩
    have hwm := List.mem_of_getElem? hw
    refine ⟨.str w, ix_lstS hi0 hw _, ls ++ [w], a, b, c, by rw [List.map_append]; rfl, fun s hs => ?_, ?_, rfl⟩
    · rcases List.mem_append.mp hs with h | h
      · exact hls s h
      · rw [List.mem_singleton.mp h]
        exact ⟨hnm w hwm, hwm⟩
    · rw [List.length_append, List.length_singleton]
      rw [List.length_cons] at hlen
      omega
  obtain ⟨ls, a, b, c, e, hls, hlen, rfl⟩ := hI
  rw [List.nil_append] at e
  subst e
  rw [List.length_nil] at hlen
  have hne2 : ls ≠ [] := fun e => (by rw [e] at hlen; simp at hlen; omega)
  have ok : KsOk ls := ⟨hne2, by omega, fun x hx => (hls x hx).1⟩
  walk_at "VX"
  refine ⟨.str (J ls), ?_, ?_⟩
  · show (match asStrs (ls.map D.str) with | some ys => if joinSz "/" ys ≤ lim then some (D.str (Txt.join "/" ys)) else none | none => none) = _
    rw [asStrs_map]
    exact if_pos (ok.sml.sz (by decide))
  · exact ⟨ls, a, b, c, ⟨hne2, by omega, hls⟩, rfl, rfl⟩
theorem repr_3b (x y w : Bool) : ∃ s, dReprS [.lst [.bl x, .bl y, .bl w]] = some (.str s) := repr_bls (bs := [x, y, w]) (by show 3 ≤ 100; decide)
theorem l1_ok {d : D} (hd : ThgX d) (c0 c1 c2 c3 c5 c6 c7 c8 c9 c10 : Cl) (q : List Int) {bk ct : Sv → List Int → Prop} {rt : D → List Int → Prop} : Ws (l1__law_right [c0, c1, c2, c3, .sh d, c5, c6, c7, c8, c9, c10] q) (fun r q' => (∃ c5, r = [c0, c1, c2, c3, .sh d, c5, c6, c7, c8, c9, c10]) ∧ q' = q) rt bk ct := by
  obtain ⟨n, k, p, h⟩ := hd
  obtain ⟨s, hs⟩ := repr_3b n k p
  unfold l1__law_right
  refine si_seq (si_asg (wi_cb (wi_cons (wi_lst (wi_cons (wi_call (wi_cons (wi_var rfl (wi_nil ⟨rfl, Wp.of_eq (h.n2 _) ?_⟩)))))))))
  refine wi_cons (wi_call (wi_cons (wi_var rfl (wi_cons (wi_c (wi_nil ⟨rfl, Wp.of_eq (h.k2 _) ?_⟩))))))
  refine wi_cons (wi_call (wi_cons (wi_var rfl (wi_cons (wi_c (wi_nil ⟨rfl, Wp.of_eq (h.p2 _) (wi_nil ⟨by show 3 ≤ lim; decide, wi_nil ⟨_, hs, ?_⟩⟩)⟩))))))
  have key : ∀ (c1 c2 c3 c6 c7 c8 c9 c10 : Cl) (q : List Int) {Q : D → List Int → Prop}, Q (.bl false) q → Wp (mOp dNe (mCB dReprS (mCons (mLst (mCons (mCall 1 m_is_name (mCons (mVar 4) (mNil))) (mCons (mCall 1 m_is_key (mCons (mVar 4) (mNil))) (mCons (mCall 1 m_is_path (mCons (mVar 4) (mNil))) (mNil))))) (mNil))) (mVar 5) (viR [c0, c1, c2, c3, .sh d, .sh (.str s), c6, c7, c8, c9, c10]) q) Q := by
    intro c1 c2 c3 c6 c7 c8 c9 c10 q Q hQ
    refine wi_op (wi_cb (wi_cons (wi_lst (wi_cons (wi_call (wi_cons (wi_var rfl (wi_nil ⟨rfl, Wp.of_eq (h.n1 _) ?_⟩))))))))
    refine wi_cons (wi_call (wi_cons (wi_var rfl (wi_nil ⟨rfl, Wp.of_eq (h.k1 _) ?_⟩))))
    refine wi_cons (wi_call (wi_cons (wi_var rfl (wi_nil ⟨rfl, Wp.of_eq (h.p1 _) (wi_nil ⟨by show 3 ≤ lim; decide, wi_nil ⟨_, hs, wi_var rfl ⟨_, ev_neS, ?_⟩⟩⟩)⟩))))
    rw [decide_eq_true rfl]
    exact hQ
  refine si_seq (si_if (wi_tst (key _ _ _ _ _ _ _ _ _ (bl_i (ite_f rfl (si_next ?_))))))
  exact si_if (wi_tst (key _ _ _ _ _ _ _ _ _ (bl_i (ite_f rfl (si_next ⟨⟨_, rfl⟩, rfl⟩)))))
end K01
namespace K01
variable [Dt.GTab]
open PySem PySem.Spec PyProof.Rows L2 Dt Tx
abbrev IP : Sv → List Int → Prop := fun r q => ∃ c1 c2 c3 c4 c5 c6 c7 c8 c9 c10 a b c, r = [.sh .pool, c1, c2, c3, c4, c5, c6, c7, c8, c9, c10] ∧ q = [a, b, c]
theorem near_at {p t : Str} {d : D} (hp : p.length ≤ 35) (ht : t.length ≤ 35) (sp : Sg p) (st : Sg t) (hd : ThgX d) {c0 c1 c3 c4 c5 c6 c8 c10 : Cl} {rest : MS} (a b c : Int) {nx bk ct : Sv → List Int → Prop} {rt : D → List Int → Prop}
    (k : ∀ x a' b' c', ThgX x → Ws (rest [.sh .pool, c1, .sh d, c3, c4, c5, c6, .sh (.str p), c8, .sh (.str t), .sh x] [a', b', c']) nx rt bk ct) :
    Ws (sSeq (sAsg 10 (mIx (mLst (mCons (mOp dAdd (mOp dAdd (mVar 7) (mC (.str "/"))) (mVar 9)) (mCons (mVar 7) (mCons (mOp dAdd (mVar 7) (mC (.str "a"))) (mCons (mSl (mVar 7) (oNone) (oSome (mUn dNeg (mC (.int 1))))) (mCons (mOp dAdd (mOp dAdd (mVar 7) (mC (.str "a/"))) (mVar 9)) (mCons (mVar 9) (mCons (mVar 2) (mNil))))))))) (mCall 2 m__law_draw (mCons (mVar 0) (mCons (mC (.int 7)) (mNil)))))) rest [.sh .pool, c1, .sh d, c3, c4, c5, c6, .sh (.str p), c8, .sh (.str t), c10] [a, b, c]) nx rt bk ct := by
  have l1 : ("/" : Str).length = 1 := by decide +kernel
  have la : ("a" : Str).length = 1 := by decide +kernel
  have l2 : ("a/" : Str).length = 2 := by decide +kernel
  have e1 : (p ++ "/" : Str).length = p.length + 1 := by rw [str_app_len, l1]
  have e2 : (p ++ "a/" : Str).length = p.length + 2 := by rw [str_app_len, l2]
  have hi := init_len p
  refine si_seq (si_asg (wi_ix (wi_lst (wi_cons (wi_op (wi_op (wi_var rfl (wi_c ⟨_, ev_addS (by rw [l1]; unfold lim; omega), wi_var rfl ⟨_, ev_addS (by rw [e1]; unfold lim; omega), ?_⟩⟩))))))))
  refine wi_cons (wi_var rfl (wi_cons (wi_op (wi_var rfl (wi_c ⟨_, ev_addS (by rw [la]; unfold lim; omega), ?_⟩)))))
  refine wi_cons (wi_sl (wi_var rfl (wi_oNone (wi_oSome (wi_un (wi_c ⟨.int (-1), rfl, _, rfl, .str (cutS p none (some (-1))), rfl, ?_⟩))))))
  refine wi_cons (wi_op (wi_op (wi_var rfl (wi_c ⟨_, ev_addS (by rw [l2]; unfold lim; omega), wi_var rfl ⟨_, ev_addS (by rw [e2]; unfold lim; omega), ?_⟩⟩))))
  refine wi_cons (wi_var rfl (wi_cons (wi_var rfl (wi_nil ⟨by show 7 ≤ lim; decide, wi_call (wi_cons (wi_var rfl (wi_cons (wi_c (wi_nil ⟨rfl, ?_⟩)))))⟩))))
  refine (draw_ok (n := 7) (by decide) (by decide) a b c).mono fun d' q hd' => ?_
  obtain ⟨i, a, b, c, rfl, rfl, hi0, hi7⟩ := hd'
  have hall : ∀ x ∈ ([.str (p ++ "/" ++ t), .str p, .str (p ++ "a"), .str (cutS p none (some (-1))), .str (p ++ "a/" ++ t), .str t, d] : List D), ThgX x := by
    intro x hx
    simp only [List.mem_cons, List.mem_nil_iff, or_false] at hx
    rcases hx with rfl | rfl | rfl | rfl | rfl | rfl | rfl
    · exact thg_str ⟨by rw [str_app_len, e1]; omega, sg_app (sg_app sp sg_sl) st⟩
    · exact thg_str ⟨by omega, sp⟩
    · exact thg_str ⟨by rw [str_app_len, la]; omega, sg_app sp sg_a⟩
    · exact thg_str ⟨by omega, sg_init sp⟩
    · exact thg_str ⟨by rw [str_app_len, e2]; omega, sg_app (sg_app sp sg_as) st⟩
    · exact thg_str ⟨by omega, st⟩
    · exact hd
  obtain ⟨x, hx⟩ : ∃ x, ([.str (p ++ "/" ++ t), .str p, .str (p ++ "a"), .str (cutS p none (some (-1))), .str (p ++ "a/" ++ t), .str t, d] : List D)[i.toNat]? = some x := ⟨_, List.getElem?_eq_getElem (by show i.toNat < 7; omega)⟩
  exact ⟨x, ix_lst hi0 hx _, k x a b c (hall x (List.mem_of_getElem? hx))⟩
theorem path_sm {ps : List Str} {n : Int} (h : ps ≠ []) (hl : (ps.length : Int) ≤ n) (hn : n ≤ 4) (hx : ∀ x ∈ ps, Nm x) : (J ps).length ≤ 35 ∧ Sg (J ps) := by
  have h1 := J_len h
  have h2 := wt_le (n := 8) fun s hs => (hx s hs).le
  exact ⟨by omega, sg_J h fun s hs => sg_nm (hx s hs)⟩
theorem l2_ok (c1 c2 c3 c4 c5 c6 c7 c8 c9 c10 : Cl) (a b c : Int) {bk ct : Sv → List Int → Prop} {rt : D → List Int → Prop} : Ws (l2__law_right [.sh .pool, c1, c2, c3, c4, c5, c6, c7, c8, c9, c10] [a, b, c]) IP rt bk ct := by
  unfold l2__law_right
  refine si_seq (si_par (wi_cons (wi_call (wi_cons (wi_var rfl (wi_nil ⟨rfl, ?_⟩))))))
  refine (thing_ok a b c).mono fun d q hd => ?_
  obtain ⟨a, b, c, hD, rfl⟩ := hd
  refine wi_cons (wi_call (wi_cons (wi_var rfl (wi_nil ⟨rfl, ?_⟩))))
  refine (word_ok a b c).mono fun w q hd => ?_
  obtain ⟨z, a, b, c, hz1, hz2, rfl, rfl⟩ := hd
  refine wi_nil ((pr2 (x := _) (y := _)).mpr ?_)
  have hZ : ThgX (.str z) := thg_str ⟨by omega, hz2⟩
  refine si_seq (si_for (wi_items (wi_lst (wi_cons (wi_var rfl (wi_cons (wi_var rfl (wi_nil ⟨by show 2 ≤ lim; decide, it_l ?_⟩))))))))
  generalize D.str z = Z at hZ ⊢
  refine ws_forGo (fun ds r q => (∀ x ∈ ds, ThgX x) ∧ (∃ c4 c5, r = [.sh .pool, c1, .sh d, .sh Z, c4, c5, c6, c7, c8, c9, c10]) ∧ q = [a, b, c]) ⟨fun x hx => ?_, ⟨_, _, rfl⟩, rfl⟩ ?_ ?_
  · rcases List.mem_cons.mp hx with rfl | hx
    · exact hD
    · rw [List.mem_singleton.mp hx]
      exact hZ
  · rintro x ds r q ⟨hx, ⟨c4, c5, rfl⟩, rfl⟩
    refine ⟨_, _, rfl, ?_⟩
    exact (l1_ok (hx x List.mem_cons_self) _ _ _ _ _ _ _ _ _ _ _).mono (fun r q ⟨⟨c5, e⟩, e2⟩ => ⟨fun y hy => hx y (List.mem_cons_of_mem _ hy), ⟨_, c5, e⟩, e2⟩) (fun _ _ h => h) (fun _ _ h => h) (fun _ _ h => h)
  rintro r q ⟨_, ⟨c4, c5, rfl⟩, rfl⟩
  refine si_seq (si_asg (wi_call (wi_cons (wi_var rfl (wi_nil ⟨rfl, ?_⟩)))))
  refine (law_names_N a b c).mono fun d' q hd => ?_
  obtain ⟨ws, a, b, c, hN, rfl, rfl⟩ := hd
  have hW := hN.w
  have hl := hW.ln
  refine si_seq (si_par3 (wi_cons (wi_call (wi_cons (wi_var rfl (wi_cons (wi_var rfl (wi_cons (wi_c (wi_nil ⟨rfl, ?_⟩))))))))) )
  refine (law_path_mem hW.ne hW.nm (by omega) (n := 4) (by decide) (by decide) a b c).mono fun d' q hd => ?_
  obtain ⟨ps, a, b, c, ⟨u1, u2, u3⟩, rfl, rfl⟩ := hd
  refine wi_cons (wi_call (wi_cons (wi_var rfl (wi_cons (wi_var rfl (wi_cons (wi_c (wi_nil ⟨rfl, ?_⟩))))))))
  refine (law_path_mem hW.ne hW.nm (by omega) (n := 4) (by decide) (by decide) a b c).mono fun d' q hd => ?_
  obtain ⟨qs, a, b, c, ⟨v1, v2, v3⟩, rfl, rfl⟩ := hd
  refine wi_cons (wi_call (wi_cons (wi_var rfl (wi_cons (wi_var rfl (wi_cons (wi_c (wi_nil ⟨rfl, ?_⟩))))))))
  refine (law_path_mem hW.ne hW.nm (by omega) (n := 3) (by decide) (by decide) a b c).mono fun d' q hd => ?_
  obtain ⟨ts, a, b, c, ⟨t1, t2, t3⟩, rfl, rfl⟩ := hd
  refine wi_nil ⟨_, _, _, rfl, ?_⟩
  obtain ⟨pl, psg⟩ := path_sm u1 u2 (by decide) fun x hx => (u3 x hx).1
  obtain ⟨ql, qsg⟩ := path_sm v1 v2 (by decide) fun x hx => (v3 x hx).1
  obtain ⟨tl', tsg⟩ := path_sm t1 t2 (by decide) fun x hx => (t3 x hx).1
  refine near_at (c0 := .no) pl tl' psg tsg hD a b c fun x a b c hX => ?_
  obtain ⟨_, _, _, hP⟩ := thg_str (z := J ps) ⟨by omega, psg⟩
  obtain ⟨_, _, _, hQ⟩ := thg_str (z := J qs) ⟨by omega, qsg⟩
  obtain ⟨_, _, _, hX⟩ := hX
  obtain ⟨_, _, _, hD⟩ := hD
  have g1 := pair_ok hX hP hQ
  have g2 := pair_ok hX hD hQ
  have g3 := pair_ok hP hQ hD
  refine si_if (wi_or (wi_not (wi_tru (wi_call (wi_cons (wi_var rfl (wi_cons (wi_var rfl (wi_cons (wi_var rfl (wi_nil ⟨rfl, Wp.of_eq (g1 _) (tru_bl (ite_f rfl ?_))⟩)))))))))))
  refine wi_or (wi_not (wi_tru (wi_call (wi_cons (wi_var rfl (wi_cons (wi_var rfl (wi_cons (wi_var rfl (wi_nil ⟨rfl, Wp.of_eq (g2 _) (tru_bl (ite_f rfl ?_))⟩))))))))))
  refine wi_not (wi_tru (wi_call (wi_cons (wi_var rfl (wi_cons (wi_var rfl (wi_cons (wi_var rfl (wi_nil ⟨rfl, Wp.of_eq (g3 _) (tru_bl (ite_f rfl (si_next ?_)))⟩)))))))))
  exact ⟨_, _, _, _, _, _, _, _, _, _, a, b, c, rfl, rfl⟩
theorem right_ok (a b c : Int) : Wp (m__law_right [.pool] [a, b, c]) fun d _ => d = .bl true := by
  unfold m__law_right
  refine fi_run ?_
  unfold b__law_right
  refine si_seq (si_for (wi_rng1 (wi_cons (wi_c (wi_nil ⟨_, rfl, by decide, ?_⟩)))))
  refine ws_forR (N := 8) (fun _ r q => IP r q) ⟨_, _, _, _, _, _, _, _, _, _, a, b, c, rfl, rfl⟩ ?_ ?_
  · rintro n r q hn ⟨c1, c2, c3, c4, c5, c6, c7, c8, c9, c10, a, b, c, rfl, rfl⟩
    exact ⟨_, _, rfl, l2_ok _ _ _ _ _ _ _ _ _ _ a b c⟩
  · rintro r q ⟨c1, c2, c3, c4, c5, c6, c7, c8, c9, c10, a, b, c, rfl, rfl⟩
    exact si_ret (wi_c rfl)
def odd : List D := [.str "server/port", .str "/port", .str "port/", .str "a//b", .str "", .str "/", .str "A", .str "a b", .str "abcdefgh", .str "abcdefghi", .str "a/b/c", .str "a/b/c/d"]
def b3 (x y z : Bool) : D := .lst [.bl x, .bl y, .bl z]
def oddB : List D := [b3 false true true, b3 false false false, b3 false false false, b3 false false false, b3 false false false, b3 false false false, b3 false false false, b3 false false false, b3 true true true, b3 false false false, b3 false true true, b3 false true false]
theorem odd1 (c0 c2 c3 c4 : Cl) (p : List Int) : mOfF (mLc [3] (mItems (mVar 1)) (gN 3) c1_lawt c1_law) (shR [c0, .sh (.lst odd), c2, c3, c4]) p = some (.lst oddB, p) := by kernel_rfl
theorem odd2 (c0 c2 c3 c4 : Cl) (p : List Int) : mOfF (mLc [3] (mItems (mVar 1)) (gN 3) c2_lawt c2_law) (viR [c0, .sh (.lst odd), c2, c3, c4]) p = some (.lst oddB, p) := by kernel_rfl
theorem odd0 (r : Ev) (p : List Int) : mLst (mCons (mC (.str "server/port")) (mCons (mC (.str "/port")) (mCons (mC (.str "port/")) (mCons (mC (.str "a//b")) (mCons (mC (.str "")) (mCons (mC (.str "/")) (mCons (mC (.str "A")) (mCons (mC (.str "a b")) (mCons (mC (.str "abcdefgh")) (mCons (mC (.str "abcdefghi")) (mCons (mC (.str "a/b/c")) (mCons (mC (.str "a/b/c/d")) (mNil))))))))))))) r p = some (.lst odd, p) := rfl
theorem count_i {ns : List Int} {r : Ev} {p : List Int} {Q : D → List Int → Prop} (h0 : r[0]? = some (some (.scr ns))) (hQ : ∀ n : Nat, n ≤ 6 → Q (.int (n : Int)) p) :
    Wp (mCB dMax2 (mCons (mC (.int 2)) (mCons (mCB dMin2 (mCons (mCB dLen (mCons (mVar 0) (mNil))) (mCons (mC (.int 6)) (mNil)))) (mNil))) r p) Q := by
  refine wi_cb (wi_cons (wi_c (wi_cons (wi_cb (wi_cons (wi_cb (wi_cons (wi_var h0 (wi_nil ⟨.int ns.length, rfl, ?_⟩)))))))))
  refine wi_cons (wi_c (wi_nil ⟨_, rfl, wi_nil ⟨_, rfl, ?_⟩⟩))
  obtain ⟨n, hn, hn4⟩ : ∃ n : Nat, (if (if (6 : Int) < (ns.length : Int) then (6 : Int) else (ns.length : Int)) > 2 then (if (6 : Int) < (ns.length : Int) then (6 : Int) else (ns.length : Int)) else 2) = (n : Int) ∧ n ≤ 6 :=
    ⟨(if (if (6 : Int) < (ns.length : Int) then (6 : Int) else (ns.length : Int)) > 2 then (if (6 : Int) < (ns.length : Int) then (6 : Int) else (ns.length : Int)) else 2).toNat, by split <;> split <;> omega, by split <;> split <;> omega⟩
  rw [hn]
  exact hQ n hn4
theorem repr_odd : ∃ s, dReprS [.lst oddB] = some (.str s) := ⟨_, rfl⟩
theorem law_ok (ns : List Int) (p : List Int) : Wp (m_law [.scr ns] p) fun d _ => d = .bl true := by
  obtain ⟨s, hs⟩ := repr_odd
  unfold m_law
  refine fi_run ?_
  unfold b_law
  generalize hc3 : c3_law = C3
  refine si_seq (si_asg (Wp.of_eq (odd0 _ _) ?_))
  refine si_seq (si_asg (Wp.of_eq (odd1 _ _ _ _ _) ?_))
  refine si_seq (si_if (wi_tst (wi_op (wi_cb (wi_cons (wi_var rfl (wi_nil ⟨_, hs, wi_cb (wi_cons (Wp.of_eq (odd2 _ _ _ _ _) (wi_nil ⟨_, hs, _, ev_neS, bl_i (ite_f (by rw [decide_eq_true rfl]; rfl) (si_next ?_))⟩)))⟩)))))))
  refine si_retX (wi_cb (wi_cons (wi_ofF (wi_lc (wi_rng1 (wi_cons (count_i rfl fun N hN => wi_nil ⟨_, rfl, by unfold rngOk; simp; omega, ?_⟩)))))))
  rw [Int.toNat_natCast]
  refine ⟨by simp [rngD]; unfold lim; omega, ?_⟩
  have er : rngD 0 N = (List.range N).map fun i : Nat => D.int (0 + (i : Int)) := rfl
  rw [er]
  refine Wp.of_eq (lcGo_all (fun i : Nat => D.int (0 + (i : Int))) (fun _ => .bl true) fun i hi => ⟨_, rfl, rfl, Wp.eq ?_⟩) ?_
  · rw [← hc3]
    unfold c3_law
    refine wi_callP (wi_callF (wi_cons (wi_call (wi_cons (wi_var rfl (wi_cons (wi_var rfl (wi_nil ⟨rfl, ?_⟩))))))))
    have := List.mem_range.mp hi
    refine (law_cell_ok ns (by omega) (by omega) p).mono fun d q hd => ?_
    obtain ⟨z, rfl, rfl⟩ := hd
    obtain ⟨y, hy⟩ := law_pool_ok z q
    refine wi_nil ⟨rfl, Wp.of_eq hy ⟨_, rfl, ?_⟩⟩
    refine (right_ok _ _ _).mono fun d q hd => ?_
    subst hd
    exact ⟨rfl, rfl, rfl⟩
  · refine wi_nil ⟨_, ev_all_map (f := fun _ => true), rfl, congrArg D.bl ?_⟩
    rw [List.all_eq_true]
    exact fun _ _ => rfl
end K01
namespace K01
variable [Dt.GTab]
open PySem PySem.Spec PyProof.Rows L2 Dt
theorem join {P : Program} {w : World} {K : PySem.W.Frag} {mg : Str → Option Value} {fa : Addr} (T : Fs P K mg) (hG : ∀ p ∈ [(T.lt__law_pair_right, lq__law_pair_right)], p ∈ GTab.tb) (hfa : mg "law" = some (.ref fa)) :
    ∃ fd : FuncData, (∀ (s : Shared) (v : Value), BindsTo s fd ⟨[v], []⟩ [("_law_cells", v)]) ∧ ∀ base : Heap, K.In base → base.Ns mainGlobals mg → (∀ p ∈ [(T.lc__law_pair_right, T.lt__law_pair_right)], LamX.TabB base mg p.1 p.2) → FnG P w K mg base 18 fa fd ["_law_cells"] (spL K 1 m_law) := by
  have e := hfa.symm.trans T.g_law
  cases e
  exact ⟨T.f_law, bt_of T.F_law (fun _ _ _ _ _ _ _ => rfl), fun base _ _ hB => ok_law T caughtOk ⟨hB (T.lc__law_pair_right, T.lt__law_pair_right) (by simp), hG (T.lt__law_pair_right, lq__law_pair_right) (by simp)⟩⟩
end K01
open PySem PySem.W PyProof.Rows
set_option maxHeartbeats 0 in
theorem PySem.Challenge.cw_keymoves_k01_names_keys_and_paths_holds : PySem.Challenge.rw_keymoves_k01_names_keys_and_paths.Holds := by
  w_on; o_law
  refine HandSHeadRun.head_any (r := PySem.W.OpenLaw.row PySem.Challenge.rw_keymoves_k01_names_keys_and_paths) (q := HR.qv) (H := HR.hk) (ob := HR.ob) (M := 20000) (loose := HR.names) (d := HandSHeadRun.topDef (PySem.W.OpenLaw.row PySem.Challenge.rw_keymoves_k01_names_keys_and_paths).prog 60) (kwd := []) HR.ob_eq (by kernel_rfl) (fun s => by kernel_rfl) HR.run (by kernel_rfl) (by kernel_rfl) (by kernel_rfl) (by rfl) (by first | assumption | decide +kernel) (by decide +kernel) ⟨rfl, rfl, rfl, rfl, rfl, by decide +kernel⟩ ?hw ?hc
  case hw => w_witness2
  letI : Dt.GTab := ⟨[(731, K01.lq__law_pair_right)]⟩
  refine Dt.walk_ofGT (K := HR.mk.heap_1) (l := PySem.Challenge.rw_keymoves_k01_names_keys_and_paths) (n := 63) (k := 18) (x := "_law_cells") (sp := fun w => Dt.spL _ 1 K01.m_law) [(735, 731)] rfl (by decide) (by kernel_rfl) ⟨rfl, by decide, by decide⟩ (fun w h Y => ?Y) ?F
    (fun _ H a ns hl hT hS => Dt.spL_lawT (T := [(731, K01.lq__law_pair_right)]) rfl (by
      intro p hp q hq e
      simp only [List.mem_cons, List.mem_nil_iff, or_false] at hp hq
      rcases hp with rfl <;> rcases hq with rfl <;> first | rfl | exact absurd e (by decide)) (by
      intro q hq
      simp only [List.mem_cons, List.mem_nil_iff, or_false] at hq
      rcases hq with rfl
      · exact hT (735, 731) (by simp)
      ) hS (K01.law_ok ns []) _)
  case F =>
    k_fill
    intro w mg fa h KX G hmg0
    have hmg : mg ("law" : PySem.Str) = some (.ref fa) := by
      have e : (HandSHeadRun.topDef (PySem.W.OpenLaw.row PySem.Challenge.rw_keymoves_k01_names_keys_and_paths).prog 60).name = ("law" : PySem.Str) := by kernel_rfl
      rw [← e]
      exact hmg0
    obtain ⟨a0, d0, F0, g0, b0⟩ := Dt.mkF (x := "is_name") (st := K01.topS 35) (ps := ["value"]) KX G (by k_is) (by k_is) (by k_is) (by k_is) (fun _ _ _ _ _ _ us hl => match us, hl with | [_], _ => rfl)
    have w0 := Dt.kwB_of (ps := ["value"]) F0 (fun _ _ _ _ _ _ us hl => match us, hl with | [_], _ => rfl)
    obtain ⟨a1, d1, F1, g1, b1⟩ := Dt.mkF (x := "names_in") (st := K01.topS 36) (ps := ["key"]) KX G (by k_is) (by k_is) (by k_is) (by k_is) (fun _ _ _ _ _ _ us hl => match us, hl with | [_], _ => rfl)
    obtain ⟨a2, d2, F2, g2, b2⟩ := Dt.mkF (x := "is_key") (st := K01.topS 37) (ps := ["value"]) KX G (by k_is) (by k_is) (by k_is) (by k_is) (fun _ _ _ _ _ _ us hl => match us, hl with | [_], _ => rfl)
    have w2 := Dt.kwB_of (ps := ["value"]) F2 (fun _ _ _ _ _ _ us hl => match us, hl with | [_], _ => rfl)
    obtain ⟨a3, d3, F3, g3, b3⟩ := Dt.mkF (x := "is_path") (st := K01.topS 38) (ps := ["value"]) KX G (by k_is) (by k_is) (by k_is) (by k_is) (fun _ _ _ _ _ _ us hl => match us, hl with | [_], _ => rfl)
    have w3 := Dt.kwB_of (ps := ["value"]) F3 (fun _ _ _ _ _ _ us hl => match us, hl with | [_], _ => rfl)
    obtain ⟨a4, d4, F4, g4, b4⟩ := Dt.mkF (x := "_law_draw") (st := K01.topS 48) (ps := ["_law_pool_here", "_law_many"]) KX G (by k_is) (by k_is) (by k_is) (by k_is) (fun _ _ _ _ _ _ us hl => match us, hl with | [_, _], _ => rfl)
    obtain ⟨a5, d5, F5, g5, b5⟩ := Dt.mkF (x := "_law_names") (st := K01.topS 50) (ps := ["_law_pool_here"]) KX G (by k_is) (by k_is) (by k_is) (by k_is) (fun _ _ _ _ _ _ us hl => match us, hl with | [_], _ => rfl)
    obtain ⟨a6, d6, F6, g6, b6⟩ := Dt.mkF (x := "_law_word") (st := K01.topS 54) (ps := ["_law_pool_here"]) KX G (by k_is) (by k_is) (by k_is) (by k_is) (fun _ _ _ _ _ _ us hl => match us, hl with | [_], _ => rfl)
    obtain ⟨a7, d7, F7, g7, b7⟩ := Dt.mkF (x := "_law_thing") (st := K01.topS 55) (ps := ["_law_pool_here"]) KX G (by k_is) (by k_is) (by k_is) (by k_is) (fun _ _ _ _ _ _ us hl => match us, hl with | [_], _ => rfl)
    obtain ⟨a8, d8, F8, g8, b8⟩ := Dt.mkF (x := "_law_path") (st := K01.topS 49) (ps := ["_law_pool_here", "_law_some", "_law_deep"]) KX G (by k_is) (by k_is) (by k_is) (by k_is) (fun _ _ _ _ _ _ us hl => match us, hl with | [_, _, _], _ => rfl)
    obtain ⟨a9, d9, F9, g9, b9⟩ := Dt.mkF (x := "_law_is_name") (st := K01.topS 56) (ps := ["_law_thing_here"]) KX G (by k_is) (by k_is) (by k_is) (by k_is) (fun _ _ _ _ _ _ us hl => match us, hl with | [_], _ => rfl)
    obtain ⟨a10, d10, F10, g10, b10⟩ := Dt.mkF (x := "_law_is_key") (st := K01.topS 57) (ps := ["_law_thing_here", "_law_most"]) KX G (by k_is) (by k_is) (by k_is) (by k_is) (fun _ _ _ _ _ _ us hl => match us, hl with | [_, _], _ => rfl)
    obtain ⟨a11, d11, F11, g11, b11⟩ := Dt.mkF (x := "_law_error") (st := K01.topS 51) (ps := ["_law_e"]) KX G (by k_is) (by k_is) (by k_is) (by k_is) (fun _ _ _ _ _ _ us hl => match us, hl with | [_], _ => rfl)
    obtain ⟨a12, d12, F12, g12, b12⟩ := Dt.mkF (x := "_law_field") (st := K01.topS 52) (ps := ["_law_e", "_law_at"]) KX G (by k_is) (by k_is) (by k_is) (by k_is) (fun _ _ _ _ _ _ us hl => match us, hl with | [_, _], _ => rfl)
    obtain ⟨a13, d13, F13, g13, b13⟩ := Dt.mkF (x := "_law_caught") (st := K01.topS 53) (ps := ["_law_act"]) KX G (by k_is) (by k_is) (by k_is) (by k_is) (fun _ _ _ _ _ _ us hl => match us, hl with | [_], _ => rfl)
    obtain ⟨a14, d14, F14, g14, b14⟩ := Dt.mkF (x := "check_key") (st := K01.topS 39) (ps := ["value"]) KX G (by k_is) (by k_is) (by k_is) (by k_is) (fun _ _ _ _ _ _ us hl => match us, hl with | [_], _ => rfl)
    obtain ⟨a15, d15, F15, g15, b15⟩ := Dt.mkF (x := "check_path") (st := K01.topS 40) (ps := ["value"]) KX G (by k_is) (by k_is) (by k_is) (by k_is) (fun _ _ _ _ _ _ us hl => match us, hl with | [_], _ => rfl)
    obtain ⟨a16, d16, F16, g16, b16⟩ := Dt.mkF (x := "lies_under") (st := K01.topS 41) (ps := ["key", "path"]) KX G (by k_is) (by k_is) (by k_is) (by k_is) (fun _ _ _ _ _ _ us hl => match us, hl with | [_, _], _ => rfl)
    obtain ⟨a17, d17, F17, g17, b17⟩ := Dt.mkF (x := "is_under") (st := K01.topS 43) (ps := ["key", "path"]) KX G (by k_is) (by k_is) (by k_is) (by k_is) (fun _ _ _ _ _ _ us hl => match us, hl with | [_, _], _ => rfl)
    have v0_17 := Dt.kwP_of (ps := ["key", "path"]) (ks := ["path", "key"]) (idx := [1, 0]) F17 (fun _ _ _ _ _ _ us hl => match us, hl with | [_, _], _ => rfl)
    obtain ⟨a18, d18, F18, g18, b18⟩ := Dt.mkF (x := "replaced") (st := K01.topS 42) (ps := ["key", "path", "goal"]) KX G (by k_is) (by k_is) (by k_is) (by k_is) (fun _ _ _ _ _ _ us hl => match us, hl with | [_, _, _], _ => rfl)
    obtain ⟨a19, d19, F19, g19, b19⟩ := Dt.mkF (x := "put_at") (st := K01.topS 44) (ps := ["key", "path", "goal"]) KX G (by k_is) (by k_is) (by k_is) (by k_is) (fun _ _ _ _ _ _ us hl => match us, hl with | [_, _, _], _ => rfl)
    have v0_19 := Dt.kwP_of (ps := ["key", "path", "goal"]) (ks := ["goal", "key", "path"]) (idx := [1, 2, 0]) F19 (fun _ _ _ _ _ _ us hl => match us, hl with | [_, _, _], _ => rfl)
    have v1_19 := Dt.kwP_of (ps := ["key", "path", "goal"]) (ks := ["goal", "path", "key"]) (idx := [2, 1, 0]) F19 (fun _ _ _ _ _ _ us hl => match us, hl with | [_, _, _], _ => rfl)
    obtain ⟨a20, d20, F20, g20, b20, lc20⟩ := Dt.mkFl (x := "_law_pair_right") (st := K01.topS 58) (ps := ["_law_k", "_law_p", "_law_q"]) KX G (by k_is) (by k_is) (by k_is) (by k_is) (fun _ _ _ _ _ _ us hl => match us, hl with | [_, _, _], _ => rfl)
    obtain ⟨a21, d21, F21, g21, b21⟩ := Dt.mkF (x := "_law_right") (st := K01.topS 59) (ps := ["_law_pool_here"]) KX G (by k_is) (by k_is) (by k_is) (by k_is) (fun _ _ _ _ _ _ us hl => match us, hl with | [_], _ => rfl)
    obtain ⟨a22, d22, F22, g22, b22⟩ := Dt.mkF (x := "_law_pool") (st := K01.topS 47) (ps := ["_law_cell_here"]) KX G (by k_is) (by k_is) (by k_is) (by k_is) (fun _ _ _ _ _ _ us hl => match us, hl with | [_], _ => rfl)
    obtain ⟨a23, d23, F23, g23, b23⟩ := Dt.mkF (x := "_law_cell") (st := K01.topS 46) (ps := ["_law_cells", "_law_k"]) KX G (by k_is) (by k_is) (by k_is) (by k_is) (fun _ _ _ _ _ _ us hl => match us, hl with | [_, _], _ => rfl)
    obtain ⟨a24, d24, F24, g24, b24⟩ := Dt.mkF (x := "law") (st := K01.topS 60) (ps := ["_law_cells"]) KX G (by k_is) (by k_is) (by k_is) (by k_is) (fun _ _ _ _ _ _ us hl => match us, hl with | [_], _ => rfl)
    have xg_InvalidKey := Dt.mkCg (t := "InvalidKey") KX G (by k_is) (by k_is) (by k_is)
    have xg_InvalidPath := Dt.mkCg (t := "InvalidPath") KX G (by k_is) (by k_is) (by k_is)
    have xg_InvalidWins := Dt.mkCg (t := "InvalidWins") KX G (by k_is) (by k_is) (by k_is)
    have xg_MoveError := Dt.mkCg (t := "MoveError") KX G (by k_is) (by k_is) (by k_is)
    have xg_SearchError := Dt.mkCg (t := "SearchError") KX G (by k_is) (by k_is) (by k_is)
    have xg_ConflictError := Dt.mkCg (t := "ConflictError") KX G (by k_is) (by k_is) (by k_is)
    have xg_InvalidValue := Dt.mkCg (t := "InvalidValue") KX G (by k_is) (by k_is) (by k_is)
    have xg_InvalidName := Dt.mkCg (t := "InvalidName") KX G (by k_is) (by k_is) (by k_is)
    have xg_InvalidStop := Dt.mkCg (t := "InvalidStop") KX G (by k_is) (by k_is) (by k_is)
    have xg_InvalidPattern := Dt.mkCg (t := "InvalidPattern") KX G (by k_is) (by k_is) (by k_is)
    have xg_InvalidCapacity := Dt.mkCg (t := "InvalidCapacity") KX G (by k_is) (by k_is) (by k_is)
    have xg_InvalidCommand := Dt.mkCg (t := "InvalidCommand") KX G (by k_is) (by k_is) (by k_is)
    have xg_NotARecord := Dt.mkCg (t := "NotARecord") KX G (by k_is) (by k_is) (by k_is)
    have xg_NotAScript := Dt.mkCg (t := "NotAScript") KX G (by k_is) (by k_is) (by k_is)
    have xg_InvalidEntries := Dt.mkCg (t := "InvalidEntries") KX G (by k_is) (by k_is) (by k_is)
    have xg_InvalidSteps := Dt.mkCg (t := "InvalidSteps") KX G (by k_is) (by k_is) (by k_is)
    have xg_InvalidPremises := Dt.mkCg (t := "InvalidPremises") KX G (by k_is) (by k_is) (by k_is)
    have xg_InvalidReader := Dt.mkCg (t := "InvalidReader") KX G (by k_is) (by k_is) (by k_is)
    have xg_InvalidNames := Dt.mkCg (t := "InvalidNames") KX G (by k_is) (by k_is) (by k_is)
    have xg_InvalidPatterns := Dt.mkCg (t := "InvalidPatterns") KX G (by k_is) (by k_is) (by k_is)
    have xg_InvalidDeed := Dt.mkCg (t := "InvalidDeed") KX G (by k_is) (by k_is) (by k_is)
    have xg_InvalidText := Dt.mkCg (t := "InvalidText") KX G (by k_is) (by k_is) (by k_is)
    have xg_MissingKey := Dt.mkCg (t := "MissingKey") KX G (by k_is) (by k_is) (by k_is)
    have xg_UnknownName := Dt.mkCg (t := "UnknownName") KX G (by k_is) (by k_is) (by k_is)
    have xg_NotLossless := Dt.mkCg (t := "NotLossless") KX G (by k_is) (by k_is) (by k_is)
    have xg_NothingToUndo := Dt.mkCg (t := "NothingToUndo") KX G (by k_is) (by k_is) (by k_is)
    have xg_Contradictory := Dt.mkCg (t := "Contradictory") KX G (by k_is) (by k_is) (by k_is)
    have xg_TooMany := Dt.mkCg (t := "TooMany") KX G (by k_is) (by k_is) (by k_is)
    have xg_LimitError := Dt.mkCg (t := "LimitError") KX G (by k_is) (by k_is) (by k_is)
    have xh_MoveError := Dt.CgT.be xg_MoveError (by k_is)
    have xh_SearchError := Dt.CgT.be xg_SearchError (by k_is)
    have xh_ConflictError := Dt.CgT.be xg_ConflictError (by k_is)
    have xh_LimitError := Dt.CgT.be xg_LimitError (by k_is)
    have xp_InvalidKey := Dt.mkXp (c := "InvalidKey") KX G (by k_is) (by k_is) (by k_is)
    obtain ⟨xd_InvalidKey, XF_InvalidKey⟩ := Dt.mkFCa (P := PySem.Challenge.pw_keymoves_k01_names_keys_and_paths) (x := "__init__") (qual := "InvalidKey.__init__") (st := (K01.clsBody (K01.topS 5)).getD 0 (.Pass ⟨0, 0, 0, 0⟩)) (kws := []) (sf := "self") (Dt.XcP.at_ xp_InvalidKey) (by k_is) (by k_is) Dt.mkKw0 rfl rfl (by k_is) rfl (by decide +kernel) (by k_is) (by k_is) (by k_is) (by decide +kernel)
    have xb_InvalidKey := Dt.FunC.binds (ps := ["self", "value"]) XF_InvalidKey (fun _ _ _ _ _ us hl => match us, hl with | [_, _], _ => rfl)
    have xs_InvalidKey := Dt.mkXS xp_InvalidKey (by k_is) (by decide +kernel) (by k_is) (by k_is) (by k_is) (by k_is) (by k_is) (by ks_is) (by k_is)
    have xv_InvalidKey := Dt.mkXV (P := PySem.Challenge.pw_keymoves_k01_names_keys_and_paths) (fl := "value") xp_InvalidKey xb_InvalidKey xs_InvalidKey (by k_is)
    have xk_InvalidKey := Dt.mkXK xp_InvalidKey "value" (by k_is) (by k_is) (by k_is) (by k_is) (by k_is) (by k_is) (by k_is) (by k_is) (by k_is) (by k_is) ⟨_, (.consG xg_MoveError xh_MoveError (b := true) (by k_is) (.consG xg_SearchError xh_SearchError (b := false) (by k_is) (.consG xg_ConflictError xh_ConflictError (b := false) (by k_is) (.consG xg_LimitError xh_LimitError (b := false) (by k_is) .nil)))), by rfl⟩
    have xp_InvalidPath := Dt.mkXp (c := "InvalidPath") KX G (by k_is) (by k_is) (by k_is)
    obtain ⟨xd_InvalidPath, XF_InvalidPath⟩ := Dt.mkFCa (P := PySem.Challenge.pw_keymoves_k01_names_keys_and_paths) (x := "__init__") (qual := "InvalidPath.__init__") (st := (K01.clsBody (K01.topS 6)).getD 0 (.Pass ⟨0, 0, 0, 0⟩)) (kws := []) (sf := "self") (Dt.XcP.at_ xp_InvalidPath) (by k_is) (by k_is) Dt.mkKw0 rfl rfl (by k_is) rfl (by decide +kernel) (by k_is) (by k_is) (by k_is) (by decide +kernel)
    have xb_InvalidPath := Dt.FunC.binds (ps := ["self", "value"]) XF_InvalidPath (fun _ _ _ _ _ us hl => match us, hl with | [_, _], _ => rfl)
    have xs_InvalidPath := Dt.mkXS xp_InvalidPath (by k_is) (by decide +kernel) (by k_is) (by k_is) (by k_is) (by k_is) (by k_is) (by ks_is) (by k_is)
    have xv_InvalidPath := Dt.mkXV (P := PySem.Challenge.pw_keymoves_k01_names_keys_and_paths) (fl := "value") xp_InvalidPath xb_InvalidPath xs_InvalidPath (by k_is)
    have xk_InvalidPath := Dt.mkXK xp_InvalidPath "value" (by k_is) (by k_is) (by k_is) (by k_is) (by k_is) (by k_is) (by k_is) (by k_is) (by k_is) (by k_is) ⟨_, (.consG xg_MoveError xh_MoveError (b := true) (by k_is) (.consG xg_SearchError xh_SearchError (b := false) (by k_is) (.consG xg_ConflictError xh_ConflictError (b := false) (by k_is) (.consG xg_LimitError xh_LimitError (b := false) (by k_is) .nil)))), by rfl⟩
    exact K01.join { a_is_name := a0, f_is_name := d0, F_is_name := F0, g_is_name := g0, b_is_name := b0, kw_is_name := w0, a_names_in := a1, f_names_in := d1, F_names_in := F1, g_names_in := g1, b_names_in := b1, a_is_key := a2, f_is_key := d2, F_is_key := F2, g_is_key := g2, b_is_key := b2, kw_is_key := w2, a_is_path := a3, f_is_path := d3, F_is_path := F3, g_is_path := g3, b_is_path := b3, kw_is_path := w3, a__law_draw := a4, f__law_draw := d4, F__law_draw := F4, g__law_draw := g4, b__law_draw := b4, a__law_names := a5, f__law_names := d5, F__law_names := F5, g__law_names := g5, b__law_names := b5, a__law_word := a6, f__law_word := d6, F__law_word := F6, g__law_word := g6, b__law_word := b6, a__law_thing := a7, f__law_thing := d7, F__law_thing := F7, g__law_thing := g7, b__law_thing := b7, a__law_path := a8, f__law_path := d8, F__law_path := F8, g__law_path := g8, b__law_path := b8, a__law_is_name := a9, f__law_is_name := d9, F__law_is_name := F9, g__law_is_name := g9, b__law_is_name := b9, a__law_is_key := a10, f__law_is_key := d10, F__law_is_key := F10, g__law_is_key := g10, b__law_is_key := b10, a__law_error := a11, f__law_error := d11, F__law_error := F11, g__law_error := g11, b__law_error := b11, a__law_field := a12, f__law_field := d12, F__law_field := F12, g__law_field := g12, b__law_field := b12, a__law_caught := a13, f__law_caught := d13, F__law_caught := F13, g__law_caught := g13, b__law_caught := b13, a_check_key := a14, f_check_key := d14, F_check_key := F14, g_check_key := g14, b_check_key := b14, a_check_path := a15, f_check_path := d15, F_check_path := F15, g_check_path := g15, b_check_path := b15, a_lies_under := a16, f_lies_under := d16, F_lies_under := F16, g_lies_under := g16, b_lies_under := b16, a_is_under := a17, f_is_under := d17, F_is_under := F17, g_is_under := g17, b_is_under := b17, kp0_is_under := v0_17, a_replaced := a18, f_replaced := d18, F_replaced := F18, g_replaced := g18, b_replaced := b18, a_put_at := a19, f_put_at := d19, F_put_at := F19, g_put_at := g19, b_put_at := b19, kp0_put_at := v0_19, kp1_put_at := v1_19, a__law_pair_right := a20, f__law_pair_right := d20, F__law_pair_right := F20, g__law_pair_right := g20, b__law_pair_right := b20, a__law_right := a21, f__law_right := d21, F__law_right := F21, g__law_right := g21, b__law_right := b21, a__law_pool := a22, f__law_pool := d22, F__law_pool := F22, g__law_pool := g22, b__law_pool := b22, a__law_cell := a23, f__law_cell := d23, F__law_cell := F23, g__law_cell := g23, b__law_cell := b23, a_law := a24, f_law := d24, F_law := F24, g_law := g24, b_law := b24, c_LETTERS := ⟨_, PySem.W.mg_of KX G (by k_is)⟩, c_LONGEST := ⟨_, PySem.W.mg_of KX G (by k_is)⟩, c_MAX_PATH := ⟨_, PySem.W.mg_of KX G (by k_is)⟩, c_SLASH := ⟨_, PySem.W.mg_of KX G (by k_is)⟩, n_ArithmeticError := PySem.W.mg_none_of KX G (by k_is), n_LookupError := PySem.W.mg_none_of KX G (by k_is), n_RuntimeError := PySem.W.mg_none_of KX G (by k_is), n_ValueError := PySem.W.mg_none_of KX G (by k_is), n_abs := PySem.W.mg_none_of KX G (by k_is), n_all := PySem.W.mg_none_of KX G (by k_is), n_divmod := PySem.W.mg_none_of KX G (by k_is), n_int := PySem.W.mg_none_of KX G (by k_is), n_isinstance := PySem.W.mg_none_of KX G (by k_is), n_len := PySem.W.mg_none_of KX G (by k_is), n_max := PySem.W.mg_none_of KX G (by k_is), n_min := PySem.W.mg_none_of KX G (by k_is), n_range := PySem.W.mg_none_of KX G (by k_is), n_repr := PySem.W.mg_none_of KX G (by k_is), n_str := PySem.W.mg_none_of KX G (by k_is), n_super := PySem.W.mg_none_of KX G (by k_is), n_tuple := PySem.W.mg_none_of KX G (by k_is), C_InvalidKey := _, gm_InvalidKey := xg_InvalidKey.g, C_InvalidPath := _, gm_InvalidPath := xg_InvalidPath.g, C_InvalidWins := _, gm_InvalidWins := xg_InvalidWins.g, C_MoveError := _, gm_MoveError := xg_MoveError.g, C_SearchError := _, gm_SearchError := xg_SearchError.g, C_ConflictError := _, gm_ConflictError := xg_ConflictError.g, C_InvalidValue := _, gm_InvalidValue := xg_InvalidValue.g, C_InvalidName := _, gm_InvalidName := xg_InvalidName.g, C_InvalidStop := _, gm_InvalidStop := xg_InvalidStop.g, C_InvalidPattern := _, gm_InvalidPattern := xg_InvalidPattern.g, C_InvalidCapacity := _, gm_InvalidCapacity := xg_InvalidCapacity.g, C_InvalidCommand := _, gm_InvalidCommand := xg_InvalidCommand.g, C_NotARecord := _, gm_NotARecord := xg_NotARecord.g, C_NotAScript := _, gm_NotAScript := xg_NotAScript.g, C_InvalidEntries := _, gm_InvalidEntries := xg_InvalidEntries.g, C_InvalidSteps := _, gm_InvalidSteps := xg_InvalidSteps.g, C_InvalidPremises := _, gm_InvalidPremises := xg_InvalidPremises.g, C_InvalidReader := _, gm_InvalidReader := xg_InvalidReader.g, C_InvalidNames := _, gm_InvalidNames := xg_InvalidNames.g, C_InvalidPatterns := _, gm_InvalidPatterns := xg_InvalidPatterns.g, C_InvalidDeed := _, gm_InvalidDeed := xg_InvalidDeed.g, C_InvalidText := _, gm_InvalidText := xg_InvalidText.g, C_MissingKey := _, gm_MissingKey := xg_MissingKey.g, C_UnknownName := _, gm_UnknownName := xg_UnknownName.g, C_NotLossless := _, gm_NotLossless := xg_NotLossless.g, C_NothingToUndo := _, gm_NothingToUndo := xg_NothingToUndo.g, C_Contradictory := _, gm_Contradictory := xg_Contradictory.g, C_TooMany := _, gm_TooMany := xg_TooMany.g, C_LimitError := _, gm_LimitError := xg_LimitError.g, a_InvalidKey___init__ := _, f_InvalidKey___init__ := xd_InvalidKey, cd_InvalidKey___init__ := _, cc_InvalidKey___init__ := _, F_InvalidKey___init__ := XF_InvalidKey, x_InvalidKey := xv_InvalidKey, xk_InvalidKey := xk_InvalidKey, kt_InvalidKey_InvalidKey := Dt.mkKtS xp_InvalidKey xg_InvalidKey (.inr rfl) (by k_is), kt_InvalidKey_InvalidPath := Dt.mkKtS xp_InvalidKey xg_InvalidPath (.inl (by decide)) (by k_is), kt_InvalidKey_InvalidWins := Dt.mkKtS xp_InvalidKey xg_InvalidWins (.inl (by decide)) (by k_is), kt_InvalidKey_MoveError := Dt.mkKtS xp_InvalidKey xg_MoveError (.inr rfl) (by k_is), kt_InvalidKey_SearchError := Dt.mkKtS xp_InvalidKey xg_SearchError (.inl (by decide)) (by k_is), kt_InvalidKey_ConflictError := Dt.mkKtS xp_InvalidKey xg_ConflictError (.inl (by decide)) (by k_is), kt_InvalidKey_ValueError := Dt.mkKtB xp_InvalidKey (by decide +kernel) (by k_is), kt_InvalidKey_LookupError := Dt.mkKtB xp_InvalidKey (by decide +kernel) (by k_is), kt_InvalidKey_RuntimeError := Dt.mkKtB xp_InvalidKey (by decide +kernel) (by k_is), kt_InvalidKey_InvalidValue := Dt.mkKtS xp_InvalidKey xg_InvalidValue (.inl (by decide)) (by k_is), kt_InvalidKey_InvalidName := Dt.mkKtS xp_InvalidKey xg_InvalidName (.inl (by decide)) (by k_is), kt_InvalidKey_InvalidStop := Dt.mkKtS xp_InvalidKey xg_InvalidStop (.inl (by decide)) (by k_is), kt_InvalidKey_InvalidPattern := Dt.mkKtS xp_InvalidKey xg_InvalidPattern (.inl (by decide)) (by k_is), kt_InvalidKey_InvalidCapacity := Dt.mkKtS xp_InvalidKey xg_InvalidCapacity (.inl (by decide)) (by k_is), kt_InvalidKey_InvalidCommand := Dt.mkKtS xp_InvalidKey xg_InvalidCommand (.inl (by decide)) (by k_is), kt_InvalidKey_NotARecord := Dt.mkKtS xp_InvalidKey xg_NotARecord (.inl (by decide)) (by k_is), kt_InvalidKey_NotAScript := Dt.mkKtS xp_InvalidKey xg_NotAScript (.inl (by decide)) (by k_is), kt_InvalidKey_InvalidEntries := Dt.mkKtS xp_InvalidKey xg_InvalidEntries (.inl (by decide)) (by k_is), kt_InvalidKey_InvalidSteps := Dt.mkKtS xp_InvalidKey xg_InvalidSteps (.inl (by decide)) (by k_is), kt_InvalidKey_InvalidPremises := Dt.mkKtS xp_InvalidKey xg_InvalidPremises (.inl (by decide)) (by k_is), kt_InvalidKey_InvalidReader := Dt.mkKtS xp_InvalidKey xg_InvalidReader (.inl (by decide)) (by k_is), kt_InvalidKey_InvalidNames := Dt.mkKtS xp_InvalidKey xg_InvalidNames (.inl (by decide)) (by k_is), kt_InvalidKey_InvalidPatterns := Dt.mkKtS xp_InvalidKey xg_InvalidPatterns (.inl (by decide)) (by k_is), kt_InvalidKey_InvalidDeed := Dt.mkKtS xp_InvalidKey xg_InvalidDeed (.inl (by decide)) (by k_is), kt_InvalidKey_InvalidText := Dt.mkKtS xp_InvalidKey xg_InvalidText (.inl (by decide)) (by k_is), kt_InvalidKey_MissingKey := Dt.mkKtS xp_InvalidKey xg_MissingKey (.inl (by decide)) (by k_is), kt_InvalidKey_UnknownName := Dt.mkKtS xp_InvalidKey xg_UnknownName (.inl (by decide)) (by k_is), kt_InvalidKey_NotLossless := Dt.mkKtS xp_InvalidKey xg_NotLossless (.inl (by decide)) (by k_is), kt_InvalidKey_NothingToUndo := Dt.mkKtS xp_InvalidKey xg_NothingToUndo (.inl (by decide)) (by k_is), kt_InvalidKey_Contradictory := Dt.mkKtS xp_InvalidKey xg_Contradictory (.inl (by decide)) (by k_is), kt_InvalidKey_TooMany := Dt.mkKtS xp_InvalidKey xg_TooMany (.inl (by decide)) (by k_is), kt_InvalidKey_LimitError := Dt.mkKtS xp_InvalidKey xg_LimitError (.inl (by decide)) (by k_is), kt_InvalidKey_ArithmeticError := Dt.mkKtB xp_InvalidKey (by decide +kernel) (by k_is), a_InvalidPath___init__ := _, f_InvalidPath___init__ := xd_InvalidPath, cd_InvalidPath___init__ := _, cc_InvalidPath___init__ := _, F_InvalidPath___init__ := XF_InvalidPath, x_InvalidPath := xv_InvalidPath, xk_InvalidPath := xk_InvalidPath, kt_InvalidPath_InvalidKey := Dt.mkKtS xp_InvalidPath xg_InvalidKey (.inl (by decide)) (by k_is), kt_InvalidPath_InvalidPath := Dt.mkKtS xp_InvalidPath xg_InvalidPath (.inr rfl) (by k_is), kt_InvalidPath_InvalidWins := Dt.mkKtS xp_InvalidPath xg_InvalidWins (.inl (by decide)) (by k_is), kt_InvalidPath_MoveError := Dt.mkKtS xp_InvalidPath xg_MoveError (.inr rfl) (by k_is), kt_InvalidPath_SearchError := Dt.mkKtS xp_InvalidPath xg_SearchError (.inl (by decide)) (by k_is), kt_InvalidPath_ConflictError := Dt.mkKtS xp_InvalidPath xg_ConflictError (.inl (by decide)) (by k_is), kt_InvalidPath_ValueError := Dt.mkKtB xp_InvalidPath (by decide +kernel) (by k_is), kt_InvalidPath_LookupError := Dt.mkKtB xp_InvalidPath (by decide +kernel) (by k_is), kt_InvalidPath_RuntimeError := Dt.mkKtB xp_InvalidPath (by decide +kernel) (by k_is), kt_InvalidPath_InvalidValue := Dt.mkKtS xp_InvalidPath xg_InvalidValue (.inl (by decide)) (by k_is), kt_InvalidPath_InvalidName := Dt.mkKtS xp_InvalidPath xg_InvalidName (.inl (by decide)) (by k_is), kt_InvalidPath_InvalidStop := Dt.mkKtS xp_InvalidPath xg_InvalidStop (.inl (by decide)) (by k_is), kt_InvalidPath_InvalidPattern := Dt.mkKtS xp_InvalidPath xg_InvalidPattern (.inl (by decide)) (by k_is), kt_InvalidPath_InvalidCapacity := Dt.mkKtS xp_InvalidPath xg_InvalidCapacity (.inl (by decide)) (by k_is), kt_InvalidPath_InvalidCommand := Dt.mkKtS xp_InvalidPath xg_InvalidCommand (.inl (by decide)) (by k_is), kt_InvalidPath_NotARecord := Dt.mkKtS xp_InvalidPath xg_NotARecord (.inl (by decide)) (by k_is), kt_InvalidPath_NotAScript := Dt.mkKtS xp_InvalidPath xg_NotAScript (.inl (by decide)) (by k_is), kt_InvalidPath_InvalidEntries := Dt.mkKtS xp_InvalidPath xg_InvalidEntries (.inl (by decide)) (by k_is), kt_InvalidPath_InvalidSteps := Dt.mkKtS xp_InvalidPath xg_InvalidSteps (.inl (by decide)) (by k_is), kt_InvalidPath_InvalidPremises := Dt.mkKtS xp_InvalidPath xg_InvalidPremises (.inl (by decide)) (by k_is), kt_InvalidPath_InvalidReader := Dt.mkKtS xp_InvalidPath xg_InvalidReader (.inl (by decide)) (by k_is), kt_InvalidPath_InvalidNames := Dt.mkKtS xp_InvalidPath xg_InvalidNames (.inl (by decide)) (by k_is), kt_InvalidPath_InvalidPatterns := Dt.mkKtS xp_InvalidPath xg_InvalidPatterns (.inl (by decide)) (by k_is), kt_InvalidPath_InvalidDeed := Dt.mkKtS xp_InvalidPath xg_InvalidDeed (.inl (by decide)) (by k_is), kt_InvalidPath_InvalidText := Dt.mkKtS xp_InvalidPath xg_InvalidText (.inl (by decide)) (by k_is), kt_InvalidPath_MissingKey := Dt.mkKtS xp_InvalidPath xg_MissingKey (.inl (by decide)) (by k_is), kt_InvalidPath_UnknownName := Dt.mkKtS xp_InvalidPath xg_UnknownName (.inl (by decide)) (by k_is), kt_InvalidPath_NotLossless := Dt.mkKtS xp_InvalidPath xg_NotLossless (.inl (by decide)) (by k_is), kt_InvalidPath_NothingToUndo := Dt.mkKtS xp_InvalidPath xg_NothingToUndo (.inl (by decide)) (by k_is), kt_InvalidPath_Contradictory := Dt.mkKtS xp_InvalidPath xg_Contradictory (.inl (by decide)) (by k_is), kt_InvalidPath_TooMany := Dt.mkKtS xp_InvalidPath xg_TooMany (.inl (by decide)) (by k_is), kt_InvalidPath_LimitError := Dt.mkKtS xp_InvalidPath xg_LimitError (.inl (by decide)) (by k_is), kt_InvalidPath_ArithmeticError := Dt.mkKtB xp_InvalidPath (by decide +kernel) (by k_is), lc__law_pair_right := _, lt__law_pair_right := 731, lcd__law_pair_right := lc20 } (by
      intro p hp
      exact hp) hmg
  case Y =>
    have y0 := PySem.W.kIn_of Y
    obtain ⟨y1, z1⟩ := Dt.kt_in1 (K := HR.mk.heap_1 w.params) (t := 731) (o := Dt.tabO) y0 (by kernel_rfl)
    refine ⟨y1, fun p hp => ?_, fun p hp => ?_, fun p hp => ?_⟩
    · simp only [List.mem_cons, List.mem_nil_iff, or_false] at hp
      rcases hp with rfl
      · exact z1
    · simp only [List.mem_cons, List.mem_nil_iff, or_false] at hp
      rcases hp with rfl
      · kernel_rfl
    · simp only [List.mem_cons, List.mem_nil_iff, or_false] at hp
      rcases hp with rfl
      · exact Dt.codeHd_of1 (y1 735 _ (by k_is)) rfl rfl rfl rfl rfl (by decide)
