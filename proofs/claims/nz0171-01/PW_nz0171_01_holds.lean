import PyProof.Rows.All
import Wide.Bridge
import Wide.OfPy
import Wide.ObjOpen
import Wide.Vals
import Wide.OfTm
import Wide.Ends
import PyProof.Rows.TopObjD
import Imp.PinsA
import Wide.Head
import Wide.Well
import Wide.BytesRules
import Wide.RegSB
import Flt.Mod
import Wide.OneHead
import Wide.Tac
import Wide.BridgeG
import Wide.Loose
import Wide.Line
import OpenK.Peek
import OpenK.KGet
import OpenK.KCall
import OpenK.KMake
import OpenK.KCls
import Open.Head
import Open.Recs
import Open.Strs
import Open.Fast
import Open.FastTabs
import Open.FastLooks
import Open.Line
import OpenK.TopRead
import OpenK.KWalk
import OpenK.KMore
import OpenK.KList
import OpenK.KDict
import OpenK.KCell
import Open.Seg
import Open.Boot
import Open.Tree
import Open.FastRun
import Open.FastT9
import Open.Pieces
import OpenK.KLine
import Wide.Fin
import OpenK.KLaw
import OpenK.KFor
import OpenK.KUnr
import OpenK.KRaise
import OpenK.KRaiseN
import OpenK.KPrune
import OpenK.KMisc
import OpenK.KToks
import OpenK.KExp
import OpenK.KComp
import OpenK.KWith
import OpenK.KEqL
import OpenK.KApp
import KE.KPop
import KE.KListMore
import KE.KEqSeq
import KE.KSlice
import KE.LcTurns
import KE.RegLcTurns
import KE.KCat
import KE.KTup
import KE.KxSplit
import KE.KxText
import KE.KxBytes
import KE.KNest
import KE.KSliceW
import KE.KTree
import KE.KTurns
import KE.KCases
import KE.RegKUnpack
import KE.KLcFree
import KE.KLcTest
import KE.KPathFold
import KE.KItemAt
import KE.BytesK
import KE.KCompFold
import KE.KCallJoin
import KE.KState
import KE.KxAdd
import KE.KDeep
import KE.RegKLenAny
import KE.RegKDeep
import KE.BitLaws
import KE.RegFinNonlin
import KE.KBits
import KE.KBitsMul
import KE.IntText
import KE.KIntText
import KE.KCallBy
import Lean
import PySem.Challenge.RW_nz0171_01
open PySem PySem.W PySem.Spec PySem.Calls PyProof.Rows
set_option Elab.async false
set_option linter.all false
set_option rowWalk.seconds 0
namespace Mine
section
local macro_rules | `(tactic| o_head $_) => `(tactic| exact False.elim (by assumption))
set_option maxRecDepth 100000 in
set_option maxHeartbeats 0 in
theorem kk (h : False) : PySem.Challenge.rw_nz0171_01.row.Holds := by
  w_on; k_head
end
theorem retB {Q : Value → Shared → Prop} {x y : Bool} {s : Shared} (e : y = x) (h : Q (.bool x) s) : Q (.bool y) s := e ▸ h
theorem retI {Q : Value → Shared → Prop} {x y : Int} {t : Tok} {s : Shared} (e : y = x) (h : Q (.int x t) s) : Q (.int y t) s := e ▸ h
theorem retS {Q : Value → Shared → Prop} {x y : Str} {t : Tok} {s : Shared} (e : y = x) (h : Q (.str x t) s) : Q (.str y t) s := e ▸ h
theorem retY {Q : Value → Shared → Prop} {x y : Array UInt8} {t : Tok} {s : Shared} (e : y = x) (h : Q (.bytes x t) s) : Q (.bytes y t) s := e ▸ h
/-- the ways meet: one value, one frame, one ledger behind them all -/
structure Met {α : Type} (h₀ : Heap) (L : Addr) (m : Str → Option Value) (news : List (Addr × Obj)) (s : Shared) (mk : Tok → α) (v : α) (s' : Shared) : Prop where
  out : ∃ t h tk, v = mk t ∧ s' = { s with heap := h, toks := tk } ∧ Fr h₀ L h m ∧ News h₀ L h news
theorem Met.mk' {α : Type} {h₀ h : Heap} {L : Addr} {m : Str → Option Value} {news : List (Addr × Obj)} {s : Shared} {mk : Tok → α} {v : α} {t : Tok} {tk : Nat} (e : v = mk t) (F : Fr h₀ L h m) (N : News h₀ L h news) : Met h₀ L m news s mk v { s with heap := h, toks := tk } := ⟨t, h, tk, e, rfl, F, N⟩
theorem meet {α : Type} {M : Model} {A : Around} {E : Value → Shared → Prop} {Q : α → Shared → Prop} {s : Shared} {h₀ : Heap} {L : Addr} {m : Str → Option Value} {news : List (Addr × Obj)} {mk : Tok → α} {c : Sem α}
    (_F : Fr h₀ L s.heap m) (_N : News h₀ L s.heap news) (hc : wpAny M A c (Met h₀ L m news s mk) E s) (hk : ∀ t h tk, Fr h₀ L h m → News h₀ L h news → Q (mk t) { s with heap := h, toks := tk }) : wpAny M A c Q E s :=
  wpAny_mono hc (fun _ _ ⟨t, h, tk, e, e', F, N⟩ => by subst e; subst e'; exact hk t h tk F N) fun _ _ h => h
theorem newsApp {h₀ h h' : Heap} {L : Addr} {n1 n2 : List (Addr × Obj)} (N1 : News h₀ L h' n1) (E : InElt h h') (N2 : News h₀ L h n2) : News h₀ L h' (n1 ++ n2) := fun p hp =>
  (List.mem_append.mp hp).elim (N1 p) fun q => ⟨E _ _ (N2 p q).1, (N2 p q).2⟩
theorem storeX_M {M : Model} {A : Around} {E : Value → Shared → Prop} {s : Shared} {h₀ : Heap} {L : Addr} {m : Str → Option Value} {news : List (Addr × Obj)} {cn : Str} {cs : Scope} {a : Addr} {ccd : Value} {cl : List (Str × Addr)} {x : Str} {v : Value} {Q : Unit → Shared → Prop} (F : Fr h₀ L s.heap m) (N : News h₀ L s.heap news)
    (h : let m' : Str → Option Value := fun y => if y = x then some v else m y; ∀ h', Fr h₀ L h' m' → News h₀ L h' news → Q () { s with heap := h', toks := s.toks + 1 })
    (hk : cs.kind = .function) (hx : (envX cn cs L a ccd cl).kindOf x = some .local) : wpAny M A (storeName (envX cn cs L a ccd cl) x v) Q E s := storeX_L F N h hk hx
/-- the frame at L bears a letter for its names already -/
structure EntM (h₀ : Heap) (L : Addr) : Prop where
  triv : True
theorem entNo {h₀ h : Heap} {L : Addr} {m : Str → Option Value} (_F : Fr h₀ L h m) (_e : EntM h₀ L) : True := trivial
/-- the names at a def's entry become a letter, the count of tokens another -/
theorem entLet {α : Type} {M : Model} {A : Around} {c : Sem α} {Q : α → Shared → Prop} {E : Value → Shared → Prop} {s : Shared} {h₀ h : Heap} {L : Addr} {m : Str → Option Value} {tk : Nat} (F : Fr h₀ L h m)
    (k : let m' : Str → Option Value := m; ∀ tk', EntM h₀ L → Fr h₀ L h m' → wpAny M A c Q E { s with heap := h, toks := tk' }) : wpAny M A c Q E { s with heap := h, toks := tk } := k tk ⟨trivial⟩ F
theorem subCons {x : Addr × Obj} {l news : List (Addr × Obj)} (h : x ∈ news) (h' : ∀ p ∈ l, p ∈ news) : ∀ p ∈ x :: l, p ∈ news := List.forall_mem_cons.mpr ⟨h, h'⟩
theorem neL0 {a b : Nat} {q : Prop} (h : a < b ∧ q) : a ≠ b := Nat.ne_of_lt h.1
theorem ltP0 {a b : Nat} {q : Prop} (h : a < b ∧ q) : a < b := h.1
theorem neL1 {a b : Nat} {r0 q : Prop} (h : r0 ∧ a < b ∧ q) : a ≠ b := Nat.ne_of_lt h.2.1
theorem ltP1 {a b : Nat} {r0 q : Prop} (h : r0 ∧ a < b ∧ q) : a < b := h.2.1
theorem neL2 {a b : Nat} {r0 r1 q : Prop} (h : r0 ∧ r1 ∧ a < b ∧ q) : a ≠ b := Nat.ne_of_lt h.2.2.1
theorem ltP2 {a b : Nat} {r0 r1 q : Prop} (h : r0 ∧ r1 ∧ a < b ∧ q) : a < b := h.2.2.1
theorem neL3 {a b : Nat} {r0 r1 r2 q : Prop} (h : r0 ∧ r1 ∧ r2 ∧ a < b ∧ q) : a ≠ b := Nat.ne_of_lt h.2.2.2.1
theorem ltP3 {a b : Nat} {r0 r1 r2 q : Prop} (h : r0 ∧ r1 ∧ r2 ∧ a < b ∧ q) : a < b := h.2.2.2.1
theorem neL4 {a b : Nat} {r0 r1 r2 r3 q : Prop} (h : r0 ∧ r1 ∧ r2 ∧ r3 ∧ a < b ∧ q) : a ≠ b := Nat.ne_of_lt h.2.2.2.2.1
theorem ltP4 {a b : Nat} {r0 r1 r2 r3 q : Prop} (h : r0 ∧ r1 ∧ r2 ∧ r3 ∧ a < b ∧ q) : a < b := h.2.2.2.2.1
theorem neL5 {a b : Nat} {r0 r1 r2 r3 r4 q : Prop} (h : r0 ∧ r1 ∧ r2 ∧ r3 ∧ r4 ∧ a < b ∧ q) : a ≠ b := Nat.ne_of_lt h.2.2.2.2.2.1
theorem ltP5 {a b : Nat} {r0 r1 r2 r3 r4 q : Prop} (h : r0 ∧ r1 ∧ r2 ∧ r3 ∧ r4 ∧ a < b ∧ q) : a < b := h.2.2.2.2.2.1
theorem neG0 {a b : Nat} {q : Prop} (h : b < a ∧ q) : a ≠ b := Nat.ne_of_gt h.1
theorem ltT0 {a b m : Nat} {q : Prop} (h2 : m < b) (h : a < m ∧ q) : a < b := Nat.lt_trans h.1 h2
theorem neG1 {a b : Nat} {r0 q : Prop} (h : r0 ∧ b < a ∧ q) : a ≠ b := Nat.ne_of_gt h.2.1
theorem ltT1 {a b m : Nat} {r0 q : Prop} (h2 : m < b) (h : r0 ∧ a < m ∧ q) : a < b := Nat.lt_trans h.2.1 h2
theorem neG2 {a b : Nat} {r0 r1 q : Prop} (h : r0 ∧ r1 ∧ b < a ∧ q) : a ≠ b := Nat.ne_of_gt h.2.2.1
theorem ltT2 {a b m : Nat} {r0 r1 q : Prop} (h2 : m < b) (h : r0 ∧ r1 ∧ a < m ∧ q) : a < b := Nat.lt_trans h.2.2.1 h2
theorem neG3 {a b : Nat} {r0 r1 r2 q : Prop} (h : r0 ∧ r1 ∧ r2 ∧ b < a ∧ q) : a ≠ b := Nat.ne_of_gt h.2.2.2.1
theorem ltT3 {a b m : Nat} {r0 r1 r2 q : Prop} (h2 : m < b) (h : r0 ∧ r1 ∧ r2 ∧ a < m ∧ q) : a < b := Nat.lt_trans h.2.2.2.1 h2
theorem neA0 {a b : Nat} {x : Prop} {q : Prop} (h : (a ≠ b ∧ x) ∧ q) : a ≠ b := h.1.1
theorem neB0 {a b : Nat} {x y : Prop} {q : Prop} (h : (x ∧ a ≠ b ∧ y) ∧ q) : a ≠ b := h.1.2.1
theorem neC0 {a b : Nat} {x y : Prop} {q : Prop} (h : (x ∧ y ∧ a ≠ b) ∧ q) : a ≠ b := h.1.2.2
theorem neA1 {a b : Nat} {x : Prop} {r0 q : Prop} (h : r0 ∧ (a ≠ b ∧ x) ∧ q) : a ≠ b := h.2.1.1
theorem neB1 {a b : Nat} {x y : Prop} {r0 q : Prop} (h : r0 ∧ (x ∧ a ≠ b ∧ y) ∧ q) : a ≠ b := h.2.1.2.1
theorem neC1 {a b : Nat} {x y : Prop} {r0 q : Prop} (h : r0 ∧ (x ∧ y ∧ a ≠ b) ∧ q) : a ≠ b := h.2.1.2.2
theorem neA2 {a b : Nat} {x : Prop} {r0 r1 q : Prop} (h : r0 ∧ r1 ∧ (a ≠ b ∧ x) ∧ q) : a ≠ b := h.2.2.1.1
theorem neB2 {a b : Nat} {x y : Prop} {r0 r1 q : Prop} (h : r0 ∧ r1 ∧ (x ∧ a ≠ b ∧ y) ∧ q) : a ≠ b := h.2.2.1.2.1
theorem neC2 {a b : Nat} {x y : Prop} {r0 r1 q : Prop} (h : r0 ∧ r1 ∧ (x ∧ y ∧ a ≠ b) ∧ q) : a ≠ b := h.2.2.1.2.2
theorem neM0 {a b : Nat} {q : Prop} (h : a ≠ b ∧ q) : a ≠ b := h.1
theorem neM1 {a b : Nat} {r0 q : Prop} (h : r0 ∧ a ≠ b ∧ q) : a ≠ b := h.2.1
theorem neM2 {a b : Nat} {r0 r1 q : Prop} (h : r0 ∧ r1 ∧ a ≠ b ∧ q) : a ≠ b := h.2.2.1
theorem neM3 {a b : Nat} {r0 r1 r2 q : Prop} (h : r0 ∧ r1 ∧ r2 ∧ a ≠ b ∧ q) : a ≠ b := h.2.2.2.1
theorem neM4 {a b : Nat} {r0 r1 r2 r3 q : Prop} (h : r0 ∧ r1 ∧ r2 ∧ r3 ∧ a ≠ b ∧ q) : a ≠ b := h.2.2.2.2.1
theorem roomA {dp k d : Nat} (h : dp + k < 1000) (e : Nat.ble (1 + d) k = true) : dp + 1 + d < 1000 := by have := Nat.le_of_ble_eq_true e; omega
theorem roomB {dp k d : Nat} (h : dp + k < 1000) (e : Nat.ble (2 + d) k = true) : dp + 1 + 1 + d < 1000 := by have := Nat.le_of_ble_eq_true e; omega
theorem unitA {un k d : Nat} (h : un + k < 9900) (e : Nat.ble (3 + d) k = true) : un + 3 + d < 9900 := by have := Nat.le_of_ble_eq_true e; omega
theorem roomE {dp k : Nat} (h : dp + k < 1000) : dp < 1000 := by omega
theorem roomE1 {dp k : Nat} (h : dp + k < 1000) (e : Nat.ble 1 k = true) : dp + 1 < 1000 := by have := Nat.le_of_ble_eq_true e; omega
theorem roomE2 {dp k : Nat} (h : dp + k < 1000) (e : Nat.ble 2 k = true) : dp + 1 + 1 < 1000 := by have := Nat.le_of_ble_eq_true e; omega
local macro_rules | `(tactic| k_ne) => `(tactic| k_extra "Mine k_ne")
theorem row1 : True := by
  k_with "Mine k_ne" => (first | exact neL1 (by assumption) | exact neG1 (by assumption) | exact neL0 (by assumption) | exact neL3 (by assumption) | exact neL2 (by assumption) | exact neG0 (by assumption) | exact neL4 (by assumption) | exact neG2 (by assumption) | exact neL5 (by assumption) | exact neG3 (by assumption) | (refine neN ?_; (try dsimp only); omega))
  trivial
local macro_rules | `(tactic| k_room) => `(tactic| k_extra "Mine k_room")
theorem row2 : True := by
  k_with "Mine k_room" => (first | exact roomE (by assumption) | exact roomE1 (by assumption) (by rfl) | exact roomE2 (by assumption) (by rfl) | ((try simp only [depth_mark, depth_under_make, depth_under_kw, depth_in1, depth_deeper, depth_caller]); (try dsimp only [ktrTop]); (show _ < 1000); omega))
  trivial
def offB (n : String) : List (Addr × Obj) → Bool
  | [] => true
  | p :: r => (match p.2.cls with | .type m => !(decide (m = n)) | .ref _ => true | _ => false) && offB n r
theorem offB_off1 {n : String} {p : Addr × Obj} {r : List (Addr × Obj)} (h : offB n (p :: r) = true) : p.2.cls ≠ .type n ∧ offB n r = true := by
  have h1 := Bool.and_eq_true_iff.mp h
  refine ⟨fun e => ?_, h1.2⟩
  have h2 := h1.1
  rw [e] at h2
  simp at h2
theorem offBool {I : Addr} {o : Obj} {n : String} (hc : o.cls = .type n) : ∀ {l : List (Addr × Obj)}, offB n l = true → OffW [(I, o)] l
  | [], _ => trivial
  | _ :: _, h => ⟨⟨.inr fun e => (offB_off1 h).1 (e.trans hc), trivial⟩, offBool hc (offB_off1 h).2⟩
theorem offBool2 {I J : Addr} {o q : Obj} {n k : String} (hc : o.cls = .type n) (hd : q.cls = .type k) : ∀ {l : List (Addr × Obj)}, offB n l = true → offB k l = true → OffW [(I, o), (J, q)] l
  | [], _, _ => trivial
  | _ :: _, h, h' => ⟨⟨.inr fun e => (offB_off1 h).1 (e.trans hc), .inr fun e => (offB_off1 h').1 (e.trans hd), trivial⟩, offBool2 hc hd (offB_off1 h).2 (offB_off1 h').2⟩
theorem offC {its l : List (Addr × Obj)} {p : Addr × Obj} (h : OffW1 p its) (h' : OffW its l) : OffW its (p :: l) := ⟨h, h'⟩
local macro_rules | `(tactic| ktu_offL) => `(tactic| k_extra "Mine ktu_offL")
theorem row3 : True := by
  k_with "Mine ktu_offL" => (first | exact trivial | exact offBool (n := "tuple_iterator") (by assumption) rfl | exact offBool (n := "list_iterator") (by assumption) rfl | exact offBool (n := "range_iterator") (by assumption) rfl | exact offBool2 (n := "enumerate") (k := "tuple_iterator") (by assumption) (by assumption) rfl rfl | (refine offC (by ktu_off1L) ?_; ktu_offL))
  trivial
local macro_rules | `(tactic| ktu_objs) => `(tactic| k_extra "Mine ktu_objs")
theorem row4 : True := by
  k_with "Mine ktu_objs" => (((repeat' ktu_obj); (refine AllObj.nil (fun N' => ?_)); (try dsimp only [List.cons_append, List.nil_append] at N')))
  trivial
theorem subNil {news : List (Addr × Obj)} : ∀ p ∈ ([] : List (Addr × Obj)), p ∈ news := fun _ h => nomatch h
theorem subP_refl {l : List (Addr × Obj)} : ∀ p ∈ l, p ∈ l := fun _ h => h
theorem subP_head {x : Addr × Obj} {l k : List (Addr × Obj)} (h : ∀ p ∈ l, p ∈ k) : ∀ p ∈ x :: l, p ∈ x :: k := fun p hp =>
  (List.mem_cons.mp hp).elim (fun e => e ▸ List.mem_cons_self ..) fun h' => List.mem_cons_of_mem _ (h p h')
theorem subP_skip {x : Addr × Obj} {l k : List (Addr × Obj)} (h : ∀ p ∈ l, p ∈ k) : ∀ p ∈ l, p ∈ x :: k := fun p hp => List.mem_cons_of_mem _ (h p hp)
theorem subL_of : ∀ {l k : List (Addr × Obj)}, (∀ p ∈ l, p ∈ k) → SubL l k
  | [], _, _ => trivial
  | _ :: _, _, h => ⟨h _ (List.mem_cons_self ..), subL_of fun p hp => h p (List.mem_cons_of_mem _ hp)⟩
local macro_rules | `(tactic| k_subL) => `(tactic| k_extra "Mine k_subL")
theorem row5 : True := by
  k_with "Mine k_subL" => ((refine subL_of ?_; (repeat' (first | exact subNil | exact subP_refl | refine subP_head ?_ | refine subP_skip ?_)); done))
  trivial
local macro_rules | `(tactic| k_lt $h:ident) => `(tactic| (replace $h := allLt_of $h; dsimp only [AllLt] at $h:ident))
local macro_rules | `(tactic| walk_at $s:str) => `(tactic| k_extra $s)
theorem row6 : True := by
  k_with "eval Name" => (k_here; (fail_if_success (with_reducible show wpAny _ _ (eval (Expr.Name _ _) (compEnvC _ _ _ _)) _ _ _)); k_dflt (first | (refine' nameX_L ?nlF ?nlv ?_ ?nla ?nlb; (case nla => rfl); (case nlb => rfl); (case nlF => k_asm); (case nlv => rfl); k_whole) | (refine' nameX_K ?nkF ?nkX ?nkT ?nke ?_ ?nka ?nkb; (case nka => rfl); (case nkb => rfl); (case nkF => k_asm); (case nkX => k_asm); (case nkT => k_asm); (case nke => k_is); k_whole) | (refine' nameX_B ?nbF ?nbX ?nbT ?nbe ?nbv ?nbn ?_ ?nba ?nbb; (case nba => rfl); (case nbb => rfl); (case nbF => k_asm); (case nbX => k_asm); (case nbT => k_asm); (case nbe => k_is); (case nbv => boot_fast); (case nbn => decide); k_whole)))
  trivial
theorem row7 : True := by
  k_with "execs cons" => ((rename Fr _ _ _ _ => lF'); (fail_if_success (have := entNo lF' (by with_reducible assumption))); with_reducible refine' entLet lF' ?_; clear lF'; intro mm9 tk9 eM9 F'; walk_say "ENTRY")
  trivial
theorem row8 : True := by
  k_with "newTuple" => (k_here; dsimp only; walk_say "FLAT")
  trivial
theorem row9 : True := by
  k_with "newList" => (k_here; dsimp only; walk_say "FLAT")
  trivial
theorem row10 : True := by
  k_with "storeName" => (k_here; (try dsimp only); k_dflt (refine' storeX_M ?stF ?stN ?_ ?sta ?stb; (case stF => k_asm); (case stN => k_asm); (case sta => rfl); (case stb => rfl); k_whole); intro mm9 h' F' N'; (try k_sweep))
  trivial
theorem row11 : True := by
  k_with "setAttr ref" => (k_here; dsimp only; walk_say "FLAT")
  trivial
theorem row12 : True := by
  k_with "eval Call" => (k_here; k_dflt (refine Call_ ?_))
  trivial
theorem row13 : True := by
  k_with "spliced" => (top_here; k_dflt (first | refine spliced_more ?_ | refine spliced_none ?_))
  trivial
theorem row14 : True := by
  k_with "call builtin:list.append" => (dsimp only [List.nil_append, List.cons_append]; walk_say "SPREAD")
  trivial
theorem row15 : True := by
  k_with "call builtin:list.extend" => (dsimp only [List.nil_append, List.cons_append]; walk_say "SPREAD")
  trivial
def isFixed (k : Str) : Bool := (["al", "ax", "eax", "rax", "cl", "dx"] : List Str).any fun x => x == k
def isImm (k : Str) : Bool := !(Builtin.Str.occurrences k "imm" 0 k.length 1).isEmpty
def isRel (k : Str) : Bool := Txt.slice k none (some 3) == "rel"
def takesMem (k : Str) : Bool := Txt.slice k none (some 1) == "m" || Txt.slice k none (some 2) == "rm" || Txt.slice k none (some 2) == "xm"
def slotOf (k : Str) : Str := if isFixed k || k == "one" then "fixed" else if isImm k then "imm" else if isRel k then "rel" else if takesMem k then "rm" else if Txt.slice k none (some 1) == "o" then "plus" else "reg"
set_option maxRecDepth 100000 in
set_option maxHeartbeats 0 in
theorem is_fixed_c
  {w : World} {p : Program} {loose : List Str} {mean : ExcName → Option Value} {mg mb : Str → Option Value}
  {dp un : Nat} {gd : Option (List Code)} {cn : Str} {nms : List (Str × NameKind)} {isg isc : Bool} {scm : List (Str × Const)} {a : Addr} {ccd : Value} {cl : List (Str × Addr)} {outer : List Env} {A₀ : Around} {base h₀ : Heap} {L : Addr} {m : Str → Option Value} {s : Shared} {Q E : Value → Shared → Prop}
  {k : Str} {t : Tok} (B : Below A₀ base outer h₀) (F : Fr h₀ L s.heap m) (X : (kk.heap_1 w.params).In h₀) (N : News h₀ L s.heap []) (T : Top p loose mean mg mb h₀)
    (hd : dp + 20 < 1000) (hu : un + 100 < 9900) (hl : k.length ≤ 100)
    (ret : ∀   (h' : Heap) (tk' : Nat), Fr h₀ L h' m → InElt s.heap h' → News h₀ L h' [] → Q (.bool (isFixed k)) { s with heap := h', toks := tk' }) :
    wpAny (model Challenge.rw_nz0171_01.row.prog w) (ktrTop dp un gd cn ⟨.function, nms, isg, isc, scm⟩ L a ccd cl outer) (call (.ref 129) [.str k t]) Q E s := by
  w_on; revert X; k_fill; intro X; have cE0 := InElt.start s.heap; refine wpAny_call ?_; k_dflt k_enter; k_steps
  all_goals ((refine' retB ?ceq (ret _ _ ?cF ?cE ?cN); (case cF => assumption); (case cE => assumption); (case cN => (first | assumption | (refine' cb_drop ?cbN ?cbS; (case cbN => assumption); (case cbS => kcj_all)))); (case ceq => (law_clear; first | rfl | (simp_all; done) | fail "c eq"))))
theorem row16 : True := by
  k_with "call ref" => ((with_reducible show wpAny _ _ (call (Value.ref 129) _) _ _ _); k_dflt (refine' is_fixed_c ?k1 ?k2 ?k3 (cb_drop ?k4 ?k9) ?k5 ?k7 ?k8 ?h0 ?_; (case k1 => k_asm); (case k2 => k_asm); (case k3 => k_asm); (case k4 => k_asm); (case k5 => k_asm); (case k9 => repeat (first | exact subNil | refine subCons (by k_mem) ?_)); (case k7 => (first | exact roomA hd rfl | exact roomB hd rfl | ((try simp only [depth_mark, depth_under_make, depth_under_kw, depth_in1, depth_deeper, depth_caller]); (try dsimp only [ktrTop]); omega))); (case k8 => (first | exact unitA hu rfl | ((try simp only [units_under_make, units_in1, units_deeper, Around.mark_units, units_caller]); (try dsimp only [ktrTop]); omega))); (case h0 => first | assumption | omega | decide); k_whole); intro   h9 tk9  F9 E9 N9; (k_dflt (replace N9 := newsApp N9 E9 (by k_asm))); clear E9; (try dsimp only [List.nil_append, List.cons_append, List.append_nil] at N9); (try simp only [List.append_nil] at N9); (try dsimp only); (try k_fold); (try k_sweep); walk_say "CONTRACT is_fixed_c")
  trivial
set_option maxRecDepth 100000 in
set_option maxHeartbeats 0 in
theorem is_immediate_c
  {w : World} {p : Program} {loose : List Str} {mean : ExcName → Option Value} {mg mb : Str → Option Value}
  {dp un : Nat} {gd : Option (List Code)} {cn : Str} {nms : List (Str × NameKind)} {isg isc : Bool} {scm : List (Str × Const)} {a : Addr} {ccd : Value} {cl : List (Str × Addr)} {outer : List Env} {A₀ : Around} {base h₀ : Heap} {L : Addr} {m : Str → Option Value} {s : Shared} {Q E : Value → Shared → Prop}
  {k : Str} {t : Tok} (B : Below A₀ base outer h₀) (F : Fr h₀ L s.heap m) (X : (kk.heap_1 w.params).In h₀) (N : News h₀ L s.heap []) (T : Top p loose mean mg mb h₀)
    (hd : dp + 20 < 1000) (hu : un + 100 < 9900) (hl : k.length ≤ 100)
    (ret : ∀   (h' : Heap) (tk' : Nat), Fr h₀ L h' m → InElt s.heap h' → News h₀ L h' [] → Q (.bool (isImm k)) { s with heap := h', toks := tk' }) :
    wpAny (model Challenge.rw_nz0171_01.row.prog w) (ktrTop dp un gd cn ⟨.function, nms, isg, isc, scm⟩ L a ccd cl outer) (call (.ref 136) [.str k t]) Q E s := by
  w_on; revert X; k_fill; intro X; have cE0 := InElt.start s.heap; refine wpAny_call ?_; k_dflt k_enter; k_steps
  all_goals ((refine' retB ?ceq (ret _ _ ?cF ?cE ?cN); (case cF => assumption); (case cE => assumption); (case cN => (first | assumption | (refine' cb_drop ?cbN ?cbS; (case cbN => assumption); (case cbS => kcj_all)))); (case ceq => (law_clear; first | rfl | (simp_all; done) | fail "c eq"))))
theorem row17 : True := by
  k_with "call ref" => ((with_reducible show wpAny _ _ (call (Value.ref 136) _) _ _ _); k_dflt (refine' is_immediate_c ?k1 ?k2 ?k3 (cb_drop ?k4 ?k9) ?k5 ?k7 ?k8 ?h0 ?_; (case k1 => k_asm); (case k2 => k_asm); (case k3 => k_asm); (case k4 => k_asm); (case k5 => k_asm); (case k9 => repeat (first | exact subNil | refine subCons (by k_mem) ?_)); (case k7 => (first | exact roomA hd rfl | exact roomB hd rfl | ((try simp only [depth_mark, depth_under_make, depth_under_kw, depth_in1, depth_deeper, depth_caller]); (try dsimp only [ktrTop]); omega))); (case k8 => (first | exact unitA hu rfl | ((try simp only [units_under_make, units_in1, units_deeper, Around.mark_units, units_caller]); (try dsimp only [ktrTop]); omega))); (case h0 => first | assumption | omega | decide); k_whole); intro   h9 tk9  F9 E9 N9; (k_dflt (replace N9 := newsApp N9 E9 (by k_asm))); clear E9; (try dsimp only [List.nil_append, List.cons_append, List.append_nil] at N9); (try simp only [List.append_nil] at N9); (try dsimp only); (try k_fold); (try k_sweep); walk_say "CONTRACT is_immediate_c")
  trivial
set_option maxRecDepth 100000 in
set_option maxHeartbeats 0 in
theorem is_relative_c
  {w : World} {p : Program} {loose : List Str} {mean : ExcName → Option Value} {mg mb : Str → Option Value}
  {dp un : Nat} {gd : Option (List Code)} {cn : Str} {nms : List (Str × NameKind)} {isg isc : Bool} {scm : List (Str × Const)} {a : Addr} {ccd : Value} {cl : List (Str × Addr)} {outer : List Env} {A₀ : Around} {base h₀ : Heap} {L : Addr} {m : Str → Option Value} {s : Shared} {Q E : Value → Shared → Prop}
  {k : Str} {t : Tok} (B : Below A₀ base outer h₀) (F : Fr h₀ L s.heap m) (X : (kk.heap_1 w.params).In h₀) (N : News h₀ L s.heap []) (T : Top p loose mean mg mb h₀)
    (hd : dp + 20 < 1000) (hu : un + 100 < 9900) (hl : k.length ≤ 100)
    (ret : ∀   (h' : Heap) (tk' : Nat), Fr h₀ L h' m → InElt s.heap h' → News h₀ L h' [] → Q (.bool (isRel k)) { s with heap := h', toks := tk' }) :
    wpAny (model Challenge.rw_nz0171_01.row.prog w) (ktrTop dp un gd cn ⟨.function, nms, isg, isc, scm⟩ L a ccd cl outer) (call (.ref 143) [.str k t]) Q E s := by
  w_on; revert X; k_fill; intro X; have cE0 := InElt.start s.heap; refine wpAny_call ?_; k_dflt k_enter; k_steps
  all_goals ((refine' retB ?ceq (ret _ _ ?cF ?cE ?cN); (case cF => assumption); (case cE => assumption); (case cN => (first | assumption | (refine' cb_drop ?cbN ?cbS; (case cbN => assumption); (case cbS => kcj_all)))); (case ceq => (law_clear; first | rfl | (simp_all; done) | fail "c eq"))))
theorem row18 : True := by
  k_with "call ref" => ((with_reducible show wpAny _ _ (call (Value.ref 143) _) _ _ _); k_dflt (refine' is_relative_c ?k1 ?k2 ?k3 (cb_drop ?k4 ?k9) ?k5 ?k7 ?k8 ?h0 ?_; (case k1 => k_asm); (case k2 => k_asm); (case k3 => k_asm); (case k4 => k_asm); (case k5 => k_asm); (case k9 => repeat (first | exact subNil | refine subCons (by k_mem) ?_)); (case k7 => (first | exact roomA hd rfl | exact roomB hd rfl | ((try simp only [depth_mark, depth_under_make, depth_under_kw, depth_in1, depth_deeper, depth_caller]); (try dsimp only [ktrTop]); omega))); (case k8 => (first | exact unitA hu rfl | ((try simp only [units_under_make, units_in1, units_deeper, Around.mark_units, units_caller]); (try dsimp only [ktrTop]); omega))); (case h0 => first | assumption | omega | decide); k_whole); intro   h9 tk9  F9 E9 N9; (k_dflt (replace N9 := newsApp N9 E9 (by k_asm))); clear E9; (try dsimp only [List.nil_append, List.cons_append, List.append_nil] at N9); (try simp only [List.append_nil] at N9); (try dsimp only); (try k_fold); (try k_sweep); walk_say "CONTRACT is_relative_c")
  trivial
set_option maxRecDepth 100000 in
set_option maxHeartbeats 0 in
theorem takes_memory_c
  {w : World} {p : Program} {loose : List Str} {mean : ExcName → Option Value} {mg mb : Str → Option Value}
  {dp un : Nat} {gd : Option (List Code)} {cn : Str} {nms : List (Str × NameKind)} {isg isc : Bool} {scm : List (Str × Const)} {a : Addr} {ccd : Value} {cl : List (Str × Addr)} {outer : List Env} {A₀ : Around} {base h₀ : Heap} {L : Addr} {m : Str → Option Value} {s : Shared} {Q E : Value → Shared → Prop}
  {k : Str} {t : Tok} (B : Below A₀ base outer h₀) (F : Fr h₀ L s.heap m) (X : (kk.heap_1 w.params).In h₀) (N : News h₀ L s.heap []) (T : Top p loose mean mg mb h₀)
    (hd : dp + 20 < 1000) (hu : un + 100 < 9900) (hl : k.length ≤ 100)
    (ret : ∀   (h' : Heap) (tk' : Nat), Fr h₀ L h' m → InElt s.heap h' → News h₀ L h' [] → Q (.bool (takesMem k)) { s with heap := h', toks := tk' }) :
    wpAny (model Challenge.rw_nz0171_01.row.prog w) (ktrTop dp un gd cn ⟨.function, nms, isg, isc, scm⟩ L a ccd cl outer) (call (.ref 150) [.str k t]) Q E s := by
  w_on; revert X; k_fill; intro X; have cE0 := InElt.start s.heap; refine wpAny_call ?_; k_dflt k_enter; k_steps
  all_goals (unfold takesMem at ret; (refine' retB ?ceq (ret _ _ ?cF ?cE ?cN); (case cF => assumption); (case cE => assumption); (case cN => (first | assumption | (refine' cb_drop ?cbN ?cbS; (case cbN => assumption); (case cbS => kcj_all)))); (case ceq => (law_clear; first | rfl | (simp_all; done) | fail "c eq"))))
theorem row19 : True := by
  k_with "call ref" => ((with_reducible show wpAny _ _ (call (Value.ref 150) _) _ _ _); k_dflt (refine' takes_memory_c ?k1 ?k2 ?k3 (cb_drop ?k4 ?k9) ?k5 ?k7 ?k8 ?h0 ?_; (case k1 => k_asm); (case k2 => k_asm); (case k3 => k_asm); (case k4 => k_asm); (case k5 => k_asm); (case k9 => repeat (first | exact subNil | refine subCons (by k_mem) ?_)); (case k7 => (first | exact roomA hd rfl | exact roomB hd rfl | ((try simp only [depth_mark, depth_under_make, depth_under_kw, depth_in1, depth_deeper, depth_caller]); (try dsimp only [ktrTop]); omega))); (case k8 => (first | exact unitA hu rfl | ((try simp only [units_under_make, units_in1, units_deeper, Around.mark_units, units_caller]); (try dsimp only [ktrTop]); omega))); (case h0 => first | assumption | omega | decide); k_whole); intro   h9 tk9  F9 E9 N9; (k_dflt (replace N9 := newsApp N9 E9 (by k_asm))); clear E9; (try dsimp only [List.nil_append, List.cons_append, List.append_nil] at N9); (try simp only [List.append_nil] at N9); (try dsimp only); (try k_fold); (try k_sweep); walk_say "CONTRACT takes_memory_c")
  trivial
set_option maxRecDepth 100000 in
set_option maxHeartbeats 0 in
theorem slot_of_c
  {w : World} {p : Program} {loose : List Str} {mean : ExcName → Option Value} {mg mb : Str → Option Value}
  {dp un : Nat} {gd : Option (List Code)} {cn : Str} {nms : List (Str × NameKind)} {isg isc : Bool} {scm : List (Str × Const)} {a : Addr} {ccd : Value} {cl : List (Str × Addr)} {outer : List Env} {A₀ : Around} {base h₀ : Heap} {L : Addr} {m : Str → Option Value} {s : Shared} {Q E : Value → Shared → Prop}
  {k : Str} {t : Tok} (B : Below A₀ base outer h₀) (F : Fr h₀ L s.heap m) (X : (kk.heap_1 w.params).In h₀) (N : News h₀ L s.heap []) (T : Top p loose mean mg mb h₀)
    (hd : dp + 24 < 1000) (hu : un + 130 < 9900) (hl : k.length ≤ 100)
    (ret : ∀ (t' : Tok)  (h' : Heap) (tk' : Nat), Fr h₀ L h' m → InElt s.heap h' → News h₀ L h' [] → Q (.str (slotOf k) t') { s with heap := h', toks := tk' }) :
    wpAny (model Challenge.rw_nz0171_01.row.prog w) (ktrTop dp un gd cn ⟨.function, nms, isg, isc, scm⟩ L a ccd cl outer) (call (.ref 171) [.str k t]) Q E s := by
  w_on; revert X; k_fill; intro X; have cE0 := InElt.start s.heap; refine wpAny_call ?_; k_dflt k_enter; k_steps
  all_goals (unfold slotOf at ret; (refine' retS ?ceq (ret _ _ _ ?cF ?cE ?cN); (case cF => assumption); (case cE => assumption); (case cN => (first | assumption | (refine' cb_drop ?cbN ?cbS; (case cbN => assumption); (case cbS => kcj_all)))); (case ceq => (law_clear; first | rfl | (simp_all; done) | fail "c eq"))))
theorem row20 : True := by
  k_with "call ref" => ((with_reducible show wpAny _ _ (call (Value.ref 171) _) _ _ _); k_dflt (refine' slot_of_c ?k1 ?k2 ?k3 (cb_drop ?k4 ?k9) ?k5 ?k7 ?k8 ?h0 ?_; (case k1 => k_asm); (case k2 => k_asm); (case k3 => k_asm); (case k4 => k_asm); (case k5 => k_asm); (case k9 => repeat (first | exact subNil | refine subCons (by k_mem) ?_)); (case k7 => (first | exact roomA hd rfl | exact roomB hd rfl | ((try simp only [depth_mark, depth_under_make, depth_under_kw, depth_in1, depth_deeper, depth_caller]); (try dsimp only [ktrTop]); omega))); (case k8 => (first | exact unitA hu rfl | ((try simp only [units_under_make, units_in1, units_deeper, Around.mark_units, units_caller]); (try dsimp only [ktrTop]); omega))); (case h0 => first | assumption | omega | decide); k_whole); intro t9  h9 tk9  F9 E9 N9; (k_dflt (replace N9 := newsApp N9 E9 (by k_asm))); clear E9; (try dsimp only [List.nil_append, List.cons_append, List.append_nil] at N9); (try simp only [List.append_nil] at N9); (try dsimp only); (try k_fold); (try k_sweep); walk_say "CONTRACT slot_of_c")
  trivial

theorem bitAnd_mask (x : Int) (k : Nat) : Builtin.bitAnd x (2 ^ k - 1) = x % 2 ^ k := by
  have hp : (0 : Int) < 2 ^ k := Int.pow_pos (by decide)
  have h1 : 1 ≤ 2 ^ k := Nat.one_le_two_pow
  have hq2 : ((2 ^ k : Nat) : Int) = 2 ^ k := by rw [Int.natCast_pow]; rfl
  have ht : ((2 : Int) ^ k - 1).toNat = 2 ^ k - 1 := by rw [← hq2]; omega
  by_cases hx : 0 ≤ x
  · rw [PyProof.Rows.bitAnd_pp hx (by omega), ht, Nat.and_two_pow_sub_one_eq_mod]
    have e : x = (x.toNat : Int) := (Int.toNat_of_nonneg hx).symm
    conv => rhs; rw [e]
    rw [Int.natCast_emod, hq2]
  · obtain ⟨y, rfl⟩ : ∃ y, x = -y - 1 := ⟨-x - 1, by omega⟩
    have hy : 0 ≤ y := by omega
    have hb : Builtin.bitNot (-y - 1) = y := by unfold Builtin.bitNot; omega
    rw [PyProof.Rows.bitAnd_np hx (by omega), hb, ht, Nat.and_comm, Nat.and_two_pow_sub_one_eq_mod, Int.natCast_emod, hq2, Int.toNat_of_nonneg hy]
    have h1 := Int.emod_nonneg y (Int.ne_of_gt hp)
    have h2 := Int.emod_lt_of_pos y hp
    have h3 : (-y - 1) % 2 ^ k = (2 ^ k - 1 - y % 2 ^ k) % 2 ^ k := by
      have : -y - 1 = (2 ^ k - 1 - y % 2 ^ k) + 2 ^ k * (-(y / 2 ^ k) - 1) := by
        have := Int.emod_add_mul_ediv y (2 ^ k)
        have e : 2 ^ k * (-(y / 2 ^ k) - 1) = -(2 ^ k * (y / 2 ^ k)) - 2 ^ k := by rw [Int.mul_sub, Int.mul_neg, Int.mul_one]
        rw [e]; omega
      rw [this, Int.add_mul_emod_self_left]
    rw [h3]
    exact (Int.emod_eq_of_lt (by omega) (by omega)).symm
theorem fits_eq {a b c : Int} {d : Prop} [Decidable d] (h : -(1 * b) ≤ a) : decide d = (decide (-b ≤ a) && decide d) := by
  rw [Int.one_mul] at h; rw [decide_eq_true h, Bool.true_and]
theorem fits_eq2 {a b c : Int} {d : Prop} [Decidable d] (h : ¬ -(1 * b) ≤ a) : decide (-(1 * b) ≤ a) = (decide (-b ≤ a) && decide d) := by
  rw [Int.one_mul] at h ⊢; rw [decide_eq_false h, Bool.false_and]
theorem signed_hi {x : Int} (h : (x % 2 ^ Int.toNat 32).fdiv (2 ^ (32 - 1 : Int).toNat) = 1) : x % 2 ^ Int.toNat 32 - 1 * 2 ^ Int.toNat 32 = if 2147483648 ≤ x % 4294967296 then x % 4294967296 - 4294967296 else x % 4294967296 := by
  rw [show (2 : Int) ^ Int.toNat 32 = 4294967296 from rfl, show (2 : Int) ^ (32 - 1 : Int).toNat = 2147483648 from rfl, Int.fdiv_eq_ediv_of_nonneg _ (by decide)] at h
  rw [show (2 : Int) ^ Int.toNat 32 = 4294967296 from rfl]
  split <;> omega
theorem signed_lo {x : Int} (h : (x % 2 ^ Int.toNat 32).fdiv (2 ^ (32 - 1 : Int).toNat) ≠ 1) : x % 2 ^ Int.toNat 32 = if 2147483648 ≤ x % 4294967296 then x % 4294967296 - 4294967296 else x % 4294967296 := by
  rw [show (2 : Int) ^ Int.toNat 32 = 4294967296 from rfl, show (2 : Int) ^ (32 - 1 : Int).toNat = 2147483648 from rfl, Int.fdiv_eq_ediv_of_nonneg _ (by decide)] at h
  rw [show (2 : Int) ^ Int.toNat 32 = 4294967296 from rfl]
  split <;> omega
section
variable {prog : Program} {w : World} {A : Around} {E : Value → Shared → Prop} {s : Shared} {x : Int} {t u : Tok} {Q : Value → Shared → Prop}
theorem and255 (h : Q (.int (x % 256) s.toks) { s with toks := s.toks + 1 }) : wpAny (model prog w) A (binaryOp .BitAnd (.int x t) (.int 255 u)) Q E s := and_int (by rw [bitAnd_m8]; exact h)
theorem and7 (h : Q (.int (x % 8) s.toks) { s with toks := s.toks + 1 }) : wpAny (model prog w) A (binaryOp .BitAnd (.int x t) (.int 7 u)) Q E s := and_int (by rw [bitAnd_m3]; exact h)
theorem shr8 (h : Q (.int (x / 256) s.toks) { s with toks := s.toks + 1 }) : wpAny (model prog w) A (binaryOp .RShift (.int x t) (.int 8 u)) Q E s := rshift_int (by decide) (by rw [Int.fdiv_eq_ediv_of_nonneg _ (by decide)]; exact h)
end
theorem row21 : True := by
  k_with "binaryOp BitAnd int int" => ((first | with_reducible refine and255 ?_ | with_reducible refine and7 ?_))
  trivial
theorem row22 : True := by
  k_with "binaryOp RShift int int" => (with_reducible refine shr8 ?_)
  trivial
theorem row23 : True := by
  k_with "call type:bytes" => ((k_here; (with_reducible show wpAny _ _ (call (Value.type _) [Value.ref _]) _ _ _); k_dflt (refine' bytes_K ?F ?N ?l ?i ?r ?z ?h ?_; (case F => k_asm); (case N => k_asm); (case l => is_list); (case i => first | l_ints | l_intsW); (case r => by_in); (case z => with_unfolding_all exact Nat.le_of_ble_eq_true rfl); (case h => with_unfolding_all rfl); k_whole); intro h' t' k' F' N' hB'; clear hB'; (try dsimp only [List.map]); (try k_sweep)))
  trivial
def octs (x : Int) : Nat → List Int
  | 0 => []
  | n + 1 => x % 256 :: octs (x / 256) n
theorem octs_mod : ∀ (n : Nat) (x : Int), octs (x % 256 ^ n) n = octs x n
  | 0, _ => rfl
  | n + 1, x => by
    have hp : (0 : Int) < 256 ^ n := Int.pow_pos (by decide)
    show x % 256 ^ (n + 1) % 256 :: octs (x % 256 ^ (n + 1) / 256) n = x % 256 :: octs (x / 256) n
    have e : (256 : Int) ^ (n + 1) = 256 * 256 ^ n := by rw [Int.pow_succ, Int.mul_comm]
    rw [e, Int.emod_emod_of_dvd _ (Int.dvd_mul_right 256 _)]
    have e2 : x % (256 * 256 ^ n) / 256 = x / 256 % 256 ^ n := by
      have h1 := Int.emod_add_mul_ediv x (256 * 256 ^ n)
      have h2 := Int.emod_nonneg x (Int.ne_of_gt (Int.mul_pos (by decide : (0 : Int) < 256) hp))
      have h3 := Int.emod_lt_of_pos x (Int.mul_pos (by decide : (0 : Int) < 256) hp)
      have h4 : x / 256 / 256 ^ n = x / (256 * 256 ^ n) := Int.ediv_ediv_of_nonneg (by decide)
      have h5 := Int.emod_add_mul_ediv (x / 256) (256 ^ n)
      rw [h4] at h5
      have h6 := Int.emod_nonneg (x / 256) (Int.ne_of_gt hp)
      have h7 := Int.emod_lt_of_pos (x / 256) hp
      rw [Int.mul_assoc] at h1
      generalize (256 : Int) ^ n * (x / (256 * 256 ^ n)) = q at *
      generalize x % (256 * 256 ^ n) = r at *
      generalize x / 256 % 256 ^ n = r' at *
      omega
    rw [e2, octs_mod n]
def octL (x : Int) (n : Nat) : List UInt8 := (octs x n).map fun n => n.toNat.toUInt8
theorem octL_mod (x : Int) (n : Nat) (k : Int) (h : k = 256 ^ n) : ((octs (x % k) n).map fun n => n.toNat.toUInt8).toArray = (octL x n).toArray := by
  rw [h, octs_mod]; rfl
set_option maxRecDepth 100000 in
set_option maxHeartbeats 0 in
theorem mask_c
  {w : World} {p : Program} {loose : List Str} {mean : ExcName → Option Value} {mg mb : Str → Option Value}
  {dp un : Nat} {gd : Option (List Code)} {cn : Str} {nms : List (Str × NameKind)} {isg isc : Bool} {scm : List (Str × Const)} {a : Addr} {ccd : Value} {cl : List (Str × Addr)} {outer : List Env} {A₀ : Around} {base h₀ : Heap} {L : Addr} {m : Str → Option Value} {s : Shared} {Q E : Value → Shared → Prop}
  {n : Int} {t : Tok} (B : Below A₀ base outer h₀) (F : Fr h₀ L s.heap m) (X : (kk.heap_1 w.params).In h₀) (N : News h₀ L s.heap []) (T : Top p loose mean mg mb h₀)
    (hd : dp + 20 < 1000) (hu : un + 100 < 9900) (h0 : 0 ≤ n) (h1 : n ≤ 64)
    (ret : ∀ (t' : Tok)  (h' : Heap) (tk' : Nat), Fr h₀ L h' m → InElt s.heap h' → News h₀ L h' [] → Q (.int (2 ^ n.toNat - 1) t') { s with heap := h', toks := tk' }) :
    wpAny (model Challenge.rw_nz0171_01.row.prog w) (ktrTop dp un gd cn ⟨.function, nms, isg, isc, scm⟩ L a ccd cl outer) (call (.ref 80) [.int n t]) Q E s := by
  w_on; revert X; k_fill; intro X; have cE0 := InElt.start s.heap; refine wpAny_call ?_; k_dflt k_enter; k_steps
  all_goals ((refine' retI ?ceq (ret _ _ _ ?cF ?cE ?cN); (case cF => assumption); (case cE => assumption); (case cN => (first | assumption | (refine' cb_drop ?cbN ?cbS; (case cbN => assumption); (case cbS => kcj_all)))); (case ceq => simp only [Int.one_mul])))
theorem row24 : True := by
  k_with "call ref" => ((with_reducible show wpAny _ _ (call (Value.ref 80) _) _ _ _); k_dflt (refine' mask_c ?k1 ?k2 ?k3 (cb_drop ?k4 ?k9) ?k5 ?k7 ?k8 ?h0 ?h1 ?_; (case k1 => k_asm); (case k2 => k_asm); (case k3 => k_asm); (case k4 => k_asm); (case k5 => k_asm); (case k9 => repeat (first | exact subNil | refine subCons (by k_mem) ?_)); (case k7 => (first | exact roomA hd rfl | exact roomB hd rfl | ((try simp only [depth_mark, depth_under_make, depth_under_kw, depth_in1, depth_deeper, depth_caller]); (try dsimp only [ktrTop]); omega))); (case k8 => (first | exact unitA hu rfl | ((try simp only [units_under_make, units_in1, units_deeper, Around.mark_units, units_caller]); (try dsimp only [ktrTop]); omega))); (case h0 => first | assumption | omega | decide); (case h1 => first | assumption | omega | decide); k_whole); intro t9  h9 tk9  F9 E9 N9; (k_dflt (replace N9 := newsApp N9 E9 (by k_asm))); clear E9; (try dsimp only [List.nil_append, List.cons_append, List.append_nil] at N9); (try simp only [List.append_nil] at N9); (try dsimp only); (try k_fold); (try k_sweep); walk_say "CONTRACT mask_c")
  trivial
set_option maxRecDepth 100000 in
set_option maxHeartbeats 0 in
theorem wrap_c
  {w : World} {p : Program} {loose : List Str} {mean : ExcName → Option Value} {mg mb : Str → Option Value}
  {dp un : Nat} {gd : Option (List Code)} {cn : Str} {nms : List (Str × NameKind)} {isg isc : Bool} {scm : List (Str × Const)} {a : Addr} {ccd : Value} {cl : List (Str × Addr)} {outer : List Env} {A₀ : Around} {base h₀ : Heap} {L : Addr} {m : Str → Option Value} {s : Shared} {Q E : Value → Shared → Prop}
  {x n : Int} {t u : Tok} (B : Below A₀ base outer h₀) (F : Fr h₀ L s.heap m) (X : (kk.heap_1 w.params).In h₀) (N : News h₀ L s.heap []) (T : Top p loose mean mg mb h₀)
    (hd : dp + 24 < 1000) (hu : un + 130 < 9900) (h0 : 0 ≤ n) (h1 : n ≤ 64)
    (ret : ∀ (t' : Tok)  (h' : Heap) (tk' : Nat), Fr h₀ L h' m → InElt s.heap h' → News h₀ L h' [] → Q (.int (x % 2 ^ n.toNat) t') { s with heap := h', toks := tk' }) :
    wpAny (model Challenge.rw_nz0171_01.row.prog w) (ktrTop dp un gd cn ⟨.function, nms, isg, isc, scm⟩ L a ccd cl outer) (call (.ref 87) [.int x t, .int n u]) Q E s := by
  w_on; revert X; k_fill; intro X; have cE0 := InElt.start s.heap; refine wpAny_call ?_; k_dflt k_enter; k_steps
  all_goals ((refine' retI ?ceq (ret _ _ _ ?cF ?cE ?cN); (case cF => assumption); (case cE => assumption); (case cN => (first | assumption | (refine' cb_drop ?cbN ?cbS; (case cbN => assumption); (case cbS => kcj_all)))); (case ceq => exact bitAnd_mask _ _)))
theorem row25 : True := by
  k_with "call ref" => ((with_reducible show wpAny _ _ (call (Value.ref 87) _) _ _ _); k_dflt (refine' wrap_c ?k1 ?k2 ?k3 (cb_drop ?k4 ?k9) ?k5 ?k7 ?k8 ?h0 ?h1 ?_; (case k1 => k_asm); (case k2 => k_asm); (case k3 => k_asm); (case k4 => k_asm); (case k5 => k_asm); (case k9 => repeat (first | exact subNil | refine subCons (by k_mem) ?_)); (case k7 => (first | exact roomA hd rfl | exact roomB hd rfl | ((try simp only [depth_mark, depth_under_make, depth_under_kw, depth_in1, depth_deeper, depth_caller]); (try dsimp only [ktrTop]); omega))); (case k8 => (first | exact unitA hu rfl | ((try simp only [units_under_make, units_in1, units_deeper, Around.mark_units, units_caller]); (try dsimp only [ktrTop]); omega))); (case h0 => first | assumption | exact hw8.out.1 | omega | decide); (case h1 => first | assumption | exact hw8.out.2 | omega | decide); k_whole); intro t9  h9 tk9  F9 E9 N9; (k_dflt (replace N9 := newsApp N9 E9 (by k_asm))); clear E9; (try dsimp only [List.nil_append, List.cons_append, List.append_nil] at N9); (try simp only [List.append_nil] at N9); (try dsimp only); (try k_fold); (try k_sweep); walk_say "CONTRACT wrap_c")
  trivial
set_option maxRecDepth 100000 in
set_option maxHeartbeats 0 in
theorem fits_either_c
  {w : World} {p : Program} {loose : List Str} {mean : ExcName → Option Value} {mg mb : Str → Option Value}
  {dp un : Nat} {gd : Option (List Code)} {cn : Str} {nms : List (Str × NameKind)} {isg isc : Bool} {scm : List (Str × Const)} {a : Addr} {ccd : Value} {cl : List (Str × Addr)} {outer : List Env} {A₀ : Around} {base h₀ : Heap} {L : Addr} {m : Str → Option Value} {s : Shared} {Q E : Value → Shared → Prop}
  {x n : Int} {t u : Tok} (B : Below A₀ base outer h₀) (F : Fr h₀ L s.heap m) (X : (kk.heap_1 w.params).In h₀) (N : News h₀ L s.heap []) (T : Top p loose mean mg mb h₀)
    (hd : dp + 24 < 1000) (hu : un + 130 < 9900) (h0 : 1 ≤ n) (h1 : n ≤ 64)
    (ret : ∀   (h' : Heap) (tk' : Nat), Fr h₀ L h' m → InElt s.heap h' → News h₀ L h' [] → Q (.bool (decide (-(2 ^ (n - 1).toNat) ≤ x) && decide (x ≤ 2 ^ n.toNat - 1))) { s with heap := h', toks := tk' }) :
    wpAny (model Challenge.rw_nz0171_01.row.prog w) (ktrTop dp un gd cn ⟨.function, nms, isg, isc, scm⟩ L a ccd cl outer) (call (.ref 115) [.int x t, .int n u]) Q E s := by
  w_on; revert X; k_fill; intro X; have cE0 := InElt.start s.heap; refine wpAny_call ?_; k_dflt k_enter; k_steps
  all_goals ((refine' retB ?ceq (ret _ _ ?cF ?cE ?cN); (case cF => assumption); (case cE => assumption); (case cN => (first | assumption | (refine' cb_drop ?cbN ?cbS; (case cbN => assumption); (case cbS => kcj_all)))); (case ceq => (law_clear; first | exact fits_eq (c := 0) (by assumption) | exact fits_eq2 (c := 0) (by assumption)))))
theorem row26 : True := by
  k_with "call ref" => ((with_reducible show wpAny _ _ (call (Value.ref 115) _) _ _ _); k_dflt (refine' fits_either_c ?k1 ?k2 ?k3 (cb_drop ?k4 ?k9) ?k5 ?k7 ?k8 ?h0 ?h1 ?_; (case k1 => k_asm); (case k2 => k_asm); (case k3 => k_asm); (case k4 => k_asm); (case k5 => k_asm); (case k9 => repeat (first | exact subNil | refine subCons (by k_mem) ?_)); (case k7 => (first | exact roomA hd rfl | exact roomB hd rfl | ((try simp only [depth_mark, depth_under_make, depth_under_kw, depth_in1, depth_deeper, depth_caller]); (try dsimp only [ktrTop]); omega))); (case k8 => (first | exact unitA hu rfl | ((try simp only [units_under_make, units_in1, units_deeper, Around.mark_units, units_caller]); (try dsimp only [ktrTop]); omega))); (case h0 => first | assumption | omega | decide); (case h1 => first | assumption | omega | decide); k_whole); intro   h9 tk9  F9 E9 N9; (k_dflt (replace N9 := newsApp N9 E9 (by k_asm))); clear E9; (try dsimp only [List.nil_append, List.cons_append, List.append_nil] at N9); (try simp only [List.append_nil] at N9); (try dsimp only); (try k_fold); (try k_sweep); walk_say "CONTRACT fits_either_c")
  trivial
set_option maxRecDepth 100000 in
set_option maxHeartbeats 0 in
theorem signed_c
  {w : World} {p : Program} {loose : List Str} {mean : ExcName → Option Value} {mg mb : Str → Option Value}
  {dp un : Nat} {gd : Option (List Code)} {cn : Str} {nms : List (Str × NameKind)} {isg isc : Bool} {scm : List (Str × Const)} {a : Addr} {ccd : Value} {cl : List (Str × Addr)} {outer : List Env} {A₀ : Around} {base h₀ : Heap} {L : Addr} {m : Str → Option Value} {s : Shared} {Q E : Value → Shared → Prop}
  {x : Int} {t u : Tok} (B : Below A₀ base outer h₀) (F : Fr h₀ L s.heap m) (X : (kk.heap_1 w.params).In h₀) (N : News h₀ L s.heap []) (T : Top p loose mean mg mb h₀)
    (hd : dp + 28 < 1000) (hu : un + 160 < 9900) 
    (ret : ∀ (t' : Tok)  (h' : Heap) (tk' : Nat), Fr h₀ L h' m → InElt s.heap h' → News h₀ L h' [] → Q (.int (if 2147483648 ≤ x % 4294967296 then x % 4294967296 - 4294967296 else x % 4294967296) t') { s with heap := h', toks := tk' }) :
    wpAny (model Challenge.rw_nz0171_01.row.prog w) (ktrTop dp un gd cn ⟨.function, nms, isg, isc, scm⟩ L a ccd cl outer) (call (.ref 94) [.int x t, .int 32 u]) Q E s := by
  w_on; revert X; k_fill; intro X; have cE0 := InElt.start s.heap; refine wpAny_call ?_; k_dflt k_enter; k_steps
  all_goals ((refine' retI ?ceq (ret _ _ _ ?cF ?cE ?cN); (case cF => assumption); (case cE => assumption); (case cN => (first | assumption | (refine' cb_drop ?cbN ?cbS; (case cbN => assumption); (case cbS => kcj_all)))); (case ceq => (law_clear; first | exact signed_hi (by assumption) | exact signed_lo (by assumption)))))
theorem row27 : True := by
  k_with "call ref" => ((with_reducible show wpAny _ _ (call (Value.ref 94) _) _ _ _); k_dflt (refine' signed_c ?k1 ?k2 ?k3 (cb_drop ?k4 ?k9) ?k5 ?k7 ?k8  ?_; (case k1 => k_asm); (case k2 => k_asm); (case k3 => k_asm); (case k4 => k_asm); (case k5 => k_asm); (case k9 => repeat (first | exact subNil | refine subCons (by k_mem) ?_)); (case k7 => (first | exact roomA hd rfl | exact roomB hd rfl | ((try simp only [depth_mark, depth_under_make, depth_under_kw, depth_in1, depth_deeper, depth_caller]); (try dsimp only [ktrTop]); omega))); (case k8 => (first | exact unitA hu rfl | ((try simp only [units_under_make, units_in1, units_deeper, Around.mark_units, units_caller]); (try dsimp only [ktrTop]); omega))); k_whole); intro t9  h9 tk9  F9 E9 N9; (k_dflt (replace N9 := newsApp N9 E9 (by k_asm))); clear E9; (try dsimp only [List.nil_append, List.cons_append, List.append_nil] at N9); (try simp only [List.append_nil] at N9); (try dsimp only); (try k_fold); (try k_sweep); walk_say "CONTRACT signed_c")
  trivial

/-- a fact that the walk's arithmetic is not to see -/
structure Hid (P : Prop) : Prop where
  out : P
theorem fr2 {h₀ h : Heap} {L : Addr} {x a b : Str} {v va vb : Value} {m : Str → Option Value} (F : Fr h₀ L h (fun y => if y = x then some v else m y)) (ha : m a = some va) (hb : m b = some vb) : Fr h₀ L h (fun y => if y = x then some v else if y = a then some va else if y = b then some vb else m y) := by
  have e : (fun y => if y = x then some v else if y = a then some va else if y = b then some vb else m y) = (fun y => if y = x then some v else m y) := by
    funext y
    by_cases h1 : y = a
    · subst h1; rw [if_pos rfl, ha]
    · rw [if_neg h1]
      by_cases h2 : y = b
      · subst h2; rw [if_pos rfl, hb]
      · rw [if_neg h2]
  rw [e]; exact F
theorem octR : ∀ (k : Nat) (x : Int), ∀ n ∈ octs x k, 0 ≤ n ∧ n < 256
  | 0, _, _, h => nomatch h
  | k + 1, x, n, h => by
    rcases List.mem_cons.mp h with rfl | h
    · exact ⟨Int.emod_nonneg _ (by decide), Int.emod_lt_of_pos _ (by decide)⟩
    · exact octR k _ n h
section
variable {prog : Program} {w : World} {A : Around} {E : Value → Shared → Prop} {s : Shared} {env : Env} {h₀ : Heap} {body : List Stmt} {Q : Flow → Shared → Prop}
/-- the turns of little, one and all -/
theorem octAll {l L I : Addr} {n : Nat} {r0 : Int} (hL : L = env.locals)
    (turn : ∀ (r : Int) (tr : Tok) (i : Nat) (vs : List Value) (c : Nat) (m : Str → Option Value) (Rest : (Str → Option Value) → List (Addr × Obj) → Prop), Hid (vs.length ≤ sizeLine) →
      (∀ m' tr' t, m' (Str.ofString "octets") = some (.ref l) → m' (Str.ofString "rest") = some (.int (r / 256) tr') → Rest m' [(l, W.listOf ((List.toArray vs).push (.int (r % 256) t)) (c + 1))]) →
      ∀ t h tk it, Fr h₀ L h (fun y => if y = Str.ofString "spot" then some (.int (0 + (i : Int)) t) else if y = Str.ofString "octets" then some (.ref l) else if y = Str.ofString "rest" then some (.int r tr) else m y) →
        it.cls = .type "range_iterator" → News h₀ L h [(I, it), (l, W.listOf (List.toArray vs) c)] →
        wpAny (model prog w) A (execs body env) (UnrPost h₀ L { s with heap := h, toks := tk } I it Rest Q) E { s with heap := h, toks := tk })
    (fin : ∀ (vs : List Value) (c : Nat) (m : Str → Option Value) (h : Heap) (tk : Nat), IntsAre vs (octs r0 n) → Hid (vs.length ≤ sizeLine) → Fr h₀ L h (fun y => if y = Str.ofString "spot" then m y else if y = Str.ofString "octets" then some (.ref l) else m y) → News h₀ L h [(l, W.listOf (List.toArray vs) c)] → Q .next { s with heap := h, toks := tk }) :
    ∀ (k i : Nat) (r : Int) (tr : Tok) (vs : List Value) (c : Nat) (m : Str → Option Value) (ns : List Int), IntsAre vs ns → ns ++ octs r k = octs r0 n → vs.length + k ≤ 100 → m (Str.ofString "octets") = some (.ref l) → m (Str.ofString "rest") = some (.int r tr) →
      RangeRest prog w A E h₀ env (Str.ofString "spot") body Q s I 0 n k i m [(l, W.listOf (List.toArray vs) c)]
  | 0, i, r, tr, vs, c, m, ns, hI, e, hz, h1, h2 => by
    subst hL
    refine RangeRest.zero fun h tk F N => fin vs c m h tk ?_ ⟨Nat.le_trans (Nat.le_trans (Nat.le_add_right _ _) hz) (by rw [PySem.sizeLine_eq]; decide)⟩ ?_ N
    · have e' : ns = octs r0 n := by rw [← e]; exact (List.append_nil _).symm
      exact e' ▸ hI
    · have e2 : (fun y => if y = Str.ofString "spot" then m y else if y = Str.ofString "octets" then some (.ref l) else m y) = m := by
        funext y
        by_cases q : y = Str.ofString "spot"
        · rw [if_pos q]
        · rw [if_neg q]
          by_cases q2 : y = Str.ofString "octets"
          · subst q2; rw [if_pos rfl, h1]
          · rw [if_neg q2]
      rw [e2]; exact F
  | k + 1, i, r, tr, vs, c, m, ns, hI, e, hz, h1, h2 => by
    subst hL
    refine RangeRest.succ fun t h tk F N => turn r tr i vs c m _ ⟨Nat.le_trans (Nat.le_trans (Nat.le_add_right _ _) hz) (by rw [PySem.sizeLine_eq]; decide)⟩ (fun m' tr' t' g1 g2 => ?_) t h tk _ (fr2 F h1 h2) rfl N
    have e3 : (List.toArray vs).push (.int (r % 256) t') = List.toArray (vs ++ [.int (r % 256) t']) := List.push_toArray _ _
    rw [e3]
    refine octAll rfl turn fin k (i + 1) (r / 256) tr' (vs ++ [.int (r % 256) t']) (c + 1) m' (ns ++ [r % 256]) (IntsAre.append hI (IntsAre.cons _ _ .nil)) ?_ ?_ g1 g2
    · rw [← e, List.append_assoc]; rfl
    · rw [List.length_append]; simp only [List.length_cons, List.length_nil]; omega
end
theorem rngS {n : Int} (h : Hid (n = 1 ∨ n = 2 ∨ n = 4 ∨ n = 8)) : Builtin.Range.small 0 n 1 = true := by rcases h.out with rfl | rfl | rfl | rfl <;> decide
theorem rngN {n : Int} (h : Hid (n = 1 ∨ n = 2 ∨ n = 4 ∨ n = 8)) : Builtin.Range.rangeSize 0 n 1 = (n.toNat : Int) := by rcases h.out with rfl | rfl | rfl | rfl <;> decide
theorem rng8 {n : Int} (h : Hid (n = 1 ∨ n = 2 ∨ n = 4 ∨ n = 8)) : 0 ≤ 8 * n ∧ 8 * n ≤ 64 := by rcases h.out with rfl | rfl | rfl | rfl <;> decide
theorem rngL {n : Int} (h : Hid (n = 1 ∨ n = 2 ∨ n = 4 ∨ n = 8)) : ([] : List Value).length + n.toNat ≤ 100 := by rcases h.out with rfl | rfl | rfl | rfl <;> decide
theorem rngO {x n : Int} (h : Hid (n = 1 ∨ n = 2 ∨ n = 4 ∨ n = 8)) : ((octs (x % 2 ^ (8 * n).toNat) n.toNat).map fun n => n.toNat.toUInt8).toArray = (octL x n.toNat).toArray := by
  rcases h.out with rfl | rfl | rfl | rfl
  · exact octL_mod x 1 _ rfl
  · exact octL_mod x 2 _ rfl
  · exact octL_mod x 4 _ rfl
  · exact octL_mod x 8 _ rfl
theorem row28 : True := by
  k_with "pyIter ref" => (guard_hyp scLit : True; (with_reducible show wpAny _ _ (pyIter (Value.ref _)) (fun it s₂ => LoopAtV _ _ _ _ _ _ _ _ _ it s₂) _ _); (rename Fr _ _ _ _ => lF'); (rename News _ _ _ _ => lN'); (with_unfolding_all refine' iter_rangeUnr (n := n.toNat) ?liA ?liB ?liC ?liD lF' lN' ?_); k_dflt ((case liB => with_reducible assumption); (case liA => with_unfolding_all rfl); (case liC => exact rngS hn); (case liD => exact rngN hn)); clear lF' lN'; intro i' l1; (try k_lt l1); walk_say "OCTETS")
  trivial
theorem row29 : True := by
  k_with "RangeRest" => (guard_hyp scLit : True; (with_unfolding_all refine' octAll ?liL ?trT ?trF _ _ _ _ [] 0 _ [] .nil rfl (rngL hn) ?li1 ?li2); k_dflt ((case liL => rfl); (case li1 => rfl); (case li2 => rfl)); (case' trT => intro r9 tr9 i9 vs9 c9 m9 Rest9 hz9 hk9 t9 h9 tk9 it9 F9 hit9 N9); (case' trF => intro vs9 c9 m9 h9 tk9 I9 hz9 F9 N9); walk_say "TURNS")
  trivial
theorem row30 : True := by
  k_with "UnrEnd" => (guard_hyp scLit : True; k_dflt (refine' UnrEnd.intro ?liF ?liN _ ?liS ?liO (hk9 _ _ _ ?liA ?liB); (case liF => assumption); (case liA => rfl); (case liB => rfl); (case liN => k_asm); (case liS => repeat (first | exact subNil | refine subCons (by k_mem) ?_)); (case liO => k_all)))
  trivial
theorem row31 : True := by
  k_with "call builtin:list.append" => (guard_hyp scLit : True; (with_reducible show wpAny _ _ (call (Value.builtin _) [Value.ref _, _]) _ _ _); k_dflt (refine' append_K ?liA ?liB ?liC ?_ ?liZ; (case liA => k_asm); (case liB => k_asm); (case liC => k_upd); (case liZ => exact hz9.out); k_whole); intro h' F' N'; (try k_sweep))
  trivial
theorem row32 : True := by
  k_with "call type:bytes" => (guard_hyp scLit : True; (with_reducible show wpAny _ _ (call (Value.type _) [Value.ref _]) _ _ _); k_dflt (refine' bytes_K ?liA ?liB ?liC ?liI ?liR ?liZ ?liH ?_; (case liA => k_asm); (case liB => k_asm); (case liC => exact News.isList (by k_asm) (by k_mem)); (case liI => with_reducible assumption); (case liR => exact octR _ _); (case liZ => exact hz9.out); (case liH => with_unfolding_all rfl); k_whole); intro h' t' k' F' N' hB'; clear hB'; (try k_sweep))
  trivial
set_option maxRecDepth 100000 in
set_option maxHeartbeats 0 in
theorem little_c
  {w : World} {p : Program} {loose : List Str} {mean : ExcName → Option Value} {mg mb : Str → Option Value}
  {dp un : Nat} {gd : Option (List Code)} {cn : Str} {nms : List (Str × NameKind)} {isg isc : Bool} {scm : List (Str × Const)} {a : Addr} {ccd : Value} {cl : List (Str × Addr)} {outer : List Env} {A₀ : Around} {base h₀ : Heap} {L : Addr} {m : Str → Option Value} {s : Shared} {Q E : Value → Shared → Prop}
  {x n : Int} {t u : Tok} (B : Below A₀ base outer h₀) (F : Fr h₀ L s.heap m) (X : (kk.heap_1 w.params).In h₀) (N : News h₀ L s.heap []) (T : Top p loose mean mg mb h₀)
    (hd : dp + 28 < 1000) (hu : un + 160 < 9900) (hn : Hid (n = 1 ∨ n = 2 ∨ n = 4 ∨ n = 8))
    (ret : ∀ (t' : Tok)  (h' : Heap) (tk' : Nat), Fr h₀ L h' m → InElt s.heap h' → News h₀ L h' [] → Q (.bytes (octL x n.toNat).toArray t') { s with heap := h', toks := tk' }) :
    wpAny (model Challenge.rw_nz0171_01.row.prog w) (ktrTop dp un gd cn ⟨.function, nms, isg, isc, scm⟩ L a ccd cl outer) (call (.ref 122) [.int x t, .int n u]) Q E s := by
  have scLit : True := trivial
  have hw8 : Hid (0 ≤ 8 * n ∧ 8 * n ≤ 64) := ⟨rng8 hn⟩
  w_on; revert X; k_fill; intro X; have cE0 := InElt.start s.heap; refine wpAny_call ?_; k_dflt k_enter; k_steps
  all_goals ((refine' retY ?ceq (ret _ _ _ ?cF ?cE ?cN); (case cF => assumption); (case cE => assumption); (case cN => (first | assumption | (refine' cb_drop ?cbN ?cbS; (case cbN => assumption); (case cbS => kcj_all)))); (case ceq => exact rngO hn)))
set_option maxRecDepth 100000 in
set_option maxHeartbeats 0 in
theorem little1_c
  {w : World} {p : Program} {loose : List Str} {mean : ExcName → Option Value} {mg mb : Str → Option Value}
  {dp un : Nat} {gd : Option (List Code)} {cn : Str} {nms : List (Str × NameKind)} {isg isc : Bool} {scm : List (Str × Const)} {a : Addr} {ccd : Value} {cl : List (Str × Addr)} {outer : List Env} {A₀ : Around} {base h₀ : Heap} {L : Addr} {m : Str → Option Value} {s : Shared} {Q E : Value → Shared → Prop}
  {x : Int} {t u : Tok} (B : Below A₀ base outer h₀) (F : Fr h₀ L s.heap m) (X : (kk.heap_1 w.params).In h₀) (N : News h₀ L s.heap []) (T : Top p loose mean mg mb h₀)
    (hd : dp + 28 < 1000) (hu : un + 160 < 9900) 
    (ret : ∀ (t' : Tok)  (h' : Heap) (tk' : Nat), Fr h₀ L h' m → InElt s.heap h' → News h₀ L h' [] → Q (.bytes (octL x 1).toArray t') { s with heap := h', toks := tk' }) :
    wpAny (model Challenge.rw_nz0171_01.row.prog w) (ktrTop dp un gd cn ⟨.function, nms, isg, isc, scm⟩ L a ccd cl outer) (call (.ref 122) [.int x t, .int 1 u]) Q E s := by
  exact little_c B F X N T hd hu ⟨by decide⟩ ret
theorem row33 : True := by
  k_with "call ref" => ((with_reducible show wpAny _ _ (call (Value.ref 122) [_, Value.int 1 _]) _ _ _); k_dflt (refine' little1_c ?k1 ?k2 ?k3 (cb_drop ?k4 ?k9) ?k5 ?k7 ?k8  ?_; (case k1 => k_asm); (case k2 => k_asm); (case k3 => k_asm); (case k4 => k_asm); (case k5 => k_asm); (case k9 => repeat (first | exact subNil | refine subCons (by k_mem) ?_)); (case k7 => (first | exact roomA hd rfl | exact roomB hd rfl | ((try simp only [depth_mark, depth_under_make, depth_under_kw, depth_in1, depth_deeper, depth_caller]); (try dsimp only [ktrTop]); omega))); (case k8 => (first | exact unitA hu rfl | ((try simp only [units_under_make, units_in1, units_deeper, Around.mark_units, units_caller]); (try dsimp only [ktrTop]); omega))); k_whole); intro t9  h9 tk9  F9 E9 N9; (k_dflt (replace N9 := newsApp N9 E9 (by k_asm))); clear E9; (try dsimp only [List.nil_append, List.cons_append, List.append_nil] at N9); (try simp only [List.append_nil] at N9); (try dsimp only); (try k_fold); (try k_sweep); walk_say "CONTRACT little1_c")
  trivial
set_option maxRecDepth 100000 in
set_option maxHeartbeats 0 in
theorem little2_c
  {w : World} {p : Program} {loose : List Str} {mean : ExcName → Option Value} {mg mb : Str → Option Value}
  {dp un : Nat} {gd : Option (List Code)} {cn : Str} {nms : List (Str × NameKind)} {isg isc : Bool} {scm : List (Str × Const)} {a : Addr} {ccd : Value} {cl : List (Str × Addr)} {outer : List Env} {A₀ : Around} {base h₀ : Heap} {L : Addr} {m : Str → Option Value} {s : Shared} {Q E : Value → Shared → Prop}
  {x : Int} {t u : Tok} (B : Below A₀ base outer h₀) (F : Fr h₀ L s.heap m) (X : (kk.heap_1 w.params).In h₀) (N : News h₀ L s.heap []) (T : Top p loose mean mg mb h₀)
    (hd : dp + 28 < 1000) (hu : un + 160 < 9900) 
    (ret : ∀ (t' : Tok)  (h' : Heap) (tk' : Nat), Fr h₀ L h' m → InElt s.heap h' → News h₀ L h' [] → Q (.bytes (octL x 2).toArray t') { s with heap := h', toks := tk' }) :
    wpAny (model Challenge.rw_nz0171_01.row.prog w) (ktrTop dp un gd cn ⟨.function, nms, isg, isc, scm⟩ L a ccd cl outer) (call (.ref 122) [.int x t, .int 2 u]) Q E s := by
  exact little_c B F X N T hd hu ⟨by decide⟩ ret
theorem row34 : True := by
  k_with "call ref" => ((with_reducible show wpAny _ _ (call (Value.ref 122) [_, Value.int 2 _]) _ _ _); k_dflt (refine' little2_c ?k1 ?k2 ?k3 (cb_drop ?k4 ?k9) ?k5 ?k7 ?k8  ?_; (case k1 => k_asm); (case k2 => k_asm); (case k3 => k_asm); (case k4 => k_asm); (case k5 => k_asm); (case k9 => repeat (first | exact subNil | refine subCons (by k_mem) ?_)); (case k7 => (first | exact roomA hd rfl | exact roomB hd rfl | ((try simp only [depth_mark, depth_under_make, depth_under_kw, depth_in1, depth_deeper, depth_caller]); (try dsimp only [ktrTop]); omega))); (case k8 => (first | exact unitA hu rfl | ((try simp only [units_under_make, units_in1, units_deeper, Around.mark_units, units_caller]); (try dsimp only [ktrTop]); omega))); k_whole); intro t9  h9 tk9  F9 E9 N9; (k_dflt (replace N9 := newsApp N9 E9 (by k_asm))); clear E9; (try dsimp only [List.nil_append, List.cons_append, List.append_nil] at N9); (try simp only [List.append_nil] at N9); (try dsimp only); (try k_fold); (try k_sweep); walk_say "CONTRACT little2_c")
  trivial
set_option maxRecDepth 100000 in
set_option maxHeartbeats 0 in
theorem little4_c
  {w : World} {p : Program} {loose : List Str} {mean : ExcName → Option Value} {mg mb : Str → Option Value}
  {dp un : Nat} {gd : Option (List Code)} {cn : Str} {nms : List (Str × NameKind)} {isg isc : Bool} {scm : List (Str × Const)} {a : Addr} {ccd : Value} {cl : List (Str × Addr)} {outer : List Env} {A₀ : Around} {base h₀ : Heap} {L : Addr} {m : Str → Option Value} {s : Shared} {Q E : Value → Shared → Prop}
  {x : Int} {t u : Tok} (B : Below A₀ base outer h₀) (F : Fr h₀ L s.heap m) (X : (kk.heap_1 w.params).In h₀) (N : News h₀ L s.heap []) (T : Top p loose mean mg mb h₀)
    (hd : dp + 28 < 1000) (hu : un + 160 < 9900) 
    (ret : ∀ (t' : Tok)  (h' : Heap) (tk' : Nat), Fr h₀ L h' m → InElt s.heap h' → News h₀ L h' [] → Q (.bytes (octL x 4).toArray t') { s with heap := h', toks := tk' }) :
    wpAny (model Challenge.rw_nz0171_01.row.prog w) (ktrTop dp un gd cn ⟨.function, nms, isg, isc, scm⟩ L a ccd cl outer) (call (.ref 122) [.int x t, .int 4 u]) Q E s := by
  exact little_c B F X N T hd hu ⟨by decide⟩ ret
theorem row35 : True := by
  k_with "call ref" => ((with_reducible show wpAny _ _ (call (Value.ref 122) [_, Value.int 4 _]) _ _ _); k_dflt (refine' little4_c ?k1 ?k2 ?k3 (cb_drop ?k4 ?k9) ?k5 ?k7 ?k8  ?_; (case k1 => k_asm); (case k2 => k_asm); (case k3 => k_asm); (case k4 => k_asm); (case k5 => k_asm); (case k9 => repeat (first | exact subNil | refine subCons (by k_mem) ?_)); (case k7 => (first | exact roomA hd rfl | exact roomB hd rfl | ((try simp only [depth_mark, depth_under_make, depth_under_kw, depth_in1, depth_deeper, depth_caller]); (try dsimp only [ktrTop]); omega))); (case k8 => (first | exact unitA hu rfl | ((try simp only [units_under_make, units_in1, units_deeper, Around.mark_units, units_caller]); (try dsimp only [ktrTop]); omega))); k_whole); intro t9  h9 tk9  F9 E9 N9; (k_dflt (replace N9 := newsApp N9 E9 (by k_asm))); clear E9; (try dsimp only [List.nil_append, List.cons_append, List.append_nil] at N9); (try simp only [List.append_nil] at N9); (try dsimp only); (try k_fold); (try k_sweep); walk_say "CONTRACT little4_c")
  trivial
set_option maxRecDepth 100000 in
set_option maxHeartbeats 0 in
theorem little8_c
  {w : World} {p : Program} {loose : List Str} {mean : ExcName → Option Value} {mg mb : Str → Option Value}
  {dp un : Nat} {gd : Option (List Code)} {cn : Str} {nms : List (Str × NameKind)} {isg isc : Bool} {scm : List (Str × Const)} {a : Addr} {ccd : Value} {cl : List (Str × Addr)} {outer : List Env} {A₀ : Around} {base h₀ : Heap} {L : Addr} {m : Str → Option Value} {s : Shared} {Q E : Value → Shared → Prop}
  {x : Int} {t u : Tok} (B : Below A₀ base outer h₀) (F : Fr h₀ L s.heap m) (X : (kk.heap_1 w.params).In h₀) (N : News h₀ L s.heap []) (T : Top p loose mean mg mb h₀)
    (hd : dp + 28 < 1000) (hu : un + 160 < 9900) 
    (ret : ∀ (t' : Tok)  (h' : Heap) (tk' : Nat), Fr h₀ L h' m → InElt s.heap h' → News h₀ L h' [] → Q (.bytes (octL x 8).toArray t') { s with heap := h', toks := tk' }) :
    wpAny (model Challenge.rw_nz0171_01.row.prog w) (ktrTop dp un gd cn ⟨.function, nms, isg, isc, scm⟩ L a ccd cl outer) (call (.ref 122) [.int x t, .int 8 u]) Q E s := by
  exact little_c B F X N T hd hu ⟨by decide⟩ ret
theorem row36 : True := by
  k_with "call ref" => ((with_reducible show wpAny _ _ (call (Value.ref 122) [_, Value.int 8 _]) _ _ _); k_dflt (refine' little8_c ?k1 ?k2 ?k3 (cb_drop ?k4 ?k9) ?k5 ?k7 ?k8  ?_; (case k1 => k_asm); (case k2 => k_asm); (case k3 => k_asm); (case k4 => k_asm); (case k5 => k_asm); (case k9 => repeat (first | exact subNil | refine subCons (by k_mem) ?_)); (case k7 => (first | exact roomA hd rfl | exact roomB hd rfl | ((try simp only [depth_mark, depth_under_make, depth_under_kw, depth_in1, depth_deeper, depth_caller]); (try dsimp only [ktrTop]); omega))); (case k8 => (first | exact unitA hu rfl | ((try simp only [units_under_make, units_in1, units_deeper, Around.mark_units, units_caller]); (try dsimp only [ktrTop]); omega))); k_whole); intro t9  h9 tk9  F9 E9 N9; (k_dflt (replace N9 := newsApp N9 E9 (by k_asm))); clear E9; (try dsimp only [List.nil_append, List.cons_append, List.append_nil] at N9); (try simp only [List.append_nil] at N9); (try dsimp only); (try k_fold); (try k_sweep); walk_say "CONTRACT little8_c")
  trivial

/-- a kind that is a register: rm8, r16, o64 .. of z bits -/
structure RegKind (k : Str) (z : Int) : Prop where
  len : k.length ≤ 100
  fixed : isFixed k = false
  imm : isImm k = false
  rel : isRel k = false
  one : (k == "one") = false
  m : (k == "m") = false
  x : (k == "x") = false
  xm : (Txt.slice k none (some 2) == "xm") = false
  m1 : (Txt.slice k none (some 1) == "m") = false
  size : PySem.intText? (Txt.lstripChars k "rmox") = some z
/-- a kind that is a whole number of z bits -/
structure ImmKind (k : Str) (z : Int) : Prop where
  len : k.length ≤ 100
  one : (k == "one") = false
  u8 : (k == "uimm8") = false
  u16 : (k == "uimm16") = false
  s8 : (k == "simm8") = false
  s32 : (k == "simm32") = false
  imm : (Txt.slice k none (some 3) == "imm") = true
  text : PySem.intText? (Txt.slice k (some 3) none) = some z
  lo : 1 ≤ z
  hi : z ≤ 64
/-- a kind that no number fits -/
structure NoImm (k : Str) : Prop where
  len : k.length ≤ 100
  one : (k == "one") = false
  u8 : (k == "uimm8") = false
  u16 : (k == "uimm16") = false
  s8 : (k == "simm8") = false
  s32 : (k == "simm32") = false
  imm : (Txt.slice k none (some 3) == "imm") = false
abbrev ent (w : World) (x : String) (t : Tok) (v : Value) : DictEntry := ⟨PyData.keyHash w.params (Str.ofString x), .str (Str.ofString x) t, v⟩
abbrev regD (w : World) (t1 t2 t3 t4 : Tok) (nm : Value) (kd : Str) (tk : Tok) (n : Int) (tn : Tok) (z : Int) (tz : Tok) : Obj :=
  dictOf [ent w "name" t1 nm, ent w "kind" t2 (.str kd tk), ent w "number" t3 (.int n tn), ent w "size" t4 (.int z tz)] 4
theorem band_t {a c : Bool} (h : a = true) : c = (a && c) := by rw [h, Bool.true_and]
theorem band_f {a c : Bool} (h : a = false) : a = (a && c) := by rw [h, Bool.false_and]
def fitsB (x n : Int) : Bool := decide (-(2 ^ (n - 1).toNat) ≤ x) && decide (x ≤ 2 ^ n.toNat - 1)
def sgn32 (x : Int) : Int := if 2147483648 ≤ x % 4294967296 then x % 4294967296 - 4294967296 else x % 4294967296
set_option maxRecDepth 100000 in
set_option maxHeartbeats 0 in
theorem kind_width_c
  {w : World} {p : Program} {loose : List Str} {mean : ExcName → Option Value} {mg mb : Str → Option Value}
  {dp un : Nat} {gd : Option (List Code)} {cn : Str} {nms : List (Str × NameKind)} {isg isc : Bool} {scm : List (Str × Const)} {a : Addr} {ccd : Value} {cl : List (Str × Addr)} {outer : List Env} {A₀ : Around} {base h₀ : Heap} {L : Addr} {m : Str → Option Value} {s : Shared} {Q E : Value → Shared → Prop}
  {k : Str} {t : Tok} {z : Int} (B : Below A₀ base outer h₀) (F : Fr h₀ L s.heap m) (X : (kk.heap_1 w.params).In h₀) (N : News h₀ L s.heap []) (T : Top p loose mean mg mb h₀)
    (hd : dp + 24 < 1000) (hu : un + 130 < 9900) (hl : k.length ≤ 100) (hi : isImm k = true) (hz : PySem.intText? (Txt.slice k (some (Txt.find k "imm" + 3)) none) = some z)
    (ret : ∀ (t' : Tok)  (h' : Heap) (tk' : Nat), Fr h₀ L h' m → InElt s.heap h' → News h₀ L h' [] → Q (.int (z / 8) t') { s with heap := h', toks := tk' }) :
    wpAny (model Challenge.rw_nz0171_01.row.prog w) (ktrTop dp un gd cn ⟨.function, nms, isg, isc, scm⟩ L a ccd cl outer) (call (.ref 164) [.str k t]) Q E s := by
  w_on; revert X; k_fill; intro X; have cE0 := InElt.start s.heap; refine wpAny_call ?_; k_dflt k_enter; k_steps
  all_goals (first | (exfalso; law_clear; unfold isImm at hi; simp_all; done) | (refine' retI ?ceq (ret _ _ _ ?cF ?cE ?cN); (case cF => assumption); (case cE => assumption); (case cN => (first | assumption | (refine' cb_drop ?cbN ?cbS; (case cbN => assumption); (case cbS => kcj_all)))); (case ceq => exact Int.fdiv_eq_ediv_of_nonneg _ (by decide))))
theorem row37 : True := by
  k_with "call ref" => ((with_reducible show wpAny _ _ (call (Value.ref 164) _) _ _ _); k_dflt (refine' kind_width_c ?k1 ?k2 ?k3 (cb_drop ?k4 ?k9) ?k5 ?k7 ?k8 ?h0 ?h1 ?h2 ?_; (case k1 => k_asm); (case k2 => k_asm); (case k3 => k_asm); (case k4 => k_asm); (case k5 => k_asm); (case k9 => repeat (first | exact subNil | refine subCons (by k_mem) ?_)); (case k7 => (first | exact roomA hd rfl | exact roomB hd rfl | ((try simp only [depth_mark, depth_under_make, depth_under_kw, depth_in1, depth_deeper, depth_caller]); (try dsimp only [ktrTop]); omega))); (case k8 => (first | exact unitA hu rfl | ((try simp only [units_under_make, units_in1, units_deeper, Around.mark_units, units_caller]); (try dsimp only [ktrTop]); omega))); (case h0 => first | assumption | omega | decide); (case h1 => first | assumption | omega | decide); (case h2 => first | assumption | omega | decide); k_whole); intro t9  h9 tk9  F9 E9 N9; (k_dflt (replace N9 := newsApp N9 E9 (by k_asm))); clear E9; (try dsimp only [List.nil_append, List.cons_append, List.append_nil] at N9); (try simp only [List.append_nil] at N9); (try dsimp only); (try k_fold); (try k_sweep); walk_say "CONTRACT kind_width_c")
  trivial
set_option maxRecDepth 100000 in
set_option maxHeartbeats 0 in
theorem kind_size_c
  {w : World} {p : Program} {loose : List Str} {mean : ExcName → Option Value} {mg mb : Str → Option Value}
  {dp un : Nat} {gd : Option (List Code)} {cn : Str} {nms : List (Str × NameKind)} {isg isc : Bool} {scm : List (Str × Const)} {a : Addr} {ccd : Value} {cl : List (Str × Addr)} {outer : List Env} {A₀ : Around} {base h₀ : Heap} {L : Addr} {m : Str → Option Value} {s : Shared} {Q E : Value → Shared → Prop}
  {k : Str} {t : Tok} {z : Int} (B : Below A₀ base outer h₀) (F : Fr h₀ L s.heap m) (X : (kk.heap_1 w.params).In h₀) (N : News h₀ L s.heap []) (T : Top p loose mean mg mb h₀)
    (hd : dp + 24 < 1000) (hu : un + 130 < 9900) (hK : RegKind k z)
    (ret : ∀ (t' : Tok)  (h' : Heap) (tk' : Nat), Fr h₀ L h' m → InElt s.heap h' → News h₀ L h' [] → Q (.int z t') { s with heap := h', toks := tk' }) :
    wpAny (model Challenge.rw_nz0171_01.row.prog w) (ktrTop dp un gd cn ⟨.function, nms, isg, isc, scm⟩ L a ccd cl outer) (call (.ref 157) [.str k t]) Q E s := by
  have ⟨hl, hf, hi, hr, ho, hm, hx, hxm, hm1, hz⟩ := hK
  have hmo : (["m", "one"] : List Str).any (fun x => x == k) = false := by
    simp only [beq_eq_false_iff_ne, ne_eq, List.any_cons, List.any_nil, Bool.or_false, Bool.or_eq_false_iff] at hm ho ⊢
    exact ⟨fun e => hm e.symm, fun e => ho e.symm⟩
  w_on; revert X; k_fill; intro X; have cE0 := InElt.start s.heap; refine wpAny_call ?_; k_dflt k_enter; k_steps
  all_goals ((refine' retI ?ceq (ret _ _ _ ?cF ?cE ?cN); (case cF => assumption); (case cE => assumption); (case cN => (first | assumption | (refine' cb_drop ?cbN ?cbS; (case cbN => assumption); (case cbS => kcj_all)))); (case ceq => (law_clear; first | rfl | (simp_all; done) | fail "c eq"))))

theorem row38 : True := by
  k_with "call ref" => ((with_reducible show wpAny _ _ (call (Value.ref 157) _) _ _ _); k_dflt (refine' kind_size_c ?k1 ?k2 ?k3 (cb_drop ?k4 ?k9) ?k5 ?k7 ?k8 ?h0 ?_; (case k1 => k_asm); (case k2 => k_asm); (case k3 => k_asm); (case k4 => k_asm); (case k5 => k_asm); (case k9 => repeat (first | exact subNil | refine subCons (by k_mem) ?_)); (case k7 => (first | exact roomA hd rfl | exact roomB hd rfl | ((try simp only [depth_mark, depth_under_make, depth_under_kw, depth_in1, depth_deeper, depth_caller]); (try dsimp only [ktrTop]); omega))); (case k8 => (first | exact unitA hu rfl | ((try simp only [units_under_make, units_in1, units_deeper, Around.mark_units, units_caller]); (try dsimp only [ktrTop]); omega))); (case h0 => first | assumption | omega | decide); k_whole); intro t9  h9 tk9  F9 E9 N9; (k_dflt (replace N9 := newsApp N9 E9 (by k_asm))); clear E9; (try dsimp only [List.nil_append, List.cons_append, List.append_nil] at N9); (try simp only [List.append_nil] at N9); (try dsimp only); (try k_fold); (try k_sweep); walk_say "CONTRACT kind_size_c")
  trivial
set_option maxRecDepth 100000 in
set_option maxHeartbeats 0 in
theorem takes_register_c
  {w : World} {p : Program} {loose : List Str} {mean : ExcName → Option Value} {mg mb : Str → Option Value}
  {dp un : Nat} {gd : Option (List Code)} {cn : Str} {nms : List (Str × NameKind)} {isg isc : Bool} {scm : List (Str × Const)} {a : Addr} {ccd : Value} {cl : List (Str × Addr)} {outer : List Env} {A₀ : Around} {base h₀ : Heap} {L : Addr} {m : Str → Option Value} {s : Shared} {Q E : Value → Shared → Prop}
  {k : Str} {t : Tok} {zk : Int} {r d : Addr} {t1 t2 t3 t4 tk tn tz : Tok} {nm : Value} {rk : Str} {n z : Int} (B : Below A₀ base outer h₀) (F : Fr h₀ L s.heap m) (X : (kk.heap_1 w.params).In h₀) (N : News h₀ L s.heap [(r, instObj 938 d), (d, regD w t1 t2 t3 t4 nm rk tk n tn z tz)]) (T : Top p loose mean mg mb h₀)
    (hd : dp + 28 < 1000) (hu : un + 160 < 9900) (hK : RegKind k zk) (hrk : (["gpr", "high"] : List Str).any (fun x => x == rk) = true)
    (ret : ∀   (h' : Heap) (tk' : Nat), Fr h₀ L h' m → InElt s.heap h' → News h₀ L h' [] → Q (.bool (decide (z = zk))) { s with heap := h', toks := tk' }) :
    wpAny (model Challenge.rw_nz0171_01.row.prog w) (ktrTop dp un gd cn ⟨.function, nms, isg, isc, scm⟩ L a ccd cl outer) (call (.ref 178) [.str k t, .ref r]) Q E s := by
  let no0 : Obj := instObj 938 d
  let no1 : Obj := regD w t1 t2 t3 t4 nm rk tk n tn z tz
  replace N : News h₀ L s.heap [(r, no0), (d, no1)] := N
  have ⟨hl, hf, hi, hr, ho, hm, hx, hxm, hm1, hz⟩ := hK
  w_on; revert X; k_fill; intro X; have cE0 := InElt.start s.heap; refine wpAny_call ?_; k_dflt k_enter; k_steps
  all_goals ((refine' retB ?ceq (ret _ _ ?cF ?cE ?cN); (case cF => assumption); (case cE => assumption); (case cN => (first | assumption | (refine' cb_drop ?cbN ?cbS; (case cbN => assumption); (case cbS => kcj_all)))); (case ceq => (law_clear; first | rfl | (simp_all; done) | fail "c eq"))))

theorem row39 : True := by
  k_with "call ref" => ((with_reducible show wpAny _ _ (call (Value.ref 178) _) _ _ _); k_dflt (refine' takes_register_c ?k1 ?k2 ?k3 (cb_drop ?k4 ?k9) ?k5 ?k7 ?k8 ?h0 ?h1 ?_; (case k1 => k_asm); (case k2 => k_asm); (case k3 => k_asm); (case k4 => k_asm); (case k5 => k_asm); (case k9 => repeat (first | exact subNil | refine subCons (by k_mem) ?_)); (case k7 => (first | exact roomA hd rfl | exact roomB hd rfl | ((try simp only [depth_mark, depth_under_make, depth_under_kw, depth_in1, depth_deeper, depth_caller]); (try dsimp only [ktrTop]); omega))); (case k8 => (first | exact unitA hu rfl | ((try simp only [units_under_make, units_in1, units_deeper, Around.mark_units, units_caller]); (try dsimp only [ktrTop]); omega))); (case h0 => first | assumption | omega | decide); (case h1 => first | assumption | omega | decide); k_whole); intro   h9 tk9  F9 E9 N9; (k_dflt (replace N9 := newsApp N9 E9 (by k_asm))); clear E9; (try dsimp only [List.nil_append, List.cons_append, List.append_nil] at N9); (try simp only [List.append_nil] at N9); (try dsimp only); (try k_fold); (try k_sweep); walk_say "CONTRACT takes_register_c")
  trivial
set_option maxRecDepth 100000 in
set_option maxHeartbeats 0 in
theorem takes_worth_imm
  {w : World} {p : Program} {loose : List Str} {mean : ExcName → Option Value} {mg mb : Str → Option Value}
  {dp un : Nat} {gd : Option (List Code)} {cn : Str} {nms : List (Str × NameKind)} {isg isc : Bool} {scm : List (Str × Const)} {a : Addr} {ccd : Value} {cl : List (Str × Addr)} {outer : List Env} {A₀ : Around} {base h₀ : Heap} {L : Addr} {m : Str → Option Value} {s : Shared} {Q E : Value → Shared → Prop}
  {k : Str} {t u v : Tok} {zk x n : Int} (B : Below A₀ base outer h₀) (F : Fr h₀ L s.heap m) (X : (kk.heap_1 w.params).In h₀) (N : News h₀ L s.heap []) (T : Top p loose mean mg mb h₀)
    (hd : dp + 32 < 1000) (hu : un + 190 < 9900) (hK : ImmKind k zk)
    (ret : ∀   (h' : Heap) (tk' : Nat), Fr h₀ L h' m → InElt s.heap h' → News h₀ L h' [] → Q (.bool (fitsB x zk)) { s with heap := h', toks := tk' }) :
    wpAny (model Challenge.rw_nz0171_01.row.prog w) (ktrTop dp un gd cn ⟨.function, nms, isg, isc, scm⟩ L a ccd cl outer) (call (.ref 185) [.str k t, .int x u, .int n v]) Q E s := by
  have ⟨hl, ho, h8, h16, hs8, hs32, him, hz, hlo, hhi⟩ := hK
  w_on; revert X; k_fill; intro X; have cE0 := InElt.start s.heap; refine wpAny_call ?_; k_dflt k_enter; k_steps
  all_goals ((refine' retB ?ceq (ret _ _ ?cF ?cE ?cN); (case cF => assumption); (case cE => assumption); (case cN => (first | assumption | (refine' cb_drop ?cbN ?cbS; (case cbN => assumption); (case cbS => kcj_all)))); (case ceq => (law_clear; first | rfl | (simp_all; done) | fail "c eq"))))

theorem row40 : True := by
  k_with "call ref" => ((with_reducible show wpAny _ _ (call (Value.ref 185) _) _ _ _); k_dflt (refine' takes_worth_imm ?k1 ?k2 ?k3 (cb_drop ?k4 ?k9) ?k5 ?k7 ?k8 ?h0 ?_; (case k1 => k_asm); (case k2 => k_asm); (case k3 => k_asm); (case k4 => k_asm); (case k5 => k_asm); (case k9 => repeat (first | exact subNil | refine subCons (by k_mem) ?_)); (case k7 => (first | exact roomA hd rfl | exact roomB hd rfl | ((try simp only [depth_mark, depth_under_make, depth_under_kw, depth_in1, depth_deeper, depth_caller]); (try dsimp only [ktrTop]); omega))); (case k8 => (first | exact unitA hu rfl | ((try simp only [units_under_make, units_in1, units_deeper, Around.mark_units, units_caller]); (try dsimp only [ktrTop]); omega))); (case h0 => first | assumption | omega | decide); k_whole); intro   h9 tk9  F9 E9 N9; (k_dflt (replace N9 := newsApp N9 E9 (by k_asm))); clear E9; (try dsimp only [List.nil_append, List.cons_append, List.append_nil] at N9); (try simp only [List.append_nil] at N9); (try dsimp only); (try k_fold); (try k_sweep); walk_say "CONTRACT takes_worth_imm")
  trivial
set_option maxRecDepth 100000 in
set_option maxHeartbeats 0 in
theorem takes_worth_no
  {w : World} {p : Program} {loose : List Str} {mean : ExcName → Option Value} {mg mb : Str → Option Value}
  {dp un : Nat} {gd : Option (List Code)} {cn : Str} {nms : List (Str × NameKind)} {isg isc : Bool} {scm : List (Str × Const)} {a : Addr} {ccd : Value} {cl : List (Str × Addr)} {outer : List Env} {A₀ : Around} {base h₀ : Heap} {L : Addr} {m : Str → Option Value} {s : Shared} {Q E : Value → Shared → Prop}
  {k : Str} {t u v : Tok} {x n : Int} (B : Below A₀ base outer h₀) (F : Fr h₀ L s.heap m) (X : (kk.heap_1 w.params).In h₀) (N : News h₀ L s.heap []) (T : Top p loose mean mg mb h₀)
    (hd : dp + 32 < 1000) (hu : un + 190 < 9900) (hK : NoImm k)
    (ret : ∀   (h' : Heap) (tk' : Nat), Fr h₀ L h' m → InElt s.heap h' → News h₀ L h' [] → Q (.bool false) { s with heap := h', toks := tk' }) :
    wpAny (model Challenge.rw_nz0171_01.row.prog w) (ktrTop dp un gd cn ⟨.function, nms, isg, isc, scm⟩ L a ccd cl outer) (call (.ref 185) [.str k t, .int x u, .int n v]) Q E s := by
  have ⟨hl, ho, h8, h16, hs8, hs32, him⟩ := hK
  w_on; revert X; k_fill; intro X; have cE0 := InElt.start s.heap; refine wpAny_call ?_; k_dflt k_enter; k_steps
  all_goals ((refine' retB ?ceq (ret _ _ ?cF ?cE ?cN); (case cF => assumption); (case cE => assumption); (case cN => (first | assumption | (refine' cb_drop ?cbN ?cbS; (case cbN => assumption); (case cbS => kcj_all)))); (case ceq => (law_clear; first | rfl | (simp_all; done) | fail "c eq"))))

theorem row41 : True := by
  k_with "call ref" => ((with_reducible show wpAny _ _ (call (Value.ref 185) _) _ _ _); k_dflt (refine' takes_worth_no ?k1 ?k2 ?k3 (cb_drop ?k4 ?k9) ?k5 ?k7 ?k8 ?h0 ?_; (case k1 => k_asm); (case k2 => k_asm); (case k3 => k_asm); (case k4 => k_asm); (case k5 => k_asm); (case k9 => repeat (first | exact subNil | refine subCons (by k_mem) ?_)); (case k7 => (first | exact roomA hd rfl | exact roomB hd rfl | ((try simp only [depth_mark, depth_under_make, depth_under_kw, depth_in1, depth_deeper, depth_caller]); (try dsimp only [ktrTop]); omega))); (case k8 => (first | exact unitA hu rfl | ((try simp only [units_under_make, units_in1, units_deeper, Around.mark_units, units_caller]); (try dsimp only [ktrTop]); omega))); (case h0 => first | assumption | omega | decide); k_whole); intro   h9 tk9  F9 E9 N9; (k_dflt (replace N9 := newsApp N9 E9 (by k_asm))); clear E9; (try dsimp only [List.nil_append, List.cons_append, List.append_nil] at N9); (try simp only [List.append_nil] at N9); (try dsimp only); (try k_fold); (try k_sweep); walk_say "CONTRACT takes_worth_no")
  trivial
set_option maxRecDepth 100000 in
set_option maxHeartbeats 0 in
theorem takes_worth_s32
  {w : World} {p : Program} {loose : List Str} {mean : ExcName → Option Value} {mg mb : Str → Option Value}
  {dp un : Nat} {gd : Option (List Code)} {cn : Str} {nms : List (Str × NameKind)} {isg isc : Bool} {scm : List (Str × Const)} {a : Addr} {ccd : Value} {cl : List (Str × Addr)} {outer : List Env} {A₀ : Around} {base h₀ : Heap} {L : Addr} {m : Str → Option Value} {s : Shared} {Q E : Value → Shared → Prop}
  {t u v : Tok} {x n : Int} (B : Below A₀ base outer h₀) (F : Fr h₀ L s.heap m) (X : (kk.heap_1 w.params).In h₀) (N : News h₀ L s.heap []) (T : Top p loose mean mg mb h₀)
    (hd : dp + 32 < 1000) (hu : un + 190 < 9900) (h0 : 1 ≤ n) (h1 : n ≤ 64)
    (ret : ∀   (h' : Heap) (tk' : Nat), Fr h₀ L h' m → InElt s.heap h' → News h₀ L h' [] → Q (.bool (fitsB x n && (x % 2 ^ n.toNat == sgn32 x % 2 ^ n.toNat))) { s with heap := h', toks := tk' }) :
    wpAny (model Challenge.rw_nz0171_01.row.prog w) (ktrTop dp un gd cn ⟨.function, nms, isg, isc, scm⟩ L a ccd cl outer) (call (.ref 185) [.str "simm32" t, .int x u, .int n v]) Q E s := by
  w_on; revert X; k_fill; intro X; have cE0 := InElt.start s.heap; refine wpAny_call ?_; k_dflt k_enter; k_steps
  all_goals ((refine' retB ?ceq (ret _ _ ?cF ?cE ?cN); (case cF => assumption); (case cE => assumption); (case cN => (first | assumption | (refine' cb_drop ?cbN ?cbS; (case cbN => assumption); (case cbS => kcj_all)))); (case ceq => (law_clear; first | exact band_t (by assumption) | exact band_f (by assumption)))))
theorem row42 : True := by
  k_with "call ref" => ((with_reducible show wpAny _ _ (call (Value.ref 185) [Value.str "simm32" _, _, _]) _ _ _); k_dflt (refine' takes_worth_s32 ?k1 ?k2 ?k3 (cb_drop ?k4 ?k9) ?k5 ?k7 ?k8 ?h0 ?h1 ?_; (case k1 => k_asm); (case k2 => k_asm); (case k3 => k_asm); (case k4 => k_asm); (case k5 => k_asm); (case k9 => repeat (first | exact subNil | refine subCons (by k_mem) ?_)); (case k7 => (first | exact roomA hd rfl | exact roomB hd rfl | ((try simp only [depth_mark, depth_under_make, depth_under_kw, depth_in1, depth_deeper, depth_caller]); (try dsimp only [ktrTop]); omega))); (case k8 => (first | exact unitA hu rfl | ((try simp only [units_under_make, units_in1, units_deeper, Around.mark_units, units_caller]); (try dsimp only [ktrTop]); omega))); (case h0 => first | assumption | omega | decide); (case h1 => first | assumption | omega | decide); k_whole); intro   h9 tk9  F9 E9 N9; (k_dflt (replace N9 := newsApp N9 E9 (by k_asm))); clear E9; (try dsimp only [List.nil_append, List.cons_append, List.append_nil] at N9); (try simp only [List.append_nil] at N9); (try dsimp only); (try k_fold); (try k_sweep); walk_say "CONTRACT takes_worth_s32")
  trivial
def TupSrc (h₀ : Heap) (ax : Addr) (its : Array Value) (news : List (Addr × Obj)) : Prop := h₀.IsTuple ax its ∨ ∃ o, (ax, o) ∈ news ∧ o.cls = .type "tuple" ∧ ∃ n, o.data = .seq its n
theorem TupSrc.tup {h₀ h : Heap} {L ax : Addr} {its : Array Value} {news : List (Addr × Obj)} (x : TupSrc h₀ ax its news) (k : ∀ b o, h₀.get? b = some o → h.get? b = some o) (N : News h₀ L h news) : h.IsTuple ax its := by
  rcases x with ⟨o, e, r⟩ | ⟨o, hm, r⟩
  · exact ⟨o, k _ _ e, r⟩
  · exact ⟨o, (N _ hm).1, r⟩
section
variable {prog : Program} {w : World} {A : Around} {E : Value → Shared → Prop} {s : Shared} {h₀ : Heap} {L : Addr} {m : Str → Option Value} {env : Env}
def CompTu (prog : Program) (w : World) (A : Around) (h₀ : Heap) (L : Addr) (m : Str → Option Value) (env : Env) (elt : Expr) (x : Str) (scope : Scope) (cl : List (Str × Addr)) (Fin : Shared → List Value → List (Addr × Obj) → Prop) (xv : Value) (s₁ : Shared) : Prop :=
  ∃ ax its news, xv = .ref ax ∧ A.handled = none ∧ Fr h₀ L s₁.heap m ∧ News h₀ L s₁.heap news ∧ TupSrc h₀ ax its news ∧ its.size ≤ sizeLine ∧
    ∀ s₂ : Shared, (∃ h, s₂ = { s₁ with heap := h }) → LCg.CompRest prog w A h₀ L m env elt x scope cl s₂ (TupSrc h₀ ax its) (fun i v => its[i]? = some v) (Fin s₂) its.size 0 [] news
theorem CompTu.made {elt : Expr} {x : Str} {scope : Scope} {cl : List (Str × Addr)} {Fin : Shared → List Value → List (Addr × Obj) → Prop} {ax : Addr} {its : Array Value} {k : Nat} {news : List (Addr × Obj)} {s₁ : Shared}
    (hh : A.handled = none) (F : Fr h₀ L s₁.heap m) (N : News h₀ L s₁.heap news) (hm : (ax, ({ cls := .type "tuple", data := .seq its k } : Obj)) ∈ news) (hsz : its.size ≤ sizeLine)
    (h : ∀ g, LCg.CompRest prog w A h₀ L m env elt x scope cl { s₁ with heap := g } (TupSrc h₀ ax its) (fun i v => its[i]? = some v) (Fin { s₁ with heap := g }) its.size 0 [] news) :
    CompTu prog w A h₀ L m env elt x scope cl Fin (.ref ax) s₁ := ⟨ax, its, news, rfl, hh, F, N, .inr ⟨_, hm, rfl, _, rfl⟩, hsz, fun _ ⟨g, e⟩ => e ▸ h g⟩
theorem tuple_st {ax I : Addr} {its : Array Value} (i : Nat) (h h' : Heap) (o : Obj) (nw : List (Addr × Obj)) (st : h.IsTupleIter I ax i ∧ h.IsTuple ax its) (e : h.get? I = some o) (e' : h'.get? I = some o) (k : ∀ b o, h₀.get? b = some o → h'.get? b = some o) (N : News h₀ L h' nw) (S : TupSrc h₀ ax its nw) : h'.IsTupleIter I ax i ∧ h'.IsTuple ax its := by
  obtain ⟨o', q, r⟩ := st.1
  rw [e] at q
  cases q
  exact ⟨⟨o, e', r⟩, S.tup k N⟩
theorem listComp_tuple {elt iter : Expr} {x : Str} {px : Pos} {scope : Scope} {cl : List (Str × Addr)} {pos : Pos} {Q : Value → Shared → Prop} (F₀ : Fr h₀ L s.heap m)
    (hclos : closureFor scope env = pure cl) (hcell : ∀ y ∈ scope.names, y.2 ≠ .cell) (hkind : scope.kind = .function)
    (hnames : ∀ y ∈ scope.names, y.2 = .local → scope.names.lookup y.1 = some .local) (hx : scope.names.lookup x = some .local)
    (h : wpAny (model prog w) A (eval iter env) (CompTu prog w A h₀ L m env elt x scope cl (fun s₂ => LCg.FinE h₀ L m s₂ Q)) E s)
    (hs : ∀ x, foldedSetIterable iter env x = pure x := by intro _; rfl) :
    wpAny (model prog w) A (eval (.ListComp elt [⟨.Name x px, iter, [], 0⟩] scope pos) env) Q E s := by
  rw [eval_ListComp]
  refine wpAny_comprehension_free (use := none) rfl hs hclos hkind hnames (wpAny_mono h (fun xv s₁ h₁ => ?_) fun _ _ e => e)
  obtain ⟨ax, its, news, rfl, hh, F, N, S, hsz, R⟩ := h₁
  have ht := S.tup F.keep N
  have hlt : ax < s₁.heap.objs.size := let ⟨_, e, _⟩ := ht; Heap.lt_size e
  refine wpAny_pyIter_tuple ht ?_
  have up : ∀ b o, s₁.heap.get? b = some o → (s₁.heap.push { cls := .type "tuple_iterator", data := .fields #[.ref ax, .int 0 0] }).get? b = some o := fun b o e => Heap.get?_push_of_some _ e
  refine LCg.block_U (Walks.tuple hh s₁.heap.objs.size ax (Nat.ne_of_lt hlt) its) hsz (fun i h st => let ⟨o, e, _⟩ := st.1; ⟨o, e⟩) tuple_st hcell hkind hx ⟨⟨_, Heap.get?_push_size _ rfl, rfl, rfl⟩, ?_⟩ (fun b hb => ?_)
    (F.keeps up) (N.grown up) (Nat.ne_of_lt F.ns.lt) (next_is_new F) (fun p hp => Nat.ne_of_lt (Heap.lt_size (N p hp).1)) S (R _ ⟨_, rfl⟩) ?_
  · obtain ⟨o, e, r⟩ := ht
    exact ⟨o, up _ _ e, r⟩
  · rw [Heap.size_push]
    rcases List.mem_cons.mp hb with rfl | hb
    · exact Nat.lt_succ_self _
    · rw [List.mem_singleton.mp hb]; exact Nat.lt_succ_of_lt hlt
  · intro D C h tk m' ys news' F' N' o1 hn hC₀ hD₀ hCL hDL hCD offC fin
    refine ⟨m', hn, fun h'' hs'' => fin D h'' tk (F'.change hs'' hCL hC₀) (fun p hp => ⟨hs''.extBut _ _ ?_ (N' p hp).1, (N' p hp).2⟩) o1⟩
    rcases List.mem_cons.mp hp with rfl | hp
    · exact Ne.symm hCD
    · exact offC p hp
end
theorem call_clsE {prog : Program} {w : World} {A : Around} {E : Value → Shared → Prop} {s : Shared} {K : Frag} {C L : Addr} {h₀ : Heap} {m : Str → Option Value} {news : List (Addr × Obj)} {Q : Value → Shared → Prop} {pos : List Value} {kw : List (Str × Value)} {fI : Addr}
    (F : Fr h₀ L s.heap m) (X₀ : K.In h₀) (N : News h₀ L s.heap news) (hm : makesIn K C = true) (hi : findIn K (.ref C) "__init__" = some (some (.ref fI))) (hf : isFn K (.ref fI) = true)
    (h : ∀ x dx h', Fr h₀ L h' m → News h₀ L h' ((x, instObj C dx) :: (dx, dictOf [] 0) :: news) → (∀ p ∈ news, p.1 < dx) → dx < x → InElt s.heap h' → s.heap.get? x = none → s.heap.get? dx = none →
      codeAny (model prog w) (A.under (.builtin "type.__call__" ⟨.ref C :: pos, kw⟩)) (.call (.ref fI) ⟨.ref x :: pos, kw⟩) (InitBack x fun r s' => match r with | .ok (.ret v) => Q v s' | .ok _ => False | .error e => E e s') { s with heap := h' }) :
    wpAny (model prog w) A (call (.ref C) pos kw) Q E s := by
  have X := X₀.keeps F.keep
  have e1 : typeIn K (.ref fI) = some (.type "function") := beq_iff_eq.mp hf
  obtain ⟨hh, g, d, t, os⟩ := s
  refine wpAny_call (make_core (makes_of X hm) (looks_findIn X hi) (fun self => bind_fn X self e1) (.inl rfl)
    (h _ hh.objs.size _ ((F.push _).push _) ?_ (fun p hp => Heap.lt_size (N p hp).1) (Nat.lt_succ_self _) (fun b o e => Heap.get?_push_of_some _ (Heap.get?_push_of_some _ e)) (Heap.get?_none_of_le (Nat.le_succ _)) (Heap.get?_none_of_le (Nat.le_refl _))))
  have := (N.push F emptyDict).push (F.push _) (instObj C hh.objs.size)
  rwa [Heap.size_push] at this
theorem elt_afterC {s₂ H g H' h₀ : Heap} {L L' : Addr} {m' : Str → Option Value} {news news' : List (Addr × Obj)} (E : InElt s₂ H) (G : GSub H g (news.map (·.1))) (N : News h₀ L H news) (F' : Fr g L' H' m') (N' : News g L' H' news')
    (hs : ∀ p ∈ news, p ∈ news' ∨ s₂.get? p.1 = none) : InElt s₂ H' := fun b o e => by
  have e1 := E b o e
  by_cases hb : b ∈ news.map (·.1)
  · obtain ⟨p, hp, rfl⟩ := List.mem_map.mp hb
    have h1 := (N p hp).1
    rw [e1] at h1
    cases h1
    rcases hs p hp with h | h
    · exact (N' p h).1
    · rw [h] at e; cases e
  · exact F'.keep b o (G b o e1 hb)

abbrev tupO (vs : List Value) : Obj := { cls := .type "tuple", data := .seq vs.toArray }
abbrev formD (w : World) (a1 a2 a3 a4 a5 a6 a7 a8 a9 a0 : Tok) (nm : Str) (tn : Tok) (kt : Addr) (op : Int) (to : Tok) (es : Int) (te : Tok) (dg : Int) (td : Tok) (sz : Int) (ts tm tx : Tok) (pt : Addr) : Obj :=
  dictOf [ent w "name" a1 (.str nm tn), ent w "kinds" a2 (.ref kt), ent w "opcode" a3 (.int op to), ent w "escape" a4 (.int es te), ent w "digit" a5 (.int dg td), ent w "size" a6 (.int sz ts), ent w "must" a7 (.int 0 tm), ent w "is_wide" a8 (.bool false), ent w "number" a9 (.int (-1) tx), ent w "places" a0 (.ref pt)] 10
theorem row43 : True := by
  k_with "call ref" => ((k_here; k_inElt; (with_reducible show wpAny _ _ (call (Value.ref 257) _) _ _ _); k_dflt (refine' call_clsE ?k1 ?k2 ?k3 ?k4 ?k5 ?k6 ?_; (case k1 => k_asm); (case k2 => k_asm); (case k3 => k_asm); (case k4 => k_is); (case k5 => k_is); (case k6 => k_is); k_whole; intro x' d' h' F' N' l1 l2 cE1 cX1 cX2; (try k_lt l1); (try k_lt2 l2); k_enter)))
  trivial
theorem row44 : True := by
  k_with "eval ListComp" => ((k_here; (with_reducible show wpAny _ _ (eval (Expr.ListComp (Expr.Call (Expr.Name (Str.ofString "slot_of") _) _ _ _) _ _ _) _) _ _ _); lcg_look; k_dflt (refine listComp_tuple (F₀ := by k_asm) (by rfl) (by decide) (by rfl) (by decide) (by rfl) ?_)))
  trivial
theorem row45 : True := by
  k_with "Mine k_ne" => (guard_hyp scForm : True; first | exact neA0 (by assumption) | exact neB0 (by assumption) | exact neC0 (by assumption) | exact neA1 (by assumption) | exact neB1 (by assumption) | exact neC1 (by assumption) | exact neA2 (by assumption) | exact neB2 (by assumption) | exact neC2 (by assumption) | exact neM0 (by assumption) | exact neM1 (by assumption) | exact neM2 (by assumption) | exact neM3 (by assumption) | exact neM4 (by assumption))
  trivial
theorem row46 : True := by
  k_with "CompTu" => ((k_here; k_dflt (refine CompTu.made (by rfl) (by k_asm) (by k_asm) (by k_mem) (by exact Nat.le_of_ble_eq_true rfl) ?_; intro g'; lcg_lit)))
  trivial
set_option maxRecDepth 100000 in
set_option maxHeartbeats 0 in
theorem form_c
  {w : World} {p : Program} {loose : List Str} {mean : ExcName → Option Value} {mg mb : Str → Option Value}
  {dp un : Nat} {gd : Option (List Code)} {cn : Str} {nms : List (Str × NameKind)} {isg isc : Bool} {scm : List (Str × Const)} {a : Addr} {ccd : Value} {cl : List (Str × Addr)} {outer : List Env} {A₀ : Around} {base h₀ : Heap} {L : Addr} {m : Str → Option Value} {s : Shared} {Q E : Value → Shared → Prop}
  {nm k1 k2 : Str} {tn t1 t2 to te td ts : Tok} {op es dg sz : Int} {kt rl : Addr} {ro : Obj} (B : Below A₀ base outer h₀) (F : Fr h₀ L s.heap m) (X : (kk.heap_1 w.params).In h₀) (N : News h₀ L s.heap [(kt, tupO [.str k1 t1, .str k2 t2]), (rl, ro)]) (T : Top p loose mean mg mb h₀)
    (hd : dp + 32 < 1000) (hu : un + 190 < 9900) (hl1 : k1.length ≤ 100) (hl2 : k2.length ≤ 100)
    (ret : ∀ (a1 a2 a3 a4 a5 a6 a7 a8 a9 a0 tm tx u1 u2 : Tok) (f d pt : Addr) (g1 : rl < f) (g2 : rl < d) (g3 : rl < pt) (h' : Heap) (tk' : Nat), let mo0 : Obj := instObj 257 d; let mo1 : Obj := formD w a1 a2 a3 a4 a5 a6 a7 a8 a9 a0 nm tn kt op to es te dg td sz ts tm tx pt; let mo2 : Obj := tupO [.str (slotOf k1) u1, .str (slotOf k2) u2]; Fr h₀ L h' m → InElt s.heap h' → News h₀ L h' [(f, mo0), (d, mo1), (pt, mo2)] → Q (.ref f) { s with heap := h', toks := tk' }) :
    wpAny (model Challenge.rw_nz0171_01.row.prog w) (ktrTop dp un gd cn ⟨.function, nms, isg, isc, scm⟩ L a ccd cl outer) (call (.ref 257) [.str nm tn, .ref kt, .int op to, .int es te, .int dg td, .int sz ts]) Q E s := by
  let no0 : Obj := tupO [.str k1 t1, .str k2 t2]
  replace N : News h₀ L s.heap [(kt, no0), (rl, ro)] := N
  have scForm : True := trivial
  w_on; revert X; k_fill; intro X; have cE0 := InElt.start s.heap; k_steps
  all_goals (refine' ret _ _ _ _ _ _ _ _ _ _ _ _ _ _ _ _ _ ?f1 ?f2 ?f3 _ _ ?cF ?cE ?cN; (case cF => assumption); (case cN => (first | assumption | (refine' cb_drop ?cbN ?cbS; (case cbN => assumption); (case cbS => kcj_all)))); (case f1 => (first | exact ltP0 (by assumption) | exact ltP1 (by assumption) | exact ltP2 (by assumption) | exact ltP3 (by assumption) | exact ltP4 (by assumption) | exact ltP5 (by assumption) | exact ltT0 (by assumption) (by assumption) | exact ltT1 (by assumption) (by assumption) | exact ltT2 (by assumption) (by assumption) | exact ltT3 (by assumption) (by assumption) | (refine ltN ?_; (try dsimp only); omega))); (case f2 => (first | exact ltP0 (by assumption) | exact ltP1 (by assumption) | exact ltP2 (by assumption) | exact ltP3 (by assumption) | exact ltP4 (by assumption) | exact ltP5 (by assumption) | exact ltT0 (by assumption) (by assumption) | exact ltT1 (by assumption) (by assumption) | exact ltT2 (by assumption) (by assumption) | exact ltT3 (by assumption) (by assumption) | (refine ltN ?_; (try dsimp only); omega))); (case f3 => (first | exact ltP0 (by assumption) | exact ltP1 (by assumption) | exact ltP2 (by assumption) | exact ltP3 (by assumption) | exact ltP4 (by assumption) | exact ltP5 (by assumption) | exact ltT0 (by assumption) (by assumption) | exact ltT1 (by assumption) (by assumption) | exact ltT2 (by assumption) (by assumption) | exact ltT3 (by assumption) (by assumption) | (refine ltN ?_; (try dsimp only); omega))); (case cE => (refine' elt_afterC ?e1 ?e2 ?e3 ?e4 ?e5 ?e6; (case e2 => assumption); (case e1 => assumption); (case e3 => assumption); (case e4 => assumption); (case e5 => assumption); (case e6 => repeat (first | exact List.forall_mem_nil _ | refine List.forall_mem_cons.mpr ⟨(by first | exact Or.inr (by with_reducible assumption) | exact Or.inl (by k_mem)), ?_⟩)))))

theorem row47 : True := by
  k_with "call ref" => ((with_reducible show wpAny _ _ (call (Value.ref 257) _) _ _ _); k_dflt (refine' form_c ?k1 ?k2 ?k3 (cb_drop ?k4 ?k9) ?k5 ?k7 ?k8 ?h0 ?h1 ?_; (case k1 => k_asm); (case k2 => k_asm); (case k3 => k_asm); (case k4 => k_asm); (case k5 => k_asm); (case k9 => repeat (first | exact subNil | refine subCons (by k_mem) ?_)); (case k7 => (first | exact roomA hd rfl | exact roomB hd rfl | ((try simp only [depth_mark, depth_under_make, depth_under_kw, depth_in1, depth_deeper, depth_caller]); (try dsimp only [ktrTop]); omega))); (case k8 => (first | exact unitA hu rfl | ((try simp only [units_under_make, units_in1, units_deeper, Around.mark_units, units_caller]); (try dsimp only [ktrTop]); omega))); (case h0 => first | assumption | decide | exact len3 hz9 (by assumption)); (case h1 => first | assumption | decide | exact len3 hz9 (by assumption)); k_whole); intro a1 a2 a3 a4 a5 a6 a7 a8 a9 a0 tm tx u1 u2 f9 d9 p9 g19 g29 g39 h9 tk9 mo09 mo19 mo29 F9 E9 N9; (try k_lt2 g19); (try k_lt2 g29); (try k_lt2 g39); (k_dflt (replace N9 := newsApp N9 E9 (by k_asm))); clear E9; (try dsimp only [List.nil_append, List.cons_append, List.append_nil] at N9); (try simp only [List.append_nil] at N9); (try dsimp only); (try k_fold); (try k_sweep); walk_say "CONTRACT form_c")
  trivial
section
variable {prog : Program} {w : World} {A : Around} {E : Value → Shared → Prop} {s : Shared}
theorem nextTup_item {it t : Addr} {i : Nat} {items} {x : Value} {Q : Value → Shared → Prop} (hit : s.heap.IsTupleIter it t i) (ht : s.heap.IsTuple t items) (hx : items[i]? = some x)
    (hQ : ∀ h', h'.IsTupleIter it t (i + 1) → Heap.SameBut it s.heap h' → Q x { s with heap := h' }) : wpAny (model prog w) A (Builtin.SmallTypes.nextOf (.ref it)) Q E s := by
  obtain ⟨o, ho, hc, hd⟩ := id hit
  obtain ⟨ol, hol, _, nl, hdl⟩ := ht
  unfold Builtin.SmallTypes.nextOf
  refine wpAny_bind (wpAny_callSpecial?_slot (name := Str.ofString "__next__") hit.typeIs F.slot_tuple_iterator_next
    (wpAny_call_entry F.slot_tuple_iterator_next hit.typeIs F.entry_tuple_iterator_next ?_ (F.args_tuple_iterator_next_1 _)))
  show wpAny _ _ (field (.ref it) 0 >>= _) _ _ s
  refine wpAny_bind (wpAny_field ho hd (x := .ref t) rfl ?_)
  show wpAny _ _ (if (Value.ref t == Value.none) = true then _ else _) _ _ s
  rw [if_neg (show ¬ ((Value.ref t == Value.none) = true) from Bool.false_ne_true)]
  show wpAny _ _ (field (.ref it) 1 >>= _) _ _ s
  refine wpAny_bind (wpAny_field ho hd (x := .int i 0) rfl ?_)
  show wpAny _ _ (seqItems? (.ref t) >>= _) _ _ s
  refine wpAny_bind (wpAny_seqItems hol hdl ?_)
  simp only [Int.toNat_natCast, hx]
  refine wpAny_bind (wpAny_setField ho hd (by simp) (wpAny_pure ⟨x, rfl, wpAny_pure (hQ _ ?_ (Heap.SameBut.update ..))⟩))
  exact ⟨_, Heap.get?_update_self _ ho (Obj.isFreed_of_fields (Obj.data_mapFields hd _)), (Obj.cls_mapFields ..).trans hc, by
    rw [Obj.data_mapFields hd]; simp [rawInt]⟩
theorem nextTup_end {it t : Addr} {i : Nat} {items} {Q : Value → Shared → Prop} (hh : A.handled = none) (hit : s.heap.IsTupleIter it t i) (ht : s.heap.IsTuple t items) (hx : items[i]? = none)
    (hE : ∀ h' e, Heap.ExtBut it s.heap h' → (∃ o, h'.get? e = some o ∧ o.cls = .type "StopIteration") → E (.ref e) { s with heap := h' }) : wpAny (model prog w) A (Builtin.SmallTypes.nextOf (.ref it)) Q E s := by
  obtain ⟨o, ho, hc, hd⟩ := id hit
  obtain ⟨ol, hol, _, nl, hdl⟩ := ht
  unfold Builtin.SmallTypes.nextOf
  refine wpAny_bind (wpAny_callSpecial?_slot (name := Str.ofString "__next__") hit.typeIs F.slot_tuple_iterator_next
    (wpAny_call_entry F.slot_tuple_iterator_next hit.typeIs F.entry_tuple_iterator_next ?_ (F.args_tuple_iterator_next_1 _)))
  show wpAny _ _ (field (.ref it) 0 >>= _) _ _ s
  refine wpAny_bind (wpAny_field ho hd (x := .ref t) rfl ?_)
  show wpAny _ _ (if (Value.ref t == Value.none) = true then _ else _) _ _ s
  rw [if_neg (show ¬ ((Value.ref t == Value.none) = true) from Bool.false_ne_true)]
  show wpAny _ _ (field (.ref it) 1 >>= _) _ _ s
  refine wpAny_bind (wpAny_field ho hd (x := .int i 0) rfl ?_)
  show wpAny _ _ (seqItems? (.ref t) >>= _) _ _ s
  refine wpAny_bind (wpAny_seqItems hol hdl ?_)
  simp only [Int.toNat_natCast, hx]
  refine wpAny_bind (wpAny_rule (wpAny_bind (wpAny_setField ho hd (by simp) ?_)))
  show wpAny _ _ (newExc (.type "StopIteration") [] >>= _) _ _ _
  refine wpAny_bind ?_
  simp only [newExc, newTuple]
  refine wpAny_bind (wpAny_newObj_type ?_ (by size_fits))
  refine wpAny_bind (m := firstArgMember _ _) (wpAny_of_eq (a := Value.none) (by first | rfl | (simp only [firstArgMember]; rfl)) ?_)
  refine wpAny_newObj_type ?_ (by size_fits)
  simp only [raiseNew]
  refine wpAny_bind (wpAny_handled ?_)
  first | rw [show A.in1.handled = none from hh] | rw [hh]
  refine wpAny_bind (wpAny_pure (wpAny_throw ?_))
  exact hE _ _ (((Heap.SameBut.update ..).extBut.push _).push _) ⟨_, Heap.get?_push_size _ rfl, rfl⟩
theorem drawsTup (hh : A.handled = none) (it l : Addr) (hne : l ≠ it) (items : Array Value) :
    Draws prog w A it [it, l] items.size (fun i v => items[i]? = some v) (fun i h => h.IsTupleIter it l i ∧ h.IsTuple l items) where
  live := fun _ _ st => let ⟨o, ho, _⟩ := st.1; ⟨o, ho⟩
  frame := fun _ _ _ st hk => ⟨st.1.at fun o e => hk it (by simp) o e, st.2.at fun o e => hk l (by simp) o e⟩
  item := fun i s Q E hi st hQ => by
    refine nextTup_item st.1 st.2 (x := items[i]) (by simp [hi]) fun h' hit' hs' => ?_
    exact hQ _ h' s.toks (by simp [hi]) ⟨hit', st.2.extBut hs'.extBut hne⟩ hs'
  done := fun s Q E st hE => nextTup_end hh st.1 st.2 (by simp) hE
/-- where a zip of two sources lies: its own objects stand apart from what the sources read -/
structure Apart (z TI TO i1 i2 : Addr) (f1 f2 : List Addr) : Prop where
  m1 : i1 ∈ f1
  m2 : i2 ∈ f2
  z1 : z ∉ f1
  z2 : z ∉ f2
  o1 : TO ∉ f1
  o2 : TO ∉ f2
  t1 : TI ∉ f1
  t2 : TI ∉ f2
  x1 : i1 ∉ f2
  x2 : i2 ∉ f1
  tz : TI ≠ z
  oz : TO ≠ z
  to : TI ≠ TO
theorem ne_of_mem {a b : Addr} {f : List Addr} (h : a ∈ f) (h' : b ∉ f) : a ≠ b := fun e => h' (e ▸ h)
section
variable {n1 n2 k : Nat} {z TI TO i1 i2 : Addr} {f1 f2 : List Addr} {P1 P2 : Nat → Value → Prop} {S1 S2 : Nat → Heap → Prop} {a b : Value}
/-- the heap ahead of a zip's draw, and behind it -/
def ZipAt (z TI TO i1 i2 : Addr) (S1 S2 : Nat → Heap → Prop) (v : Value) (k : Nat) (h : Heap) : Prop :=
  IsZip h z TI TO v ∧ IsPair h TI (.ref i1) (.ref i2) ∧ (∃ a b, IsPair h TO a b) ∧ S1 k h ∧ S2 k h
theorem zipD_new {Q : Value → Shared → Prop} (D1 : Draws prog w A i1 f1 n1 P1 S1) (D2 : Draws prog w A i2 f2 n2 P2 S2) (X : Apart z TI TO i1 i2 f1 f2) (hz : ZipAt z TI TO i1 i2 S1 S2 .none k s.heap) (l1 : k < n1) (l2 : k < n2)
    (hQ : ∀ x y h' tk, P1 k x → P2 k y → ZipAt z TI TO i1 i2 S1 S2 (rawInt s.heap.objs.size) (k + 1) h' → IsPair h' s.heap.objs.size x y → (∀ c o, c ≠ z → c ≠ TO → c ≠ i1 → c ≠ i2 → s.heap.get? c = some o → h'.get? c = some o) →
      Q (.ref s.heap.objs.size) { s with heap := h', toks := tk }) :
    wpAny (model prog w) A (Builtin.«zip.__next__» ⟨[.ref z], []⟩) (fun fin s' => ∃ v, fin = .done (.ret v) ∧ Q v s') E s := by
  obtain ⟨gz, gi, ⟨a, b, go⟩, s1, s2⟩ := hz
  have q1 := ne_of_mem X.m1 X.z1
  have q2 := ne_of_mem X.m2 X.z2
  have q3 := ne_of_mem X.m1 X.o1
  have q4 := ne_of_mem X.m2 X.o2
  have q5 : i1 ≠ i2 := ne_of_mem X.m1 X.x2
  have q6 := ne_of_mem X.m1 X.t1
  have q7 := ne_of_mem X.m2 X.t2
  show wpAny _ _ (field (.ref z) 2 >>= _) _ _ _
  refine wpAny_bind (wpAny_field gz rfl (x := .bool false) rfl ?_)
  show wpAny _ _ (field (.ref z) 3 >>= _) _ _ _
  refine wpAny_bind (wpAny_field gz rfl (x := .ref TI) rfl ?_)
  refine wpAny_bind (wpAny_seqItems gi rfl ?_)
  show wpAny _ _ (Builtin.SmallTypes.ownedTupleIsFree (.ref z) >>= _) _ _ _
  refine wpAny_bind ?_
  unfold Builtin.SmallTypes.ownedTupleIsFree
  refine wpAny_bind (wpAny_field gz rfl (x := .none) rfl (wpAny_pure ?_))
  simp only [if_true]
  refine wpAny_bind (wpAny_rule ?_)
  refine wpAny_bind (wpAny_field gz rfl (x := .ref TO) rfl ?_)
  refine wpAny_bind (wpAny_setField_rec gz (by simp) fun g1 gz1 e1 => ?_)
  replace gz1 : IsZip g1 z TI TO .ellipsis := gz1
  refine wpAny_bind ?_
  simp only [List.zipIdx_cons, List.zipIdx_nil, List.forIn_cons, List.forIn_nil]
  refine wpAny_bind (wpAny_bind (wpAny_onRaise ?_))
  show wpAny _ _ (Builtin.SmallTypes.nextOf (.ref i1) >>= _) _ _ _
  refine wpAny_bind (D1.item k _ _ _ l1 (D1.frame _ _ _ s1 fun c hc o e => e1.extBut c o (ne_of_mem hc X.z1) e) fun x g2 tk2 p1 s1' e2 => wpAny_pure ?_)
  have go2 : IsPair g2 TO a b := e2.extBut _ _ q3.symm (e1.extBut _ _ X.oz go)
  refine wpAny_bind (wpAny_seqItems go2 rfl ?_)
  refine wpAny_bind (wpAny_updateSeq_pair go2 fun g3 go3 e3 => ?_)
  replace go3 : IsPair g3 TO x b := go3
  refine wpAny_bind (wpAny_letGo (wpAny_pure ?_))
  refine wpAny_bind (wpAny_bind (wpAny_onRaise ?_))
  show wpAny _ _ (Builtin.SmallTypes.nextOf (.ref i2) >>= _) _ _ _
  refine wpAny_bind (D2.item k _ _ _ l2 (D2.frame _ _ _ s2 fun c hc o e => e3.extBut c o (ne_of_mem hc X.o2) (e2.extBut c o (ne_of_mem hc X.x1) (e1.extBut c o (ne_of_mem hc X.z2) e))) fun y g4 tk4 p2 s2' e4 => wpAny_pure ?_)
  have go4 : IsPair g4 TO x b := e4.extBut _ _ q4.symm go3
  refine wpAny_bind (wpAny_seqItems go4 rfl ?_)
  refine wpAny_bind (wpAny_updateSeq_pair go4 fun g5 go5 e5 => ?_)
  replace go5 : IsPair g5 TO x y := go5
  refine wpAny_bind (wpAny_letGo (wpAny_pure (wpAny_pure ?_)))
  refine wpAny_bind (wpAny_seqItems go5 rfl ?_)
  refine wpAny_bind (wpAny_newTuple ?_)
  have hsz : g5.objs.size = s.heap.objs.size := by rw [e5.1, e4.1, e3.1, e2.1, e1.1]
  have gz5 : IsZip g5 z TI TO .ellipsis := e5.extBut _ _ X.oz.symm (e4.extBut _ _ q2.symm (e3.extBut _ _ X.oz.symm (e2.extBut _ _ q1.symm gz1)))
  have kp : ∀ c o, c ≠ z → c ≠ TO → c ≠ i1 → c ≠ i2 → s.heap.get? c = some o → g5.get? c = some o := fun c o c1 c2 c3 c4 e =>
    e5.extBut _ _ c2 (e4.extBut _ _ c4 (e3.extBut _ _ c2 (e2.extBut _ _ c3 (e1.extBut _ _ c1 e))))
  have hlt : z < g5.objs.size := Heap.lt_size gz5
  show wpAny _ _ (Builtin.SmallTypes.ownedTupleHandOut (.ref z) (.ref g5.objs.size) >>= _) _ _ _
  refine wpAny_bind ?_
  unfold Builtin.SmallTypes.ownedTupleHandOut
  have gz6 : IsZip (g5.push { cls := .type "tuple", data := .seq #[x, y] }) z TI TO .ellipsis := Heap.get?_push_of_some _ gz5
  refine wpAny_bind (wpAny_setField_rec gz6 (by simp) fun g7 gz7 e7 => ?_)
  replace gz7 : IsZip g7 z TI TO (rawInt g5.objs.size) := gz7
  refine wpAny_setField_rec gz7 (by simp) fun g8 gz8 e8 => ?_
  replace gz8 : IsZip g8 z TI TO (rawInt g5.objs.size) := gz8
  have up : ∀ c o, c ≠ z → g5.get? c = some o → g8.get? c = some o := fun c o c1 e => e8.extBut _ _ c1 (e7.extBut _ _ c1 (Heap.get?_push_of_some _ e))
  have gT : IsPair g8 g5.objs.size x y := e8.extBut _ _ (Nat.ne_of_gt hlt) (e7.extBut _ _ (Nat.ne_of_gt hlt) (Heap.get?_push_size _ rfl))
  rw [hsz] at gz8 gT
  refine wpAny_pure ⟨_, rfl, ?_⟩
  show Q (.ref g5.objs.size) _
  rw [hsz]
  refine hQ x y g8 _ p1 p2 ⟨gz8, up _ _ X.tz (kp _ _ X.tz X.to q6.symm q7.symm gi), ⟨_, _, up _ _ X.oz go5⟩, D1.frame _ _ _ s1' fun c hc o e => up c o (ne_of_mem hc X.z1) (e5.extBut c o (ne_of_mem hc X.o1) (e4.extBut c o (ne_of_mem hc X.x2) (e3.extBut c o (ne_of_mem hc X.o1) e))), D2.frame _ _ _ s2' fun c hc o e => up c o (ne_of_mem hc X.z2) (e5.extBut c o (ne_of_mem hc X.o2) e)⟩ gT fun c o c1 c2 c3 c4 e => up c o c1 (kp c o c1 c2 c3 c4 e)
/-- both sources are through at once: the first raises -/
theorem zipD_stop {Q : PySem.Fin → Shared → Prop} (D1 : Draws prog w A i1 f1 n1 P1 S1) (D2 : Draws prog w A i2 f2 n2 P2 S2) (X : Apart z TI TO i1 i2 f1 f2) (hz : ZipAt z TI TO i1 i2 S1 S2 .none n1 s.heap)
    (hE : ∀ h' e, (∀ c o, c ≠ z → c ≠ TO → c ≠ i1 → c ≠ i2 → s.heap.get? c = some o → h'.get? c = some o) → (∃ o, h'.get? e = some o ∧ o.cls = .type "StopIteration") → E (.ref e) { s with heap := h' }) :
    wpAny (model prog w) A (Builtin.«zip.__next__» ⟨[.ref z], []⟩) Q E s := by
  obtain ⟨gz, gi, ⟨a, b, go⟩, s1, s2⟩ := hz
  have q1 := ne_of_mem X.m1 X.z1
  show wpAny _ _ (field (.ref z) 2 >>= _) _ _ _
  refine wpAny_bind (wpAny_field gz rfl (x := .bool false) rfl ?_)
  show wpAny _ _ (field (.ref z) 3 >>= _) _ _ _
  refine wpAny_bind (wpAny_field gz rfl (x := .ref TI) rfl ?_)
  refine wpAny_bind (wpAny_seqItems gi rfl ?_)
  show wpAny _ _ (Builtin.SmallTypes.ownedTupleIsFree (.ref z) >>= _) _ _ _
  refine wpAny_bind ?_
  unfold Builtin.SmallTypes.ownedTupleIsFree
  refine wpAny_bind (wpAny_field gz rfl (x := .none) rfl (wpAny_pure ?_))
  simp only [if_true]
  refine wpAny_bind (wpAny_rule ?_)
  refine wpAny_bind (wpAny_field gz rfl (x := .ref TO) rfl ?_)
  refine wpAny_bind (wpAny_setField_rec gz (by simp) fun g1 gz1 e1 => ?_)
  replace gz1 : IsZip g1 z TI TO .ellipsis := gz1
  refine wpAny_bind ?_
  simp only [List.zipIdx_cons, List.zipIdx_nil, List.forIn_cons, List.forIn_nil]
  refine wpAny_bind (wpAny_bind (wpAny_onRaise ?_))
  show wpAny _ _ (Builtin.SmallTypes.nextOf (.ref i1) >>= _) _ _ _
  refine wpAny_bind (D1.done _ _ _ (D1.frame _ _ _ s1 fun c hc o e => e1.extBut c o (ne_of_mem hc X.z1) e) fun g2 e e2 he => ?_)
  obtain ⟨oe, hoe, hce⟩ := he
  have gz2 : IsZip g2 z TI TO .ellipsis := e2 _ _ q1.symm gz1
  have hez : e ≠ z := fun x => by subst x; rw [gz2] at hoe; cases hoe; simp at hce
  exact wpAny_setField_rec gz2 (by simp) fun g3 _ e3 => hE g3 e (fun c o c1 _ c3 _ x => e3.extBut _ _ c1 (e2 _ _ c3 (e1.extBut _ _ c1 x))) ⟨oe, e3.extBut _ _ hez hoe, hce⟩
end
/-- two sources of one length, drawn abreast -/
theorem zipD_walks {n : Nat} {z TI TO i1 i2 : Addr} {f1 f2 : List Addr} {P1 P2 : Nat → Value → Prop} {S1 S2 : Nat → Heap → Prop} (D1 : Draws prog w A.in1 i1 f1 n P1 S1) (D2 : Draws prog w A.in1 i2 f2 n P2 S2) (X : Apart z TI TO i1 i2 f1 f2) :
    WalksT prog w A z (z :: TI :: TO :: (f1 ++ f2)) [z, TO, i1, i2] n (fun i vals => ∃ x y, P1 i x ∧ P2 i y ∧ vals = #[x, y]) (ZipAt z TI TO i1 i2 S1 S2 .none)
      (fun i T h => ZipAt z TI TO i1 i2 S1 S2 (rawInt T) (i + 1) h ∧ T ≠ z ∧ T ≠ TO ∧ T ≠ i1 ∧ T ≠ i2) where
  sub := fun c hc => by
    simp only [List.mem_cons, List.not_mem_nil, or_false] at hc
    rcases hc with rfl | rfl | rfl | rfl <;> simp [X.m1, X.m2]
  frame := fun i h h' st hk => by
    obtain ⟨gz, gi, ⟨a, b, go⟩, s1, s2⟩ := st
    exact ⟨hk z (by simp) _ gz, hk TI (by simp) _ gi, ⟨a, b, hk TO (by simp) _ go⟩, D1.frame _ _ _ s1 fun c hc o e => hk c (by simp [hc]) o e, D2.frame _ _ _ s2 fun c hc o e => hk c (by simp [hc]) o e⟩
  item := fun i s Q E hi st hQ => by
    have hT : s.TypeIs (.ref z) "zip" := ⟨_, st.1, rfl⟩
    have lt : ∀ {c o}, s.heap.get? c = some o → s.heap.objs.size ≠ c := fun e => Nat.ne_of_gt (Heap.lt_size e)
    unfold pyNext
    refine wpAny_bind (wpAny_attempt (wpAny_callSpecial?_slot (name := Str.ofString "__next__") hT F.slot_zip_next
      (wpAny_call_entry F.slot_zip_next hT F.entry_zip_next
        (zipD_new D1 D2 X st hi hi fun x y h' tk p1 p2 st' gT kp => wpAny_pure ?_) (F.args_zip_next_1 _))))
    refine hQ s.heap.objs.size #[x, y] h' tk ⟨x, y, p1, p2, rfl⟩ (Nat.le_refl _) ⟨_, gT, rfl, _, rfl⟩ ⟨st', lt st.1, ?_, ?_, ?_⟩ fun c o hc e => kp c o (fun q => hc (by simp [q])) (fun q => hc (by simp [q])) (fun q => hc (by simp [q])) (fun q => hc (by simp [q])) e
    · obtain ⟨_, _, ⟨a, b, go⟩, _, _⟩ := st; exact lt go
    · obtain ⟨_, e⟩ := D1.live _ _ st.2.2.2.1; exact lt e
    · obtain ⟨_, e⟩ := D2.live _ _ st.2.2.2.2; exact lt e
  go := fun elts k pos i T s Q E hm hQ => by
    obtain ⟨⟨gz, gi, ⟨a, b, go⟩, s1, s2⟩, _⟩ := hm
    refine wpAny_letOwnedTupleGo_zip gz fun h' gz' e => hQ h' ⟨gz', e.extBut _ _ X.tz gi, ⟨a, b, e.extBut _ _ X.oz go⟩, D1.frame _ _ _ s1 fun c hc o q => e.extBut c o (ne_of_mem hc X.z1) q, D2.frame _ _ _ s2 fun c hc o q => e.extBut c o (ne_of_mem hc X.z2) q⟩ fun c o hc q => e.extBut _ _ (fun x => hc (by simp [x])) q
  apart := fun i T h hm hT => by
    obtain ⟨_, t1, t2, t3, t4⟩ := hm
    simp only [List.mem_cons, List.not_mem_nil, or_false] at hT
    rcases hT with h | h | h | h
    · exact t1 h
    · exact t2 h
    · exact t3 h
    · exact t4 h
  done := fun s Q E st hQ => by
    have hT : s.TypeIs (.ref z) "zip" := ⟨_, st.1, rfl⟩
    unfold pyNext
    refine wpAny_bind (wpAny_attempt (wpAny_callSpecial?_slot (name := Str.ofString "__next__") hT F.slot_zip_next
      (wpAny_call_entry F.slot_zip_next hT F.entry_zip_next (zipD_stop D1 D2 X st fun h' e kp he => ?_) (F.args_zip_next_1 _))))
    obtain ⟨o, ho, hc⟩ := he
    refine wpAny_bind (wpAny_isInstance (T := "StopIteration") (b := true) ⟨o, ho, hc⟩ isSubtype_stop ?_)
    exact wpAny_pure (hQ h' s.toks fun c o hc e => kp c o (fun q => hc (by simp [q])) (fun q => hc (by simp [q])) (fun q => hc (by simp [q])) (fun q => hc (by simp [q])) e)
  self := fun i s Q E st hQ => wpAny_pyIter_zip st.1 hQ
/-- the call of zip with two tuples -/
theorem zipT_new (l1 l2 : Addr) (xs ys : Array Value) :
    Meets (Builtin.«zip.__new__» ⟨[.type "zip", .ref l1, .ref l2], []⟩) (fun _ R s => s.heap.IsTuple l1 xs ∧ s.heap.IsTuple l2 ys ∧
      ∀ h', h'.get? s.heap.objs.size = some { cls := .type "tuple_iterator", data := .fields #[.ref l1, .int 0 0] } → h'.get? (s.heap.objs.size + 1) = some { cls := .type "tuple_iterator", data := .fields #[.ref l2, .int 0 0] } →
        IsPair h' (s.heap.objs.size + 2) (.ref s.heap.objs.size) (.ref (s.heap.objs.size + 1)) → IsPair h' (s.heap.objs.size + 3) .none .none → IsZip h' (s.heap.objs.size + 4) (s.heap.objs.size + 2) (s.heap.objs.size + 3) .none →
        (∀ c o, s.heap.get? c = some o → h'.get? c = some o) → R (.ok (.ret (.ref (s.heap.objs.size + 4)))) { s with heap := h' }) :=
  .of_wp fun prog w A R s h => by
    obtain ⟨hp, g, d, tk, os⟩ := s; obtain ⟨hl1, hl2, h⟩ := h
    have hsub := sub_zip
    have hA : Heap.IsTuple (Shared.heap ⟨hp, g, d, tk, os⟩) l1 xs := hl1
    have hB : Heap.IsTuple (Shared.heap ⟨hp.push { cls := .type "tuple_iterator", data := .fields #[.ref l1, .int 0 0] }, g, d, tk, os⟩) l2 ys := Heap.IsTuple.push hl2 _
    wp_walk using wpAny_pyIter_tuple hA, wpAny_pyIter_tuple hB
    refine ⟨_, rfl, ?_⟩
    have p1 : ∀ (q : Heap) (o : Obj), (q.push o).objs.size = q.objs.size + 1 := fun q o => Heap.size_push ..
    have up : ∀ {q : Heap} {o o' : Obj} {c : Addr}, q.get? c = some o → (q.push o').get? c = some o := fun e => Heap.get?_push_of_some _ e
    have nw : ∀ {q : Heap} {o : Obj} {n : Nat}, q.objs.size = n → o.isFreed = false → (q.push o).get? n = some o := fun e f => e ▸ Heap.get?_push_size _ f
    simp only [p1]
    refine h _ (up (up (up (up (nw rfl rfl))))) (up (up (up (nw (p1 _ _) rfl)))) (up (up (nw (by simp only [p1]) rfl))) (up (nw (by simp only [p1]) rfl)) (nw (by simp only [p1]) rfl) fun c o e => up (up (up (up (up e))))
theorem zipT_call {l1 l2 : Addr} {xs ys : Array Value} {Q : Value → Shared → Prop} (hl1 : s.heap.IsTuple l1 xs) (hl2 : s.heap.IsTuple l2 ys)
    (h : ∀ h', h'.get? s.heap.objs.size = some { cls := .type "tuple_iterator", data := .fields #[.ref l1, .int 0 0] } → h'.get? (s.heap.objs.size + 1) = some { cls := .type "tuple_iterator", data := .fields #[.ref l2, .int 0 0] } →
        IsPair h' (s.heap.objs.size + 2) (.ref s.heap.objs.size) (.ref (s.heap.objs.size + 1)) → IsPair h' (s.heap.objs.size + 3) .none .none → IsZip h' (s.heap.objs.size + 4) (s.heap.objs.size + 2) (s.heap.objs.size + 3) .none →
        (∀ c o, s.heap.get? c = some o → h'.get? c = some o) → Q (.ref (s.heap.objs.size + 4)) { s with heap := h' }) :
    wpAny (model prog w) A (call (.type "zip") [.ref l1, .ref l2]) Q E s := by
  refine callType_new F.called_zip (by decide) (F.typeCall_zip_2 _ _) (F.newCall_zip_2 _ _) (fun obj => F.args_object_init_3 obj _ _) F.entry_zip_new
    (zipT_new l1 l2 xs ys) ⟨hl1, hl2, fun h' a b c d e f => ⟨⟨_, e, rfl⟩, h h' a b c d e f⟩⟩
/-- the call of enumerate with a tuple -/
theorem enumT_new (l : Addr) (xs : Array Value) :
    Meets (Builtin.«enumerate.__new__» ⟨[.type "enumerate", .ref l], []⟩) (fun _ R s => s.heap.IsTuple l xs ∧
      ∀ h', h'.get? s.heap.objs.size = some { cls := .type "tuple_iterator", data := .fields #[.ref l, .int 0 0] } → IsEnum h' (s.heap.objs.size + 1) s.heap.objs.size 0 .none →
        (∀ c o, s.heap.get? c = some o → h'.get? c = some o) → R (.ok (.ret (.ref (s.heap.objs.size + 1)))) { s with heap := h' }) :=
  .of_wp fun prog w A R s h => by
    obtain ⟨hp, g, d, tk, os⟩ := s; obtain ⟨hl, h⟩ := h
    have hsub := sub_enumerate
    have hA : Heap.IsTuple (Shared.heap ⟨hp, g, d, tk, os⟩) l xs := hl
    obtain ⟨⟨c, dct, dt, sl⟩, hg, hc, n, hd⟩ := hl
    replace hc : c = .type "tuple" := hc
    replace hd : dt = .seq xs n := hd
    subst hc hd
    have fin : R (.ok (.ret (.ref (hp.push { cls := .type "tuple_iterator", data := .fields #[.ref l, .int 0 0] }).objs.size))) ⟨(hp.push { cls := .type "tuple_iterator", data := .fields #[.ref l, .int 0 0] }).push { cls := .type "enumerate", data := .fields #[.none, .bool false, .ref hp.objs.size, rawInt 0, .none, .none] }, g, d, tk, os⟩ := by
      have p1 : ∀ (q : Heap) (o : Obj), (q.push o).objs.size = q.objs.size + 1 := fun q o => Heap.size_push ..
      rw [p1]
      have nw : ∀ {q : Heap} {o : Obj} {n : Nat}, q.objs.size = n → o.isFreed = false → (q.push o).get? n = some o := fun e f => e ▸ Heap.get?_push_size _ f
      exact h _ (Heap.get?_push_of_some _ (nw rfl rfl)) (nw (p1 _ _) rfl) fun c o e => Heap.get?_push_of_some _ (Heap.get?_push_of_some _ e)
    wp_walk using AutoSeq1.wpAny_loadPart' hg
    refine wpAny_stack_any fun st => wpAny_pure ?_
    split
    · rename_i c _ _ _ _ _
      cases (c == Value.type "enumerate")
      · wp_walk using AutoSeq1.wpAny_loadPart' hg, wpAny_pyIter_tuple hA
        exact ⟨_, rfl, fin⟩
      · wp_walk using AutoSeq1.wpAny_loadPart' hg, wpAny_pyIter_tuple hA
        exact ⟨_, rfl, fin⟩
    · wp_walk using AutoSeq1.wpAny_loadPart' hg, wpAny_pyIter_tuple hA
      exact ⟨_, rfl, fin⟩
theorem enumT_call {l : Addr} {xs : Array Value} {Q : Value → Shared → Prop} (hl : s.heap.IsTuple l xs)
    (h : ∀ h', h'.get? s.heap.objs.size = some { cls := .type "tuple_iterator", data := .fields #[.ref l, .int 0 0] } → IsEnum h' (s.heap.objs.size + 1) s.heap.objs.size 0 .none →
        (∀ c o, s.heap.get? c = some o → h'.get? c = some o) → Q (.ref (s.heap.objs.size + 1)) { s with heap := h' }) :
    wpAny (model prog w) A (call (.type "enumerate") [.ref l]) Q E s := by
  refine callType_new F.called_enumerate (by decide) (F.typeCall_enumerate_1 _) (F.newCall_enumerate_1 _) (fun obj => F.args_object_init_2 obj _) F.entry_enumerate_new
    (enumT_new l xs) ⟨hl, fun h' a b f => ⟨⟨_, b, rfl⟩, h h' a b f⟩⟩
end

structure FSpec where
  k1 : Str
  k2 : Str
  op : Int
  es : Int
  dg : Int
  sz : Int
/-- a form of mov lies in the ledger -/
def FormAt (w : World) (nw : List (Addr × Obj)) (f : Addr) (S : FSpec) : Prop :=
  ∃ (a1 a2 a3 a4 a5 a6 a7 a8 a9 a0 tn to te td ts tm tx t1 t2 u1 u2 : Tok) (d pt kt : Addr),
    (f, instObj 257 d) ∈ nw ∧ (d, formD w a1 a2 a3 a4 a5 a6 a7 a8 a9 a0 "mov" tn kt S.op to S.es te S.dg td S.sz ts tm tx pt) ∈ nw ∧
    (pt, tupO [.str (slotOf S.k1) u1, .str (slotOf S.k2) u2]) ∈ nw ∧ (kt, tupO [.str S.k1 t1, .str S.k2 t2]) ∈ nw
/-- a ledger of forms, with no list in it -/
structure Forms (w : World) (nw : List (Addr × Obj)) (fs : List (Addr × FSpec)) : Prop where
  nolist : ∀ p ∈ nw, p.2.cls ≠ .type "list" ∧ p.2.cls ≠ .type "tuple_iterator"
  all : ∀ x ∈ fs, FormAt w nw x.1 x.2
theorem clsInst {a d : Addr} : (instObj a d).cls ≠ .type "list" ∧ (instObj a d).cls ≠ .type "tuple_iterator" := ⟨(fun e => by cases e), (fun e => by cases e)⟩
theorem clsTup {l : List Value} : (tupO l).cls ≠ .type "list" ∧ (tupO l).cls ≠ .type "tuple_iterator" := ⟨(fun e => absurd (Value.type.inj e) (by decide)), (fun e => absurd (Value.type.inj e) (by decide))⟩
theorem clsDict {w : World} {a1 a2 a3 a4 a5 a6 a7 a8 a9 a0 : Tok} {n : Str} {tn : Tok} {kt : Addr} {op : Int} {to : Tok} {es : Int} {te : Tok} {dg : Int} {td : Tok} {sz : Int} {ts tm tx : Tok} {pt : Addr} : (formD w a1 a2 a3 a4 a5 a6 a7 a8 a9 a0 n tn kt op to es te dg td sz ts tm tx pt).cls ≠ .type "list" ∧ (formD w a1 a2 a3 a4 a5 a6 a7 a8 a9 a0 n tn kt op to es te dg td sz ts tm tx pt).cls ≠ .type "tuple_iterator" := ⟨(fun e => absurd (Value.type.inj e) (by decide)), (fun e => absurd (Value.type.inj e) (by decide))⟩
theorem FormAt.sub {w : World} {nw nw' : List (Addr × Obj)} {f : Addr} {S : FSpec} (h : FormAt w nw f S) (hs : ∀ p ∈ nw, p.2.cls ≠ .type "list" ∧ p.2.cls ≠ .type "tuple_iterator" → p ∈ nw') : FormAt w nw' f S := by
  obtain ⟨a1, a2, a3, a4, a5, a6, a7, a8, a9, a0, tn, to, te, td, ts, tm, tx, t1, t2, u1, u2, d, pt, kt, h1, h2, h3, h4⟩ := h
  exact ⟨a1, a2, a3, a4, a5, a6, a7, a8, a9, a0, tn, to, te, td, ts, tm, tx, t1, t2, u1, u2, d, pt, kt, hs _ h1 clsInst, hs _ h2 clsDict, hs _ h3 clsTup, hs _ h4 clsTup⟩
theorem noList_ne {w : World} {h₀ h : Heap} {L rl : Addr} {o : Obj} {nw big : List (Addr × Obj)} {fs : List (Addr × FSpec)} (A : Forms w nw fs) (N : News h₀ L h big) (hs : ∀ p ∈ nw, p ∈ big) (hr : (rl, o) ∈ big) (ho : o.cls = .type "list") : ∀ p ∈ nw, p.1 ≠ rl := fun p hp e => by
  have h1 := (N p (hs p hp)).1
  have h2 := (N _ hr).1
  rw [e, h2] at h1
  exact (A.nolist p hp).1 ((congrArg Obj.cls (Option.some.inj h1)).symm.trans ho)
open Classical in
noncomputable def filt (big : List (Addr × Obj)) : List (Addr × Obj) := big.filter fun p => decide (p.2.cls ≠ .type "list" ∧ p.2.cls ≠ .type "tuple_iterator")
theorem mem_filt {big : List (Addr × Obj)} {p : Addr × Obj} (h : p ∈ big) (e : p.2.cls ≠ .type "list" ∧ p.2.cls ≠ .type "tuple_iterator") : p ∈ filt big := List.mem_filter.mpr ⟨h, decide_eq_true e⟩
theorem packN {h₀ h : Heap} {L l : Addr} {o : Obj} {big : List (Addr × Obj)} (N : News h₀ L h big) (hm : (l, o) ∈ big) : News h₀ L h ((l, o) :: filt big) := fun p hp =>
  (List.mem_cons.mp hp).elim (fun e => e ▸ N _ hm) fun h => N p (List.mem_filter.mp h).1
theorem packA {w : World} {big : List (Addr × Obj)} {fs : List (Addr × FSpec)} (h : ∀ x ∈ fs, FormAt w big x.1 x.2) : Forms w (filt big) fs :=
  ⟨fun p hp => of_decide_eq_true (List.mem_filter.mp hp).2, fun x hx => (h x hx).sub fun p hp e => mem_filt hp e⟩
theorem forms0 {w : World} : Forms w [] [] := ⟨(fun _ h => nomatch h), (fun _ h => nomatch h)⟩
theorem newsJoin {w : World} {h₀ h h' : Heap} {L : Addr} {e : Addr × Obj} {xs nw nw' : List (Addr × Obj)} {fs fs' : List (Addr × FSpec)} (N' : News h₀ L h' (e :: nw')) (E : InElt h h') (N : News h₀ L h (xs ++ nw)) (A' : Forms w nw' fs') (A : Forms w nw fs) :
    ∃ k, Forms w k (fs' ++ fs) ∧ News h₀ L h' (e :: (xs ++ k)) :=
  ⟨nw' ++ nw, ⟨fun p hp => (List.mem_append.mp hp).elim (A'.nolist p) (A.nolist p), fun x hx => (List.mem_append.mp hx).elim (fun h => (A'.all x h).sub fun p hp _ => List.mem_append_left _ hp) fun h => (A.all x h).sub fun p hp _ => List.mem_append_right _ hp⟩,
   fun p hp => (List.mem_cons.mp hp).elim (fun e => e ▸ N' _ (List.mem_cons_self ..)) fun h => (List.mem_append.mp h).elim
     (fun h => ⟨E _ _ (N p (List.mem_append_left _ h)).1, (N p (List.mem_append_left _ h)).2⟩)
     fun h => (List.mem_append.mp h).elim (fun h => N' p (List.mem_cons_of_mem _ h)) fun h => ⟨E _ _ (N p (List.mem_append_right _ h)).1, (N p (List.mem_append_right _ h)).2⟩⟩
theorem form_w
  {w : World} {p : Program} {loose : List Str} {mean : ExcName → Option Value} {mg mb : Str → Option Value}
  {dp un : Nat} {gd : Option (List Code)} {cn : Str} {nms : List (Str × NameKind)} {isg isc : Bool} {scm : List (Str × Const)} {a : Addr} {ccd : Value} {cl : List (Str × Addr)} {outer : List Env} {A₀ : Around} {base h₀ : Heap} {L : Addr} {m : Str → Option Value} {s : Shared} {Q E : Value → Shared → Prop}
  {k1 k2 : Str} {tn t1 t2 to te td ts : Tok} {op es dg sz : Int} {kt : Addr} {fs : List (Addr × FSpec)} {xs nw : List (Addr × Obj)}
    (B : Below A₀ base outer h₀) (F : Fr h₀ L s.heap m) (X : (kk.heap_1 w.params).In h₀) (N : News h₀ L s.heap ((kt, tupO [.str k1 t1, .str k2 t2]) :: (xs ++ nw))) (T : Top p loose mean mg mb h₀)
    (hd : dp + 40 < 1000) (hu : un + 200 < 9900) (hl1 : k1.length ≤ 100) (hl2 : k2.length ≤ 100) (A : Forms w nw fs)
    (ret : ∀ (f : Addr) (nw' : List (Addr × Obj)) (A' : Forms w nw' ((f, ⟨k1, k2, op, es, dg, sz⟩) :: fs)) (h' : Heap) (tk' : Nat), Fr h₀ L h' m → InElt s.heap h' → News h₀ L h' (xs ++ nw') → Q (.ref f) { s with heap := h', toks := tk' }) :
    wpAny (model Challenge.rw_nz0171_01.row.prog w) (ktrTop dp un gd cn ⟨.function, nms, isg, isc, scm⟩ L a ccd cl outer) (call (.ref 257) [.str "mov" tn, .ref kt, .int op to, .int es te, .int dg td, .int sz ts]) Q E s := by
  have hk := N _ (List.mem_cons_self ..)
  refine form_c (t1 := t1) (t2 := t2) (rl := kt) (ro := tupO [.str k1 t1, .str k2 t2]) B F X ?_ T (by omega) (by omega) hl1 hl2 ?_
  · intro p hp
    rcases List.mem_cons.mp hp with e | hp
    · exact e ▸ hk
    · rcases List.mem_cons.mp hp with e | hp
      · exact e ▸ hk
      · cases hp
  · intro a1 a2 a3 a4 a5 a6 a7 a8 a9 a0 tm tx u1 u2 f d pt g1 g2 g3 h' tk' mo0 mo1 mo2 F' E' N'
    refine ret f ((f, instObj 257 d) :: (d, formD w a1 a2 a3 a4 a5 a6 a7 a8 a9 a0 "mov" tn kt op to es te dg td sz ts tm tx pt) :: (pt, tupO [.str (slotOf k1) u1, .str (slotOf k2) u2]) :: (kt, tupO [.str k1 t1, .str k2 t2]) :: nw) ⟨?_, ?_⟩ h' tk' F' E' ?_
    · intro p hp
      simp only [List.mem_cons] at hp
      rcases hp with rfl | rfl | rfl | rfl | hp
      · exact clsInst
      · exact clsDict
      · exact clsTup
      · exact clsTup
      · exact A.nolist p hp
    · intro x hx
      rcases List.mem_cons.mp hx with rfl | hx
      · exact ⟨a1, a2, a3, a4, a5, a6, a7, a8, a9, a0, tn, to, te, td, ts, tm, tx, t1, t2, u1, u2, d, pt, kt, by simp, by simp, by simp, by simp⟩
      · exact (A.all x hx).sub fun p hp _ => by simp [hp]
    · intro p hp
      rcases List.mem_append.mp hp with hp | hp
      · have := N p (by simp [hp]); exact ⟨E' _ _ this.1, this.2⟩
      · simp only [List.mem_cons] at hp
        rcases hp with rfl | rfl | rfl | rfl | hp
        · exact N' _ (List.Mem.head _)
        · exact N' _ (List.Mem.tail _ (List.Mem.head _))
        · exact N' _ (List.Mem.tail _ (List.Mem.tail _ (List.Mem.head _)))
        · exact ⟨E' _ _ hk.1, hk.2⟩
        · have := N p (by simp [hp]); exact ⟨E' _ _ this.1, this.2⟩

def strZ (z : Int) : Str := Str.ofString (toString z)
def S3 (z : Int) : Prop := z = 16 ∨ z = 32 ∨ z = 64
theorem strZ_len {z : Int} (h : S3 z) : (strZ z).length ≤ 2 := by rcases h with rfl | rfl | rfl <;> decide
theorem log3 {z : Int} (h : S3 z) : z.natAbs.log2 < 1920 := by rcases h with rfl | rfl | rfl <;> decide
theorem len3 {k : Str} {z : Int} (h : Hid (S3 z)) (hk : k.length ≤ 50) : (k ++ strZ z).length ≤ 100 := by
  rw [Str.length_append]
  exact Nat.le_trans (Nat.add_le_add hk (strZ_len h.out)) (by decide)
section
variable {prog : Program} {w : World} {A : Around} {E : Value → Shared → Prop} {s : Shared} {Q : Value → Shared → Prop}
theorem str3 {z : Int} {t : Tok} (h : Hid (S3 z)) (k : ∀ t' tk, Q (.str (strZ z) t') { s with toks := tk }) : wpAny (model prog w) A (call (.type "str") [.int z t]) Q E s := P.str_of_int (log3 h.out) (k _ _)
theorem add3 {k : Str} {z : Int} {t u : Tok} (h : Hid (S3 z)) (hk : k.length ≤ 50) (q : ∀ t' tk, Q (.str (k ++ strZ z) t') { s with toks := tk }) : wpAny (model prog w) A (binaryOp .Add (.str k t) (.str (strZ z) u)) Q E s :=
  KXadd.add hk (strZ_len h.out) (by decide) fun t' tk _ => q t' tk
end
/-- the rows so far (the sizes, the last ahead) -/
inductive SizOk (k1 k2 : Str) (op : Int) : List Int → List Value → List (Addr × FSpec) → Prop
  | nil : SizOk k1 k2 op [] [] []
  | snoc {zs : List Int} {ys : List Value} {fs : List (Addr × FSpec)} (f : Addr) (z : Int) : SizOk k1 k2 op zs ys fs → SizOk k1 k2 op (z :: zs) (ys ++ [.ref f]) ((f, ⟨k1 ++ strZ z, k2 ++ strZ z, op, 0, -1, z⟩) :: fs)
theorem SizOk.three {k1 k2 : Str} {op : Int} {ys : List Value} {fs : List (Addr × FSpec)} (h : SizOk k1 k2 op [64, 32, 16] ys fs) :
    ∃ f1 f2 f3, ys = [.ref f1, .ref f2, .ref f3] ∧ fs = [(f3, ⟨k1 ++ "64", k2 ++ "64", op, 0, -1, 64⟩), (f2, ⟨k1 ++ "32", k2 ++ "32", op, 0, -1, 32⟩), (f1, ⟨k1 ++ "16", k2 ++ "16", op, 0, -1, 16⟩)] := by
  cases h with
  | snoc f3 _ h => cases h with
    | snoc f2 _ h => cases h with
      | snoc f1 _ h => cases h; exact ⟨f1, f2, f3, rfl, rfl⟩
theorem ifS {m : Str → Option Value} {a : Str} {v : Value} (h : m a = some v) (y : Str) : (if y = a then some v else m y) = m y := by
  by_cases e : y = a
  · subst e; rw [if_pos rfl, h]
  · rw [if_neg e]
/-- the names that a turn reads -/
structure SizM (l kt : Addr) (tn to td te : Tok) (op : Int) (m : Str → Option Value) : Prop where
  rows : m (Str.ofString "rows") = some (.ref l)
  kinds : m (Str.ofString "kinds") = some (.ref kt)
  name : m (Str.ofString "name") = some (.str "mov" tn)
  opcode : m (Str.ofString "opcode") = some (.int op to)
  digit : m (Str.ofString "digit") = some (.int (-1) td)
  escape : m (Str.ofString "escape") = some (.int 0 te)
abbrev FM (l kt : Addr) (tn to td te : Tok) (op : Int) (m : Str → Option Value) : Str → Option Value := fun y => if y = Str.ofString "rows" then some (.ref l) else if y = Str.ofString "kinds" then some (.ref kt) else if y = Str.ofString "name" then some (.str "mov" tn) else if y = Str.ofString "opcode" then some (.int op to) else if y = Str.ofString "digit" then some (.int (-1) td) else if y = Str.ofString "escape" then some (.int 0 te) else m y
theorem SizM.eq {l kt : Addr} {tn to td te : Tok} {op : Int} {m : Str → Option Value} (h : SizM l kt tn to td te op m) : FM l kt tn to td te op m = m := by
  funext y
  show (if y = Str.ofString "rows" then some (.ref l) else if y = Str.ofString "kinds" then some (.ref kt) else if y = Str.ofString "name" then some (.str "mov" tn) else if y = Str.ofString "opcode" then some (.int op to) else if y = Str.ofString "digit" then some (.int (-1) td) else if y = Str.ofString "escape" then some (.int 0 te) else m y) = m y
  rw [ifS h.escape, ifS h.digit, ifS h.opcode, ifS h.name, ifS h.kinds, ifS h.rows]
/-- the items are these ints -/
def Itz : List Itm → List Int → Prop
  | [], [] => True
  | a :: r, z :: zs => ((∃ t, a = .val (.int z t)) ∧ S3 z) ∧ Itz r zs
  | _, _ => False
section
variable {prog : Program} {w : World} {A : Around} {E : Value → Shared → Prop} {s : Shared} {env : Env} {h₀ : Heap} {target : Expr} {body : List Stmt} {Q : Flow → Shared → Prop}
theorem itemsDrop {ws : List (Addr × String)} {keep : List (Addr × Obj)} {m : Str → Option Value} {news news' : List (Addr × Obj)} (hs : ∀ p ∈ news', p ∈ news) : ∀ {its : List Itm}, ItemsRest prog w A E h₀ env target body Q s ws keep its m news' → ItemsRest prog w A E h₀ env target body Q s ws keep its m news
  | [], h => fun h' tk F N => h h' tk F fun p hp => N p (hs p hp)
  | _ :: _, h => fun v h' tk a F => allObjMono (fun its k N => k fun p hp => N p ((List.mem_append.mp hp).elim (List.mem_append_left _) fun q => List.mem_append_right _ (hs p q))) (h v h' tk a F)
where allObjMono : ∀ {ws : List (Addr × String)} {k k' : List (Addr × Obj) → Prop}, (∀ its, k its → k' its) → AllObj ws k → AllObj ws k'
  | [], _, _, f, h => f _ h
  | _ :: _, _, _, f, h => fun o ho => allObjMono (fun its => f _) (h o ho)
theorem unrHead {L : Addr} {I : Addr} {it : Obj} {rest : (Str → Option Value) → List (Addr × Obj) → Prop} {s₁ : Shared} {h' : Heap} {tk : Nat} {m' : Str → Option Value} {news' : List (Addr × Obj)} (F : Fr h₀ L h' m') (N : News h₀ L h' ((I, it) :: news')) (off : ∀ p ∈ news', p.1 ≠ I) (r : rest m' news') : UnrEndW h₀ L s₁ [(I, it)] rest { s₁ with heap := h', toks := tk } :=
  ⟨h', tk, m', news', rfl, F, N, (fun p hp q hq => by cases List.mem_singleton.mp hq; exact off p hp), r⟩
theorem offMap {I : Addr} {news news' : List (Addr × Obj)} (h : ∀ p ∈ news, p.1 < I) (e : news'.map (·.1) = news.map (·.1)) : ∀ p ∈ news', p.1 ≠ I := fun p hp e' => by
  have h1 : p.1 ∈ news.map (·.1) := by rw [← e]; exact List.mem_map.mpr ⟨p, hp, rfl⟩
  obtain ⟨q, hq, e2⟩ := List.mem_map.mp h1
  exact Nat.lt_irrefl I (by have := h q hq; rw [e2, e'] at this; exact this)
theorem sizEnd {L : Addr} {I l kt T f rl : Addr} {it o ok oT ro : Obj} {S : FSpec} {fs : List (Addr × FSpec)} {nw all : List (Addr × Obj)} {rest : (Str → Option Value) → List (Addr × Obj) → Prop} {s₁ : Shared} {h' : Heap} {tk : Nat} {m' : Str → Option Value} (F : Fr h₀ L h' m') (N : News h₀ L h' all) (hI : (I, it) ∈ all) (hit : it.cls = .type "tuple_iterator")
    (hl : (l, o) ∈ all) (ho : o.cls = .type "list") (hk : (kt, ok) ∈ all) (hok : ok.cls = .type "tuple") (hr : (rl, ro) ∈ all) (hrI : rl ≠ I) (hT : (T, oT) ∈ all) (hoT : oT.cls = .type "tuple") (A1 : FormAt w all f S) (A0 : Forms w nw fs) (hs : ∀ p ∈ nw, p ∈ all)
    (r : ∀ nw', Forms w nw' ((f, S) :: fs) → rest m' ((l, o) :: (kt, ok) :: (rl, ro) :: (T, oT) :: nw')) : UnrEndW h₀ L s₁ [(I, it)] rest { s₁ with heap := h', toks := tk } := by
  refine ⟨h', tk, m', (l, o) :: (kt, ok) :: (rl, ro) :: (T, oT) :: filt all, rfl, F, ?_, ?_, r _ ⟨fun p hp => of_decide_eq_true (List.mem_filter.mp hp).2, fun x hx => ?_⟩⟩
  · exact List.forall_mem_cons.mpr ⟨N _ hI, List.forall_mem_cons.mpr ⟨N _ hl, List.forall_mem_cons.mpr ⟨N _ hk, List.forall_mem_cons.mpr ⟨N _ hr, List.forall_mem_cons.mpr ⟨N _ hT, fun p hp => N p (List.mem_filter.mp hp).1⟩⟩⟩⟩⟩
  · have key : ∀ p : Addr × Obj, p ∈ all → p.2.cls ≠ .type "tuple_iterator" → ∀ q ∈ [(I, it)], p.1 ≠ q.1 := fun p hp hc q hq e => by
      cases List.mem_singleton.mp hq
      have h1 := (N p hp).1
      rw [e, (N _ hI).1] at h1
      exact hc (Option.some.inj h1 ▸ hit)
    exact List.forall_mem_cons.mpr ⟨key _ hl (fun e => absurd (Value.type.inj (ho.symm.trans e)) (by decide)), List.forall_mem_cons.mpr ⟨key _ hk (fun e => absurd (Value.type.inj (hok.symm.trans e)) (by decide)), List.forall_mem_cons.mpr ⟨(fun q hq => by cases List.mem_singleton.mp hq; exact hrI), List.forall_mem_cons.mpr ⟨key _ hT (fun e => absurd (Value.type.inj (hoT.symm.trans e)) (by decide)), fun p hp => key p (List.mem_filter.mp hp).1 (of_decide_eq_true (List.mem_filter.mp hp).2).2⟩⟩⟩⟩
  · rcases List.mem_cons.mp hx with rfl | hx
    · exact A1.sub fun p hp e => mem_filt hp e
    · exact (A0.all x hx).sub fun p hp e => mem_filt (hs p hp) e
/-- the turns over the sizes, one and all -/
theorem sizAll {l kt T I L rl : Addr} {k1 k2 : Str} {t1 t2 tn to td te : Tok} {op : Int} {oT ro : Obj} (hL : L = env.locals)
    (turn : ∀ (z : Int) (tz : Tok) (ys : List Value) (c : Nat) (fs : List (Addr × FSpec)) (nw : List (Addr × Obj)) (m : Str → Option Value) (Rest : (Str → Option Value) → List (Addr × Obj) → Prop), Hid (S3 z) → Hid (ys.length ≤ sizeLine) → Forms w nw fs →
      (∀ m' nw' f, SizM l kt tn to td te op m' → Forms w nw' ((f, ⟨k1 ++ strZ z, k2 ++ strZ z, op, 0, -1, z⟩) :: fs) → Rest m' ((l, W.listOf ((List.toArray ys).push (.ref f)) (c + 1)) :: (kt, tupO [.str k1 t1, .str k2 t2]) :: (rl, ro) :: (T, oT) :: nw')) →
      ∀ h tk it, it.cls = .type "tuple_iterator" → Fr h₀ L h (FM l kt tn to td te op m) → News h₀ L h ((I, it) :: (l, W.listOf (List.toArray ys) c) :: (kt, tupO [.str k1 t1, .str k2 t2]) :: (rl, ro) :: (T, oT) :: nw) →
        wpAny (model prog w) A (assign target env (.int z tz)) (fun _ s₂ => wpAny (model prog w) A (execs body env) (UnrPostW h₀ L { s with heap := h, toks := tk } [(I, it)] Rest Q) E s₂) E { s with heap := h, toks := tk })
    (fin : ∀ (ys : List Value) (c : Nat) (fs : List (Addr × FSpec)) (nw : List (Addr × Obj)) (m : Str → Option Value) (h : Heap) (tk : Nat), SizOk k1 k2 op [64, 32, 16] ys fs → Forms w nw fs → Fr h₀ L h (FM l kt tn to td te op m) → News h₀ L h ((l, W.listOf (List.toArray ys) c) :: (kt, tupO [.str k1 t1, .str k2 t2]) :: (rl, ro) :: nw) → Q .next { s with heap := h, toks := tk }) :
    ∀ (its : List Itm) (zs done : List Int) (ys : List Value) (c : Nat) (fs : List (Addr × FSpec)) (nw : List (Addr × Obj)) (m : Str → Option Value), Itz its zs → List.reverseAux zs done = [64, 32, 16] → SizOk k1 k2 op done ys fs → ys.length + its.length ≤ 10 → Forms w nw fs → SizM l kt tn to td te op m →
      ItemsRest prog w A E h₀ env target body Q s [(I, "tuple_iterator")] [(T, oT)] its m ((l, W.listOf (List.toArray ys) c) :: (kt, tupO [.str k1 t1, .str k2 t2]) :: (rl, ro) :: (T, oT) :: nw)
  | [], [], done, ys, c, fs, nw, m, _, e, ok, _, A0, M => by
    subst hL
    have e' : done = [64, 32, 16] := e
    subst e'
    exact ItemsRest.zero fun h tk F N => fin ys c fs nw m h tk ok A0 (M.eq.symm ▸ F) fun p hp => N p (subP_head (subP_head (subP_head (subP_skip subP_refl))) p hp)
  | a :: r, z :: zs, done, ys, c, fs, nw, m, hz, e, ok, hn, A0, M => by
    subst hL
    obtain ⟨⟨⟨tz, rfl⟩, h3⟩, hr⟩ := hz
    have hn' : ys.length + r.length + 1 ≤ 10 := hn
    refine ItemsRest.val fun h tk F => ?_
    intro it hit N
    refine turn z tz ys c fs nw m _ ⟨h3⟩ ⟨Nat.le_trans (by omega : ys.length ≤ 10) (by rw [PySem.sizeLine_eq]; decide)⟩ A0 (fun m' nw' f M' A' => ?_) h tk it hit (M.eq.symm ▸ F) N
    have e3 : (List.toArray ys).push (.ref f) = List.toArray (ys ++ [.ref f]) := List.push_toArray _ _
    rw [e3]
    refine ⟨⟨List.mem_cons_of_mem _ (List.mem_cons_of_mem _ (List.mem_cons_of_mem _ (List.mem_cons_self ..))), trivial⟩, sizAll rfl turn fin r zs (z :: done) (ys ++ [.ref f]) (c + 1) _ nw' m' hr e (.snoc f z ok) ?_ A' M'⟩
    rw [List.length_append]; simp only [List.length_cons, List.length_nil]; omega
end
section
local macro_rules | `(tactic| k_all) => `(tactic| k_extra "Mine k_all")
theorem row48 : True := by
  k_with "Mine k_all" => (exact noList_ne (by assumption) (by k_asm) (by repeat (first | exact subP_refl | refine subP_skip ?_)) (by k_mem) rfl)
  trivial
theorem row49 : True := by
  k_with "ItemsRest" => (guard_hyp scSz : True; (with_unfolding_all refine' itemsDrop ?szD (sizAll (kt := kt) (rl := rl) (ro := ro) (k1 := k1) (k2 := k2) (t1 := t1) (t2 := t2) ?szL ?szTurn ?szFin _ [16, 32, 64] [] [] 0 [] [] _ ?szI rfl .nil ?szN forms0 ?szM)); k_dflt ((case szL => rfl); (case szM => exact ⟨rfl, rfl, rfl, rfl, rfl, rfl⟩); (case szI => exact ⟨⟨⟨_, rfl⟩, .inl rfl⟩, ⟨⟨_, rfl⟩, .inr (.inl rfl)⟩, ⟨⟨_, rfl⟩, .inr (.inr rfl)⟩, trivial⟩); (case szN => exact Nat.le_of_ble_eq_true rfl); (case szD => repeat (first | exact subNil | refine subCons (by k_mem) ?_))); (case' szTurn => intro z9 tz9 ys9 c9 fs9 nw9 m9 Rest9 hz9 hy9 A9 hk9 h9 tk9 it9 hit9 F9 N9); (case' szFin => intro ys9 c9 fs9 nw9 m9 h9 tk9 ok9 A9 F9 N9); walk_say "SIZES")
  trivial
theorem row50 : True := by
  k_with "exec For Name Name cons nil" => (guard_hyp scSz : True; k_here; (rename Fr _ _ _ _ => lF'); (with_unfolding_all refine' For_turns lF' ?_; k_whole))
  trivial
theorem row51 : True := by
  k_with "pyIter ref" => (guard_hyp scSz : True; (with_reducible show wpAny _ _ (pyIter (Value.ref _)) (fun it s₂ => TurnsAt _ _ _ _ _ _ _ _ _ it s₂) _ _); (rename Fr _ _ _ _ => lF'); (with_unfolding_all refine' iter_tupTurns (lo := tupO [.str k1 t1, .str k2 t2]) (vs := [.str k1 t1, .str k2 t2]) (n := 0) ?ptH lF' ?ptN ?ptM rfl rfl ?_); k_dflt ((case ptN => k_asm); (case ptM => k_mem); (case ptH => with_unfolding_all rfl)); clear lF'; intro i' lw9; (have l1 := lw9); (try k_lt l1); walk_say "KINDS")
  trivial
theorem row52 : True := by
  k_with "UnrEndW" => (guard_hyp scSz : True; k_dflt (refine' unrHead ?uhF ?uhN ?uhO ⟨?uhS, ?_⟩; (case uhF => assumption); (case uhN => assumption); (case uhO => exact offMap lw9 rfl); (case uhS => k_subL)))
  trivial
theorem row53 : True := by
  k_with "UnrEndW" => (guard_hyp scSz : True; k_dflt (refine' sizEnd ?seF ?seN ?seI hit9 ?seL ?seO ?seK ?seP ?seR ?seQ ?seT ?seU ?seA A9 ?seS (fun nw8 A8 => hk9 _ nw8 _ ?seM A8); (case seF => assumption); (case seN => assumption); (case seM => exact ⟨rfl, rfl, rfl, rfl, rfl, rfl⟩); (case seI => k_mem); (case seL => k_mem); (case seK => k_mem); (case seR => k_mem); (case seQ => k_ne); (case seT => k_mem); (case seO => rfl); (case seP => rfl); (case seU => rfl); (case seA => exact ⟨_, _, _, _, _, _, _, _, _, _, _, _, _, _, _, _, _, _, _, _, _, _, _, _, by k_mem, by k_mem, by k_mem, by k_mem⟩); (case seS => repeat (first | exact subP_refl | refine subP_skip ?_))))
  trivial
theorem row54 : True := by
  k_with "call type:str" => (guard_hyp scSz : True; k_dflt (refine' str3 hz9 ?_; k_whole); intro t9 tk9)
  trivial
theorem row55 : True := by
  k_with "binaryOp Add str str" => (guard_hyp scSz : True; k_dflt (refine' add3 hz9 ?k3L ?_; (case k3L => assumption); k_whole); intro t9 tk9)
  trivial
theorem row56 : True := by
  k_with "call builtin:list.append" => (guard_hyp scSz : True; (with_reducible show wpAny _ _ (call (Value.builtin _) [Value.ref _, Value.ref _]) _ _ _); k_dflt (refine' append_K ?apA ?apB ?apC ?_ ?apZ; (case apA => k_asm); (case apB => k_asm); (case apC => k_upd); (case apZ => exact hy9.out); k_whole); intro h' F' N'; (try k_sweep))
  trivial
set_option maxRecDepth 100000 in
set_option maxHeartbeats 0 in
theorem sized_c
  {w : World} {p : Program} {loose : List Str} {mean : ExcName → Option Value} {mg mb : Str → Option Value}
  {dp un : Nat} {gd : Option (List Code)} {cn : Str} {nms : List (Str × NameKind)} {isg isc : Bool} {scm : List (Str × Const)} {a : Addr} {ccd : Value} {cl : List (Str × Addr)} {outer : List Env} {A₀ : Around} {base h₀ : Heap} {L : Addr} {m : Str → Option Value} {s : Shared} {Q E : Value → Shared → Prop}
  {k1 k2 : Str} {tn t1 t2 to : Tok} {op : Int} {kt rl : Addr} {ro : Obj} (B : Below A₀ base outer h₀) (F : Fr h₀ L s.heap m) (X : (kk.heap_1 w.params).In h₀) (N : News h₀ L s.heap [(kt, tupO [.str k1 t1, .str k2 t2]), (rl, ro)]) (T : Top p loose mean mg mb h₀)
    (hd : dp + 50 < 1000) (hu : un + 300 < 9900) (hk1 : k1.length ≤ 50) (hk2 : k2.length ≤ 50)
    (ret : ∀ (l' f1 f2 f3 : Addr) (nw : List (Addr × Obj)) (n : Nat) (A : Forms w nw [(f3, ⟨k1 ++ "64", k2 ++ "64", op, 0, -1, 64⟩), (f2, ⟨k1 ++ "32", k2 ++ "32", op, 0, -1, 32⟩), (f1, ⟨k1 ++ "16", k2 ++ "16", op, 0, -1, 16⟩)]) (g1 : rl < l') (h' : Heap) (tk' : Nat), Fr h₀ L h' m → InElt s.heap h' → News h₀ L h' ((l', W.listOf #[.ref f1, .ref f2, .ref f3] n) :: nw) → Q (.ref l') { s with heap := h', toks := tk' }) :
    wpAny (model Challenge.rw_nz0171_01.row.prog w) (ktrTop dp un gd cn ⟨.function, nms, isg, isc, scm⟩ L a ccd cl outer) (call (.ref 290) [.str "mov" tn, .ref kt, .int op to]) Q E s := by
  let no0 : Obj := tupO [.str k1 t1, .str k2 t2]
  replace N : News h₀ L s.heap [(kt, no0), (rl, ro)] := N
  have scSz : True := trivial
  w_on; revert X; k_fill; intro X; have cE0 := InElt.start s.heap; k_steps
  all_goals (obtain ⟨f1, f2, f3, rfl, rfl⟩ := ok9.three; refine' ret _ f1 f2 f3 _ _ A9 ?f1 _ _ ?cF ?cE ?cN; (case cF => assumption); (case cE => (first | assumption | (refine' elt_afterC ?e1 ?e2 ?e3 ?e4 ?e5 ?e6; (case e2 => assumption); (case e1 => assumption); (case e3 => assumption); (case e4 => assumption); (case e5 => assumption); (case e6 => repeat (first | exact List.forall_mem_nil _ | refine List.forall_mem_cons.mpr ⟨(by first | exact Or.inr (by with_reducible assumption) | exact Or.inl (by k_mem)), ?_⟩))))); (case cN => exact cb_drop (by assumption) (subP_head (subP_skip (subP_skip subP_refl)))); (case f1 => (first | exact ltP0 (by assumption) | exact ltP1 (by assumption) | exact ltP2 (by assumption) | exact ltP3 (by assumption) | exact ltP4 (by assumption) | exact ltP5 (by assumption) | exact ltT0 (by assumption) (by assumption) | exact ltT1 (by assumption) (by assumption) | exact ltT2 (by assumption) (by assumption) | exact ltT3 (by assumption) (by assumption) | (refine ltN ?_; (try dsimp only); omega))))

theorem row57 : True := by
  k_with "call ref" => ((with_reducible show wpAny _ _ (call (Value.ref 290) _) _ _ _); k_dflt (refine' sized_c ?k1 ?k2 ?k3 (cb_drop ?k4 ?k9) ?k5 ?k7 ?k8 ?h0 ?h1 ?_; (case k1 => k_asm); (case k2 => k_asm); (case k3 => k_asm); (case k4 => k_asm); (case k5 => k_asm); (case k9 => repeat (first | exact subNil | refine subCons (by k_mem) ?_)); (case k7 => (first | exact roomA hd rfl | exact roomB hd rfl | ((try simp only [depth_mark, depth_under_make, depth_under_kw, depth_in1, depth_deeper, depth_caller]); (try dsimp only [ktrTop]); omega))); (case k8 => (first | exact unitA hu rfl | ((try simp only [units_under_make, units_in1, units_deeper, Around.mark_units, units_caller]); (try dsimp only [ktrTop]); omega))); (case h0 => first | assumption | decide); (case h1 => first | assumption | decide); k_whole); intro l9 fa9 fb9 fc9 nw9 n9 A9 g19 h9 tk9  F9 E9 N9; (try k_lt2 g19); (k_dflt (replace N9 := newsApp N9 E9 (by k_asm))); clear E9; (try dsimp only [List.nil_append, List.cons_append, List.append_nil] at N9); (try simp only [List.append_nil] at N9); (try dsimp only); (try k_fold); (try k_sweep); walk_say "CONTRACT sized_c")
  trivial
end

theorem subTail0 {a : Addr × Obj} {l : List (Addr × Obj)} : ∀ p ∈ l, p ∈ a :: l := fun _ h => List.mem_cons_of_mem _ h
theorem subTail1 {a b : Addr × Obj} {l : List (Addr × Obj)} : ∀ p ∈ l, p ∈ a :: b :: l := fun _ h => List.mem_cons_of_mem _ (List.mem_cons_of_mem _ h)
theorem subTail2 {a b c : Addr × Obj} {l : List (Addr × Obj)} : ∀ p ∈ l, p ∈ a :: b :: c :: l := fun _ h => List.mem_cons_of_mem _ (List.mem_cons_of_mem _ (List.mem_cons_of_mem _ h))
theorem dropHead {a : Addr × Obj} {l : List (Addr × Obj)} : ∀ p ∈ l, p ∈ a :: l := fun _ h => List.mem_cons_of_mem _ h
theorem dropMid {a b c : Addr × Obj} {l : List (Addr × Obj)} : ∀ p ∈ a :: c :: l, p ∈ a :: b :: c :: l := fun _ h => (List.mem_cons.mp h).elim (fun e => e ▸ List.mem_cons_self ..) fun h => List.mem_cons_of_mem _ (List.mem_cons_of_mem _ h)
/-- a form more: nothing but the kinds lies ahead -/
theorem form_w0
  {w : World} {p : Program} {loose : List Str} {mean : ExcName → Option Value} {mg mb : Str → Option Value}
  {dp un : Nat} {gd : Option (List Code)} {cn : Str} {nms : List (Str × NameKind)} {isg isc : Bool} {scm : List (Str × Const)} {a : Addr} {ccd : Value} {cl : List (Str × Addr)} {outer : List Env} {A₀ : Around} {base h₀ : Heap} {L : Addr} {m : Str → Option Value} {s : Shared} {Q E : Value → Shared → Prop}
  {k1 k2 : Str} {tn t1 t2 to te td ts : Tok} {op es dg sz : Int} {kt : Addr}
    (B : Below A₀ base outer h₀) (F : Fr h₀ L s.heap m) (X : (kk.heap_1 w.params).In h₀) (N : News h₀ L s.heap [(kt, tupO [.str k1 t1, .str k2 t2])]) (T : Top p loose mean mg mb h₀)
    (hd : dp + 40 < 1000) (hu : un + 200 < 9900) (hl1 : k1.length ≤ 100) (hl2 : k2.length ≤ 100)
    (ret : ∀ (f : Addr) (nw' : List (Addr × Obj)) (A' : Forms w nw' [(f, ⟨k1, k2, op, es, dg, sz⟩)]) (h' : Heap) (tk' : Nat), Fr h₀ L h' m → InElt s.heap h' → News h₀ L h' nw' → Q (.ref f) { s with heap := h', toks := tk' }) :
    wpAny (model Challenge.rw_nz0171_01.row.prog w) (ktrTop dp un gd cn ⟨.function, nms, isg, isc, scm⟩ L a ccd cl outer) (call (.ref 257) [.str "mov" tn, .ref kt, .int op to, .int es te, .int dg td, .int sz ts]) Q E s :=
  form_w (xs := []) (nw := []) B F X N T hd hu hl1 hl2 forms0 ret
theorem form_w1
  {w : World} {p : Program} {loose : List Str} {mean : ExcName → Option Value} {mg mb : Str → Option Value}
  {dp un : Nat} {gd : Option (List Code)} {cn : Str} {nms : List (Str × NameKind)} {isg isc : Bool} {scm : List (Str × Const)} {a : Addr} {ccd : Value} {cl : List (Str × Addr)} {outer : List Env} {A₀ : Around} {base h₀ : Heap} {L : Addr} {m : Str → Option Value} {s : Shared} {Q E : Value → Shared → Prop}
  {k1 k2 : Str} {tn t1 t2 to te td ts : Tok} {op es dg sz : Int} {kt : Addr} {fs : List (Addr × FSpec)} {x : Addr × Obj} {nw : List (Addr × Obj)}
    (B : Below A₀ base outer h₀) (F : Fr h₀ L s.heap m) (X : (kk.heap_1 w.params).In h₀) (N : News h₀ L s.heap ((kt, tupO [.str k1 t1, .str k2 t2]) :: x :: nw)) (T : Top p loose mean mg mb h₀)
    (hd : dp + 40 < 1000) (hu : un + 200 < 9900) (hl1 : k1.length ≤ 100) (hl2 : k2.length ≤ 100) (A : Forms w nw fs)
    (ret : ∀ (f : Addr) (nw' : List (Addr × Obj)) (A' : Forms w nw' ((f, ⟨k1, k2, op, es, dg, sz⟩) :: fs)) (h' : Heap) (tk' : Nat), Fr h₀ L h' m → InElt s.heap h' → News h₀ L h' (x :: nw') → Q (.ref f) { s with heap := h', toks := tk' }) :
    wpAny (model Challenge.rw_nz0171_01.row.prog w) (ktrTop dp un gd cn ⟨.function, nms, isg, isc, scm⟩ L a ccd cl outer) (call (.ref 257) [.str "mov" tn, .ref kt, .int op to, .int es te, .int dg td, .int sz ts]) Q E s :=
  form_w (xs := [x]) B F X N T hd hu hl1 hl2 A ret
theorem form_w2
  {w : World} {p : Program} {loose : List Str} {mean : ExcName → Option Value} {mg mb : Str → Option Value}
  {dp un : Nat} {gd : Option (List Code)} {cn : Str} {nms : List (Str × NameKind)} {isg isc : Bool} {scm : List (Str × Const)} {a : Addr} {ccd : Value} {cl : List (Str × Addr)} {outer : List Env} {A₀ : Around} {base h₀ : Heap} {L : Addr} {m : Str → Option Value} {s : Shared} {Q E : Value → Shared → Prop}
  {k1 k2 : Str} {tn t1 t2 to te td ts : Tok} {op es dg sz : Int} {kt : Addr} {fs : List (Addr × FSpec)} {x y : Addr × Obj} {nw : List (Addr × Obj)}
    (B : Below A₀ base outer h₀) (F : Fr h₀ L s.heap m) (X : (kk.heap_1 w.params).In h₀) (N : News h₀ L s.heap ((kt, tupO [.str k1 t1, .str k2 t2]) :: y :: x :: nw)) (T : Top p loose mean mg mb h₀)
    (hd : dp + 40 < 1000) (hu : un + 200 < 9900) (hl1 : k1.length ≤ 100) (hl2 : k2.length ≤ 100) (A : Forms w nw fs)
    (ret : ∀ (f : Addr) (nw' : List (Addr × Obj)) (A' : Forms w nw' ((f, ⟨k1, k2, op, es, dg, sz⟩) :: fs)) (h' : Heap) (tk' : Nat), Fr h₀ L h' m → InElt s.heap h' → News h₀ L h' (x :: nw') → Q (.ref f) { s with heap := h', toks := tk' }) :
    wpAny (model Challenge.rw_nz0171_01.row.prog w) (ktrTop dp un gd cn ⟨.function, nms, isg, isc, scm⟩ L a ccd cl outer) (call (.ref 257) [.str "mov" tn, .ref kt, .int op to, .int es te, .int dg td, .int sz ts]) Q E s :=
  form_w (xs := [x]) B F X (cb_drop N dropMid) T hd hu hl1 hl2 A ret

section
local macro_rules | `(tactic| k_all) => `(tactic| k_extra "Mine k_all")
theorem row58 : True := by
  k_with "Mine k_all" => (exact noList_ne (by assumption) (by k_asm) (by first | exact subTail0 | exact subTail1 | exact subTail2) (by k_mem) rfl)
  trivial
theorem row59 : True := by
  k_with "call ref" => (k_here; (with_reducible show wpAny _ _ (call (Value.ref 290) _) _ _ _); k_dflt (refine' sized_c ?k1 ?k2 ?k3 (cb_drop ?k4 ?k9) ?k5 ?k7 ?k8 ?h1 ?h2 ?_; (case k1 => k_asm); (case k2 => k_asm); (case k3 => k_asm); (case k4 => k_asm); (case k5 => k_asm); (case k9 => repeat (first | exact subNil | refine subCons (by k_mem) ?_)); (case k7 => (first | exact roomA hd rfl | exact roomB hd rfl | ((try simp only [depth_mark, depth_under_make, depth_under_kw, depth_in1, depth_deeper, depth_caller]); (try dsimp only [ktrTop]); omega))); (case k8 => (first | exact unitA hu rfl | ((try simp only [units_under_make, units_in1, units_deeper, Around.mark_units, units_caller]); (try dsimp only [ktrTop]); omega))); (case h1 => decide); (case h2 => decide); k_whole); intro l9 fa9 fb9 fc9 nw9 n9 A9 g19 h9 tk9 F9 E9 N9; (try k_lt2 g19); k_dflt (obtain ⟨nw8, A8, N8⟩ := newsJoin (xs := [_]) N9 E9 (by (refine cb_drop (by k_asm) ?_; exact dropHead)) A9 (by assumption)); clear N9 E9 A9; (try simp only [List.nil_append, List.cons_append] at N8 A8); (try dsimp only); (try k_fold); (try k_sweep); walk_say "SIZED")
  trivial
theorem row60 : True := by
  k_with "call ref" => (k_here; (with_reducible show wpAny _ _ (call (Value.ref 257) _) _ _ _); k_dflt (refine' form_w1  ?k1 ?k2 ?k3 ?k4 ?k5 ?k7 ?k8 ?h1 ?h2 ?hA ?_; (case k1 => k_asm); (case k2 => k_asm); (case k3 => k_asm); (case k4 => k_asm); (case k5 => k_asm); (case k7 => (first | exact roomA hd rfl | exact roomB hd rfl | ((try simp only [depth_mark, depth_under_make, depth_under_kw, depth_in1, depth_deeper, depth_caller]); (try dsimp only [ktrTop]); omega))); (case k8 => (first | exact unitA hu rfl | ((try simp only [units_under_make, units_in1, units_deeper, Around.mark_units, units_caller]); (try dsimp only [ktrTop]); omega))); (case h1 => decide); (case h2 => decide); (case hA => assumption); k_whole); intro f9 nw9 A9 h9 tk9 F9 E9 N9; clear E9; (try simp only [List.nil_append, List.cons_append] at N9); (try dsimp only); (try k_fold); (try k_sweep); walk_say "FORM")
  trivial
theorem row61 : True := by
  k_with "call ref" => (k_here; (with_reducible show wpAny _ _ (call (Value.ref 257) _) _ _ _); k_dflt (refine' form_w2  ?k1 ?k2 ?k3 ?k4 ?k5 ?k7 ?k8 ?h1 ?h2 ?hA ?_; (case k1 => k_asm); (case k2 => k_asm); (case k3 => k_asm); (case k4 => k_asm); (case k5 => k_asm); (case k7 => (first | exact roomA hd rfl | exact roomB hd rfl | ((try simp only [depth_mark, depth_under_make, depth_under_kw, depth_in1, depth_deeper, depth_caller]); (try dsimp only [ktrTop]); omega))); (case k8 => (first | exact unitA hu rfl | ((try simp only [units_under_make, units_in1, units_deeper, Around.mark_units, units_caller]); (try dsimp only [ktrTop]); omega))); (case h1 => decide); (case h2 => decide); (case hA => assumption); k_whole); intro f9 nw9 A9 h9 tk9 F9 E9 N9; clear E9; (try simp only [List.nil_append, List.cons_append] at N9); (try dsimp only); (try k_fold); (try k_sweep); walk_say "FORM")
  trivial
theorem row62 : True := by
  k_with "call ref" => (k_here; (with_reducible show wpAny _ _ (call (Value.ref 257) _) _ _ _); k_dflt (refine' form_w0  ?k1 ?k2 ?k3 ?k4 ?k5 ?k7 ?k8 ?h1 ?h2 ?_; (case k1 => k_asm); (case k2 => k_asm); (case k3 => k_asm); (case k4 => k_asm); (case k5 => k_asm); (case k7 => (first | exact roomA hd rfl | exact roomB hd rfl | ((try simp only [depth_mark, depth_under_make, depth_under_kw, depth_in1, depth_deeper, depth_caller]); (try dsimp only [ktrTop]); omega))); (case k8 => (first | exact unitA hu rfl | ((try simp only [units_under_make, units_in1, units_deeper, Around.mark_units, units_caller]); (try dsimp only [ktrTop]); omega))); (case h1 => decide); (case h2 => decide); k_whole); intro f9 nw9 A9 h9 tk9 F9 E9 N9; clear E9; (try simp only [List.nil_append, List.cons_append] at N9); (try dsimp only); (try k_fold); (try k_sweep); walk_say "FORM")
  trivial
set_option maxRecDepth 100000 in
set_option maxHeartbeats 0 in
theorem both_ways_c
  {w : World} {p : Program} {loose : List Str} {mean : ExcName → Option Value} {mg mb : Str → Option Value}
  {dp un : Nat} {gd : Option (List Code)} {cn : Str} {nms : List (Str × NameKind)} {isg isc : Bool} {scm : List (Str × Const)} {a : Addr} {ccd : Value} {cl : List (Str × Addr)} {outer : List Env} {A₀ : Around} {base h₀ : Heap} {L : Addr} {m : Str → Option Value} {s : Shared} {Q E : Value → Shared → Prop}
  {tn to : Tok} {op : Int} (B : Below A₀ base outer h₀) (F : Fr h₀ L s.heap m) (X : (kk.heap_1 w.params).In h₀) (N : News h₀ L s.heap []) (T : Top p loose mean mg mb h₀)
    (hd : dp + 80 < 1000) (hu : un + 600 < 9900) 
    (ret : ∀ (l' b1 b2 b3 b4 b5 b6 b7 b8 : Addr) (nw : List (Addr × Obj)) (n : Nat) (A : Forms w nw [(b8, ⟨"r64", "rm64", (op + 3), 0, -1, 64⟩), (b7, ⟨"r32", "rm32", (op + 3), 0, -1, 32⟩), (b6, ⟨"r16", "rm16", (op + 3), 0, -1, 16⟩), (b5, ⟨"r8", "rm8", (op + 2), 0, -1, 8⟩), (b4, ⟨"rm64", "r64", (op + 1), 0, -1, 64⟩), (b3, ⟨"rm32", "r32", (op + 1), 0, -1, 32⟩), (b2, ⟨"rm16", "r16", (op + 1), 0, -1, 16⟩), (b1, ⟨"rm8", "r8", op, 0, -1, 8⟩)])  (h' : Heap) (tk' : Nat), Fr h₀ L h' m → InElt s.heap h' → News h₀ L h' ((l', W.listOf #[.ref b1, .ref b2, .ref b3, .ref b4, .ref b5, .ref b6, .ref b7, .ref b8] n) :: nw) → Q (.ref l') { s with heap := h', toks := tk' }) :
    wpAny (model Challenge.rw_nz0171_01.row.prog w) (ktrTop dp un gd cn ⟨.function, nms, isg, isc, scm⟩ L a ccd cl outer) (call (.ref 297) [.str "mov" tn, .int op to]) Q E s := by
  w_on; revert X; k_fill; intro X; have cE0 := InElt.start s.heap; k_steps
  all_goals (refine' ret _ _ _ _ _ _ _ _ _ _ _ ?cA _ _ ?cF ?cE ?cN; (case cF => assumption); (case cE => assumption); (case cN => exact cb_drop (by assumption) dropHead); (case cA => assumption))

theorem row63 : True := by
  k_with "call ref" => ((with_reducible show wpAny _ _ (call (Value.ref 297) _) _ _ _); k_dflt (refine' both_ways_c ?k1 ?k2 ?k3 (cb_drop ?k4 ?k9) ?k5 ?k7 ?k8  ?_; (case k1 => k_asm); (case k2 => k_asm); (case k3 => k_asm); (case k4 => k_asm); (case k5 => k_asm); (case k9 => repeat (first | exact subNil | refine subCons (by k_mem) ?_)); (case k7 => (first | exact roomA hd rfl | exact roomB hd rfl | ((try simp only [depth_mark, depth_under_make, depth_under_kw, depth_in1, depth_deeper, depth_caller]); (try dsimp only [ktrTop]); omega))); (case k8 => (first | exact unitA hu rfl | ((try simp only [units_under_make, units_in1, units_deeper, Around.mark_units, units_caller]); (try dsimp only [ktrTop]); omega))); k_whole); intro l9 b19 b29 b39 b49 b59 b69 b79 b89 nw9 n9 A9  h9 tk9  F9 E9 N9; (k_dflt (replace N9 := newsApp N9 E9 (by k_asm))); clear E9; (try dsimp only [List.nil_append, List.cons_append, List.append_nil] at N9); (try simp only [List.append_nil] at N9); (try dsimp only); (try k_fold); (try k_sweep); walk_say "CONTRACT both_ways_c")
  trivial
/-- the forms of mov, the last ahead -/
abbrev mfs (b1 b2 b3 b4 b5 b6 b7 b8 b9 b10 b11 b12 b13 b14 b15 b16 : Addr) : List (Addr × FSpec) := [(b16, ⟨"o64", "imm64", 184, 0, -1, 64⟩), (b15, ⟨"rm64", "simm32", 199, 0, 0, 64⟩), (b14, ⟨"rm32", "imm32", 199, 0, 0, 32⟩), (b13, ⟨"rm16", "imm16", 199, 0, 0, 16⟩), (b12, ⟨"rm8", "imm8", 198, 0, 0, 8⟩), (b11, ⟨"o32", "imm32", 184, 0, -1, 32⟩), (b10, ⟨"o16", "imm16", 184, 0, -1, 16⟩), (b9, ⟨"o8", "imm8", 176, 0, -1, 8⟩), (b8, ⟨"r64", "rm64", (136 + 3), 0, -1, 64⟩), (b7, ⟨"r32", "rm32", (136 + 3), 0, -1, 32⟩), (b6, ⟨"r16", "rm16", (136 + 3), 0, -1, 16⟩), (b5, ⟨"r8", "rm8", (136 + 2), 0, -1, 8⟩), (b4, ⟨"rm64", "r64", (136 + 1), 0, -1, 64⟩), (b3, ⟨"rm32", "r32", (136 + 1), 0, -1, 32⟩), (b2, ⟨"rm16", "r16", (136 + 1), 0, -1, 16⟩), (b1, ⟨"rm8", "r8", 136, 0, -1, 8⟩)]
set_option maxRecDepth 100000 in
set_option maxHeartbeats 0 in
theorem mov_forms_c
  {w : World} {p : Program} {loose : List Str} {mean : ExcName → Option Value} {mg mb : Str → Option Value}
  {dp un : Nat} {gd : Option (List Code)} {cn : Str} {nms : List (Str × NameKind)} {isg isc : Bool} {scm : List (Str × Const)} {a : Addr} {ccd : Value} {cl : List (Str × Addr)} {outer : List Env} {A₀ : Around} {base h₀ : Heap} {L : Addr} {m : Str → Option Value} {s : Shared} {Q E : Value → Shared → Prop}
   (B : Below A₀ base outer h₀) (F : Fr h₀ L s.heap m) (X : (kk.heap_1 w.params).In h₀) (N : News h₀ L s.heap []) (T : Top p loose mean mg mb h₀)
    (hd : dp + 110 < 1000) (hu : un + 900 < 9900) 
    (ret : ∀ (l' b1 b2 b3 b4 b5 b6 b7 b8 b9 b10 b11 b12 b13 b14 b15 b16 : Addr) (nw : List (Addr × Obj)) (n : Nat) (A : Forms w nw (mfs b1 b2 b3 b4 b5 b6 b7 b8 b9 b10 b11 b12 b13 b14 b15 b16))  (h' : Heap) (tk' : Nat), Fr h₀ L h' m → InElt s.heap h' → News h₀ L h' ((l', W.listOf #[.ref b1, .ref b2, .ref b3, .ref b4, .ref b5, .ref b6, .ref b7, .ref b8, .ref b9, .ref b10, .ref b11, .ref b12, .ref b13, .ref b14, .ref b15, .ref b16] n) :: nw) → Q (.ref l') { s with heap := h', toks := tk' }) :
    wpAny (model Challenge.rw_nz0171_01.row.prog w) (ktrTop dp un gd cn ⟨.function, nms, isg, isc, scm⟩ L a ccd cl outer) (call (.ref 304) []) Q E s := by
  w_on; revert X; k_fill; intro X; have cE0 := InElt.start s.heap; k_steps
  all_goals (refine' ret _ _ _ _ _ _ _ _ _ _ _ _ _ _ _ _ _  _ _ ?cA _ _ ?cF ?cE ?cN; (case cF => assumption); (case cE => assumption); (case cN => assumption); (case cA => assumption))

theorem row64 : True := by
  k_with "call ref" => ((with_reducible show wpAny _ _ (call (Value.ref 304) _) _ _ _); k_dflt (refine' mov_forms_c ?k1 ?k2 ?k3 (cb_drop ?k4 ?k9) ?k5 ?k7 ?k8  ?_; (case k1 => k_asm); (case k2 => k_asm); (case k3 => k_asm); (case k4 => k_asm); (case k5 => k_asm); (case k9 => repeat (first | exact subNil | refine subCons (by k_mem) ?_)); (case k7 => (first | exact roomA hd rfl | exact roomB hd rfl | ((try simp only [depth_mark, depth_under_make, depth_under_kw, depth_in1, depth_deeper, depth_caller]); (try dsimp only [ktrTop]); omega))); (case k8 => (first | exact unitA hu rfl | ((try simp only [units_under_make, units_in1, units_deeper, Around.mark_units, units_caller]); (try dsimp only [ktrTop]); omega))); k_whole); intro l9 b19 b29 b39 b49 b59 b69 b79 b89 b99 b109 b119 b129 b139 b149 b159 b169 nw9 n9 A9  h9 tk9  F9 E9 N9; (k_dflt (replace N9 := newsApp N9 E9 (by k_asm))); clear E9; (try dsimp only [List.nil_append, List.cons_append, List.append_nil] at N9); (try simp only [List.append_nil] at N9); (try dsimp only); (try k_fold); (try k_sweep); walk_say "CONTRACT mov_forms_c")
  trivial
end

abbrev regO (w : World) (c1 c2 c3 : Tok) (r : Addr) : Obj := dictOf [ent w "kind" c1 (.str "reg" c2), ent w "register" c3 (.ref r)] 2
abbrev immO (w : World) (c1 c2 c3 c4 c5 c6 : Tok) (x : Int) : Obj := dictOf [ent w "kind" c1 (.str "imm" c2), ent w "worth" c3 (.int x c4), ent w "name" c5 (.str "" c6)] 3
abbrev insD (w : World) (c1 c2 c3 c4 c5 : Tok) (ot : Addr) : Obj := dictOf [ent w "name" c1 (.str "mov" c2), ent w "operands" c3 (.ref ot), ent w "prefix" c4 (.str "" c5)] 3
/-- what a word says of a whole number: that it takes it, or not -/
inductive ImmWord (k : Str) (x n : Int) : Bool → Prop
  | imm {z : Int} (h : ImmKind k z) : ImmWord k x n (fitsB x z)
  | no (h : NoImm k) : ImmWord k x n false
  | s32 (h : k = "simm32") (h0 : 1 ≤ n) (h1 : n ≤ 64) : ImmWord k x n (fitsB x n && (x % 2 ^ n.toNat == sgn32 x % 2 ^ n.toNat))
set_option maxRecDepth 100000 in
set_option maxHeartbeats 0 in
theorem takes_reg_c
  {w : World} {p : Program} {loose : List Str} {mean : ExcName → Option Value} {mg mb : Str → Option Value}
  {dp un : Nat} {gd : Option (List Code)} {cn : Str} {nms : List (Str × NameKind)} {isg isc : Bool} {scm : List (Str × Const)} {a : Addr} {ccd : Value} {cl : List (Str × Addr)} {outer : List Env} {A₀ : Around} {base h₀ : Heap} {L : Addr} {m : Str → Option Value} {s : Shared} {Q E : Value → Shared → Prop}
  {k : Str} {t v : Tok} {zk sz : Int} {o od : Addr} {c1 c2 c3 : Tok} {r d : Addr} {t1 t2 t3 t4 tk tn tz : Tok} {nm : Value} {rk : Str} {n z : Int} (B : Below A₀ base outer h₀) (F : Fr h₀ L s.heap m) (X : (kk.heap_1 w.params).In h₀) (N : News h₀ L s.heap [(o, instObj 377 od), (od, regO w c1 c2 c3 r), (r, instObj 938 d), (d, regD w t1 t2 t3 t4 nm rk tk n tn z tz)]) (T : Top p loose mean mg mb h₀)
    (hd : dp + 32 < 1000) (hu : un + 190 < 9900) (hK : RegKind k zk) (hrk : (["gpr", "high"] : List Str).any (fun x => x == rk) = true)
    (ret : ∀   (h' : Heap) (tk' : Nat), Fr h₀ L h' m → InElt s.heap h' → News h₀ L h' [] → Q (.bool (decide (z = zk))) { s with heap := h', toks := tk' }) :
    wpAny (model Challenge.rw_nz0171_01.row.prog w) (ktrTop dp un gd cn ⟨.function, nms, isg, isc, scm⟩ L a ccd cl outer) (call (.ref 199) [.str k t, .ref o, .int sz v]) Q E s := by
  let no0 : Obj := instObj 377 od
  let no1 : Obj := regO w c1 c2 c3 r
  let no2 : Obj := instObj 938 d
  let no3 : Obj := regD w t1 t2 t3 t4 nm rk tk n tn z tz
  replace N : News h₀ L s.heap [(o, no0), (od, no1), (r, no2), (d, no3)] := N
  w_on; revert X; k_fill; intro X; have cE0 := InElt.start s.heap; refine wpAny_call ?_; k_dflt k_enter; k_steps
  all_goals ((refine' retB ?ceq (ret _ _ ?cF ?cE ?cN); (case cF => assumption); (case cE => assumption); (case cN => (first | assumption | (refine' cb_drop ?cbN ?cbS; (case cbN => assumption); (case cbS => kcj_all)))); (case ceq => (law_clear; first | rfl | (simp_all; done) | fail "c eq"))))

theorem row65 : True := by
  k_with "call ref" => ((with_reducible show wpAny _ _ (call (Value.ref 199) [_, Value.ref _, _]) _ _ _); k_dflt (refine' takes_reg_c ?k1 ?k2 ?k3 (cb_drop ?k4 ?k9) ?k5 ?k7 ?k8 ?h0 ?h1 ?_; (case k1 => k_asm); (case k2 => k_asm); (case k3 => k_asm); (case k4 => k_asm); (case k5 => k_asm); (case k9 => repeat (first | exact subNil | refine subCons (by k_mem) ?_)); (case k7 => (first | exact roomA hd rfl | exact roomB hd rfl | ((try simp only [depth_mark, depth_under_make, depth_under_kw, depth_in1, depth_deeper, depth_caller]); (try dsimp only [ktrTop]); omega))); (case k8 => (first | exact unitA hu rfl | ((try simp only [units_under_make, units_in1, units_deeper, Around.mark_units, units_caller]); (try dsimp only [ktrTop]); omega))); (case h0 => first | assumption | omega | decide); (case h1 => first | assumption | omega | decide); k_whole); intro   h9 tk9  F9 E9 N9; (k_dflt (replace N9 := newsApp N9 E9 (by k_asm))); clear E9; (try dsimp only [List.nil_append, List.cons_append, List.append_nil] at N9); (try simp only [List.append_nil] at N9); (try dsimp only); (try k_fold); (try k_sweep); walk_say "CONTRACT takes_reg_c")
  trivial
set_option maxRecDepth 100000 in
set_option maxHeartbeats 0 in
theorem takes_imm_c
  {w : World} {p : Program} {loose : List Str} {mean : ExcName → Option Value} {mg mb : Str → Option Value}
  {dp un : Nat} {gd : Option (List Code)} {cn : Str} {nms : List (Str × NameKind)} {isg isc : Bool} {scm : List (Str × Const)} {a : Addr} {ccd : Value} {cl : List (Str × Addr)} {outer : List Env} {A₀ : Around} {base h₀ : Heap} {L : Addr} {m : Str → Option Value} {s : Shared} {Q E : Value → Shared → Prop}
  {k : Str} {t v : Tok} {x n : Int} {o od : Addr} {c1 c2 c3 c4 c5 c6 : Tok} {zk : Int} (B : Below A₀ base outer h₀) (F : Fr h₀ L s.heap m) (X : (kk.heap_1 w.params).In h₀) (N : News h₀ L s.heap [(o, instObj 411 od), (od, immO w c1 c2 c3 c4 c5 c6 x)]) (T : Top p loose mean mg mb h₀)
    (hd : dp + 36 < 1000) (hu : un + 220 < 9900) (hK : ImmKind k zk)
    (ret : ∀   (h' : Heap) (tk' : Nat), Fr h₀ L h' m → InElt s.heap h' → News h₀ L h' [] → Q (.bool (fitsB x zk)) { s with heap := h', toks := tk' }) :
    wpAny (model Challenge.rw_nz0171_01.row.prog w) (ktrTop dp un gd cn ⟨.function, nms, isg, isc, scm⟩ L a ccd cl outer) (call (.ref 199) [.str k t, .ref o, .int n v]) Q E s := by
  let no0 : Obj := instObj 411 od
  let no1 : Obj := immO w c1 c2 c3 c4 c5 c6 x
  replace N : News h₀ L s.heap [(o, no0), (od, no1)] := N
  w_on; revert X; k_fill; intro X; have cE0 := InElt.start s.heap; refine wpAny_call ?_; k_dflt k_enter; k_steps
  all_goals ((refine' retB ?ceq (ret _ _ ?cF ?cE ?cN); (case cF => assumption); (case cE => assumption); (case cN => (first | assumption | (refine' cb_drop ?cbN ?cbS; (case cbN => assumption); (case cbS => kcj_all)))); (case ceq => (law_clear; first | rfl | (simp_all; done) | fail "c eq"))))

theorem row66 : True := by
  k_with "call ref" => ((with_reducible show wpAny _ _ (call (Value.ref 199) [_, Value.ref _, _]) _ _ _); k_dflt (refine' takes_imm_c ?k1 ?k2 ?k3 (cb_drop ?k4 ?k9) ?k5 ?k7 ?k8 ?h0 ?_; (case k1 => k_asm); (case k2 => k_asm); (case k3 => k_asm); (case k4 => k_asm); (case k5 => k_asm); (case k9 => repeat (first | exact subNil | refine subCons (by k_mem) ?_)); (case k7 => (first | exact roomA hd rfl | exact roomB hd rfl | ((try simp only [depth_mark, depth_under_make, depth_under_kw, depth_in1, depth_deeper, depth_caller]); (try dsimp only [ktrTop]); omega))); (case k8 => (first | exact unitA hu rfl | ((try simp only [units_under_make, units_in1, units_deeper, Around.mark_units, units_caller]); (try dsimp only [ktrTop]); omega))); (case h0 => first | assumption | omega | decide); k_whole); intro   h9 tk9  F9 E9 N9; (k_dflt (replace N9 := newsApp N9 E9 (by k_asm))); clear E9; (try dsimp only [List.nil_append, List.cons_append, List.append_nil] at N9); (try simp only [List.append_nil] at N9); (try dsimp only); (try k_fold); (try k_sweep); walk_say "CONTRACT takes_imm_c")
  trivial
set_option maxRecDepth 100000 in
set_option maxHeartbeats 0 in
theorem takes_no_c
  {w : World} {p : Program} {loose : List Str} {mean : ExcName → Option Value} {mg mb : Str → Option Value}
  {dp un : Nat} {gd : Option (List Code)} {cn : Str} {nms : List (Str × NameKind)} {isg isc : Bool} {scm : List (Str × Const)} {a : Addr} {ccd : Value} {cl : List (Str × Addr)} {outer : List Env} {A₀ : Around} {base h₀ : Heap} {L : Addr} {m : Str → Option Value} {s : Shared} {Q E : Value → Shared → Prop}
  {k : Str} {t v : Tok} {x n : Int} {o od : Addr} {c1 c2 c3 c4 c5 c6 : Tok} (B : Below A₀ base outer h₀) (F : Fr h₀ L s.heap m) (X : (kk.heap_1 w.params).In h₀) (N : News h₀ L s.heap [(o, instObj 411 od), (od, immO w c1 c2 c3 c4 c5 c6 x)]) (T : Top p loose mean mg mb h₀)
    (hd : dp + 36 < 1000) (hu : un + 220 < 9900) (hK : NoImm k)
    (ret : ∀   (h' : Heap) (tk' : Nat), Fr h₀ L h' m → InElt s.heap h' → News h₀ L h' [] → Q (.bool (false)) { s with heap := h', toks := tk' }) :
    wpAny (model Challenge.rw_nz0171_01.row.prog w) (ktrTop dp un gd cn ⟨.function, nms, isg, isc, scm⟩ L a ccd cl outer) (call (.ref 199) [.str k t, .ref o, .int n v]) Q E s := by
  let no0 : Obj := instObj 411 od
  let no1 : Obj := immO w c1 c2 c3 c4 c5 c6 x
  replace N : News h₀ L s.heap [(o, no0), (od, no1)] := N
  w_on; revert X; k_fill; intro X; have cE0 := InElt.start s.heap; refine wpAny_call ?_; k_dflt k_enter; k_steps
  all_goals ((refine' retB ?ceq (ret _ _ ?cF ?cE ?cN); (case cF => assumption); (case cE => assumption); (case cN => (first | assumption | (refine' cb_drop ?cbN ?cbS; (case cbN => assumption); (case cbS => kcj_all)))); (case ceq => (law_clear; first | rfl | (simp_all; done) | fail "c eq"))))

theorem row67 : True := by
  k_with "call ref" => ((with_reducible show wpAny _ _ (call (Value.ref 199) [_, Value.ref _, _]) _ _ _); k_dflt (refine' takes_no_c ?k1 ?k2 ?k3 (cb_drop ?k4 ?k9) ?k5 ?k7 ?k8 ?h0 ?_; (case k1 => k_asm); (case k2 => k_asm); (case k3 => k_asm); (case k4 => k_asm); (case k5 => k_asm); (case k9 => repeat (first | exact subNil | refine subCons (by k_mem) ?_)); (case k7 => (first | exact roomA hd rfl | exact roomB hd rfl | ((try simp only [depth_mark, depth_under_make, depth_under_kw, depth_in1, depth_deeper, depth_caller]); (try dsimp only [ktrTop]); omega))); (case k8 => (first | exact unitA hu rfl | ((try simp only [units_under_make, units_in1, units_deeper, Around.mark_units, units_caller]); (try dsimp only [ktrTop]); omega))); (case h0 => first | assumption | omega | decide); k_whole); intro   h9 tk9  F9 E9 N9; (k_dflt (replace N9 := newsApp N9 E9 (by k_asm))); clear E9; (try dsimp only [List.nil_append, List.cons_append, List.append_nil] at N9); (try simp only [List.append_nil] at N9); (try dsimp only); (try k_fold); (try k_sweep); walk_say "CONTRACT takes_no_c")
  trivial
set_option maxRecDepth 100000 in
set_option maxHeartbeats 0 in
theorem takes_s32_c
  {w : World} {p : Program} {loose : List Str} {mean : ExcName → Option Value} {mg mb : Str → Option Value}
  {dp un : Nat} {gd : Option (List Code)} {cn : Str} {nms : List (Str × NameKind)} {isg isc : Bool} {scm : List (Str × Const)} {a : Addr} {ccd : Value} {cl : List (Str × Addr)} {outer : List Env} {A₀ : Around} {base h₀ : Heap} {L : Addr} {m : Str → Option Value} {s : Shared} {Q E : Value → Shared → Prop}
  {k : Str} {t v : Tok} {x n : Int} {o od : Addr} {c1 c2 c3 c4 c5 c6 : Tok} (B : Below A₀ base outer h₀) (F : Fr h₀ L s.heap m) (X : (kk.heap_1 w.params).In h₀) (N : News h₀ L s.heap [(o, instObj 411 od), (od, immO w c1 c2 c3 c4 c5 c6 x)]) (T : Top p loose mean mg mb h₀)
    (hd : dp + 36 < 1000) (hu : un + 220 < 9900) (h0 : 1 ≤ n) (h1 : n ≤ 64)
    (ret : ∀   (h' : Heap) (tk' : Nat), Fr h₀ L h' m → InElt s.heap h' → News h₀ L h' [] → Q (.bool (fitsB x n && (x % 2 ^ n.toNat == sgn32 x % 2 ^ n.toNat))) { s with heap := h', toks := tk' }) :
    wpAny (model Challenge.rw_nz0171_01.row.prog w) (ktrTop dp un gd cn ⟨.function, nms, isg, isc, scm⟩ L a ccd cl outer) (call (.ref 199) [.str "simm32" t, .ref o, .int n v]) Q E s := by
  let no0 : Obj := instObj 411 od
  let no1 : Obj := immO w c1 c2 c3 c4 c5 c6 x
  replace N : News h₀ L s.heap [(o, no0), (od, no1)] := N
  w_on; revert X; k_fill; intro X; have cE0 := InElt.start s.heap; refine wpAny_call ?_; k_dflt k_enter; k_steps
  all_goals ((refine' retB ?ceq (ret _ _ ?cF ?cE ?cN); (case cF => assumption); (case cE => assumption); (case cN => (first | assumption | (refine' cb_drop ?cbN ?cbS; (case cbN => assumption); (case cbS => kcj_all)))); (case ceq => (law_clear; first | rfl | (simp_all; done) | fail "c eq"))))

theorem row68 : True := by
  k_with "call ref" => ((with_reducible show wpAny _ _ (call (Value.ref 199) [Value.str "simm32" _, Value.ref _, _]) _ _ _); k_dflt (refine' takes_s32_c ?k1 ?k2 ?k3 (cb_drop ?k4 ?k9) ?k5 ?k7 ?k8 ?h0 ?h1 ?_; (case k1 => k_asm); (case k2 => k_asm); (case k3 => k_asm); (case k4 => k_asm); (case k5 => k_asm); (case k9 => repeat (first | exact subNil | refine subCons (by k_mem) ?_)); (case k7 => (first | exact roomA hd rfl | exact roomB hd rfl | ((try simp only [depth_mark, depth_under_make, depth_under_kw, depth_in1, depth_deeper, depth_caller]); (try dsimp only [ktrTop]); omega))); (case k8 => (first | exact unitA hu rfl | ((try simp only [units_under_make, units_in1, units_deeper, Around.mark_units, units_caller]); (try dsimp only [ktrTop]); omega))); (case h0 => first | assumption | omega | decide); (case h1 => first | assumption | omega | decide); k_whole); intro   h9 tk9  F9 E9 N9; (k_dflt (replace N9 := newsApp N9 E9 (by k_asm))); clear E9; (try dsimp only [List.nil_append, List.cons_append, List.append_nil] at N9); (try simp only [List.append_nil] at N9); (try dsimp only); (try k_fold); (try k_sweep); walk_say "CONTRACT takes_s32_c")
  trivial
section
variable {prog : Program} {w : World} {A : Around} {E : Value → Shared → Prop} {s : Shared} {env : Env} {h₀ : Heap} {body : List Stmt} {Q : Flow → Shared → Prop}
theorem enumT_turns {elts : List Expr} {k : Nat} {pos : Pos} {l : Addr} {x1 x2 : Value} {m₀ : Str → Option Value} {news : List (Addr × Obj)}
    (hh : A.handled = none) (F : Fr h₀ env.locals s.heap m₀) (N : News h₀ env.locals s.heap news) (hm : (l, tupO [x1, x2]) ∈ news)
    (rest₀ : ∀ I : Addr, (∀ p ∈ news, p.1 < I) → ItemsRest prog w A E h₀ env (.Tuple elts k pos) body Q s [(I + 1, "enumerate"), (I, "tuple_iterator")] [(l, tupO [x1, x2])] [.pair (fun t => .int (0 : Int) t) x1, .pair (fun t => .int (1 : Int) t) x2] m₀ news) :
    wpAny (model prog w) A (call (.type "enumerate") [.ref l]) (fun xv s₁ => wpAny (model prog w) A (pyIter xv) (fun it s₂ => TurnsAt prog w A h₀ env (.Tuple elts k pos) body Q E it s₂) E s₁) E s := by
  have hax := N _ hm
  have hl : s.heap.IsTuple l [x1, x2].toArray := ⟨_, hax.1, rfl, _, rfl⟩
  have hlt : l < s.heap.objs.size := Heap.lt_size hax.1
  have hLs : env.locals < s.heap.objs.size := F.ns.lt
  refine enumT_call hl fun h' hI hE hk => ?_
  refine wpAny_pyIter_enum hE ?_
  refine ktu_core (tk0 := s.toks) (keep := [(l, tupO [x1, x2])]) (KTurns.ofWalksU (WalksT.enumerateD (drawsTup (A := A.in1) hh s.heap.objs.size l (Nat.ne_of_lt hlt) [x1, x2].toArray) (s.heap.objs.size + 1) (Nat.succ_ne_self _) ?_ (by simp)).toU) rfl ?_ ?_ ?_ ?_ ?_ ?_ ?_ ?_ (F.keeps hk) (N.grown hk) (And.intro hm trivial) (rest₀ _ fun p hp => Heap.lt_size (N p hp).1)
  · intro hb
    have hb' : s.heap.objs.size + 1 = s.heap.objs.size ∨ s.heap.objs.size + 1 = l := by simpa using hb
    rcases hb' with e | e
    · exact Nat.succ_ne_self _ e
    · exact ktu_ne 1 hlt e.symm
  · rintro i v h ⟨T, vals, rfl, ⟨t, x, hx, rfl⟩, hT⟩
    match i, hx with
    | 0, hx => cases hx; exact ⟨_, rfl, T, t, rfl, hT⟩
    | 1, hx => cases hx; exact ⟨_, rfl, T, t, rfl, hT⟩
    | i + 2, hx => cases hx
  · rintro i h ⟨⟨old, he⟩, ⟨oi, hoi, hic, _⟩, _⟩
    have he' : ∃ oe : Obj, h.get? (s.heap.objs.size + 1) = some oe ∧ oe.cls = .type "enumerate" := ⟨_, he, rfl⟩
    obtain ⟨oe, h1, h2⟩ := he'
    refine ⟨[(s.heap.objs.size + 1, oe), (s.heap.objs.size, oi)], ⟨⟨rfl, h2⟩, ⟨rfl, hic⟩, trivial⟩, fun p hp => ?_⟩
    rcases List.mem_cons.mp hp with rfl | hp
    · exact h1
    · rw [List.mem_singleton.mp hp]; exact hoi
  · intro b hb
    have hb' : b = s.heap.objs.size + 1 ∨ b = s.heap.objs.size := by simpa using hb
    rcases hb' with rfl | rfl
    · exact ⟨by simp, ktu_new F (Nat.le_add_right _ _)⟩
    · exact ⟨by simp, ktu_new F (Nat.le_refl _)⟩
  · intro b hb
    simpa using hb
  · intro b hb
    have hb' : b = s.heap.objs.size + 1 ∨ b = s.heap.objs.size ∨ b = l := by simpa using hb
    rcases hb' with rfl | rfl | rfl
    · exact .inl (by simp)
    · exact .inl (by simp)
    · exact .inr ⟨_, List.mem_singleton.mpr rfl⟩
  · intro hI'
    have hb' : env.locals = s.heap.objs.size + 1 ∨ env.locals = s.heap.objs.size ∨ env.locals = l := by simpa using hI'
    rcases hb' with e | e | e
    · exact ktu_ne 1 hLs e
    · exact Nat.ne_of_lt hLs e
    · exact hax.2.1 e.symm
  · intro p hp hI'
    have hb' : p.1 = s.heap.objs.size + 1 ∨ p.1 = s.heap.objs.size := by simpa using hI'
    have hlp := Heap.lt_size (N p hp).1
    rcases hb' with e | e
    · exact ktu_ne 1 hlp e
    · exact Nat.ne_of_lt hlp e
  · exact ⟨⟨.none, hE⟩, ⟨_, hI, rfl, rfl⟩, hl.at fun o e => hk l o e⟩
theorem notIn2 {a b c : Addr} (h1 : a ≠ b) (h2 : a ≠ c) : a ∉ [b, c] := by simp [h1, h2]
theorem apartN (I l1 l2 : Nat) (h1 : l1 < I) (h2 : l2 < I) : Apart (I + 4) (I + 2) (I + 3) I (I + 1) [I, l1] [I + 1, l2] := by
  constructor <;> first | exact List.mem_cons_self .. | (refine neN ?_; omega) | (refine notIn2 (neN ?_) (neN ?_) <;> omega)
theorem zipT_turns {elts : List Expr} {k : Nat} {pos : Pos} {l1 l2 : Addr} {x1 x2 y1 y2 : Value} {m₀ : Str → Option Value} {news : List (Addr × Obj)}
    (hh : A.handled = none) (F : Fr h₀ env.locals s.heap m₀) (N : News h₀ env.locals s.heap news) (hm1 : (l1, tupO [x1, x2]) ∈ news) (hm2 : (l2, tupO [y1, y2]) ∈ news)
    (rest₀ : ∀ I : Addr, (∀ p ∈ news, p.1 < I) → ItemsRest prog w A E h₀ env (.Tuple elts k pos) body Q s [(I + 4, "zip"), (I + 2, "tuple"), (I + 3, "tuple"), (I, "tuple_iterator"), (I + 1, "tuple_iterator")] [(l1, tupO [x1, x2]), (l2, tupO [y1, y2])] [.pair (fun _ => x1) y1, .pair (fun _ => x2) y2] m₀ news) :
    wpAny (model prog w) A (call (.type "zip") [.ref l1, .ref l2]) (fun xv s₁ => wpAny (model prog w) A (pyIter xv) (fun it s₂ => TurnsAt prog w A h₀ env (.Tuple elts k pos) body Q E it s₂) E s₁) E s := by
  have hax1 := N _ hm1
  have hax2 := N _ hm2
  have hl1 : s.heap.IsTuple l1 [x1, x2].toArray := ⟨_, hax1.1, rfl, _, rfl⟩
  have hl2 : s.heap.IsTuple l2 [y1, y2].toArray := ⟨_, hax2.1, rfl, _, rfl⟩
  have hlt1 : l1 < s.heap.objs.size := Heap.lt_size hax1.1
  have hlt2 : l2 < s.heap.objs.size := Heap.lt_size hax2.1
  have hLs : env.locals < s.heap.objs.size := F.ns.lt
  have X : Apart (s.heap.objs.size + 4) (s.heap.objs.size + 2) (s.heap.objs.size + 3) s.heap.objs.size (s.heap.objs.size + 1) [s.heap.objs.size, l1] [s.heap.objs.size + 1, l2] := by
    exact apartN _ _ _ hlt1 hlt2
  refine zipT_call hl1 hl2 fun h' hi1 hi2 hTI hTO hz hk => ?_
  refine wpAny_pyIter_zip hz ?_
  refine ktu_core (tk0 := s.toks) (keep := [(l1, tupO [x1, x2]), (l2, tupO [y1, y2])]) (KTurns.ofWalksU (zipD_walks (drawsTup (A := A.in1) hh s.heap.objs.size l1 (Nat.ne_of_lt hlt1) [x1, x2].toArray) (drawsTup (A := A.in1) hh (s.heap.objs.size + 1) l2 (ktu_ne 1 hlt2) [y1, y2].toArray) X).toU) rfl ?_ ?_ ?_ ?_ ?_ ?_ ?_ ?_ (F.keeps hk) (N.grown hk) (And.intro hm1 (And.intro hm2 trivial)) (rest₀ _ fun p hp => Heap.lt_size (N p hp).1)
  · rintro i v h ⟨T, vals, rfl, ⟨x, y, hx, hy, rfl⟩, hT⟩
    match i, hx, hy with
    | 0, hx, hy => cases hx; cases hy; exact ⟨_, rfl, T, 0, rfl, hT⟩
    | 1, hx, hy => cases hx; cases hy; exact ⟨_, rfl, T, 0, rfl, hT⟩
    | i + 2, hx, _ => cases hx
  · rintro i h ⟨hz, hTI, ⟨a, b, hTO⟩, ⟨⟨o1, ho1, hc1, _⟩, _⟩, ⟨o2, ho2, hc2, _⟩, _⟩
    have e1 : ∃ o : Obj, h.get? (s.heap.objs.size + 4) = some o ∧ o.cls = .type "zip" := ⟨_, hz, rfl⟩
    have e2 : ∃ o : Obj, h.get? (s.heap.objs.size + 2) = some o ∧ o.cls = .type "tuple" := ⟨_, hTI, rfl⟩
    have e3 : ∃ o : Obj, h.get? (s.heap.objs.size + 3) = some o ∧ o.cls = .type "tuple" := ⟨_, hTO, rfl⟩
    obtain ⟨q1, g1, k1⟩ := e1
    obtain ⟨q2, g2, k2⟩ := e2
    obtain ⟨q3, g3, k3⟩ := e3
    refine ⟨[(s.heap.objs.size + 4, q1), (s.heap.objs.size + 2, q2), (s.heap.objs.size + 3, q3), (s.heap.objs.size, o1), (s.heap.objs.size + 1, o2)], ⟨⟨rfl, k1⟩, ⟨rfl, k2⟩, ⟨rfl, k3⟩, ⟨rfl, hc1⟩, ⟨rfl, hc2⟩, trivial⟩, fun p hp => ?_⟩
    simp only [List.mem_cons, List.not_mem_nil, or_false] at hp
    rcases hp with rfl | rfl | rfl | rfl | rfl <;> assumption
  · intro b hb
    have hb' : b = s.heap.objs.size + 4 ∨ b = s.heap.objs.size + 2 ∨ b = s.heap.objs.size + 3 ∨ b = s.heap.objs.size ∨ b = s.heap.objs.size + 1 := by simpa using hb
    rcases hb' with rfl | rfl | rfl | rfl | rfl <;> exact ⟨by simp, ktu_new F (by omega)⟩
  · intro b hb
    have hb' : b = s.heap.objs.size + 4 ∨ b = s.heap.objs.size + 3 ∨ b = s.heap.objs.size ∨ b = s.heap.objs.size + 1 := by simpa using hb
    rcases hb' with rfl | rfl | rfl | rfl <;> simp
  · intro b hb
    have hb' : b = s.heap.objs.size + 4 ∨ b = s.heap.objs.size + 2 ∨ b = s.heap.objs.size + 3 ∨ b = s.heap.objs.size ∨ b = l1 ∨ b = s.heap.objs.size + 1 ∨ b = l2 := by simpa using hb
    rcases hb' with rfl | rfl | rfl | rfl | rfl | rfl | rfl
    · exact .inl (by simp)
    · exact .inl (by simp)
    · exact .inl (by simp)
    · exact .inl (by simp)
    · exact .inr ⟨_, List.mem_cons_self ..⟩
    · exact .inl (by simp)
    · exact .inr ⟨_, List.mem_cons_of_mem _ (List.mem_singleton.mpr rfl)⟩
  · intro hI'
    have hb' : env.locals = s.heap.objs.size + 4 ∨ env.locals = s.heap.objs.size + 2 ∨ env.locals = s.heap.objs.size + 3 ∨ env.locals = s.heap.objs.size ∨ env.locals = l1 ∨ env.locals = s.heap.objs.size + 1 ∨ env.locals = l2 := by simpa using hI'
    have n1 := hax1.2.1
    have n2 := hax2.2.1
    rcases hb' with e | e | e | e | e | e | e
    · exact ktu_ne 4 hLs e
    · exact ktu_ne 2 hLs e
    · exact ktu_ne 3 hLs e
    · exact Nat.ne_of_lt hLs e
    · exact n1 e.symm
    · exact ktu_ne 1 hLs e
    · exact n2 e.symm
  · intro p hp hI'
    have hb' : p.1 = s.heap.objs.size + 4 ∨ p.1 = s.heap.objs.size + 3 ∨ p.1 = s.heap.objs.size ∨ p.1 = s.heap.objs.size + 1 := by simpa using hI'
    have hlp := Heap.lt_size (N p hp).1
    rcases hb' with e | e | e | e
    · exact ktu_ne 4 hlp e
    · exact ktu_ne 3 hlp e
    · exact Nat.ne_of_lt hlp e
    · exact ktu_ne 1 hlp e
  · exact ⟨hz, hTI, ⟨_, _, hTO⟩, ⟨⟨_, hi1, rfl, rfl⟩, hl1.at fun o e => hk l1 o e⟩, ⟨_, hi2, rfl, rfl⟩, hl2.at fun o e => hk l2 o e⟩
end
theorem row69 : True := by
  k_with "exec For Tuple Call cons nil" => ((k_here; (with_reducible show wpAny _ _ (exec (Stmt.For (Expr.Tuple _ _ _) (Expr.Call (Expr.Name _ _) _ _ _) _ _ _) _) _ _ _); (rename Fr _ _ _ _ => lF'); (with_unfolding_all refine' For_turns lF' ?_; k_whole)))
  trivial
theorem row70 : True := by
  k_with "call type:enumerate" => ((k_here; (with_reducible show wpAny _ _ (call (Value.type _) [Value.ref _]) (fun xv s₁ => wpAny _ _ (pyIter xv) (fun it s₂ => TurnsAt _ _ _ _ _ _ _ _ _ it s₂) _ s₁) _ _); (rename Fr _ _ _ _ => lF'); (with_unfolding_all refine' enumT_turns ?hh lF' ?N ?m ?_; (case hh => rfl); (case N => k_asm); (case m => k_mem)); clear lF'; intro i' l1; (try k_lt l1)))
  trivial
theorem row71 : True := by
  k_with "call type:zip" => ((k_here; (with_reducible show wpAny _ _ (call (Value.type _) [Value.ref _, Value.ref _]) (fun xv s₁ => wpAny _ _ (pyIter xv) (fun it s₂ => TurnsAt _ _ _ _ _ _ _ _ _ it s₂) _ s₁) _ _); (rename Fr _ _ _ _ => lF'); (with_unfolding_all refine' zipT_turns ?hh lF' ?N ?m ?n ?_; (case hh => rfl); (case N => k_asm); (case m => k_mem); (case n => k_mem)); clear lF'; intro i' l1; (try k_lt l1)))
  trivial
set_option maxRecDepth 100000 in
set_option maxHeartbeats 0 in
theorem takes_w
  {w : World} {p : Program} {loose : List Str} {mean : ExcName → Option Value} {mg mb : Str → Option Value}
  {dp un : Nat} {gd : Option (List Code)} {cn : Str} {nms : List (Str × NameKind)} {isg isc : Bool} {scm : List (Str × Const)} {a : Addr} {ccd : Value} {cl : List (Str × Addr)} {outer : List Env} {A₀ : Around} {base h₀ : Heap} {L : Addr} {m : Str → Option Value} {s : Shared} {Q E : Value → Shared → Prop}
  {k : Str} {t v : Tok} {x n : Int} {o od : Addr} {c1 c2 c3 c4 c5 c6 : Tok} {b : Bool} (B : Below A₀ base outer h₀) (F : Fr h₀ L s.heap m) (X : (kk.heap_1 w.params).In h₀) (N : News h₀ L s.heap [(o, instObj 411 od), (od, immO w c1 c2 c3 c4 c5 c6 x)]) (T : Top p loose mean mg mb h₀)
    (hd : dp + 36 < 1000) (hu : un + 220 < 9900) (hI : ImmWord k x n b)
    (ret : ∀   (h' : Heap) (tk' : Nat), Fr h₀ L h' m → InElt s.heap h' → News h₀ L h' [] → Q (.bool b) { s with heap := h', toks := tk' }) :
    wpAny (model Challenge.rw_nz0171_01.row.prog w) (ktrTop dp un gd cn ⟨.function, nms, isg, isc, scm⟩ L a ccd cl outer) (call (.ref 199) [.str k t, .ref o, .int n v]) Q E s := by
  let no0 : Obj := instObj 411 od
  let no1 : Obj := immO w c1 c2 c3 c4 c5 c6 x
  replace N : News h₀ L s.heap [(o, no0), (od, no1)] := N
  cases hI with
  | imm h => exact takes_imm_c B F X N T hd hu h ret
  | no h => exact takes_no_c B F X N T hd hu h ret
  | s32 h h0 h1 => subst h; exact takes_s32_c (k := "simm32") B F X N T hd hu h0 h1 ret

theorem row72 : True := by
  k_with "call ref" => ((with_reducible show wpAny _ _ (call (Value.ref 199) [_, Value.ref _, _]) _ _ _); k_dflt (refine' takes_w ?k1 ?k2 ?k3 (cb_drop ?k4 ?k9) ?k5 ?k7 ?k8 ?h0 ?_; (case k1 => k_asm); (case k2 => k_asm); (case k3 => k_asm); (case k4 => k_asm); (case k5 => k_asm); (case k9 => repeat (first | exact subNil | refine subCons (by k_mem) ?_)); (case k7 => (first | exact roomA hd rfl | exact roomB hd rfl | ((try simp only [depth_mark, depth_under_make, depth_under_kw, depth_in1, depth_deeper, depth_caller]); (try dsimp only [ktrTop]); omega))); (case k8 => (first | exact unitA hu rfl | ((try simp only [units_under_make, units_in1, units_deeper, Around.mark_units, units_caller]); (try dsimp only [ktrTop]); omega))); (case h0 => first | assumption | omega | decide); k_whole); intro   h9 tk9  F9 E9 N9; (k_dflt (replace N9 := newsApp N9 E9 (by k_asm))); clear E9; (try dsimp only [List.nil_append, List.cons_append, List.append_nil] at N9); (try simp only [List.append_nil] at N9); (try dsimp only); (try k_fold); (try k_sweep); walk_say "CONTRACT takes_w")
  trivial
set_option maxRecDepth 100000 in
set_option maxHeartbeats 0 in
theorem matches_c
  {w : World} {p : Program} {loose : List Str} {mean : ExcName → Option Value} {mg mb : Str → Option Value}
  {dp un : Nat} {gd : Option (List Code)} {cn : Str} {nms : List (Str × NameKind)} {isg isc : Bool} {scm : List (Str × Const)} {a : Addr} {ccd : Value} {cl : List (Str × Addr)} {outer : List Env} {A₀ : Around} {base h₀ : Heap} {L : Addr} {m : Str → Option Value} {s : Shared} {Q E : Value → Shared → Prop}
  {k1 k2 : Str} {op es dg sz : Int} {f fd pt kt : Addr} {a1 a2 a3 a4 a5 a6 a7 a8 a9 a0 tn to te td ts tm tx t1 t2 u1 u2 : Tok} {i id ot o1 d1 o2 d2 r rd : Addr} {i1 i2 i3 i4 i5 p1 p2 p3 q1 q2 q3 q4 q5 q6 r1 r2 r3 r4 rk1 rn1 rz1 : Tok} {nm : Value} {rk : Str} {x n z : Int} {zk : Int} {b : Bool} (B : Below A₀ base outer h₀) (F : Fr h₀ L s.heap m) (X : (kk.heap_1 w.params).In h₀) (N : News h₀ L s.heap [(f, instObj 257 fd), (fd, formD w a1 a2 a3 a4 a5 a6 a7 a8 a9 a0 "mov" tn kt op to es te dg td sz ts tm tx pt), (pt, tupO [.str (slotOf k1) u1, .str (slotOf k2) u2]), (kt, tupO [.str k1 t1, .str k2 t2]), (i, instObj 464 id), (id, insD w i1 i2 i3 i4 i5 ot), (ot, tupO [.ref o1, .ref o2]), (o1, instObj 377 d1), (d1, regO w p1 p2 p3 r), (o2, instObj 411 d2), (d2, immO w q1 q2 q3 q4 q5 q6 x), (r, instObj 938 rd), (rd, regD w r1 r2 r3 r4 nm rk rk1 n rn1 z rz1)]) (T : Top p loose mean mg mb h₀)
    (hd : dp + 44 < 1000) (hu : un + 280 < 9900) (hK : RegKind k1 zk) (hrk : (["gpr", "high"] : List Str).any (fun x => x == rk) = true) (hI : ImmWord k2 x sz b)
    (ret : ∀   (h' : Heap) (tk' : Nat), Fr h₀ L h' m → InElt s.heap h' → News h₀ L h' [] → Q (.bool (decide (z = zk) && b)) { s with heap := h', toks := tk' }) :
    wpAny (model Challenge.rw_nz0171_01.row.prog w) (ktrTop dp un gd cn ⟨.function, nms, isg, isc, scm⟩ L a ccd cl outer) (call (.ref 268) [.ref f, .ref i]) Q E s := by
  let no0 : Obj := instObj 257 fd
  let no1 : Obj := formD w a1 a2 a3 a4 a5 a6 a7 a8 a9 a0 "mov" tn kt op to es te dg td sz ts tm tx pt
  let no2 : Obj := tupO [.str (slotOf k1) u1, .str (slotOf k2) u2]
  let no3 : Obj := tupO [.str k1 t1, .str k2 t2]
  let no4 : Obj := instObj 464 id
  let no5 : Obj := insD w i1 i2 i3 i4 i5 ot
  let no6 : Obj := tupO [.ref o1, .ref o2]
  let no7 : Obj := instObj 377 d1
  let no8 : Obj := regO w p1 p2 p3 r
  let no9 : Obj := instObj 411 d2
  let no10 : Obj := immO w q1 q2 q3 q4 q5 q6 x
  let no11 : Obj := instObj 938 rd
  let no12 : Obj := regD w r1 r2 r3 r4 nm rk rk1 n rn1 z rz1
  replace N : News h₀ L s.heap [(f, no0), (fd, no1), (pt, no2), (kt, no3), (i, no4), (id, no5), (ot, no6), (o1, no7), (d1, no8), (o2, no9), (d2, no10), (r, no11), (rd, no12)] := N
  w_on; revert X; k_fill; intro X; have cE0 := InElt.start s.heap; k_steps
  all_goals (refine' retB ?ceq (ret _ _ ?cF ?cE ?cN); (case cF => assumption); (case cE => assumption); (case cN => (first | assumption | (refine' cb_drop ?cbN ?cbS; (case cbN => assumption); (case cbS => kcj_all)))); (case ceq => (law_clear; simp_all; done)))

theorem row73 : True := by
  k_with "call ref" => ((with_reducible show wpAny _ _ (call (Value.ref 268) _) _ _ _); k_dflt (refine' matches_c ?k1 ?k2 ?k3 (cb_drop ?k4 ?k9) ?k5 ?k7 ?k8 ?h0 ?h1 ?h2 ?_; (case k1 => k_asm); (case k2 => k_asm); (case k3 => k_asm); (case k4 => k_asm); (case k5 => k_asm); (case k9 => repeat (first | exact subNil | refine subCons (by k_mem) ?_)); (case k7 => (first | exact roomA hd rfl | exact roomB hd rfl | ((try simp only [depth_mark, depth_under_make, depth_under_kw, depth_in1, depth_deeper, depth_caller]); (try dsimp only [ktrTop]); omega))); (case k8 => (first | exact unitA hu rfl | ((try simp only [units_under_make, units_in1, units_deeper, Around.mark_units, units_caller]); (try dsimp only [ktrTop]); omega))); (case h0 => first | assumption | omega | decide); (case h1 => first | assumption | omega | decide); (case h2 => first | assumption | omega | decide); k_whole); intro   h9 tk9  F9 E9 N9; (k_dflt (replace N9 := newsApp N9 E9 (by k_asm))); clear E9; (try dsimp only [List.nil_append, List.cons_append, List.append_nil] at N9); (try simp only [List.append_nil] at N9); (try dsimp only); (try k_fold); (try k_sweep); walk_say "CONTRACT matches_c")
  trivial

theorem row74 : True := by
  k_with "LeaveK" => ((k_dflt k_eltLeave; walk_at "LeaveK"))
  trivial
def bit7 (n : Int) : Int := if decide (7 < n) = true then 1 else 0
def needsR (rk : Str) (n z : Int) : Bool := if rk == "gpr" && decide (z = 8) then decide (3 < n) else decide (7 < n)
def preB (b : Bool) (v : Int) : Array UInt8 := ((if b then [102] else []) ++ (if v = -1 then [] else [v.toNat.toUInt8])).toArray
theorem int01 {c : Prop} [Decidable c] {x : Int} (h : x = if c then 1 else 0) : x = 0 ∨ x = 1 := by rw [h]; split <;> simp
set_option maxRecDepth 100000 in
set_option maxHeartbeats 0 in
theorem code_c
  {w : World} {p : Program} {loose : List Str} {mean : ExcName → Option Value} {mg mb : Str → Option Value}
  {dp un : Nat} {gd : Option (List Code)} {cn : Str} {nms : List (Str × NameKind)} {isg isc : Bool} {scm : List (Str × Const)} {a : Addr} {ccd : Value} {cl : List (Str × Addr)} {outer : List Env} {A₀ : Around} {base h₀ : Heap} {L : Addr} {m : Str → Option Value} {s : Shared} {Q E : Value → Shared → Prop}
  {r rd : Addr} {r1 r2 r3 r4 rk1 rn1 rz1 : Tok} {nm : Value} {rk : Str} {n z : Int} (B : Below A₀ base outer h₀) (F : Fr h₀ L s.heap m) (X : (kk.heap_1 w.params).In h₀) (N : News h₀ L s.heap [(r, instObj 938 rd), (rd, regD w r1 r2 r3 r4 nm rk rk1 n rn1 z rz1)]) (T : Top p loose mean mg mb h₀)
    (hd : dp + 20 < 1000) (hu : un + 100 < 9900) 
    (ret : ∀ (t' : Tok)  (h' : Heap) (tk' : Nat), Fr h₀ L h' m → InElt s.heap h' → News h₀ L h' [] → Q (.int (n % 8) t') { s with heap := h', toks := tk' }) :
    wpAny (model Challenge.rw_nz0171_01.row.prog w) (ktrTop dp un gd cn ⟨.function, nms, isg, isc, scm⟩ L a ccd cl outer) (call (.ref 907) [.ref r]) Q E s := by
  let no0 : Obj := instObj 938 rd
  let no1 : Obj := regD w r1 r2 r3 r4 nm rk rk1 n rn1 z rz1
  replace N : News h₀ L s.heap [(r, no0), (rd, no1)] := N
  w_on; revert X; k_fill; intro X; have cE0 := InElt.start s.heap; refine wpAny_call ?_; k_dflt k_enter; k_steps
  all_goals (refine' retI ?ceq (ret _ _ _ ?cF ?cE ?cN); (case cF => assumption); (case cE => assumption); (case cN => (first | assumption | (refine' cb_drop ?cbN ?cbS; (case cbN => assumption); (case cbS => kcj_all)))); (case ceq => (law_clear; first | rfl | (simp_all; done) | (simp_all; omega))))
theorem row75 : True := by
  k_with "call ref" => ((with_reducible show wpAny _ _ (call (Value.ref 907) _) _ _ _); k_dflt (refine' code_c ?k1 ?k2 ?k3 (cb_drop ?k4 ?k9) ?k5 ?k7 ?k8  ?_; (case k1 => k_asm); (case k2 => k_asm); (case k3 => k_asm); (case k4 => k_asm); (case k5 => k_asm); (case k9 => repeat (first | exact subNil | refine subCons (by k_mem) ?_)); (case k7 => (first | exact roomA hd rfl | exact roomB hd rfl | ((try simp only [depth_mark, depth_under_make, depth_under_kw, depth_in1, depth_deeper, depth_caller]); (try dsimp only [ktrTop]); omega))); (case k8 => (first | exact unitA hu rfl | ((try simp only [units_under_make, units_in1, units_deeper, Around.mark_units, units_caller]); (try dsimp only [ktrTop]); omega))); k_whole); intro t9  h9 tk9  F9 E9 N9; (k_dflt (replace N9 := newsApp N9 E9 (by k_asm))); clear E9; (try dsimp only [List.nil_append, List.cons_append, List.append_nil] at N9); (try simp only [List.append_nil] at N9); (try dsimp only); (try k_fold); (try k_sweep); walk_say "CONTRACT code_c")
  trivial
set_option maxRecDepth 100000 in
set_option maxHeartbeats 0 in
theorem ext_c
  {w : World} {p : Program} {loose : List Str} {mean : ExcName → Option Value} {mg mb : Str → Option Value}
  {dp un : Nat} {gd : Option (List Code)} {cn : Str} {nms : List (Str × NameKind)} {isg isc : Bool} {scm : List (Str × Const)} {a : Addr} {ccd : Value} {cl : List (Str × Addr)} {outer : List Env} {A₀ : Around} {base h₀ : Heap} {L : Addr} {m : Str → Option Value} {s : Shared} {Q E : Value → Shared → Prop}
  {r rd : Addr} {r1 r2 r3 r4 rk1 rn1 rz1 : Tok} {nm : Value} {rk : Str} {n z : Int} (B : Below A₀ base outer h₀) (F : Fr h₀ L s.heap m) (X : (kk.heap_1 w.params).In h₀) (N : News h₀ L s.heap [(r, instObj 938 rd), (rd, regD w r1 r2 r3 r4 nm rk rk1 n rn1 z rz1)]) (T : Top p loose mean mg mb h₀)
    (hd : dp + 20 < 1000) (hu : un + 100 < 9900) 
    (ret : ∀   (h' : Heap) (tk' : Nat), Fr h₀ L h' m → InElt s.heap h' → News h₀ L h' [] → Q (.bool (decide (7 < n))) { s with heap := h', toks := tk' }) :
    wpAny (model Challenge.rw_nz0171_01.row.prog w) (ktrTop dp un gd cn ⟨.function, nms, isg, isc, scm⟩ L a ccd cl outer) (call (.ref 914) [.ref r]) Q E s := by
  let no0 : Obj := instObj 938 rd
  let no1 : Obj := regD w r1 r2 r3 r4 nm rk rk1 n rn1 z rz1
  replace N : News h₀ L s.heap [(r, no0), (rd, no1)] := N
  w_on; revert X; k_fill; intro X; have cE0 := InElt.start s.heap; refine wpAny_call ?_; k_dflt k_enter; k_steps
  all_goals (refine' retB ?ceq (ret _ _ ?cF ?cE ?cN); (case cF => assumption); (case cE => assumption); (case cN => (first | assumption | (refine' cb_drop ?cbN ?cbS; (case cbN => assumption); (case cbS => kcj_all)))); (case ceq => (law_clear; first | rfl | (simp_all; done) | (simp_all; omega))))
theorem row76 : True := by
  k_with "call ref" => ((with_reducible show wpAny _ _ (call (Value.ref 914) _) _ _ _); k_dflt (refine' ext_c ?k1 ?k2 ?k3 (cb_drop ?k4 ?k9) ?k5 ?k7 ?k8  ?_; (case k1 => k_asm); (case k2 => k_asm); (case k3 => k_asm); (case k4 => k_asm); (case k5 => k_asm); (case k9 => repeat (first | exact subNil | refine subCons (by k_mem) ?_)); (case k7 => (first | exact roomA hd rfl | exact roomB hd rfl | ((try simp only [depth_mark, depth_under_make, depth_under_kw, depth_in1, depth_deeper, depth_caller]); (try dsimp only [ktrTop]); omega))); (case k8 => (first | exact unitA hu rfl | ((try simp only [units_under_make, units_in1, units_deeper, Around.mark_units, units_caller]); (try dsimp only [ktrTop]); omega))); k_whole); intro   h9 tk9  F9 E9 N9; (k_dflt (replace N9 := newsApp N9 E9 (by k_asm))); clear E9; (try dsimp only [List.nil_append, List.cons_append, List.append_nil] at N9); (try simp only [List.append_nil] at N9); (try dsimp only); (try k_fold); (try k_sweep); walk_say "CONTRACT ext_c")
  trivial
set_option maxRecDepth 100000 in
set_option maxHeartbeats 0 in
theorem needs_rex_c
  {w : World} {p : Program} {loose : List Str} {mean : ExcName → Option Value} {mg mb : Str → Option Value}
  {dp un : Nat} {gd : Option (List Code)} {cn : Str} {nms : List (Str × NameKind)} {isg isc : Bool} {scm : List (Str × Const)} {a : Addr} {ccd : Value} {cl : List (Str × Addr)} {outer : List Env} {A₀ : Around} {base h₀ : Heap} {L : Addr} {m : Str → Option Value} {s : Shared} {Q E : Value → Shared → Prop}
  {r rd : Addr} {r1 r2 r3 r4 rk1 rn1 rz1 : Tok} {nm : Value} {rk : Str} {n z : Int} (B : Below A₀ base outer h₀) (F : Fr h₀ L s.heap m) (X : (kk.heap_1 w.params).In h₀) (N : News h₀ L s.heap [(r, instObj 938 rd), (rd, regD w r1 r2 r3 r4 nm rk rk1 n rn1 z rz1)]) (T : Top p loose mean mg mb h₀)
    (hd : dp + 24 < 1000) (hu : un + 130 < 9900) 
    (ret : ∀   (h' : Heap) (tk' : Nat), Fr h₀ L h' m → InElt s.heap h' → News h₀ L h' [] → Q (.bool (needsR rk n z)) { s with heap := h', toks := tk' }) :
    wpAny (model Challenge.rw_nz0171_01.row.prog w) (ktrTop dp un gd cn ⟨.function, nms, isg, isc, scm⟩ L a ccd cl outer) (call (.ref 928) [.ref r]) Q E s := by
  let no0 : Obj := instObj 938 rd
  let no1 : Obj := regD w r1 r2 r3 r4 nm rk rk1 n rn1 z rz1
  replace N : News h₀ L s.heap [(r, no0), (rd, no1)] := N
  w_on; revert X; k_fill; intro X; have cE0 := InElt.start s.heap; refine wpAny_call ?_; k_dflt k_enter; k_steps
  all_goals (refine' retB ?ceq (ret _ _ ?cF ?cE ?cN); (case cF => assumption); (case cE => assumption); (case cN => (first | assumption | (refine' cb_drop ?cbN ?cbS; (case cbN => assumption); (case cbS => kcj_all)))); (case ceq => (law_clear; unfold needsR; first | (simp_all; done) | (simp_all; omega))))
theorem row77 : True := by
  k_with "call ref" => ((with_reducible show wpAny _ _ (call (Value.ref 928) _) _ _ _); k_dflt (refine' needs_rex_c ?k1 ?k2 ?k3 (cb_drop ?k4 ?k9) ?k5 ?k7 ?k8  ?_; (case k1 => k_asm); (case k2 => k_asm); (case k3 => k_asm); (case k4 => k_asm); (case k5 => k_asm); (case k9 => repeat (first | exact subNil | refine subCons (by k_mem) ?_)); (case k7 => (first | exact roomA hd rfl | exact roomB hd rfl | ((try simp only [depth_mark, depth_under_make, depth_under_kw, depth_in1, depth_deeper, depth_caller]); (try dsimp only [ktrTop]); omega))); (case k8 => (first | exact unitA hu rfl | ((try simp only [units_under_make, units_in1, units_deeper, Around.mark_units, units_caller]); (try dsimp only [ktrTop]); omega))); k_whole); intro   h9 tk9  F9 E9 N9; (k_dflt (replace N9 := newsApp N9 E9 (by k_asm))); clear E9; (try dsimp only [List.nil_append, List.cons_append, List.append_nil] at N9); (try simp only [List.append_nil] at N9); (try dsimp only); (try k_fold); (try k_sweep); walk_say "CONTRACT needs_rex_c")
  trivial
set_option maxRecDepth 100000 in
set_option maxHeartbeats 0 in
theorem is_extended_c
  {w : World} {p : Program} {loose : List Str} {mean : ExcName → Option Value} {mg mb : Str → Option Value}
  {dp un : Nat} {gd : Option (List Code)} {cn : Str} {nms : List (Str × NameKind)} {isg isc : Bool} {scm : List (Str × Const)} {a : Addr} {ccd : Value} {cl : List (Str × Addr)} {outer : List Env} {A₀ : Around} {base h₀ : Heap} {L : Addr} {m : Str → Option Value} {s : Shared} {Q E : Value → Shared → Prop}
  {r rd : Addr} {r1 r2 r3 r4 rk1 rn1 rz1 : Tok} {nm : Value} {rk : Str} {n z : Int} {o od : Addr} {c1 c2 c3 : Tok} (B : Below A₀ base outer h₀) (F : Fr h₀ L s.heap m) (X : (kk.heap_1 w.params).In h₀) (N : News h₀ L s.heap [(o, instObj 377 od), (od, regO w c1 c2 c3 r), (r, instObj 938 rd), (rd, regD w r1 r2 r3 r4 nm rk rk1 n rn1 z rz1)]) (T : Top p loose mean mg mb h₀)
    (hd : dp + 28 < 1000) (hu : un + 160 < 9900) 
    (ret : ∀ (t' : Tok)  (h' : Heap) (tk' : Nat), Fr h₀ L h' m → InElt s.heap h' → News h₀ L h' [] → Q (.int (bit7 n) t') { s with heap := h', toks := tk' }) :
    wpAny (model Challenge.rw_nz0171_01.row.prog w) (ktrTop dp un gd cn ⟨.function, nms, isg, isc, scm⟩ L a ccd cl outer) (call (.ref 831) [.ref o]) Q E s := by
  let no0 : Obj := instObj 377 od
  let no1 : Obj := regO w c1 c2 c3 r
  let no2 : Obj := instObj 938 rd
  let no3 : Obj := regD w r1 r2 r3 r4 nm rk rk1 n rn1 z rz1
  replace N : News h₀ L s.heap [(o, no0), (od, no1), (r, no2), (rd, no3)] := N
  w_on; revert X; k_fill; intro X; have cE0 := InElt.start s.heap; refine wpAny_call ?_; k_dflt k_enter; k_steps
  all_goals (refine' retI ?ceq (ret _ _ _ ?cF ?cE ?cN); (case cF => assumption); (case cE => assumption); (case cN => (first | assumption | (refine' cb_drop ?cbN ?cbS; (case cbN => assumption); (case cbS => kcj_all)))); (case ceq => (law_clear; unfold bit7; first | (simp_all; done) | (simp_all; omega))))
theorem row78 : True := by
  k_with "call ref" => ((with_reducible show wpAny _ _ (call (Value.ref 831) [Value.ref _]) _ _ _); k_dflt (refine' is_extended_c ?k1 ?k2 ?k3 (cb_drop ?k4 ?k9) ?k5 ?k7 ?k8  ?_; (case k1 => k_asm); (case k2 => k_asm); (case k3 => k_asm); (case k4 => k_asm); (case k5 => k_asm); (case k9 => repeat (first | exact subNil | refine subCons (by k_mem) ?_)); (case k7 => (first | exact roomA hd rfl | exact roomB hd rfl | ((try simp only [depth_mark, depth_under_make, depth_under_kw, depth_in1, depth_deeper, depth_caller]); (try dsimp only [ktrTop]); omega))); (case k8 => (first | exact unitA hu rfl | ((try simp only [units_under_make, units_in1, units_deeper, Around.mark_units, units_caller]); (try dsimp only [ktrTop]); omega))); k_whole); intro t9  h9 tk9  F9 E9 N9; (k_dflt (replace N9 := newsApp N9 E9 (by k_asm))); clear E9; (try dsimp only [List.nil_append, List.cons_append, List.append_nil] at N9); (try simp only [List.append_nil] at N9); (try dsimp only); (try k_fold); (try k_sweep); walk_say "CONTRACT is_extended_c")
  trivial
set_option maxRecDepth 100000 in
set_option maxHeartbeats 0 in
theorem is_ext_none
  {w : World} {p : Program} {loose : List Str} {mean : ExcName → Option Value} {mg mb : Str → Option Value}
  {dp un : Nat} {gd : Option (List Code)} {cn : Str} {nms : List (Str × NameKind)} {isg isc : Bool} {scm : List (Str × Const)} {a : Addr} {ccd : Value} {cl : List (Str × Addr)} {outer : List Env} {A₀ : Around} {base h₀ : Heap} {L : Addr} {m : Str → Option Value} {s : Shared} {Q E : Value → Shared → Prop}
   (B : Below A₀ base outer h₀) (F : Fr h₀ L s.heap m) (X : (kk.heap_1 w.params).In h₀) (N : News h₀ L s.heap []) (T : Top p loose mean mg mb h₀)
    (hd : dp + 24 < 1000) (hu : un + 130 < 9900) 
    (ret : ∀ (t' : Tok)  (h' : Heap) (tk' : Nat), Fr h₀ L h' m → InElt s.heap h' → News h₀ L h' [] → Q (.int 0 t') { s with heap := h', toks := tk' }) :
    wpAny (model Challenge.rw_nz0171_01.row.prog w) (ktrTop dp un gd cn ⟨.function, nms, isg, isc, scm⟩ L a ccd cl outer) (call (.ref 831) [.none]) Q E s := by
  w_on; revert X; k_fill; intro X; have cE0 := InElt.start s.heap; refine wpAny_call ?_; k_dflt k_enter; k_steps
  all_goals (refine' retI ?ceq (ret _ _ _ ?cF ?cE ?cN); (case cF => assumption); (case cE => assumption); (case cN => (first | assumption | (refine' cb_drop ?cbN ?cbS; (case cbN => assumption); (case cbS => kcj_all)))); (case ceq => (law_clear; first | rfl | (simp_all; done) | (simp_all; omega))))
theorem row79 : True := by
  k_with "call ref" => ((with_reducible show wpAny _ _ (call (Value.ref 831) [Value.none]) _ _ _); k_dflt (refine' is_ext_none ?k1 ?k2 ?k3 (cb_drop ?k4 ?k9) ?k5 ?k7 ?k8  ?_; (case k1 => k_asm); (case k2 => k_asm); (case k3 => k_asm); (case k4 => k_asm); (case k5 => k_asm); (case k9 => repeat (first | exact subNil | refine subCons (by k_mem) ?_)); (case k7 => (first | exact roomA hd rfl | exact roomB hd rfl | ((try simp only [depth_mark, depth_under_make, depth_under_kw, depth_in1, depth_deeper, depth_caller]); (try dsimp only [ktrTop]); omega))); (case k8 => (first | exact unitA hu rfl | ((try simp only [units_under_make, units_in1, units_deeper, Around.mark_units, units_caller]); (try dsimp only [ktrTop]); omega))); k_whole); intro t9  h9 tk9  F9 E9 N9; (k_dflt (replace N9 := newsApp N9 E9 (by k_asm))); clear E9; (try dsimp only [List.nil_append, List.cons_append, List.append_nil] at N9); (try simp only [List.append_nil] at N9); (try dsimp only); (try k_fold); (try k_sweep); walk_say "CONTRACT is_ext_none")
  trivial
theorem met2 {α : Type} {h₀ h : Heap} {L : Addr} {m : Str → Option Value} {news : List (Addr × Obj)} {s s' : Shared} {mk : Tok → α} {v : α} {t : Tok} {tk : Nat} (e : v = mk t) (e' : s' = { s with heap := h, toks := tk }) (F : Fr h₀ L h m) (N : News h₀ L h news) : Met h₀ L m news s mk v s' := ⟨t, h, tk, e, e', F, N⟩
theorem row80 : True := by
  k_with "isTrue BoolOp" => (guard_hyp scOct : True; (with_reducible show wpAny _ _ (isTrue (Expr.BoolOp _ (Expr.Compare (Expr.Name (Str.ofString "bit") _) _ _ _ :: _) _) _ _) _ _ _); k_here; k_dflt (refine' meet (mk := fun _ => false) ?mF ?mN ?mC ?_; (case mF => k_asm); (case mN => k_asm)); (case mC => clear scOct; k_dflt ((try k_fold); k_steps; all_goals (refine' met2 (t := 0) ?me rfl (by assumption) ?mS; (case mS => (first | assumption | (refine' cb_drop ?cbN ?cbS; (case cbN => assumption); (case cbS => kcj_all)))); (case me => (law_clear; first | rfl | (exfalso; omega) | (simp_all; done) | (simp_all; omega) | fail "meet oct"))))); intro t9 h9 tk9 F9 N9; (try dsimp only); (try k_fold); (try k_sweep); walk_say "MET")
  trivial
set_option maxRecDepth 100000 in
set_option maxHeartbeats 0 in
theorem rex_octet_c
  {w : World} {p : Program} {loose : List Str} {mean : ExcName → Option Value} {mg mb : Str → Option Value}
  {dp un : Nat} {gd : Option (List Code)} {cn : Str} {nms : List (Str × NameKind)} {isg isc : Bool} {scm : List (Str × Const)} {a : Addr} {ccd : Value} {cl : List (Str × Addr)} {outer : List Env} {A₀ : Around} {base h₀ : Heap} {L : Addr} {m : Str → Option Value} {s : Shared} {Q E : Value → Shared → Prop}
  {x b : Int} {t1 t2 t3 t4 : Tok} (B : Below A₀ base outer h₀) (F : Fr h₀ L s.heap m) (X : (kk.heap_1 w.params).In h₀) (N : News h₀ L s.heap []) (T : Top p loose mean mg mb h₀)
    (hd : dp + 28 < 1000) (hu : un + 160 < 9900) (hw : x = 0 ∨ x = 1) (hb : b = 0 ∨ b = 1)
    (ret : ∀ (t' : Tok)  (h' : Heap) (tk' : Nat), Fr h₀ L h' m → InElt s.heap h' → News h₀ L h' [] → Q (.int (64 + 8 * x + b) t') { s with heap := h', toks := tk' }) :
    wpAny (model Challenge.rw_nz0171_01.row.prog w) (ktrTop dp un gd cn ⟨.function, nms, isg, isc, scm⟩ L a ccd cl outer) (call (.ref 664) [.int x t1, .int 0 t2, .int 0 t3, .int b t4]) Q E s := by
  have scOct : True := trivial
  w_on; revert X; k_fill; intro X; have cE0 := InElt.start s.heap; refine wpAny_call ?_; k_dflt k_enter; k_steps
  all_goals (refine' retI ?ceq (ret _ _ _ ?cF ?cE ?cN); (case cF => assumption); (case cE => assumption); (case cN => (first | assumption | (refine' cb_drop ?cbN ?cbS; (case cbN => assumption); (case cbS => kcj_all)))); (case ceq => (law_clear; first | rfl | omega)))
theorem row81 : True := by
  k_with "call ref" => ((with_reducible show wpAny _ _ (call (Value.ref 664) _) _ _ _); k_dflt (refine' rex_octet_c ?k1 ?k2 ?k3 (cb_drop ?k4 ?k9) ?k5 ?k7 ?k8 ?h0 ?h1 ?_; (case k1 => k_asm); (case k2 => k_asm); (case k3 => k_asm); (case k4 => k_asm); (case k5 => k_asm); (case k9 => repeat (first | exact subNil | refine subCons (by k_mem) ?_)); (case k7 => (first | exact roomA hd rfl | exact roomB hd rfl | ((try simp only [depth_mark, depth_under_make, depth_under_kw, depth_in1, depth_deeper, depth_caller]); (try dsimp only [ktrTop]); omega))); (case k8 => (first | exact unitA hu rfl | ((try simp only [units_under_make, units_in1, units_deeper, Around.mark_units, units_caller]); (try dsimp only [ktrTop]); omega))); (case h0 => first | exact bit64_or _ | assumption); (case h1 => first | exact bit7_or _ | assumption); k_whole); intro t9  h9 tk9  F9 E9 N9; (k_dflt (replace N9 := newsApp N9 E9 (by k_asm))); clear E9; (try dsimp only [List.nil_append, List.cons_append, List.append_nil] at N9); (try simp only [List.append_nil] at N9); (try dsimp only); (try k_fold); (try k_sweep); walk_say "CONTRACT rex_octet_c")
  trivial

def rexV (rk : Str) (n z : Int) : Int := if z = 64 ∨ 7 < n ∨ needsR rk n z = true then 64 + (if z = 64 then 8 else 0) + bit7 n else -1
/-- what the registers are -/
def RegFit (rk : Str) (n z : Int) : Prop := (rk = "gpr" ∧ 0 ≤ n ∧ n ≤ 15) ∨ (rk = "high" ∧ 4 ≤ n ∧ n ≤ 7 ∧ z = 8)
structure RegOk (rk : Str) (n z : Int) : Prop where
  fit : RegFit rk n z
def nd (rk : Str) (n z : Int) : Bool := decide (z = 64 ∨ 7 < n ∨ needsR rk n z = true)
def bit64 (z : Int) : Int := if z = 64 then 1 else 0
theorem bit7_or (n : Int) : bit7 n = 0 ∨ bit7 n = 1 := by unfold bit7; split <;> simp
theorem bit64_or (n : Int) : bit64 n = 0 ∨ bit64 n = 1 := by unfold bit64; split <;> simp
theorem nd_t {rk : Str} {n z : Int} (h : 0 < bit64 z + 0 + 0 + bit7 n) : decide (0 < bit64 z + 0 + 0 + bit7 n) = nd rk n z := by
  rw [decide_eq_true h]
  unfold nd; unfold bit64 bit7 at h
  by_cases h1 : z = 64
  · simp [h1]
  · by_cases h2 : 7 < n
    · simp [h2]
    · simp [h1, h2] at h
theorem nd_f {rk : Str} {n z : Int} (h : ¬ 0 < bit64 z + 0 + 0 + bit7 n) : needsR rk n z = nd rk n z := by
  unfold nd; unfold bit64 bit7 at h
  have h1 : ¬ z = 64 := fun e => h (by simp [e]; split <;> omega)
  have h2 : ¬ 7 < n := fun e => h (by simp [e]; split <;> omega)
  simp [h1, h2]
theorem nd_high {rk : Str} {n z : Int} (R : RegOk rk n z) (h : nd rk n z = true) : ¬ (rk == "high") = true := by
  rcases R.fit with ⟨rfl, h0, h1⟩ | ⟨rfl, h0, h1, rfl⟩
  · exact (by decide)
  · unfold nd needsR at h
    rw [show (("high" : Str) == "gpr") = false from by decide, Bool.false_and] at h
    have h7 : ¬ 7 < n := by omega
    simp [h7] at h
theorem rexV_t {rk : Str} {n z : Int} (h : nd rk n z = true) : 64 + 8 * bit64 z + bit7 n = rexV rk n z := by
  unfold rexV bit64; rw [if_pos (of_decide_eq_true h)]; split <;> omega
theorem rexV_f {rk : Str} {n z : Int} (h : nd rk n z = false) : -1 = rexV rk n z := by
  unfold rexV; rw [if_neg (of_decide_eq_false h)]
theorem vI {x y : Int} {t : Tok} (e : x = y) : Value.int x t = Value.int y t := e ▸ rfl
theorem vB {x y : Bool} (e : x = y) : Value.bool x = Value.bool y := e ▸ rfl
theorem b64t {z : Int} (h : z = 64) : 1 = bit64 z := by unfold bit64; rw [if_pos h]
theorem b64f {z : Int} (h : ¬ z = 64) : 0 = bit64 z := by unfold bit64; rw [if_neg h]
abbrev shapeD (w : World) (s1 s2 s3 s4 s5 s6 v1 v2 v3 v4 v5 v6 : Tok) (rm b : Int) : Obj :=
  dictOf [ent w "mod" s1 (.int 3 v1), ent w "rm" s2 (.int rm v2), ent w "sib" s3 (.int (-1) v3), ent w "disp_width" s4 (.int 0 v4), ent w "x" s5 (.int 0 v5), ent w "b" s6 (.int b v6)] 6
theorem row82 : True := by
  k_with "exec For Name Attribute cons nil" => (k_here; (with_reducible show wpAny _ _ (exec (Stmt.For (Expr.Name _ _) (Expr.Attribute _ _ _) _ _ _) _) _ _ _); (rename Fr _ _ _ _ => lF'); (with_unfolding_all refine' For_turns lF' ?_; k_whole))
  trivial
theorem row83 : True := by
  k_with "eval IfExp" => (guard_hyp scRex : True; (with_reducible show wpAny _ _ (eval (Expr.IfExp (Expr.BoolOp _ _ _) _ _ _) _) _ _ _); k_here; k_dflt (refine' meet (mk := fun t => Value.int (bit64 sz) t) ?mF ?mN ?mC ?_; (case mF => k_asm); (case mN => k_asm)); (case mC => clear scRex; k_dflt ((try k_fold); k_steps; all_goals (refine' met2 ?me rfl (by assumption) ?mS; (case mS => (first | assumption | (refine' cb_drop ?cbN ?cbS; (case cbN => assumption); (case cbS => kcj_all)))); (case me => (refine vI ?_; law_clear; first | exact b64t (by assumption) | exact b64f (by assumption) | fail "meet w"))))); intro t9 h9 tk9 F9 N9; (try dsimp only); (try k_fold); (try k_sweep); walk_say "MET")
  trivial
theorem row84 : True := by
  k_with "eval BoolOp" => (guard_hyp scRex : True; (with_reducible show wpAny _ _ (eval (Expr.BoolOp _ (Expr.Name _ _ :: Expr.Call _ _ _ _ :: []) _) _) _ _ _); k_here; k_dflt (refine' meet (mk := fun _ => Value.bool (nd rk n sz)) ?mF ?mN ?mC ?_; (case mF => k_asm); (case mN => k_asm)); (case mC => clear scRex; k_dflt ((try k_fold); k_steps; all_goals (refine' met2 (t := 0) ?me rfl (by assumption) ?mS; (case mS => (first | assumption | (refine' cb_drop ?cbN ?cbS; (case cbN => assumption); (case cbS => kcj_all)))); (case me => (refine vB ?_; law_clear; first | exact nd_t (by assumption) | exact nd_f (by assumption) | fail "meet nd"))))); intro t9 h9 tk9 F9 N9; (try dsimp only); (try k_fold); (try k_sweep); walk_say "MET")
  trivial
set_option maxRecDepth 100000 in
set_option maxHeartbeats 0 in
theorem rex_for_plus
  {w : World} {p : Program} {loose : List Str} {mean : ExcName → Option Value} {mg mb : Str → Option Value}
  {dp un : Nat} {gd : Option (List Code)} {cn : Str} {nms : List (Str × NameKind)} {isg isc : Bool} {scm : List (Str × Const)} {a : Addr} {ccd : Value} {cl : List (Str × Addr)} {outer : List Env} {A₀ : Around} {base h₀ : Heap} {L : Addr} {m : Str → Option Value} {s : Shared} {Q E : Value → Shared → Prop}
  {k1 k2 k3 k4 : Str} {op es dg sz : Int} {f fd pt kt : Addr} {a1 a2 a3 a4 a5 a6 a7 a8 a9 a0 tn to te td ts tm tx t1 t2 u1 u2 : Tok} {i id ot o1 d1 o2 d2 r rd : Addr} {i1 i2 i3 i4 i5 p1 p2 p3 q1 q2 q3 q4 q5 q6 r1 r2 r3 r4 rk1 rn1 rz1 : Tok} {nm : Value} {rk : Str} {x n : Int} (B : Below A₀ base outer h₀) (F : Fr h₀ L s.heap m) (X : (kk.heap_1 w.params).In h₀) (N : News h₀ L s.heap [(f, instObj 257 fd), (fd, formD w a1 a2 a3 a4 a5 a6 a7 a8 a9 a0 "mov" tn kt op to es te dg td sz ts tm tx pt), (pt, tupO [.str (k3) u1, .str (k4) u2]), (kt, tupO [.str k1 t1, .str k2 t2]), (i, instObj 464 id), (id, insD w i1 i2 i3 i4 i5 ot), (ot, tupO [.ref o1, .ref o2]), (o1, instObj 377 d1), (d1, regO w p1 p2 p3 r), (o2, instObj 411 d2), (d2, immO w q1 q2 q3 q4 q5 q6 x), (r, instObj 938 rd), (rd, regD w r1 r2 r3 r4 nm rk rk1 n rn1 sz rz1)]) (T : Top p loose mean mg mb h₀)
    (hd : dp + 36 < 1000) (hu : un + 220 < 9900) (hR : RegOk rk n sz)
    (ret : ∀ (t' : Tok)  (h' : Heap) (tk' : Nat), Fr h₀ L h' m → InElt s.heap h' → News h₀ L h' [] → Q (.int (rexV rk n sz) t') { s with heap := h', toks := tk' }) :
    wpAny (model Challenge.rw_nz0171_01.row.prog w) (ktrTop dp un gd cn ⟨.function, nms, isg, isc, scm⟩ L a ccd cl outer) (call (.ref 838) [.ref f, .ref i, .none, .ref o1, .none]) Q E s := by
  let no0 : Obj := instObj 257 fd
  let no1 : Obj := formD w a1 a2 a3 a4 a5 a6 a7 a8 a9 a0 "mov" tn kt op to es te dg td sz ts tm tx pt
  let no2 : Obj := tupO [.str (k3) u1, .str (k4) u2]
  let no3 : Obj := tupO [.str k1 t1, .str k2 t2]
  let no4 : Obj := instObj 464 id
  let no5 : Obj := insD w i1 i2 i3 i4 i5 ot
  let no6 : Obj := tupO [.ref o1, .ref o2]
  let no7 : Obj := instObj 377 d1
  let no8 : Obj := regO w p1 p2 p3 r
  let no9 : Obj := instObj 411 d2
  let no10 : Obj := immO w q1 q2 q3 q4 q5 q6 x
  let no11 : Obj := instObj 938 rd
  let no12 : Obj := regD w r1 r2 r3 r4 nm rk rk1 n rn1 sz rz1
  replace N : News h₀ L s.heap [(f, no0), (fd, no1), (pt, no2), (kt, no3), (i, no4), (id, no5), (ot, no6), (o1, no7), (d1, no8), (o2, no9), (d2, no10), (r, no11), (rd, no12)] := N
  have scRex : True := trivial
  w_on; revert X; k_fill; intro X; have cE0 := InElt.start s.heap; k_steps
  all_goals first | exact absurd (show (rk == "high") = true by assumption) (nd_high hR (by assumption)) | (refine' retI ?ceq (ret _ _ _ ?cF ?cE ?cN); (case cF => assumption); (case cE => assumption); (case cN => (first | assumption | (refine' cb_drop ?cbN ?cbS; (case cbN => assumption); (case cbS => kcj_all)))); (case ceq => (law_clear; first | exact rexV_t (by assumption) | exact rexV_f (by assumption) | fail "rex end")))

theorem row85 : True := by
  k_with "call ref" => ((with_reducible show wpAny _ _ (call (Value.ref 838) [_, _, _, Value.ref _, _]) _ _ _); k_dflt (refine' rex_for_plus ?k1 ?k2 ?k3 (cb_drop ?k4 ?k9) ?k5 ?k7 ?k8 ?h0 ?_; (case k1 => k_asm); (case k2 => k_asm); (case k3 => k_asm); (case k4 => k_asm); (case k5 => k_asm); (case k9 => repeat (first | exact subNil | refine subCons (by k_mem) ?_)); (case k7 => (first | exact roomA hd rfl | exact roomB hd rfl | ((try simp only [depth_mark, depth_under_make, depth_under_kw, depth_in1, depth_deeper, depth_caller]); (try dsimp only [ktrTop]); omega))); (case k8 => (first | exact unitA hu rfl | ((try simp only [units_under_make, units_in1, units_deeper, Around.mark_units, units_caller]); (try dsimp only [ktrTop]); omega))); (case h0 => with_reducible assumption); k_whole); intro t9  h9 tk9  F9 E9 N9; (k_dflt (replace N9 := newsApp N9 E9 (by k_asm))); clear E9; (try dsimp only [List.nil_append, List.cons_append, List.append_nil] at N9); (try simp only [List.append_nil] at N9); (try dsimp only); (try k_fold); (try k_sweep); walk_say "CONTRACT rex_for_plus")
  trivial
set_option maxRecDepth 100000 in
set_option maxHeartbeats 0 in
theorem rex_for_rm
  {w : World} {p : Program} {loose : List Str} {mean : ExcName → Option Value} {mg mb : Str → Option Value}
  {dp un : Nat} {gd : Option (List Code)} {cn : Str} {nms : List (Str × NameKind)} {isg isc : Bool} {scm : List (Str × Const)} {a : Addr} {ccd : Value} {cl : List (Str × Addr)} {outer : List Env} {A₀ : Around} {base h₀ : Heap} {L : Addr} {m : Str → Option Value} {s : Shared} {Q E : Value → Shared → Prop}
  {k1 k2 k3 k4 : Str} {op es dg sz : Int} {f fd pt kt : Addr} {a1 a2 a3 a4 a5 a6 a7 a8 a9 a0 tn to te td ts tm tx t1 t2 u1 u2 : Tok} {i id ot o1 d1 o2 d2 r rd : Addr} {i1 i2 i3 i4 i5 p1 p2 p3 q1 q2 q3 q4 q5 q6 r1 r2 r3 r4 rk1 rn1 rz1 : Tok} {nm : Value} {rk : Str} {x n : Int} {sh sd : Addr} {s1 s2 s3 s4 s5 s6 v1 v2 v3 v4 v5 v6 : Tok} {rm : Int} (B : Below A₀ base outer h₀) (F : Fr h₀ L s.heap m) (X : (kk.heap_1 w.params).In h₀) (N : News h₀ L s.heap [(f, instObj 257 fd), (fd, formD w a1 a2 a3 a4 a5 a6 a7 a8 a9 a0 "mov" tn kt op to es te dg td sz ts tm tx pt), (pt, tupO [.str (k3) u1, .str (k4) u2]), (kt, tupO [.str k1 t1, .str k2 t2]), (i, instObj 464 id), (id, insD w i1 i2 i3 i4 i5 ot), (ot, tupO [.ref o1, .ref o2]), (o1, instObj 377 d1), (d1, regO w p1 p2 p3 r), (o2, instObj 411 d2), (d2, immO w q1 q2 q3 q4 q5 q6 x), (r, instObj 938 rd), (rd, regD w r1 r2 r3 r4 nm rk rk1 n rn1 sz rz1), (sh, instObj 583 sd), (sd, shapeD w s1 s2 s3 s4 s5 s6 v1 v2 v3 v4 v5 v6 rm (bit7 n))]) (T : Top p loose mean mg mb h₀)
    (hd : dp + 36 < 1000) (hu : un + 220 < 9900) (hR : RegOk rk n sz)
    (ret : ∀ (t' : Tok)  (h' : Heap) (tk' : Nat), Fr h₀ L h' m → InElt s.heap h' → News h₀ L h' [] → Q (.int (rexV rk n sz) t') { s with heap := h', toks := tk' }) :
    wpAny (model Challenge.rw_nz0171_01.row.prog w) (ktrTop dp un gd cn ⟨.function, nms, isg, isc, scm⟩ L a ccd cl outer) (call (.ref 838) [.ref f, .ref i, .none, .none, .ref sh]) Q E s := by
  let no0 : Obj := instObj 257 fd
  let no1 : Obj := formD w a1 a2 a3 a4 a5 a6 a7 a8 a9 a0 "mov" tn kt op to es te dg td sz ts tm tx pt
  let no2 : Obj := tupO [.str (k3) u1, .str (k4) u2]
  let no3 : Obj := tupO [.str k1 t1, .str k2 t2]
  let no4 : Obj := instObj 464 id
  let no5 : Obj := insD w i1 i2 i3 i4 i5 ot
  let no6 : Obj := tupO [.ref o1, .ref o2]
  let no7 : Obj := instObj 377 d1
  let no8 : Obj := regO w p1 p2 p3 r
  let no9 : Obj := instObj 411 d2
  let no10 : Obj := immO w q1 q2 q3 q4 q5 q6 x
  let no11 : Obj := instObj 938 rd
  let no12 : Obj := regD w r1 r2 r3 r4 nm rk rk1 n rn1 sz rz1
  let no13 : Obj := instObj 583 sd
  let no14 : Obj := shapeD w s1 s2 s3 s4 s5 s6 v1 v2 v3 v4 v5 v6 rm (bit7 n)
  replace N : News h₀ L s.heap [(f, no0), (fd, no1), (pt, no2), (kt, no3), (i, no4), (id, no5), (ot, no6), (o1, no7), (d1, no8), (o2, no9), (d2, no10), (r, no11), (rd, no12), (sh, no13), (sd, no14)] := N
  have scRex : True := trivial
  w_on; revert X; k_fill; intro X; have cE0 := InElt.start s.heap; k_steps
  all_goals first | exact absurd (show (rk == "high") = true by assumption) (nd_high hR (by assumption)) | (refine' retI ?ceq (ret _ _ _ ?cF ?cE ?cN); (case cF => assumption); (case cE => assumption); (case cN => (first | assumption | (refine' cb_drop ?cbN ?cbS; (case cbN => assumption); (case cbS => kcj_all)))); (case ceq => (law_clear; first | exact rexV_t (by assumption) | exact rexV_f (by assumption) | fail "rex end")))

theorem row86 : True := by
  k_with "call ref" => ((with_reducible show wpAny _ _ (call (Value.ref 838) [_, _, _, Value.none, Value.ref _]) _ _ _); k_dflt (refine' rex_for_rm ?k1 ?k2 ?k3 (cb_drop ?k4 ?k9) ?k5 ?k7 ?k8 ?h0 ?_; (case k1 => k_asm); (case k2 => k_asm); (case k3 => k_asm); (case k4 => k_asm); (case k5 => k_asm); (case k9 => repeat (first | exact subNil | refine subCons (by k_mem) ?_)); (case k7 => (first | exact roomA hd rfl | exact roomB hd rfl | ((try simp only [depth_mark, depth_under_make, depth_under_kw, depth_in1, depth_deeper, depth_caller]); (try dsimp only [ktrTop]); omega))); (case k8 => (first | exact unitA hu rfl | ((try simp only [units_under_make, units_in1, units_deeper, Around.mark_units, units_caller]); (try dsimp only [ktrTop]); omega))); (case h0 => with_reducible assumption); k_whole); intro t9  h9 tk9  F9 E9 N9; (k_dflt (replace N9 := newsApp N9 E9 (by k_asm))); clear E9; (try dsimp only [List.nil_append, List.cons_append, List.append_nil] at N9); (try simp only [List.append_nil] at N9); (try dsimp only); (try k_fold); (try k_sweep); walk_say "CONTRACT rex_for_rm")
  trivial

theorem rexV_in {rk : Str} {n z : Int} : rexV rk n z = -1 ∨ (64 ≤ rexV rk n z ∧ rexV rk n z ≤ 79) := by
  unfold rexV
  have := bit7_or n
  split
  · right; split <;> omega
  · left; rfl
theorem preB_f {v : Int} (h : 64 ≤ v) : preB false v = #[v.toNat.toUInt8] := by
  unfold preB; rw [if_neg (show ¬ v = -1 by omega)]; rfl
theorem preB_t {v : Int} (h : 64 ≤ v) : preB true v = #[102, v.toNat.toUInt8] := by
  unfold preB; rw [if_neg (show ¬ v = -1 by omega)]; rfl
theorem pB1 {b : Bool} {v : Int} (hb : b = false) (hv : v = -1 ∨ (64 ≤ v ∧ v ≤ 79)) (h : 0 ≤ v) : #[v.toNat.toUInt8] = preB b v := by subst hb; exact (preB_f (by omega)).symm
theorem pB2 {b : Bool} {v : Int} (hb : b = true) (hv : v = -1 ∨ (64 ≤ v ∧ v ≤ 79)) (h : 0 ≤ v) : #[102, v.toNat.toUInt8] = preB b v := by subst hb; exact (preB_t (by omega)).symm
theorem pB3 {b : Bool} {v : Int} (hb : b = false) (hv : v = -1 ∨ (64 ≤ v ∧ v ≤ 79)) (h : ¬ 0 ≤ v) : #[] = preB b v := by subst hb; rw [show v = -1 by omega]; rfl
theorem pB4 {b : Bool} {v : Int} (hb : b = true) (hv : v = -1 ∨ (64 ≤ v ∧ v ≤ 79)) (h : ¬ 0 ≤ v) : #[102] = preB b v := by subst hb; rw [show v = -1 by omega]; rfl
theorem lay_eq {x : Int} : #[(3 * 64 + Int.fmod 0 8 * 8 + x).toNat.toUInt8] = #[(192 + x).toNat.toUInt8] := by
  rw [show (3 * 64 + Int.fmod 0 8 * 8 : Int) = 192 from rfl]
theorem intsNil : IntsAre [] [] := IntsAre.nil
theorem lay_in {x : Int} (h0 : 0 ≤ x) (h1 : x ≤ 7) : ∀ n ∈ [3 * 64 + Int.fmod 0 8 * 8 + x], 0 ≤ n ∧ n < 256 := fun n hn => by
  rw [List.mem_singleton.mp hn, show Int.fmod 0 8 = 0 from rfl]; omega
theorem row87 : True := by
  k_with "call type:bytes" => ((k_here; (with_reducible show wpAny _ _ (call (Value.type _) [Value.ref _]) _ _ _); k_dflt (refine' bytes_K (vs := []) (ns := []) ?F ?N ?l ?i ?r ?z ?h ?_; (case F => k_asm); (case N => k_asm); (case l => is_list); (case i => exact intsNil); (case r => exact fun _ h => nomatch h); (case z => with_unfolding_all exact Nat.le_of_ble_eq_true rfl); (case h => with_unfolding_all rfl); k_whole); intro h' t' k' F' N' hB'; clear hB'; (try dsimp only [List.map]); (try k_sweep)))
  trivial
theorem row88 : True := by
  k_with "call type:bytes" => ((k_here; (with_reducible show wpAny _ _ (call (Value.type _) [Value.ref _]) _ _ _); k_dflt (refine' bytes_K (vs := [_]) (ns := [3 * 64 + Int.fmod 0 8 * 8 + _]) ?F ?N ?l ?i ?r ?z ?h ?_; (case F => k_asm); (case N => k_asm); (case l => is_list); (case i => l_ints); (case r => exact lay_in (by assumption) (by assumption)); (case z => with_unfolding_all exact Nat.le_of_ble_eq_true rfl); (case h => with_unfolding_all rfl); k_whole); intro h' t' k' F' N' hB'; clear hB'; (try dsimp only [List.map]); (try k_sweep)))
  trivial
abbrev prefD (w : World) (s1 s2 s3 s4 s5 v1 v3 v5 : Tok) (b : Bool) (v : Int) : Obj :=
  dictOf [ent w "segment" s1 (.str "" v1), ent w "is_data" s2 (.bool b), ent w "repeat" s3 (.int 0 v3), ent w "is_lock" s4 (.bool false), ent w "rex" s5 (.int v v5)] 5
set_option maxRecDepth 100000 in
set_option maxHeartbeats 0 in
theorem octets_c
  {w : World} {p : Program} {loose : List Str} {mean : ExcName → Option Value} {mg mb : Str → Option Value}
  {dp un : Nat} {gd : Option (List Code)} {cn : Str} {nms : List (Str × NameKind)} {isg isc : Bool} {scm : List (Str × Const)} {a : Addr} {ccd : Value} {cl : List (Str × Addr)} {outer : List Env} {A₀ : Around} {base h₀ : Heap} {L : Addr} {m : Str → Option Value} {s : Shared} {Q E : Value → Shared → Prop}
  {pa pd : Addr} {s1 s2 s3 s4 s5 v1 v3 v5 : Tok} {b : Bool} {v : Int} (B : Below A₀ base outer h₀) (F : Fr h₀ L s.heap m) (X : (kk.heap_1 w.params).In h₀) (N : News h₀ L s.heap [(pa, instObj 738 pd), (pd, prefD w s1 s2 s3 s4 s5 v1 v3 v5 b v)]) (T : Top p loose mean mg mb h₀)
    (hd : dp + 28 < 1000) (hu : un + 160 < 9900) (hv : v = -1 ∨ (64 ≤ v ∧ v ≤ 79))
    (ret : ∀ (t' : Tok)  (h' : Heap) (tk' : Nat), Fr h₀ L h' m → InElt s.heap h' → News h₀ L h' [] → Q (.bytes (preB b v) t') { s with heap := h', toks := tk' }) :
    wpAny (model Challenge.rw_nz0171_01.row.prog w) (ktrTop dp un gd cn ⟨.function, nms, isg, isc, scm⟩ L a ccd cl outer) (call (.ref 735) [.ref pa]) Q E s := by
  let no0 : Obj := instObj 738 pd
  let no1 : Obj := prefD w s1 s2 s3 s4 s5 v1 v3 v5 b v
  replace N : News h₀ L s.heap [(pa, no0), (pd, no1)] := N
  w_on; revert X; k_fill; intro X; have cE0 := InElt.start s.heap; k_steps
  all_goals first | exact absurd (show Int.fdiv v 16 = 4 by rw [Int.fdiv_eq_ediv_of_nonneg _ (by decide)]; omega) (by assumption) | (refine' retY ?ceq (ret _ _ _ ?cF ?cE ?cN); (case cF => assumption); (case cE => assumption); (case cN => (first | assumption | (refine' cb_drop ?cbN ?cbS; (case cbN => assumption); (case cbS => kcj_all)))); (case ceq => (first | exact pB1 (by assumption) hv (by assumption) | exact pB2 (by assumption) hv (by assumption) | exact pB3 (by assumption) hv (by assumption) | exact pB4 (by assumption) hv (by assumption) | fail "octets")))

theorem row89 : True := by
  k_with "call ref" => ((with_reducible show wpAny _ _ (call (Value.ref 735) _) _ _ _); k_dflt (refine' octets_c ?k1 ?k2 ?k3 (cb_drop ?k4 ?k9) ?k5 ?k7 ?k8 ?h0 ?_; (case k1 => k_asm); (case k2 => k_asm); (case k3 => k_asm); (case k4 => k_asm); (case k5 => k_asm); (case k9 => repeat (first | exact subNil | refine subCons (by k_mem) ?_)); (case k7 => (first | exact roomA hd rfl | exact roomB hd rfl | ((try simp only [depth_mark, depth_under_make, depth_under_kw, depth_in1, depth_deeper, depth_caller]); (try dsimp only [ktrTop]); omega))); (case k8 => (first | exact unitA hu rfl | ((try simp only [units_under_make, units_in1, units_deeper, Around.mark_units, units_caller]); (try dsimp only [ktrTop]); omega))); (case h0 => first | assumption | exact rexV_in | decide); k_whole); intro t9  h9 tk9  F9 E9 N9; (k_dflt (replace N9 := newsApp N9 E9 (by k_asm))); clear E9; (try dsimp only [List.nil_append, List.cons_append, List.append_nil] at N9); (try simp only [List.append_nil] at N9); (try dsimp only); (try k_fold); (try k_sweep); walk_say "CONTRACT octets_c")
  trivial
set_option maxRecDepth 100000 in
set_option maxHeartbeats 0 in
theorem shape_c
  {w : World} {p : Program} {loose : List Str} {mean : ExcName → Option Value} {mg mb : Str → Option Value}
  {dp un : Nat} {gd : Option (List Code)} {cn : Str} {nms : List (Str × NameKind)} {isg isc : Bool} {scm : List (Str × Const)} {a : Addr} {ccd : Value} {cl : List (Str × Addr)} {outer : List Env} {A₀ : Around} {base h₀ : Heap} {L : Addr} {m : Str → Option Value} {s : Shared} {Q E : Value → Shared → Prop}
  {r rd : Addr} {r1 r2 r3 r4 rk1 rn1 rz1 : Tok} {nm : Value} {rk : Str} {n z : Int} (B : Below A₀ base outer h₀) (F : Fr h₀ L s.heap m) (X : (kk.heap_1 w.params).In h₀) (N : News h₀ L s.heap [(r, instObj 938 rd), (rd, regD w r1 r2 r3 r4 nm rk rk1 n rn1 z rz1)]) (T : Top p loose mean mg mb h₀)
    (hd : dp + 32 < 1000) (hu : un + 190 < 9900) 
    (ret : ∀ (s1 s2 s3 s4 s5 s6 v1 v2 v3 v4 v5 v6 : Tok) (sh sd : Addr) (g1 : r < sh) (g2 : r < sd) (h' : Heap) (tk' : Nat), let mo0 : Obj := instObj 583 sd; let mo1 : Obj := shapeD w s1 s2 s3 s4 s5 s6 v1 v2 v3 v4 v5 v6 (n % 8) (bit7 n); Fr h₀ L h' m → InElt s.heap h' → News h₀ L h' [(sh, mo0), (sd, mo1)] → Q (.ref sh) { s with heap := h', toks := tk' }) :
    wpAny (model Challenge.rw_nz0171_01.row.prog w) (ktrTop dp un gd cn ⟨.function, nms, isg, isc, scm⟩ L a ccd cl outer) (call (.ref 594) [.ref r]) Q E s := by
  let no0 : Obj := instObj 938 rd
  let no1 : Obj := regD w r1 r2 r3 r4 nm rk rk1 n rn1 z rz1
  replace N : News h₀ L s.heap [(r, no0), (rd, no1)] := N
  w_on; revert X; k_fill; intro X; have cE0 := InElt.start s.heap; k_steps
  all_goals (refine' ret _ _ _ _ _ _ _ _ _ _ _ _ _ _ ?f1 ?f2 _ _ ?cF ?cE ?cN; (case cF => assumption); (case cE => assumption); (case cN => (first | assumption | (refine' cb_drop ?cbN ?cbS; (case cbN => assumption); (case cbS => kcj_all)))); (case f1 => (first | exact ltP0 (by assumption) | exact ltP1 (by assumption) | exact ltP2 (by assumption) | exact ltP3 (by assumption) | exact ltP4 (by assumption) | exact ltP5 (by assumption) | exact ltT0 (by assumption) (by assumption) | exact ltT1 (by assumption) (by assumption) | exact ltT2 (by assumption) (by assumption) | exact ltT3 (by assumption) (by assumption) | (refine ltN ?_; (try dsimp only); omega))); (case f2 => (first | exact ltP0 (by assumption) | exact ltP1 (by assumption) | exact ltP2 (by assumption) | exact ltP3 (by assumption) | exact ltP4 (by assumption) | exact ltP5 (by assumption) | exact ltT0 (by assumption) (by assumption) | exact ltT1 (by assumption) (by assumption) | exact ltT2 (by assumption) (by assumption) | exact ltT3 (by assumption) (by assumption) | (refine ltN ?_; (try dsimp only); omega))))

theorem row90 : True := by
  k_with "call ref" => ((with_reducible show wpAny _ _ (call (Value.ref 594) _) _ _ _); k_dflt (refine' shape_c ?k1 ?k2 ?k3 (cb_drop ?k4 ?k9) ?k5 ?k7 ?k8  ?_; (case k1 => k_asm); (case k2 => k_asm); (case k3 => k_asm); (case k4 => k_asm); (case k5 => k_asm); (case k9 => repeat (first | exact subNil | refine subCons (by k_mem) ?_)); (case k7 => (first | exact roomA hd rfl | exact roomB hd rfl | ((try simp only [depth_mark, depth_under_make, depth_under_kw, depth_in1, depth_deeper, depth_caller]); (try dsimp only [ktrTop]); omega))); (case k8 => (first | exact unitA hu rfl | ((try simp only [units_under_make, units_in1, units_deeper, Around.mark_units, units_caller]); (try dsimp only [ktrTop]); omega))); k_whole); intro s19 s29 s39 s49 s59 s69 v19 v29 v39 v49 v59 v69 sh9 sd9 g19 g29 h9 tk9 mo09 mo19 F9 E9 N9; (try k_lt2 g19); (try k_lt2 g29); (k_dflt (replace N9 := newsApp N9 E9 (by k_asm))); clear E9; (try dsimp only [List.nil_append, List.cons_append, List.append_nil] at N9); (try simp only [List.append_nil] at N9); (try dsimp only); (try k_fold); (try k_sweep); walk_say "CONTRACT shape_c")
  trivial
set_option maxRecDepth 100000 in
set_option maxHeartbeats 0 in
theorem lay_c
  {w : World} {p : Program} {loose : List Str} {mean : ExcName → Option Value} {mg mb : Str → Option Value}
  {dp un : Nat} {gd : Option (List Code)} {cn : Str} {nms : List (Str × NameKind)} {isg isc : Bool} {scm : List (Str × Const)} {a : Addr} {ccd : Value} {cl : List (Str × Addr)} {outer : List Env} {A₀ : Around} {base h₀ : Heap} {L : Addr} {m : Str → Option Value} {s : Shared} {Q E : Value → Shared → Prop}
  {sh sd : Addr} {s1 s2 s3 s4 s5 s6 v1 v2 v3 v4 v5 v6 : Tok} {rm b : Int} {t1 t2 : Tok} (B : Below A₀ base outer h₀) (F : Fr h₀ L s.heap m) (X : (kk.heap_1 w.params).In h₀) (N : News h₀ L s.heap [(sh, instObj 583 sd), (sd, shapeD w s1 s2 s3 s4 s5 s6 v1 v2 v3 v4 v5 v6 rm b)]) (T : Top p loose mean mg mb h₀)
    (hd : dp + 36 < 1000) (hu : un + 220 < 9900) (h0 : 0 ≤ rm) (h1 : rm ≤ 7)
    (ret : ∀ (t' : Tok)  (h' : Heap) (tk' : Nat), Fr h₀ L h' m → InElt s.heap h' → News h₀ L h' [] → Q (.bytes #[(192 + rm).toNat.toUInt8] t') { s with heap := h', toks := tk' }) :
    wpAny (model Challenge.rw_nz0171_01.row.prog w) (ktrTop dp un gd cn ⟨.function, nms, isg, isc, scm⟩ L a ccd cl outer) (call (.ref 657) [.ref sh, .int 0 t1, .int 0 t2]) Q E s := by
  let no0 : Obj := instObj 583 sd
  let no1 : Obj := shapeD w s1 s2 s3 s4 s5 s6 v1 v2 v3 v4 v5 v6 rm b
  replace N : News h₀ L s.heap [(sh, no0), (sd, no1)] := N
  w_on; revert X; k_fill; intro X; have cE0 := InElt.start s.heap; k_steps
  all_goals (refine' retY ?ceq (ret _ _ _ ?cF ?cE ?cN); (case cF => assumption); (case cE => assumption); (case cN => (first | assumption | (refine' cb_drop ?cbN ?cbS; (case cbN => assumption); (case cbS => kcj_all)))); (case ceq => (law_clear; first | rfl | exact lay_eq)))

theorem row91 : True := by
  k_with "call ref" => ((with_reducible show wpAny _ _ (call (Value.ref 657) _) _ _ _); k_dflt (refine' lay_c ?k1 ?k2 ?k3 (cb_drop ?k4 ?k9) ?k5 ?k7 ?k8 ?h0 ?h1 ?_; (case k1 => k_asm); (case k2 => k_asm); (case k3 => k_asm); (case k4 => k_asm); (case k5 => k_asm); (case k9 => repeat (first | exact subNil | refine subCons (by k_mem) ?_)); (case k7 => (first | exact roomA hd rfl | exact roomB hd rfl | ((try simp only [depth_mark, depth_under_make, depth_under_kw, depth_in1, depth_deeper, depth_caller]); (try dsimp only [ktrTop]); omega))); (case k8 => (first | exact unitA hu rfl | ((try simp only [units_under_make, units_in1, units_deeper, Around.mark_units, units_caller]); (try dsimp only [ktrTop]); omega))); (case h0 => first | assumption | omega | decide); (case h1 => first | assumption | omega | decide); k_whole); intro t9  h9 tk9  F9 E9 N9; (k_dflt (replace N9 := newsApp N9 E9 (by k_asm))); clear E9; (try dsimp only [List.nil_append, List.cons_append, List.append_nil] at N9); (try simp only [List.append_nil] at N9); (try dsimp only); (try k_fold); (try k_sweep); walk_say "CONTRACT lay_c")
  trivial
theorem row92 : True := by
  k_with "call ref" => (k_here; k_inElt; (with_reducible show wpAny _ _ (call (Value.ref 738) _) _ _ _); k_dflt (refine' call_clsE ?k1 ?k2 ?k3 ?k4 ?k5 ?k6 ?_; (case k1 => k_asm); (case k2 => k_asm); (case k3 => k_asm); (case k4 => k_is); (case k5 => k_is); (case k6 => k_is); k_whole; intro x' d' h' F' N' l1 l2 cE1 cX1 cX2; (try k_lt l1); (try k_lt2 l2); k_enter))
  trivial
set_option maxRecDepth 100000 in
set_option maxHeartbeats 0 in
theorem prefixes_c
  {w : World} {p : Program} {loose : List Str} {mean : ExcName → Option Value} {mg mb : Str → Option Value}
  {dp un : Nat} {gd : Option (List Code)} {cn : Str} {nms : List (Str × NameKind)} {isg isc : Bool} {scm : List (Str × Const)} {a : Addr} {ccd : Value} {cl : List (Str × Addr)} {outer : List Env} {A₀ : Around} {base h₀ : Heap} {L : Addr} {m : Str → Option Value} {s : Shared} {Q E : Value → Shared → Prop}
  {v1 v3 v5 : Tok} {b : Bool} {v : Int} (B : Below A₀ base outer h₀) (F : Fr h₀ L s.heap m) (X : (kk.heap_1 w.params).In h₀) (N : News h₀ L s.heap []) (T : Top p loose mean mg mb h₀)
    (hd : dp + 24 < 1000) (hu : un + 130 < 9900) 
    (ret : ∀ (pa pd : Addr) (s1 s2 s3 s4 s5 : Tok)  (h' : Heap) (tk' : Nat), let mo0 : Obj := instObj 738 pd; let mo1 : Obj := prefD w s1 s2 s3 s4 s5 v1 v3 v5 b v; Fr h₀ L h' m → InElt s.heap h' → News h₀ L h' [(pa, mo0), (pd, mo1)] → Q (.ref pa) { s with heap := h', toks := tk' }) :
    wpAny (model Challenge.rw_nz0171_01.row.prog w) (ktrTop dp un gd cn ⟨.function, nms, isg, isc, scm⟩ L a ccd cl outer) (call (.ref 738) [.str "" v1, .bool b, .int 0 v3, .bool false, .int v v5]) Q E s := by
  w_on; revert X; k_fill; intro X; have cE0 := InElt.start s.heap; k_steps
  all_goals (refine' ret _ _ _ _ _ _ _ _ _ ?cF ?cE ?cN; (case cF => assumption); (case cE => (refine' elt_afterC ?e1 ?e2 ?e3 ?e4 ?e5 ?e6; (case e2 => assumption); (case e1 => assumption); (case e3 => assumption); (case e4 => assumption); (case e5 => assumption); (case e6 => repeat (first | exact List.forall_mem_nil _ | refine List.forall_mem_cons.mpr ⟨(by first | exact Or.inr (by with_reducible assumption) | exact Or.inl (by k_mem)), ?_⟩)))); (case cN => (first | assumption | (refine' cb_drop ?cbN ?cbS; (case cbN => assumption); (case cbS => kcj_all)))))

theorem row93 : True := by
  k_with "call ref" => ((with_reducible show wpAny _ _ (call (Value.ref 738) _) _ _ _); k_dflt (refine' prefixes_c ?k1 ?k2 ?k3 (cb_drop ?k4 ?k9) ?k5 ?k7 ?k8  ?_; (case k1 => k_asm); (case k2 => k_asm); (case k3 => k_asm); (case k4 => k_asm); (case k5 => k_asm); (case k9 => repeat (first | exact subNil | refine subCons (by k_mem) ?_)); (case k7 => (first | exact roomA hd rfl | exact roomB hd rfl | ((try simp only [depth_mark, depth_under_make, depth_under_kw, depth_in1, depth_deeper, depth_caller]); (try dsimp only [ktrTop]); omega))); (case k8 => (first | exact unitA hu rfl | ((try simp only [units_under_make, units_in1, units_deeper, Around.mark_units, units_caller]); (try dsimp only [ktrTop]); omega))); k_whole); intro pa9 pd9 s19 s29 s39 s49 s59  h9 tk9 mo09 mo19 F9 E9 N9; (k_dflt (replace N9 := newsApp N9 E9 (by k_asm))); clear E9; (try dsimp only [List.nil_append, List.cons_append, List.append_nil] at N9); (try simp only [List.append_nil] at N9); (try dsimp only); (try k_fold); (try k_sweep); walk_say "CONTRACT prefixes_c")
  trivial
abbrev encD (w : World) (s1 s2 s3 s4 : Tok) (oct : Array UInt8) (to : Tok) (fx f : Addr) (sh : Value) : Obj :=
  dictOf [ent w "octets" s1 (.bytes oct to), ent w "fixups" s2 (.ref fx), ent w "form" s3 (.ref f), ent w "shape" s4 sh] 4
theorem row94 : True := by
  k_with "call ref" => (k_here; k_inElt; (with_reducible show wpAny _ _ (call (Value.ref 806) _) _ _ _); k_dflt (refine' call_clsE ?k1 ?k2 ?k3 ?k4 ?k5 ?k6 ?_; (case k1 => k_asm); (case k2 => k_asm); (case k3 => k_asm); (case k4 => k_is); (case k5 => k_is); (case k6 => k_is); k_whole; intro x' d' h' F' N' l1 l2 cE1 cX1 cX2; (try k_lt l1); (try k_lt2 l2); k_enter))
  trivial
set_option maxRecDepth 100000 in
set_option maxHeartbeats 0 in
theorem encoding_c
  {w : World} {p : Program} {loose : List Str} {mean : ExcName → Option Value} {mg mb : Str → Option Value}
  {dp un : Nat} {gd : Option (List Code)} {cn : Str} {nms : List (Str × NameKind)} {isg isc : Bool} {scm : List (Str × Const)} {a : Addr} {ccd : Value} {cl : List (Str × Addr)} {outer : List Env} {A₀ : Around} {base h₀ : Heap} {L : Addr} {m : Str → Option Value} {s : Shared} {Q E : Value → Shared → Prop}
  {oct : Array UInt8} {to : Tok} {fx f : Addr} {sh : Value} (B : Below A₀ base outer h₀) (F : Fr h₀ L s.heap m) (X : (kk.heap_1 w.params).In h₀) (N : News h₀ L s.heap []) (T : Top p loose mean mg mb h₀)
    (hd : dp + 24 < 1000) (hu : un + 130 < 9900) 
    (ret : ∀ (e ed : Addr) (s1 s2 s3 s4 : Tok)  (h' : Heap) (tk' : Nat), let mo0 : Obj := instObj 806 ed; let mo1 : Obj := encD w s1 s2 s3 s4 oct to fx f sh; Fr h₀ L h' m → InElt s.heap h' → News h₀ L h' [(e, mo0), (ed, mo1)] → Q (.ref e) { s with heap := h', toks := tk' }) :
    wpAny (model Challenge.rw_nz0171_01.row.prog w) (ktrTop dp un gd cn ⟨.function, nms, isg, isc, scm⟩ L a ccd cl outer) (call (.ref 806) [.bytes oct to, .ref fx, .ref f, sh]) Q E s := by
  w_on; revert X; k_fill; intro X; have cE0 := InElt.start s.heap; k_steps
  all_goals (refine' ret _ _ _ _ _ _ _ _ ?cF ?cE ?cN; (case cF => assumption); (case cE => (refine' elt_afterC ?e1 ?e2 ?e3 ?e4 ?e5 ?e6; (case e2 => assumption); (case e1 => assumption); (case e3 => assumption); (case e4 => assumption); (case e5 => assumption); (case e6 => repeat (first | exact List.forall_mem_nil _ | refine List.forall_mem_cons.mpr ⟨(by first | exact Or.inr (by with_reducible assumption) | exact Or.inl (by k_mem)), ?_⟩)))); (case cN => (first | assumption | (refine' cb_drop ?cbN ?cbS; (case cbN => assumption); (case cbS => kcj_all)))))

theorem row95 : True := by
  k_with "call ref" => ((with_reducible show wpAny _ _ (call (Value.ref 806) _) _ _ _); k_dflt (refine' encoding_c ?k1 ?k2 ?k3 (cb_drop ?k4 ?k9) ?k5 ?k7 ?k8  ?_; (case k1 => k_asm); (case k2 => k_asm); (case k3 => k_asm); (case k4 => k_asm); (case k5 => k_asm); (case k9 => repeat (first | exact subNil | refine subCons (by k_mem) ?_)); (case k7 => (first | exact roomA hd rfl | exact roomB hd rfl | ((try simp only [depth_mark, depth_under_make, depth_under_kw, depth_in1, depth_deeper, depth_caller]); (try dsimp only [ktrTop]); omega))); (case k8 => (first | exact unitA hu rfl | ((try simp only [units_under_make, units_in1, units_deeper, Around.mark_units, units_caller]); (try dsimp only [ktrTop]); omega))); k_whole); intro e9 ed9 s19 s29 s39 s49  h9 tk9 mo09 mo19 F9 E9 N9; (k_dflt (replace N9 := newsApp N9 E9 (by k_asm))); clear E9; (try dsimp only [List.nil_append, List.cons_append, List.append_nil] at N9); (try simp only [List.append_nil] at N9); (try dsimp only); (try k_fold); (try k_sweep); walk_say "CONTRACT encoding_c")
  trivial
set_option maxRecDepth 100000 in
set_option maxHeartbeats 0 in
theorem slots_c
  {w : World} {p : Program} {loose : List Str} {mean : ExcName → Option Value} {mg mb : Str → Option Value}
  {dp un : Nat} {gd : Option (List Code)} {cn : Str} {nms : List (Str × NameKind)} {isg isc : Bool} {scm : List (Str × Const)} {a : Addr} {ccd : Value} {cl : List (Str × Addr)} {outer : List Env} {A₀ : Around} {base h₀ : Heap} {L : Addr} {m : Str → Option Value} {s : Shared} {Q E : Value → Shared → Prop}
  {op es dg sz : Int} {f fd kt pt : Addr} {a1 a2 a3 a4 a5 a6 a7 a8 a9 a0 tn to te td ts tm tx : Tok} {k3 k4 : Str} {u1 u2 : Tok} (B : Below A₀ base outer h₀) (F : Fr h₀ L s.heap m) (X : (kk.heap_1 w.params).In h₀) (N : News h₀ L s.heap [(f, instObj 257 fd), (fd, formD w a1 a2 a3 a4 a5 a6 a7 a8 a9 a0 "mov" tn kt op to es te dg td sz ts tm tx pt), (pt, tupO [.str k3 u1, .str k4 u2])]) (T : Top p loose mean mg mb h₀)
    (hd : dp + 24 < 1000) (hu : un + 130 < 9900) 
    (ret : ∀ (sl : Addr) (c : Nat)  (h' : Heap) (tk' : Nat), let mo0 : Obj := W.listOf #[.str k3 u1, .str k4 u2] c; Fr h₀ L h' m → InElt s.heap h' → News h₀ L h' [(sl, mo0)] → Q (.ref sl) { s with heap := h', toks := tk' }) :
    wpAny (model Challenge.rw_nz0171_01.row.prog w) (ktrTop dp un gd cn ⟨.function, nms, isg, isc, scm⟩ L a ccd cl outer) (call (.ref 226) [.ref f]) Q E s := by
  let no0 : Obj := instObj 257 fd
  let no1 : Obj := formD w a1 a2 a3 a4 a5 a6 a7 a8 a9 a0 "mov" tn kt op to es te dg td sz ts tm tx pt
  let no2 : Obj := tupO [.str k3 u1, .str k4 u2]
  replace N : News h₀ L s.heap [(f, no0), (fd, no1), (pt, no2)] := N
  w_on; revert X; k_fill; intro X; have cE0 := InElt.start s.heap; k_steps
  all_goals (refine' ret _ _ _ _ ?cF ?cE ?cN; (case cF => assumption); (case cE => (first | assumption | (refine' elt_afterC ?e1 ?e2 ?e3 ?e4 ?e5 ?e6; (case e2 => assumption); (case e1 => assumption); (case e3 => assumption); (case e4 => assumption); (case e5 => assumption); (case e6 => repeat (first | exact List.forall_mem_nil _ | refine List.forall_mem_cons.mpr ⟨(by first | exact Or.inr (by with_reducible assumption) | exact Or.inl (by k_mem)), ?_⟩))))); (case cN => (first | assumption | (refine' cb_drop ?cbN ?cbS; (case cbN => assumption); (case cbS => kcj_all)))))

theorem row96 : True := by
  k_with "call ref" => ((with_reducible show wpAny _ _ (call (Value.ref 226) _) _ _ _); k_dflt (refine' slots_c ?k1 ?k2 ?k3 (cb_drop ?k4 ?k9) ?k5 ?k7 ?k8  ?_; (case k1 => k_asm); (case k2 => k_asm); (case k3 => k_asm); (case k4 => k_asm); (case k5 => k_asm); (case k9 => repeat (first | exact subNil | refine subCons (by k_mem) ?_)); (case k7 => (first | exact roomA hd rfl | exact roomB hd rfl | ((try simp only [depth_mark, depth_under_make, depth_under_kw, depth_in1, depth_deeper, depth_caller]); (try dsimp only [ktrTop]); omega))); (case k8 => (first | exact unitA hu rfl | ((try simp only [units_under_make, units_in1, units_deeper, Around.mark_units, units_caller]); (try dsimp only [ktrTop]); omega))); k_whole); intro sl9 c9  h9 tk9 mo09 F9 E9 N9; (k_dflt (replace N9 := newsApp N9 E9 (by k_asm))); clear E9; (try dsimp only [List.nil_append, List.cons_append, List.append_nil] at N9); (try simp only [List.append_nil] at N9); (try dsimp only); (try k_fold); (try k_sweep); walk_say "CONTRACT slots_c")
  trivial
set_option maxRecDepth 100000 in
set_option maxHeartbeats 0 in
theorem no_nop_c
  {w : World} {p : Program} {loose : List Str} {mean : ExcName → Option Value} {mg mb : Str → Option Value}
  {dp un : Nat} {gd : Option (List Code)} {cn : Str} {nms : List (Str × NameKind)} {isg isc : Bool} {scm : List (Str × Const)} {a : Addr} {ccd : Value} {cl : List (Str × Addr)} {outer : List Env} {A₀ : Around} {base h₀ : Heap} {L : Addr} {m : Str → Option Value} {s : Shared} {Q E : Value → Shared → Prop}
  {op es dg sz : Int} {f fd kt pt : Addr} {a1 a2 a3 a4 a5 a6 a7 a8 a9 a0 tn to te td ts tm tx : Tok} {v : Value} (B : Below A₀ base outer h₀) (F : Fr h₀ L s.heap m) (X : (kk.heap_1 w.params).In h₀) (N : News h₀ L s.heap [(f, instObj 257 fd), (fd, formD w a1 a2 a3 a4 a5 a6 a7 a8 a9 a0 "mov" tn kt op to es te dg td sz ts tm tx pt)]) (T : Top p loose mean mg mb h₀)
    (hd : dp + 24 < 1000) (hu : un + 130 < 9900) 
    (ret : ∀   (h' : Heap) (tk' : Nat), Fr h₀ L h' m → InElt s.heap h' → News h₀ L h' [] → Q (.none) { s with heap := h', toks := tk' }) :
    wpAny (model Challenge.rw_nz0171_01.row.prog w) (ktrTop dp un gd cn ⟨.function, nms, isg, isc, scm⟩ L a ccd cl outer) (call (.ref 878) [.ref f, v]) Q E s := by
  let no0 : Obj := instObj 257 fd
  let no1 : Obj := formD w a1 a2 a3 a4 a5 a6 a7 a8 a9 a0 "mov" tn kt op to es te dg td sz ts tm tx pt
  replace N : News h₀ L s.heap [(f, no0), (fd, no1)] := N
  w_on; revert X; k_fill; intro X; have cE0 := InElt.start s.heap; k_steps
  all_goals (refine' ret _ _ ?cF ?cE ?cN; (case cF => assumption); (case cE => (first | assumption | (refine' elt_afterC ?e1 ?e2 ?e3 ?e4 ?e5 ?e6; (case e2 => assumption); (case e1 => assumption); (case e3 => assumption); (case e4 => assumption); (case e5 => assumption); (case e6 => repeat (first | exact List.forall_mem_nil _ | refine List.forall_mem_cons.mpr ⟨(by first | exact Or.inr (by with_reducible assumption) | exact Or.inl (by k_mem)), ?_⟩))))); (case cN => (first | assumption | (refine' cb_drop ?cbN ?cbS; (case cbN => assumption); (case cbS => kcj_all)))))

theorem row97 : True := by
  k_with "call ref" => ((with_reducible show wpAny _ _ (call (Value.ref 878) _) _ _ _); k_dflt (refine' no_nop_c ?k1 ?k2 ?k3 (cb_drop ?k4 ?k9) ?k5 ?k7 ?k8  ?_; (case k1 => k_asm); (case k2 => k_asm); (case k3 => k_asm); (case k4 => k_asm); (case k5 => k_asm); (case k9 => repeat (first | exact subNil | refine subCons (by k_mem) ?_)); (case k7 => (first | exact roomA hd rfl | exact roomB hd rfl | ((try simp only [depth_mark, depth_under_make, depth_under_kw, depth_in1, depth_deeper, depth_caller]); (try dsimp only [ktrTop]); omega))); (case k8 => (first | exact unitA hu rfl | ((try simp only [units_under_make, units_in1, units_deeper, Around.mark_units, units_caller]); (try dsimp only [ktrTop]); omega))); k_whole); intro   h9 tk9  F9 E9 N9; (k_dflt (replace N9 := newsApp N9 E9 (by k_asm))); clear E9; (try dsimp only [List.nil_append, List.cons_append, List.append_nil] at N9); (try simp only [List.append_nil] at N9); (try dsimp only); (try k_fold); (try k_sweep); walk_say "CONTRACT no_nop_c")
  trivial
set_option maxRecDepth 100000 in
set_option maxHeartbeats 0 in
theorem repeat_c
  {w : World} {p : Program} {loose : List Str} {mean : ExcName → Option Value} {mg mb : Str → Option Value}
  {dp un : Nat} {gd : Option (List Code)} {cn : Str} {nms : List (Str × NameKind)} {isg isc : Bool} {scm : List (Str × Const)} {a : Addr} {ccd : Value} {cl : List (Str × Addr)} {outer : List Env} {A₀ : Around} {base h₀ : Heap} {L : Addr} {m : Str → Option Value} {s : Shared} {Q E : Value → Shared → Prop}
  {op es dg sz : Int} {f fd kt pt : Addr} {a1 a2 a3 a4 a5 a6 a7 a8 a9 a0 tn to te td ts tm tx : Tok} {i id ot : Addr} {i1 i2 i3 i4 i5 : Tok} (B : Below A₀ base outer h₀) (F : Fr h₀ L s.heap m) (X : (kk.heap_1 w.params).In h₀) (N : News h₀ L s.heap [(f, instObj 257 fd), (fd, formD w a1 a2 a3 a4 a5 a6 a7 a8 a9 a0 "mov" tn kt op to es te dg td sz ts tm tx pt), (i, instObj 464 id), (id, insD w i1 i2 i3 i4 i5 ot)]) (T : Top p loose mean mg mb h₀)
    (hd : dp + 24 < 1000) (hu : un + 130 < 9900) 
    (ret : ∀ (t' : Tok)  (h' : Heap) (tk' : Nat), Fr h₀ L h' m → InElt s.heap h' → News h₀ L h' [] → Q (.int 0 t') { s with heap := h', toks := tk' }) :
    wpAny (model Challenge.rw_nz0171_01.row.prog w) (ktrTop dp un gd cn ⟨.function, nms, isg, isc, scm⟩ L a ccd cl outer) (call (.ref 845) [.ref f, .ref i]) Q E s := by
  let no0 : Obj := instObj 257 fd
  let no1 : Obj := formD w a1 a2 a3 a4 a5 a6 a7 a8 a9 a0 "mov" tn kt op to es te dg td sz ts tm tx pt
  let no2 : Obj := instObj 464 id
  let no3 : Obj := insD w i1 i2 i3 i4 i5 ot
  replace N : News h₀ L s.heap [(f, no0), (fd, no1), (i, no2), (id, no3)] := N
  w_on; revert X; k_fill; intro X; have cE0 := InElt.start s.heap; k_steps
  all_goals (refine' ret _ _ _ ?cF ?cE ?cN; (case cF => assumption); (case cE => (first | assumption | (refine' elt_afterC ?e1 ?e2 ?e3 ?e4 ?e5 ?e6; (case e2 => assumption); (case e1 => assumption); (case e3 => assumption); (case e4 => assumption); (case e5 => assumption); (case e6 => repeat (first | exact List.forall_mem_nil _ | refine List.forall_mem_cons.mpr ⟨(by first | exact Or.inr (by with_reducible assumption) | exact Or.inl (by k_mem)), ?_⟩))))); (case cN => (first | assumption | (refine' cb_drop ?cbN ?cbS; (case cbN => assumption); (case cbS => kcj_all)))))

theorem row98 : True := by
  k_with "call ref" => ((with_reducible show wpAny _ _ (call (Value.ref 845) _) _ _ _); k_dflt (refine' repeat_c ?k1 ?k2 ?k3 (cb_drop ?k4 ?k9) ?k5 ?k7 ?k8  ?_; (case k1 => k_asm); (case k2 => k_asm); (case k3 => k_asm); (case k4 => k_asm); (case k5 => k_asm); (case k9 => repeat (first | exact subNil | refine subCons (by k_mem) ?_)); (case k7 => (first | exact roomA hd rfl | exact roomB hd rfl | ((try simp only [depth_mark, depth_under_make, depth_under_kw, depth_in1, depth_deeper, depth_caller]); (try dsimp only [ktrTop]); omega))); (case k8 => (first | exact unitA hu rfl | ((try simp only [units_under_make, units_in1, units_deeper, Around.mark_units, units_caller]); (try dsimp only [ktrTop]); omega))); k_whole); intro t9  h9 tk9  F9 E9 N9; (k_dflt (replace N9 := newsApp N9 E9 (by k_asm))); clear E9; (try dsimp only [List.nil_append, List.cons_append, List.append_nil] at N9); (try simp only [List.append_nil] at N9); (try dsimp only); (try k_fold); (try k_sweep); walk_say "CONTRACT repeat_c")
  trivial
set_option maxRecDepth 100000 in
set_option maxHeartbeats 0 in
theorem locks_c
  {w : World} {p : Program} {loose : List Str} {mean : ExcName → Option Value} {mg mb : Str → Option Value}
  {dp un : Nat} {gd : Option (List Code)} {cn : Str} {nms : List (Str × NameKind)} {isg isc : Bool} {scm : List (Str × Const)} {a : Addr} {ccd : Value} {cl : List (Str × Addr)} {outer : List Env} {A₀ : Around} {base h₀ : Heap} {L : Addr} {m : Str → Option Value} {s : Shared} {Q E : Value → Shared → Prop}
  {f : Addr} {i id ot : Addr} {i1 i2 i3 i4 i5 : Tok} (B : Below A₀ base outer h₀) (F : Fr h₀ L s.heap m) (X : (kk.heap_1 w.params).In h₀) (N : News h₀ L s.heap [(i, instObj 464 id), (id, insD w i1 i2 i3 i4 i5 ot)]) (T : Top p loose mean mg mb h₀)
    (hd : dp + 24 < 1000) (hu : un + 130 < 9900) 
    (ret : ∀   (h' : Heap) (tk' : Nat), Fr h₀ L h' m → InElt s.heap h' → News h₀ L h' [] → Q (.bool false) { s with heap := h', toks := tk' }) :
    wpAny (model Challenge.rw_nz0171_01.row.prog w) (ktrTop dp un gd cn ⟨.function, nms, isg, isc, scm⟩ L a ccd cl outer) (call (.ref 852) [.ref f, .ref i]) Q E s := by
  let no0 : Obj := instObj 464 id
  let no1 : Obj := insD w i1 i2 i3 i4 i5 ot
  replace N : News h₀ L s.heap [(i, no0), (id, no1)] := N
  w_on; revert X; k_fill; intro X; have cE0 := InElt.start s.heap; k_steps
  all_goals (refine' ret _ _ ?cF ?cE ?cN; (case cF => assumption); (case cE => (first | assumption | (refine' elt_afterC ?e1 ?e2 ?e3 ?e4 ?e5 ?e6; (case e2 => assumption); (case e1 => assumption); (case e3 => assumption); (case e4 => assumption); (case e5 => assumption); (case e6 => repeat (first | exact List.forall_mem_nil _ | refine List.forall_mem_cons.mpr ⟨(by first | exact Or.inr (by with_reducible assumption) | exact Or.inl (by k_mem)), ?_⟩))))); (case cN => (first | assumption | (refine' cb_drop ?cbN ?cbS; (case cbN => assumption); (case cbS => kcj_all)))))

theorem row99 : True := by
  k_with "call ref" => ((with_reducible show wpAny _ _ (call (Value.ref 852) _) _ _ _); k_dflt (refine' locks_c ?k1 ?k2 ?k3 (cb_drop ?k4 ?k9) ?k5 ?k7 ?k8  ?_; (case k1 => k_asm); (case k2 => k_asm); (case k3 => k_asm); (case k4 => k_asm); (case k5 => k_asm); (case k9 => repeat (first | exact subNil | refine subCons (by k_mem) ?_)); (case k7 => (first | exact roomA hd rfl | exact roomB hd rfl | ((try simp only [depth_mark, depth_under_make, depth_under_kw, depth_in1, depth_deeper, depth_caller]); (try dsimp only [ktrTop]); omega))); (case k8 => (first | exact unitA hu rfl | ((try simp only [units_under_make, units_in1, units_deeper, Around.mark_units, units_caller]); (try dsimp only [ktrTop]); omega))); k_whole); intro   h9 tk9  F9 E9 N9; (k_dflt (replace N9 := newsApp N9 E9 (by k_asm))); clear E9; (try dsimp only [List.nil_append, List.cons_append, List.append_nil] at N9); (try simp only [List.append_nil] at N9); (try dsimp only); (try k_fold); (try k_sweep); walk_say "CONTRACT locks_c")
  trivial
set_option maxRecDepth 100000 in
set_option maxHeartbeats 0 in
theorem shapes_c
  {w : World} {p : Program} {loose : List Str} {mean : ExcName → Option Value} {mg mb : Str → Option Value}
  {dp un : Nat} {gd : Option (List Code)} {cn : Str} {nms : List (Str × NameKind)} {isg isc : Bool} {scm : List (Str × Const)} {a : Addr} {ccd : Value} {cl : List (Str × Addr)} {outer : List Env} {A₀ : Around} {base h₀ : Heap} {L : Addr} {m : Str → Option Value} {s : Shared} {Q E : Value → Shared → Prop}
  {r rd : Addr} {r1 r2 r3 r4 rk1 rn1 rz1 : Tok} {nm : Value} {rk : Str} {n z : Int} {o od : Addr} {c1 c2 c3 : Tok} (B : Below A₀ base outer h₀) (F : Fr h₀ L s.heap m) (X : (kk.heap_1 w.params).In h₀) (N : News h₀ L s.heap [(o, instObj 377 od), (od, regO w c1 c2 c3 r), (r, instObj 938 rd), (rd, regD w r1 r2 r3 r4 nm rk rk1 n rn1 z rz1)]) (T : Top p loose mean mg mb h₀)
    (hd : dp + 36 < 1000) (hu : un + 220 < 9900) 
    (ret : ∀ (l : Addr) (c : Nat) (s1 s2 s3 s4 s5 s6 v1 v2 v3 v4 v5 v6 : Tok) (sh sd : Addr)  (h' : Heap) (tk' : Nat), let mo0 : Obj := W.listOf #[.ref sh] c; let mo1 : Obj := instObj 583 sd; let mo2 : Obj := shapeD w s1 s2 s3 s4 s5 s6 v1 v2 v3 v4 v5 v6 (n % 8) (bit7 n); Fr h₀ L h' m → InElt s.heap h' → News h₀ L h' [(l, mo0), (sh, mo1), (sd, mo2)] → Q (.ref l) { s with heap := h', toks := tk' }) :
    wpAny (model Challenge.rw_nz0171_01.row.prog w) (ktrTop dp un gd cn ⟨.function, nms, isg, isc, scm⟩ L a ccd cl outer) (call (.ref 824) [.ref o]) Q E s := by
  let no0 : Obj := instObj 377 od
  let no1 : Obj := regO w c1 c2 c3 r
  let no2 : Obj := instObj 938 rd
  let no3 : Obj := regD w r1 r2 r3 r4 nm rk rk1 n rn1 z rz1
  replace N : News h₀ L s.heap [(o, no0), (od, no1), (r, no2), (rd, no3)] := N
  w_on; revert X; k_fill; intro X; have cE0 := InElt.start s.heap; k_steps
  all_goals (refine' ret _ _ _ _ _ _ _ _ _ _ _ _ _ _ _ _ _ _ ?cF ?cE ?cN; (case cF => assumption); (case cE => (first | assumption | (refine' elt_afterC ?e1 ?e2 ?e3 ?e4 ?e5 ?e6; (case e2 => assumption); (case e1 => assumption); (case e3 => assumption); (case e4 => assumption); (case e5 => assumption); (case e6 => repeat (first | exact List.forall_mem_nil _ | refine List.forall_mem_cons.mpr ⟨(by first | exact Or.inr (by with_reducible assumption) | exact Or.inl (by k_mem)), ?_⟩))))); (case cN => (first | assumption | (refine' cb_drop ?cbN ?cbS; (case cbN => assumption); (case cbS => kcj_all)))))

theorem row100 : True := by
  k_with "call ref" => ((with_reducible show wpAny _ _ (call (Value.ref 824) _) _ _ _); k_dflt (refine' shapes_c ?k1 ?k2 ?k3 (cb_drop ?k4 ?k9) ?k5 ?k7 ?k8  ?_; (case k1 => k_asm); (case k2 => k_asm); (case k3 => k_asm); (case k4 => k_asm); (case k5 => k_asm); (case k9 => repeat (first | exact subNil | refine subCons (by k_mem) ?_)); (case k7 => (first | exact roomA hd rfl | exact roomB hd rfl | ((try simp only [depth_mark, depth_under_make, depth_under_kw, depth_in1, depth_deeper, depth_caller]); (try dsimp only [ktrTop]); omega))); (case k8 => (first | exact unitA hu rfl | ((try simp only [units_under_make, units_in1, units_deeper, Around.mark_units, units_caller]); (try dsimp only [ktrTop]); omega))); k_whole); intro l9 c9 s19 s29 s39 s49 s59 s69 v19 v29 v39 v49 v59 v69 sh9 sd9  h9 tk9 mo09 mo19 mo29 F9 E9 N9; (k_dflt (replace N9 := newsApp N9 E9 (by k_asm))); clear E9; (try dsimp only [List.nil_append, List.cons_append, List.append_nil] at N9); (try simp only [List.append_nil] at N9); (try dsimp only); (try k_fold); (try k_sweep); walk_say "CONTRACT shapes_c")
  trivial
set_option maxRecDepth 100000 in
set_option maxHeartbeats 0 in
theorem modrm_c
  {w : World} {p : Program} {loose : List Str} {mean : ExcName → Option Value} {mg mb : Str → Option Value}
  {dp un : Nat} {gd : Option (List Code)} {cn : Str} {nms : List (Str × NameKind)} {isg isc : Bool} {scm : List (Str × Const)} {a : Addr} {ccd : Value} {cl : List (Str × Addr)} {outer : List Env} {A₀ : Around} {base h₀ : Heap} {L : Addr} {m : Str → Option Value} {s : Shared} {Q E : Value → Shared → Prop}
  {op es sz : Int} {f fd kt pt : Addr} {a1 a2 a3 a4 a5 a6 a7 a8 a9 a0 tn to te td ts tm tx : Tok} {sh sd : Addr} {s1 s2 s3 s4 s5 s6 v1 v2 v3 v4 v5 v6 : Tok} {rm b : Int} {o od : Addr} {c1 c2 c3 t1 : Tok} {r : Addr} {y : Int} (B : Below A₀ base outer h₀) (F : Fr h₀ L s.heap m) (X : (kk.heap_1 w.params).In h₀) (N : News h₀ L s.heap [(f, instObj 257 fd), (fd, formD w a1 a2 a3 a4 a5 a6 a7 a8 a9 a0 "mov" tn kt op to es te 0 td sz ts tm tx pt), (o, instObj 377 od), (od, regO w c1 c2 c3 r), (sh, instObj 583 sd), (sd, shapeD w s1 s2 s3 s4 s5 s6 v1 v2 v3 v4 v5 v6 rm b)]) (T : Top p loose mean mg mb h₀)
    (hd : dp + 44 < 1000) (hu : un + 280 < 9900) (h0 : 0 ≤ rm) (h1 : rm ≤ 7)
    (ret : ∀ (t l : Addr) (tb : Tok) (c : Nat)  (h' : Heap) (tk' : Nat), let mo0 : Obj := tupO [.bytes #[(192 + rm).toNat.toUInt8] tb, .ref l]; let mo1 : Obj := W.listOf #[] c; Fr h₀ L h' m → InElt s.heap h' → News h₀ L h' [(t, mo0), (l, mo1)] → Q (.ref t) { s with heap := h', toks := tk' }) :
    wpAny (model Challenge.rw_nz0171_01.row.prog w) (ktrTop dp un gd cn ⟨.function, nms, isg, isc, scm⟩ L a ccd cl outer) (call (.ref 866) [.ref f, .none, .ref o, .ref sh, .int y t1]) Q E s := by
  let no0 : Obj := instObj 257 fd
  let no1 : Obj := formD w a1 a2 a3 a4 a5 a6 a7 a8 a9 a0 "mov" tn kt op to es te 0 td sz ts tm tx pt
  let no2 : Obj := instObj 377 od
  let no3 : Obj := regO w c1 c2 c3 r
  let no4 : Obj := instObj 583 sd
  let no5 : Obj := shapeD w s1 s2 s3 s4 s5 s6 v1 v2 v3 v4 v5 v6 rm b
  replace N : News h₀ L s.heap [(f, no0), (fd, no1), (o, no2), (od, no3), (sh, no4), (sd, no5)] := N
  w_on; revert X; k_fill; intro X; have cE0 := InElt.start s.heap; k_steps
  all_goals (refine' ret _ _ _ _ _ _ ?cF ?cE ?cN; (case cF => assumption); (case cE => (first | assumption | (refine' elt_afterC ?e1 ?e2 ?e3 ?e4 ?e5 ?e6; (case e2 => assumption); (case e1 => assumption); (case e3 => assumption); (case e4 => assumption); (case e5 => assumption); (case e6 => repeat (first | exact List.forall_mem_nil _ | refine List.forall_mem_cons.mpr ⟨(by first | exact Or.inr (by with_reducible assumption) | exact Or.inl (by k_mem)), ?_⟩))))); (case cN => (first | assumption | (refine' cb_drop ?cbN ?cbS; (case cbN => assumption); (case cbS => kcj_all)))))

theorem row101 : True := by
  k_with "call ref" => ((with_reducible show wpAny _ _ (call (Value.ref 866) _) _ _ _); k_dflt (refine' modrm_c ?k1 ?k2 ?k3 (cb_drop ?k4 ?k9) ?k5 ?k7 ?k8 ?h0 ?h1 ?_; (case k1 => k_asm); (case k2 => k_asm); (case k3 => k_asm); (case k4 => k_asm); (case k5 => k_asm); (case k9 => repeat (first | exact subNil | refine subCons (by k_mem) ?_)); (case k7 => (first | exact roomA hd rfl | exact roomB hd rfl | ((try simp only [depth_mark, depth_under_make, depth_under_kw, depth_in1, depth_deeper, depth_caller]); (try dsimp only [ktrTop]); omega))); (case k8 => (first | exact unitA hu rfl | ((try simp only [units_under_make, units_in1, units_deeper, Around.mark_units, units_caller]); (try dsimp only [ktrTop]); omega))); (case h0 => first | assumption | omega); (case h1 => first | assumption | omega); k_whole); intro t9 l9 tb9 c9  h9 tk9 mo09 mo19 F9 E9 N9; (k_dflt (replace N9 := newsApp N9 E9 (by k_asm))); clear E9; (try dsimp only [List.nil_append, List.cons_append, List.append_nil] at N9); (try simp only [List.append_nil] at N9); (try dsimp only); (try k_fold); (try k_sweep); walk_say "CONTRACT modrm_c")
  trivial

structure ImmEnc (k : Str) (zk : Int) : Prop where
  len : k.length ≤ 100
  imm : isImm k = true
  text : PySem.intText? (Txt.slice k (some (Txt.find k "imm" + 3)) none) = some zk
  wd : zk / 8 = 1 ∨ zk / 8 = 2 ∨ zk / 8 = 4 ∨ zk / 8 = 8
set_option maxRecDepth 100000 in
set_option maxHeartbeats 0 in
theorem little_e
  {w : World} {p : Program} {loose : List Str} {mean : ExcName → Option Value} {mg mb : Str → Option Value}
  {dp un : Nat} {gd : Option (List Code)} {cn : Str} {nms : List (Str × NameKind)} {isg isc : Bool} {scm : List (Str × Const)} {a : Addr} {ccd : Value} {cl : List (Str × Addr)} {outer : List Env} {A₀ : Around} {base h₀ : Heap} {L : Addr} {m : Str → Option Value} {s : Shared} {Q E : Value → Shared → Prop}
  {k : Str} {x zk : Int} {t u : Tok} (B : Below A₀ base outer h₀) (F : Fr h₀ L s.heap m) (X : (kk.heap_1 w.params).In h₀) (N : News h₀ L s.heap []) (T : Top p loose mean mg mb h₀)
    (hd : dp + 28 < 1000) (hu : un + 160 < 9900) (hK : ImmEnc k zk)
    (ret : ∀ (t' : Tok)  (h' : Heap) (tk' : Nat), Fr h₀ L h' m → InElt s.heap h' → News h₀ L h' [] → Q (.bytes (octL x (zk / 8).toNat).toArray t') { s with heap := h', toks := tk' }) :
    wpAny (model Challenge.rw_nz0171_01.row.prog w) (ktrTop dp un gd cn ⟨.function, nms, isg, isc, scm⟩ L a ccd cl outer) (call (.ref 122) [.int x t, .int (zk / 8) u]) Q E s := by
  generalize hW : zk / 8 = wd at *
  have hw := hK.wd
  rw [hW] at hw
  rcases hw with rfl | rfl | rfl | rfl
  · exact little1_c B F X N T hd hu ret
  · exact little2_c B F X N T hd hu ret
  · exact little4_c B F X N T hd hu ret
  · exact little8_c B F X N T hd hu ret

theorem row102 : True := by
  k_with "call ref" => ((with_reducible show wpAny _ _ (call (Value.ref 122) _) _ _ _); k_dflt (refine' little_e ?k1 ?k2 ?k3 (cb_drop ?k4 ?k9) ?k5 ?k7 ?k8 ?h0 ?_; (case k1 => k_asm); (case k2 => k_asm); (case k3 => k_asm); (case k4 => k_asm); (case k5 => k_asm); (case k9 => repeat (first | exact subNil | refine subCons (by k_mem) ?_)); (case k7 => (first | exact roomA hd rfl | exact roomB hd rfl | ((try simp only [depth_mark, depth_under_make, depth_under_kw, depth_in1, depth_deeper, depth_caller]); (try dsimp only [ktrTop]); omega))); (case k8 => (first | exact unitA hu rfl | ((try simp only [units_under_make, units_in1, units_deeper, Around.mark_units, units_caller]); (try dsimp only [ktrTop]); omega))); (case h0 => with_reducible assumption); k_whole); intro t9  h9 tk9  F9 E9 N9; (k_dflt (replace N9 := newsApp N9 E9 (by k_asm))); clear E9; (try dsimp only [List.nil_append, List.cons_append, List.append_nil] at N9); (try simp only [List.append_nil] at N9); (try dsimp only); (try k_fold); (try k_sweep); walk_say "CONTRACT little_e")
  trivial
set_option maxRecDepth 100000 in
set_option maxHeartbeats 0 in
theorem kind_width_e
  {w : World} {p : Program} {loose : List Str} {mean : ExcName → Option Value} {mg mb : Str → Option Value}
  {dp un : Nat} {gd : Option (List Code)} {cn : Str} {nms : List (Str × NameKind)} {isg isc : Bool} {scm : List (Str × Const)} {a : Addr} {ccd : Value} {cl : List (Str × Addr)} {outer : List Env} {A₀ : Around} {base h₀ : Heap} {L : Addr} {m : Str → Option Value} {s : Shared} {Q E : Value → Shared → Prop}
  {k : Str} {t : Tok} {z : Int} (B : Below A₀ base outer h₀) (F : Fr h₀ L s.heap m) (X : (kk.heap_1 w.params).In h₀) (N : News h₀ L s.heap []) (T : Top p loose mean mg mb h₀)
    (hd : dp + 24 < 1000) (hu : un + 130 < 9900) (hK : ImmEnc k z)
    (ret : ∀ (t' : Tok)  (h' : Heap) (tk' : Nat), Fr h₀ L h' m → InElt s.heap h' → News h₀ L h' [] → Q (.int (z / 8) t') { s with heap := h', toks := tk' }) :
    wpAny (model Challenge.rw_nz0171_01.row.prog w) (ktrTop dp un gd cn ⟨.function, nms, isg, isc, scm⟩ L a ccd cl outer) (call (.ref 164) [.str k t]) Q E s := by
  exact kind_width_c B F X N T hd hu hK.len hK.imm hK.text ret

theorem row103 : True := by
  k_with "call ref" => ((with_reducible show wpAny _ _ (call (Value.ref 164) _) _ _ _); k_dflt (refine' kind_width_e ?k1 ?k2 ?k3 (cb_drop ?k4 ?k9) ?k5 ?k7 ?k8 ?h0 ?_; (case k1 => k_asm); (case k2 => k_asm); (case k3 => k_asm); (case k4 => k_asm); (case k5 => k_asm); (case k9 => repeat (first | exact subNil | refine subCons (by k_mem) ?_)); (case k7 => (first | exact roomA hd rfl | exact roomB hd rfl | ((try simp only [depth_mark, depth_under_make, depth_under_kw, depth_in1, depth_deeper, depth_caller]); (try dsimp only [ktrTop]); omega))); (case k8 => (first | exact unitA hu rfl | ((try simp only [units_under_make, units_in1, units_deeper, Around.mark_units, units_caller]); (try dsimp only [ktrTop]); omega))); (case h0 => with_reducible assumption); k_whole); intro t9  h9 tk9  F9 E9 N9; (k_dflt (replace N9 := newsApp N9 E9 (by k_asm))); clear E9; (try dsimp only [List.nil_append, List.cons_append, List.append_nil] at N9); (try simp only [List.append_nil] at N9); (try dsimp only); (try k_fold); (try k_sweep); walk_say "CONTRACT kind_width_e")
  trivial
set_option maxRecDepth 100000 in
set_option maxHeartbeats 0 in
theorem operand_hit
  {w : World} {p : Program} {loose : List Str} {mean : ExcName → Option Value} {mg mb : Str → Option Value}
  {dp un : Nat} {gd : Option (List Code)} {cn : Str} {nms : List (Str × NameKind)} {isg isc : Bool} {scm : List (Str × Const)} {a : Addr} {ccd : Value} {cl : List (Str × Addr)} {outer : List Env} {A₀ : Around} {base h₀ : Heap} {L : Addr} {m : Str → Option Value} {s : Shared} {Q E : Value → Shared → Prop}
  {s1 s2 sk : Str} {u1 u2 u3 i1 i2 i3 i4 i5 : Tok} {c : Nat} {sl i id ot o1 o2 : Addr} (B : Below A₀ base outer h₀) (F : Fr h₀ L s.heap m) (X : (kk.heap_1 w.params).In h₀) (N : News h₀ L s.heap [(sl, W.listOf #[.str s1 u1, .str s2 u2] c), (i, instObj 464 id), (id, insD w i1 i2 i3 i4 i5 ot), (ot, tupO [.ref o1, .ref o2])]) (T : Top p loose mean mg mb h₀)
    (hd : dp + 24 < 1000) (hu : un + 130 < 9900) (h1 : (s1 == sk) = true)
    (ret : ∀   (h' : Heap) (tk' : Nat), Fr h₀ L h' m → InElt s.heap h' → News h₀ L h' [] → Q (.ref o1) { s with heap := h', toks := tk' }) :
    wpAny (model Challenge.rw_nz0171_01.row.prog w) (ktrTop dp un gd cn ⟨.function, nms, isg, isc, scm⟩ L a ccd cl outer) (call (.ref 817) [.ref sl, .ref i, .str sk u3]) Q E s := by
  let no0 : Obj := W.listOf #[.str s1 u1, .str s2 u2] c
  let no1 : Obj := instObj 464 id
  let no2 : Obj := insD w i1 i2 i3 i4 i5 ot
  let no3 : Obj := tupO [.ref o1, .ref o2]
  replace N : News h₀ L s.heap [(sl, no0), (i, no1), (id, no2), (ot, no3)] := N
  have h1' : s1 = sk := by simpa using h1
  subst h1'
  w_on; revert X; k_fill; intro X; have cE0 := InElt.start s.heap; k_steps
  all_goals (refine' ret _ _ ?cF ?cE ?cN; (case cF => assumption); (case cE => assumption); (case cN => (first | assumption | (refine' cb_drop ?cbN ?cbS; (case cbN => assumption); (case cbS => kcj_all)))))

theorem row104 : True := by
  k_with "call ref" => ((with_reducible show wpAny _ _ (call (Value.ref 817) _) _ _ _); k_dflt (refine' operand_hit ?k1 ?k2 ?k3 (cb_drop ?k4 ?k9) ?k5 ?k7 ?k8 ?h0 ?_; (case k1 => k_asm); (case k2 => k_asm); (case k3 => k_asm); (case k4 => k_asm); (case k5 => k_asm); (case k9 => repeat (first | exact subNil | refine subCons (by k_mem) ?_)); (case k7 => (first | exact roomA hd rfl | exact roomB hd rfl | ((try simp only [depth_mark, depth_under_make, depth_under_kw, depth_in1, depth_deeper, depth_caller]); (try dsimp only [ktrTop]); omega))); (case k8 => (first | exact unitA hu rfl | ((try simp only [units_under_make, units_in1, units_deeper, Around.mark_units, units_caller]); (try dsimp only [ktrTop]); omega))); (case h0 => first | with_reducible assumption | exact rfl | decide); k_whole); intro   h9 tk9  F9 E9 N9; (k_dflt (replace N9 := newsApp N9 E9 (by k_asm))); clear E9; (try dsimp only [List.nil_append, List.cons_append, List.append_nil] at N9); (try simp only [List.append_nil] at N9); (try dsimp only); (try k_fold); (try k_sweep); walk_say "CONTRACT operand_hit")
  trivial
set_option maxRecDepth 100000 in
set_option maxHeartbeats 0 in
theorem operand_miss
  {w : World} {p : Program} {loose : List Str} {mean : ExcName → Option Value} {mg mb : Str → Option Value}
  {dp un : Nat} {gd : Option (List Code)} {cn : Str} {nms : List (Str × NameKind)} {isg isc : Bool} {scm : List (Str × Const)} {a : Addr} {ccd : Value} {cl : List (Str × Addr)} {outer : List Env} {A₀ : Around} {base h₀ : Heap} {L : Addr} {m : Str → Option Value} {s : Shared} {Q E : Value → Shared → Prop}
  {s1 s2 sk : Str} {u1 u2 u3 i1 i2 i3 i4 i5 : Tok} {c : Nat} {sl i id ot o1 o2 : Addr} (B : Below A₀ base outer h₀) (F : Fr h₀ L s.heap m) (X : (kk.heap_1 w.params).In h₀) (N : News h₀ L s.heap [(sl, W.listOf #[.str s1 u1, .str s2 u2] c), (i, instObj 464 id), (id, insD w i1 i2 i3 i4 i5 ot), (ot, tupO [.ref o1, .ref o2])]) (T : Top p loose mean mg mb h₀)
    (hd : dp + 24 < 1000) (hu : un + 130 < 9900) (h1 : (s1 == sk) = false) (h2 : (s2 == sk) = false)
    (ret : ∀   (h' : Heap) (tk' : Nat), Fr h₀ L h' m → InElt s.heap h' → News h₀ L h' [] → Q (.none) { s with heap := h', toks := tk' }) :
    wpAny (model Challenge.rw_nz0171_01.row.prog w) (ktrTop dp un gd cn ⟨.function, nms, isg, isc, scm⟩ L a ccd cl outer) (call (.ref 817) [.ref sl, .ref i, .str sk u3]) Q E s := by
  let no0 : Obj := W.listOf #[.str s1 u1, .str s2 u2] c
  let no1 : Obj := instObj 464 id
  let no2 : Obj := insD w i1 i2 i3 i4 i5 ot
  let no3 : Obj := tupO [.ref o1, .ref o2]
  replace N : News h₀ L s.heap [(sl, no0), (i, no1), (id, no2), (ot, no3)] := N
  have h1' : s1 ≠ sk := by simpa using h1
  have h2' : s2 ≠ sk := by simpa using h2
  w_on; revert X; k_fill; intro X; have cE0 := InElt.start s.heap; k_steps
  all_goals (refine' ret _ _ ?cF ?cE ?cN; (case cF => assumption); (case cE => assumption); (case cN => (first | assumption | (refine' cb_drop ?cbN ?cbS; (case cbN => assumption); (case cbS => kcj_all)))))

theorem row105 : True := by
  k_with "call ref" => ((with_reducible show wpAny _ _ (call (Value.ref 817) _) _ _ _); k_dflt (refine' operand_miss ?k1 ?k2 ?k3 (cb_drop ?k4 ?k9) ?k5 ?k7 ?k8 ?h0 ?h1 ?_; (case k1 => k_asm); (case k2 => k_asm); (case k3 => k_asm); (case k4 => k_asm); (case k5 => k_asm); (case k9 => repeat (first | exact subNil | refine subCons (by k_mem) ?_)); (case k7 => (first | exact roomA hd rfl | exact roomB hd rfl | ((try simp only [depth_mark, depth_under_make, depth_under_kw, depth_in1, depth_deeper, depth_caller]); (try dsimp only [ktrTop]); omega))); (case k8 => (first | exact unitA hu rfl | ((try simp only [units_under_make, units_in1, units_deeper, Around.mark_units, units_caller]); (try dsimp only [ktrTop]); omega))); (case h0 => first | with_reducible assumption | exact rfl | decide); (case h1 => first | with_reducible assumption | exact rfl | decide); k_whole); intro   h9 tk9  F9 E9 N9; (k_dflt (replace N9 := newsApp N9 E9 (by k_asm))); clear E9; (try dsimp only [List.nil_append, List.cons_append, List.append_nil] at N9); (try simp only [List.append_nil] at N9); (try dsimp only); (try k_fold); (try k_sweep); walk_say "CONTRACT operand_miss")
  trivial

theorem fresh {g H h' : Heap} {L' q e : Addr} {o oe : Obj} {adr : List Addr} {news : List (Addr × Obj)} (G : GSub H g adr) (N : News g L' h' news) (hm : (e, oe) ∈ news) (h : H.get? q = some o) (hn : q ∉ adr) : q ≠ e := fun x => by
  have h1 := (N _ hm).2.2
  rw [← x, G q o h hn] at h1
  cases h1
theorem preB_size (b : Bool) (v : Int) : (preB b v).size ≤ 2 := by
  unfold preB; by_cases h : v = -1 <;> cases b <;> simp [h]
theorem octs_len : ∀ (n : Nat) (x : Int), (octs x n).length = n
  | 0, _ => rfl
  | n + 1, x => by show (octs (x / 256) n).length + 1 = n + 1; rw [octs_len n]
theorem octL_size (x : Int) (n : Nat) : (octL x n).toArray.size = n := by
  unfold octL; rw [List.size_toArray, List.length_map, octs_len]
theorem sz1 {b : Bool} {v x : Int} : (preB b v).size + (octL x 1).toArray.size ≤ 16777216 := by
  have := preB_size b v; rw [octL_size]; omega
theorem sz0 {b : Bool} {v x : Int} : (preB b v ++ (octL x 1).toArray).size ≤ 1099511627776 := by
  have := preB_size b v; rw [Array.size_append, octL_size]; omega
theorem sz2 {b : Bool} {v x : Int} {c : UInt8} : (preB b v ++ (octL x 1).toArray).size + (#[c] : Array UInt8).size ≤ 16777216 := by
  have := preB_size b v; rw [Array.size_append, octL_size]; show _ + 1 ≤ _; omega
theorem wd8 {k : Str} {zk : Int} (h : ImmEnc k zk) : (zk / 8).toNat ≤ 8 := by have := h.wd; omega
theorem sz3 {b : Bool} {v x y zk : Int} {k : Str} (h : ImmEnc k zk) : (preB b v ++ (octL x 1).toArray).size + (octL y (zk / 8).toNat).toArray.size ≤ 16777216 := by
  have := preB_size b v; have := wd8 h; rw [Array.size_append, octL_size, octL_size]; omega
theorem sz4 {b : Bool} {v x y zk : Int} {c : UInt8} {k : Str} (h : ImmEnc k zk) : (preB b v ++ (octL x 1).toArray ++ #[c]).size + (octL y (zk / 8).toNat).toArray.size ≤ 16777216 := by
  have := preB_size b v; have := wd8 h; rw [Array.size_append, Array.size_append, octL_size, octL_size]; show _ + 1 + _ ≤ _; omega
theorem d16t {z : Int} (h : z = 16) : true = decide (z = 16) := (decide_eq_true h).symm
theorem d16f {z : Int} (h : ¬ z = 16) : ((0 : Int) == 102) = decide (z = 16) := (decide_eq_false h).symm
theorem row106 : True := by
  k_with "call builtin:len" => (k_here; (with_reducible show wpAny _ _ (call (Value.builtin _) [Value.bytes _ _]) _ _ _); k_dflt (refine len_bytes sz0 ?_))
  trivial
theorem row107 : True := by
  k_with "subscriptTail Name Name ref int" => (guard_hyp scEnc : True; k_here; (with_reducible show wpAny _ _ (subscriptTail _ _ (Value.ref _) (Value.int _ _)) _ _ _); k_dflt (refine' item_litK (vs := [_, _]) ?k1 ?k2 ?k3 ?k4 ?_ ?k6; (case k1 => exact News.isList (by k_asm) (by k_mem)); (case k2 => decide); (case k3 => decide); (case k4 => rfl); (case k6 => with_unfolding_all rfl); k_whole))
  trivial
theorem row108 : True := by
  k_with "subscriptTail Attribute Name ref int" => (guard_hyp scEnc : True; k_here; (with_reducible show wpAny _ _ (subscriptTail _ _ (Value.ref _) (Value.int _ _)) _ _ _); k_dflt (refine' item_tupleT ?t ?a ?b ?c ?d ?_; (case t => exact News.isTup (by k_asm) (by k_mem)); (case a => decide); (case b => decide); (case c => rfl); (case d => rfl); k_whole))
  trivial
theorem row109 : True := by
  k_with "binaryOp Add bytes bytes" => (guard_hyp scEnc : True; k_here; (with_reducible show wpAny _ _ (binaryOp Operator.Add (Value.bytes _ _) (Value.bytes _ _)) _ _ _); k_dflt (refine KBy.add_bytes (by first | with_reducible exact sz1 | with_reducible exact sz2 | with_reducible exact sz3 (by with_reducible assumption) | with_reducible exact sz4 (by with_reducible assumption)) ?_); intro _ _)
  trivial
theorem row110 : True := by
  k_with "eval BoolOp" => (guard_hyp scEnc : True; (with_reducible show wpAny _ _ (eval (Expr.BoolOp _ (Expr.Compare _ _ _ _ :: Expr.Compare _ _ _ _ :: []) _) _) _ _ _); k_here; k_dflt (refine' meet (mk := fun _ => Value.bool (decide (sz = 16))) ?mF ?mN ?mC ?_; (case mF => k_asm); (case mN => k_asm)); (case mC => clear scEnc; k_dflt ((try k_fold); k_steps; all_goals (refine' met2 (t := 0) ?me rfl (by assumption) ?mS; (case mS => (first | assumption | (refine' cb_drop ?cbN ?cbS; (case cbN => assumption); (case cbS => kcj_all)))); (case me => (refine vB ?_; law_clear; first | rfl | exact d16t (by assumption) | exact d16f (by assumption) | fail "meet data"))))); intro t9 h9 tk9 F9 N9; (try dsimp only); (try k_fold); (try k_sweep); walk_say "MET")
  trivial
section
local macro_rules | `(tactic| k_in) => `(tactic| k_extra "Mine k_in")
theorem row111 : True := by
  k_with "Mine k_in" => (first | with_reducible assumption | exact Frag.In.keeps (by with_reducible assumption) (Fr.keep (by with_reducible assumption)))
  trivial
local macro_rules | `(tactic| k_sub) => `(tactic| k_extra "Mine k_sub")
theorem row112 : True := by
  k_with "Mine k_sub" => (((repeat' (first | exact List.forall_mem_nil _ | refine List.forall_mem_cons.mpr ⟨by k_mem, ?_⟩)); done))
  trivial
set_option maxRecDepth 100000 in
set_option maxHeartbeats 0 in
theorem encode_plus
  {w : World} {p : Program} {loose : List Str} {mean : ExcName → Option Value} {mg mb : Str → Option Value}
  {dp un : Nat} {gd : Option (List Code)} {cn : Str} {nms : List (Str × NameKind)} {isg isc : Bool} {scm : List (Str × Const)} {a : Addr} {ccd : Value} {cl : List (Str × Addr)} {outer : List Env} {A₀ : Around} {base h₀ : Heap} {L : Addr} {m : Str → Option Value} {s : Shared} {Q E : Value → Shared → Prop}
  {k1 k2 : Str} {op sz zk : Int} {f fd pt kt : Addr} {a1 a2 a3 a4 a5 a6 a7 a8 a9 a0 tn to te td ts tm tx t1 t2 u1 u2 : Tok} {i id ot o1 d1 o2 d2 r rd : Addr} {i1 i2 i3 i4 i5 p1 p2 p3 q1 q2 q3 q4 q5 q6 r1 r2 r3 r4 rk1 rn1 rz1 : Tok} {nm : Value} {rk : Str} {x n : Int} (B : Below A₀ base outer h₀) (F : Fr h₀ L s.heap m) (X : (kk.heap_1 w.params).In h₀) (N : News h₀ L s.heap [(f, instObj 257 fd), (fd, formD w a1 a2 a3 a4 a5 a6 a7 a8 a9 a0 "mov" tn kt op to 0 te (-1) td sz ts tm tx pt), (pt, tupO [.str ("plus") u1, .str ("imm") u2]), (kt, tupO [.str k1 t1, .str k2 t2]), (i, instObj 464 id), (id, insD w i1 i2 i3 i4 i5 ot), (ot, tupO [.ref o1, .ref o2]), (o1, instObj 377 d1), (d1, regO w p1 p2 p3 r), (o2, instObj 411 d2), (d2, immO w q1 q2 q3 q4 q5 q6 x), (r, instObj 938 rd), (rd, regD w r1 r2 r3 r4 nm rk rk1 n rn1 sz rz1)]) (T : Top p loose mean mg mb h₀)
    (hd : dp + 52 < 1000) (hu : un + 340 < 9900) (hR : RegOk rk n sz) (hK : ImmEnc k2 zk)
    (ret : ∀ (s1 s2 s3 s4 to : Tok) (c : Nat) (e ed fx : Addr) (fr : ∀ q o, s.heap.get? q = some o → q ∉ [f, fd, pt, kt, i, id, ot, o1, d1, o2, d2, r, rd] → q ≠ e ∧ q ≠ ed ∧ q ≠ fx) (h' : Heap) (tk' : Nat), let mo0 : Obj := instObj 806 ed; let mo1 : Obj := encD w s1 s2 s3 s4 (preB (decide (sz = 16)) (rexV rk n sz) ++ (octL (op + n % 8) 1).toArray ++ (octL x (zk / 8).toNat).toArray) to fx f .none; let mo2 : Obj := W.listOf #[] c; Fr h₀ L h' m → InElt s.heap h' → News h₀ L h' [(e, mo0), (ed, mo1), (fx, mo2)] → Q (.ref e) { s with heap := h', toks := tk' }) :
    wpAny (model Challenge.rw_nz0171_01.row.prog w) (ktrTop dp un gd cn ⟨.function, nms, isg, isc, scm⟩ L a ccd cl outer) (call (.ref 886) [.ref f, .ref i]) Q E s := by
  let no0 : Obj := instObj 257 fd
  let no1 : Obj := formD w a1 a2 a3 a4 a5 a6 a7 a8 a9 a0 "mov" tn kt op to 0 te (-1) td sz ts tm tx pt
  let no2 : Obj := tupO [.str ("plus") u1, .str ("imm") u2]
  let no3 : Obj := tupO [.str k1 t1, .str k2 t2]
  let no4 : Obj := instObj 464 id
  let no5 : Obj := insD w i1 i2 i3 i4 i5 ot
  let no6 : Obj := tupO [.ref o1, .ref o2]
  let no7 : Obj := instObj 377 d1
  let no8 : Obj := regO w p1 p2 p3 r
  let no9 : Obj := instObj 411 d2
  let no10 : Obj := immO w q1 q2 q3 q4 q5 q6 x
  let no11 : Obj := instObj 938 rd
  let no12 : Obj := regD w r1 r2 r3 r4 nm rk rk1 n rn1 sz rz1
  replace N : News h₀ L s.heap [(f, no0), (fd, no1), (pt, no2), (kt, no3), (i, no4), (id, no5), (ot, no6), (o1, no7), (d1, no8), (o2, no9), (d2, no10), (r, no11), (rd, no12)] := N
  have scEnc : True := trivial
  w_on; revert X; k_fill; intro X; have cE0 := InElt.start s.heap; k_steps
  all_goals (refine' ret _ _ _ _ _ _ _ _ _ ?f1 _ _ ?cF ?cE ?cN; (case cF => assumption); (case cE => assumption); (case cN => (first | assumption | (refine' cb_drop ?cbN ?cbS; (case cbN => assumption); (case cbS => kcj_all)))); (case f1 => exact fun q o h hn => ⟨fresh (by assumption) (by assumption) (by k_mem) h hn, fresh (by assumption) (by assumption) (by k_mem) h hn, fresh (by assumption) (by assumption) (by k_mem) h hn⟩))

theorem row113 : True := by
  k_with "call ref" => ((with_reducible show wpAny _ _ (call (Value.ref 886) _) _ _ _); k_dflt (refine' encode_plus ?k1 ?k2 ?k3 (cb_drop ?k4 ?k9) ?k5 ?k7 ?k8 ?h0 ?h1 ?_; (case k1 => k_asm); (case k2 => k_asm); (case k3 => k_asm); (case k4 => k_asm); (case k5 => k_asm); (case k9 => repeat (first | exact subNil | refine subCons (by k_mem) ?_)); (case k7 => (first | exact roomA hd rfl | exact roomB hd rfl | ((try simp only [depth_mark, depth_under_make, depth_under_kw, depth_in1, depth_deeper, depth_caller]); (try dsimp only [ktrTop]); omega))); (case k8 => (first | exact unitA hu rfl | ((try simp only [units_under_make, units_in1, units_deeper, Around.mark_units, units_caller]); (try dsimp only [ktrTop]); omega))); (case h0 => first | assumption | omega | decide); (case h1 => first | assumption | omega | decide); k_whole); intro s19 s29 s39 s49 to9 c9 e9 ed9 fx9 fr9 h9 tk9 mo09 mo19 mo29 F9 E9 N9; (try k_lt2 fr9); (k_dflt (replace N9 := newsApp N9 E9 (by k_asm))); clear E9; (try dsimp only [List.nil_append, List.cons_append, List.append_nil] at N9); (try simp only [List.append_nil] at N9); (try dsimp only); (try k_fold); (try k_sweep); walk_say "CONTRACT encode_plus")
  trivial
end
section
local macro_rules | `(tactic| k_in) => `(tactic| k_extra "Mine k_in")
theorem row114 : True := by
  k_with "Mine k_in" => (first | with_reducible assumption | exact Frag.In.keeps (by with_reducible assumption) (Fr.keep (by with_reducible assumption)))
  trivial
local macro_rules | `(tactic| k_sub) => `(tactic| k_extra "Mine k_sub")
theorem row115 : True := by
  k_with "Mine k_sub" => (((repeat' (first | exact List.forall_mem_nil _ | refine List.forall_mem_cons.mpr ⟨by k_mem, ?_⟩)); done))
  trivial
set_option maxRecDepth 100000 in
set_option maxHeartbeats 0 in
theorem encode_rm
  {w : World} {p : Program} {loose : List Str} {mean : ExcName → Option Value} {mg mb : Str → Option Value}
  {dp un : Nat} {gd : Option (List Code)} {cn : Str} {nms : List (Str × NameKind)} {isg isc : Bool} {scm : List (Str × Const)} {a : Addr} {ccd : Value} {cl : List (Str × Addr)} {outer : List Env} {A₀ : Around} {base h₀ : Heap} {L : Addr} {m : Str → Option Value} {s : Shared} {Q E : Value → Shared → Prop}
  {k1 k2 : Str} {op sz zk : Int} {f fd pt kt : Addr} {a1 a2 a3 a4 a5 a6 a7 a8 a9 a0 tn to te td ts tm tx t1 t2 u1 u2 : Tok} {i id ot o1 d1 o2 d2 r rd : Addr} {i1 i2 i3 i4 i5 p1 p2 p3 q1 q2 q3 q4 q5 q6 r1 r2 r3 r4 rk1 rn1 rz1 : Tok} {nm : Value} {rk : Str} {x n : Int} (B : Below A₀ base outer h₀) (F : Fr h₀ L s.heap m) (X : (kk.heap_1 w.params).In h₀) (N : News h₀ L s.heap [(f, instObj 257 fd), (fd, formD w a1 a2 a3 a4 a5 a6 a7 a8 a9 a0 "mov" tn kt op to 0 te 0 td sz ts tm tx pt), (pt, tupO [.str ("rm") u1, .str ("imm") u2]), (kt, tupO [.str k1 t1, .str k2 t2]), (i, instObj 464 id), (id, insD w i1 i2 i3 i4 i5 ot), (ot, tupO [.ref o1, .ref o2]), (o1, instObj 377 d1), (d1, regO w p1 p2 p3 r), (o2, instObj 411 d2), (d2, immO w q1 q2 q3 q4 q5 q6 x), (r, instObj 938 rd), (rd, regD w r1 r2 r3 r4 nm rk rk1 n rn1 sz rz1)]) (T : Top p loose mean mg mb h₀)
    (hd : dp + 52 < 1000) (hu : un + 340 < 9900) (hR : RegOk rk n sz) (hK : ImmEnc k2 zk)
    (ret : ∀ (s1 s2 s3 s4 to : Tok) (c : Nat) (e ed fx : Addr) (sh : Addr) (fr : ∀ q o, s.heap.get? q = some o → q ∉ [f, fd, pt, kt, i, id, ot, o1, d1, o2, d2, r, rd] → q ≠ e ∧ q ≠ ed ∧ q ≠ fx) (h' : Heap) (tk' : Nat), let mo0 : Obj := instObj 806 ed; let mo1 : Obj := encD w s1 s2 s3 s4 (preB (decide (sz = 16)) (rexV rk n sz) ++ (octL (op + 0) 1).toArray ++ #[(192 + n % 8).toNat.toUInt8] ++ (octL x (zk / 8).toNat).toArray) to fx f (.ref sh); let mo2 : Obj := W.listOf #[] c; Fr h₀ L h' m → InElt s.heap h' → News h₀ L h' [(e, mo0), (ed, mo1), (fx, mo2)] → Q (.ref e) { s with heap := h', toks := tk' }) :
    wpAny (model Challenge.rw_nz0171_01.row.prog w) (ktrTop dp un gd cn ⟨.function, nms, isg, isc, scm⟩ L a ccd cl outer) (call (.ref 886) [.ref f, .ref i]) Q E s := by
  let no0 : Obj := instObj 257 fd
  let no1 : Obj := formD w a1 a2 a3 a4 a5 a6 a7 a8 a9 a0 "mov" tn kt op to 0 te 0 td sz ts tm tx pt
  let no2 : Obj := tupO [.str ("rm") u1, .str ("imm") u2]
  let no3 : Obj := tupO [.str k1 t1, .str k2 t2]
  let no4 : Obj := instObj 464 id
  let no5 : Obj := insD w i1 i2 i3 i4 i5 ot
  let no6 : Obj := tupO [.ref o1, .ref o2]
  let no7 : Obj := instObj 377 d1
  let no8 : Obj := regO w p1 p2 p3 r
  let no9 : Obj := instObj 411 d2
  let no10 : Obj := immO w q1 q2 q3 q4 q5 q6 x
  let no11 : Obj := instObj 938 rd
  let no12 : Obj := regD w r1 r2 r3 r4 nm rk rk1 n rn1 sz rz1
  replace N : News h₀ L s.heap [(f, no0), (fd, no1), (pt, no2), (kt, no3), (i, no4), (id, no5), (ot, no6), (o1, no7), (d1, no8), (o2, no9), (d2, no10), (r, no11), (rd, no12)] := N
  have scEnc : True := trivial
  w_on; revert X; k_fill; intro X; have cE0 := InElt.start s.heap; k_steps
  all_goals (refine' ret _ _ _ _ _ _ _ _ _ _ ?f1 _ _ ?cF ?cE ?cN; (case cF => assumption); (case cE => assumption); (case cN => (first | assumption | (refine' cb_drop ?cbN ?cbS; (case cbN => assumption); (case cbS => kcj_all)))); (case f1 => exact fun q o h hn => ⟨fresh (by assumption) (by assumption) (by k_mem) h hn, fresh (by assumption) (by assumption) (by k_mem) h hn, fresh (by assumption) (by assumption) (by k_mem) h hn⟩))

theorem row116 : True := by
  k_with "call ref" => ((with_reducible show wpAny _ _ (call (Value.ref 886) _) _ _ _); k_dflt (refine' encode_rm ?k1 ?k2 ?k3 (cb_drop ?k4 ?k9) ?k5 ?k7 ?k8 ?h0 ?h1 ?_; (case k1 => k_asm); (case k2 => k_asm); (case k3 => k_asm); (case k4 => k_asm); (case k5 => k_asm); (case k9 => repeat (first | exact subNil | refine subCons (by k_mem) ?_)); (case k7 => (first | exact roomA hd rfl | exact roomB hd rfl | ((try simp only [depth_mark, depth_under_make, depth_under_kw, depth_in1, depth_deeper, depth_caller]); (try dsimp only [ktrTop]); omega))); (case k8 => (first | exact unitA hu rfl | ((try simp only [units_under_make, units_in1, units_deeper, Around.mark_units, units_caller]); (try dsimp only [ktrTop]); omega))); (case h0 => first | assumption | omega | decide); (case h1 => first | assumption | omega | decide); k_whole); intro s19 s29 s39 s49 to9 c9 e9 ed9 fx9 sh9 fr9 h9 tk9 mo09 mo19 mo29 F9 E9 N9; (try k_lt2 fr9); (k_dflt (replace N9 := newsApp N9 E9 (by k_asm))); clear E9; (try dsimp only [List.nil_append, List.cons_append, List.append_nil] at N9); (try simp only [List.append_nil] at N9); (try dsimp only); (try k_fold); (try k_sweep); walk_say "CONTRACT encode_rm")
  trivial
end

theorem item8 {prog : Program} {w : World} {A : Around} {E : Value → Shared → Prop} {s : Shared} {value slice : Expr} {l : Addr} {n0 n1 n2 n3 n4 n5 n6 n7 : Str} {t0 t1 t2 t3 t4 t5 t6 t7 : Tok} {k : Int} {u : Tok} {Q : Value → Shared → Prop}
    (hl : s.heap.IsList l ([.str n0 t0, .str n1 t1, .str n2 t2, .str n3 t3, .str n4 t4, .str n5 t5, .str n6 t6, .str n7 t7] : List Value).toArray) (h0 : 0 ≤ k) (h1 : k < 8) (h : ∀ nm t, Q (.str nm t) s)
    (hs : subscripted slice false (.ref l) (.int k u) = operate [.ref l, .int k u] (getItem (.ref l) (.int k u)) := by with_unfolding_all rfl) : wpAny (model prog w) A (subscriptTail value slice (.ref l) (.int k u)) Q E s := by
  have hk : k.toNat < 8 := by omega
  have hx : ∃ nm t, ([.str n0 t0, .str n1 t1, .str n2 t2, .str n3 t3, .str n4 t4, .str n5 t5, .str n6 t6, .str n7 t7] : List Value)[k.toNat]? = some (.str nm t) := by
    generalize k.toNat = j at hk
    match j, hk with
    | 0, _ | 1, _ | 2, _ | 3, _ | 4, _ | 5, _ | 6, _ | 7, _ => exact ⟨_, _, rfl⟩
    | j + 8, hk => omega
  obtain ⟨nm, t, hx⟩ := hx
  exact item_litK hl h0 (by omega) hx (h nm t) hs
theorem row117 : True := by
  k_with "subscriptTail Name Name ref int" => (guard_hyp scGpr : True; k_here; (with_reducible show wpAny _ _ (subscriptTail _ _ (Value.ref _) (Value.int _ _)) _ _ _); k_dflt (refine' item8 ?k1 ?k2 ?k3 ?_ ?k6; (case k1 => exact News.isList (by k_asm) (by k_mem)); (case k2 => assumption); (case k3 => first | assumption | omega); (case k6 => with_unfolding_all rfl); k_whole); intro nm9 tn9)
  trivial

theorem shp8 {n0 n1 n2 n3 n4 n5 n6 n7 : Str} (h : PySem.PyData.strOk n0 = true ∧ PySem.PyData.strOk n1 = true ∧ PySem.PyData.strOk n2 = true ∧ PySem.PyData.strOk n3 = true ∧ PySem.PyData.strOk n4 = true ∧ PySem.PyData.strOk n5 = true ∧ PySem.PyData.strOk n6 = true ∧ PySem.PyData.strOk n7 = true) :
    PySem.SeqAt.shaped (.list [.str n0, .str n1, .str n2, .str n3, .str n4, .str n5, .str n6, .str n7]) = true := by
  obtain ⟨a, b, c, d, e, f, g, k⟩ := h
  simp [PySem.SeqAt.shaped, PyData.canLay0, PyData.canLayAll0, PyData.depth, PyData.depthAll, a, b, c, d, e, f, g, k]
theorem row118 : True := by
  k_with "compareOp Eq ref ref" => (guard_hyp scGpr : True; k_here; (with_reducible show wpAny _ _ (compareOp CmpOp.Eq (Value.ref _) (Value.ref _)) _ _ _); k_dflt (refine eq_dataH (by ke_read) (by ke_read) (shp8 (by assumption)) (by rfl) (by (unfold PySem.cLine; (first | exact unitA hu rfl | ((try simp only [units_under_make, units_in1, units_deeper, Around.mark_units, units_caller]); (try dsimp only [ktrTop]); omega)))) ?_); (try simp only [PyData.eqv, PyData.eqvAll]))
  trivial
set_option maxRecDepth 100000 in
set_option maxHeartbeats 0 in
theorem early_names_c
  {w : World} {p : Program} {loose : List Str} {mean : ExcName → Option Value} {mg mb : Str → Option Value}
  {dp un : Nat} {gd : Option (List Code)} {cn : Str} {nms : List (Str × NameKind)} {isg isc : Bool} {scm : List (Str × Const)} {a : Addr} {ccd : Value} {cl : List (Str × Addr)} {outer : List Env} {A₀ : Around} {base h₀ : Heap} {L : Addr} {m : Str → Option Value} {s : Shared} {Q E : Value → Shared → Prop}
  {z : Int} {u : Tok} (B : Below A₀ base outer h₀) (F : Fr h₀ L s.heap m) (X : (kk.heap_1 w.params).In h₀) (N : News h₀ L s.heap []) (T : Top p loose mean mg mb h₀)
    (hd : dp + 20 < 1000) (hu : un + 100 < 9900) (hz : z = 8 ∨ z = 16 ∨ z = 32 ∨ z = 64)
    (ret : ∀ (l : Addr) (n0 n1 n2 n3 n4 n5 n6 n7 : Str) (t0 t1 t2 t3 t4 t5 t6 t7 : Tok) (c : Nat) (hk : PySem.PyData.strOk n0 = true ∧ PySem.PyData.strOk n1 = true ∧ PySem.PyData.strOk n2 = true ∧ PySem.PyData.strOk n3 = true ∧ PySem.PyData.strOk n4 = true ∧ PySem.PyData.strOk n5 = true ∧ PySem.PyData.strOk n6 = true ∧ PySem.PyData.strOk n7 = true)  (h' : Heap) (tk' : Nat), Fr h₀ L h' m → InElt s.heap h' → News h₀ L h' [(l, W.listOf #[.str n0 t0, .str n1 t1, .str n2 t2, .str n3 t3, .str n4 t4, .str n5 t5, .str n6 t6, .str n7 t7] c)] → Q (.ref l) { s with heap := h', toks := tk' }) :
    wpAny (model Challenge.rw_nz0171_01.row.prog w) (ktrTop dp un gd cn ⟨.function, nms, isg, isc, scm⟩ L a ccd cl outer) (call (.ref 949) [.int z u]) Q E s := by
  w_on; revert X; k_fill; intro X; have cE0 := InElt.start s.heap; refine wpAny_call ?_; k_dflt k_enter; k_steps
  all_goals first | (exfalso; law_clear; omega) | (refine' ret _ _ _ _ _ _ _ _ _ _ _ _ _ _ _ _ _ _ ?ck _ _ ?cF ?cE ?cN; (case cF => assumption); (case cE => assumption); (case cN => (first | assumption | (refine' cb_drop ?cbN ?cbS; (case cbN => assumption); (case cbS => kcj_all)))); (case ck => decide +kernel))

theorem row119 : True := by
  k_with "call ref" => ((with_reducible show wpAny _ _ (call (Value.ref 949) _) _ _ _); k_dflt (refine' early_names_c ?k1 ?k2 ?k3 (cb_drop ?k4 ?k9) ?k5 ?k7 ?k8 ?h0 ?_; (case k1 => k_asm); (case k2 => k_asm); (case k3 => k_asm); (case k4 => k_asm); (case k5 => k_asm); (case k9 => repeat (first | exact subNil | refine subCons (by k_mem) ?_)); (case k7 => (first | exact roomA hd rfl | exact roomB hd rfl | ((try simp only [depth_mark, depth_under_make, depth_under_kw, depth_in1, depth_deeper, depth_caller]); (try dsimp only [ktrTop]); omega))); (case k8 => (first | exact unitA hu rfl | ((try simp only [units_under_make, units_in1, units_deeper, Around.mark_units, units_caller]); (try dsimp only [ktrTop]); omega))); (case h0 => first | assumption | omega | decide); k_whole); intro l9 n09 n19 n29 n39 n49 n59 n69 n79 t09 t19 t29 t39 t49 t59 t69 t79 c9 hk9  h9 tk9  F9 E9 N9; (k_dflt (replace N9 := newsApp N9 E9 (by k_asm))); clear E9; (try dsimp only [List.nil_append, List.cons_append, List.append_nil] at N9); (try simp only [List.append_nil] at N9); (try dsimp only); (try k_fold); (try k_sweep); walk_say "CONTRACT early_names_c")
  trivial
set_option maxRecDepth 100000 in
set_option maxHeartbeats 0 in
theorem late_ending_c
  {w : World} {p : Program} {loose : List Str} {mean : ExcName → Option Value} {mg mb : Str → Option Value}
  {dp un : Nat} {gd : Option (List Code)} {cn : Str} {nms : List (Str × NameKind)} {isg isc : Bool} {scm : List (Str × Const)} {a : Addr} {ccd : Value} {cl : List (Str × Addr)} {outer : List Env} {A₀ : Around} {base h₀ : Heap} {L : Addr} {m : Str → Option Value} {s : Shared} {Q E : Value → Shared → Prop}
  {z : Int} {u : Tok} (B : Below A₀ base outer h₀) (F : Fr h₀ L s.heap m) (X : (kk.heap_1 w.params).In h₀) (N : News h₀ L s.heap []) (T : Top p loose mean mg mb h₀)
    (hd : dp + 20 < 1000) (hu : un + 100 < 9900) (hz : z = 8 ∨ z = 16 ∨ z = 32 ∨ z = 64)
    (ret : ∀ (e : Str) (t' : Tok) (hl : e.length ≤ 1)  (h' : Heap) (tk' : Nat), Fr h₀ L h' m → InElt s.heap h' → News h₀ L h' [] → Q (.str e t') { s with heap := h', toks := tk' }) :
    wpAny (model Challenge.rw_nz0171_01.row.prog w) (ktrTop dp un gd cn ⟨.function, nms, isg, isc, scm⟩ L a ccd cl outer) (call (.ref 956) [.int z u]) Q E s := by
  w_on; revert X; k_fill; intro X; have cE0 := InElt.start s.heap; refine wpAny_call ?_; k_dflt k_enter; k_steps
  all_goals first | (exfalso; law_clear; omega) | (refine' ret _ _ ?hl _ _ ?cF ?cE ?cN; (case hl => decide); (case cF => assumption); (case cE => assumption); (case cN => (first | assumption | (refine' cb_drop ?cbN ?cbS; (case cbN => assumption); (case cbS => kcj_all)))))

theorem row120 : True := by
  k_with "call ref" => ((with_reducible show wpAny _ _ (call (Value.ref 956) _) _ _ _); k_dflt (refine' late_ending_c ?k1 ?k2 ?k3 (cb_drop ?k4 ?k9) ?k5 ?k7 ?k8 ?h0 ?_; (case k1 => k_asm); (case k2 => k_asm); (case k3 => k_asm); (case k4 => k_asm); (case k5 => k_asm); (case k9 => repeat (first | exact subNil | refine subCons (by k_mem) ?_)); (case k7 => (first | exact roomA hd rfl | exact roomB hd rfl | ((try simp only [depth_mark, depth_under_make, depth_under_kw, depth_in1, depth_deeper, depth_caller]); (try dsimp only [ktrTop]); omega))); (case k8 => (first | exact unitA hu rfl | ((try simp only [units_under_make, units_in1, units_deeper, Around.mark_units, units_caller]); (try dsimp only [ktrTop]); omega))); (case h0 => first | assumption | omega | decide); k_whole); intro e9 t9 hl9  h9 tk9  F9 E9 N9; (k_dflt (replace N9 := newsApp N9 E9 (by k_asm))); clear E9; (try dsimp only [List.nil_append, List.cons_append, List.append_nil] at N9); (try simp only [List.append_nil] at N9); (try dsimp only); (try k_fold); (try k_sweep); walk_say "CONTRACT late_ending_c")
  trivial
theorem row121 : True := by
  k_with "call ref" => (k_here; k_inElt; (with_reducible show wpAny _ _ (call (Value.ref 938) _) _ _ _); k_dflt (refine' call_clsE ?k1 ?k2 ?k3 ?k4 ?k5 ?k6 ?_; (case k1 => k_asm); (case k2 => k_asm); (case k3 => k_asm); (case k4 => k_is); (case k5 => k_is); (case k6 => k_is); k_whole; intro x' d' h' F' N' l1 l2 cE1 cX1 cX2; (try k_lt l1); (try k_lt2 l2); k_enter))
  trivial
set_option maxRecDepth 100000 in
set_option maxHeartbeats 0 in
theorem register_c
  {w : World} {p : Program} {loose : List Str} {mean : ExcName → Option Value} {mg mb : Str → Option Value}
  {dp un : Nat} {gd : Option (List Code)} {cn : Str} {nms : List (Str × NameKind)} {isg isc : Bool} {scm : List (Str × Const)} {a : Addr} {ccd : Value} {cl : List (Str × Addr)} {outer : List Env} {A₀ : Around} {base h₀ : Heap} {L : Addr} {m : Str → Option Value} {s : Shared} {Q E : Value → Shared → Prop}
  {nm rk : Str} {n z : Int} {tn tk rn1 rz1 : Tok} (B : Below A₀ base outer h₀) (F : Fr h₀ L s.heap m) (X : (kk.heap_1 w.params).In h₀) (N : News h₀ L s.heap []) (T : Top p loose mean mg mb h₀)
    (hd : dp + 24 < 1000) (hu : un + 130 < 9900) 
    (ret : ∀ (r rd : Addr) (r1 r2 r3 r4 : Tok)  (h' : Heap) (tk' : Nat), let mo0 : Obj := instObj 938 rd; let mo1 : Obj := regD w r1 r2 r3 r4 (.str nm tn) rk tk n rn1 z rz1; Fr h₀ L h' m → InElt s.heap h' → News h₀ L h' [(r, mo0), (rd, mo1)] → Q (.ref r) { s with heap := h', toks := tk' }) :
    wpAny (model Challenge.rw_nz0171_01.row.prog w) (ktrTop dp un gd cn ⟨.function, nms, isg, isc, scm⟩ L a ccd cl outer) (call (.ref 938) [.str nm tn, .str rk tk, .int n rn1, .int z rz1]) Q E s := by
  w_on; revert X; k_fill; intro X; have cE0 := InElt.start s.heap; k_steps
  all_goals (refine' ret _ _ _ _ _ _ _ _ ?cF ?cE ?cN; (case cF => assumption); (case cE => (refine' elt_afterC ?e1 ?e2 ?e3 ?e4 ?e5 ?e6; (case e2 => assumption); (case e1 => assumption); (case e3 => assumption); (case e4 => assumption); (case e5 => assumption); (case e6 => repeat (first | exact List.forall_mem_nil _ | refine List.forall_mem_cons.mpr ⟨(by first | exact Or.inr (by with_reducible assumption) | exact Or.inl (by k_mem)), ?_⟩)))); (case cN => (first | assumption | (refine' cb_drop ?cbN ?cbS; (case cbN => assumption); (case cbS => kcj_all)))))

theorem row122 : True := by
  k_with "call ref" => ((with_reducible show wpAny _ _ (call (Value.ref 938) _) _ _ _); k_dflt (refine' register_c ?k1 ?k2 ?k3 (cb_drop ?k4 ?k9) ?k5 ?k7 ?k8  ?_; (case k1 => k_asm); (case k2 => k_asm); (case k3 => k_asm); (case k4 => k_asm); (case k5 => k_asm); (case k9 => repeat (first | exact subNil | refine subCons (by k_mem) ?_)); (case k7 => (first | exact roomA hd rfl | exact roomB hd rfl | ((try simp only [depth_mark, depth_under_make, depth_under_kw, depth_in1, depth_deeper, depth_caller]); (try dsimp only [ktrTop]); omega))); (case k8 => (first | exact unitA hu rfl | ((try simp only [units_under_make, units_in1, units_deeper, Around.mark_units, units_caller]); (try dsimp only [ktrTop]); omega))); k_whole); intro r9 rd9 r19 r29 r39 r49  h9 tk9 mo09 mo19 F9 E9 N9; (k_dflt (replace N9 := newsApp N9 E9 (by k_asm))); clear E9; (try dsimp only [List.nil_append, List.cons_append, List.append_nil] at N9); (try simp only [List.append_nil] at N9); (try dsimp only); (try k_fold); (try k_sweep); walk_say "CONTRACT register_c")
  trivial
set_option maxRecDepth 100000 in
set_option maxHeartbeats 0 in
theorem gpr_c
  {w : World} {p : Program} {loose : List Str} {mean : ExcName → Option Value} {mg mb : Str → Option Value}
  {dp un : Nat} {gd : Option (List Code)} {cn : Str} {nms : List (Str × NameKind)} {isg isc : Bool} {scm : List (Str × Const)} {a : Addr} {ccd : Value} {cl : List (Str × Addr)} {outer : List Env} {A₀ : Around} {base h₀ : Heap} {L : Addr} {m : Str → Option Value} {s : Shared} {Q E : Value → Shared → Prop}
  {n z : Int} {t u : Tok} (B : Below A₀ base outer h₀) (F : Fr h₀ L s.heap m) (X : (kk.heap_1 w.params).In h₀) (N : News h₀ L s.heap []) (T : Top p loose mean mg mb h₀)
    (hd : dp + 32 < 1000) (hu : un + 190 < 9900) (h0 : 0 ≤ n) (h1 : n ≤ 15) (hz : z = 8 ∨ z = 16 ∨ z = 32 ∨ z = 64)
    (ret : ∀ (r rd : Addr) (r1 r2 r3 r4 tn tk rn1 rz1 : Tok) (nm : Str)  (h' : Heap) (tk' : Nat), let mo0 : Obj := instObj 938 rd; let mo1 : Obj := regD w r1 r2 r3 r4 (.str nm tn) "gpr" tk n rn1 z rz1; Fr h₀ L h' m → InElt s.heap h' → News h₀ L h' [(r, mo0), (rd, mo1)] → Q (.ref r) { s with heap := h', toks := tk' }) :
    wpAny (model Challenge.rw_nz0171_01.row.prog w) (ktrTop dp un gd cn ⟨.function, nms, isg, isc, scm⟩ L a ccd cl outer) (call (.ref 963) [.int n t, .int z u]) Q E s := by
  have scGpr : True := trivial
  w_on; revert X; k_fill; intro X; have cE0 := InElt.start s.heap; k_steps
  all_goals (refine' ret _ _ _ _ _ _ _ _ _ _ _ _ _ ?cF ?cE ?cN; (case cF => assumption); (case cE => assumption); (case cN => (first | assumption | (refine' cb_drop ?cbN ?cbS; (case cbN => assumption); (case cbS => kcj_all)))))

theorem row123 : True := by
  k_with "call ref" => ((with_reducible show wpAny _ _ (call (Value.ref 963) _) _ _ _); k_dflt (refine' gpr_c ?k1 ?k2 ?k3 (cb_drop ?k4 ?k9) ?k5 ?k7 ?k8 ?h0 ?h1 ?h2 ?_; (case k1 => k_asm); (case k2 => k_asm); (case k3 => k_asm); (case k4 => k_asm); (case k5 => k_asm); (case k9 => repeat (first | exact subNil | refine subCons (by k_mem) ?_)); (case k7 => (first | exact roomA hd rfl | exact roomB hd rfl | ((try simp only [depth_mark, depth_under_make, depth_under_kw, depth_in1, depth_deeper, depth_caller]); (try dsimp only [ktrTop]); omega))); (case k8 => (first | exact unitA hu rfl | ((try simp only [units_under_make, units_in1, units_deeper, Around.mark_units, units_caller]); (try dsimp only [ktrTop]); omega))); (case h0 => first | assumption | omega | decide); (case h1 => first | assumption | omega | decide); (case h2 => first | assumption | omega | decide); k_whole); intro r9 rd9 r19 r29 r39 r49 tn9 tk9r rn19 rz19 nm9  h9 tk9 mo09 mo19 F9 E9 N9; (k_dflt (replace N9 := newsApp N9 E9 (by k_asm))); clear E9; (try dsimp only [List.nil_append, List.cons_append, List.append_nil] at N9); (try simp only [List.append_nil] at N9); (try dsimp only); (try k_fold); (try k_sweep); walk_say "CONTRACT gpr_c")
  trivial
set_option maxRecDepth 100000 in
set_option maxHeartbeats 0 in
theorem high_c
  {w : World} {p : Program} {loose : List Str} {mean : ExcName → Option Value} {mg mb : Str → Option Value}
  {dp un : Nat} {gd : Option (List Code)} {cn : Str} {nms : List (Str × NameKind)} {isg isc : Bool} {scm : List (Str × Const)} {a : Addr} {ccd : Value} {cl : List (Str × Addr)} {outer : List Env} {A₀ : Around} {base h₀ : Heap} {L : Addr} {m : Str → Option Value} {s : Shared} {Q E : Value → Shared → Prop}
  {n : Int} {t : Tok} (B : Below A₀ base outer h₀) (F : Fr h₀ L s.heap m) (X : (kk.heap_1 w.params).In h₀) (N : News h₀ L s.heap []) (T : Top p loose mean mg mb h₀)
    (hd : dp + 32 < 1000) (hu : un + 190 < 9900) (h0 : 4 ≤ n) (h1 : n ≤ 7)
    (ret : ∀ (r rd : Addr) (r1 r2 r3 r4 tn tk rn1 rz1 : Tok) (nm : Str)  (h' : Heap) (tk' : Nat), let mo0 : Obj := instObj 938 rd; let mo1 : Obj := regD w r1 r2 r3 r4 (.str nm tn) "high" tk n rn1 8 rz1; Fr h₀ L h' m → InElt s.heap h' → News h₀ L h' [(r, mo0), (rd, mo1)] → Q (.ref r) { s with heap := h', toks := tk' }) :
    wpAny (model Challenge.rw_nz0171_01.row.prog w) (ktrTop dp un gd cn ⟨.function, nms, isg, isc, scm⟩ L a ccd cl outer) (call (.ref 970) [.int n t]) Q E s := by
  w_on; revert X; k_fill; intro X; have cE0 := InElt.start s.heap; k_steps
  all_goals (refine' ret _ _ _ _ _ _ _ _ _ _ _ _ _ ?cF ?cE ?cN; (case cF => assumption); (case cE => assumption); (case cN => (first | assumption | (refine' cb_drop ?cbN ?cbS; (case cbN => assumption); (case cbS => kcj_all)))))

theorem row124 : True := by
  k_with "call ref" => ((with_reducible show wpAny _ _ (call (Value.ref 970) _) _ _ _); k_dflt (refine' high_c ?k1 ?k2 ?k3 (cb_drop ?k4 ?k9) ?k5 ?k7 ?k8 ?h0 ?h1 ?_; (case k1 => k_asm); (case k2 => k_asm); (case k3 => k_asm); (case k4 => k_asm); (case k5 => k_asm); (case k9 => repeat (first | exact subNil | refine subCons (by k_mem) ?_)); (case k7 => (first | exact roomA hd rfl | exact roomB hd rfl | ((try simp only [depth_mark, depth_under_make, depth_under_kw, depth_in1, depth_deeper, depth_caller]); (try dsimp only [ktrTop]); omega))); (case k8 => (first | exact unitA hu rfl | ((try simp only [units_under_make, units_in1, units_deeper, Around.mark_units, units_caller]); (try dsimp only [ktrTop]); omega))); (case h0 => first | assumption | omega | decide); (case h1 => first | assumption | omega | decide); k_whole); intro r9 rd9 r19 r29 r39 r49 tn9 tk9r rn19 rz19 nm9  h9 tk9 mo09 mo19 F9 E9 N9; (k_dflt (replace N9 := newsApp N9 E9 (by k_asm))); clear E9; (try dsimp only [List.nil_append, List.cons_append, List.append_nil] at N9); (try simp only [List.append_nil] at N9); (try dsimp only); (try k_fold); (try k_sweep); walk_say "CONTRACT high_c")
  trivial
section
variable {prog : Program} {w : World} {A : Around} {E : Value → Shared → Prop} {s : Shared} {t u : Tok} {Q : Value → Shared → Prop}
theorem pow2_64 {c : Int} (e : Hid (c = 18446744073709551616)) (h : Q (.int c s.toks) { s with toks := s.toks + 1 }) : wpAny (model prog w) A (binaryOp .Pow (.int 2 t) (.int 64 u)) Q E s :=
  pow_int_small (by decide) (by decide) (by decide) (by rw [show (2 : Int) ^ Int.toNat 64 = 18446744073709551616 from by decide, ← e.out]; exact h)
theorem pow2_31 {c : Int} (e : Hid (c = 2147483648)) (h : Q (.int c s.toks) { s with toks := s.toks + 1 }) : wpAny (model prog w) A (binaryOp .Pow (.int 2 t) (.int 31 u)) Q E s :=
  pow_int_small (by decide) (by decide) (by decide) (by rw [show (2 : Int) ^ Int.toNat 31 = 2147483648 from by decide, ← e.out]; exact h)
theorem modH {x c y : Int} (e : Hid (c = 18446744073709551616)) (hy : Hid (y = x % 18446744073709551616)) (h : Q (.int y s.toks) { s with toks := s.toks + 1 }) : wpAny (model prog w) A (binaryOp .Mod (.int x t) (.int c u)) Q E s :=
  mod_int' (by rw [e.out]; decide) (by rw [e.out, Int.fmod_eq_emod_of_nonneg _ (by decide), ← hy.out]; exact h)
end
theorem row125 : True := by
  k_with "binaryOp Pow int int" => (k_here; first | with_reducible refine pow2_64 (by assumption) ?_ | with_reducible refine pow2_31 (by assumption) ?_ | ((with_reducible refine pow_int_small ?kb1 ?kb2 ?kb3 ?_); (case kb1 => decide); (case kb2 => decide); (case kb3 => decide)))
  trivial
theorem fitsW8 (y : Int) : fitsB (y.fmod (3 * 2 ^ ((8 : Int) - 1).toNat) - 2 ^ ((8 : Int) - 1).toNat) 8 = true := by
  rw [show (2 : Int) ^ ((8 : Int) - 1).toNat = 128 from by decide, Int.fmod_eq_emod_of_nonneg _ (by decide)]
  unfold fitsB
  rw [show (2 : Int) ^ ((8 : Int) - 1).toNat = 128 from by decide, show (2 : Int) ^ (8 : Int).toNat = 256 from by decide, Bool.and_eq_true, decide_eq_true_eq, decide_eq_true_eq]
  omega
theorem fitsW16 (y : Int) : fitsB (y.fmod (3 * 2 ^ ((16 : Int) - 1).toNat) - 2 ^ ((16 : Int) - 1).toNat) 16 = true := by
  rw [show (2 : Int) ^ ((16 : Int) - 1).toNat = 32768 from by decide, Int.fmod_eq_emod_of_nonneg _ (by decide)]
  unfold fitsB
  rw [show (2 : Int) ^ ((16 : Int) - 1).toNat = 32768 from by decide, show (2 : Int) ^ (16 : Int).toNat = 65536 from by decide, Bool.and_eq_true, decide_eq_true_eq, decide_eq_true_eq]
  omega
theorem fitsW32 (y : Int) : fitsB (y.fmod (3 * 2 ^ ((32 : Int) - 1).toNat) - 2 ^ ((32 : Int) - 1).toNat) 32 = true := by
  rw [show (2 : Int) ^ ((32 : Int) - 1).toNat = 2147483648 from by decide, Int.fmod_eq_emod_of_nonneg _ (by decide)]
  unfold fitsB
  rw [show (2 : Int) ^ ((32 : Int) - 1).toNat = 2147483648 from by decide, show (2 : Int) ^ (32 : Int).toNat = 4294967296 from by decide, Bool.and_eq_true, decide_eq_true_eq, decide_eq_true_eq]
  omega
theorem fitsW64 (y : Int) : fitsB (y.fmod (3 * 2 ^ ((64 : Int) - 1).toNat) - 2 ^ ((64 : Int) - 1).toNat) 64 = true := by
  rw [show (2 : Int) ^ ((64 : Int) - 1).toNat = 9223372036854775808 from by decide, Int.fmod_eq_emod_of_nonneg _ (by decide)]
  unfold fitsB
  rw [show (2 : Int) ^ ((64 : Int) - 1).toNat = 9223372036854775808 from by decide, show (2 : Int) ^ (64 : Int).toNat = 18446744073709551616 from by decide, Bool.and_eq_true, decide_eq_true_eq, decide_eq_true_eq]
  omega
theorem item7 {prog : Program} {w : World} {A : Around} {E : Value → Shared → Prop} {s : Shared} {value slice : Expr} {l : Addr} {a0 a1 a2 a3 a4 a5 a6 : Int} {t0 t1 t2 t3 t4 t5 t6 : Tok} {k : Int} {u : Tok} {Q : Value → Shared → Prop}
    (hl : s.heap.IsList l ([.int a0 t0, .int a1 t1, .int a2 t2, .int a3 t3, .int a4 t4, .int a5 t5, .int a6 t6] : List Value).toArray) (h0 : 0 ≤ k) (h1 : k < 7) (f0 : fitsB a0 64 = true) (f1 : fitsB a1 64 = true) (f2 : fitsB a2 64 = true) (f3 : fitsB a3 64 = true) (f4 : fitsB a4 64 = true) (f5 : fitsB a5 64 = true) (f6 : fitsB a6 64 = true) (h : ∀ x t, fitsB x 64 = true → Q (.int x t) s)
    (hs : subscripted slice false (.ref l) (.int k u) = operate [.ref l, .int k u] (getItem (.ref l) (.int k u)) := by with_unfolding_all rfl) : wpAny (model prog w) A (subscriptTail value slice (.ref l) (.int k u)) Q E s := by
  have hk : k.toNat < 7 := by omega
  have hx : ∃ x t, fitsB x 64 = true ∧ ([.int a0 t0, .int a1 t1, .int a2 t2, .int a3 t3, .int a4 t4, .int a5 t5, .int a6 t6] : List Value)[k.toNat]? = some (.int x t) := by
    generalize k.toNat = j at hk
    match j, hk with
    | 0, _ => exact ⟨_, _, f0, rfl⟩
    | 1, _ => exact ⟨_, _, f1, rfl⟩
    | 2, _ => exact ⟨_, _, f2, rfl⟩
    | 3, _ => exact ⟨_, _, f3, rfl⟩
    | 4, _ => exact ⟨_, _, f4, rfl⟩
    | 5, _ => exact ⟨_, _, f5, rfl⟩
    | 6, _ => exact ⟨_, _, f6, rfl⟩
    | j + 7, hk => omega
  obtain ⟨x, t, f, hx⟩ := hx
  exact item_litK hl h0 (by omega) hx (h x t f) hs
theorem fitsOf {x : Int} (h : -9223372036854775808 ≤ x) (h' : x ≤ 18446744073709551615) : fitsB x 64 = true := by
  unfold fitsB
  rw [show (2 : Int) ^ ((64 : Int) - 1).toNat = 9223372036854775808 from by decide, show (2 : Int) ^ (64 : Int).toNat = 18446744073709551616 from by decide, Bool.and_eq_true, decide_eq_true_eq, decide_eq_true_eq]
  omega
theorem in7 (r : Int) : 0 ≤ (r.fdiv 3).fmod 7 ∧ (r.fdiv 3).fmod 7 < 7 := by
  rw [Int.fmod_eq_emod_of_nonneg _ (by decide)]; omega
theorem row126 : True := by
  k_with "subscriptTail" => (guard_hyp scW : True; k_here; (with_reducible show wpAny _ _ (subscriptTail _ _ (Value.ref _) (Value.int _ _)) _ _ _); k_dflt (refine' item7 ?k1 (in7 _).1 (in7 _).2 ?f0 ?f1 ?f2 ?f3 ?f4 ?f5 ?f6 ?_ ?k6; (case k1 => exact News.isList (by k_asm) (by k_mem)); (case f0 => exact fitsOf (by have h1 := e31.out; have h2 := e64.out; omega) (by have h1 := e31.out; have h2 := e64.out; omega)); (case f1 => exact fitsOf (by have h1 := e31.out; have h2 := e64.out; omega) (by have h1 := e31.out; have h2 := e64.out; omega)); (case f2 => exact fitsOf (by have h1 := e31.out; have h2 := e64.out; omega) (by have h1 := e31.out; have h2 := e64.out; omega)); (case f3 => exact fitsOf (by have h1 := e31.out; have h2 := e64.out; omega) (by have h1 := e31.out; have h2 := e64.out; omega)); (case f4 => exact fitsOf (by have h1 := e31.out; have h2 := e64.out; omega) (by have h1 := e31.out; have h2 := e64.out; omega)); (case f5 => exact fitsOf (by have h1 := e31.out; have h2 := e64.out; omega) (by have h1 := e31.out; have h2 := e64.out; omega)); (case f6 => exact fitsOf (by have h1 := e31.out; have h2 := e64.out; omega) (by have h1 := e31.out; have h2 := e64.out; omega)); (case k6 => with_unfolding_all rfl); k_whole); intro x9 t9 f9)
  trivial
set_option maxRecDepth 100000 in
set_option maxHeartbeats 0 in
theorem worth8_c
  {w : World} {p : Program} {loose : List Str} {mean : ExcName → Option Value} {mg mb : Str → Option Value}
  {dp un : Nat} {gd : Option (List Code)} {cn : Str} {nms : List (Str × NameKind)} {isg isc : Bool} {scm : List (Str × Const)} {a : Addr} {ccd : Value} {cl : List (Str × Addr)} {outer : List Env} {A₀ : Around} {base h₀ : Heap} {L : Addr} {m : Str → Option Value} {s : Shared} {Q E : Value → Shared → Prop}
  {r : Int} {t1 t2 : Tok} (B : Below A₀ base outer h₀) (F : Fr h₀ L s.heap m) (X : (kk.heap_1 w.params).In h₀) (N : News h₀ L s.heap []) (T : Top p loose mean mg mb h₀)
    (hd : dp + 24 < 1000) (hu : un + 130 < 9900) 
    (ret : ∀ (x : Int) (t' : Tok) (hx : fitsB x 8 = true)  (h' : Heap) (tk' : Nat), Fr h₀ L h' m → InElt s.heap h' → News h₀ L h' [] → Q (.int x t') { s with heap := h', toks := tk' }) :
    wpAny (model Challenge.rw_nz0171_01.row.prog w) (ktrTop dp un gd cn ⟨.function, nms, isg, isc, scm⟩ L a ccd cl outer) (call (.ref 977) [.int r t1, .int 8 t2]) Q E s := by
  have scW : True := trivial
  w_on; revert X; k_fill; intro X; have cE0 := InElt.start s.heap; k_steps
  all_goals (refine' ret _ _ ?hx _ _ ?cF ?cE ?cN; (case cF => assumption); (case cE => (first | assumption | (refine' elt_afterC ?e1 ?e2 ?e3 ?e4 ?e5 ?e6; (case e2 => assumption); (case e1 => assumption); (case e3 => assumption); (case e4 => assumption); (case e5 => assumption); (case e6 => repeat (first | exact List.forall_mem_nil _ | refine List.forall_mem_cons.mpr ⟨(by first | exact Or.inr (by with_reducible assumption) | exact Or.inl (by k_mem)), ?_⟩))))); (case cN => (first | assumption | (refine' cb_drop ?cbN ?cbS; (case cbN => assumption); (case cbS => kcj_all)))); (case hx => first | exact fitsW8 _ | assumption))

theorem row127 : True := by
  k_with "call ref" => ((with_reducible show wpAny _ _ (call (Value.ref 977) [_, Value.int 8 _]) _ _ _); k_dflt (refine' worth8_c ?k1 ?k2 ?k3 (cb_drop ?k4 ?k9) ?k5 ?k7 ?k8  ?_; (case k1 => k_asm); (case k2 => k_asm); (case k3 => k_asm); (case k4 => k_asm); (case k5 => k_asm); (case k9 => repeat (first | exact subNil | refine subCons (by k_mem) ?_)); (case k7 => (first | exact roomA hd rfl | exact roomB hd rfl | ((try simp only [depth_mark, depth_under_make, depth_under_kw, depth_in1, depth_deeper, depth_caller]); (try dsimp only [ktrTop]); omega))); (case k8 => (first | exact unitA hu rfl | ((try simp only [units_under_make, units_in1, units_deeper, Around.mark_units, units_caller]); (try dsimp only [ktrTop]); omega))); k_whole); intro x9 t9 hx9  h9 tk9  F9 E9 N9; (k_dflt (replace N9 := newsApp N9 E9 (by k_asm))); clear E9; (try dsimp only [List.nil_append, List.cons_append, List.append_nil] at N9); (try simp only [List.append_nil] at N9); (try dsimp only); (try k_fold); (try k_sweep); walk_say "CONTRACT worth8_c")
  trivial
set_option maxRecDepth 100000 in
set_option maxHeartbeats 0 in
theorem worth16_c
  {w : World} {p : Program} {loose : List Str} {mean : ExcName → Option Value} {mg mb : Str → Option Value}
  {dp un : Nat} {gd : Option (List Code)} {cn : Str} {nms : List (Str × NameKind)} {isg isc : Bool} {scm : List (Str × Const)} {a : Addr} {ccd : Value} {cl : List (Str × Addr)} {outer : List Env} {A₀ : Around} {base h₀ : Heap} {L : Addr} {m : Str → Option Value} {s : Shared} {Q E : Value → Shared → Prop}
  {r : Int} {t1 t2 : Tok} (B : Below A₀ base outer h₀) (F : Fr h₀ L s.heap m) (X : (kk.heap_1 w.params).In h₀) (N : News h₀ L s.heap []) (T : Top p loose mean mg mb h₀)
    (hd : dp + 24 < 1000) (hu : un + 130 < 9900) 
    (ret : ∀ (x : Int) (t' : Tok) (hx : fitsB x 16 = true)  (h' : Heap) (tk' : Nat), Fr h₀ L h' m → InElt s.heap h' → News h₀ L h' [] → Q (.int x t') { s with heap := h', toks := tk' }) :
    wpAny (model Challenge.rw_nz0171_01.row.prog w) (ktrTop dp un gd cn ⟨.function, nms, isg, isc, scm⟩ L a ccd cl outer) (call (.ref 977) [.int r t1, .int 16 t2]) Q E s := by
  have scW : True := trivial
  w_on; revert X; k_fill; intro X; have cE0 := InElt.start s.heap; k_steps
  all_goals (refine' ret _ _ ?hx _ _ ?cF ?cE ?cN; (case cF => assumption); (case cE => (first | assumption | (refine' elt_afterC ?e1 ?e2 ?e3 ?e4 ?e5 ?e6; (case e2 => assumption); (case e1 => assumption); (case e3 => assumption); (case e4 => assumption); (case e5 => assumption); (case e6 => repeat (first | exact List.forall_mem_nil _ | refine List.forall_mem_cons.mpr ⟨(by first | exact Or.inr (by with_reducible assumption) | exact Or.inl (by k_mem)), ?_⟩))))); (case cN => (first | assumption | (refine' cb_drop ?cbN ?cbS; (case cbN => assumption); (case cbS => kcj_all)))); (case hx => first | exact fitsW16 _ | assumption))

theorem row128 : True := by
  k_with "call ref" => ((with_reducible show wpAny _ _ (call (Value.ref 977) [_, Value.int 16 _]) _ _ _); k_dflt (refine' worth16_c ?k1 ?k2 ?k3 (cb_drop ?k4 ?k9) ?k5 ?k7 ?k8  ?_; (case k1 => k_asm); (case k2 => k_asm); (case k3 => k_asm); (case k4 => k_asm); (case k5 => k_asm); (case k9 => repeat (first | exact subNil | refine subCons (by k_mem) ?_)); (case k7 => (first | exact roomA hd rfl | exact roomB hd rfl | ((try simp only [depth_mark, depth_under_make, depth_under_kw, depth_in1, depth_deeper, depth_caller]); (try dsimp only [ktrTop]); omega))); (case k8 => (first | exact unitA hu rfl | ((try simp only [units_under_make, units_in1, units_deeper, Around.mark_units, units_caller]); (try dsimp only [ktrTop]); omega))); k_whole); intro x9 t9 hx9  h9 tk9  F9 E9 N9; (k_dflt (replace N9 := newsApp N9 E9 (by k_asm))); clear E9; (try dsimp only [List.nil_append, List.cons_append, List.append_nil] at N9); (try simp only [List.append_nil] at N9); (try dsimp only); (try k_fold); (try k_sweep); walk_say "CONTRACT worth16_c")
  trivial
set_option maxRecDepth 100000 in
set_option maxHeartbeats 0 in
theorem worth32_c
  {w : World} {p : Program} {loose : List Str} {mean : ExcName → Option Value} {mg mb : Str → Option Value}
  {dp un : Nat} {gd : Option (List Code)} {cn : Str} {nms : List (Str × NameKind)} {isg isc : Bool} {scm : List (Str × Const)} {a : Addr} {ccd : Value} {cl : List (Str × Addr)} {outer : List Env} {A₀ : Around} {base h₀ : Heap} {L : Addr} {m : Str → Option Value} {s : Shared} {Q E : Value → Shared → Prop}
  {r : Int} {t1 t2 : Tok} (B : Below A₀ base outer h₀) (F : Fr h₀ L s.heap m) (X : (kk.heap_1 w.params).In h₀) (N : News h₀ L s.heap []) (T : Top p loose mean mg mb h₀)
    (hd : dp + 24 < 1000) (hu : un + 130 < 9900) 
    (ret : ∀ (x : Int) (t' : Tok) (hx : fitsB x 32 = true)  (h' : Heap) (tk' : Nat), Fr h₀ L h' m → InElt s.heap h' → News h₀ L h' [] → Q (.int x t') { s with heap := h', toks := tk' }) :
    wpAny (model Challenge.rw_nz0171_01.row.prog w) (ktrTop dp un gd cn ⟨.function, nms, isg, isc, scm⟩ L a ccd cl outer) (call (.ref 977) [.int r t1, .int 32 t2]) Q E s := by
  have scW : True := trivial
  w_on; revert X; k_fill; intro X; have cE0 := InElt.start s.heap; k_steps
  all_goals (refine' ret _ _ ?hx _ _ ?cF ?cE ?cN; (case cF => assumption); (case cE => (first | assumption | (refine' elt_afterC ?e1 ?e2 ?e3 ?e4 ?e5 ?e6; (case e2 => assumption); (case e1 => assumption); (case e3 => assumption); (case e4 => assumption); (case e5 => assumption); (case e6 => repeat (first | exact List.forall_mem_nil _ | refine List.forall_mem_cons.mpr ⟨(by first | exact Or.inr (by with_reducible assumption) | exact Or.inl (by k_mem)), ?_⟩))))); (case cN => (first | assumption | (refine' cb_drop ?cbN ?cbS; (case cbN => assumption); (case cbS => kcj_all)))); (case hx => first | exact fitsW32 _ | assumption))

theorem row129 : True := by
  k_with "call ref" => ((with_reducible show wpAny _ _ (call (Value.ref 977) [_, Value.int 32 _]) _ _ _); k_dflt (refine' worth32_c ?k1 ?k2 ?k3 (cb_drop ?k4 ?k9) ?k5 ?k7 ?k8  ?_; (case k1 => k_asm); (case k2 => k_asm); (case k3 => k_asm); (case k4 => k_asm); (case k5 => k_asm); (case k9 => repeat (first | exact subNil | refine subCons (by k_mem) ?_)); (case k7 => (first | exact roomA hd rfl | exact roomB hd rfl | ((try simp only [depth_mark, depth_under_make, depth_under_kw, depth_in1, depth_deeper, depth_caller]); (try dsimp only [ktrTop]); omega))); (case k8 => (first | exact unitA hu rfl | ((try simp only [units_under_make, units_in1, units_deeper, Around.mark_units, units_caller]); (try dsimp only [ktrTop]); omega))); k_whole); intro x9 t9 hx9  h9 tk9  F9 E9 N9; (k_dflt (replace N9 := newsApp N9 E9 (by k_asm))); clear E9; (try dsimp only [List.nil_append, List.cons_append, List.append_nil] at N9); (try simp only [List.append_nil] at N9); (try dsimp only); (try k_fold); (try k_sweep); walk_say "CONTRACT worth32_c")
  trivial
set_option maxRecDepth 100000 in
set_option maxHeartbeats 0 in
theorem worth64_c
  {w : World} {p : Program} {loose : List Str} {mean : ExcName → Option Value} {mg mb : Str → Option Value}
  {dp un : Nat} {gd : Option (List Code)} {cn : Str} {nms : List (Str × NameKind)} {isg isc : Bool} {scm : List (Str × Const)} {a : Addr} {ccd : Value} {cl : List (Str × Addr)} {outer : List Env} {A₀ : Around} {base h₀ : Heap} {L : Addr} {m : Str → Option Value} {s : Shared} {Q E : Value → Shared → Prop}
  {r : Int} {t1 t2 : Tok} (B : Below A₀ base outer h₀) (F : Fr h₀ L s.heap m) (X : (kk.heap_1 w.params).In h₀) (N : News h₀ L s.heap []) (T : Top p loose mean mg mb h₀)
    (hd : dp + 24 < 1000) (hu : un + 130 < 9900) 
    (ret : ∀ (x : Int) (t' : Tok) (hx : fitsB x 64 = true)  (h' : Heap) (tk' : Nat), Fr h₀ L h' m → InElt s.heap h' → News h₀ L h' [] → Q (.int x t') { s with heap := h', toks := tk' }) :
    wpAny (model Challenge.rw_nz0171_01.row.prog w) (ktrTop dp un gd cn ⟨.function, nms, isg, isc, scm⟩ L a ccd cl outer) (call (.ref 977) [.int r t1, .int 64 t2]) Q E s := by
  have scW : True := trivial
  obtain ⟨c31, e31⟩ : ∃ c, Hid (c = (2147483648 : Int)) := ⟨_, ⟨rfl⟩⟩
  obtain ⟨c64, e64⟩ : ∃ c, Hid (c = (18446744073709551616 : Int)) := ⟨_, ⟨rfl⟩⟩
  w_on; revert X; k_fill; intro X; have cE0 := InElt.start s.heap; k_steps
  all_goals (refine' ret _ _ ?hx _ _ ?cF ?cE ?cN; (case cF => assumption); (case cE => (first | assumption | (refine' elt_afterC ?e1 ?e2 ?e3 ?e4 ?e5 ?e6; (case e2 => assumption); (case e1 => assumption); (case e3 => assumption); (case e4 => assumption); (case e5 => assumption); (case e6 => repeat (first | exact List.forall_mem_nil _ | refine List.forall_mem_cons.mpr ⟨(by first | exact Or.inr (by with_reducible assumption) | exact Or.inl (by k_mem)), ?_⟩))))); (case cN => (first | assumption | (refine' cb_drop ?cbN ?cbS; (case cbN => assumption); (case cbS => kcj_all)))); (case hx => first | exact fitsW64 _ | assumption))

theorem row130 : True := by
  k_with "call ref" => ((with_reducible show wpAny _ _ (call (Value.ref 977) [_, Value.int 64 _]) _ _ _); k_dflt (refine' worth64_c ?k1 ?k2 ?k3 (cb_drop ?k4 ?k9) ?k5 ?k7 ?k8  ?_; (case k1 => k_asm); (case k2 => k_asm); (case k3 => k_asm); (case k4 => k_asm); (case k5 => k_asm); (case k9 => repeat (first | exact subNil | refine subCons (by k_mem) ?_)); (case k7 => (first | exact roomA hd rfl | exact roomB hd rfl | ((try simp only [depth_mark, depth_under_make, depth_under_kw, depth_in1, depth_deeper, depth_caller]); (try dsimp only [ktrTop]); omega))); (case k8 => (first | exact unitA hu rfl | ((try simp only [units_under_make, units_in1, units_deeper, Around.mark_units, units_caller]); (try dsimp only [ktrTop]); omega))); k_whole); intro x9 t9 hx9  h9 tk9  F9 E9 N9; (k_dflt (replace N9 := newsApp N9 E9 (by k_asm))); clear E9; (try dsimp only [List.nil_append, List.cons_append, List.append_nil] at N9); (try simp only [List.append_nil] at N9); (try dsimp only); (try k_fold); (try k_sweep); walk_say "CONTRACT worth64_c")
  trivial

/- a def with cells, entered with its ground told (the library tells the ground of a plain def only) -/
section
variable {prog : Program} {w : World} {A : Around} {s : Shared} {K : Frag} {A₀ : Around} {base h₀ : Heap} {L : Addr} {m : Str → Option Value} {news : List (Addr × Obj)} {p : Program} {loose : List Str} {mean : ExcName → Option Value} {mg mb : Str → Option Value}
theorem code_defCG {env : Env} {outer : List Env} {R : Result → Shared → Prop} {name qual : Str} {params : Arguments} {body : List Stmt} {scope : Scope} {dV kV doc pm cdv ct oc : Value} {an od : Option Addr} {osl : Array (Option Value)} {f : Addr} {args : Args} {binds : List (Str × Value)}
    (B : Below A₀ base outer h₀) (F : Fr h₀ L s.heap m) (X₀ : K.In h₀) (N : News h₀ L s.heap news) (T : Top p loose mean mg mb h₀) (hA : A.frames = some (env :: outer)) (hf : env.frame = some L) (hke : env.scope.kind = .function)
    (ho : K.lookup f = some ⟨oc, od, .func (fnOf name qual params body scope dV kV doc pm an cdv ct), osl⟩) (hcd : codeIn K cdv qual = true) (hroom : A.depth < recursionLimit)
    (hbind : BindsTo s (fnOf name qual params body scope dV kV doc pm an cdv ct) args binds) (hkind : (binds.all fun y => scope.names.lookup y.1 == some .local || scope.names.lookup y.1 == some .cell) = true)
    (hnd : ((cellsFrom 0 scope.names []).map (·.1)).Nodup)
    (h : ∀ g L' h₁ tk cells, Fr h₀ L g m → Fr g L' h₁ (bindL (envOfC qual scope L' f cdv).kindOf binds fun _ => none) → News g L' h₁ (cells ++ news) →
      CellsAre (bindC (envOfC qual scope L' f cdv).kindOf binds fun _ => none) (cellsFrom (L' + 1) scope.names []) cells → Below A base (env :: outer) g → K.In g → Top p loose mean mg mb g → (∀ p ∈ news, p.1 < L') → GSub s.heap g (news.map (·.1)) →
      wpAny (model prog w) (A.deeper (envOfC qual scope L' f cdv)) (execs body (envOfC qual scope L' f cdv))
        (fun fl s' => LeaveK h₀ L m g R (match fl with | .ret v => v | _ => .none) s')
        (fun e s' => wpAny (model prog w) (A.deeper (envOfC qual scope L' f cdv)) (leaving (envOfC qual scope L' f cdv) e) (fun _ s'' => R (.error e) s'') (fun e' s'' => R (.error e') s'') s')
        { s with heap := h₁, toks := tk })
    (hco : scope.isCoroutine = false) (hgen : scope.isGenerator = false) (hk : scope.kind = .function) : codeAny (model prog w) A (.call (.ref f) args) R s := by
  obtain ⟨FG, BG, st, lv⟩ := groundX (R := R) B F N hA hf hke
  refine codeAny_call_function hroom ((X₀.keeps F.keep) _ _ ho) rfl hco hgen rfl (codeRec_of (X₀.keeps F.keep) hcd) (hbind _ _ _ _ ?_)
  refine wpAny_newFunctionEnv_cells hk (kindsX hkind _) fun env' he s' x => ?_
  subst he
  refine ⟨(T.nolimit.keeps F.keep).keeps x.toInCall.keep, codeAny_func ?_⟩
  obtain ⟨h₁, tk, rfl, _⟩ := x.done
  have hk₁ := x.toInCall.keep
  obtain ⟨cells, NC, Y⟩ := Cl.news (h₀ := s.heap) (Nat.le_refl _) fun n c hm => ⟨x.cell n c (lookup_of_mem_nodup (cellsFrom_names scope.names 0 (s.heap.objs.size + 1) [] [] rfl ▸ hnd) hm), x.above n c hm⟩
  refine wpAny_mono (h _ s.heap.objs.size h₁ tk cells FG ⟨x.toInCall.ns, fun b o e => hk₁ b o (of_hideAll _ e), Nat.le_of_eq (hideAll_size _ _)⟩ (fun p hp => ?_) Y BG (X₀.keeps st) (T.keeps st) (fun p hp => Heap.lt_size (N p hp).1) (fun b o e n => hideAll_get _ e n)) (fun fl s' hl => lv _ _ hl) fun _ _ y => y
  rcases List.mem_append.mp hp with hp | hp
  · refine ⟨(NC p hp).1, (NC p hp).2.1, ?_⟩
    cases q : (hideAll s.heap (news.map (·.1))).get? p.1 with
    | none => rfl
    | some o => have := of_hideAll _ q; rw [(NC p hp).2.2] at this; cases this
  · exact ⟨hk₁ _ _ (N p hp).1, Nat.ne_of_lt (Heap.lt_size (N p hp).1), hideAll_none _ (List.mem_map_of_mem hp)⟩
end
abbrev encA (rk : Str) (op n z zk x : Int) : Array UInt8 := preB (decide (z = 16)) (rexV rk n z) ++ (octL (op + n % 8) 1).toArray ++ (octL x (zk / 8).toNat).toArray
abbrev encB (rk : Str) (op n z zk x : Int) : Array UInt8 := preB (decide (z = 16)) (rexV rk n z) ++ (octL (op + 0) 1).toArray ++ #[(192 + n % 8).toNat.toUInt8] ++ (octL x (zk / 8).toNat).toArray
theorem row_at (x : Int) (k : Nat) : (x.fdiv (256 ^ (0 + (k : Int)).toNat)).fmod 256 = x / 256 ^ k % 256 := by
  rw [Int.fmod_eq_emod_of_nonneg _ (by decide), Int.fdiv_eq_ediv_of_nonneg _ (Int.pow_nonneg (by decide)), Int.zero_add, Int.toNat_natCast]
theorem octs_from (x : Int) : ∀ (n k : Nat), octs (x / 256 ^ k) n = (List.range' k n).map fun j => x / 256 ^ j % 256
  | 0, _ => rfl
  | n + 1, k => by
    show x / 256 ^ k % 256 :: octs (x / 256 ^ k / 256) n = _
    rw [Int.ediv_ediv_of_nonneg (Int.pow_nonneg (by decide)), ← Int.pow_succ, octs_from x n (k + 1)]; rfl
theorem octs_all (x : Int) (n : Nat) : octs x n = (List.range' 0 n).map fun j => x / 256 ^ j % 256 := by
  have := octs_from x n 0
  rwa [Int.pow_zero, Int.ediv_one] at this
theorem fmod8 (n : Int) : n.fmod 8 = n % 8 := Int.fmod_eq_emod_of_nonneg _ (by decide)
theorem tn1 : ((8 : Int) / 8).toNat = 1 := rfl
theorem rg1 : List.range' 0 1 = [0] := rfl
theorem tn2 : ((16 : Int) / 8).toNat = 2 := rfl
theorem tn4 : ((32 : Int) / 8).toNat = 4 := rfl
theorem tn8 : ((64 : Int) / 8).toNat = 8 := rfl
theorem rg2 : List.range' 0 2 = [0, 1] := rfl
theorem rg4 : List.range' 0 4 = [0, 1, 2, 3] := rfl
theorem rg8 : List.range' 0 8 = [0, 1, 2, 3, 4, 5, 6, 7] := rfl
theorem op1 (y : Int) (h0 : 0 ≤ y) (h1 : y < 256) : octL y 1 = [y.toNat.toUInt8] := by
  show [(y % 256).toNat.toUInt8] = _; rw [Int.emod_eq_of_lt h0 h1]
theorem preB_n {b : Bool} : preB b (-1) = if b then #[102] else #[] := by cases b <;> rfl
theorem rexV_n {rk : Str} {n z : Int} (h : nd rk n z = false) : rexV rk n z = -1 := (rexV_f h).symm
theorem b7iff {n : Int} : 0 < 0 + bit7 n ↔ 7 < n := by
  unfold bit7; by_cases h : 7 < n <;> simp [h]
theorem ndl8 {rk : Str} {n : Int} {hi : Bool} (hR : RegOk rk n 8) (hH : hi = (rk == "high")) : nd rk n 8 = decide (7 < n ∨ (3 < n ∧ hi = false)) := by
  subst hH
  have hgh : (("gpr" : Str) == "high") = false := by decide
  have hhg : (("high" : Str) == "gpr") = false := by decide
  rcases hR.fit with ⟨rfl, h0, h1⟩ | ⟨rfl, h0, h1, _⟩
  · unfold nd needsR; rw [hgh]; simp
  · unfold nd needsR; rw [hhg]
    have h7 : ¬ 7 < n := by omega
    simp [h7]
theorem ndlz {rk : Str} {n z : Int} (h : z ≠ 64) (h' : z ≠ 8) : nd rk n z = decide (7 < n) := by
  unfold nd needsR; simp [h, h']
theorem bpre {b : Bool} {y : Int} (h0 : 0 ≤ y) : preB b (64 + y) = if b then #[102, (64 + y).toNat.toUInt8] else #[(64 + y).toNat.toUInt8] := by
  cases b
  · rw [preB_f (by omega)]; rfl
  · rw [preB_t (by omega)]; rfl
theorem rexV_tt {rk : Str} {n z : Int} (h : nd rk n z = true) : rexV rk n z = 64 + (8 * bit64 z + bit7 n) := by rw [← rexV_t h]; omega
theorem b7in (n : Int) : 0 ≤ bit7 n ∧ bit7 n ≤ 1 := by rcases bit7_or n with h | h <;> omega
theorem b7t {n : Int} (h : n > 7) : 1 = bit7 n := by unfold bit7; simp [h]
theorem b7f {n : Int} (h : ¬ n > 7) : 0 = bit7 n := by unfold bit7; simp [h]
abbrev Short (x : Int) : Prop := x % 18446744073709551616 < 2147483648 ∨ 18446744071562067968 ≤ x % 18446744073709551616
theorem nd64 {rk : Str} {n : Int} : nd rk n 64 = true := by unfold nd; simp
theorem shortT {x y c31 c64 : Int} (e31 : Hid (c31 = 2147483648)) (e64 : Hid (c64 = 18446744073709551616)) (hy : Hid (y = x % 18446744073709551616)) (h : y < c31 ∨ c64 - c31 ≤ y) : Short x := by
  have h1 := e31.out; have h2 := e64.out; have h3 := hy.out; unfold Short; omega
theorem shortF {x y c31 c64 : Int} (e31 : Hid (c31 = 2147483648)) (e64 : Hid (c64 = 18446744073709551616)) (hy : Hid (y = x % 18446744073709551616)) (h : ¬ y < c31) (h' : ¬ c64 - c31 ≤ y) : ¬ Short x := by
  have h1 := e31.out; have h2 := e64.out; have h3 := hy.out; unfold Short; omega
theorem preB8t {rk : Str} {n : Int} (h : nd rk n 8 = true) : preB (decide ((8 : Int) = 16)) (rexV rk n 8) = #[(64 + (0 + bit7 n)).toNat.toUInt8] := by
  rw [rexV_tt h, show bit64 8 = 0 from rfl, bpre (by have := b7in n; omega)]; rfl
theorem preB8n {rk : Str} {n : Int} (h : nd rk n 8 = false) : preB (decide ((8 : Int) = 16)) (rexV rk n 8) = #[] := by rw [rexV_n h, preB_n]; rfl
theorem preB16t {rk : Str} {n : Int} (h : nd rk n 16 = true) : preB (decide ((16 : Int) = 16)) (rexV rk n 16) = #[102, (64 + (0 + bit7 n)).toNat.toUInt8] := by
  rw [rexV_tt h, show bit64 16 = 0 from rfl, bpre (by have := b7in n; omega)]; rfl
theorem preB16n {rk : Str} {n : Int} (h : nd rk n 16 = false) : preB (decide ((16 : Int) = 16)) (rexV rk n 16) = #[102] := by rw [rexV_n h, preB_n]; rfl
theorem preB32t {rk : Str} {n : Int} (h : nd rk n 32 = true) : preB (decide ((32 : Int) = 16)) (rexV rk n 32) = #[(64 + (0 + bit7 n)).toNat.toUInt8] := by
  rw [rexV_tt h, show bit64 32 = 0 from rfl, bpre (by have := b7in n; omega)]; rfl
theorem preB32n {rk : Str} {n : Int} (h : nd rk n 32 = false) : preB (decide ((32 : Int) = 16)) (rexV rk n 32) = #[] := by rw [rexV_n h, preB_n]; rfl
theorem preB64t {rk : Str} {n : Int} (h : nd rk n 64 = true) : preB (decide ((64 : Int) = 16)) (rexV rk n 64) = #[(64 + (8 + bit7 n)).toNat.toUInt8] := by
  rw [rexV_tt h, show bit64 64 = 1 from rfl, bpre (by have := b7in n; omega)]; rfl

def opA (z : Int) : Int := if z = 8 then 176 else 184
def opB (z : Int) : Int := if z = 8 then 198 else 199
def preI (rk : Str) (n z : Int) : List Int := (if z = 16 then [102] else []) ++ (if nd rk n z = true then [64 + (8 * bit64 z + bit7 n)] else [])
def rowI (x : Int) (k : Nat) : List Int := (List.range' 0 k).map fun j => x / 256 ^ j % 256
def toB (ns : List Int) : Array UInt8 := (ns.map fun n => n.toNat.toUInt8).toArray
def Sz (z : Int) : Prop := z = 8 ∨ z = 16 ∨ z = 32 ∨ z = 64
theorem toB_app (a b : List Int) : toB (a ++ b) = toB a ++ toB b := by unfold toB; rw [List.map_append, List.append_toArray]
theorem preI_B {rk : Str} {n z : Int} : toB (preI rk n z) = preB (decide (z = 16)) (rexV rk n z) := by
  have hb := b7in n
  have h64 : 0 ≤ bit64 z := by rcases bit64_or z with h | h <;> omega
  unfold preI
  by_cases hn : nd rk n z = true
  · rw [rexV_tt hn, if_pos hn, bpre (by omega)]
    by_cases h16 : z = 16 <;> simp [h16, toB]
  · have hn' : nd rk n z = false := by simpa using hn
    rw [rexV_n hn', if_neg hn, preB_n]
    by_cases h16 : z = 16 <;> simp [h16, toB]
theorem toB_one (y : Int) (h0 : 0 ≤ y) (h1 : y < 256) : toB [y] = (octL y 1).toArray := by
  show _ = ([(y % 256).toNat.toUInt8] : List UInt8).toArray
  rw [Int.emod_eq_of_lt h0 h1]; rfl
theorem rowI_B (x : Int) (k : Nat) : toB (rowI x k) = (octL x k).toArray := by unfold toB rowI octL; rw [octs_all]
theorem laidA {rk : Str} {n z x : Int} (hz : Sz z) (h0 : 0 ≤ n) (h1 : n ≤ 15) : toB ((preI rk n z ++ [opA z + n.fmod 8]) ++ rowI x (z / 8).toNat) = encA rk (opA z) n z z x := by
  have ho : 0 ≤ opA z + n % 8 ∧ opA z + n % 8 < 256 := by unfold opA; split <;> omega
  unfold encA
  rw [toB_app, toB_app, preI_B, rowI_B, fmod8, toB_one _ ho.1 ho.2]
theorem rowI_take (x : Int) {k j : Nat} (h : j ≤ k) : (rowI x k).take j = rowI x j := by
  unfold rowI
  rw [← List.map_take]
  congr 1
  rw [show k = j + (k - j) by omega, ← List.range'_append_1, List.take_append_of_le_length (by simp), List.take_of_length_le (by simp)]
theorem laidB {rk : Str} {n z x : Int} (hz : Sz z) : toB ((preI rk n z ++ [opB z, 192 + n.fmod 8]) ++ (rowI x (z / 8).toNat).take 4) = encB rk (opB z) n z (if z = 64 then 32 else z) x := by
  have ho : 0 ≤ opB z + 0 ∧ opB z + 0 < 256 := by unfold opB; split <;> omega
  have hr : (rowI x (z / 8).toNat).take 4 = rowI x ((if z = 64 then 32 else z) / 8).toNat := by
    rcases hz with rfl | rfl | rfl | rfl
    · exact List.take_of_length_le (by unfold rowI; simp)
    · exact List.take_of_length_le (by unfold rowI; simp)
    · exact List.take_of_length_le (by unfold rowI; simp)
    · exact rowI_take x (by decide)
  unfold encB
  rw [hr, toB_app, show ([opB z, 192 + n.fmod 8] : List Int) = [opB z + 0] ++ [192 + n % 8] by rw [Int.add_zero, fmod8]; rfl, toB_app, toB_app, preI_B, rowI_B, toB_one _ ho.1 ho.2, Array.append_assoc, Array.append_assoc, Array.append_assoc, Array.append_assoc]
  rfl
theorem rowI_in (x : Int) (k : Nat) : ∀ n ∈ rowI x k, 0 ≤ n ∧ n < 256 := fun n hn => by
  obtain ⟨j, _, rfl⟩ := List.mem_map.mp hn
  omega
theorem preI_in {rk : Str} {m z : Int} : ∀ n ∈ preI rk m z, 0 ≤ n ∧ n < 256 := fun n hn => by
  have hb := b7in m
  have h64 : 0 ≤ bit64 z ∧ bit64 z ≤ 1 := by rcases bit64_or z with h | h <;> omega
  unfold preI at hn
  rcases List.mem_append.mp hn with h | h
  · split at h
    · rw [List.mem_singleton.mp h]; omega
    · cases h
  · split at h
    · rw [List.mem_singleton.mp h]; omega
    · cases h
theorem inA {rk : Str} {n z x : Int} {k : Nat} (h0 : 0 ≤ n) : ∀ y ∈ (preI rk n z ++ [opA z + n.fmod 8]) ++ rowI x k, 0 ≤ y ∧ y < 256 := fun y hy => by
  have ho : 0 ≤ opA z + n % 8 ∧ opA z + n % 8 < 256 := by unfold opA; split <;> omega
  rcases List.mem_append.mp hy with hy | hy
  · rcases List.mem_append.mp hy with hy | hy
    · exact preI_in y hy
    · rw [List.mem_singleton.mp hy, fmod8]; exact ho
  · exact rowI_in x k y hy
theorem inB {rk : Str} {n z x : Int} {k j : Nat} : ∀ y ∈ (preI rk n z ++ [opB z, 192 + n.fmod 8]) ++ (rowI x k).take j, 0 ≤ y ∧ y < 256 := fun y hy => by
  have ho : 0 ≤ opB z ∧ opB z < 256 := by unfold opB; split <;> omega
  rcases List.mem_append.mp hy with hy | hy
  · rcases List.mem_append.mp hy with hy | hy
    · exact preI_in y hy
    · rcases List.mem_cons.mp hy with rfl | hy
      · exact ho
      · rw [List.mem_singleton.mp hy, fmod8]; omega
  · exact rowI_in x k y (List.mem_of_mem_take hy)
theorem rowI_succ (x : Int) (i : Nat) : rowI x (i + 1) = rowI x i ++ [x / 256 ^ i % 256] := by
  unfold rowI; rw [show List.range' 0 (i + 1) = List.range' 0 i ++ [0 + i] from (List.range'_1_concat ..), List.map_append, Nat.zero_add]; rfl

def pre16 (z : Int) : List Int := if z = 16 then [102] else []
theorem preI_t {rk : Str} {n z : Int} (h : nd rk n z = true) : pre16 z ++ [64 + (8 * bit64 z + bit7 n)] = preI rk n z := by unfold preI pre16; rw [if_pos h]
theorem preI_f {rk : Str} {n z : Int} (h : nd rk n z = false) : pre16 z = preI rk n z := by unfold preI pre16; rw [h]; simp
theorem p16t {z : Int} (h : z = 16) : [102] = pre16 z := by unfold pre16; rw [if_pos h]
theorem p16f {z : Int} (h : ¬ z = 16) : [] = pre16 z := by unfold pre16; rw [if_neg h]
theorem i64t {z : Int} (h : z = 64) : 8 = 8 * bit64 z := by unfold bit64; rw [if_pos h]; rfl
theorem i64f {z : Int} (h : ¬ z = 64) : 0 = 8 * bit64 z := by unfold bit64; rw [if_neg h]; rfl
theorem iAt {z : Int} (h : z = 8) : 176 = opA z := by unfold opA; rw [if_pos h]
theorem iAf {z : Int} (h : ¬ z = 8) : 184 = opA z := by unfold opA; rw [if_neg h]
theorem iBt {z : Int} (h : z = 8) : 198 = opB z := by unfold opB; rw [if_pos h]
theorem iBf {z : Int} (h : ¬ z = 8) : 199 = opB z := by unfold opB; rw [if_neg h]
theorem len16 (z : Int) : (pre16 z).length ≤ 1 := by unfold pre16; split <;> simp
theorem lenI (rk : Str) (n z : Int) : (preI rk n z).length ≤ 2 := by
  unfold preI; rw [List.length_append]; split <;> split <;> simp
theorem lenR (x : Int) (k : Nat) : (rowI x k).length = k := by unfold rowI; simp
theorem lenZ {z : Int} (h : Hid (Sz z)) : (z / 8).toNat ≤ 8 := by rcases h.out with rfl | rfl | rfl | rfl <;> decide
theorem zA1 {z y : Int} : (pre16 z).length + [y].length ≤ sizeLine := by have := len16 z; rw [PySem.sizeLine_eq]; simp only [List.length_cons, List.length_nil]; omega
theorem zA2 {rk : Str} {n z y : Int} : (preI rk n z).length + [y].length ≤ sizeLine := by have := lenI rk n z; rw [PySem.sizeLine_eq]; simp only [List.length_cons, List.length_nil]; omega
theorem zA3 {rk : Str} {n z y x : Int} (h : Hid (Sz z)) : (preI rk n z ++ [y]).length + (rowI x (z / 8).toNat).length ≤ sizeLine := by have := lenI rk n z; have := lenZ h; rw [PySem.sizeLine_eq, List.length_append, lenR]; simp only [List.length_cons, List.length_nil]; omega
theorem zA4 {rk : Str} {n z y u : Int} : (preI rk n z).length + [y, u].length ≤ sizeLine := by have := lenI rk n z; rw [PySem.sizeLine_eq]; simp only [List.length_cons, List.length_nil]; omega
theorem zA5 {rk : Str} {n z y u x : Int} (h : Hid (Sz z)) : (preI rk n z ++ [y, u]).length + ((rowI x (z / 8).toNat).take 4).length ≤ sizeLine := by have := lenI rk n z; have := lenZ h; rw [PySem.sizeLine_eq, List.length_append, List.length_take, lenR]; simp only [List.length_cons, List.length_nil]; omega
theorem zB1 {rk : Str} {n z y x : Int} {vs : List Value} (h : Hid (Sz z)) (I : IntsAre vs ((preI rk n z ++ [y]) ++ rowI x (z / 8).toNat)) : vs.length ≤ sizeLine := by have := lenI rk n z; have := lenZ h; rw [I.length, PySem.sizeLine_eq, List.length_append, List.length_append, lenR]; simp only [List.length_cons, List.length_nil]; omega
theorem zB2 {rk : Str} {n z y u x : Int} {vs : List Value} (h : Hid (Sz z)) (I : IntsAre vs ((preI rk n z ++ [y, u]) ++ (rowI x (z / 8).toNat).take 4)) : vs.length ≤ sizeLine := by have := lenI rk n z; have := lenZ h; rw [I.length, PySem.sizeLine_eq, List.length_append, List.length_append, List.length_take, lenR]; simp only [List.length_cons, List.length_nil]; omega
theorem ndz {rk : Str} {n z : Int} {hi : Bool} (hR : RegOk rk n z) (hH : hi = (rk == "high")) (hz : Sz z) : nd rk n z = decide (z = 64 ∨ 7 < n ∨ (z = 8 ∧ 3 < n ∧ hi = false)) := by
  rcases hz with rfl | rfl | rfl | rfl
  · rw [ndl8 hR hH]; simp
  · rw [ndlz (by decide) (by decide)]; simp
  · rw [ndlz (by decide) (by decide)]; simp
  · rw [nd64]; simp
theorem pos64 {n z : Int} : 0 < 8 * bit64 z + bit7 n ↔ (z = 64 ∨ 7 < n) := by
  unfold bit64 bit7; by_cases h : z = 64 <;> by_cases h7 : 7 < n <;> simp [h, h7]
section
variable {M : Model} {A : Around} {E : Value → Shared → Prop} {s : Shared} {h₀ : Heap} {L : Addr} {m : Str → Option Value} {news : List (Addr × Obj)} {ns : List Int}
/-- the ways meet in a list of whole numbers -/
structure MetL (h₀ : Heap) (L : Addr) (m : Str → Option Value) (news : List (Addr × Obj)) (s : Shared) (ns : List Int) (v : Value) (s' : Shared) : Prop where
  out : ∃ l vs k h tk, v = .ref l ∧ s' = { s with heap := h, toks := tk } ∧ Fr h₀ L h m ∧ News h₀ L h ((l, W.listOf (List.toArray vs) k) :: news) ∧ IntsAre vs ns
theorem metL {l : Addr} {vs : List Value} {k tk : Nat} {h : Heap} {v : Value} {s' : Shared} {all : List (Addr × Obj)} (e : v = .ref l) (e' : s' = { s with heap := h, toks := tk }) (F : Fr h₀ L h m) (N : News h₀ L h all) (S : ∀ p ∈ (l, W.listOf (List.toArray vs) k) :: news, p ∈ all) (I : IntsAre vs ns) : MetL h₀ L m news s ns v s' :=
  ⟨l, vs, k, h, tk, e, e', F, fun p hp => N p (S p hp), I⟩
theorem meetL {Q : Value → Shared → Prop} {c : Sem Value} (_F : Fr h₀ L s.heap m) (_N : News h₀ L s.heap news) (hc : wpAny M A c (MetL h₀ L m news s ns) E s)
    (hk : ∀ l vs k h tk, Fr h₀ L h m → News h₀ L h ((l, W.listOf (List.toArray vs) k) :: news) → IntsAre vs ns → Q (.ref l) { s with heap := h, toks := tk }) : wpAny M A c Q E s :=
  wpAny_mono hc (fun _ _ ⟨l, vs, k, h, tk, e, e', F, N, I⟩ => by subst e; subst e'; exact hk l vs k h tk F N I) fun _ _ h => h
/-- the ways of a statement meet: one name holds a list of whole numbers -/
structure MetF (h₀ : Heap) (L : Addr) (m : Str → Option Value) (x : Str) (news : List (Addr × Obj)) (s : Shared) (ns : List Int) (f : Flow) (s' : Shared) : Prop where
  out : ∃ l vs k h tk, f = .next ∧ s' = { s with heap := h, toks := tk } ∧ Fr h₀ L h (fun y => if y = x then some (.ref l) else m y) ∧ News h₀ L h ((l, W.listOf (List.toArray vs) k) :: news) ∧ IntsAre vs ns
theorem metF {x : Str} {l : Addr} {vs : List Value} {k tk : Nat} {h : Heap} {f : Flow} {s' : Shared} {all : List (Addr × Obj)} (e : f = .next) (e' : s' = { s with heap := h, toks := tk }) (F : Fr h₀ L h (fun y => if y = x then some (.ref l) else m y)) (N : News h₀ L h all) (S : ∀ p ∈ (l, W.listOf (List.toArray vs) k) :: news, p ∈ all) (I : IntsAre vs ns) : MetF h₀ L m x news s ns f s' :=
  ⟨l, vs, k, h, tk, e, e', F, fun p hp => N p (S p hp), I⟩
theorem meetF {x : Str} {Q : Flow → Shared → Prop} {c : Sem Flow} (_F : Fr h₀ L s.heap m) (_N : News h₀ L s.heap news) (hc : wpAny M A c (MetF h₀ L m x news s ns) E s)
    (hk : ∀ l vs k h tk, Fr h₀ L h (fun y => if y = x then some (.ref l) else m y) → News h₀ L h ((l, W.listOf (List.toArray vs) k) :: news) → IntsAre vs ns → Q .next { s with heap := h, toks := tk }) : wpAny M A c Q E s :=
  wpAny_mono hc (fun _ _ ⟨l, vs, k, h, tk, e, e', F, N, I⟩ => by subst e; subst e'; exact hk l vs k h tk F N I) fun _ _ h => h
theorem frSame {x : Str} {v : Value} {h : Heap} (F : Fr h₀ L h m) (e : m x = some v) : Fr h₀ L h (fun y => if y = x then some v else m y) := by
  have : m = fun y => if y = x then some v else m y := by
    funext y
    by_cases hy : y = x
    · rw [if_pos hy, hy, e]
    · rw [if_neg hy]
  exact this ▸ F
end
theorem pick4 {us : List Value} {ns : List Int} (I : IntsAre us ns) : IntsAre (kms_pick us.toArray.toList none (some 4)) (ns.take 4) := by
  have e : kms_pick us.toArray.toList none (some 4) = us.take 4 := by
    unfold kms_pick kms_lo kms_hi
    simp
  rw [e]; exact I.take 4
section
variable {prog : Program} {w : World} {A : Around} {E : Value → Shared → Prop} {s : Shared} {h₀ : Heap} {L : Addr} {m : Str → Option Value} {news : List (Addr × Obj)} {Q : Value → Shared → Prop}
theorem slice4 {value slice : Expr} {l : Addr} {us : List Value} {ns : List Int} {vl vu : Value} (F : Fr h₀ L s.heap m) (N : News h₀ L s.heap news) (hl : s.heap.IsList l us.toArray) (pl : IsPart vl none) (pu : IsPart vu (some 4)) (I : IntsAre us ns)
    (h : ∀ D zs h', Fr h₀ L h' m → News h₀ L h' ((D, W.listOf (List.toArray zs) 0) :: news) → IntsAre zs (ns.take 4) → Q (.ref D) { s with heap := h' })
    (hs : subscripted slice false (.ref l) (.ref s.heap.objs.size) = operate [.ref s.heap.objs.size, .ref l] (getItem (.ref l) (.ref s.heap.objs.size))) (ht : ∀ r, letTemporaryGo value (.ref l) r = pure ()) (hz : us.length ≤ sizeLine) :
    wpAny (model prog w) A (subscriptTail value slice (.ref l) (.ref s.heap.objs.size)) Q E { s with heap := s.heap.push { cls := .type "slice", data := .fields #[vl, vu, .none] } } :=
  kms_slice_lit F N hl pl pu rfl (fun D h' F' N' _ => h D _ h' F' N' (pick4 I)) hs ht (by simpa using hz)
/-- a comprehension without a test, by what holds of its turns -/
theorem restAll {env : Env} {elt : Expr} {x : Str} {scope : Scope} {cl : List (Str × Addr)} {S : List (Addr × Obj) → Prop} {P : Nat → Value → Prop} {Fin : List Value → List (Addr × Obj) → Prop} (J : Nat → List Value → Prop) {n : Nat}
    (step : ∀ i ys, i < n → J i ys → ∀ v I oI C oC D m₂ h tk (E' : Value → Shared → Prop), P i v → LCg.NsObj oC m₂ → m₂ x = some v → Fr h₀ L h m → News h₀ L h ((I, oI) :: (C, oC) :: (D, LCg.lst ys) :: news) → LCg.Off3 I C D news → ((@Ne Nat I C) ∧ (@Ne Nat I D) ∧ (@Ne Nat C D)) →
      wpAny (model prog w) A (eval elt (compEnvC scope cl C env)) (LCg.CompEnd h₀ L m { s with heap := h, toks := tk } I oI C oC D (LCg.lst ys) S (fun y news' => news' = news ∧ J (i + 1) (ys ++ [y]))) E' { s with heap := h, toks := tk })
    (fin : ∀ ys, J n ys → Fin ys news) (k i : Nat) (ys : List Value) (e : i + k = n) (hJ : J i ys) : LCg.CompRest prog w A h₀ L m env elt x scope cl s S P Fin k i ys news := by
  induction k generalizing i ys with
  | zero => exact LCg.CompRest.zero (fin ys (by rw [← e, Nat.add_zero]; exact hJ))
  | succ k ih =>
    refine LCg.CompRest.succ fun v I oI C oC D m₂ h tk E' a b c d f g j =>
      wpAny_mono (step i ys (by omega) hJ v I oI C oC D m₂ h tk E' a b c d f g j) (fun y s₂ hc => ?_) fun _ _ h => h
    obtain ⟨h', tk', news', e1, F', N', off, hS, e2, hJ'⟩ := hc
    subst e2
    exact ⟨h', tk', _, e1, F', N', off, hS, ih (i + 1) _ (by omega) hJ'⟩
end
theorem i8 {z : Int} {i : Nat} (h : Hid (Sz z)) (hi : i < (z / 8).toNat) : i < 8 := Nat.lt_of_lt_of_le hi (lenZ h)
theorem pow256 (i : Nat) : (256 : Int) ^ (0 + (i : Int)).toNat ≠ 0 := by
  have : (0 : Int) < 256 ^ (0 + (i : Int)).toNat := Int.pow_pos (by decide)
  omega
theorem npl {x : Int} {i : Nat} (h : i < 8) : Builtin.divisionGoesByPylong x (256 ^ (0 + (i : Int)).toNat) = false := by
  match i, h with
  | 0, _ | 1, _ | 2, _ | 3, _ | 4, _ | 5, _ | 6, _ | 7, _ => exact PyProof.noPylong_of_log2 (by decide +kernel)
  | i + 8, h => omega
theorem rowJ {x : Int} {i : Nat} {ys : List Value} {t : Tok} (J : IntsAre ys (rowI x i)) : IntsAre (ys ++ [.int ((x.fdiv (256 ^ (0 + (i : Int)).toNat)).fmod 256) t]) (rowI x (i + 1)) := by
  rw [rowI_succ, row_at]; exact J.append (.cons _ _ .nil)
theorem rangeB {z : Int} (h : Hid (Sz z)) : Builtin.Range.small 0 (z.fdiv 8) 1 = true := by rcases h.out with rfl | rfl | rfl | rfl <;> decide
theorem rangeC {z : Int} (h : Hid (Sz z)) : Builtin.Range.rangeSize 0 (z.fdiv 8) 1 = (((z / 8).toNat : Nat) : Int) := by rcases h.out with rfl | rfl | rfl | rfl <;> decide
theorem rangeD {z : Int} (h : Hid (Sz z)) : (z / 8).toNat ≤ sizeLine := Nat.le_trans (lenZ h) (by rw [PySem.sizeLine_eq]; decide)
theorem zR {z x : Int} {vs : List Value} (h : Hid (Sz z)) (I : IntsAre vs (rowI x (z / 8).toNat)) : vs.length ≤ sizeLine := by have := lenZ h; rw [I.length, PySem.sizeLine_eq, lenR]; omega
theorem row131 : True := by
  k_with "eval IfExp" => (guard_hyp scLaid : True; (with_reducible show wpAny _ _ (eval (Expr.IfExp (Expr.Compare (Expr.Name (Str.ofString "number") _) _ _ _) _ _ _) _) _ _ _); k_here; k_dflt (refine' meet (mk := fun t => Value.int (bit7 n) t) ?mF ?mN ?mC ?_; (case mF => k_asm); (case mN => k_asm)); (case mC => clear scLaid; k_dflt ((try k_fold); k_steps; all_goals (refine' met2 ?me rfl (by assumption) ?mS; (case mS => (first | assumption | (refine' cb_drop ?cbN ?cbS; (case cbN => assumption); (case cbS => kcj_all)))); (case me => (refine vI ?_; law_clear; first | exact b7t (by assumption) | exact b7f (by assumption) | fail "meet ifx"))))); intro t9 h9 tk9 F9 N9; (try dsimp only); (try k_fold); (try k_sweep); walk_say "MET")
  trivial
theorem row132 : True := by
  k_with "eval IfExp" => (guard_hyp scLaid : True; (with_reducible show wpAny _ _ (eval (Expr.IfExp (Expr.Compare (Expr.Name (Str.ofString "size") _) _ _ _) (Expr.Constant (Const.int 8) _ _) _ _) _) _ _ _); k_here; k_dflt (refine' meet (mk := fun t => Value.int (8 * bit64 z) t) ?mF ?mN ?mC ?_; (case mF => k_asm); (case mN => k_asm)); (case mC => clear scLaid; k_dflt ((try k_fold); k_steps; all_goals (refine' met2 ?me rfl (by assumption) ?mS; (case mS => (first | assumption | (refine' cb_drop ?cbN ?cbS; (case cbN => assumption); (case cbS => kcj_all)))); (case me => (refine vI ?_; law_clear; first | exact i64t (by assumption) | exact i64f (by assumption) | fail "meet ifx"))))); intro t9 h9 tk9 F9 N9; (try dsimp only); (try k_fold); (try k_sweep); walk_say "MET")
  trivial
theorem row133 : True := by
  k_with "eval IfExp" => (guard_hyp scLaid : True; (with_reducible show wpAny _ _ (eval (Expr.IfExp (Expr.Compare (Expr.Name (Str.ofString "size") _) _ _ _) (Expr.Constant (Const.int 176) _ _) _ _) _) _ _ _); k_here; k_dflt (refine' meet (mk := fun t => Value.int (opA z) t) ?mF ?mN ?mC ?_; (case mF => k_asm); (case mN => k_asm)); (case mC => clear scLaid; k_dflt ((try k_fold); k_steps; all_goals (refine' met2 ?me rfl (by assumption) ?mS; (case mS => (first | assumption | (refine' cb_drop ?cbN ?cbS; (case cbN => assumption); (case cbS => kcj_all)))); (case me => (refine vI ?_; law_clear; first | exact iAt (by assumption) | exact iAf (by assumption) | fail "meet ifx"))))); intro t9 h9 tk9 F9 N9; (try dsimp only); (try k_fold); (try k_sweep); walk_say "MET")
  trivial
theorem row134 : True := by
  k_with "eval IfExp" => (guard_hyp scLaid : True; (with_reducible show wpAny _ _ (eval (Expr.IfExp (Expr.Compare (Expr.Name (Str.ofString "size") _) _ _ _) (Expr.Constant (Const.int 198) _ _) _ _) _) _ _ _); k_here; k_dflt (refine' meet (mk := fun t => Value.int (opB z) t) ?mF ?mN ?mC ?_; (case mF => k_asm); (case mN => k_asm)); (case mC => clear scLaid; k_dflt ((try k_fold); k_steps; all_goals (refine' met2 ?me rfl (by assumption) ?mS; (case mS => (first | assumption | (refine' cb_drop ?cbN ?cbS; (case cbN => assumption); (case cbS => kcj_all)))); (case me => (refine vI ?_; law_clear; first | exact iBt (by assumption) | exact iBf (by assumption) | fail "meet ifx"))))); intro t9 h9 tk9 F9 N9; (try dsimp only); (try k_fold); (try k_sweep); walk_say "MET")
  trivial
theorem row135 : True := by
  k_with "eval IfExp" => (guard_hyp scLaid : True; (with_reducible show wpAny _ _ (eval (Expr.IfExp (Expr.Compare _ _ _ _) (Expr.List _ _) (Expr.List _ _) _) _) _ _ _); k_here; k_dflt (refine' meetL (ns := pre16 z) ?mF ?mN ?mC ?_; (case mF => k_asm); (case mN => k_asm)); (case mC => clear scLaid; k_dflt ((try k_fold); k_steps; all_goals (refine' metL rfl rfl ?mG ?mM ?mS ?mI; (case mG => assumption); (case mM => assumption); (case mS => (refine List.forall_mem_cons.mpr ⟨by k_mem, ?_⟩; (repeat' (first | exact subNil | exact subP_refl | refine subP_head ?_ | refine subP_skip ?_)); done)); (case mI => first | (rw [← p16t (by assumption)]; exact IntsAre.cons _ _ .nil) | (rw [← p16f (by assumption)]; exact IntsAre.nil))))); intro l9 vs9 k9 h9 tk9 F9 N9 I9; (try dsimp only); (try k_fold); (try k_sweep); walk_say "MET LIST")
  trivial
theorem row136 : True := by
  k_with "exec If" => (guard_hyp scIf : True; (with_reducible show wpAny _ _ (exec (Stmt.If (Expr.BoolOp _ (Expr.Compare (Expr.Name (Str.ofString "rex") _) _ _ _ :: _) _) _ _ _) _) _ _ _); k_here; k_dflt (refine' meetF (x := Str.ofString "ahead") (ns := preI rk n z) ?mF ?mN ?mC ?_; (case mF => k_asm); (case mN => k_asm)); (case mC => clear scIf; k_dflt ((try k_fold); k_steps; all_goals (refine' metF rfl rfl ?mG ?mM ?mS ?mI; (case mG => first | assumption | exact frSame (by assumption) rfl); (case mM => assumption); (case mS => (refine List.forall_mem_cons.mpr ⟨by k_mem, ?_⟩; (repeat' (first | exact subNil | exact subP_refl | refine subP_head ?_ | refine subP_skip ?_)); done)); (case mI => first | (rw [← preI_t (by assumption)]; assumption) | (rw [← preI_f (by assumption)]; assumption))))); intro l9 vs9 k9 h9 tk9 F9 N9 I9; (try dsimp only); (try k_fold); (try k_sweep); walk_say "MET IF")
  trivial
theorem row137 : True := by
  k_with "isTrue BoolOp" => (guard_hyp scLaid : True; (with_reducible show wpAny _ _ (isTrue (Expr.BoolOp _ (Expr.Compare (Expr.Name (Str.ofString "rex") _) _ _ _ :: _) _) _ _) _ _ _); k_here; k_dflt (refine' meet (mk := fun _ => nd rk n z) ?mF ?mN ?mC ?_; (case mF => k_asm); (case mN => k_asm)); (case mC => clear scLaid; k_dflt ((try k_fold); k_steps; all_goals (refine' met2 (t := 0) ?me rfl (by assumption) ?mS; (case mS => (first | assumption | (refine' cb_drop ?cbN ?cbS; (case cbN => assumption); (case cbS => kcj_all)))); (case me => (have hN9 := hN.out; law_clear; first | (rw [hN9]; simp only [pos64] at *; simp_all; done) | (rw [hN9]; simp only [pos64] at *; simp_all; omega) | fail "meet ndl"))))); intro t9 h9 tk9 F9 N9; (try dsimp only); (try k_fold); (try k_sweep); walk_say "MET")
  trivial
theorem row138 : True := by
  k_with "ite" => (guard_hyp scLaid : True; k_here; k_openite; first | (refine ite_pos (by with_reducible assumption) ?_) | (refine ite_neg (by with_reducible assumption) ?_) | (refine ite_isFalse (by with_reducible assumption) ?_) | (refine split_dec ?_ ?_ <;> intro _) | (refine split_bool ?_ ?_ <;> intro _))
  trivial
theorem row139 : True := by
  k_with "binaryOp Pow int int" => (guard_hyp scLaid : True; k_here; (with_reducible refine pow_int_small ?kb1 ?kb2 ?kb3 ?_); (case kb1 => omega); (case kb2 => omega); (case kb3 => decide))
  trivial
theorem row140 : True := by
  k_with "binaryOp Pow int int" => (k_here; first | with_reducible refine pow2_64 (by with_reducible assumption) ?_ | with_reducible refine pow2_31 (by with_reducible assumption) ?_)
  trivial
theorem row141 : True := by
  k_with "binaryOp Mod int int" => (guard_hyp scLaid : True; k_here; with_reducible refine modH (by with_reducible assumption) (by with_reducible assumption) ?_)
  trivial
theorem row142 : True := by
  k_with "binaryOp FloorDiv int int" => (guard_hyp scLaid : True; k_here; with_reducible refine floordiv_int (pow256 _) ?_ (.inl (npl (by assumption))))
  trivial
theorem row143 : True := by
  k_with "binaryOp Add ref ref" => (guard_hyp scLaid : True; k_here; (with_reducible show wpAny _ _ (binaryOp _ (Value.ref _) (Value.ref _)) _ _ _); k_dflt (refine' kmk_add_ints ?F ?N ?a ?b ?i ?j ?_ ?z; (case F => k_asm); (case N => k_asm); (case a => exact News.isList (by k_asm) (by k_mem)); (case b => exact News.isList (by k_asm) (by k_mem)); (case i => first | with_reducible assumption | l_ints); (case j => first | with_reducible assumption | l_ints); (case z => first | with_reducible exact zA1 | with_reducible exact zA2 | with_reducible exact zA3 hz | with_reducible exact zA4 | with_reducible exact zA5 hz)); intro D9 us9 h9 F9 N9 l9 I9; clear l9; (try k_sweep))
  trivial
theorem row144 : True := by
  k_with "call type:bytes" => (guard_hyp scLaid : True; k_here; (with_reducible show wpAny _ _ (call (Value.type _) [Value.ref _]) _ _ _); k_dflt (refine' bytes_K ?F ?N ?l ?i ?r ?z ?h ?_; (case F => k_asm); (case N => k_asm); (case l => exact News.isList (by k_asm) (by k_mem)); (case i => with_reducible assumption); (case r => first | with_reducible exact inA h0 | with_reducible exact inB); (case z => first | with_reducible exact zB1 hz (by assumption) | with_reducible exact zB2 hz (by assumption)); (case h => with_unfolding_all rfl)); intro h9 t9 k9 F9 N9 hB9; clear hB9; (try k_sweep))
  trivial
theorem row145 : True := by
  k_with "subscriptTail Name Slice ref ref" => (guard_hyp scLaid : True; k_here; (with_reducible show wpAny _ _ (subscriptTail _ (PySem.Expr.Slice _ _ none _) (Value.ref _) (Value.ref _)) _ _ _); k_dflt (refine' slice4 ?slF ?slN ?sll ?slp ?slq ?sli ?_ ?sls ?slt ?slz; (case slF => k_asm); (case slN => k_asm); (case sll => exact News.isList (by k_asm) (by k_mem)); (case slp => kmk_part); (case slq => kmk_part); (case sli => with_reducible assumption); (case sls => with_unfolding_all rfl); (case slt => kmk_pure); (case slz => exact zR hz (by with_reducible assumption))); intro D9 zs9 h9 F9 N9 I9; (try k_sweep))
  trivial
theorem row146 : True := by
  k_with "exec Assign cons ListComp" => (guard_hyp scLaid : True; k_here; lcf_look; lcg_calm; k_dflt (refine LCg.Assign_ListComp_U (F₀ := by k_asm) (by rfl) (by with_unfolding_all rfl) (by with_unfolding_all rfl) (by decide) (by rfl) (by decide) (by rfl) (by rfl) (by rfl) ?_); k_dflt lcg_toSrc)
  trivial
theorem row147 : True := by
  k_with "CompSrc" => (guard_hyp scLaid : True; k_here; k_dflt (refine LCg.CompSrc.range (n := (z / 8).toNat) (by rfl) (by k_asm) (by k_asm) (by assumption) (rangeB hz) (rangeC hz) (rangeD hz) ?_); intro g9; k_dflt (refine' restAll (fun i ys => IntsAre ys (rowI x i)) ?st ?fin _ 0 [] (Nat.zero_add _) IntsAre.nil; (case' st => intro i9 ys9 hi9 J9 v9 I9 oI9 C9 oC9 D9 m9 h9 tk9 E9 hv9 hC9 hx9 F9 N9 off9 ne9; have h89 := i8 hz hi9; clear hi9; obtain ⟨t9, rfl⟩ := hv9); (case' fin => intro ys9 J9)))
  trivial
theorem row148 : True := by
  k_with "CompEnd" => (guard_hyp scLaid : True; k_dflt (refine LCg.CompEnd.intro (by assumption) (by assumption) _ subP_refl (by assumption) True.intro ⟨rfl, rowJ (by assumption)⟩))
  trivial
section
local macro_rules | `(tactic| k_enter) => `(tactic| k_extra "Mine k_enter")
theorem row149 : True := by
  k_with "Mine k_enter" => ((k_inElt; (refine' code_defCG ?k1 ?k2 ?k3 ?k4 ?k5 ?kA ?kF ?kK ?k6 ?k7 ?k8 ?k9 ?kB ?kD ?_ ?c2 ?c3 ?c4; (case kA => exact rfl); (case kF => exact rfl); (case kK => exact rfl); (case k1 => k_asm); (case k2 => k_asm); (case k3 => k_asm); (case k4 => k_asm); (case k5 => k_asm); (case k6 => k_is); (case k7 => k_is); (case k8 => k_room); (case k9 => first | exact BindsTo.of_eq rfl | exact binds_K (by k_in) rfl (by k_is) rfl rfl rfl); (case kB => exact rfl); (case kD => decide +kernel); (case c2 => exact rfl); (case c3 => exact rfl); (case c4 => exact rfl); k_whole; intro g' L' h' tk' cells' FG' F' N' Y' B' X' T' l1 kG'; (try k_lt l1); k_cells Y'; (try simp only [List.cons_append, List.nil_append] at N'); (try dsimp only); (try k_lift B'); (try k_fold))))
  trivial
set_option maxRecDepth 100000 in
set_option maxHeartbeats 0 in
theorem laid_c
  {w : World} {p : Program} {loose : List Str} {mean : ExcName → Option Value} {mg mb : Str → Option Value}
  {dp un : Nat} {gd : Option (List Code)} {cn : Str} {nms : List (Str × NameKind)} {isg isc : Bool} {scm : List (Str × Const)} {a : Addr} {ccd : Value} {cl : List (Str × Addr)} {outer : List Env} {A₀ : Around} {base h₀ : Heap} {L : Addr} {m : Str → Option Value} {s : Shared} {Q E : Value → Shared → Prop}
  {rk : Str} {n z x : Int} {hi : Bool} {t1 t2 t3 : Tok} (B : Below A₀ base outer h₀) (F : Fr h₀ L s.heap m) (X : (kk.heap_1 w.params).In h₀) (N : News h₀ L s.heap []) (T : Top p loose mean mg mb h₀)
    (hd : dp + 28 < 1000) (hu : un + 160 < 9900) (hz : Hid (Sz z)) (hR : RegOk rk n z) (hH : hi = (rk == "high"))
    (ret : ∀ (ll : Addr) (u1 u2 : Tok) (c : Nat) (A B : Array UInt8) (hA : A = encA rk (opA z) n z z x) (hB : B = encB rk (opB z) n z (if z = 64 then 32 else z) x) (arr : Array Value) (hL : (z < 64 ∧ arr = #[.bytes A u1, .bytes B u2]) ∨ (z = 64 ∧ Short x ∧ arr = #[.bytes B u2, .bytes A u1]) ∨ (z = 64 ∧ ¬ Short x ∧ arr = #[.bytes A u1]))  (h' : Heap) (tk' : Nat), let mo0 : Obj := W.listOf arr c; Fr h₀ L h' m → InElt s.heap h' → News h₀ L h' [(ll, mo0)] → Q (.ref ll) { s with heap := h', toks := tk' }) :
    wpAny (model Challenge.rw_nz0171_01.row.prog w) (ktrTop dp un gd cn ⟨.function, nms, isg, isc, scm⟩ L a ccd cl outer) (call (.ref 982) [.int n t1, .int z t2, .int x t3, .bool hi]) Q E s := by
  have scLaid : True := trivial
  have scIf : True := trivial
  have h0 : 0 ≤ n := by rcases hR.fit with h | h <;> omega
  have h1 : n ≤ 15 := by rcases hR.fit with h | h <;> omega
  have hN : Hid (nd rk n z = decide (z = 64 ∨ 7 < n ∨ (z = 8 ∧ 3 < n ∧ hi = false))) := ⟨ndz hR hH hz.out⟩
  obtain ⟨c31, e31⟩ : ∃ c, Hid (c = (2147483648 : Int)) := ⟨_, ⟨rfl⟩⟩
  obtain ⟨c64, e64⟩ : ∃ c, Hid (c = (18446744073709551616 : Int)) := ⟨_, ⟨rfl⟩⟩
  obtain ⟨y, hy⟩ : ∃ y, Hid (y = x % 18446744073709551616) := ⟨_, ⟨rfl⟩⟩
  have h64 : Hid (∀ h : ¬ z < 64, z = 64) := ⟨fun h => by rcases hz.out with e | e | e | e <;> omega⟩
  clear hR hH
  w_on; revert X; k_fill; intro X; have cE0 := InElt.start s.heap; k_steps
  all_goals first
    | (refine' ret _ _ _ _ _ _ ?eA ?eB _ (.inl ⟨?eS, rfl⟩) _ _ ?cF ?cE ?cN; (case eS => assumption); (case cF => assumption); (case cE => (first | assumption | (refine' elt_afterC ?e1 ?e2 ?e3 ?e4 ?e5 ?e6; (case e2 => assumption); (case e1 => assumption); (case e3 => assumption); (case e4 => assumption); (case e5 => assumption); (case e6 => repeat (first | exact List.forall_mem_nil _ | refine List.forall_mem_cons.mpr ⟨(by first | exact Or.inr (by with_reducible assumption) | exact Or.inl (by k_mem)), ?_⟩))))); (case cN => (first | assumption | (refine' cb_drop ?cbN ?cbS; (case cbN => assumption); (case cbS => kcj_all)))); (case eA => exact laidA hz.out h0 h1); (case eB => exact laidB hz.out))
    | (refine' ret _ _ _ _ _ _ ?eA ?eB _ (.inr (.inl ⟨?eZ, ?eS, rfl⟩)) _ _ ?cF ?cE ?cN; (case eZ => exact h64.out (by assumption)); (case eS => first | exact shortT e31 e64 hy (.inl (by assumption)) | exact shortT e31 e64 hy (.inr (by assumption))); (case cF => assumption); (case cE => (first | assumption | (refine' elt_afterC ?e1 ?e2 ?e3 ?e4 ?e5 ?e6; (case e2 => assumption); (case e1 => assumption); (case e3 => assumption); (case e4 => assumption); (case e5 => assumption); (case e6 => repeat (first | exact List.forall_mem_nil _ | refine List.forall_mem_cons.mpr ⟨(by first | exact Or.inr (by with_reducible assumption) | exact Or.inl (by k_mem)), ?_⟩))))); (case cN => (first | assumption | (refine' cb_drop ?cbN ?cbS; (case cbN => assumption); (case cbS => kcj_all)))); (case eA => exact laidA hz.out h0 h1); (case eB => exact laidB hz.out))
    | (refine' ret _ _ 0 _ _ _ ?eA rfl _ (.inr (.inr ⟨?eZ, ?eS, rfl⟩)) _ _ ?cF ?cE ?cN; (case eZ => exact h64.out (by assumption)); (case eS => exact shortF e31 e64 hy (by assumption) (by assumption)); (case cF => assumption); (case cE => (first | assumption | (refine' elt_afterC ?e1 ?e2 ?e3 ?e4 ?e5 ?e6; (case e2 => assumption); (case e1 => assumption); (case e3 => assumption); (case e4 => assumption); (case e5 => assumption); (case e6 => repeat (first | exact List.forall_mem_nil _ | refine List.forall_mem_cons.mpr ⟨(by first | exact Or.inr (by with_reducible assumption) | exact Or.inl (by k_mem)), ?_⟩))))); (case cN => (first | assumption | (refine' cb_drop ?cbN ?cbS; (case cbN => assumption); (case cbS => kcj_all)))); (case eA => exact laidA hz.out h0 h1))

theorem row150 : True := by
  k_with "call ref" => ((with_reducible show wpAny _ _ (call (Value.ref 982) _) _ _ _); k_dflt (refine' laid_c ?k1 ?k2 ?k3 (cb_drop ?k4 ?k9) ?k5 ?k7 ?k8 ?h0 ?h1 ?h2 ?_; (case k1 => k_asm); (case k2 => k_asm); (case k3 => k_asm); (case k4 => k_asm); (case k5 => k_asm); (case k9 => repeat (first | exact subNil | refine subCons (by k_mem) ?_)); (case k7 => (first | exact roomA hd rfl | exact roomB hd rfl | ((try simp only [depth_mark, depth_under_make, depth_under_kw, depth_in1, depth_deeper, depth_caller]); (try dsimp only [ktrTop]); omega))); (case k8 => (first | exact unitA hu rfl | ((try simp only [units_under_make, units_in1, units_deeper, Around.mark_units, units_caller]); (try dsimp only [ktrTop]); omega))); (case h0 => first | assumption | exact ⟨by unfold Sz; decide⟩); (case h1 => assumption); (case h2 => first | assumption | rfl); k_whole); intro ll9 u19 u29 c9 A9 B9 hA9 hB9 arr9 hL9  h9 tk9 mo09 F9 E9 N9; (k_dflt (replace N9 := newsApp N9 E9 (by k_asm))); clear E9; (try dsimp only [List.nil_append, List.cons_append, List.append_nil] at N9); (try simp only [List.append_nil] at N9); (try dsimp only); (try k_fold); (try k_sweep); walk_say "CONTRACT laid_c")
  trivial
end
theorem row151 : True := by
  k_with "call ref" => (k_here; k_inElt; (with_reducible show wpAny _ _ (call (Value.ref 377) _) _ _ _); k_dflt (refine' call_clsE ?k1 ?k2 ?k3 ?k4 ?k5 ?k6 ?_; (case k1 => k_asm); (case k2 => k_asm); (case k3 => k_asm); (case k4 => k_is); (case k5 => k_is); (case k6 => k_is); k_whole; intro x' d' h' F' N' l1 l2 cE1 cX1 cX2; (try k_lt l1); (try k_lt2 l2); k_enter))
  trivial
set_option maxRecDepth 100000 in
set_option maxHeartbeats 0 in
theorem reg_c
  {w : World} {p : Program} {loose : List Str} {mean : ExcName → Option Value} {mg mb : Str → Option Value}
  {dp un : Nat} {gd : Option (List Code)} {cn : Str} {nms : List (Str × NameKind)} {isg isc : Bool} {scm : List (Str × Const)} {a : Addr} {ccd : Value} {cl : List (Str × Addr)} {outer : List Env} {A₀ : Around} {base h₀ : Heap} {L : Addr} {m : Str → Option Value} {s : Shared} {Q E : Value → Shared → Prop}
  {r : Addr} (B : Below A₀ base outer h₀) (F : Fr h₀ L s.heap m) (X : (kk.heap_1 w.params).In h₀) (N : News h₀ L s.heap []) (T : Top p loose mean mg mb h₀)
    (hd : dp + 32 < 1000) (hu : un + 190 < 9900) 
    (ret : ∀ (o od : Addr) (c1 c2 c3 : Tok)  (h' : Heap) (tk' : Nat), let mo0 : Obj := instObj 377 od; let mo1 : Obj := regO w c1 c2 c3 r; Fr h₀ L h' m → InElt s.heap h' → News h₀ L h' [(o, mo0), (od, mo1)] → Q (.ref o) { s with heap := h', toks := tk' }) :
    wpAny (model Challenge.rw_nz0171_01.row.prog w) (ktrTop dp un gd cn ⟨.function, nms, isg, isc, scm⟩ L a ccd cl outer) (call (.ref 377) [.ref r]) Q E s := by
  w_on; revert X; k_fill; intro X; have cE0 := InElt.start s.heap; k_steps
  all_goals (refine' ret _ _ _ _ _ _ _ ?cF ?cE ?cN; (case cF => assumption); (case cE => (refine' elt_afterC ?e1 ?e2 ?e3 ?e4 ?e5 ?e6; (case e2 => assumption); (case e1 => assumption); (case e3 => assumption); (case e4 => assumption); (case e5 => assumption); (case e6 => repeat (first | exact List.forall_mem_nil _ | refine List.forall_mem_cons.mpr ⟨(by first | exact Or.inr (by with_reducible assumption) | exact Or.inl (by k_mem)), ?_⟩)))); (case cN => (first | assumption | (refine' cb_drop ?cbN ?cbS; (case cbN => assumption); (case cbS => kcj_all)))))

theorem row152 : True := by
  k_with "call ref" => ((with_reducible show wpAny _ _ (call (Value.ref 377) _) _ _ _); k_dflt (refine' reg_c ?k1 ?k2 ?k3 (cb_drop ?k4 ?k9) ?k5 ?k7 ?k8  ?_; (case k1 => k_asm); (case k2 => k_asm); (case k3 => k_asm); (case k4 => k_asm); (case k5 => k_asm); (case k9 => repeat (first | exact subNil | refine subCons (by k_mem) ?_)); (case k7 => (first | exact roomA hd rfl | exact roomB hd rfl | ((try simp only [depth_mark, depth_under_make, depth_under_kw, depth_in1, depth_deeper, depth_caller]); (try dsimp only [ktrTop]); omega))); (case k8 => (first | exact unitA hu rfl | ((try simp only [units_under_make, units_in1, units_deeper, Around.mark_units, units_caller]); (try dsimp only [ktrTop]); omega))); k_whole); intro o9 od9 c19 c29 c39  h9 tk9 mo09 mo19 F9 E9 N9; (k_dflt (replace N9 := newsApp N9 E9 (by k_asm))); clear E9; (try dsimp only [List.nil_append, List.cons_append, List.append_nil] at N9); (try simp only [List.append_nil] at N9); (try dsimp only); (try k_fold); (try k_sweep); walk_say "CONTRACT reg_c")
  trivial
theorem row153 : True := by
  k_with "call ref" => (k_here; k_inElt; (with_reducible show wpAny _ _ (call (Value.ref 411) _) _ _ _); k_dflt (refine' call_clsE ?k1 ?k2 ?k3 ?k4 ?k5 ?k6 ?_; (case k1 => k_asm); (case k2 => k_asm); (case k3 => k_asm); (case k4 => k_is); (case k5 => k_is); (case k6 => k_is); k_whole; intro x' d' h' F' N' l1 l2 cE1 cX1 cX2; (try k_lt l1); (try k_lt2 l2); k_enter))
  trivial
set_option maxRecDepth 100000 in
set_option maxHeartbeats 0 in
theorem imm_c
  {w : World} {p : Program} {loose : List Str} {mean : ExcName → Option Value} {mg mb : Str → Option Value}
  {dp un : Nat} {gd : Option (List Code)} {cn : Str} {nms : List (Str × NameKind)} {isg isc : Bool} {scm : List (Str × Const)} {a : Addr} {ccd : Value} {cl : List (Str × Addr)} {outer : List Env} {A₀ : Around} {base h₀ : Heap} {L : Addr} {m : Str → Option Value} {s : Shared} {Q E : Value → Shared → Prop}
  {x : Int} {c4 : Tok} (B : Below A₀ base outer h₀) (F : Fr h₀ L s.heap m) (X : (kk.heap_1 w.params).In h₀) (N : News h₀ L s.heap []) (T : Top p loose mean mg mb h₀)
    (hd : dp + 32 < 1000) (hu : un + 190 < 9900) 
    (ret : ∀ (o od : Addr) (c1 c2 c3 c5 c6 : Tok)  (h' : Heap) (tk' : Nat), let mo0 : Obj := instObj 411 od; let mo1 : Obj := immO w c1 c2 c3 c4 c5 c6 x; Fr h₀ L h' m → InElt s.heap h' → News h₀ L h' [(o, mo0), (od, mo1)] → Q (.ref o) { s with heap := h', toks := tk' }) :
    wpAny (model Challenge.rw_nz0171_01.row.prog w) (ktrTop dp un gd cn ⟨.function, nms, isg, isc, scm⟩ L a ccd cl outer) (call (.ref 411) [.int x c4]) Q E s := by
  w_on; revert X; k_fill; intro X; have cE0 := InElt.start s.heap; k_steps
  all_goals (refine' ret _ _ _ _ _ _ _ _ _ ?cF ?cE ?cN; (case cF => assumption); (case cE => (refine' elt_afterC ?e1 ?e2 ?e3 ?e4 ?e5 ?e6; (case e2 => assumption); (case e1 => assumption); (case e3 => assumption); (case e4 => assumption); (case e5 => assumption); (case e6 => repeat (first | exact List.forall_mem_nil _ | refine List.forall_mem_cons.mpr ⟨(by first | exact Or.inr (by with_reducible assumption) | exact Or.inl (by k_mem)), ?_⟩)))); (case cN => (first | assumption | (refine' cb_drop ?cbN ?cbS; (case cbN => assumption); (case cbS => kcj_all)))))

theorem row154 : True := by
  k_with "call ref" => ((with_reducible show wpAny _ _ (call (Value.ref 411) _) _ _ _); k_dflt (refine' imm_c ?k1 ?k2 ?k3 (cb_drop ?k4 ?k9) ?k5 ?k7 ?k8  ?_; (case k1 => k_asm); (case k2 => k_asm); (case k3 => k_asm); (case k4 => k_asm); (case k5 => k_asm); (case k9 => repeat (first | exact subNil | refine subCons (by k_mem) ?_)); (case k7 => (first | exact roomA hd rfl | exact roomB hd rfl | ((try simp only [depth_mark, depth_under_make, depth_under_kw, depth_in1, depth_deeper, depth_caller]); (try dsimp only [ktrTop]); omega))); (case k8 => (first | exact unitA hu rfl | ((try simp only [units_under_make, units_in1, units_deeper, Around.mark_units, units_caller]); (try dsimp only [ktrTop]); omega))); k_whole); intro o9 od9 c19 c29 c39 c59 c69  h9 tk9 mo09 mo19 F9 E9 N9; (k_dflt (replace N9 := newsApp N9 E9 (by k_asm))); clear E9; (try dsimp only [List.nil_append, List.cons_append, List.append_nil] at N9); (try simp only [List.append_nil] at N9); (try dsimp only); (try k_fold); (try k_sweep); walk_say "CONTRACT imm_c")
  trivial
theorem row155 : True := by
  k_with "call ref" => (k_here; k_inElt; (with_reducible show wpAny _ _ (call (Value.ref 464) _) _ _ _); k_dflt (refine' call_clsE ?k1 ?k2 ?k3 ?k4 ?k5 ?k6 ?_; (case k1 => k_asm); (case k2 => k_asm); (case k3 => k_asm); (case k4 => k_is); (case k5 => k_is); (case k6 => k_is); k_whole; intro x' d' h' F' N' l1 l2 cE1 cX1 cX2; (try k_lt l1); (try k_lt2 l2); k_enter))
  trivial
set_option maxRecDepth 100000 in
set_option maxHeartbeats 0 in
theorem instr_c
  {w : World} {p : Program} {loose : List Str} {mean : ExcName → Option Value} {mg mb : Str → Option Value}
  {dp un : Nat} {gd : Option (List Code)} {cn : Str} {nms : List (Str × NameKind)} {isg isc : Bool} {scm : List (Str × Const)} {a : Addr} {ccd : Value} {cl : List (Str × Addr)} {outer : List Env} {A₀ : Around} {base h₀ : Heap} {L : Addr} {m : Str → Option Value} {s : Shared} {Q E : Value → Shared → Prop}
  {i2 i5 : Tok} {l o1 o2 : Addr} {c : Nat} (B : Below A₀ base outer h₀) (F : Fr h₀ L s.heap m) (X : (kk.heap_1 w.params).In h₀) (N : News h₀ L s.heap [(l, W.listOf #[.ref o1, .ref o2] c)]) (T : Top p loose mean mg mb h₀)
    (hd : dp + 32 < 1000) (hu : un + 190 < 9900) 
    (ret : ∀ (i id ot : Addr) (i1 i3 i4 : Tok)  (h' : Heap) (tk' : Nat), let mo0 : Obj := instObj 464 id; let mo1 : Obj := insD w i1 i2 i3 i4 i5 ot; let mo2 : Obj := tupO [.ref o1, .ref o2]; Fr h₀ L h' m → InElt s.heap h' → News h₀ L h' [(i, mo0), (id, mo1), (ot, mo2)] → Q (.ref i) { s with heap := h', toks := tk' }) :
    wpAny (model Challenge.rw_nz0171_01.row.prog w) (ktrTop dp un gd cn ⟨.function, nms, isg, isc, scm⟩ L a ccd cl outer) (call (.ref 464) [.str "mov" i2, .ref l, .str "" i5]) Q E s := by
  let no0 : Obj := W.listOf #[.ref o1, .ref o2] c
  replace N : News h₀ L s.heap [(l, no0)] := N
  w_on; revert X; k_fill; intro X; have cE0 := InElt.start s.heap; k_steps
  all_goals (refine' ret _ _ _ _ _ _ _ _ ?cF ?cE ?cN; (case cF => assumption); (case cE => (refine' elt_afterC ?e1 ?e2 ?e3 ?e4 ?e5 ?e6; (case e2 => assumption); (case e1 => assumption); (case e3 => assumption); (case e4 => assumption); (case e5 => assumption); (case e6 => repeat (first | exact List.forall_mem_nil _ | refine List.forall_mem_cons.mpr ⟨(by first | exact Or.inr (by with_reducible assumption) | exact Or.inl (by k_mem)), ?_⟩)))); (case cN => (first | assumption | (refine' cb_drop ?cbN ?cbS; (case cbN => assumption); (case cbS => kcj_all)))))

theorem row156 : True := by
  k_with "call ref" => ((with_reducible show wpAny _ _ (call (Value.ref 464) _) _ _ _); k_dflt (refine' instr_c ?k1 ?k2 ?k3 (cb_drop ?k4 ?k9) ?k5 ?k7 ?k8  ?_; (case k1 => k_asm); (case k2 => k_asm); (case k3 => k_asm); (case k4 => k_asm); (case k5 => k_asm); (case k9 => repeat (first | exact subNil | refine subCons (by k_mem) ?_)); (case k7 => (first | exact roomA hd rfl | exact roomB hd rfl | ((try simp only [depth_mark, depth_under_make, depth_under_kw, depth_in1, depth_deeper, depth_caller]); (try dsimp only [ktrTop]); omega))); (case k8 => (first | exact unitA hu rfl | ((try simp only [units_under_make, units_in1, units_deeper, Around.mark_units, units_caller]); (try dsimp only [ktrTop]); omega))); k_whole); intro i9 id9 ot9 i19 i39 i49  h9 tk9 mo09 mo19 mo29 F9 E9 N9; (k_dflt (replace N9 := newsApp N9 E9 (by k_asm))); clear E9; (try dsimp only [List.nil_append, List.cons_append, List.append_nil] at N9); (try simp only [List.append_nil] at N9); (try dsimp only); (try k_fold); (try k_sweep); walk_say "CONTRACT instr_c")
  trivial
theorem rk_rm8 : RegKind "rm8" 8 := by constructor <;> decide +kernel
theorem ni_rm8 : NoImm "rm8" := by constructor <;> decide +kernel
theorem rk_rm16 : RegKind "rm16" 16 := by constructor <;> decide +kernel
theorem ni_rm16 : NoImm "rm16" := by constructor <;> decide +kernel
theorem rk_rm32 : RegKind "rm32" 32 := by constructor <;> decide +kernel
theorem ni_rm32 : NoImm "rm32" := by constructor <;> decide +kernel
theorem rk_rm64 : RegKind "rm64" 64 := by constructor <;> decide +kernel
theorem ni_rm64 : NoImm "rm64" := by constructor <;> decide +kernel
theorem rk_r8 : RegKind "r8" 8 := by constructor <;> decide +kernel
theorem ni_r8 : NoImm "r8" := by constructor <;> decide +kernel
theorem rk_r16 : RegKind "r16" 16 := by constructor <;> decide +kernel
theorem ni_r16 : NoImm "r16" := by constructor <;> decide +kernel
theorem rk_r32 : RegKind "r32" 32 := by constructor <;> decide +kernel
theorem ni_r32 : NoImm "r32" := by constructor <;> decide +kernel
theorem rk_r64 : RegKind "r64" 64 := by constructor <;> decide +kernel
theorem ni_r64 : NoImm "r64" := by constructor <;> decide +kernel
theorem rk_o8 : RegKind "o8" 8 := by constructor <;> decide +kernel
theorem rk_o16 : RegKind "o16" 16 := by constructor <;> decide +kernel
theorem rk_o32 : RegKind "o32" 32 := by constructor <;> decide +kernel
theorem rk_o64 : RegKind "o64" 64 := by constructor <;> decide +kernel
theorem ik_8 : ImmKind "imm8" 8 := by constructor <;> decide +kernel
theorem ie_8 : ImmEnc "imm8" 8 := by constructor <;> decide +kernel
theorem ik_16 : ImmKind "imm16" 16 := by constructor <;> decide +kernel
theorem ie_16 : ImmEnc "imm16" 16 := by constructor <;> decide +kernel
theorem ik_32 : ImmKind "imm32" 32 := by constructor <;> decide +kernel
theorem ie_32 : ImmEnc "imm32" 32 := by constructor <;> decide +kernel
theorem ik_64 : ImmKind "imm64" 64 := by constructor <;> decide +kernel
theorem ie_64 : ImmEnc "imm64" 64 := by constructor <;> decide +kernel
theorem ie_s : ImmEnc "simm32" 32 := by constructor <;> decide +kernel
/-- what a form says to the instruction: nothing, the short way (o), the long way (rm) -/
inductive FCase (z x : Int) (S : FSpec) : Option Bool → Prop
  | no {zk : Int} {b : Bool} (h1 : RegKind S.k1 zk) (h2 : ImmWord S.k2 x S.sz b) (h3 : (decide (z = zk) && b) = false) : FCase z x S none
  | plus {b : Bool} (h1 : RegKind S.k1 z) (h2 : ImmWord S.k2 x S.sz b) (h3 : (decide (z = z) && b) = true) (hs : S.sz = z) (ho : S.op = opA z) (he : S.es = 0) (hd : S.dg = -1) (hp : slotOf S.k1 = "plus") (hq : slotOf S.k2 = "imm") (hi : ImmEnc S.k2 z) : FCase z x S (some true)
  | rm {b : Bool} {zi : Int} (h1 : RegKind S.k1 z) (h2 : ImmWord S.k2 x S.sz b) (h3 : (decide (z = z) && b) = true) (hs : S.sz = z) (ho : S.op = opB z) (he : S.es = 0) (hd : S.dg = 0) (hp : slotOf S.k1 = "rm") (hq : slotOf S.k2 = "imm") (hi : ImmEnc S.k2 zi) (hz : zi = if z = 64 then 32 else z) : FCase z x S (some false)
def specs : List FSpec := [⟨"rm8", "r8", 136, 0, -1, 8⟩, ⟨"rm16", "r16", 137, 0, -1, 16⟩, ⟨"rm32", "r32", 137, 0, -1, 32⟩, ⟨"rm64", "r64", 137, 0, -1, 64⟩, ⟨"r8", "rm8", 138, 0, -1, 8⟩, ⟨"r16", "rm16", 139, 0, -1, 16⟩, ⟨"r32", "rm32", 139, 0, -1, 32⟩, ⟨"r64", "rm64", 139, 0, -1, 64⟩, ⟨"o8", "imm8", 176, 0, -1, 8⟩, ⟨"o16", "imm16", 184, 0, -1, 16⟩, ⟨"o32", "imm32", 184, 0, -1, 32⟩, ⟨"rm8", "imm8", 198, 0, 0, 8⟩, ⟨"rm16", "imm16", 199, 0, 0, 16⟩, ⟨"rm32", "imm32", 199, 0, 0, 32⟩, ⟨"rm64", "simm32", 199, 0, 0, 64⟩, ⟨"o64", "imm64", 184, 0, -1, 64⟩]
theorem simm {x : Int} (h : fitsB x 64 = true) : (fitsB x 64 && (x % 2 ^ ((64 : Int)).toNat == sgn32 x % 2 ^ ((64 : Int)).toNat)) = true ↔ Short x := by
  rw [h, Bool.true_and, show (2 : Int) ^ ((64 : Int)).toNat = 18446744073709551616 from by decide, beq_iff_eq]
  unfold sgn32 Short
  split <;> omega
/-- which way the form at a place goes -/
def sel (z : Int) (sh : Bool) : List (Option Bool) := List.replicate 8 none ++ [if z = 8 then some true else none, if z = 16 then some true else none, if z = 32 then some true else none, if z = 8 then some false else none, if z = 16 then some false else none, if z = 32 then some false else none, if z = 64 ∧ sh = true then some false else none, if z = 64 then some true else none]
theorem fc0 {z x : Int} : FCase z x ⟨"rm8", "r8", 136, 0, -1, 8⟩ none := .no rk_rm8 (.no ni_r8) (by simp)
theorem fc1 {z x : Int} : FCase z x ⟨"rm16", "r16", 137, 0, -1, 16⟩ none := .no rk_rm16 (.no ni_r16) (by simp)
theorem fc2 {z x : Int} : FCase z x ⟨"rm32", "r32", 137, 0, -1, 32⟩ none := .no rk_rm32 (.no ni_r32) (by simp)
theorem fc3 {z x : Int} : FCase z x ⟨"rm64", "r64", 137, 0, -1, 64⟩ none := .no rk_rm64 (.no ni_r64) (by simp)
theorem fc4 {z x : Int} : FCase z x ⟨"r8", "rm8", 138, 0, -1, 8⟩ none := .no rk_r8 (.no ni_rm8) (by simp)
theorem fc5 {z x : Int} : FCase z x ⟨"r16", "rm16", 139, 0, -1, 16⟩ none := .no rk_r16 (.no ni_rm16) (by simp)
theorem fc6 {z x : Int} : FCase z x ⟨"r32", "rm32", 139, 0, -1, 32⟩ none := .no rk_r32 (.no ni_rm32) (by simp)
theorem fc7 {z x : Int} : FCase z x ⟨"r64", "rm64", 139, 0, -1, 64⟩ none := .no rk_r64 (.no ni_rm64) (by simp)
theorem fc8 {z x : Int} (hx : fitsB x z = true) : FCase z x ⟨"o8", "imm8", 176, 0, -1, 8⟩ (if z = 8 then some true else none) := by
  by_cases h : z = 8
  · rw [if_pos h]
    subst h
    exact .plus rk_o8 (.imm ik_8) (by rw [decide_eq_true rfl, Bool.true_and]; exact hx) rfl (by decide) rfl rfl (by decide +kernel) (by decide +kernel) ie_8
  · rw [if_neg h]
    exact .no rk_o8 (.imm ik_8) (by rw [decide_eq_false h, Bool.false_and])
theorem fc9 {z x : Int} (hx : fitsB x z = true) : FCase z x ⟨"o16", "imm16", 184, 0, -1, 16⟩ (if z = 16 then some true else none) := by
  by_cases h : z = 16
  · rw [if_pos h]
    subst h
    exact .plus rk_o16 (.imm ik_16) (by rw [decide_eq_true rfl, Bool.true_and]; exact hx) rfl (by decide) rfl rfl (by decide +kernel) (by decide +kernel) ie_16
  · rw [if_neg h]
    exact .no rk_o16 (.imm ik_16) (by rw [decide_eq_false h, Bool.false_and])
theorem fc10 {z x : Int} (hx : fitsB x z = true) : FCase z x ⟨"o32", "imm32", 184, 0, -1, 32⟩ (if z = 32 then some true else none) := by
  by_cases h : z = 32
  · rw [if_pos h]
    subst h
    exact .plus rk_o32 (.imm ik_32) (by rw [decide_eq_true rfl, Bool.true_and]; exact hx) rfl (by decide) rfl rfl (by decide +kernel) (by decide +kernel) ie_32
  · rw [if_neg h]
    exact .no rk_o32 (.imm ik_32) (by rw [decide_eq_false h, Bool.false_and])
theorem fc11 {z x : Int} (hx : fitsB x z = true) : FCase z x ⟨"rm8", "imm8", 198, 0, 0, 8⟩ (if z = 8 then some false else none) := by
  by_cases h : z = 8
  · rw [if_pos h]
    subst h
    exact .rm rk_rm8 (.imm ik_8) (by rw [decide_eq_true rfl, Bool.true_and]; exact hx) rfl (by decide) rfl rfl (by decide +kernel) (by decide +kernel) ie_8 (by decide)
  · rw [if_neg h]
    exact .no rk_rm8 (.imm ik_8) (by rw [decide_eq_false h, Bool.false_and])
theorem fc12 {z x : Int} (hx : fitsB x z = true) : FCase z x ⟨"rm16", "imm16", 199, 0, 0, 16⟩ (if z = 16 then some false else none) := by
  by_cases h : z = 16
  · rw [if_pos h]
    subst h
    exact .rm rk_rm16 (.imm ik_16) (by rw [decide_eq_true rfl, Bool.true_and]; exact hx) rfl (by decide) rfl rfl (by decide +kernel) (by decide +kernel) ie_16 (by decide)
  · rw [if_neg h]
    exact .no rk_rm16 (.imm ik_16) (by rw [decide_eq_false h, Bool.false_and])
theorem fc13 {z x : Int} (hx : fitsB x z = true) : FCase z x ⟨"rm32", "imm32", 199, 0, 0, 32⟩ (if z = 32 then some false else none) := by
  by_cases h : z = 32
  · rw [if_pos h]
    subst h
    exact .rm rk_rm32 (.imm ik_32) (by rw [decide_eq_true rfl, Bool.true_and]; exact hx) rfl (by decide) rfl rfl (by decide +kernel) (by decide +kernel) ie_32 (by decide)
  · rw [if_neg h]
    exact .no rk_rm32 (.imm ik_32) (by rw [decide_eq_false h, Bool.false_and])
theorem fc14 {z x : Int} (hx : fitsB x z = true) : FCase z x ⟨"rm64", "simm32", 199, 0, 0, 64⟩ (if z = 64 ∧ decide (Short x) = true then some false else none) := by
  by_cases h : z = 64 ∧ decide (Short x) = true
  · rw [if_pos h]
    obtain ⟨rfl, hs⟩ := h
    have hs' : Short x := of_decide_eq_true hs
    exact .rm rk_rm64 (.s32 rfl (by decide) (by decide)) (by rw [decide_eq_true rfl, Bool.true_and]; exact (simm hx).mpr hs') rfl (by decide) rfl rfl (by decide +kernel) (by decide +kernel) ie_s (by decide)
  · rw [if_neg h]
    refine .no rk_rm64 (.s32 rfl (by decide) (by decide)) ?_
    by_cases h64 : z = 64
    · subst h64
      have hs' : ¬ Short x := fun hs => h ⟨rfl, decide_eq_true hs⟩
      rw [decide_eq_true rfl, Bool.true_and]
      exact Bool.eq_false_iff.mpr fun e => hs' ((simm hx).mp e)
    · rw [decide_eq_false h64, Bool.false_and]
theorem fc15 {z x : Int} (hx : fitsB x z = true) : FCase z x ⟨"o64", "imm64", 184, 0, -1, 64⟩ (if z = 64 then some true else none) := by
  by_cases h : z = 64
  · rw [if_pos h]
    subst h
    exact .plus rk_o64 (.imm ik_64) (by rw [decide_eq_true rfl, Bool.true_and]; exact hx) rfl (by decide) rfl rfl (by decide +kernel) (by decide +kernel) ie_64
  · rw [if_neg h]
    exact .no rk_o64 (.imm ik_64) (by rw [decide_eq_false h, Bool.false_and])
theorem fcases {z x : Int} (hx : fitsB x z = true) : ∀ (i : Nat) (S : FSpec), specs[i]? = some S → ∃ k, (sel z (decide (Short x)))[i]? = some k ∧ FCase z x S k
  | 0, _, h => by cases h; exact ⟨_, rfl, fc0⟩
  | 1, _, h => by cases h; exact ⟨_, rfl, fc1⟩
  | 2, _, h => by cases h; exact ⟨_, rfl, fc2⟩
  | 3, _, h => by cases h; exact ⟨_, rfl, fc3⟩
  | 4, _, h => by cases h; exact ⟨_, rfl, fc4⟩
  | 5, _, h => by cases h; exact ⟨_, rfl, fc5⟩
  | 6, _, h => by cases h; exact ⟨_, rfl, fc6⟩
  | 7, _, h => by cases h; exact ⟨_, rfl, fc7⟩
  | 8, _, h => by cases h; exact ⟨_, rfl, fc8 hx⟩
  | 9, _, h => by cases h; exact ⟨_, rfl, fc9 hx⟩
  | 10, _, h => by cases h; exact ⟨_, rfl, fc10 hx⟩
  | 11, _, h => by cases h; exact ⟨_, rfl, fc11 hx⟩
  | 12, _, h => by cases h; exact ⟨_, rfl, fc12 hx⟩
  | 13, _, h => by cases h; exact ⟨_, rfl, fc13 hx⟩
  | 14, _, h => by cases h; exact ⟨_, rfl, fc14 hx⟩
  | 15, _, h => by cases h; exact ⟨_, rfl, fc15 hx⟩
  | n + 16, _, h => by cases h

section
variable {prog : Program} {w : World} {A : Around} {s : Shared} {h₀ : Heap} {L : Addr} {m : Str → Option Value}
/-- a comprehension with a test, by what holds of its turns: J may speak of the ledger too -/
theorem restAllT {env : Env} {ct elt : Expr} {x : Str} {scope : Scope} {cl : List (Str × Addr)} {S : List (Addr × Obj) → Prop} {P : Nat → Value → Prop} {Fin : List Value → List (Addr × Obj) → Prop} (J : Nat → List Value → List (Addr × Obj) → Prop) {n : Nat}
    (step : ∀ i ys news, i < n → J i ys news → ∀ v I oI C oC D m₂ h tk (E' : Value → Shared → Prop), P i v → LCg.NsObj oC m₂ → m₂ x = some v → Fr h₀ L h m → News h₀ L h ((I, oI) :: (C, oC) :: (D, LCg.lst ys) :: news) → LCg.Off3 I C D news → ((@Ne Nat I C) ∧ (@Ne Nat I D) ∧ (@Ne Nat C D)) →
      wpAny (model prog w) A (isTrue ct (compEnvC scope cl C env) (eval ct (compEnvC scope cl C env))) (fun ok s' => if ok = true then
        wpAny (model prog w) A (eval elt (compEnvC scope cl C env)) (LCg.CompEnd h₀ L m { s with heap := h, toks := tk } I oI C oC D (LCg.lst ys) S (fun y news' => J (i + 1) (ys ++ [y]) news')) E' s'
        else LCg.CompEnd h₀ L m { s with heap := h, toks := tk } I oI C oC D (LCg.lst ys) S (fun _ news' => J (i + 1) ys news') Value.none s') E' { s with heap := h, toks := tk })
    (fin : ∀ ys news, J n ys news → Fin ys news) (k i : Nat) (ys : List Value) (news : List (Addr × Obj)) (e : i + k = n) (hJ : J i ys news) : LCt.CompRestT prog w A h₀ L m env ct elt x scope cl s S P Fin k i ys news := by
  induction k generalizing i ys news with
  | zero => exact LCt.CompRestT.zero (fin ys news (by rw [← e, Nat.add_zero]; exact hJ))
  | succ k ih =>
    refine LCt.CompRestT.succ fun v I oI C oC D m₂ h tk E' a b c d f g j =>
      wpAny_mono (step i ys news (by omega) hJ v I oI C oC D m₂ h tk E' a b c d f g j) (fun ok s₂ hc => ?_) fun _ _ h => h
    by_cases hok : ok = true
    · rw [if_pos hok] at hc ⊢
      refine wpAny_mono hc (fun y s₃ hd => ?_) fun _ _ h => h
      obtain ⟨h', tk', news', e1, F', N', off, hS, hJ'⟩ := hd
      exact ⟨h', tk', news', e1, F', N', off, hS, ih (i + 1) _ _ (by omega) hJ'⟩
    · rw [if_neg hok] at hc ⊢
      obtain ⟨h', tk', news', e1, F', N', off, hS, hJ'⟩ := hc
      exact ⟨h', tk', news', e1, F', N', off, hS, ih (i + 1) _ _ (by omega) hJ'⟩
end

theorem forms_at {w : World} {nw : List (Addr × Obj)} {b1 b2 b3 b4 b5 b6 b7 b8 b9 b10 b11 b12 b13 b14 b15 b16 : Addr} (A : Forms w nw (mfs b1 b2 b3 b4 b5 b6 b7 b8 b9 b10 b11 b12 b13 b14 b15 b16)) : ∀ (i : Nat) (v : Value), (#[.ref b1, .ref b2, .ref b3, .ref b4, .ref b5, .ref b6, .ref b7, .ref b8, .ref b9, .ref b10, .ref b11, .ref b12, .ref b13, .ref b14, .ref b15, .ref b16] : Array Value)[i]? = some v → ∃ f S, v = .ref f ∧ specs[i]? = some S ∧ FormAt w nw f S
  | 0, _, h => ⟨b1, _, (Option.some.inj h).symm, rfl, A.all (b1, _) (List.Mem.tail _ (List.Mem.tail _ (List.Mem.tail _ (List.Mem.tail _ (List.Mem.tail _ (List.Mem.tail _ (List.Mem.tail _ (List.Mem.tail _ (List.Mem.tail _ (List.Mem.tail _ (List.Mem.tail _ (List.Mem.tail _ (List.Mem.tail _ (List.Mem.tail _ (List.Mem.tail _ (List.Mem.head _))))))))))))))))⟩
  | 1, _, h => ⟨b2, _, (Option.some.inj h).symm, rfl, A.all (b2, _) (List.Mem.tail _ (List.Mem.tail _ (List.Mem.tail _ (List.Mem.tail _ (List.Mem.tail _ (List.Mem.tail _ (List.Mem.tail _ (List.Mem.tail _ (List.Mem.tail _ (List.Mem.tail _ (List.Mem.tail _ (List.Mem.tail _ (List.Mem.tail _ (List.Mem.tail _ (List.Mem.head _)))))))))))))))⟩
  | 2, _, h => ⟨b3, _, (Option.some.inj h).symm, rfl, A.all (b3, _) (List.Mem.tail _ (List.Mem.tail _ (List.Mem.tail _ (List.Mem.tail _ (List.Mem.tail _ (List.Mem.tail _ (List.Mem.tail _ (List.Mem.tail _ (List.Mem.tail _ (List.Mem.tail _ (List.Mem.tail _ (List.Mem.tail _ (List.Mem.tail _ (List.Mem.head _))))))))))))))⟩
  | 3, _, h => ⟨b4, _, (Option.some.inj h).symm, rfl, A.all (b4, _) (List.Mem.tail _ (List.Mem.tail _ (List.Mem.tail _ (List.Mem.tail _ (List.Mem.tail _ (List.Mem.tail _ (List.Mem.tail _ (List.Mem.tail _ (List.Mem.tail _ (List.Mem.tail _ (List.Mem.tail _ (List.Mem.tail _ (List.Mem.head _)))))))))))))⟩
  | 4, _, h => ⟨b5, _, (Option.some.inj h).symm, rfl, A.all (b5, _) (List.Mem.tail _ (List.Mem.tail _ (List.Mem.tail _ (List.Mem.tail _ (List.Mem.tail _ (List.Mem.tail _ (List.Mem.tail _ (List.Mem.tail _ (List.Mem.tail _ (List.Mem.tail _ (List.Mem.tail _ (List.Mem.head _))))))))))))⟩
  | 5, _, h => ⟨b6, _, (Option.some.inj h).symm, rfl, A.all (b6, _) (List.Mem.tail _ (List.Mem.tail _ (List.Mem.tail _ (List.Mem.tail _ (List.Mem.tail _ (List.Mem.tail _ (List.Mem.tail _ (List.Mem.tail _ (List.Mem.tail _ (List.Mem.tail _ (List.Mem.head _)))))))))))⟩
  | 6, _, h => ⟨b7, _, (Option.some.inj h).symm, rfl, A.all (b7, _) (List.Mem.tail _ (List.Mem.tail _ (List.Mem.tail _ (List.Mem.tail _ (List.Mem.tail _ (List.Mem.tail _ (List.Mem.tail _ (List.Mem.tail _ (List.Mem.tail _ (List.Mem.head _))))))))))⟩
  | 7, _, h => ⟨b8, _, (Option.some.inj h).symm, rfl, A.all (b8, _) (List.Mem.tail _ (List.Mem.tail _ (List.Mem.tail _ (List.Mem.tail _ (List.Mem.tail _ (List.Mem.tail _ (List.Mem.tail _ (List.Mem.tail _ (List.Mem.head _)))))))))⟩
  | 8, _, h => ⟨b9, _, (Option.some.inj h).symm, rfl, A.all (b9, _) (List.Mem.tail _ (List.Mem.tail _ (List.Mem.tail _ (List.Mem.tail _ (List.Mem.tail _ (List.Mem.tail _ (List.Mem.tail _ (List.Mem.head _))))))))⟩
  | 9, _, h => ⟨b10, _, (Option.some.inj h).symm, rfl, A.all (b10, _) (List.Mem.tail _ (List.Mem.tail _ (List.Mem.tail _ (List.Mem.tail _ (List.Mem.tail _ (List.Mem.tail _ (List.Mem.head _)))))))⟩
  | 10, _, h => ⟨b11, _, (Option.some.inj h).symm, rfl, A.all (b11, _) (List.Mem.tail _ (List.Mem.tail _ (List.Mem.tail _ (List.Mem.tail _ (List.Mem.tail _ (List.Mem.head _))))))⟩
  | 11, _, h => ⟨b12, _, (Option.some.inj h).symm, rfl, A.all (b12, _) (List.Mem.tail _ (List.Mem.tail _ (List.Mem.tail _ (List.Mem.tail _ (List.Mem.head _)))))⟩
  | 12, _, h => ⟨b13, _, (Option.some.inj h).symm, rfl, A.all (b13, _) (List.Mem.tail _ (List.Mem.tail _ (List.Mem.tail _ (List.Mem.head _))))⟩
  | 13, _, h => ⟨b14, _, (Option.some.inj h).symm, rfl, A.all (b14, _) (List.Mem.tail _ (List.Mem.tail _ (List.Mem.head _)))⟩
  | 14, _, h => ⟨b15, _, (Option.some.inj h).symm, rfl, A.all (b15, _) (List.Mem.tail _ (List.Mem.head _))⟩
  | 15, _, h => ⟨b16, _, (Option.some.inj h).symm, rfl, A.all (b16, _) (List.Mem.head _)⟩
  | n + 16, _, h => nomatch h
def outOf (rk : Str) (n z x : Int) : Option Bool → Option (Array UInt8)
  | none => none
  | some true => some (encA rk (opA z) n z z x)
  | some false => some (encB rk (opB z) n z (if z = 64 then 32 else z) x)
def outs (rk : Str) (n z x : Int) : List (Array UInt8) := (sel z (decide (Short x))).filterMap (outOf rk n z x)
theorem outs_take {l : List (Option Bool)} {f : Option Bool → Option (Array UInt8)} {i : Nat} {k : Option Bool} (h : l[i]? = some k) : (l.take (i + 1)).filterMap f = (l.take i).filterMap f ++ (f k).toList := by
  rw [List.take_add_one, h, List.filterMap_append]
  cases e : f k <;> simp [e]
theorem outs_all {rk : Str} {n z x : Int} : ((sel z (decide (Short x))).take 16).filterMap (outOf rk n z x) = outs rk n z x := by
  unfold outs; rw [List.take_of_length_le (by unfold sel; simp)]
theorem outs_lt {rk : Str} {n z x : Int} (h : z = 8 ∨ z = 16 ∨ z = 32) : outs rk n z x = [encA rk (opA z) n z z x, encB rk (opB z) n z (if z = 64 then 32 else z) x] := by
  unfold outs sel
  rcases h with rfl | rfl | rfl <;> rfl
theorem outs_s {rk : Str} {n z x : Int} (h : z = 64) (hs : Short x) : outs rk n z x = [encB rk (opB z) n z (if z = 64 then 32 else z) x, encA rk (opA z) n z z x] := by
  subst h
  unfold outs sel
  rw [decide_eq_true hs]
  rfl
theorem outs_l {rk : Str} {n z x : Int} (h : z = 64) (hs : ¬ Short x) : outs rk n z x = [encA rk (opA z) n z z x] := by
  subst h
  unfold outs sel
  rw [decide_eq_false hs]
  rfl
theorem outs_cases {rk : Str} {n z x : Int} (hz : Sz z) : (∃ P Q, outs rk n z x = [P, Q]) ∨ ∃ P, outs rk n z x = [P] := by
  by_cases h : z = 64
  · by_cases hs : Short x
    · exact .inl ⟨_, _, outs_s h hs⟩
    · exact .inr ⟨_, outs_l h hs⟩
  · exact .inl ⟨_, _, outs_lt (by rcases hz with e | e | e | e; exact .inl e; exact .inr (.inl e); exact .inr (.inr e); exact absurd e h)⟩
/-- an encoding lies in the ledger -/
def EncAt (w : World) (nw : List (Addr × Obj)) (e : Addr) (oct : Array UInt8) : Prop :=
  ∃ (s1 s2 s3 s4 to : Tok) (c : Nat) (ed fx f : Addr) (sh : Value), (e, instObj 806 ed) ∈ nw ∧ (ed, encD w s1 s2 s3 s4 oct to fx f sh) ∈ nw ∧ (fx, W.listOf #[] c) ∈ nw
theorem EncAt.sub {w : World} {nw nw' : List (Addr × Obj)} {e : Addr} {oct : Array UInt8} (h : EncAt w nw e oct) (hs : ∀ p ∈ nw, p ∈ nw') : EncAt w nw' e oct := by
  obtain ⟨s1, s2, s3, s4, to, c, ed, fx, f, sh, h1, h2, h3⟩ := h
  exact ⟨s1, s2, s3, s4, to, c, ed, fx, f, sh, hs _ h1, hs _ h2, hs _ h3⟩
/-- what holds between the turns over the forms -/
def RJ (w : World) (rk : Str) (n z x : Int) (news0 : List (Addr × Obj)) (i : Nat) (ys : List Value) (news : List (Addr × Obj)) : Prop :=
  (∀ p ∈ news0, p ∈ news) ∧ ∃ es : List (Addr × Array UInt8), ys = es.map (fun e => Value.ref e.1) ∧ (∀ e ∈ es, EncAt w news e.1 e.2) ∧ es.map (·.2) = ((sel z (decide (Short x))).take i).filterMap (outOf rk n z x)
theorem RJ.start {w : World} {rk : Str} {n z x : Int} {news0 : List (Addr × Obj)} : RJ w rk n z x news0 0 [] news0 := ⟨fun _ h => h, [], rfl, (fun _ h => nomatch h), rfl⟩
section
variable {w : World} {rk : Str} {n z x : Int} {news0 news : List (Addr × Obj)} {i : Nat} {ys : List Value}
theorem RJ.no (J : RJ w rk n z x news0 i ys news) (h : (sel z (decide (Short x)))[i]? = some none) : RJ w rk n z x news0 (i + 1) ys news := by
  obtain ⟨hb, es, h1, h2, h3⟩ := J
  exact ⟨hb, es, h1, h2, by rw [outs_take h, h3]; simp [outOf]⟩
theorem RJ.more {k : Option Bool} {oct : Array UInt8} {e : Addr} {news' : List (Addr × Obj)} (J : RJ w rk n z x news0 i ys news) (h : (sel z (decide (Short x)))[i]? = some k) (hk : outOf rk n z x k = some oct) (hs : ∀ p ∈ news, p ∈ news') (he : EncAt w news' e oct) :
    RJ w rk n z x news0 (i + 1) (ys ++ [.ref e]) news' := by
  obtain ⟨hb, es, h1, h2, h3⟩ := J
  refine ⟨fun p hp => hs p (hb p hp), es ++ [(e, oct)], ?_, ?_, ?_⟩
  · rw [List.map_append, h1]; rfl
  · intro q hq
    rcases List.mem_append.mp hq with hq | hq
    · exact (h2 q hq).sub hs
    · rw [List.mem_singleton.mp hq]; exact he
  · rw [outs_take h, List.map_append, h3, hk]; rfl
/-- the forms' ledger goes behind what was there -/
theorem newsTail {h₀ h h' : Heap} {L : Addr} {e : Addr × Obj} {nw old : List (Addr × Obj)} (N' : News h₀ L h' (e :: nw)) (E : InElt h h') (N : News h₀ L h old) : News h₀ L h' (e :: (old ++ nw)) := fun p hp =>
  (List.mem_cons.mp hp).elim (fun e => e ▸ N' _ (List.mem_cons_self ..)) fun h => (List.mem_append.mp h).elim (fun h => ⟨E _ _ (N p h).1, (N p h).2⟩) fun h => N' p (List.mem_cons_of_mem _ h)
end
section
variable {prog : Program} {w : World} {A : Around} {E : Value → Shared → Prop} {s : Shared}
theorem eqAt_bytes {b c : Array UInt8} {t u : Tok} (e : b = c) : SeqAt.EqAt A s (.bytes b t) (.bytes c u) true := fun prog w E Q h => by
  unfold eqBool
  refine wpAny_holding ?_
  refine wpAny_ite_split (fun hab => ?_) (fun _ => ?_)
  · exact wpAny_bind (wpAny_rule (wpAny_pure h))
  · exact wpAny_bind (eq_bytes (wpAny_truthy_bool (by rw [e, beq_self_eq_true]; exact h)))
theorem range_all_true (k : Nat) : (List.range k).all (fun _ => true) = true := List.all_eq_true.mpr fun _ _ => rfl
theorem eq_bytesL {l b : Addr} {i1 i2 : Array Value} {Q : Value → Shared → Prop} (hl : s.heap.IsList l i1) (hb : s.heap.IsList b i2) (hsz : i1.size = i2.size) (hu : A.units < cLine)
    (he : ∀ j (h1 : j < i1.size) (h2 : j < i2.size), ∃ o t u, i1[j] = .bytes o t ∧ i2[j] = .bytes o u) (h : Q (.bool true) s) : wpAny (model prog w) A (compareOp .Eq (.ref l) (.ref b)) Q E s :=
  SeqAt.RcAt.lists hl hb hsz hu (e := fun _ => true) (fun j h1 h2 => by
    obtain ⟨o, t, u, e1, e2⟩ := he j h1 h2
    rw [e1, e2]; exact eqAt_bytes rfl) prog w E Q (by rw [range_all_true]; exact h)
theorem eq_bytes2 {l b : Addr} {P R : Array UInt8} {t1 t2 u1 u2 : Tok} {Q : Value → Shared → Prop} (hl : s.heap.IsList l #[.bytes P t1, .bytes R t2]) (hb : s.heap.IsList b #[.bytes P u1, .bytes R u2]) (hu : A.units < cLine) (h : Q (.bool true) s) : wpAny (model prog w) A (compareOp .Eq (.ref l) (.ref b)) Q E s :=
  eq_bytesL hl hb rfl hu (fun j h1 _ => match j, h1 with
    | 0, _ => ⟨P, t1, u1, rfl, rfl⟩
    | 1, _ => ⟨R, t2, u2, rfl, rfl⟩
    | j + 2, h => absurd h (Nat.not_lt.mpr (Nat.le_add_left 2 j))) h
theorem ne_empty1 {h₀ : Heap} {L D1 D2 a1 b1 : Addr} {c1 k1 : Nat} {news : List (Addr × Obj)} {Q : Value → Shared → Prop} (N : News h₀ L s.heap news) (m1 : (D1, LCg.lst [.ref a1]) ∈ news) (m2 : (D2, LCg.lst [.ref b1]) ∈ news)
    (e1 : (a1, W.listOf #[] c1) ∈ news) (g1 : (b1, W.listOf #[] k1) ∈ news) (hu : A.units + 64 < cLine) (h : Q (.bool false) s) : wpAny (model prog w) A (compareOp .NotEq (.ref D1) (.ref D2)) Q E s :=
  ne_dataH (reads_list_at (N.get m1) rfl rfl (ReadsAll.cons (reads_list_at (N.get e1) rfl rfl ReadsAll.nil) ReadsAll.nil)) (reads_list_at (N.get m2) rfl rfl (ReadsAll.cons (reads_list_at (N.get g1) rfl rfl ReadsAll.nil) ReadsAll.nil)) rfl rfl hu (by simpa [PyData.eqv, PyData.eqvAll] using h)
theorem ne_empty2 {h₀ : Heap} {L D1 D2 a1 b1 a2 b2 : Addr} {c1 k1 c2 k2 : Nat} {news : List (Addr × Obj)} {Q : Value → Shared → Prop} (N : News h₀ L s.heap news) (m1 : (D1, LCg.lst [.ref a1, .ref a2]) ∈ news) (m2 : (D2, LCg.lst [.ref b1, .ref b2]) ∈ news)
    (e1 : (a1, W.listOf #[] c1) ∈ news) (e2 : (a2, W.listOf #[] c2) ∈ news) (g1 : (b1, W.listOf #[] k1) ∈ news) (g2 : (b2, W.listOf #[] k2) ∈ news) (hu : A.units + 64 < cLine) (h : Q (.bool false) s) : wpAny (model prog w) A (compareOp .NotEq (.ref D1) (.ref D2)) Q E s :=
  ne_dataH (reads_list_at (N.get m1) rfl rfl (ReadsAll.cons (reads_list_at (N.get e1) rfl rfl ReadsAll.nil) (ReadsAll.cons (reads_list_at (N.get e2) rfl rfl ReadsAll.nil) ReadsAll.nil)))
    (reads_list_at (N.get m2) rfl rfl (ReadsAll.cons (reads_list_at (N.get g1) rfl rfl ReadsAll.nil) (ReadsAll.cons (reads_list_at (N.get g2) rfl rfl ReadsAll.nil) ReadsAll.nil))) rfl rfl hu (by simpa [PyData.eqv, PyData.eqvAll] using h)
theorem eq_bytes1 {l b : Addr} {P : Array UInt8} {t1 u1 : Tok} {Q : Value → Shared → Prop} (hl : s.heap.IsList l #[.bytes P t1]) (hb : s.heap.IsList b #[.bytes P u1]) (hu : A.units < cLine) (h : Q (.bool true) s) : wpAny (model prog w) A (compareOp .Eq (.ref l) (.ref b)) Q E s :=
  eq_bytesL hl hb rfl hu (fun j h1 _ => match j, h1 with
    | 0, _ => ⟨P, t1, u1, rfl, rfl⟩
    | j + 1, h => absurd h (Nat.not_lt.mpr (Nat.le_add_left 1 j))) h
end

theorem two_of {es : List (Addr × Array UInt8)} {P Q : Array UInt8} (h : es.map (·.2) = [P, Q]) : ∃ a b, es = [(a, P), (b, Q)] := by
  match es, h with
  | [(a, _), (b, _)], h => cases h; exact ⟨a, b, rfl⟩
theorem one_of {es : List (Addr × Array UInt8)} {P : Array UInt8} (h : es.map (·.2) = [P]) : ∃ a, es = [(a, P)] := by
  match es, h with
  | [(a, _)], h => cases h; exact ⟨a, rfl⟩
theorem dropTo {h₀ h : Heap} {L : Addr} {news : List (Addr × Obj)} (k : List (Addr × Obj)) (N : News h₀ L h news) (hs : ∀ p ∈ k, p ∈ news) : News h₀ L h k := fun p hp => N p (hs p hp)

def notCell (o : Obj) : Bool := match o.data with | .cell _ => false | _ => true
theorem neCell {h₀ h : Heap} {L c : Addr} {news : List (Addr × Obj)} {p : Addr × Obj} {o : Obj} {v₀ : Option Value} (N : News h₀ L h news) (hp : p ∈ news) (hc : (c, o) ∈ news) (hd : o.data = .cell v₀) (hq : notCell p.2 = true) : p.1 ≠ c := fun e => by
  have h1 := (N p hp).1
  have h2 := (N _ hc).1
  rw [e, h2] at h1
  rw [← Option.some.inj h1] at hq
  unfold notCell at hq
  rw [hd] at hq
  cases hq
theorem updOff {c : Addr} {o : Obj} {post : List (Addr × Obj)} (hp : ∀ p ∈ post, p.1 ≠ c) : ∀ {pre : List (Addr × Obj)}, (∀ p ∈ pre, p.1 ≠ c) → UpdF c o (pre ++ (c, o) :: post) (fun o' => pre ++ (c, o') :: post)
  | [], _ => .head hp
  | _ :: _, h => .tail (h _ (List.mem_cons_self ..)) (updOff hp fun p hp => h p (List.mem_cons_of_mem _ hp))
/-- a store into a cell, told by what the other objects are -/
theorem storeCell {M : Model} {A : Around} {E : Value → Shared → Prop} {s : Shared} {h₀ : Heap} {L a : Addr} {m : Str → Option Value} {cn : Str} {cs : Scope} {ccd : Value} {cl : List (Str × Addr)}
    {x : Str} {v : Value} {Q : Unit → Shared → Prop} {e1 e2 e3 e4 e5 e6 e7 e8 : Addr × Obj} {post : List (Addr × Obj)} {c : Addr} {o : Obj} {v₀ : Option Value} (F : Fr h₀ L s.heap m)
    (N : News h₀ L s.heap (e1 :: e2 :: e3 :: e4 :: e5 :: e6 :: e7 :: e8 :: (c, o) :: post)) (hc : cl.lookup x = some c) (hd : o.data = .cell v₀)
    (hn : (e1 :: e2 :: e3 :: e4 :: e5 :: e6 :: e7 :: e8 :: post).all (fun p => notCell p.2) = true)
    (h : ∀ h' o', Fr h₀ L h' m → News h₀ L h' (e1 :: e2 :: e3 :: e4 :: e5 :: e6 :: e7 :: e8 :: (c, o') :: post) → o'.data = .cell (some v) → Q () { s with heap := h' })
    (hk : cs.kind = .function) (hx : (envX cn cs L a ccd cl).kindOf x = some .cell) : wpAny M A (storeName (envX cn cs L a ccd cl) x v) Q E s := by
  have ha := List.all_eq_true.mp hn
  have hcm : (c, o) ∈ (e1 :: e2 :: e3 :: e4 :: e5 :: e6 :: e7 :: e8 :: (c, o) :: post) := by simp
  have hpost : ∀ p ∈ post, p.1 ≠ c := by
    intro p hp
    refine neCell N (p := p) ?_ hcm hd (ha p ?_)
    · iterate 9 refine List.mem_cons_of_mem _ ?_
      exact hp
    · iterate 8 refine List.mem_cons_of_mem _ ?_
      exact hp
  have hpre : ∀ p ∈ [e1, e2, e3, e4, e5, e6, e7, e8], p.1 ≠ c := by
    intro p hp
    have h1 : p ∈ [e1, e2, e3, e4, e5, e6, e7, e8] ++ ((c, o) :: post) := List.mem_append_left _ hp
    have h2 : p ∈ [e1, e2, e3, e4, e5, e6, e7, e8] ++ post := List.mem_append_left _ hp
    exact neCell N (p := p) h1 hcm hd (ha p h2)
  exact storeX_C F N hc (updOff (pre := [e1, e2, e3, e4, e5, e6, e7, e8]) hpost hpre) hd h hk hx

section
variable {w : World} {rk : Str} {n z x : Int} {news0 news : List (Addr × Obj)} {i : Nat} {ys : List Value} {h₀ h h' : Heap} {L I C D ax : Addr} {oI oC oD : Obj} {m : Str → Option Value} {s₁ : Shared} {its : Array Value} {k : Nat}
theorem endSame {S : List (Addr × Obj) → Prop} {rest : Value → List (Addr × Obj) → Prop} {y : Value} {s₂ : Shared} (F : Fr h₀ L s₂.heap m) (e : s₂ = { s₁ with heap := s₂.heap, toks := s₂.toks }) (N : News h₀ L s₂.heap ((I, oI) :: (C, oC) :: (D, oD) :: news)) (off : LCg.Off3 I C D news) (hS : S news) (r : rest y news) :
    LCg.CompEnd h₀ L m s₁ I oI C oC D oD S rest y s₂ := ⟨s₂.heap, s₂.toks, news, e, F, N, off, hS, r⟩
theorem endNew {l : Addr} {o : Obj} {S : List (Addr × Obj) → Prop} {rest : Value → List (Addr × Obj) → Prop} {y : Value} {s₂ : Shared} (F : Fr h₀ L s₂.heap m) (e : s₂ = { s₁ with heap := s₂.heap, toks := s₂.toks }) (N : News h₀ L s₂.heap ((l, o) :: (I, oI) :: (C, oC) :: (D, oD) :: news))
    {P : Prop} (l1 : I < l ∧ C < l ∧ D < l ∧ P) (off : LCg.Off3 I C D news) (hS : S ((l, o) :: news)) (r : rest y ((l, o) :: news)) : LCg.CompEnd h₀ L m s₁ I oI C oC D oD S rest y s₂ :=
  ⟨s₂.heap, s₂.toks, (l, o) :: news, e, F, fun p hp => N p (by
    simp only [List.mem_cons] at hp ⊢
    rcases hp with hp | hp | hp | hp | hp
    · exact .inr (.inl hp)
    · exact .inr (.inr (.inl hp))
    · exact .inr (.inr (.inr (.inl hp)))
    · exact .inl hp
    · exact .inr (.inr (.inr (.inr hp)))), ⟨⟨Nat.ne_of_gt l1.1, Nat.ne_of_gt l1.2.1, Nat.ne_of_gt l1.2.2.1⟩, off⟩, hS, r⟩
theorem turnNo (F : Fr h₀ L h m) (N : News h₀ L h ((I, oI) :: (C, oC) :: (D, oD) :: news)) (off : LCg.Off3 I C D news) (hl : (ax, W.listOf its k) ∈ news) (J : RJ w rk n z x news0 i ys news) (hq : (sel z (decide (Short x)))[i]? = some none) {tk : Nat} {v : Value} :
    LCg.CompEnd h₀ L m s₁ I oI C oC D oD (LCg.SrcAt h₀ ax its) (fun _ news' => RJ w rk n z x news0 (i + 1) ys news') v { s₁ with heap := h, toks := tk } :=
  LCg.CompEnd.intro F N news (fun _ h => h) off (.inr ⟨_, hl, rfl, _, rfl⟩) (J.no hq)
theorem turnEnd {q : Option Bool} {oct : Array UInt8} {adr : List Addr} {s1 s2 s3 s4 to : Tok} {c tk : Nat} {e ed fx f : Addr} {sh : Value} (N : News h₀ L h ((I, oI) :: (C, oC) :: (D, oD) :: news)) (off : LCg.Off3 I C D news) (hl : (ax, W.listOf its k) ∈ news) (J : RJ w rk n z x news0 i ys news)
    (hq : (sel z (decide (Short x)))[i]? = some q) (hk : outOf rk n z x q = some oct) (ha : ∀ a ∈ adr, ∃ o, (a, o) ∈ news) (fr : ∀ q o, h.get? q = some o → q ∉ adr → q ≠ e ∧ q ≠ ed ∧ q ≠ fx) (F' : Fr h₀ L h' m) (E : InElt h h')
    (N' : News h₀ L h' [(e, instObj 806 ed), (ed, encD w s1 s2 s3 s4 oct to fx f sh), (fx, W.listOf #[] c)]) :
    LCg.CompEnd h₀ L m s₁ I oI C oC D oD (LCg.SrcAt h₀ ax its) (fun y news' => RJ w rk n z x news0 (i + 1) (ys ++ [y]) news') (.ref e) { s₁ with heap := h', toks := tk } := by
  have off' := off.mem
  have na : ∀ a o, (a, o) ∈ ((I, oI) :: (C, oC) :: (D, oD) :: news) → a ∉ adr → a ≠ e ∧ a ≠ ed ∧ a ≠ fx := fun a o hm hn => fr a o (N _ hm).1 hn
  have nI := na I oI (by simp) fun hm => by obtain ⟨o, h⟩ := ha I hm; exact (off' _ h).1 rfl
  have nC := na C oC (by simp) fun hm => by obtain ⟨o, h⟩ := ha C hm; exact (off' _ h).2.1 rfl
  have nD := na D oD (by simp) fun hm => by obtain ⟨o, h⟩ := ha D hm; exact (off' _ h).2.2 rfl
  refine LCg.CompEnd.intro F' (newsApp N' E N) ((e, instObj 806 ed) :: (ed, encD w s1 s2 s3 s4 oct to fx f sh) :: (fx, W.listOf #[] c) :: news) ?_ ?_ ?_ ?_
  · intro p hp
    simp only [List.mem_cons, List.mem_append, List.not_mem_nil, or_false] at hp ⊢
    rcases hp with hp | hp | hp | hp | hp | hp | hp
    · exact .inr (.inl hp)
    · exact .inr (.inr (.inl hp))
    · exact .inr (.inr (.inr (.inl hp)))
    · exact .inl (.inl hp)
    · exact .inl (.inr (.inl hp))
    · exact .inl (.inr (.inr hp))
    · exact .inr (.inr (.inr (.inr hp)))
  · exact ⟨⟨Ne.symm nI.1, Ne.symm nC.1, Ne.symm nD.1⟩, ⟨Ne.symm nI.2.1, Ne.symm nC.2.1, Ne.symm nD.2.1⟩, ⟨Ne.symm nI.2.2, Ne.symm nC.2.2, Ne.symm nD.2.2⟩, off⟩
  · exact .inr ⟨_, List.mem_cons_of_mem _ (List.mem_cons_of_mem _ (List.mem_cons_of_mem _ hl)), rfl, _, rfl⟩
  · exact J.more hq hk (fun p hp => List.mem_cons_of_mem _ (List.mem_cons_of_mem _ (List.mem_cons_of_mem _ hp))) ⟨s1, s2, s3, s4, to, c, ed, fx, f, sh, by simp, by simp, by simp⟩
end

theorem RJ.fin {w : World} {rk : Str} {n z x : Int} {news0 news : List (Addr × Obj)} {ys : List Value} (J : RJ w rk n z x news0 16 ys news) (hz : Sz z) :
    (∃ P Q a b, outs rk n z x = [P, Q] ∧ ys = [.ref a, .ref b] ∧ EncAt w news a P ∧ EncAt w news b Q) ∨ ∃ P a, outs rk n z x = [P] ∧ ys = [.ref a] ∧ EncAt w news a P := by
  obtain ⟨_, es, h1, h2, h3⟩ := J
  rw [outs_all] at h3
  rcases outs_cases (rk := rk) (n := n) (x := x) hz with ⟨P, Q, h⟩ | ⟨P, h⟩
  · rw [h] at h3
    obtain ⟨a, b, rfl⟩ := two_of h3
    exact .inl ⟨P, Q, a, b, h, h1, h2 (a, P) (by simp), h2 (b, Q) (by simp)⟩
  · rw [h] at h3
    obtain ⟨a, rfl⟩ := one_of h3
    exact .inr ⟨P, a, h, h1, h2 (a, P) (by simp)⟩
set_option maxRecDepth 100000 in
set_option maxHeartbeats 0 in
theorem laid_two
  {w : World} {p : Program} {loose : List Str} {mean : ExcName → Option Value} {mg mb : Str → Option Value}
  {dp un : Nat} {gd : Option (List Code)} {cn : Str} {nms : List (Str × NameKind)} {isg isc : Bool} {scm : List (Str × Const)} {a : Addr} {ccd : Value} {cl : List (Str × Addr)} {outer : List Env} {A₀ : Around} {base h₀ : Heap} {L : Addr} {m : Str → Option Value} {s : Shared} {Q E : Value → Shared → Prop}
  {rk : Str} {n z x : Int} {hi : Bool} {t1 t2 t3 : Tok} {P9 Q9 : Array UInt8} (B : Below A₀ base outer h₀) (F : Fr h₀ L s.heap m) (X : (kk.heap_1 w.params).In h₀) (N : News h₀ L s.heap []) (T : Top p loose mean mg mb h₀)
    (hd : dp + 28 < 1000) (hu : un + 160 < 9900) (hz : Hid (Sz z)) (hR : RegOk rk n z) (hH : hi = (rk == "high")) (ho : outs rk n z x = [P9, Q9])
    (ret : ∀ (ll : Addr) (u1 u2 : Tok) (c : Nat)  (h' : Heap) (tk' : Nat), let mo0 : Obj := W.listOf #[.bytes P9 u1, .bytes Q9 u2] c; Fr h₀ L h' m → InElt s.heap h' → News h₀ L h' [(ll, mo0)] → Q (.ref ll) { s with heap := h', toks := tk' }) :
    wpAny (model Challenge.rw_nz0171_01.row.prog w) (ktrTop dp un gd cn ⟨.function, nms, isg, isc, scm⟩ L a ccd cl outer) (call (.ref 982) [.int n t1, .int z t2, .int x t3, .bool hi]) Q E s := by
  refine laid_c B F X N T hd hu hz hR hH fun ll u1 u2 c A B' hA hB arr hL h' tk' => ?_
  rcases hL with ⟨h, rfl⟩ | ⟨h, hs, rfl⟩ | ⟨h, hs, rfl⟩
  · rw [outs_lt (by rcases hz.out with e | e | e | e; exact .inl e; exact .inr (.inl e); exact .inr (.inr e); omega), ← hA, ← hB] at ho
    cases ho
    exact ret ll u1 u2 c h' tk'
  · rw [outs_s h hs, ← hA, ← hB] at ho
    cases ho
    exact ret ll u2 u1 c h' tk'
  · rw [outs_l h hs] at ho; cases ho

theorem row157 : True := by
  k_with "call ref" => ((with_reducible show wpAny _ _ (call (Value.ref 982) _) _ _ _); k_dflt (refine' laid_two ?k1 ?k2 ?k3 (cb_drop ?k4 ?k9) ?k5 ?k7 ?k8 ?h0 ?h1 ?h2 ?h3 ?_; (case k1 => k_asm); (case k2 => k_asm); (case k3 => k_asm); (case k4 => k_asm); (case k5 => k_asm); (case k9 => repeat (first | exact subNil | refine subCons (by k_mem) ?_)); (case k7 => (first | exact roomA hd rfl | exact roomB hd rfl | ((try simp only [depth_mark, depth_under_make, depth_under_kw, depth_in1, depth_deeper, depth_caller]); (try dsimp only [ktrTop]); omega))); (case k8 => (first | exact unitA hu rfl | ((try simp only [units_under_make, units_in1, units_deeper, Around.mark_units, units_caller]); (try dsimp only [ktrTop]); omega))); (case h0 => first | assumption | exact ⟨by unfold Sz; decide⟩); (case h1 => assumption); (case h2 => first | assumption | rfl); (case h3 => with_reducible assumption); k_whole); intro ll9 u19 u29 c9  h9 tk9 mo09 F9 E9 N9; (k_dflt (replace N9 := newsApp N9 E9 (by k_asm))); clear E9; (try dsimp only [List.nil_append, List.cons_append, List.append_nil] at N9); (try simp only [List.append_nil] at N9); (try dsimp only); (try k_fold); (try k_sweep); walk_say "CONTRACT laid_two")
  trivial
set_option maxRecDepth 100000 in
set_option maxHeartbeats 0 in
theorem laid_one
  {w : World} {p : Program} {loose : List Str} {mean : ExcName → Option Value} {mg mb : Str → Option Value}
  {dp un : Nat} {gd : Option (List Code)} {cn : Str} {nms : List (Str × NameKind)} {isg isc : Bool} {scm : List (Str × Const)} {a : Addr} {ccd : Value} {cl : List (Str × Addr)} {outer : List Env} {A₀ : Around} {base h₀ : Heap} {L : Addr} {m : Str → Option Value} {s : Shared} {Q E : Value → Shared → Prop}
  {rk : Str} {n z x : Int} {hi : Bool} {t1 t2 t3 : Tok} {P9 : Array UInt8} (B : Below A₀ base outer h₀) (F : Fr h₀ L s.heap m) (X : (kk.heap_1 w.params).In h₀) (N : News h₀ L s.heap []) (T : Top p loose mean mg mb h₀)
    (hd : dp + 28 < 1000) (hu : un + 160 < 9900) (hz : Hid (Sz z)) (hR : RegOk rk n z) (hH : hi = (rk == "high")) (ho : outs rk n z x = [P9])
    (ret : ∀ (ll : Addr) (u1 : Tok) (c : Nat)  (h' : Heap) (tk' : Nat), let mo0 : Obj := W.listOf #[.bytes P9 u1] c; Fr h₀ L h' m → InElt s.heap h' → News h₀ L h' [(ll, mo0)] → Q (.ref ll) { s with heap := h', toks := tk' }) :
    wpAny (model Challenge.rw_nz0171_01.row.prog w) (ktrTop dp un gd cn ⟨.function, nms, isg, isc, scm⟩ L a ccd cl outer) (call (.ref 982) [.int n t1, .int z t2, .int x t3, .bool hi]) Q E s := by
  refine laid_c B F X N T hd hu hz hR hH fun ll u1 u2 c A B' hA hB arr hL h' tk' => ?_
  rcases hL with ⟨h, rfl⟩ | ⟨h, hs, rfl⟩ | ⟨h, hs, rfl⟩
  · rw [outs_lt (by rcases hz.out with e | e | e | e; exact .inl e; exact .inr (.inl e); exact .inr (.inr e); omega)] at ho; cases ho
  · rw [outs_s h hs] at ho; cases ho
  · rw [outs_l h hs, ← hA] at ho
    cases ho
    exact ret ll u1 c h' tk'

theorem row158 : True := by
  k_with "call ref" => ((with_reducible show wpAny _ _ (call (Value.ref 982) _) _ _ _); k_dflt (refine' laid_one ?k1 ?k2 ?k3 (cb_drop ?k4 ?k9) ?k5 ?k7 ?k8 ?h0 ?h1 ?h2 ?h3 ?_; (case k1 => k_asm); (case k2 => k_asm); (case k3 => k_asm); (case k4 => k_asm); (case k5 => k_asm); (case k9 => repeat (first | exact subNil | refine subCons (by k_mem) ?_)); (case k7 => (first | exact roomA hd rfl | exact roomB hd rfl | ((try simp only [depth_mark, depth_under_make, depth_under_kw, depth_in1, depth_deeper, depth_caller]); (try dsimp only [ktrTop]); omega))); (case k8 => (first | exact unitA hu rfl | ((try simp only [units_under_make, units_in1, units_deeper, Around.mark_units, units_caller]); (try dsimp only [ktrTop]); omega))); (case h0 => first | assumption | exact ⟨by unfold Sz; decide⟩); (case h1 => assumption); (case h2 => first | assumption | rfl); (case h3 => with_reducible assumption); k_whole); intro ll9 u19 c9  h9 tk9 mo09 F9 E9 N9; (k_dflt (replace N9 := newsApp N9 E9 (by k_asm))); clear E9; (try dsimp only [List.nil_append, List.cons_append, List.append_nil] at N9); (try simp only [List.append_nil] at N9); (try dsimp only); (try k_fold); (try k_sweep); walk_say "CONTRACT laid_one")
  trivial
set_option maxRecDepth 100000 in
set_option maxHeartbeats 0 in
theorem matches_b
  {w : World} {p : Program} {loose : List Str} {mean : ExcName → Option Value} {mg mb : Str → Option Value}
  {dp un : Nat} {gd : Option (List Code)} {cn : Str} {nms : List (Str × NameKind)} {isg isc : Bool} {scm : List (Str × Const)} {a : Addr} {ccd : Value} {cl : List (Str × Addr)} {outer : List Env} {A₀ : Around} {base h₀ : Heap} {L : Addr} {m : Str → Option Value} {s : Shared} {Q E : Value → Shared → Prop}
  {k1 k2 : Str} {op es dg sz : Int} {f fd pt kt : Addr} {a1 a2 a3 a4 a5 a6 a7 a8 a9 a0 tn to te td ts tm tx t1 t2 u1 u2 : Tok} {i id ot o1 d1 o2 d2 r rd : Addr} {i1 i2 i3 i4 i5 p1 p2 p3 q1 q2 q3 q4 q5 q6 r1 r2 r3 r4 rk1 rn1 rz1 : Tok} {nm : Value} {rk : Str} {x n z : Int} {zk : Int} {b v : Bool} (B : Below A₀ base outer h₀) (F : Fr h₀ L s.heap m) (X : (kk.heap_1 w.params).In h₀) (N : News h₀ L s.heap [(f, instObj 257 fd), (fd, formD w a1 a2 a3 a4 a5 a6 a7 a8 a9 a0 "mov" tn kt op to es te dg td sz ts tm tx pt), (pt, tupO [.str (slotOf k1) u1, .str (slotOf k2) u2]), (kt, tupO [.str k1 t1, .str k2 t2]), (i, instObj 464 id), (id, insD w i1 i2 i3 i4 i5 ot), (ot, tupO [.ref o1, .ref o2]), (o1, instObj 377 d1), (d1, regO w p1 p2 p3 r), (o2, instObj 411 d2), (d2, immO w q1 q2 q3 q4 q5 q6 x), (r, instObj 938 rd), (rd, regD w r1 r2 r3 r4 nm rk rk1 n rn1 z rz1)]) (T : Top p loose mean mg mb h₀)
    (hd : dp + 44 < 1000) (hu : un + 280 < 9900) (hK : RegKind k1 zk) (hrk : (["gpr", "high"] : List Str).any (fun x => x == rk) = true) (hI : ImmWord k2 x sz b) (hv : (decide (z = zk) && b) = v)
    (ret : ∀   (h' : Heap) (tk' : Nat), Fr h₀ L h' m → InElt s.heap h' → News h₀ L h' [] → Q (.bool v) { s with heap := h', toks := tk' }) :
    wpAny (model Challenge.rw_nz0171_01.row.prog w) (ktrTop dp un gd cn ⟨.function, nms, isg, isc, scm⟩ L a ccd cl outer) (call (.ref 268) [.ref f, .ref i]) Q E s := by
  let no0 : Obj := instObj 257 fd
  let no1 : Obj := formD w a1 a2 a3 a4 a5 a6 a7 a8 a9 a0 "mov" tn kt op to es te dg td sz ts tm tx pt
  let no2 : Obj := tupO [.str (slotOf k1) u1, .str (slotOf k2) u2]
  let no3 : Obj := tupO [.str k1 t1, .str k2 t2]
  let no4 : Obj := instObj 464 id
  let no5 : Obj := insD w i1 i2 i3 i4 i5 ot
  let no6 : Obj := tupO [.ref o1, .ref o2]
  let no7 : Obj := instObj 377 d1
  let no8 : Obj := regO w p1 p2 p3 r
  let no9 : Obj := instObj 411 d2
  let no10 : Obj := immO w q1 q2 q3 q4 q5 q6 x
  let no11 : Obj := instObj 938 rd
  let no12 : Obj := regD w r1 r2 r3 r4 nm rk rk1 n rn1 z rz1
  replace N : News h₀ L s.heap [(f, no0), (fd, no1), (pt, no2), (kt, no3), (i, no4), (id, no5), (ot, no6), (o1, no7), (d1, no8), (o2, no9), (d2, no10), (r, no11), (rd, no12)] := N
  exact matches_c B F X N T hd hu hK hrk hI fun h' tk' F' E' N' => hv ▸ ret h' tk' F' E' N'

theorem row159 : True := by
  k_with "call ref" => ((with_reducible show wpAny _ _ (call (Value.ref 268) _) _ _ _); k_dflt (refine' matches_b ?k1 ?k2 ?k3 (cb_drop ?k4 ?k9) ?k5 ?k7 ?k8 ?h0 ?h1 ?h2 ?h3 ?_; (case k1 => k_asm); (case k2 => k_asm); (case k3 => k_asm); (case k4 => k_asm); (case k5 => k_asm); (case k9 => repeat (first | exact subNil | refine subCons (by k_mem) ?_)); (case k7 => (first | exact roomA hd rfl | exact roomB hd rfl | ((try simp only [depth_mark, depth_under_make, depth_under_kw, depth_in1, depth_deeper, depth_caller]); (try dsimp only [ktrTop]); omega))); (case k8 => (first | exact unitA hu rfl | ((try simp only [units_under_make, units_in1, units_deeper, Around.mark_units, units_caller]); (try dsimp only [ktrTop]); omega))); (case h0 => with_reducible assumption); (case h1 => with_reducible assumption); (case h2 => with_reducible assumption); (case h3 => with_reducible assumption); k_whole); intro   h9 tk9  F9 E9 N9; (k_dflt (replace N9 := newsApp N9 E9 (by k_asm))); clear E9; (try dsimp only [List.nil_append, List.cons_append, List.append_nil] at N9); (try simp only [List.append_nil] at N9); (try dsimp only); (try k_fold); (try k_sweep); walk_say "CONTRACT matches_b")
  trivial
theorem row160 : True := by
  k_with "call ref" => (guard_hyp scRight : True; k_here; (with_reducible show wpAny _ _ (call (Value.ref 304) _) _ _ _); k_dflt (refine' mov_forms_c ?k1 ?k2 ?k3 ?k4 ?k5 ?k7 ?k8 ?_; (case k1 => k_asm); (case k2 => k_asm); (case k3 => k_asm); (case k4 => exact fun _ h => nomatch h); (case k5 => k_asm); (case k7 => (first | exact roomA hd rfl | exact roomB hd rfl | ((try simp only [depth_mark, depth_under_make, depth_under_kw, depth_in1, depth_deeper, depth_caller]); (try dsimp only [ktrTop]); omega))); (case k8 => (first | exact unitA hu rfl | ((try simp only [units_under_make, units_in1, units_deeper, Around.mark_units, units_caller]); (try dsimp only [ktrTop]); omega))); k_whole); intro l9 b19 b29 b39 b49 b59 b69 b79 b89 b99 b109 b119 b129 b139 b149 b159 b169 nw9 n9 A9 h9 tk9 F9 E9 N9; (k_dflt (replace N9 := newsTail N9 E9 (by k_asm))); clear E9; (try dsimp only [List.nil_append, List.cons_append] at N9); (try dsimp only); (try k_fold); (try k_sweep); walk_say "MOV FORMS")
  trivial
theorem row161 : True := by
  k_with "storeName" => (guard_hyp scRight : True; k_here; k_dflt (refine' storeCell ?F ?N ?c ?d ?n ?_ ?a ?b; (case a => rfl); (case b => rfl); (case F => k_asm); (case N => k_asm); (case c => rfl); (case d => k_asm); (case n => rfl); k_whole); intro h' o' F' N' d'; (try dsimp only at N'); (try k_sweep))
  trivial
theorem row162 : True := by
  k_with "exec Assign cons ListComp" => (guard_hyp scRight : True; k_here; lct_look; lcg_calm; k_dflt (refine LCt.Assign_ListComp_T (F₀ := by k_asm) (by rfl) (by with_unfolding_all rfl) (by with_unfolding_all rfl) (by decide) (by rfl) (by decide) (by rfl) (by rfl) (by rfl) ?_); k_dflt lct_toSrc)
  trivial
theorem row163 : True := by
  k_with "eval Name" => (guard_hyp scRight : True; k_here; (with_reducible show wpAny _ _ (eval (Expr.Name (Str.ofString "instruction") _) (compEnvC _ _ _ _)) _ _ _); k_dflt (refine' kcf_cell ?frN ?frc ?frm ?frd ?_ ?fra ?frb ?frz; (case fra => rfl); (case frb => rfl); (case frz => decide); (case frN => k_asm); (case frc => rfl); (case frm => k_mem); (case frd => k_asm); k_whole; ))
  trivial
theorem row164 : True := by
  k_with "call ref" => (guard_hyp scRight : True; k_here; (with_reducible show wpAny _ _ (call (Value.ref 886) _) _ _ _); k_dflt (refine' encode_plus ?k1 ?k2 ?k3 (cb_drop ?k4 ?k9) ?k5 ?k7 ?k8 ?hR ?hK ?_; (case k1 => k_asm); (case k2 => k_asm); (case k3 => k_asm); (case k4 => k_asm); (case k5 => k_asm); (case k9 => repeat (first | exact subNil | refine subCons (by k_mem) ?_)); (case k7 => (first | exact roomA hd rfl | exact roomB hd rfl | ((try simp only [depth_mark, depth_under_make, depth_under_kw, depth_in1, depth_deeper, depth_caller]); (try dsimp only [ktrTop]); omega))); (case k8 => (first | exact unitA hu rfl | ((try simp only [units_under_make, units_in1, units_deeper, Around.mark_units, units_caller]); (try dsimp only [ktrTop]); omega))); (case hR => with_reducible assumption); (case hK => with_reducible assumption); k_whole); intro s1 s2 s3 s4 to c e ed fx fr h' tk' mo0 mo1 mo2 F' E' N'; k_dflt (refine turnEnd (by assumption) off9 n1 J9 hq9 rfl ?_ fr F' E' N'; (repeat (first | exact List.forall_mem_nil _ | refine List.forall_mem_cons.mpr ⟨⟨_, by k_mem⟩, ?_⟩))))
  trivial
theorem row165 : True := by
  k_with "call ref" => (guard_hyp scRight : True; k_here; (with_reducible show wpAny _ _ (call (Value.ref 886) _) _ _ _); k_dflt (refine' encode_rm ?k1 ?k2 ?k3 (cb_drop ?k4 ?k9) ?k5 ?k7 ?k8 ?hR ?hK ?_; (case k1 => k_asm); (case k2 => k_asm); (case k3 => k_asm); (case k4 => k_asm); (case k5 => k_asm); (case k9 => repeat (first | exact subNil | refine subCons (by k_mem) ?_)); (case k7 => (first | exact roomA hd rfl | exact roomB hd rfl | ((try simp only [depth_mark, depth_under_make, depth_under_kw, depth_in1, depth_deeper, depth_caller]); (try dsimp only [ktrTop]); omega))); (case k8 => (first | exact unitA hu rfl | ((try simp only [units_under_make, units_in1, units_deeper, Around.mark_units, units_caller]); (try dsimp only [ktrTop]); omega))); (case hR => with_reducible assumption); (case hK => with_reducible assumption); k_whole); intro s1 s2 s3 s4 to c e ed fx sh fr h' tk' mo0 mo1 mo2 F' E' N'; k_dflt (refine turnEnd (by assumption) off9 n1 J9 hq9 rfl ?_ fr F' E' N'; (repeat (first | exact List.forall_mem_nil _ | refine List.forall_mem_cons.mpr ⟨⟨_, by k_mem⟩, ?_⟩))))
  trivial
theorem row166 : True := by
  k_with "CompSrcT" => (guard_hyp scRight : True; k_here; k_dflt (refine' LCt.CompSrcT.ledger (by rfl) (by k_asm) (by k_asm) (by k_mem) (by exact Nat.le_of_ble_eq_true rfl) ?_); intro g9; k_dflt (refine' restAllT (n := 16) (RJ w rk n z x _) ?st ?fin _ 0 [] _ (by rfl) RJ.start; (case' st => clear N9 F9; have scMem : True := trivial; intro i9 ys9 news9 hi9 J9 v9 I9 oI9 C9 oC9 D9 m9 h9 tk9 E9 hv9 hC9 hx9 F9 N9 off9 ne9; obtain ⟨f9, S9, rfl, hS9, B9⟩ := forms_at A9 i9 v9 hv9; obtain ⟨q9, hq9, G9⟩ := fcases hx i9 S9 hS9; clear hS9 hv9 hi9; have hb9 := J9.1; replace B9 := FormAt.sub B9 (fun p hp _ => hb9 p (by repeat (first | exact hp | refine List.mem_cons_of_mem _ ?_))); clear A9; simp only [List.forall_mem_cons] at hb9; obtain ⟨n1, n2, n3, n4, n5, n6, n7, n8, n9, n10, n11, n12, n13⟩ := hb9; clear n13; obtain ⟨k1, k2, op, es, dg, sz⟩ := S9; obtain ⟨a1, a2, a3, a4, a5, a6, a7, a8, a9, a0, tn, to, te, td, ts, tm, tx, t1, t2, u1, u2, d, pt, kt, m1, m2, m3, m4⟩ := B9; dsimp only at m1 m2 m3 m4; rcases G9 with ⟨g1, g2, g3⟩ | ⟨g1, g2, g3, gs, go, ge, gd, gp, gq, gi⟩ | ⟨g1, g2, g3, gs, go, ge, gd, gp, gq, gi, gz⟩; (all_goals dsimp only at g1 g2 g3); (case' plus => dsimp only at gs go ge gd gp gq gi; replace gs := gs.symm; subst gs; subst go; subst ge; subst gd; have m5 := m3; rw [gp, gq] at m5); (case' rm => dsimp only at gs go ge gd gp gq gi; subst gz; replace gs := gs.symm; subst gs; subst go; subst ge; subst gd; have m5 := m3; rw [gp, gq] at m5)); (case' fin => clear N9 F9; intro ys9 news9 J9 D9 h9 tk9 F9 N9 off9; clear off9 A9; have hb9 := J9.1; simp only [List.forall_mem_cons] at hb9; obtain ⟨n1, n2, n3, n4, n5, n6, n7, n8, n9, n10, n11, n12, n13⟩ := hb9; clear n1 n2 n3 n4 n5 n6 n7 n8 n9 n10 n13; rcases RJ.fin J9 hz.out with ⟨P9, Q9, ea9, eb9, ho9, rfl, ⟨s1, s2, s3, s4, to, c, ed, fx, f, sh, e1, e2, e3⟩, ⟨u1, u2, u3, u4, uo, v, vd, vx, g, sg, e4, e5, e6⟩⟩ | ⟨P9, ea9, ho9, rfl, ⟨s1, s2, s3, s4, to, c, ed, fx, f, sh, e1, e2, e3⟩⟩; (all_goals clear J9); (all_goals first | (replace N9 := dropTo [(D9, W.listOf #[.ref ea9, .ref eb9] 2), (ea9, instObj 806 ed), (ed, encD w s1 s2 s3 s4 P9 to fx f sh), (fx, W.listOf #[] c), (eb9, instObj 806 vd), (vd, encD w u1 u2 u3 u4 Q9 uo vx g sg), (vx, W.listOf #[] v), (r, no0), (rd, no1)] N9 (by repeat (first | exact subNil | refine subCons (by first | exact List.Mem.head _ | exact List.mem_cons_of_mem _ (by assumption)) ?_)); clear n11 n12 e1 e2 e3 e4 e5 e6) | (replace N9 := dropTo [(D9, W.listOf #[.ref ea9] 1), (ea9, instObj 806 ed), (ed, encD w s1 s2 s3 s4 P9 to fx f sh), (fx, W.listOf #[] c), (r, no0), (rd, no1)] N9 (by repeat (first | exact subNil | refine subCons (by first | exact List.Mem.head _ | exact List.mem_cons_of_mem _ (by assumption)) ?_)); clear n11 n12 e1 e2 e3)); (all_goals (try dsimp only)))))
  trivial
theorem row167 : True := by
  k_with "CompEnd" => (guard_hyp scRight : True; (fail_if_success guard_hyp scMem : True); k_dflt (first | (refine' endSame ?zzF ?zzE ?zzN ?zzB ?zzC ?_; (case zzN => assumption); (case zzE => rfl); (case zzF => assumption); (case zzB => assumption); (case zzC => exact Or.inr ⟨_, by k_mem, rfl, _, rfl⟩)) | (refine' endNew ?zwF ?zwE ?zwN ?zw1 ?zwB ?zwC ?_; (case zwN => assumption); (case zwE => rfl); (case zwF => assumption); (case zwB => assumption); (case zw1 => k_dflt assumption); (case zwC => exact Or.inr ⟨_, by k_mem, rfl, _, rfl⟩))))
  trivial
theorem row168 : True := by
  k_with "CompRest" => (guard_hyp scRight : True; (with_unfolding_all refine LCg.CompRest.succ ?_); intro v' I' oI' C' oC' D' m' h' tk' E' hv' hC' hx' F' N' off' ne'; lcg_open hv'; (try dsimp only))
  trivial
theorem row169 : True := by
  k_with "CompEnd" => (guard_hyp scRight : True; k_dflt (exact turnNo (by assumption) (by assumption) off9 n1 J9 hq9))
  trivial
theorem row170 : True := by
  k_with "compareOp Eq ref ref" => (guard_hyp scRight : True; (fail_if_success guard_hyp Q9 : Array UInt8); k_here; (with_reducible show wpAny _ _ (compareOp CmpOp.Eq (Value.ref _) (Value.ref _)) _ _ _); k_dflt (refine' eq_bytes1 ?qa ?qb ?qu ?_; (case qa => exact News.isList (by k_asm) (by k_mem)); (case qb => exact News.isList (by k_asm) (by k_mem)); (case qu => (unfold PySem.cLine; (first | exact unitA hu rfl | ((try simp only [units_under_make, units_in1, units_deeper, Around.mark_units, units_caller]); (try dsimp only [ktrTop]); omega))))))
  trivial
theorem row171 : True := by
  k_with "compareOp NotEq ref ref" => (guard_hyp scRight : True; (fail_if_success guard_hyp Q9 : Array UInt8); k_here; (with_reducible show wpAny _ _ (compareOp CmpOp.NotEq (Value.ref _) (Value.ref _)) _ _ _); k_dflt (refine' ne_empty1 ?qN ?qa ?qb ?qe0 ?qf0 ?qu ?_; (case qN => k_asm); (case qa => k_mem); (case qb => k_mem); (case qe0 => k_mem); (case qf0 => k_mem); (case qu => (unfold PySem.cLine; (first | exact unitA hu rfl | ((try simp only [units_under_make, units_in1, units_deeper, Around.mark_units, units_caller]); (try dsimp only [ktrTop]); omega))))))
  trivial
theorem row172 : True := by
  k_with "compareOp Eq ref ref" => (guard_hyp scRight : True; (guard_hyp Q9 : Array UInt8); k_here; (with_reducible show wpAny _ _ (compareOp CmpOp.Eq (Value.ref _) (Value.ref _)) _ _ _); k_dflt (refine' eq_bytes2 ?qa ?qb ?qu ?_; (case qa => exact News.isList (by k_asm) (by k_mem)); (case qb => exact News.isList (by k_asm) (by k_mem)); (case qu => (unfold PySem.cLine; (first | exact unitA hu rfl | ((try simp only [units_under_make, units_in1, units_deeper, Around.mark_units, units_caller]); (try dsimp only [ktrTop]); omega))))))
  trivial
theorem row173 : True := by
  k_with "compareOp NotEq ref ref" => (guard_hyp scRight : True; (guard_hyp Q9 : Array UInt8); k_here; (with_reducible show wpAny _ _ (compareOp CmpOp.NotEq (Value.ref _) (Value.ref _)) _ _ _); k_dflt (refine' ne_empty2 ?qN ?qa ?qb ?qe0 ?qe1 ?qf0 ?qf1 ?qu ?_; (case qN => k_asm); (case qa => k_mem); (case qb => k_mem); (case qe0 => k_mem); (case qf0 => k_mem); (case qe1 => k_mem); (case qf1 => k_mem); (case qu => (unfold PySem.cLine; (first | exact unitA hu rfl | ((try simp only [units_under_make, units_in1, units_deeper, Around.mark_units, units_caller]); (try dsimp only [ktrTop]); omega))))))
  trivial
section
local macro_rules | `(tactic| k_enter) => `(tactic| k_extra "Mine k_enter")
theorem row174 : True := by
  k_with "Mine k_enter" => ((k_inElt; (refine' code_defCG ?k1 ?k2 ?k3 ?k4 ?k5 ?kA ?kF ?kK ?k6 ?k7 ?k8 ?k9 ?kB ?kD ?_ ?c2 ?c3 ?c4; (case kA => exact rfl); (case kF => exact rfl); (case kK => exact rfl); (case k1 => k_asm); (case k2 => k_asm); (case k3 => k_asm); (case k4 => k_asm); (case k5 => k_asm); (case k6 => k_is); (case k7 => k_is); (case k8 => k_room); (case k9 => first | exact BindsTo.of_eq rfl | exact binds_K (by k_in) rfl (by k_is) rfl rfl rfl); (case kB => exact rfl); (case kD => decide +kernel); (case c2 => exact rfl); (case c3 => exact rfl); (case c4 => exact rfl); k_whole; intro g' L' h' tk' cells' FG' F' N' Y' B' X' T' l1 kG'; (try k_lt l1); k_cells Y'; (try simp only [List.cons_append, List.nil_append] at N'); (try dsimp only); (try k_lift B'); (try k_fold))))
  trivial
local macro_rules | `(tactic| k_mem) => `(tactic| k_extra "Mine k_mem")
theorem row175 : True := by
  k_with "Mine k_mem" => ((first | ktr_member | exact List.Mem.head _ | (refine List.mem_cons_of_mem _ ?_; k_mem)))
  trivial
set_option maxRecDepth 100000 in
set_option maxHeartbeats 0 in
theorem right_c
  {w : World} {p : Program} {loose : List Str} {mean : ExcName → Option Value} {mg mb : Str → Option Value}
  {dp un : Nat} {gd : Option (List Code)} {cn : Str} {nms : List (Str × NameKind)} {isg isc : Bool} {scm : List (Str × Const)} {a : Addr} {ccd : Value} {cl : List (Str × Addr)} {outer : List Env} {A₀ : Around} {base h₀ : Heap} {L : Addr} {m : Str → Option Value} {s : Shared} {Q E : Value → Shared → Prop}
  {r rd : Addr} {r1 r2 r3 r4 rk1 rn1 rz1 : Tok} {nm : Value} {rk : Str} {n z : Int} {x : Int} {hi : Bool} {t1 t2 t3 : Tok} (B : Below A₀ base outer h₀) (F : Fr h₀ L s.heap m) (X : (kk.heap_1 w.params).In h₀) (N : News h₀ L s.heap [(r, instObj 938 rd), (rd, regD w r1 r2 r3 r4 nm rk rk1 n rn1 z rz1)]) (T : Top p loose mean mg mb h₀)
    (hd : dp + 140 < 1000) (hu : un + 1200 < 9900) (hz : Hid (Sz z)) (hR : RegOk rk n z) (hH : hi = (rk == "high")) (hx : fitsB x z = true)
    (ret : ∀   (h' : Heap) (tk' : Nat), Fr h₀ L h' m → InElt s.heap h' → News h₀ L h' [] → Q (.bool true) { s with heap := h', toks := tk' }) :
    wpAny (model Challenge.rw_nz0171_01.row.prog w) (ktrTop dp un gd cn ⟨.function, nms, isg, isc, scm⟩ L a ccd cl outer) (call (.ref 987) [.ref r, .int n t1, .int z t2, .int x t3, .bool hi]) Q E s := by
  let no0 : Obj := instObj 938 rd
  let no1 : Obj := regD w r1 r2 r3 r4 nm rk rk1 n rn1 z rz1
  replace N : News h₀ L s.heap [(r, no0), (rd, no1)] := N
  have scRight : True := trivial
  have hrk : (["gpr", "high"] : List Str).any (fun x => x == rk) = true := by rcases hR.fit with ⟨rfl, _⟩ | ⟨rfl, _⟩ <;> decide
  w_on; revert X; k_fill; intro X; have cE0 := InElt.start s.heap; k_steps
  all_goals (refine' ret _ _ ?cF ?cE ?cN; (case cF => assumption); (case cE => (first | assumption | (refine' elt_afterC ?e1 ?e2 ?e3 ?e4 ?e5 ?e6; (case e2 => assumption); (case e1 => assumption); (case e3 => assumption); (case e4 => assumption); (case e5 => assumption); (case e6 => repeat (first | exact List.forall_mem_nil _ | refine List.forall_mem_cons.mpr ⟨(by first | exact Or.inr (by with_reducible assumption) | exact Or.inl (by k_mem)), ?_⟩))))); (case cN => (first | assumption | (refine' cb_drop ?cbN ?cbS; (case cbN => assumption); (case cbS => kcj_all)))))

theorem row176 : True := by
  k_with "call ref" => ((with_reducible show wpAny _ _ (call (Value.ref 987) _) _ _ _); k_dflt (refine' right_c ?k1 ?k2 ?k3 (cb_drop ?k4 ?k9) ?k5 ?k7 ?k8 ?h0 ?h1 ?h2 ?h3 ?_; (case k1 => k_asm); (case k2 => k_asm); (case k3 => k_asm); (case k4 => k_asm); (case k5 => k_asm); (case k9 => repeat (first | exact subNil | refine subCons (by k_mem) ?_)); (case k7 => (first | exact roomA hd rfl | exact roomB hd rfl | ((try simp only [depth_mark, depth_under_make, depth_under_kw, depth_in1, depth_deeper, depth_caller]); (try dsimp only [ktrTop]); omega))); (case k8 => (first | exact unitA hu rfl | ((try simp only [units_under_make, units_in1, units_deeper, Around.mark_units, units_caller]); (try dsimp only [ktrTop]); omega))); (case h0 => first | assumption | omega | decide); (case h1 => first | assumption | omega | decide); (case h2 => first | assumption | omega | decide); (case h3 => first | assumption | omega | decide); k_whole); intro   h9 tk9  F9 E9 N9; (k_dflt (replace N9 := newsApp N9 E9 (by k_asm))); clear E9; (try dsimp only [List.nil_append, List.cons_append, List.append_nil] at N9); (try simp only [List.append_nil] at N9); (try dsimp only); (try k_fold); (try k_sweep); walk_say "CONTRACT right_c")
  trivial
end

section
variable {prog : Program} {w : World} {A : Around} {E : Value → Shared → Prop} {s : Shared} {env : Env} {h₀ : Heap} {body : List Stmt} {Q : Flow → Shared → Prop}
theorem enum4_turns {elts : List Expr} {k : Nat} {pos : Pos} {l : Addr} {x1 x2 x3 x4 : Value} {m₀ : Str → Option Value} {news : List (Addr × Obj)}
    (hh : A.handled = none) (F : Fr h₀ env.locals s.heap m₀) (N : News h₀ env.locals s.heap news) (hm : (l, tupO [x1, x2, x3, x4]) ∈ news)
    (rest₀ : ∀ I : Addr, (∀ p ∈ news, p.1 < I) → ItemsRest prog w A E h₀ env (.Tuple elts k pos) body Q s [(I + 1, "enumerate"), (I, "tuple_iterator")] [(l, tupO [x1, x2, x3, x4])] [.pair (fun t => .int (0 : Int) t) x1, .pair (fun t => .int (1 : Int) t) x2, .pair (fun t => .int (2 : Int) t) x3, .pair (fun t => .int (3 : Int) t) x4] m₀ news) :
    wpAny (model prog w) A (call (.type "enumerate") [.ref l]) (fun xv s₁ => wpAny (model prog w) A (pyIter xv) (fun it s₂ => TurnsAt prog w A h₀ env (.Tuple elts k pos) body Q E it s₂) E s₁) E s := by
  have hax := N _ hm
  have hl : s.heap.IsTuple l [x1, x2, x3, x4].toArray := ⟨_, hax.1, rfl, _, rfl⟩
  have hlt : l < s.heap.objs.size := Heap.lt_size hax.1
  have hLs : env.locals < s.heap.objs.size := F.ns.lt
  refine enumT_call hl fun h' hI hE hk => ?_
  refine wpAny_pyIter_enum hE ?_
  refine ktu_core (tk0 := s.toks) (keep := [(l, tupO [x1, x2, x3, x4])]) (KTurns.ofWalksU (WalksT.enumerateD (drawsTup (A := A.in1) hh s.heap.objs.size l (Nat.ne_of_lt hlt) [x1, x2, x3, x4].toArray) (s.heap.objs.size + 1) (Nat.succ_ne_self _) ?_ (by simp)).toU) rfl ?_ ?_ ?_ ?_ ?_ ?_ ?_ ?_ (F.keeps hk) (N.grown hk) (And.intro hm trivial) (rest₀ _ fun p hp => Heap.lt_size (N p hp).1)
  · intro hb
    have hb' : s.heap.objs.size + 1 = s.heap.objs.size ∨ s.heap.objs.size + 1 = l := by simpa using hb
    rcases hb' with e | e
    · exact Nat.succ_ne_self _ e
    · exact ktu_ne 1 hlt e.symm
  · rintro i v h ⟨T, vals, rfl, ⟨t, x, hx, rfl⟩, hT⟩
    match i, hx with
    | 0, hx => cases hx; exact ⟨_, rfl, T, t, rfl, hT⟩
    | 1, hx => cases hx; exact ⟨_, rfl, T, t, rfl, hT⟩
    | 2, hx => cases hx; exact ⟨_, rfl, T, t, rfl, hT⟩
    | 3, hx => cases hx; exact ⟨_, rfl, T, t, rfl, hT⟩
    | i + 4, hx => cases hx
  · rintro i h ⟨⟨old, he⟩, ⟨oi, hoi, hic, _⟩, _⟩
    have he' : ∃ oe : Obj, h.get? (s.heap.objs.size + 1) = some oe ∧ oe.cls = .type "enumerate" := ⟨_, he, rfl⟩
    obtain ⟨oe, h1, h2⟩ := he'
    refine ⟨[(s.heap.objs.size + 1, oe), (s.heap.objs.size, oi)], ⟨⟨rfl, h2⟩, ⟨rfl, hic⟩, trivial⟩, fun p hp => ?_⟩
    rcases List.mem_cons.mp hp with rfl | hp
    · exact h1
    · rw [List.mem_singleton.mp hp]; exact hoi
  · intro b hb
    have hb' : b = s.heap.objs.size + 1 ∨ b = s.heap.objs.size := by simpa using hb
    rcases hb' with rfl | rfl
    · exact ⟨by simp, ktu_new F (Nat.le_add_right _ _)⟩
    · exact ⟨by simp, ktu_new F (Nat.le_refl _)⟩
  · intro b hb
    simpa using hb
  · intro b hb
    have hb' : b = s.heap.objs.size + 1 ∨ b = s.heap.objs.size ∨ b = l := by simpa using hb
    rcases hb' with rfl | rfl | rfl
    · exact .inl (by simp)
    · exact .inl (by simp)
    · exact .inr ⟨_, List.mem_singleton.mpr rfl⟩
  · intro hI'
    have hb' : env.locals = s.heap.objs.size + 1 ∨ env.locals = s.heap.objs.size ∨ env.locals = l := by simpa using hI'
    rcases hb' with e | e | e
    · exact ktu_ne 1 hLs e
    · exact Nat.ne_of_lt hLs e
    · exact hax.2.1 e.symm
  · intro p hp hI'
    have hb' : p.1 = s.heap.objs.size + 1 ∨ p.1 = s.heap.objs.size := by simpa using hI'
    have hlp := Heap.lt_size (N p hp).1
    rcases hb' with e | e
    · exact ktu_ne 1 hlp e
    · exact Nat.ne_of_lt hlp e
  · exact ⟨⟨.none, hE⟩, ⟨_, hI, rfl, rfl⟩, hl.at fun o e => hk l o e⟩

/-- the turns over the sizes, one and all -/
theorem itemsAll {elts : List Expr} {k : Nat} {pos : Pos} {l : Addr} {ws : List (Addr × String)} {keep news0 : List (Addr × Obj)} {L : Addr} {g : Heap} (_N : News h₀ L g news0) (hL : L = env.locals) (hsub : SubL keep news0)
    (turn : ∀ (sp z : Int) (tz : Tok) (m : Str → Option Value) (Rest : (Str → Option Value) → List (Addr × Obj) → Prop), 0 ≤ sp → Hid (Sz z) → (∀ m', m' (Str.ofString "cells") = some (.ref l) → Rest m' news0) →
      ∀ T t h tk, IsTup h T #[.int sp t, .int z tz] → Fr h₀ L h (fun y => if y = Str.ofString "cells" then some (.ref l) else m y) → AllObj ws (fun its => News h₀ L h (its ++ news0) →
        wpAny (model prog w) A (assign (.Tuple elts k pos) env (.ref T)) (fun _ s₂ => wpAny (model prog w) A (execs body env) (UnrPostW h₀ L { s with heap := h, toks := tk } its Rest Q) E s₂) E { s with heap := h, toks := tk }))
    (fin : ∀ (m : Str → Option Value) (h : Heap) (tk : Nat), Fr h₀ L h (fun y => if y = Str.ofString "cells" then some (.ref l) else m y) → News h₀ L h news0 → Q .next { s with heap := h, toks := tk }) :
    ∀ (its : List Itm), (∀ a ∈ its, ∃ (sp z : Int) (tz : Tok), a = .pair (fun t => .int sp t) (.int z tz) ∧ 0 ≤ sp ∧ Sz z) → ∀ m, m (Str.ofString "cells") = some (.ref l) → ItemsRest prog w A E h₀ env (.Tuple elts k pos) body Q s ws keep its m news0
  | [], _, m, hm => by subst hL; exact ItemsRest.zero fun h tk F N => fin m h tk (frSame F hm) N
  | a :: r, hg, m, hm => by
    obtain ⟨sp, z, tz, rfl, h0, hz⟩ := hg a (List.mem_cons_self ..)
    subst hL
    exact ItemsRest.pair fun T t h tk hT F => turn sp z tz m _ h0 ⟨hz⟩ (fun m' hm' => ⟨hsub, itemsAll _N rfl hsub turn fin r (fun b hb => hg b (List.mem_cons_of_mem _ hb)) m' hm'⟩) T t h tk hT (frSame F hm)
end
theorem fours {t8 t16 t32 t64 : Tok} : ∀ a ∈ ([.pair (fun t => .int (0 : Int) t) (.int 8 t8), .pair (fun t => .int (1 : Int) t) (.int 16 t16), .pair (fun t => .int (2 : Int) t) (.int 32 t32), .pair (fun t => .int (3 : Int) t) (.int 64 t64)] : List Itm), ∃ (sp z : Int) (tz : Tok), a = .pair (fun t => .int sp t) (.int z tz) ∧ 0 ≤ sp ∧ Sz z := by
  intro a ha
  simp only [List.mem_cons, List.not_mem_nil, or_false] at ha
  rcases ha with rfl | rfl | rfl | rfl
  · exact ⟨0, 8, _, rfl, by decide, .inl rfl⟩
  · exact ⟨1, 16, _, rfl, by decide, .inr (.inl rfl)⟩
  · exact ⟨2, 32, _, rfl, by decide, .inr (.inr (.inl rfl))⟩
  · exact ⟨3, 64, _, rfl, by decide, .inr (.inr (.inr rfl))⟩
section
variable {prog : Program} {w : World} {A : Around} {E : Value → Shared → Prop} {s : Shared} {Q : Value → Shared → Prop}
theorem itemC {value slice : Expr} {l : Addr} {vs : List Value} {ns : List Int} {k : Int} {u : Tok} (hl : s.heap.IsList l vs.toArray) (I : IntsAre vs ns) (hk : 0 ≤ k ∧ k < (ns.length : Int)) (hn : ns.length ≤ 10) (h : ∀ c t, Q (.int c t) s)
    (hs : subscripted slice false (.ref l) (.int k u) = operate [.ref l, .int k u] (getItem (.ref l) (.int k u)) := by with_unfolding_all rfl) : wpAny (model prog w) A (subscriptTail value slice (.ref l) (.int k u)) Q E s := by
  have hlt : k.toNat < vs.length := by rw [I.length]; omega
  obtain ⟨c, t, e, _⟩ := I.at k.toNat vs[k.toNat] (List.getElem?_eq_getElem hlt)
  exact item_litK hl hk.1 (by omega) (v := .int c t) (by rw [List.getElem?_eq_getElem hlt, e]) (h c t) hs
theorem modLen {x : Int} {k : Nat} {t u : Tok} (hk : 1 ≤ k) (h : Q (.int (x.fmod (k : Int)) s.toks) { s with toks := s.toks + 1 }) : wpAny (model prog w) A (binaryOp .Mod (.int x t) (.int (k : Int) u)) Q E s :=
  mod_int' (by omega) h
end
theorem lenCells {l : Addr} {vs : List Value} {ns : List Int} {prog : Program} {w : World} {A : Around} {E : Value → Shared → Prop} {s : Shared} {Q : Value → Shared → Prop} (hl : s.heap.IsList l vs.toArray) (I : IntsAre vs ns) (hn : ns.length ≤ 10) (h : ∀ t k, Q (.int (ns.length : Int) t) { s with toks := k }) :
    wpAny (model prog w) A (call (.builtin "len") [.ref l]) Q E s :=
  len_list hl (by have := I.length; simp; omega) (by have := I.length; simpa [this] using h _ _)
theorem inLen {x : Int} {k : Nat} (h : 1 ≤ k) : 0 ≤ x.fmod (k : Int) ∧ x.fmod (k : Int) < (k : Int) := by
  rw [Int.fmod_eq_emod_of_nonneg _ (by omega)]; exact ⟨Int.emod_nonneg _ (by omega), Int.emod_lt_of_pos _ (by omega)⟩
theorem inLast {k : Nat} (h : 1 ≤ k) : 0 ≤ (k : Int) - 1 ∧ (k : Int) - 1 < (k : Int) := by omega
theorem fmLo (c : Int) : 0 ≤ c.fmod 16 := by rw [Int.fmod_eq_emod_of_nonneg _ (by decide)]; omega
theorem fmHi (c : Int) : c.fmod 16 ≤ 15 := by rw [Int.fmod_eq_emod_of_nonneg _ (by decide)]; omega
theorem hmLo (c : Int) : 4 ≤ 4 + c.fmod 4 := by rw [Int.fmod_eq_emod_of_nonneg _ (by decide)]; omega
theorem hmHi (c : Int) : 4 + c.fmod 4 ≤ 7 := by rw [Int.fmod_eq_emod_of_nonneg _ (by decide)]; omega
theorem okG (c z : Int) : RegOk "gpr" (c.fmod 16) z := ⟨.inl ⟨rfl, fmLo c, fmHi c⟩⟩
theorem okH (c : Int) : RegOk "high" (4 + c.fmod 4) 8 := ⟨.inr ⟨rfl, hmLo c, hmHi c, rfl⟩⟩
section
variable {M : Model} {A : Around} {E : Value → Shared → Prop} {s : Shared} {h₀ : Heap} {L : Addr} {m : Str → Option Value} {news : List (Addr × Obj)}
/-- the ways meet in a list of one to ten ints -/
structure MetC (h₀ : Heap) (L : Addr) (m : Str → Option Value) (news : List (Addr × Obj)) (s : Shared) (v : Value) (s' : Shared) : Prop where
  out : ∃ l vs ns k h tk, v = .ref l ∧ s' = { s with heap := h, toks := tk } ∧ Fr h₀ L h m ∧ News h₀ L h ((l, W.listOf (List.toArray vs) k) :: news) ∧ IntsAre vs ns ∧ 1 ≤ ns.length ∧ ns.length ≤ 10
theorem metC {l : Addr} {vs : List Value} {ns : List Int} {k tk : Nat} {h : Heap} {v : Value} {s' : Shared} {all : List (Addr × Obj)} (e : v = .ref l) (e' : s' = { s with heap := h, toks := tk }) (F : Fr h₀ L h m) (N : News h₀ L h all) (S : ∀ p ∈ (l, W.listOf (List.toArray vs) k) :: news, p ∈ all) (I : IntsAre vs ns) (h1 : 1 ≤ ns.length) (h2 : ns.length ≤ 10) : MetC h₀ L m news s v s' :=
  ⟨l, vs, ns, k, h, tk, e, e', F, fun p hp => N p (S p hp), I, h1, h2⟩
theorem meetC {Q : Value → Shared → Prop} {c : Sem Value} (_F : Fr h₀ L s.heap m) (_N : News h₀ L s.heap news) (hc : wpAny M A c (MetC h₀ L m news s) E s)
    (hk : ∀ l vs ns k h tk, Fr h₀ L h m → News h₀ L h ((l, W.listOf (List.toArray vs) k) :: news) → IntsAre vs ns → Hid (1 ≤ ns.length) → Hid (ns.length ≤ 10) → Q (.ref l) { s with heap := h, toks := tk }) : wpAny M A c Q E s :=
  wpAny_mono hc (fun _ _ ⟨l, vs, ns, k, h, tk, e, e', F, N, I, h1, h2⟩ => by subst e; subst e'; exact hk l vs ns k h tk F N I ⟨h1⟩ ⟨h2⟩) fun _ _ h => h
end
set_option maxRecDepth 100000 in
set_option maxHeartbeats 0 in
theorem worth_z
  {w : World} {p : Program} {loose : List Str} {mean : ExcName → Option Value} {mg mb : Str → Option Value}
  {dp un : Nat} {gd : Option (List Code)} {cn : Str} {nms : List (Str × NameKind)} {isg isc : Bool} {scm : List (Str × Const)} {a : Addr} {ccd : Value} {cl : List (Str × Addr)} {outer : List Env} {A₀ : Around} {base h₀ : Heap} {L : Addr} {m : Str → Option Value} {s : Shared} {Q E : Value → Shared → Prop}
  {r z : Int} {t1 t2 : Tok} (B : Below A₀ base outer h₀) (F : Fr h₀ L s.heap m) (X : (kk.heap_1 w.params).In h₀) (N : News h₀ L s.heap []) (T : Top p loose mean mg mb h₀)
    (hd : dp + 24 < 1000) (hu : un + 130 < 9900) (hz : Hid (Sz z))
    (ret : ∀ (x : Int) (t' : Tok) (hx : fitsB x z = true)  (h' : Heap) (tk' : Nat), Fr h₀ L h' m → InElt s.heap h' → News h₀ L h' [] → Q (.int x t') { s with heap := h', toks := tk' }) :
    wpAny (model Challenge.rw_nz0171_01.row.prog w) (ktrTop dp un gd cn ⟨.function, nms, isg, isc, scm⟩ L a ccd cl outer) (call (.ref 977) [.int r t1, .int z t2]) Q E s := by
  rcases hz.out with rfl | rfl | rfl | rfl
  · exact worth8_c B F X N T hd hu ret
  · exact worth16_c B F X N T hd hu ret
  · exact worth32_c B F X N T hd hu ret
  · exact worth64_c B F X N T hd hu ret

theorem row177 : True := by
  k_with "call ref" => (guard_hyp scLaw : True; (with_reducible show wpAny _ _ (call (Value.ref 977) _) _ _ _); k_dflt (refine' worth_z ?k1 ?k2 ?k3 (cb_drop ?k4 ?k9) ?k5 ?k7 ?k8 ?h0 ?_; (case k1 => k_asm); (case k2 => k_asm); (case k3 => k_asm); (case k4 => k_asm); (case k5 => k_asm); (case k9 => repeat (first | exact subNil | refine subCons (by k_mem) ?_)); (case k7 => (first | exact roomA hd rfl | exact roomB hd rfl | ((try simp only [depth_mark, depth_under_make, depth_under_kw, depth_in1, depth_deeper, depth_caller]); (try dsimp only [ktrTop]); omega))); (case k8 => (first | exact unitA hu rfl | ((try simp only [units_under_make, units_in1, units_deeper, Around.mark_units, units_caller]); (try dsimp only [ktrTop]); omega))); (case h0 => first | assumption | exact ⟨by unfold Sz; decide⟩); k_whole); intro x9 t9 hx9  h9 tk9  F9 E9 N9; (k_dflt (replace N9 := newsApp N9 E9 (by k_asm))); clear E9; (try dsimp only [List.nil_append, List.cons_append, List.append_nil] at N9); (try simp only [List.append_nil] at N9); (try dsimp only); (try k_fold); (try k_sweep); walk_say "CONTRACT worth_z")
  trivial
def kAddrs : List Addr := [2, 3, 15, 17, 18, 20, 21, 22, 29, 30, 32, 33, 35, 36, 37, 39, 40, 42, 43, 44, 45, 46, 47, 50, 57, 58, 59, 62, 69, 70, 71, 74, 76, 77, 79, 80, 81, 83, 84, 86, 87, 88, 90, 91, 93, 94, 95, 97, 98, 100, 101, 102, 104, 105, 107, 108, 109, 111, 112, 114, 115, 116, 118, 119, 121, 122, 123, 125, 126, 128, 129, 130, 132, 133, 135, 136, 137, 139, 140, 142, 143, 144, 146, 147, 149, 150, 151, 153, 154, 156, 157, 158, 160, 161, 163, 164, 165, 167, 168, 170, 171, 172, 174, 175, 177, 178, 179, 181, 182, 184, 185, 186, 188, 189, 191, 192, 193, 195, 196, 198, 199, 207, 208, 211, 212, 213, 215, 216, 218, 219, 220, 222, 223, 225, 226, 227, 229, 230, 232, 233, 234, 236, 237, 239, 240, 241, 243, 244, 246, 247, 248, 250, 251, 253, 254, 255, 256, 257, 258, 259, 262, 264, 265, 267, 268, 269, 271, 272, 274, 275, 276, 278, 279, 281, 282, 283, 284, 286, 287, 289, 290, 291, 293, 294, 296, 297, 298, 300, 301, 303, 304, 312, 314, 315, 317, 318, 319, 321, 322, 324, 325, 326, 328, 329, 331, 332, 333, 335, 336, 338, 339, 340, 341, 342, 343, 344, 347, 354, 356, 357, 359, 360, 361, 363, 364, 366, 367, 368, 370, 371, 373, 374, 375, 376, 377, 380, 387, 388, 390, 391, 393, 394, 395, 397, 398, 400, 401, 402, 404, 405, 407, 408, 409, 410, 411, 421, 422, 424, 425, 427, 428, 429, 432, 433, 434, 436, 437, 439, 440, 441, 443, 444, 446, 447, 448, 450, 451, 453, 454, 455, 457, 458, 460, 461, 462, 463, 464, 465, 466, 469, 471, 472, 474, 475, 476, 478, 479, 481, 482, 483, 485, 486, 488, 489, 490, 492, 493, 495, 496, 497, 499, 500, 502, 503, 504, 506, 507, 509, 510, 511, 513, 514, 516, 517, 518, 520, 521, 523, 524, 525, 527, 528, 530, 531, 532, 534, 535, 537, 538, 546, 548, 549, 551, 552, 553, 555, 556, 558, 559, 560, 562, 563, 565, 566, 567, 569, 570, 572, 573, 574, 576, 577, 579, 580, 581, 582, 583, 584, 585, 588, 590, 591, 593, 594, 595, 597, 598, 600, 601, 602, 604, 605, 607, 608, 609, 611, 612, 614, 615, 616, 618, 619, 621, 622, 623, 625, 626, 628, 629, 630, 632, 633, 635, 636, 637, 639, 640, 642, 643, 644, 646, 647, 649, 650, 651, 653, 654, 656, 657, 658, 660, 661, 663, 664, 665, 667, 668, 670, 671, 672, 674, 675, 677, 678, 679, 681, 682, 684, 685, 693, 694, 696, 697, 699, 700, 701, 703, 704, 706, 707, 708, 710, 711, 713, 714, 715, 717, 718, 720, 721, 722, 724, 725, 727, 728, 729, 731, 732, 734, 735, 736, 737, 738, 739, 740, 750, 752, 753, 755, 756, 757, 759, 760, 762, 763, 764, 766, 767, 769, 770, 771, 772, 773, 774, 775, 785, 787, 788, 790, 791, 792, 794, 795, 797, 798, 799, 802, 803, 804, 805, 806, 807, 808, 811, 813, 814, 816, 817, 818, 820, 821, 823, 824, 825, 827, 828, 830, 831, 832, 834, 835, 837, 838, 839, 841, 842, 844, 845, 846, 848, 849, 851, 852, 853, 855, 856, 858, 859, 860, 862, 863, 865, 866, 867, 870, 871, 872, 874, 875, 877, 878, 879, 880, 882, 883, 885, 886, 894, 896, 897, 899, 900, 901, 903, 904, 906, 907, 908, 910, 911, 913, 914, 915, 917, 918, 920, 921, 922, 924, 925, 927, 928, 929, 931, 932, 934, 935, 936, 937, 938, 939, 940, 943, 945, 946, 948, 949, 950, 952, 953, 955, 956, 957, 959, 960, 962, 963, 964, 966, 967, 969, 970, 971, 973, 974, 976, 977, 978, 981, 982, 983, 986, 987, 988, 990, 991, 993, 994]
namespace main
theorem tw30802899008314538 : True := trivial
theorem tw31828345220925962 : True := trivial
theorem tw33456957511925785 : True := trivial
theorem tw48596604365144762 : True := trivial
theorem tw49674306023711395 : True := trivial
theorem tw54841869916938688 : True := trivial
theorem tw65644731488775911 : True := trivial
theorem tw66260789543402106 : True := trivial
theorem tw104360540948158410 : True := trivial
theorem tw221909299271738847 : True := trivial
theorem tw234599468654550697 : True := trivial
theorem tw244467455267321384 : True := trivial
theorem tw302440914744352476 : True := trivial
theorem tw330327031418712150 : True := trivial
theorem tw341453280667917650 : True := trivial
theorem tw372505627349444580 : True := trivial
theorem tw428528402285977677 : True := trivial
theorem tw451873465583785326 : True := trivial
theorem tw452746233719593009 : True := trivial
theorem tw453184122279072053 : True := trivial
theorem tw470481871638761223 : True := trivial
theorem tw471287901995484742 : True := trivial
theorem tw474381771622712015 : True := trivial
theorem tw480701840831765632 : True := trivial
theorem tw495442525896006271 : True := trivial
theorem tw588950844065142505 : True := trivial
theorem tw613567027398061577 : True := trivial
theorem tw656089360051881306 : True := trivial
theorem tw716429049611869786 : True := trivial
theorem tw765107192605250810 : True := trivial
theorem tw785246043732427063 : True := trivial
theorem tw796168687070700412 : True := trivial
theorem tw799486724532869496 : True := trivial
theorem tw833945537157984683 : True := trivial
theorem tw854977524454699277 : True := trivial
theorem tw961187720498965250 : True := trivial
theorem tw962193829226610041 : True := trivial
theorem tw979501456738626862 : True := trivial
theorem tw983542388872702638 : True := trivial
theorem tw1041082287264499562 : True := trivial
theorem tw1046443281632482020 : True := trivial
theorem tw1054321117371714560 : True := trivial
theorem tw1075715825243056693 : True := trivial
theorem tw1084220662915027778 : True := trivial
theorem tw1092785777240315536 : True := trivial
theorem tw1099256609624015869 : True := trivial
theorem tw1118068078248606362 : True := trivial
theorem tw1130211791997205004 : True := trivial
theorem tw1142173933681417890 : True := trivial
theorem tw1150287232629052791 : True := trivial
theorem tw1156462466702112376 : True := trivial
theorem tw1157997071576566072 : True := trivial
theorem tw1178595665728414349 : True := trivial
theorem tw1198661942849946583 : True := trivial
theorem tw1205420773474557225 : True := trivial
theorem tw1236483940969888574 : True := trivial
theorem tw1242282695825638017 : True := trivial
theorem tw1253437644075932092 : True := trivial
theorem tw1255815211270559930 : True := trivial
theorem tw1261021989165538067 : True := trivial
theorem tw1270039299266317192 : True := trivial
theorem tw1277820614484962519 : True := trivial
theorem tw1289389943133740499 : True := trivial
theorem tw1306636233014830658 : True := trivial
theorem tw1318968915056948652 : True := trivial
theorem tw1319676515408343850 : True := trivial
theorem tw1341849466991377412 : True := trivial
theorem tw1372806426800153423 : True := trivial
theorem tw1429040668314091153 : True := trivial
theorem tw1453356044741674121 : True := trivial
theorem tw1454224541498743561 : True := trivial
theorem tw1486339892855113045 : True := trivial
theorem tw1496695287857109588 : True := trivial
theorem tw1504049600530537962 : True := trivial
theorem tw1519927702969063271 : True := trivial
theorem tw1519992759497675636 : True := trivial
theorem tw1545906260438175962 : True := trivial
theorem tw1587290215689348708 : True := trivial
theorem tw1590763530083325563 : True := trivial
theorem tw1615956725737779560 : True := trivial
theorem tw1628013610222277130 : True := trivial
theorem tw1632041292262086317 : True := trivial
theorem tw1645717771770832407 : True := trivial
theorem tw1677766988990989824 : True := trivial
theorem tw1678875084529416142 : True := trivial
theorem tw1707505545463187130 : True := trivial
theorem tw1714950047550659301 : True := trivial
theorem tw1777545030009416734 : True := trivial
theorem tw1781223760143429554 : True := trivial
theorem tw1826329307503635854 : True := trivial
theorem tw1850612553970854742 : True := trivial
theorem tw1886080085820668685 : True := trivial
theorem tw1900339198761634783 : True := trivial
theorem tw2007339730380871907 : True := trivial
theorem tw2033968301974640842 : True := trivial
theorem tw2110754180369666209 : True := trivial
theorem tw2127038452521536779 : True := trivial
theorem tw2136821422063795447 : True := trivial
theorem tw2156534451787437564 : True := trivial
theorem tw2225956059507018244 : True := trivial
theorem tw2238316416991798583 : True := trivial
theorem tw2278972029675796859 : True := trivial
theorem tw2279707942289718827 : True := trivial
theorem tw2334679739580974275 : True := trivial
theorem tw2337230598321646361 : True := trivial
theorem tw2341703837736514645 : True := trivial
theorem tw2363833142923657126 : True := trivial
theorem tw2399826469436781019 : True := trivial
theorem tw2402762420636078793 : True := trivial
theorem tw2406621943657119228 : True := trivial
theorem tw2428412748925179849 : True := trivial
theorem tw2456247091588846565 : True := trivial
theorem tw2496676261509829067 : True := trivial
theorem tw2524017781993486291 : True := trivial
theorem tw2538046985915079169 : True := trivial
theorem tw2544328076492683441 : True := trivial
theorem tw2566753976717531306 : True := trivial
theorem tw2583023086579268501 : True := trivial
theorem tw2647654807098235363 : True := trivial
theorem tw2702614204127132176 : True := trivial
theorem tw2704602940660078815 : True := trivial
theorem tw2714283472998740243 : True := trivial
theorem tw2724176850512262202 : True := trivial
theorem tw2729793432009153956 : True := trivial
theorem tw2744014450722944760 : True := trivial
theorem tw2750411421705246143 : True := trivial
theorem tw2759098988195820126 : True := trivial
theorem tw2794983428953441941 : True := trivial
theorem tw2821470743931037460 : True := trivial
theorem tw2852251193174398662 : True := trivial
theorem tw2906824675625879941 : True := trivial
theorem tw2921621734765799159 : True := trivial
theorem tw2921958311620399285 : True := trivial
theorem tw2923286348875671695 : True := trivial
theorem tw3027586509356016917 : True := trivial
theorem tw3045742163950154196 : True := trivial
theorem tw3136416535801588117 : True := trivial
theorem tw3137596982192898869 : True := trivial
theorem tw3160845607165458772 : True := trivial
theorem tw3220561703981169602 : True := trivial
theorem tw3222223853247747169 : True := trivial
theorem tw3234112476842188716 : True := trivial
theorem tw3259492374427675482 : True := trivial
theorem tw3262662943086543052 : True := trivial
theorem tw3288582142898991060 : True := trivial
theorem tw3298483428156984901 : True := trivial
theorem tw3299218664060906527 : True := trivial
theorem tw3305931106042330821 : True := trivial
theorem tw3314904115985164895 : True := trivial
theorem tw3343439749351644125 : True := trivial
theorem tw3370190323706015969 : True := trivial
theorem tw3394367416137920725 : True := trivial
theorem tw3454311308915712629 : True := trivial
theorem tw3459380146013217038 : True := trivial
theorem tw3464709057266567092 : True := trivial
theorem tw3485684062173492111 : True := trivial
theorem tw3491332818749588091 : True := trivial
theorem tw3549514262204291990 : True := trivial
theorem tw3557749057250611081 : True := trivial
theorem tw3562595001068472590 : True := trivial
theorem tw3570300971023340979 : True := trivial
theorem tw3613476055612923068 : True := trivial
theorem tw3626430660855392483 : True := trivial
theorem tw3627144658338631552 : True := trivial
theorem tw3694764494583554240 : True := trivial
theorem tw3779293765908593550 : True := trivial
theorem tw3796207824708393856 : True := trivial
theorem tw3829396358689915599 : True := trivial
theorem tw3848698983108048278 : True := trivial
theorem tw3864431920445960829 : True := trivial
theorem tw3867218068155391060 : True := trivial
theorem tw3899540372106597375 : True := trivial
theorem tw3911810758690780188 : True := trivial
theorem tw3934531018447913466 : True := trivial
theorem tw3958507339218470045 : True := trivial
theorem tw3960113756560652017 : True := trivial
theorem tw3963758770060641990 : True := trivial
theorem tw4000297624352050223 : True := trivial
theorem tw4038153913678941442 : True := trivial
theorem tw4039676971129161736 : True := trivial
theorem tw4044139247061151142 : True := trivial
theorem tw4072190877284726289 : True := trivial
theorem tw4088224383575840552 : True := trivial
theorem tw4139100593308808776 : True := trivial
theorem tw4156125974679941130 : True := trivial
theorem tw4193505271845495863 : True := trivial
theorem tw4216741518440994707 : True := trivial
theorem tw4219033963080709319 : True := trivial
theorem tw4233775474536293486 : True := trivial
theorem tw4244067443239231564 : True := trivial
theorem tw4258463428174104133 : True := trivial
theorem tw4261964983698606537 : True := trivial
theorem tw4310270188432123100 : True := trivial
theorem tw4324958949535026087 : True := trivial
theorem tw4330594992337426955 : True := trivial
theorem tw4333880214566435006 : True := trivial
theorem tw4350604851675314991 : True := trivial
theorem tw4365514962571936147 : True := trivial
theorem tw4385281892830598654 : True := trivial
theorem tw4413345314126155841 : True := trivial
theorem tw4438296763453613264 : True := trivial
theorem tw4458048076830672230 : True := trivial
theorem tw4475767826048309731 : True := trivial
theorem tw4491334807805099456 : True := trivial
theorem tw4500915450034043215 : True := trivial
theorem tw4502447428920916452 : True := trivial
theorem tw4508364121390281068 : True := trivial
theorem tw4573282807186111410 : True := trivial
theorem tw4585930131862741453 : True := trivial
theorem tw4605139254293405059 : True := trivial
theorem tw4630824681090250767 : True := trivial
theorem tw4637267157515435788 : True := trivial
theorem tw4638281056170512193 : True := trivial
theorem tw4644634924443464280 : True := trivial
theorem tw4650958065196391918 : True := trivial
theorem tw4651154628705390771 : True := trivial
theorem tw4670664401629329403 : True := trivial
theorem tw4681395471914393968 : True := trivial
theorem tw4719957520787936630 : True := trivial
theorem tw4749052000479324790 : True := trivial
theorem tw4766233809647381661 : True := trivial
theorem tw4775608329324902142 : True := trivial
theorem tw4812270449578504274 : True := trivial
theorem tw4817600198373253283 : True := trivial
theorem tw4838787530573997063 : True := trivial
theorem tw4839478117068044826 : True := trivial
theorem tw4886955015573163100 : True := trivial
theorem tw4900431672193113347 : True := trivial
theorem tw4908570168794737769 : True := trivial
theorem tw4924694640843408985 : True := trivial
theorem tw4946776927847147119 : True := trivial
theorem tw4990475226369331113 : True := trivial
theorem tw5004366561265856203 : True := trivial
theorem tw5061512775090418087 : True := trivial
theorem tw5084117380071580128 : True := trivial
theorem tw5102693214775723256 : True := trivial
theorem tw5127751686995613262 : True := trivial
theorem tw5181119749688162637 : True := trivial
theorem tw5203219222101121401 : True := trivial
theorem tw5234446048077146213 : True := trivial
theorem tw5240779543111244032 : True := trivial
theorem tw5243159528196176124 : True := trivial
theorem tw5268168578311729375 : True := trivial
theorem tw5287059835090251167 : True := trivial
theorem tw5289026146741335887 : True := trivial
theorem tw5309058905264134205 : True := trivial
theorem tw5329020728883791806 : True := trivial
theorem tw5363903885879670357 : True := trivial
theorem tw5372645768047454471 : True := trivial
theorem tw5378808338967829844 : True := trivial
theorem tw5396361742852586263 : True := trivial
theorem tw5400957986263281647 : True := trivial
theorem tw5401703158475992631 : True := trivial
theorem tw5418533224930618480 : True := trivial
theorem tw5435614590818080486 : True := trivial
theorem tw5436791530062809996 : True := trivial
theorem tw5450094653865882931 : True := trivial
theorem tw5456330333991267789 : True := trivial
theorem tw5461779845614304980 : True := trivial
theorem tw5473700226181020891 : True := trivial
theorem tw5502569546826302122 : True := trivial
theorem tw5517759331935216279 : True := trivial
theorem tw5518243967957118194 : True := trivial
theorem tw5532463470591059822 : True := trivial
theorem tw5534937755968359062 : True := trivial
theorem tw5571399437266216444 : True := trivial
theorem tw5585478044538960755 : True := trivial
theorem tw5588907008647344161 : True := trivial
theorem tw5613160597433933154 : True := trivial
theorem tw5616070069386785504 : True := trivial
theorem tw5665406974723832613 : True := trivial
theorem tw5671064798259553346 : True := trivial
theorem tw5677329702179833609 : True := trivial
theorem tw5697280079452891283 : True := trivial
theorem tw5790326737455844299 : True := trivial
theorem tw5797031442667253490 : True := trivial
theorem tw5831584030425509755 : True := trivial
theorem tw5838101520590548733 : True := trivial
theorem tw5842977544298395883 : True := trivial
theorem tw5871769198996169552 : True := trivial
theorem tw5890889631881817875 : True := trivial
theorem tw5921134243170700561 : True := trivial
theorem tw5995161000843957690 : True := trivial
theorem tw6044114016751833949 : True := trivial
theorem tw6053611964639427726 : True := trivial
theorem tw6075091234017535682 : True := trivial
theorem tw6087835443962453003 : True := trivial
theorem tw6112859857366181021 : True := trivial
theorem tw6161133996638707016 : True := trivial
theorem tw6162249291895867263 : True := trivial
theorem tw6164561884633627433 : True := trivial
theorem tw6183352029847204284 : True := trivial
theorem tw6214117541549086881 : True := trivial
theorem tw6222487380544312443 : True := trivial
theorem tw6234934611588079204 : True := trivial
theorem tw6237627108579964202 : True := trivial
theorem tw6252391252262179987 : True := trivial
theorem tw6264281720289328834 : True := trivial
theorem tw6320087349989138879 : True := trivial
theorem tw6334894449686545209 : True := trivial
theorem tw6341409668436394099 : True := trivial
theorem tw6361450105264607166 : True := trivial
theorem tw6384028539975533837 : True := trivial
theorem tw6385024630547198690 : True := trivial
theorem tw6389877041954997217 : True := trivial
theorem tw6404898279339705064 : True := trivial
theorem tw6418098437765475518 : True := trivial
theorem tw6437645805973890128 : True := trivial
theorem tw6455149578367423246 : True := trivial
theorem tw6508729118710982530 : True := trivial
theorem tw6511744376749373798 : True := trivial
theorem tw6516198228755648517 : True := trivial
theorem tw6519269512792494810 : True := trivial
theorem tw6542085627976250192 : True := trivial
theorem tw6545385358150927430 : True := trivial
theorem tw6559806142732475569 : True := trivial
theorem tw6565609875121592624 : True := trivial
theorem tw6584820252761975732 : True := trivial
theorem tw6596593509180878263 : True := trivial
theorem tw6605025701479795990 : True := trivial
theorem tw6613752742083519222 : True := trivial
theorem tw6632538468102435922 : True := trivial
theorem tw6635558491612396129 : True := trivial
theorem tw6639522245352263942 : True := trivial
theorem tw6655696309031964122 : True := trivial
theorem tw6660377722381337597 : True := trivial
theorem tw6663778134991626487 : True := trivial
theorem tw6674386428176565332 : True := trivial
theorem tw6674893403203295414 : True := trivial
theorem tw6690441779611380620 : True := trivial
theorem tw6696893160125735727 : True := trivial
theorem tw6697339332421208802 : True := trivial
theorem tw6702130215012162313 : True := trivial
theorem tw6741292078354696603 : True := trivial
theorem tw6768520987592691376 : True := trivial
theorem tw6785657489111691699 : True := trivial
theorem tw6801380410627298636 : True := trivial
theorem tw6855474311058116810 : True := trivial
theorem tw6862268138105152660 : True := trivial
theorem tw6868236387235032019 : True := trivial
theorem tw6877560268529008848 : True := trivial
theorem tw6880717277089553138 : True := trivial
theorem tw6886502059237256666 : True := trivial
theorem tw6898400011967081535 : True := trivial
theorem tw6910295442248876197 : True := trivial
theorem tw6921685317656363116 : True := trivial
theorem tw6958908112882689824 : True := trivial
theorem tw6981815665589151136 : True := trivial
theorem tw7019240024125815769 : True := trivial
theorem tw7054876372555587774 : True := trivial
theorem tw7074144079889050967 : True := trivial
theorem tw7083192437325867461 : True := trivial
theorem tw7108953243070827183 : True := trivial
theorem tw7142256002058171272 : True := trivial
theorem tw7153082081811710619 : True := trivial
theorem tw7165207203227711834 : True := trivial
theorem tw7173623326730630234 : True := trivial
theorem tw7186131708394509389 : True := trivial
theorem tw7214478077546791972 : True := trivial
theorem tw7221758910455160077 : True := trivial
theorem tw7235775444256392728 : True := trivial
theorem tw7238065321881607702 : True := trivial
theorem tw7268301785047649679 : True := trivial
theorem tw7293298908176781663 : True := trivial
theorem tw7297187181890747607 : True := trivial
theorem tw7298748307773712898 : True := trivial
theorem tw7299474751278700455 : True := trivial
theorem tw7308723440029596264 : True := trivial
theorem tw7332330508316399935 : True := trivial
theorem tw7332552209862256014 : True := trivial
theorem tw7358942708152152329 : True := trivial
theorem tw7380652910202371479 : True := trivial
theorem tw7411558596216406370 : True := trivial
theorem tw7472368607099979303 : True := trivial
theorem tw7514964652732493775 : True := trivial
theorem tw7563215957194029611 : True := trivial
theorem tw7590696779544312186 : True := trivial
theorem tw7591743695986301205 : True := trivial
theorem tw7623509227018997848 : True := trivial
theorem tw7623511443260959870 : True := trivial
theorem tw7624122152786673341 : True := trivial
theorem tw7624293977416268664 : True := trivial
theorem tw7647378279178456250 : True := trivial
theorem tw7675930258259734528 : True := trivial
theorem tw7691172733374981047 : True := trivial
theorem tw7697417962357392202 : True := trivial
theorem tw7698036289167662538 : True := trivial
theorem tw7761410557224570781 : True := trivial
theorem tw7846812961960373227 : True := trivial
theorem tw7875838824674609581 : True := trivial
theorem tw7883848961242879871 : True := trivial
theorem tw7884273913378172499 : True := trivial
theorem tw7904437144335635152 : True := trivial
theorem tw7972779244933481256 : True := trivial
theorem tw7974275031393228247 : True := trivial
theorem tw8046773169563483271 : True := trivial
theorem tw8060562821785662972 : True := trivial
theorem tw8079908401900000222 : True := trivial
theorem tw8090509862211737132 : True := trivial
theorem tw8102450764968551371 : True := trivial
theorem tw8127475511531132179 : True := trivial
theorem tw8207831470162742035 : True := trivial
theorem tw8260724100714396741 : True := trivial
theorem tw8265370782698574782 : True := trivial
theorem tw8281396171620568247 : True := trivial
theorem tw8283060676807011144 : True := trivial
theorem tw8344989883159853150 : True := trivial
theorem tw8427638858588021438 : True := trivial
theorem tw8436210846270712021 : True := trivial
theorem tw8440099810896429113 : True := trivial
theorem tw8466321980469482115 : True := trivial
theorem tw8475525182357872103 : True := trivial
theorem tw8478376212529829071 : True := trivial
theorem tw8484041278411425421 : True := trivial
theorem tw8496349624203035976 : True := trivial
theorem tw8528285597010949478 : True := trivial
theorem tw8546124895413445307 : True := trivial
theorem tw8557395850702784662 : True := trivial
theorem tw8567518541235275850 : True := trivial
theorem tw8627561154394265716 : True := trivial
theorem tw8651587035891514320 : True := trivial
theorem tw8652556701797213591 : True := trivial
theorem tw8663697691656813868 : True := trivial
theorem tw8677828054155730348 : True := trivial
theorem tw8681388529863501421 : True := trivial
theorem tw8707812797481193996 : True := trivial
theorem tw8708525158762292434 : True := trivial
theorem tw8729708805864041840 : True := trivial
theorem tw8748973510418095054 : True := trivial
theorem tw8809968196449919288 : True := trivial
theorem tw8828626079734051433 : True := trivial
theorem tw8834365191522931223 : True := trivial
theorem tw8844999433837080629 : True := trivial
theorem tw8905464785575363620 : True := trivial
theorem tw8905992674379837232 : True := trivial
theorem tw8928990268580360915 : True := trivial
theorem tw8930851030842425676 : True := trivial
theorem tw8952462522180670554 : True := trivial
theorem tw8984930932524396370 : True := trivial
theorem tw8989776476301544223 : True := trivial
theorem tw9011639564254621642 : True := trivial
theorem tw9069182735580402390 : True := trivial
theorem tw9071729483887776986 : True := trivial
theorem tw9121559901702372667 : True := trivial
theorem tw9155575984036265788 : True := trivial
theorem tw9156686268802561153 : True := trivial
theorem tw9161159452563919750 : True := trivial
theorem tw9184045479044318644 : True := trivial
theorem tw9190990891756207365 : True := trivial
theorem tw9253799994812790149 : True := trivial
theorem tw9265829497004654079 : True := trivial
theorem tw9272984997812220495 : True := trivial
theorem tw9274054859765456524 : True := trivial
theorem tw9287587430799945685 : True := trivial
theorem tw9302470337196694018 : True := trivial
theorem tw9303439499767911484 : True := trivial
theorem tw9321267617633783869 : True := trivial
theorem tw9360745474812902239 : True := trivial
theorem tw9361300454564663673 : True := trivial
theorem tw9369988214560726041 : True := trivial
theorem tw9376575566392132001 : True := trivial
theorem tw9381277316556691805 : True := trivial
theorem tw9381886862466946253 : True := trivial
theorem tw9394770849952503311 : True := trivial
theorem tw9406782406253462049 : True := trivial
theorem tw9458421452666605423 : True := trivial
theorem tw9470667924834194258 : True := trivial
theorem tw9483120023164983764 : True := trivial
theorem tw9483696857397876608 : True := trivial
theorem tw9498315638749924794 : True := trivial
theorem tw9512817274939609580 : True := trivial
theorem tw9557352009045844224 : True := trivial
theorem tw9558744834307401277 : True := trivial
theorem tw9561784451562097942 : True := trivial
theorem tw9563168847844234846 : True := trivial
theorem tw9573086628692744296 : True := trivial
theorem tw9626384672669237482 : True := trivial
theorem tw9656510801202774680 : True := trivial
theorem tw9658885295015712986 : True := trivial
theorem tw9670510015898674028 : True := trivial
theorem tw9682133043923132273 : True := trivial
theorem tw9716624006974247489 : True := trivial
theorem tw9730157408454304684 : True := trivial
theorem tw9805168224760091760 : True := trivial
theorem tw9808303207383738048 : True := trivial
theorem tw9848185148710128376 : True := trivial
theorem tw9880953963774564861 : True := trivial
theorem tw9897820754763898449 : True := trivial
theorem tw9903775340124721222 : True := trivial
theorem tw9925469786538053656 : True := trivial
theorem tw9942282790977331292 : True := trivial
theorem tw9957550378297406723 : True := trivial
theorem tw9964214247947446159 : True := trivial
theorem tw9976160756891316704 : True := trivial
theorem tw9994787619460420439 : True := trivial
theorem tw10044588960856096794 : True := trivial
theorem tw10047389527955405517 : True := trivial
theorem tw10092017014551392330 : True := trivial
theorem tw10094358506670053839 : True := trivial
theorem tw10101900104965146230 : True := trivial
theorem tw10114013102757674387 : True := trivial
theorem tw10123989817122485451 : True := trivial
theorem tw10149618387772673413 : True := trivial
theorem tw10159738436595150677 : True := trivial
theorem tw10169072693733980587 : True := trivial
theorem tw10177057350305019805 : True := trivial
theorem tw10199874654664476236 : True := trivial
theorem tw10201359505653846880 : True := trivial
theorem tw10204856939554784155 : True := trivial
theorem tw10210597933619972095 : True := trivial
theorem tw10231336680788121439 : True := trivial
theorem tw10234815189450012239 : True := trivial
theorem tw10255180020182114038 : True := trivial
theorem tw10283388844273144081 : True := trivial
theorem tw10298723112805639129 : True := trivial
theorem tw10334261112615635914 : True := trivial
theorem tw10363585996791799541 : True := trivial
theorem tw10391951854915411234 : True := trivial
theorem tw10418042200766032776 : True := trivial
theorem tw10450603732522932521 : True := trivial
theorem tw10455743928339290457 : True := trivial
theorem tw10463206416058312583 : True := trivial
theorem tw10474107093616326617 : True := trivial
theorem tw10483362588635715401 : True := trivial
theorem tw10543740743216835930 : True := trivial
theorem tw10554957952762445534 : True := trivial
theorem tw10609540516017602915 : True := trivial
theorem tw10625486282989778954 : True := trivial
theorem tw10642606787283503386 : True := trivial
theorem tw10652611922669240339 : True := trivial
theorem tw10652863235454686790 : True := trivial
theorem tw10663580350406149668 : True := trivial
theorem tw10665089971535097683 : True := trivial
theorem tw10669944970481658594 : True := trivial
theorem tw10750994468655217958 : True := trivial
theorem tw10813080517026676716 : True := trivial
theorem tw10821422270917381399 : True := trivial
theorem tw10825838108423173272 : True := trivial
theorem tw10864377008497418100 : True := trivial
theorem tw10876229203375891673 : True := trivial
theorem tw10877679251791092727 : True := trivial
theorem tw10896356407431480244 : True := trivial
theorem tw10924716458440934090 : True := trivial
theorem tw10953687544409504101 : True := trivial
theorem tw10985888656933367436 : True := trivial
theorem tw10987386120367425466 : True := trivial
theorem tw10992214633131536827 : True := trivial
theorem tw11001617756164336837 : True := trivial
theorem tw11003572833241299968 : True := trivial
theorem tw11019096307435631222 : True := trivial
theorem tw11020365191643786025 : True := trivial
theorem tw11041547156204584376 : True := trivial
theorem tw11049269918873537771 : True := trivial
theorem tw11077693075305272133 : True := trivial
theorem tw11092141859048813250 : True := trivial
theorem tw11101190512080308003 : True := trivial
theorem tw11120327062377616369 : True := trivial
theorem tw11125538497796368324 : True := trivial
theorem tw11129844816282181526 : True := trivial
theorem tw11135027115929721415 : True := trivial
theorem tw11181722664286889309 : True := trivial
theorem tw11183452524601008856 : True := trivial
theorem tw11213863890663495067 : True := trivial
theorem tw11218778669853930896 : True := trivial
theorem tw11221353774195762014 : True := trivial
theorem tw11239335112260394413 : True := trivial
theorem tw11251407683458634364 : True := trivial
theorem tw11261727412033496967 : True := trivial
theorem tw11374851513655246148 : True := trivial
theorem tw11388154006635350966 : True := trivial
theorem tw11399646045708457374 : True := trivial
theorem tw11403851563620829512 : True := trivial
theorem tw11403970630465759474 : True := trivial
theorem tw11409991511011244131 : True := trivial
theorem tw11410963132546700228 : True := trivial
theorem tw11461230924637031220 : True := trivial
theorem tw11463369355524808266 : True := trivial
theorem tw11476092923266045095 : True := trivial
theorem tw11501822485730972192 : True := trivial
theorem tw11531331273489700057 : True := trivial
theorem tw11544348965984651327 : True := trivial
theorem tw11548542833958708988 : True := trivial
theorem tw11595355409239048105 : True := trivial
theorem tw11614107205274993552 : True := trivial
theorem tw11614346279706655073 : True := trivial
theorem tw11646826074482590764 : True := trivial
theorem tw11692516046256081784 : True := trivial
theorem tw11712081513822626495 : True := trivial
theorem tw11735423636902730196 : True := trivial
theorem tw11752006495700533448 : True := trivial
theorem tw11752208632293872130 : True := trivial
theorem tw11774690029378154688 : True := trivial
theorem tw11785714552879321826 : True := trivial
theorem tw11815829001073249272 : True := trivial
theorem tw11857135199678951331 : True := trivial
theorem tw11923525502935528744 : True := trivial
theorem tw11933201153402537488 : True := trivial
theorem tw11962923498438245051 : True := trivial
theorem tw11982392923317675503 : True := trivial
theorem tw11987853993630220354 : True := trivial
theorem tw12014785543569010823 : True := trivial
theorem tw12023146180999706270 : True := trivial
theorem tw12027323910402764344 : True := trivial
theorem tw12057704586751987240 : True := trivial
theorem tw12077450504624328385 : True := trivial
theorem tw12093647306153771053 : True := trivial
theorem tw12130321265151566525 : True := trivial
theorem tw12170992721606120685 : True := trivial
theorem tw12205347405646519318 : True := trivial
theorem tw12222963475772708484 : True := trivial
theorem tw12245857906982125569 : True := trivial
theorem tw12252054271945606052 : True := trivial
theorem tw12255313618399501761 : True := trivial
theorem tw12298629886278197574 : True := trivial
theorem tw12304082900475741265 : True := trivial
theorem tw12338497608069007261 : True := trivial
theorem tw12343854547171428336 : True := trivial
theorem tw12346658559823942425 : True := trivial
theorem tw12450111651097656602 : True := trivial
theorem tw12463224122652932544 : True := trivial
theorem tw12483276189755474720 : True := trivial
theorem tw12518504611687188807 : True := trivial
theorem tw12543713266681445118 : True := trivial
theorem tw12570134572688502250 : True := trivial
theorem tw12574995316784493246 : True := trivial
theorem tw12590340796369385619 : True := trivial
theorem tw12608185968620612914 : True := trivial
theorem tw12623159325031504133 : True := trivial
theorem tw12646911602827044314 : True := trivial
theorem tw12653679108036650311 : True := trivial
theorem tw12670839924663504800 : True := trivial
theorem tw12675357926760492328 : True := trivial
theorem tw12681957500809781501 : True := trivial
theorem tw12692632004510240207 : True := trivial
theorem tw12702744160499308131 : True := trivial
theorem tw12732289081945773324 : True := trivial
theorem tw12741544251441588921 : True := trivial
theorem tw12747388180105724736 : True := trivial
theorem tw12748397558918655664 : True := trivial
theorem tw12751799325998411230 : True := trivial
theorem tw12800608258095302798 : True := trivial
theorem tw12839114828313443825 : True := trivial
theorem tw12872379398031375081 : True := trivial
theorem tw12885673836220544336 : True := trivial
theorem tw12900284412222446716 : True := trivial
theorem tw12909650291622432550 : True := trivial
theorem tw12915833801598196605 : True := trivial
theorem tw12922898485456448571 : True := trivial
theorem tw12924326549063632139 : True := trivial
theorem tw12927740378394474205 : True := trivial
theorem tw12941917028564957548 : True := trivial
theorem tw12942913107403878096 : True := trivial
theorem tw12974819211118642341 : True := trivial
theorem tw12987577155417789579 : True := trivial
theorem tw12992176717851604617 : True := trivial
theorem tw13077236301305049449 : True := trivial
theorem tw13113777628852026922 : True := trivial
theorem tw13132915859168520264 : True := trivial
theorem tw13148611719377898607 : True := trivial
theorem tw13154001654789283132 : True := trivial
theorem tw13157206579259725088 : True := trivial
theorem tw13219505800766818778 : True := trivial
theorem tw13227692790652741651 : True := trivial
theorem tw13260870731297125680 : True := trivial
theorem tw13270728482189477470 : True := trivial
theorem tw13313126695403321540 : True := trivial
theorem tw13350764725976880583 : True := trivial
theorem tw13355152605343272895 : True := trivial
theorem tw13402765919934010277 : True := trivial
theorem tw13406003279186336099 : True := trivial
theorem tw13465503431842376007 : True := trivial
theorem tw13503263706703578961 : True := trivial
theorem tw13532707612510029741 : True := trivial
theorem tw13547569757486424058 : True := trivial
theorem tw13590572293223372214 : True := trivial
theorem tw13591255225166038476 : True := trivial
theorem tw13597483153833180358 : True := trivial
theorem tw13667920496262714385 : True := trivial
theorem tw13676971244355772609 : True := trivial
theorem tw13678406521842155018 : True := trivial
theorem tw13693970394777133609 : True := trivial
theorem tw13713940216889387898 : True := trivial
theorem tw13724616953566380437 : True := trivial
theorem tw13775401317348975414 : True := trivial
theorem tw13777938177461255882 : True := trivial
theorem tw13797323745857372409 : True := trivial
theorem tw13838900630717943254 : True := trivial
theorem tw13962693860625380366 : True := trivial
theorem tw13972245371655741198 : True := trivial
theorem tw13974046611088194958 : True := trivial
theorem tw13989496423458381343 : True := trivial
theorem tw13995172100960836882 : True := trivial
theorem tw14009396871252706886 : True := trivial
theorem tw14020873708864708748 : True := trivial
theorem tw14027650596787315314 : True := trivial
theorem tw14060465935940456498 : True := trivial
theorem tw14064073609400967072 : True := trivial
theorem tw14080665800827857628 : True := trivial
theorem tw14097447854668400296 : True := trivial
theorem tw14106445559736802775 : True := trivial
theorem tw14216407083858561409 : True := trivial
theorem tw14218914174604095658 : True := trivial
theorem tw14235155234550121937 : True := trivial
theorem tw14265527017996120661 : True := trivial
theorem tw14313897822631088780 : True := trivial
theorem tw14364048958407549093 : True := trivial
theorem tw14368271195830560734 : True := trivial
theorem tw14377180257169084997 : True := trivial
theorem tw14377536511252160716 : True := trivial
theorem tw14406990849044604362 : True := trivial
theorem tw14439473939278146460 : True := trivial
theorem tw14443092014599818573 : True := trivial
theorem tw14492832472218066102 : True := trivial
theorem tw14504180641510445567 : True := trivial
theorem tw14510055921401542917 : True := trivial
theorem tw14535484193269619989 : True := trivial
theorem tw14539993770535171780 : True := trivial
theorem tw14554314840745968623 : True := trivial
theorem tw14562738103837258888 : True := trivial
theorem tw14603179451721338413 : True := trivial
theorem tw14635473669698735251 : True := trivial
theorem tw14637806741061077295 : True := trivial
theorem tw14639212616227390028 : True := trivial
theorem tw14640416626631428029 : True := trivial
theorem tw14646587721710459877 : True := trivial
theorem tw14662554035588321541 : True := trivial
theorem tw14672674291997333471 : True := trivial
theorem tw14722489848711283861 : True := trivial
theorem tw14759895335926876869 : True := trivial
theorem tw14771111431291430275 : True := trivial
theorem tw14788915703135433725 : True := trivial
theorem tw14793117695081215449 : True := trivial
theorem tw14798791472264738832 : True := trivial
theorem tw14814594519894181452 : True := trivial
theorem tw14849204138880929251 : True := trivial
theorem tw14859100970857779836 : True := trivial
theorem tw14864641218109852296 : True := trivial
theorem tw14907226015203709474 : True := trivial
theorem tw14909365282108701170 : True := trivial
theorem tw15023316991559800185 : True := trivial
theorem tw15059693217772790739 : True := trivial
theorem tw15060185592220127646 : True := trivial
theorem tw15062679425460387418 : True := trivial
theorem tw15079240505294077160 : True := trivial
theorem tw15087427406127887449 : True := trivial
theorem tw15097543051748444868 : True := trivial
theorem tw15098031235356848795 : True := trivial
theorem tw15109750227778091905 : True := trivial
theorem tw15131278010643852716 : True := trivial
theorem tw15136431859952498927 : True := trivial
theorem tw15140838672463199983 : True := trivial
theorem tw15225127925928830808 : True := trivial
theorem tw15277975159832343749 : True := trivial
theorem tw15303317825217679618 : True := trivial
theorem tw15312040371321221727 : True := trivial
theorem tw15312394840280087653 : True := trivial
theorem tw15342904991969174519 : True := trivial
theorem tw15350898050860989542 : True := trivial
theorem tw15356762974548107741 : True := trivial
theorem tw15387884906608193903 : True := trivial
theorem tw15410482203810522393 : True := trivial
theorem tw15425874342098770709 : True := trivial
theorem tw15438212644395081984 : True := trivial
theorem tw15461212566085484399 : True := trivial
theorem tw15465920861327815835 : True := trivial
theorem tw15467891735981029475 : True := trivial
theorem tw15485851114877660061 : True := trivial
theorem tw15491723280356408159 : True := trivial
theorem tw15510692781650021527 : True := trivial
theorem tw15514936471743626214 : True := trivial
theorem tw15540984915698410164 : True := trivial
theorem tw15554039934745177238 : True := trivial
theorem tw15558288988949320067 : True := trivial
theorem tw15565075772751903193 : True := trivial
theorem tw15579395750891953841 : True := trivial
theorem tw15580989882048331800 : True := trivial
theorem tw15589955886551607785 : True := trivial
theorem tw15595112118272840620 : True := trivial
theorem tw15608450976537380609 : True := trivial
theorem tw15624239662980076321 : True := trivial
theorem tw15643365686152983790 : True := trivial
theorem tw15649996292582860464 : True := trivial
theorem tw15651024617767166033 : True := trivial
theorem tw15672986146971166658 : True := trivial
theorem tw15734660467963936456 : True := trivial
theorem tw15737690656516749961 : True := trivial
theorem tw15768048840197415361 : True := trivial
theorem tw15806524323241146399 : True := trivial
theorem tw15847309855283100339 : True := trivial
theorem tw15928290008803537013 : True := trivial
theorem tw15949526494057022110 : True := trivial
theorem tw15955573374722617477 : True := trivial
theorem tw15957597259013190341 : True := trivial
theorem tw15970538086172389420 : True := trivial
theorem tw15984706205718930553 : True := trivial
theorem tw16008252555379753968 : True := trivial
theorem tw16008457594558532635 : True := trivial
theorem tw16022572192331126682 : True := trivial
theorem tw16022705525353773275 : True := trivial
theorem tw16026485685270457870 : True := trivial
theorem tw16033097090804400913 : True := trivial
theorem tw16035907590883218939 : True := trivial
theorem tw16046730324260685337 : True := trivial
theorem tw16049902774474827687 : True := trivial
theorem tw16102231251864390963 : True := trivial
theorem tw16128220689672181975 : True := trivial
theorem tw16135426469972691074 : True := trivial
theorem tw16136984950599521427 : True := trivial
theorem tw16153351446899991344 : True := trivial
theorem tw16153842264607907944 : True := trivial
theorem tw16193401482309157537 : True := trivial
theorem tw16203622797070002922 : True := trivial
theorem tw16218864148678617972 : True := trivial
theorem tw16292202817602668162 : True := trivial
theorem tw16304157974115477746 : True := trivial
theorem tw16320215318167395912 : True := trivial
theorem tw16320729459185622934 : True := trivial
theorem tw16356685582667847594 : True := trivial
theorem tw16357356043003861740 : True := trivial
theorem tw16396084126727719574 : True := trivial
theorem tw16411370214107742406 : True := trivial
theorem tw16425018739607012744 : True := trivial
theorem tw16451033083921036709 : True := trivial
theorem tw16480584520131690045 : True := trivial
theorem tw16493956501075241397 : True := trivial
theorem tw16508919721030705984 : True := trivial
theorem tw16544489699163171333 : True := trivial
theorem tw16551855485269240956 : True := trivial
theorem tw16572128252103988241 : True := trivial
theorem tw16602241572910223693 : True := trivial
theorem tw16629339528299215175 : True := trivial
theorem tw16641786646906312760 : True := trivial
theorem tw16651728564920304373 : True := trivial
theorem tw16656740534632174751 : True := trivial
theorem tw16676564476587882173 : True := trivial
theorem tw16689149305811164139 : True := trivial
theorem tw16723884430069596700 : True := trivial
theorem tw16755849432154420019 : True := trivial
theorem tw16757190730947197508 : True := trivial
theorem tw16765925921980633802 : True := trivial
theorem tw16790050636404226231 : True := trivial
theorem tw16806246253224384389 : True := trivial
theorem tw16819838333489098493 : True := trivial
theorem tw16832360635688203351 : True := trivial
theorem tw16833934730148084282 : True := trivial
theorem tw16898384801079261899 : True := trivial
theorem tw16922381011570985944 : True := trivial
theorem tw16923884221124529275 : True := trivial
theorem tw16950194794029067938 : True := trivial
theorem tw16952715711813285254 : True := trivial
theorem tw16959884160788844718 : True := trivial
theorem tw16965079339398995527 : True := trivial
theorem tw17016820405989369747 : True := trivial
theorem tw17052023290607921161 : True := trivial
theorem tw17057053908230417247 : True := trivial
theorem tw17067035981215421688 : True := trivial
theorem tw17091655785135471103 : True := trivial
theorem tw17118054049896295152 : True := trivial
theorem tw17128291446047057950 : True := trivial
theorem tw17146568849442343683 : True := trivial
theorem tw17181277949884725937 : True := trivial
theorem tw17236958762192778904 : True := trivial
theorem tw17262041522474090127 : True := trivial
theorem tw17268439761433841065 : True := trivial
theorem tw17275675667316583603 : True := trivial
theorem tw17298425922696826006 : True := trivial
theorem tw17336282652733537790 : True := trivial
theorem tw17353955331779342651 : True := trivial
theorem tw17402982504261768225 : True := trivial
theorem tw17403364634526059139 : True := trivial
theorem tw17413556829735388813 : True := trivial
theorem tw17431719831054627609 : True := trivial
theorem tw17438294365789470252 : True := trivial
theorem tw17450470499104002142 : True := trivial
theorem tw17453503289922162039 : True := trivial
theorem tw17456035664235451855 : True := trivial
theorem tw17477492558424962760 : True := trivial
theorem tw17495560712657236704 : True := trivial
theorem tw17510229520200029679 : True := trivial
theorem tw17561526911342447988 : True := trivial
theorem tw17585224947871030625 : True := trivial
theorem tw17600866488970185278 : True := trivial
theorem tw17644181745481072423 : True := trivial
theorem tw17647351573629430322 : True := trivial
theorem tw17659147809683748901 : True := trivial
theorem tw17665120845849184447 : True := trivial
theorem tw17699438841360665129 : True := trivial
theorem tw17708487481403421675 : True := trivial
theorem tw17715262827843222689 : True := trivial
theorem tw17737603089517620647 : True := trivial
theorem tw17767330081159143506 : True := trivial
theorem tw17852728027883260815 : True := trivial
theorem tw17863840789101769243 : True := trivial
theorem tw17864028415675338326 : True := trivial
theorem tw17871620999419790863 : True := trivial
theorem tw17906638245316424091 : True := trivial
theorem tw17920292393507637884 : True := trivial
theorem tw17958375852430007124 : True := trivial
theorem tw17974016328880235120 : True := trivial
theorem tw18005423509665057918 : True := trivial
theorem tw18031918436515192882 : True := trivial
theorem tw18046051524673705752 : True := trivial
theorem tw18063282731904131703 : True := trivial
theorem tw18120430973489738927 : True := trivial
theorem tw18134284020713443437 : True := trivial
theorem tw18162592725011693541 : True := trivial
theorem tw18165044119631177899 : True := trivial
theorem tw18178676814319149831 : True := trivial
theorem tw18190005008629794160 : True := trivial
theorem tw18218335207050127959 : True := trivial
theorem tw18238007617527299592 : True := trivial
theorem tw18284262389922463811 : True := trivial
theorem tw18287795668848337631 : True := trivial
theorem tw18302796317244248524 : True := trivial
theorem tw18314829044154829275 : True := trivial
theorem tw18325589031809861271 : True := trivial
theorem tw18332899500509843999 : True := trivial
theorem tw18385570937342765463 : True := trivial
theorem tw18392154025008590481 : True := trivial
theorem tw18403998269306519403 : True := trivial
theorem tw18418235949754561950 : True := trivial
theorem tw18421580907717582127 : True := trivial
theorem tw18425317256667529438 : True := trivial
theorem tw18431692314602308842 : True := trivial
theorem tw18442785490491869365 : True := trivial
theorem tw18446094637698972617 : True := trivial
theorem tw14090284624843534012 : True := trivial
end main
theorem row178 : True := by
  k_with "call ref" => ((with_reducible show wpAny _ _ (call (Value.ref 963) _) _ _ _); k_dflt (refine' gpr_c ?k1Lw ?k2Lw ?k3Lw (cb_drop ?k4Lw ?k9Lw) ?k5Lw ?k7Lw ?k8Lw ?h0Lw ?h1Lw ?h2Lw ?_; (case k1Lw => k_asm); (case k2Lw => k_asm); (case k3Lw => k_asm); (case k4Lw => k_asm); (case k5Lw => k_asm); (case k9Lw => repeat (first | exact subNil | refine subCons (by k_mem) ?_)); (case k7Lw => (first | exact roomA hd rfl | exact roomB hd rfl | ((try simp only [depth_mark, depth_under_make, depth_under_kw, depth_in1, depth_deeper, depth_caller]); (try dsimp only [ktrTop]); omega))); (case k8Lw => (first | exact unitA hu rfl | ((try simp only [units_under_make, units_in1, units_deeper, Around.mark_units, units_caller]); (try dsimp only [ktrTop]); omega))); (case h0Lw => exact fmLo _); (case h1Lw => exact fmHi _); (case h2Lw => first | exact hz9.out | decide); k_whole); intro r9 rd9 r19 r29 r39 r49 tn9 tk9r rn19 rz19 nm9  h9 tk9 mo09 mo19 F9 E9 N9; (k_dflt (replace N9 := newsApp N9 E9 (by k_asm))); clear E9; (try dsimp only [List.nil_append, List.cons_append, List.append_nil] at N9); (try simp only [List.append_nil] at N9); (try dsimp only); (try k_fold); (try k_sweep); walk_say "CONTRACT gpr_c")
  trivial
theorem row179 : True := by
  k_with "call ref" => ((with_reducible show wpAny _ _ (call (Value.ref 970) _) _ _ _); k_dflt (refine' high_c ?k1Lw ?k2Lw ?k3Lw (cb_drop ?k4Lw ?k9Lw) ?k5Lw ?k7Lw ?k8Lw ?h0Lw ?h1Lw ?_; (case k1Lw => k_asm); (case k2Lw => k_asm); (case k3Lw => k_asm); (case k4Lw => k_asm); (case k5Lw => k_asm); (case k9Lw => repeat (first | exact subNil | refine subCons (by k_mem) ?_)); (case k7Lw => (first | exact roomA hd rfl | exact roomB hd rfl | ((try simp only [depth_mark, depth_under_make, depth_under_kw, depth_in1, depth_deeper, depth_caller]); (try dsimp only [ktrTop]); omega))); (case k8Lw => (first | exact unitA hu rfl | ((try simp only [units_under_make, units_in1, units_deeper, Around.mark_units, units_caller]); (try dsimp only [ktrTop]); omega))); (case h0Lw => exact hmLo _); (case h1Lw => exact hmHi _); k_whole); intro r9 rd9 r19 r29 r39 r49 tn9 tk9r rn19 rz19 nm9  h9 tk9 mo09 mo19 F9 E9 N9; (k_dflt (replace N9 := newsApp N9 E9 (by k_asm))); clear E9; (try dsimp only [List.nil_append, List.cons_append, List.append_nil] at N9); (try simp only [List.append_nil] at N9); (try dsimp only); (try k_fold); (try k_sweep); walk_say "CONTRACT high_c")
  trivial
theorem row180 : True := by
  k_with "call ref" => ((with_reducible show wpAny _ _ (call (Value.ref 987) _) _ _ _); k_dflt (refine' right_c ?k1Lw ?k2Lw ?k3Lw (cb_drop ?k4Lw ?k9Lw) ?k5Lw ?k7Lw ?k8Lw ?h0Lw ?h1Lw ?h2Lw ?h3Lw ?_; (case k1Lw => k_asm); (case k2Lw => k_asm); (case k3Lw => k_asm); (case k4Lw => k_asm); (case k5Lw => k_asm); (case k9Lw => repeat (first | exact subNil | refine subCons (by k_mem) ?_)); (case k7Lw => (first | exact roomA hd rfl | exact roomB hd rfl | ((try simp only [depth_mark, depth_under_make, depth_under_kw, depth_in1, depth_deeper, depth_caller]); (try dsimp only [ktrTop]); omega))); (case k8Lw => (first | exact unitA hu rfl | ((try simp only [units_under_make, units_in1, units_deeper, Around.mark_units, units_caller]); (try dsimp only [ktrTop]); omega))); (case h0Lw => first | with_reducible assumption | exact ⟨by unfold Sz; decide⟩); (case h1Lw => first | exact okG _ _ | exact okH _); (case h2Lw => first | rfl | decide); (case h3Lw => with_reducible assumption); k_whole); intro   h9 tk9  F9 E9 N9; (k_dflt (replace N9 := newsApp N9 E9 (by k_asm))); clear E9; (try dsimp only [List.nil_append, List.cons_append, List.append_nil] at N9); (try simp only [List.append_nil] at N9); (try dsimp only); (try k_fold); (try k_sweep); walk_say "CONTRACT right_c")
  trivial
theorem row181 : True := by
  k_with "eval IfExp" => (guard_hyp scLaw : True; (with_reducible show wpAny _ _ (eval (Expr.IfExp _ _ _ _) _) _ _ _); k_here; k_dflt (refine' meetC ?mFLw ?mNLw ?mCLw ?_; (case mFLw => k_asm); (case mNLw => k_asm)); (case mCLw => clear scLaw; k_dflt ((try k_fold); k_steps; all_goals (refine' metC rfl rfl ?mGLw ?mMLw ?mSLw ?mILw ?m1Lw ?m2Lw; (case mGLw => assumption); (case mMLw => assumption); (case mSLw => (refine List.forall_mem_cons.mpr ⟨by k_mem, ?_⟩; (repeat' (first | exact subNil | exact subP_refl | refine subP_head ?_ | refine subP_skip ?_)); done)); (case mILw => first | assumption | exact IntsAre.cons _ _ .nil); (case m1Lw => first | omega | decide); (case m2Lw => first | omega | decide)))); intro l9 vs9 ns9 k9 h9 tk9 F9 N9 I9 a9 b9; (try dsimp only); (try k_fold); (try k_sweep); walk_say "MET CELLS")
  trivial
theorem row182 : True := by
  k_with "subscriptTail" => (guard_hyp scLaw : True; k_here; (with_reducible show wpAny _ _ (subscriptTail _ _ (Value.ref _) (Value.int _ _)) _ _ _); k_dflt (refine' itemC ?k1Lw ?k2Lw ?k3Lw ?k4Lw ?_ ?k6Lw; (case k1Lw => exact News.isList (by k_asm) (by k_mem)); (case k2Lw => with_reducible assumption); (case k3Lw => first | exact inLen a9.out | exact inLast a9.out); (case k4Lw => exact b9.out); (case k6Lw => with_unfolding_all rfl); k_whole); intro c9 t9)
  trivial
theorem row183 : True := by
  k_with "call builtin:len" => (guard_hyp scLaw : True; k_here; (with_reducible show wpAny _ _ (call (Value.builtin "len") [Value.ref _]) _ _ _); k_dflt (refine' lenCells ?k1Lw ?k2Lw ?k3Lw ?_; (case k1Lw => exact News.isList (by k_asm) (by k_mem)); (case k2Lw => with_reducible assumption); (case k3Lw => exact b9.out)); intro t9 tk9)
  trivial
theorem row184 : True := by
  k_with "binaryOp Mod int int" => (guard_hyp scLaw : True; k_here; with_reducible refine modLen a9.out ?_)
  trivial
theorem row185 : True := by
  k_with "call type:enumerate" => (guard_hyp scLaw : True; k_here; (with_reducible show wpAny _ _ (call (Value.type _) [Value.ref _]) (fun xv s₁ => wpAny _ _ (pyIter xv) (fun it s₂ => TurnsAt _ _ _ _ _ _ _ _ _ it s₂) _ s₁) _ _); (rename Fr _ _ _ _ => lF'); (with_unfolding_all refine' enum4_turns ?hhLw lF' ?NLw ?mLw ?_; (case hhLw => rfl); (case NLw => k_asm); (case mLw => k_mem)); clear lF'; intro i' l1; (try k_lt l1); walk_say "ENUM")
  trivial
theorem row186 : True := by
  k_with "ItemsRest" => (guard_hyp scLaw : True; (with_unfolding_all refine' itemsAll ?nNLw ?nLLw ?suLw ?tuLw ?fiLw _ fours _ ?hmLw); k_dflt ((case nNLw => k_asm); (case nLLw => rfl); (case hmLw => rfl); (case suLw => k_subL)); (case' tuLw => intro sp9 z9 tz9 m9 Rest9 sp0 hz9 hk9 T' t' h' tk' hT' F'; ktu_objs); (case' fiLw => intro m9 h9 tk9 F9 N9); walk_say "TURNS")
  trivial
theorem row187 : True := by
  k_with "UnrEndW" => (guard_hyp scLaw : True; k_dflt (refine' UnrEndW.intro ?uFLw ?uNLw _ ?uILw ?uSLw ?uOLw (hk9 _ ?uELw); (case uFLw => assumption); (case uELw => rfl); (case uNLw => k_asm); (case uILw => k_subL); (case uSLw => k_subL); (case uOLw => ktu_offL)))
  trivial
set_option maxRecDepth 100000 in
set_option maxHeartbeats 0 in
set_option Elab.async true in
theorem main : PySem.Challenge.rw_nz0171_01.Holds := by
  have scLaw : True := trivial
  w_on; o_law
  o_head (kHook kk.heap_1 kAddrs (fun _ => by kernel_rfl))
  case hw => w_witness2
  w_strict (k_go0; (all_goals try k_fold); (all_goals have scLaw : True := trivial); k_steps; done)
end Mine
theorem PySem.Challenge.cw_nz0171_01_holds : PySem.Challenge.rw_nz0171_01.Holds :=
  Mine.main
