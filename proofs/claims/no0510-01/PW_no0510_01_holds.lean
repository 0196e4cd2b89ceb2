import PyProof.Rows.All
import Wide.All
import OpenK.AllK
import Wide.FinOn
import Lean
import PySem.Challenge.RW_no0510_01
set_option Elab.async false
set_option maxRecDepth 100000
set_option maxHeartbeats 8000000
set_option linter.all false
set_option compiler.extract_closed false
set_option bootstrap.genMatcherCode false
set_option genSizeOf false
set_option tactic.hygienic false
namespace Mine.Internal
local macro_rules | `(tactic| walk_at "look") => `(tactic| first | with_unfolding_all exact rfl | with_reducible assumption | ((with_reducible apply $(Lean.mkIdent `ja)); (with_unfolding_all exact rfl); walk_at "look"))
local macro_rules | `(tactic| walk_at "p") => `(tactic| first | exact $(Lean.mkIdent `pL) rfl | (rw [$(Lean.mkIdent `zY):ident]; simp))
local macro_rules | `(tactic| walk_at "l") => `(tactic| first | with_reducible assumption | with_reducible exact Nat.le_add_left_of_le (Nat.le_of_ble_eq_true rfl) | (with_reducible refine Nat.le_trans ?_ (by with_reducible assumption); exact Nat.le_of_ble_eq_true rfl) | lia)
local macro_rules | `(tactic| walk_at "gz") => `(tactic| walk_at "g" <;> repeat ((refine ⟨by walk_at "p", ?_⟩) <;> walk_at "g"))
local macro_rules | `(tactic| walk_at $k:str) => do
 let w := k.getString
 unless ["w1", "w", "g", "dp"].contains w do Lean.Macro.throwUnsupported
 let r := if w == "dp" then "dN/ dL/ dR/ dMl/a dMr/a dC/_ dK/__ dMrC/_ dSl/ dS/a Nat.le_rfl/ dSr/" else "\
  zR qY QH seqK_brk loopK_nxt loopK_ret loopK_brk vM turnK_brk W_sRet Qw Zi yN Zu zz Xx \
  kD/k_ qr wZ X6 qS W_cVal Qx W_cNot W_cAnd W_cOr yU W_eCmp W_eAnd W_eOr W_eNot W_eIf W_eAttr W_attrR/adk_ X7/dk_ \
  KW KT W_itemT1 W_itemT2 KV wY/ak_ W_eTup W_eLst W_eLstC W_eBin W_add W_sub W_eNeg W_pNeg W_eMeth W_isObj/a_ W_eAppend vd/a_ W_ePop W_from W_fromC W_upto \
  XF XE W_sAugSub W_augAdd W_augSub W_sAug/k_ W_sUnpack XD JE KS W_sRaise Qz W_forL W_pForL xR/dd_ JF/dd_ W_eqKof/d_ yT/dd_ W_neKof/d_ \
  X4 W_lt W_le W_gt W_ge W_is W_isnot W_pMax W_pInt W_pAbs"
 let r := if w == "g" then r ++ " W_itemR0/a_ W_itemR1/a_ W_itemR2/a_" else r
 let r := if w.length == 1 then r ++ " jS/r_ jT/r_ Zv/ii whK_t/r_ whK_f/r_ whK_d/ii" else r
 let ts ← (r.splitOn " ").toArray.mapM fun s => do
  let as ← ((s.splitOn "/").getD 1 "_").toList.toArray.mapM fun
   | 'a' => `(by assumption)
   | 'k' => `(by first | with_unfolding_all exact rfl | with_reducible assumption | ((with_reducible apply $(Lean.mkIdent `ja)); (with_unfolding_all exact rfl); walk_at "look"))
   | 'd' => `(by with_unfolding_all decide)
   | 'r' => `(by with_unfolding_all rfl)
   | 'i' => `(fun _ => ?_)
   | _ => `(?_)
  `(Lean.Parser.Tactic.tacticSeq| with_reducible refine $(Lean.mkIdent ((s.splitOn "/").headD "").toName) $as*)
 if w == "dp" then `(tactic| first | with_reducible assumption $[| ($ts) <;> walk_at "dp"]* | (simp only [$(Lean.mkIdent `tdp):ident, $(Lean.mkIdent `vj):ident]; lia) | lia)
 else if w == "w1" then `(tactic| first $[| $ts]*) else `(tactic| repeat' ((fail_if_success (with_reducible refine $(Lean.mkIdent `qI) ?_)); first $[| $ts]*))
section
open PySem
inductive Cls where | null | missing | vector | symbol | call | token | reader | row | error
 deriving DecidableEq, Inhabited
inductive V where
 | none | bool (b : Bool) | int (i : Int) | str (s : Str)
 | tup (l : List V) | lst (l : List V) | obj (c : Cls) (fs : List (Str × V)) | ref (i : Nat) | ext (l : List V)
 deriving Inhabited
noncomputable abbrev Fs := List (Str × V)
inductive jE where | lst (l : List V) | dct (kv : Fs) | obj (c : Cls) (fs : Fs)
 deriving Inhabited
noncomputable abbrev Hp := List jE
structure St where
 lc : Fs
 hp : Hp
inductive Out (α : Type) where
 | ok (a : α) (s : St)
 | exc (k p : V) (s : St)
 | stuck
noncomputable def M (α : Type) := St -> Out α
noncomputable def M.pure {α : Type} (a : α) : M α := fun s => .ok a s
noncomputable def M.bind {α β : Type} (m : M α) (k : α -> M β) : M β := fun s => match m s with
 | .ok a s' => k a s'
 | .exc k p s' => .exc k p s'
 | .stuck => .stuck
noncomputable instance : Monad M where
 pure := M.pure
 bind := M.bind
noncomputable def zC {α : Type} : M α := fun _ => .stuck
theorem M.bind_eq {α β : Type} (m : M α) (k : α -> M β) (s : St) : (m >>= k) s = match m s with
 | .ok a s' => k a s'
 | .exc k p s' => .exc k p s'
 | .stuck => .stuck := rfl
theorem M.pure_eq {α : Type} (a : α) (s : St) : (Pure.pure a : M α) s = .ok a s := rfl
inductive Fl where | nxt | brk | cont | ret (v : V)
noncomputable def qo (hp : Hp) : V -> Option (List V)
 | .lst l => some l
 | .ref i => match hp[i]? with | some (.lst l) => some l | _ => none
 | _ => none
noncomputable def zl (hp : Hp) : V -> Option (List V)
 | .tup l => some l
 | v => qo hp v
noncomputable def dictAt (hp : Hp) : V -> Option Fs
 | .ref i => match hp[i]? with | some (.dct kv) => some kv | _ => none
 | _ => none
noncomputable def zT (x : Str) (v : V) : Fs -> Fs
 | [] => [(x, v)]
 | (y, w) :: r => if x = y then (x, v) :: r else (y, w) :: zT x v r
mutual
noncomputable def pd : V -> Option PyData
 | .none => some .none
 | .bool b => some (.bool b)
 | .int i => some (.int i)
 | .str x => some (.str x)
 | .tup l => (pds l).map .tuple
 | .lst l => (pds l).map .list
 | .obj _ _ => none
 | .ext _ => none
 | .ref _ => none
noncomputable def pds : List V -> Option (List PyData)
 | [] => some []
 | v :: r => match pd v, pds r with
  | some d, some ds => some (d :: ds)
  | _, _ => none
end
noncomputable def wD (hp : Hp) (v : V) : Option PyData := match v with
 | .ref i => match hp[i]? with | some (.lst l) => (pds l).map .list | _ => none
 | v => pd v
noncomputable def zu (d : PyData) : Bool := d.canLay0 && decide (d.depth <= 2000)
noncomputable def on2 {α β γ : Type} (a : Option α) (b : Option β) (f : α -> β -> γ) (d : γ) : γ := match a with
 | none => d
 | some x => match b with
  | none => d
  | some y => f x y
theorem zp {α β γ : Type} {a : Option α} {b : Option β} {f : α -> β -> γ} {d : γ} {P : γ -> Prop} {C : Prop} (h : P (on2 a b f d)) (k : ∀ x y, a = some x -> b = some y -> P (f x y) -> C) (z : P d -> C) : C := by
 cases a with
 | none => exact z h
 | some x => cases b with
  | none => exact z h
  | some y => exact k x y rfl rfl h
noncomputable def kP : V -> Option Int
 | .int i => some i
 | _ => none
theorem jh {v : V} {i : Int} (h : kP v = some i) : v = .int i := by cases v <;> first | (cases h; rfl) | cases h
theorem le0 {a b : Nat} (k : a <= b := by simp +arith only) : a <= b := k
theorem lt0 {a b : Nat} (k : a + 1 <= b := by simp +arith only) : a < b := k
theorem le1 {a b l1 r1 : Nat} (h1 : l1 <= r1) (k : a + (r1) <= b + (l1) := by simp +arith only) : a <= b := Nat.le_of_add_le_add_right (Nat.le_trans k (Nat.add_le_add_left h1 b))
theorem lt1 {a b l1 r1 : Nat} (h1 : l1 <= r1) (k : a + 1 + (r1) <= b + (l1) := by simp +arith only) : a < b := le1 h1 k
theorem le2 {a b l1 r1 l2 r2 : Nat} (h1 : l1 <= r1) (h2 : l2 <= r2) (k : a + (r1 + r2) <= b + (l1 + l2) := by simp +arith only) : a <= b := le1 (Nat.add_le_add h1 h2) k
theorem lt2 {a b l1 r1 l2 r2 : Nat} (h1 : l1 <= r1) (h2 : l2 <= r2) (k : a + 1 + (r1 + r2) <= b + (l1 + l2) := by simp +arith only) : a < b := le2 h1 h2 k
theorem le3 {a b l1 r1 l2 r2 l3 r3 : Nat} (h1 : l1 <= r1) (h2 : l2 <= r2) (h3 : l3 <= r3) (k : a + (r1 + r2 + r3) <= b + (l1 + l2 + l3) := by simp +arith only) : a <= b := le1 (Nat.add_le_add (Nat.add_le_add h1 h2) h3) k
theorem lt3 {a b l1 r1 l2 r2 l3 r3 : Nat} (h1 : l1 <= r1) (h2 : l2 <= r2) (h3 : l3 <= r3) (k : a + 1 + (r1 + r2 + r3) <= b + (l1 + l2 + l3) := by simp +arith only) : a < b := le3 h1 h2 h3 k
theorem le4 {a b l1 r1 l2 r2 l3 r3 l4 r4 : Nat} (h1 : l1 <= r1) (h2 : l2 <= r2) (h3 : l3 <= r3) (h4 : l4 <= r4) (k : a + (r1 + r2 + r3 + r4) <= b + (l1 + l2 + l3 + l4) := by simp +arith only) : a <= b := le1 (Nat.add_le_add (Nat.add_le_add (Nat.add_le_add h1 h2) h3) h4) k
theorem lt4 {a b l1 r1 l2 r2 l3 r3 l4 r4 : Nat} (h1 : l1 <= r1) (h2 : l2 <= r2) (h3 : l3 <= r3) (h4 : l4 <= r4) (k : a + 1 + (r1 + r2 + r3 + r4) <= b + (l1 + l2 + l3 + l4) := by simp +arith only) : a < b := le4 h1 h2 h3 h4 k
theorem le5 {a b l1 r1 l2 r2 l3 r3 l4 r4 l5 r5 : Nat} (h1 : l1 <= r1) (h2 : l2 <= r2) (h3 : l3 <= r3) (h4 : l4 <= r4) (h5 : l5 <= r5) (k : a + (r1 + r2 + r3 + r4 + r5) <= b + (l1 + l2 + l3 + l4 + l5) := by simp +arith only) : a <= b := le1 (Nat.add_le_add (Nat.add_le_add (Nat.add_le_add (Nat.add_le_add h1 h2) h3) h4) h5) k
theorem lt5 {a b l1 r1 l2 r2 l3 r3 l4 r4 l5 r5 : Nat} (h1 : l1 <= r1) (h2 : l2 <= r2) (h3 : l3 <= r3) (h4 : l4 <= r4) (h5 : l5 <= r5) (k : a + 1 + (r1 + r2 + r3 + r4 + r5) <= b + (l1 + l2 + l3 + l4 + l5) := by simp +arith only) : a < b := le5 h1 h2 h3 h4 h5 k
theorem le6 {a b l1 r1 l2 r2 l3 r3 l4 r4 l5 r5 l6 r6 : Nat} (h1 : l1 <= r1) (h2 : l2 <= r2) (h3 : l3 <= r3) (h4 : l4 <= r4) (h5 : l5 <= r5) (h6 : l6 <= r6) (k : a + (r1 + r2 + r3 + r4 + r5 + r6) <= b + (l1 + l2 + l3 + l4 + l5 + l6) := by simp +arith only) : a <= b := le1 (Nat.add_le_add (Nat.add_le_add (Nat.add_le_add (Nat.add_le_add (Nat.add_le_add h1 h2) h3) h4) h5) h6) k
theorem eL {a b : Nat} (h : a = b) : a <= b := Nat.le_of_eq h
theorem eR {a b : Nat} (h : a = b) : b <= a := Nat.le_of_eq h.symm
theorem sL {a b : Nat} (h : a < b) : a + 1 <= b := h
theorem nL {a b : Nat} (h : ¬ a < b) : b <= a := Nat.not_lt.mp h
theorem nE {a b : Nat} (h : ¬ a <= b) : b + 1 <= a := Nat.not_le.mp h
theorem Z0 {hp : Hp} {v : V} {kv : Fs} (h : dictAt hp v = some kv) : ∃ j, v = .ref j /\ hp[j]? = some (.dct kv) := by
 cases v with
 | ref j =>
  refine ⟨j, rfl, ?_⟩
  have h : (match hp[j]? with | some (.dct kv) => some kv | _ => none) = some kv := h
  cases q : hp[j]? with
  | none => rw [q] at h; cases h
  | some c => rw [q] at h; cases c <;> first | (cases h; rfl) | cases h
 | _ => cases h
theorem listAt_ {hp : Hp} {v : V} {l : List V} (h : qo hp v = some l) : v = .lst l \/ ∃ j, v = .ref j /\ hp[j]? = some (.lst l) := by
 cases v with
 | lst k => cases h; exact .inl rfl
 | ref j =>
  refine .inr ⟨j, rfl, ?_⟩
  have h : (match hp[j]? with | some (.lst l) => some l | _ => none) = some l := h
  cases q : hp[j]? with
  | none => rw [q] at h; cases h
  | some c => rw [q] at h; cases c <;> first | (cases h; rfl) | cases h
 | _ => cases h
noncomputable def Kc : V -> Option Str
 | .str x => some x
 | _ => none
theorem strV_ {v : V} {x : Str} (h : Kc v = some x) : v = .str x := by cases v <;> first | (cases h; rfl) | cases h
theorem byC {p : Prop} (h : ¬p -> False) : p := Classical.byContradiction h
end
section
open PySem PySem.W PySem.Calls PyProof.Rows
inductive Gh where | fz (v : V) | cl (i : Nat) | fd (c : Cls) (fs : Fs) | cd (i : Nat)
noncomputable abbrev Gst := Addr -> Option Gh
structure Bs where
 prog : Program
 w : World
 K : Frag
 h0 : Heap
noncomputable def cA : Cls -> Addr
 | .null => 70 | .missing => 91 | .vector => 120 | .symbol => 141 | .call => 163 | .token => 459 | .reader => 438 | .row => 487 | .error => 51
noncomputable def zM : Cls -> List Str
 | .null => [Str.ofString "kind", Str.ofString "attrs"]
 | .missing => [Str.ofString "kind", Str.ofString "attrs"]
 | .vector => [Str.ofString "kind", Str.ofString "items", Str.ofString "attrs", Str.ofString "shared", Str.ofString "loose"]
 | .symbol => [Str.ofString "kind", Str.ofString "name", Str.ofString "attrs"]
 | .call => [Str.ofString "kind", Str.ofString "items", Str.ofString "tags", Str.ofString "attrs", Str.ofString "code"]
 | .token => [Str.ofString "kind", Str.ofString "value", Str.ofString "at", Str.ofString "newline"]
 | .reader => [Str.ofString "source", Str.ofString "ahead", Str.ofString "contexts"]
 | .row => [Str.ofString "tokens", Str.ofString "place"]
 | .error => [Str.ofString "kind", Str.ofString "at"]
inductive VRr (G : Gst) (g : Gh) (c : Value) : Prop
 | mk (a : Addr) (e : c = .ref a) (q : G a = some g)
noncomputable def VR (G : Gst) : V -> Value -> Prop
 | .none, c => c = .none
 | .bool b, c => c = .bool b
 | .int i, c => ∃ t, c = .int i t
 | .str x, c => ∃ t, c = .str x t
 | .ref i, c => VRr G (.cl i) c
 | .tup l, c => VRr G (.fz (.tup l)) c
 | .lst l, c => VRr G (.fz (.lst l)) c
 | .obj k fs, c => VRr G (.fz (.obj k fs)) c
 | .ext l, c => VRr G (.fz (.ext l)) c
inductive VRs (G : Gst) : List V -> List Value -> Prop
 | nil : VRs G [] []
 | cons {v c vs cs} : VR G v c -> VRs G vs cs -> VRs G (v :: vs) (c :: cs)
inductive DR (G : Gst) (fs : Fs) : List Str -> List DictEntry -> Prop
 | nil : DR G fs [] []
 | cons {n ns e es} : (∃ t, e.key = .str n t) -> (∀ v, fs.lookup n = some v -> VR G v e.val) -> DR G fs ns es -> DR G fs (n :: ns) (e :: es)
inductive KR (G : Gst) : Fs -> List (Str × Value) -> Prop
 | nil : KR G [] []
 | cons {k v c kv es} : VR G v c -> KR G kv es -> KR G ((k, v) :: kv) ((k, c) :: es)
inductive zw (T : String) (G : Gst) (h : Heap) (a : Addr) (l : List V) : Prop
 | mk (n : Nat) (cs : Array Value) (h1 : h.get? a = some { cls := .type T, data := .seq cs n }) (h2 : VRs G l cs.toList)
inductive wC (G : Gst) (h : Heap) (a : Addr) (l : List V) : Prop
 | mk (o : Obj) (n : Nat) (cs : Array Value) (h1 : h.get? a = some o) (h2 : o.cls = .type "list") (h3 : o.data = .seq cs n) (h4 : VRs G l cs.toList)
noncomputable def InOb (h : Heap) (a : Addr) (c : Cls) (dx : Addr) : Prop := h.get? a = some (instObj (cA c) dx)
inductive xA (G : Gst) (h : Heap) (a : Addr) (c : Cls) (fs : Fs) : Prop
 | mk (n : Nat) (es : List DictEntry) (h1 : h.get? a = some (dictOf es n)) (h2 : DR G fs (zM c) es) (h3 : ∀ x, (fs.lookup x).isSome = true -> x ∈ zM c)
inductive yV (B : Bs) (G : Gst) (h : Heap) (a : Addr) (kv : Fs) : Prop
 | mk (es : List (Str × Value)) (h1 : h.DictOf (strKind B.prog B.w) a es) (h2 : KR G kv es) (h3 : (a == sysModules) = false)
inductive wz (G : Gst) (h : Heap) (a : Addr) (c : Cls) (g : Gh) : Prop
 | mk (dx : Addr) (h1 : InOb h a c dx) (h2 : G dx = some g)
noncomputable def FzOb (G : Gst) (h : Heap) (a : Addr) : V -> Prop
 | .tup l => zw "tuple" G h a l
 | .lst l => zw "list" G h a l
 | .obj c fs => wz G h a c (.fd c fs)
 | .ext l => wC G h a l
 | _ => False
noncomputable def ZH (B : Bs) (G : Gst) (h : Heap) (a : Addr) (i : Nat) : Option jE -> Prop
 | some (.lst l) => zw "list" G h a l
 | some (.dct kv) => yV B G h a kv
 | some (.obj c _) => wz G h a c (.cd i)
 | none => False
noncomputable def Q4 (G : Gst) (h : Heap) (a : Addr) : Option jE -> Prop
 | some (.obj c fs) => xA G h a c fs
 | _ => False
noncomputable def OR (B : Bs) (hp : Hp) (G : Gst) (h : Heap) (a : Addr) : Gh -> Prop
 | .fz v => FzOb G h a v
 | .cl i => ZH B G h a i hp[i]?
 | .fd c fs => xA G h a c fs
 | .cd i => Q4 G h a hp[i]?
noncomputable def Gh.mine : Gh -> Bool | .fz (.ext _) => false | _ => true
structure vf (B : Bs) (G : Gst) (hp : Hp) (h : Heap) : Prop where
 or : ∀ a g, G a = some g -> OR B hp G h a g
 fresh : ∀ a g, G a = some g -> g.mine = true -> B.h0.get? a = none
 injl : ∀ a b i, G a = some (.cl i) -> G b = some (.cl i) -> a = b
 injd : ∀ a b i, G a = some (.cd i) -> G b = some (.cd i) -> a = b
inductive JK (h : Heap) (a : Addr) : Prop
 | mk (o : Obj) (h1 : h.get? a = some o) (h2 : ∀ vs, o.data ≠ .fields vs)
theorem xA.at {G h a c fs} (r : xA G h a c fs) : JK h a := by cases r with | mk n cs h1 _ _ => exact ⟨_, h1, fun vs q => nomatch q⟩
theorem zw.at {T G h a l} (r : zw T G h a l) : JK h a := by cases r with | mk n cs h1 _ => exact ⟨_, h1, fun vs q => nomatch q⟩
theorem wz.at {G h a c g} (r : wz G h a c g) : JK h a := by cases r with | mk dx h1 _ => exact ⟨_, h1, fun vs q => nomatch q⟩
theorem wC.at {G h a l} (r : wC G h a l) : JK h a := by cases r with | mk o n cs h1 _ h3 _ => exact ⟨o, h1, fun vs q => by rw [h3] at q; cases q⟩
theorem yV.at {B G h a kv} (r : yV B G h a kv) : JK h a := by cases r with | mk es h1 _ _ => exact h1.elim fun o h1 => h1.elim fun es' h1 => h1.elim fun ep h1 => ⟨_, h1.1, fun vs q => by rw [h1.2.2.1] at q; cases q⟩
theorem FzOb.at {G h a} {v : V} (r : FzOb G h a v) : JK h a := by
 cases v with
 | tup l => exact zw.at r
 | lst l => exact zw.at r
 | obj c fs => exact wz.at r
 | ext l => exact wC.at r
 | _ => exact False.elim r
theorem ZH.at {B G h a i} {o : Option jE} (r : ZH B G h a i o) : JK h a := by
 cases o with
 | none => exact False.elim r
 | some c => cases c with
  | lst l => exact zw.at r
  | dct kv => exact yV.at r
  | obj c fs => exact wz.at r
theorem Q4.at {G h a} {o : Option jE} (r : Q4 G h a o) : JK h a := by
 cases o with
 | none => exact False.elim r
 | some c => cases c with
  | obj c fs => exact xA.at r
  | _ => exact False.elim r
theorem Q4.obj {G h a} {o : Option jE} (r : Q4 G h a o) : ∃ c fs, o = some (.obj c fs) := by
 cases o with
 | none => exact False.elim r
 | some c => cases c with
  | obj c fs => exact ⟨c, fs, rfl⟩
  | _ => exact False.elim r
theorem OR.at {B hp G h a} {g : Gh} (r : OR B hp G h a g) : JK h a := by
 cases g with
 | fz v => exact FzOb.at r
 | cl i => exact ZH.at r
 | fd c fs => exact xA.at r
 | cd i => exact Q4.at r
theorem vf.lt {B : Bs} {G : Gst} {hp : Hp} {h : Heap} (g : vf B G hp h) {a y} (e : G a = some y) : a < h.objs.size :=
 let ⟨_, ho, _⟩ := (g.or a y e).at; Heap.lt_size ho
theorem vf.none_at {B : Bs} {G : Gst} {hp : Hp} {h : Heap} (g : vf B G hp h) {a} (e : h.objs.size <= a) : G a = none := by
 cases q : G a with
 | none => rfl
 | some x => exact absurd (g.lt q) (Nat.not_lt.mpr e)
structure Frm where
 env : Env
 fenv : Env
 outer : List Env
noncomputable def Frm.own (fr : Frm) (a : Addr) : Prop := a = fr.env.locals \/ a ∈ fr.env.cells.map (·.2)
structure Ext (own : Addr -> Prop) (G : Gst) (s : Shared) (G' : Gst) (s' : Shared) : Prop where
 g : ∀ a x, G a = some x -> G' a = some x
 new : ∀ a, a < s.heap.objs.size -> G a = none -> G' a = none
 keep : ∀ a o, ¬ own a -> G a = none -> s.heap.get? a = some o -> s'.heap.get? a = some o
 size : s.heap.objs.size <= s'.heap.objs.size
 rest : s'.gens = s.gens /\ s'.os = s.os
structure yn (own : Addr -> Prop) (G : Gst) (s : Shared) (G' : Gst) (s' : Shared) : Prop where
 g : ∀ a x, G a = some x -> G' a = some x
 new : ∀ a, a < s.heap.objs.size -> G a = none -> G' a = none
 keep : ∀ a o, ¬ own a -> G a = none -> s.heap.get? a = some o -> (∀ vs, o.data ≠ .fields vs) -> ∃ sl, s'.heap.get? a = some { o with slots := sl }
 size : s.heap.objs.size <= s'.heap.objs.size
 rest : s'.gens = s.gens /\ s'.os = s.os
theorem Ext.refl {own G s} : Ext own G s G s := ⟨fun _ _ e => e, fun _ _ e => e, fun _ _ _ _ e => e, Nat.le_refl _, rfl, rfl⟩
theorem Ext.trans {own G s G1 s₁ G2 s2} (x : Ext own G s G1 s₁) (y : Ext own G1 s₁ G2 s2) : Ext own G s G2 s2 :=
 ⟨fun a v e => y.g a v (x.g a v e), fun a l e => y.new a (Nat.lt_of_lt_of_le l x.size) (x.new a l e), fun a o n e q => y.keep a o n (x.new a (Heap.lt_size q) e) (x.keep a o n e q),
  Nat.le_trans x.size y.size, y.rest.1.trans x.rest.1, y.rest.2.trans x.rest.2⟩
theorem Ext.toX {own G s G1 s₁} (x : Ext own G s G1 s₁) : yn own G s G1 s₁ := ⟨x.g, x.new, fun a o n e q _ => ⟨o.slots, x.keep a o n e q⟩, x.size, x.rest⟩
theorem Ext.transX {own G s G1 s₁ G2 s2} (x : Ext own G s G1 s₁) (y : yn own G1 s₁ G2 s2) : yn own G s G2 s2 :=
 ⟨fun a v e => y.g a v (x.g a v e), fun a l e => y.new a (Nat.lt_of_lt_of_le l x.size) (x.new a l e), fun a o n e q d => y.keep a o n (x.new a (Heap.lt_size q) e) (x.keep a o n e q) d,
  Nat.le_trans x.size y.size, y.rest.1.trans x.rest.1, y.rest.2.trans x.rest.2⟩
theorem yn.trans {own G s G1 s₁ G2 s2} (x : yn own G s G1 s₁) (y : yn own G1 s₁ G2 s2) : yn own G s G2 s2 :=
 ⟨fun a v e => y.g a v (x.g a v e), fun a l e => y.new a (Nat.lt_of_lt_of_le l x.size) (x.new a l e), fun a o n e q d => by
   obtain ⟨sl, h1⟩ := x.keep a o n e q d
   obtain ⟨sl', h2⟩ := y.keep a _ n (x.new a (Heap.lt_size q) e) h1 d
   exact ⟨sl', h2⟩,
  Nat.le_trans x.size y.size, y.rest.1.trans x.rest.1, y.rest.2.trans x.rest.2⟩
theorem VRr.mono {G G' : Gst} (m : ∀ a x, G a = some x -> G' a = some x) {g : Gh} {c : Value} (h : VRr G g c) : VRr G' g c := by
 cases h with | mk a e q => exact ⟨a, e, m _ _ q⟩
theorem VR.mono {G G' : Gst} (m : ∀ a x, G a = some x -> G' a = some x) {v : V} {c : Value} (h : VR G v c) : VR G' v c := by
 cases v <;> first | exact h | exact VRr.mono m h
theorem VRs.mono {G G' : Gst} (m : ∀ a x, G a = some x -> G' a = some x) {vs cs} (h : VRs G vs cs) : VRs G' vs cs := by
 induction h with
 | nil => exact .nil
 | cons a _ ih => exact .cons (a.mono m) ih
theorem VRs.length {G : Gst} {vs cs} (h : VRs G vs cs) : vs.length = cs.length := by
 induction h with
 | nil => rfl
 | cons _ _ ih => exact congrArg (· + 1) ih
theorem VRs.append {G : Gst} {vs cs vs' cs'} (h : VRs G vs cs) (k : VRs G vs' cs') : VRs G (vs ++ vs') (cs ++ cs') := by
 induction h with
 | nil => exact k
 | cons a _ ih => exact .cons a ih
theorem VRs.get {G : Gst} {vs cs} (r : VRs G vs cs) : ∀ {i : Nat} {v : V}, vs[i]? = some v -> ∃ c, cs[i]? = some c /\ VR G v c := by
 induction r with
 | nil => intro i v h; cases h
 | cons a _ ih =>
  intro i v h
  cases i with
  | zero => cases h; exact ⟨_, rfl, a⟩
  | succ i => exact ih (i := i) h
theorem VRs.take {G : Gst} {vs cs} (r : VRs G vs cs) : ∀ n, VRs G (vs.take n) (cs.take n) := by
 induction r with
 | nil => intro n; rw [List.take_nil, List.take_nil]; exact .nil
 | cons a _ ih => intro n; cases n with
  | zero => exact .nil
  | succ n => exact .cons a (ih n)
theorem VRs.drop {G : Gst} {vs cs} (r : VRs G vs cs) : ∀ n, VRs G (vs.drop n) (cs.drop n) := by
 induction r with
 | nil => intro n; rw [List.drop_nil, List.drop_nil]; exact .nil
 | cons a r ih => intro n; cases n with
  | zero => exact .cons a r
  | succ n => exact ih n
theorem DR.mono {G G' : Gst} {fs : Fs} (m : ∀ a x, G a = some x -> G' a = some x) {ns es} (h : DR G fs ns es) : DR G' fs ns es := by
 induction h with
 | nil => exact .nil
 | cons a b _ ih => exact .cons a (fun v e => (b v e).mono m) ih
theorem KR.mono {G G' : Gst} (m : ∀ a x, G a = some x -> G' a = some x) {kv es} (h : KR G kv es) : KR G' kv es := by
 induction h with
 | nil => exact .nil
 | cons a _ ih => exact .cons (a.mono m) ih
noncomputable def Rd (env : Env) (h : Heap) (x : Str) (c : Value) : Prop := match env.kindOf x with
 | some .local => ∃ m, h.Ns env.locals m /\ m x = some c
 | some .cell => ∃ ca, env.cells.lookup x = some ca /\ h.IsCell ca (some c)
 | _ => False
inductive FrsOb (B : Bs) (G : Gst) (h : Heap) (e : Env) : Prop
 | mk (h1 : e.scope.kind ≠ .module) (L : Addr) (o : Obj) (h2 : e.frame = some L) (h3 : B.h0.get? L = none) (h4 : G L = none) (h5 : h.get? L = some o) (h6 : ∀ vs, o.data ≠ .fields vs)
structure Inv (B : Bs) (fr : Frm) (G : Gst) (st : St) (s : Shared) : Prop where
 good : vf B G st.hp s.heap
 base : B.h0.StaysIn s.heap
 own : ∀ a, fr.own a -> G a = none /\ B.h0.get? a = none
 ns : ∃ m, s.heap.Ns fr.env.locals m
 celA : ∀ p, p ∈ fr.env.cells -> ∃ v, s.heap.IsCell p.2 v
 nm : ∀ x v, st.lc.lookup x = some v -> ∃ c, VR G v c /\ Rd fr.env s.heap x c
 frs : ∀ e ∈ fr.fenv :: fr.outer, FrsOb B G s.heap e
 gens : s.gens = #[]
inductive ExOb (G : Gst) (h : Heap) (e : Addr) (k p : V) (vs : Array Value) : Prop
 | mk (oe : Obj) (dx : Addr) (he : h.get? e = some oe) (hc : oe.cls = .ref (cA .error)) (hdx : oe.dict = some dx) (hd : oe.data = .fields vs) (hz : 1 < vs.size) (hk : G dx = some (.fd .error [(Str.ofString "kind", k), (Str.ofString "at", p)]))
inductive TbOb (B : Bs) (G : Gst) (h : Heap) (e : Addr) (vs : Array Value) (v : Value) : Prop
 | mk (T : Addr) (oT : Obj) (ts : Array Value) (h1 : vs[1]? = some (.ref T)) (h2 : T ≠ e) (h3 : B.h0.get? T = none) (h4 : G T = none) (h5 : h.get? T = some oT) (h6 : oT.data = .fields ts) (h7 : ts[3]? = some v)
noncomputable def MkOb (B : Bs) (G : Gst) (h : Heap) (e : Addr) (vs : Array Value) : Option Value -> Prop
 | none => vs[1]? = some .none
 | some v => TbOb B G h e vs v
inductive Fl4 (B : Bs) (G : Gst) (h : Heap) (e : Addr) (k p : V) (m : Option Value) : Prop
 | mk (h0 : B.h0.get? e = none) (hG : G e = none) (vs : Array Value) (x : ExOb G h e k p vs) (hm : MkOb B G h e vs m)
noncomputable def Fl3 (B : Bs) (G : Gst) (s : Shared) (e : Addr) (k p : V) (m : Option Value) : Prop := Fl4 B G s.heap e k p m
noncomputable def Fly (B : Bs) (fr : Frm) (G : Gst) (s : Shared) (e : Addr) (k p : V) : Prop :=
 ∃ m, Fl3 B G s e k p m /\ (m = none \/ m = some .none \/ ∃ L, fr.fenv.frame = some L /\ m = some (rawInt L))
noncomputable def qX {β α : Type} (B : Bs) (fr : Frm) (ow : Addr -> Prop) (G : Gst) (s : Shared) (R : Gst -> β -> α -> Prop) (Q : α -> Shared -> Prop) (E : Value -> Shared -> Prop) : Out β -> Prop
 | .ok b st' => ∀ s' G' a, Ext ow G s G' s' -> Inv B fr G' st' s' -> R G' b a -> Q a s'
 | .exc k p st' => ∀ s' G' e, yn ow G s G' s' -> Inv B fr G' st' s' -> Fly B fr G' s' e k p -> E (.ref e) s'
 | .stuck => False
structure AOk (n : Nat) (A : Around) (fr : Frm) : Prop where
 frames : A.frames = some (fr.fenv :: fr.outer)
 depth : A.depth + 3 * n + 20 < recursionLimit
 units : A.units + 20 * n + 4000 < cLine
 handled : A.handled = none
structure Sim {β α : Type} (B : Bs) (n : Nat) (fr : Frm) (ow : Addr -> Prop) (R : Gst -> β -> α -> Prop) (t : Sem α) (m : M β) : Prop where
 run : ∀ A G st s, AOk n A fr -> Inv B fr G st s -> ∀ Q E, qX B fr ow G s R Q E (m st) -> wpAny (model B.prog B.w) A t Q E s
section
variable {B : Bs} {n : Nat} {fr : Frm} {ow : Addr -> Prop} {G G' : Gst} {s s' : Shared} {st st' : St} {β γ α δ : Type} {R : Gst -> β -> α -> Prop} {R' : Gst -> γ -> δ -> Prop} {Q : δ -> Shared -> Prop} {Q₁ : α -> Shared -> Prop} {E : Value -> Shared -> Prop}
theorem qX.ext {o : Out γ} (x : Ext ow G s G' s') (h : qX B fr ow G s R' Q E o) : qX B fr ow G' s' R' Q E o := by
 cases o with
 | ok b st' => exact fun s2 G2 a y i r => h s2 G2 a (x.trans y) i r
 | exc k p st' => exact fun s2 G2 a y i r => h s2 G2 a (x.transX y) i r
 | stuck => exact h
theorem qX.bind {m : M β} {k : β -> M γ} (h : qX B fr ow G s R' Q E ((m >>= k) st))
  (hq : ∀ b st' s' G' a, Ext ow G s G' s' -> Inv B fr G' st' s' -> R G' b a -> qX B fr ow G' s' R' Q E (k b st') -> Q₁ a s') : qX B fr ow G s R Q₁ E (m st) := by
 rw [M.bind_eq] at h
 cases hm : m st with
 | ok b st' =>
  rw [hm] at h
  exact fun s' G' a x i r => hq b st' s' G' a x i r (h.ext x)
 | exc k p st' => rw [hm] at h; exact h
 | stuck => rw [hm] at h; exact h
theorem qX.bind' {m : M β} {k : β -> M γ} {G0 : Gst} {s0 : Shared} (x₀ : Ext ow G s G0 s0) (h : qX B fr ow G s R' Q E ((m >>= k) st))
  (hq : ∀ b st' s' G' a, Ext ow G s G' s' -> Ext ow G0 s0 G' s' -> Inv B fr G' st' s' -> R G' b a -> qX B fr ow G s R' Q E (k b st') -> Q₁ a s') : qX B fr ow G0 s0 R Q₁ E (m st) := by
 rw [M.bind_eq] at h
 cases hm : m st with
 | ok b st' =>
  rw [hm] at h
  exact fun s' G' a x i r => hq b st' s' G' a (x₀.trans x) x i r h
 | exc k p st' => rw [hm] at h; exact qX.ext (o := .exc k p st') x₀ h
 | stuck => rw [hm] at h; exact h
theorem qX.ok {b : γ} {a : δ} (h : qX B fr ow G s R' Q E (.ok b st')) (i : Inv B fr G st' s) (r : R' G b a) : Q a s := h s G a .refl i r
theorem qX.ok' {b : γ} {a : δ} (h : qX B fr ow G s R' Q E (.ok b st')) (x : Ext ow G s G' s') (i : Inv B fr G' st' s') (r : R' G' b a) : Q a s' := h s' G' a x i r
end
noncomputable def qD (x : Str) : M V := fun s => match s.lc.lookup x with | some v => .ok v s | none => .stuck
noncomputable def xL (x : Str) (v : V) : M Unit := fun s => .ok () ⟨zT x v s.lc, s.hp⟩
noncomputable def qK : M Fl := pure .nxt
noncomputable def qF (a b : M Fl) : M Fl := a >>= fun f => match f with | .nxt => b | .brk => pure .brk | .cont => pure .cont | .ret v => pure (.ret v)
noncomputable def qs (e : M V) : M Fl := e >>= fun v => pure (.ret v)
noncomputable def sRetN : M Fl := pure (.ret .none)
noncomputable def qy (x : Str) (e : M V) : M Fl := e >>= fun v => xL x v >>= fun _ => pure .nxt
noncomputable def sIf (c : M Bool) (a b : M Fl) : M Fl := c >>= fun t => if t then a else b
noncomputable def qv (e : M V) : M Fl := e >>= fun _ => pure .nxt
noncomputable def FR (G : Gst) : Fl -> Flow -> Prop
 | .nxt, f => f = .next
 | .brk, f => f = .brk
 | .cont, f => f = .cont
 | .ret v, f => ∃ c, f = .ret c /\ VR G v c
noncomputable def BR (_ : Gst) (b : Bool) (c : Bool) : Prop := c = b
noncomputable def UR (_ : Gst) (_ : Unit) (_ : Unit) : Prop := True
theorem zg (x y : Str) (v : V) (l : Fs) : (zT x v l).lookup y = if y = x then some v else l.lookup y := by
 induction l with
 | nil =>
  simp only [zT, List.lookup_cons, List.lookup_nil]
  by_cases h : y = x
  ·subst h; simp
  ·have : (y == x) = false := by simpa using h
   simp [this, h]
 | cons p r ih =>
  obtain ⟨z, w⟩ := p
  simp only [zT]
  by_cases h : x = z
  ·subst h
   simp only [if_true, List.lookup_cons]
   by_cases h : y = x
   ·subst h; simp
   ·have : (y == x) = false := by simpa using h
    simp [this, h]
  ·rw [if_neg h, List.lookup_cons, List.lookup_cons, ih]
   by_cases h2 : y = z
   ·subst h2
    simp only [beq_self_eq_true]
    rw [if_neg (fun q => h q.symm)]
   ·have : (y == z) = false := by simpa using h2
    simp only [this]
section
variable {B : Bs} {n : Nat} {fr : Frm} {ow : Addr -> Prop}
theorem Ext.tok {own G} {s : Shared} (t : Nat) : Ext own G s G { s with toks := t } := ⟨fun _ _ e => e, fun _ _ e => e, fun _ _ _ _ e => e, Nat.le_refl _, rfl, rfl⟩
theorem Inv.tok {G st} {s : Shared} (t : Nat) (i : Inv B fr G st s) : Inv B fr G st { s with toks := t } :=
 ⟨i.good, i.base, i.own, i.ns, i.celA, i.nm, i.frs, i.gens⟩
theorem qf {k pos} : Sim B n fr ow VR (eval (.Constant .none k pos) fr.env) (pure .none) := ⟨fun _ _ _ _ _ i _ _ h => wpAny_Constant_none (h.ok i rfl)⟩
theorem jA {b k pos} : Sim B n fr ow VR (eval (.Constant (.bool b) k pos) fr.env) (pure (.bool b)) := ⟨fun _ _ _ _ _ i _ _ h => wpAny_Constant_bool (h.ok i rfl)⟩
theorem qH {b k pos} : Sim B n fr ow VR (eval (.Constant (.int b) k pos) fr.env) (pure (.int b)) := ⟨fun _ _ _ _ _ i _ _ h => wpAny_Constant_int (h.ok' (.tok _) (i.tok _) ⟨_, rfl⟩)⟩
theorem qE {b k pos} : Sim B n fr ow VR (eval (.Constant (.str b) k pos) fr.env) (pure (.str b)) := ⟨fun _ _ _ _ _ i _ _ h => wpAny_Constant_str (h.ok' (.tok _) (i.tok _) ⟨_, rfl⟩)⟩
set_option tactic.hygienic true in
theorem xU {A : Around} {E : Value -> Shared -> Prop} {Q : Value -> Shared -> Prop} {s : Shared} {x : Str} {c : Value} (hk : fr.env.scope.kind = .function) (r : Rd fr.env s.heap x c) (h : Q c s) :
  wpAny (model B.prog B.w) A (loadName fr.env x) Q E s := by
 unfold Rd at r
 split at r
 ·rename_i hl
  obtain ⟨m, h1, h2⟩ := r
  exact wpAny_loadName_local hk hl h1 h2 h
 ·rename_i hl
  obtain ⟨ca, h1, h2⟩ := r
  exact wpAny_loadName_cell hk hl h1 h2 h
 ·exact r.elim
theorem XQ {x : Str} {pos : Pos} (hk : fr.env.scope.kind = .function) (hd : (x == ("__debug__" : Str)) = false := by decide) : Sim B n fr ow VR (eval (.Name x pos) fr.env) (qD x) := by
 refine ⟨?_⟩
 intro A G st s o i Q E h
 unfold qD at h
 cases hv : st.lc.lookup x with
 | none => rw [hv] at h; exact h.elim
 | some v =>
  rw [hv] at h
  obtain ⟨c, h1, h2⟩ := i.nm x v hv
  exact wpAny_Name (xU hk h2 (h.ok i h1)) hd
theorem qG : Sim B n fr ow FR (execs [] fr.env) qK := ⟨fun _ _ _ _ _ i _ _ h => wpAny_execs_nil (h.ok i rfl)⟩
theorem qB {a b : M Fl} {st : Stmt} {rest : List Stmt} (h1 : Sim B n fr ow FR (exec st fr.env) a) (h2 : Sim B n fr ow FR (execs rest fr.env) b) : Sim B n fr ow FR (execs (st :: rest) fr.env) (qF a b) := by
 refine ⟨?_⟩
 intro A G st s o i Q E h
 refine wpAny_execs_cons (h1.run A G st s o i _ _ (h.bind ?_))
 intro f st' s' G' fl x i' r h'
 cases f with
 | nxt => cases r; exact h2.run A G' st' s' o i' _ _ h'
 | brk => cases r; exact h'.ok i' rfl
 | cont => cases r; exact h'.ok i' rfl
 | ret v => obtain ⟨c, rfl, rv⟩ := r; exact h'.ok i' ⟨c, rfl, rv⟩
theorem qM {e : M V} {x : PySem.Expr} {pos : Pos} (h1 : Sim B n fr ow VR (eval x fr.env) e) : Sim B n fr ow FR (exec (.Return (some x) pos) fr.env) (qs e) := by
 refine ⟨?_⟩
 intro A G st s o i Q E h
 refine wpAny_Return_some (h1.run A G st s o i _ _ (h.bind ?_))
 intro v st' s' G' c x i' r h'
 exact h'.ok i' ⟨c, rfl, r⟩
theorem sim_retN {pos : Pos} : Sim B n fr ow FR (exec (.Return none pos) fr.env) sRetN := ⟨fun _ _ _ _ _ i _ _ h => wpAny_Return_none (h.ok i ⟨_, rfl, rfl⟩)⟩
theorem qT {c : M Bool} {a b : M Fl} {t : PySem.Expr} {body orelse : List Stmt} {pos : Pos} (hc : Sim B n fr ow BR (isTrue t fr.env (eval t fr.env)) c) (ha : Sim B n fr ow FR (execs body fr.env) a)
  (hb : Sim B n fr ow FR (execs orelse fr.env) b) : Sim B n fr ow FR (exec (.If t body orelse pos) fr.env) (sIf c a b) := by
 refine ⟨?_⟩
 intro A G st s o i Q E h
 refine wpAny_If (hc.run A G st s o i _ _ (h.bind ?_))
 intro t st' s' G' c x i' r h'
 cases r
 cases t with
 | true => exact ha.run A G' st' s' o i' _ _ h'
 | false => exact hb.run A G' st' s' o i' _ _ h'
theorem sim_pass {pos : Pos} : Sim B n fr ow FR (exec (.Pass pos) fr.env) qK := ⟨fun _ _ _ _ _ i _ _ h => wpAny_Pass (h.ok i rfl)⟩
theorem ZN {pos : Pos} : Sim B n fr ow FR (exec (.Break pos) fr.env) (pure .brk) := ⟨fun _ _ _ _ _ i _ _ h => wpAny_Break (h.ok i rfl)⟩
structure FrOk (fr : Frm) : Prop where
 kind : fr.env.scope.kind = .function
 nodup : (fr.env.cells.map (·.2)).Nodup
 loc : fr.env.locals ∉ fr.env.cells.map (·.2)
 uniq : ∀ x y ca, fr.env.cells.lookup x = some ca -> fr.env.cells.lookup y = some ca -> x = y
theorem zH {α : Type} {l : List (Str × α)} {x : Str} {a : α} (h : l.lookup x = some a) : (x, a) ∈ l := by
 induction l with
 | nil => simp at h
 | cons p r ih =>
  obtain ⟨y, b⟩ := p
  rw [List.lookup_cons] at h
  by_cases q : x = y
  ·subst q; simp at h; subst h; exact .head _
  ·have : (x == y) = false := by simpa using q
   rw [this] at h; exact .tail _ (ih h)
theorem Jx {prog : Program} {w : World} {h h' : Heap} {a : Addr} {es : List (Str × Value)} (e : h'.get? a = h.get? a) (x : h.DictOf (strKind prog w) a es) : h'.DictOf (strKind prog w) a es :=
 let ⟨o, es, ep, ho, r⟩ := x; ⟨o, es, ep, e.trans ho, r⟩
theorem xA.same {G} {h h' : Heap} {a c fs} (e : h'.get? a = h.get? a) (r : xA G h a c fs) : xA G h' a c fs := by cases r with | mk n cs h1 h2 h3 => exact ⟨n, cs, e.trans h1, h2, h3⟩
theorem zw.same {T G} {h h' : Heap} {a l} (e : h'.get? a = h.get? a) (r : zw T G h a l) : zw T G h' a l := by cases r with | mk n cs h1 h2 => exact ⟨n, cs, e.trans h1, h2⟩
theorem wz.same {G} {h h' : Heap} {a c g} (e : h'.get? a = h.get? a) (r : wz G h a c g) : wz G h' a c g := by cases r with | mk dx h1 h2 => exact ⟨dx, e.trans h1, h2⟩
theorem wC.same {G} {h h' : Heap} {a l} (e : h'.get? a = h.get? a) (r : wC G h a l) : wC G h' a l := by cases r with | mk o n cs h1 h2 h3 h4 => exact ⟨o, n, cs, e.trans h1, h2, h3, h4⟩
theorem yV.same {B G} {h h' : Heap} {a kv} (e : h'.get? a = h.get? a) (r : yV B G h a kv) : yV B G h' a kv := by cases r with | mk es h1 h2 h3 => exact ⟨es, Jx e h1, h2, h3⟩
theorem OR.same {B hp G} {h h' : Heap} {a} (e : h'.get? a = h.get? a) {g : Gh} (r : OR B hp G h a g) : OR B hp G h' a g := by
 cases g with
 | fz v =>
  cases v with
  | tup l => exact zw.same e r
  | lst l => exact zw.same e r
  | obj c fs => exact wz.same e r
  | ext l => exact wC.same e r
  | _ => exact False.elim r
 | cl i =>
  have r : ZH B G h a i hp[i]? := r
  show ZH B G h' a i hp[i]?
  generalize hp[i]? = q at r ⊢
  cases q with
  | none => exact False.elim r
  | some c => cases c with
   | lst l => exact zw.same e r
   | dct kv => exact yV.same e r
   | obj c fs => exact wz.same e r
 | fd c fs => exact xA.same e r
 | cd i =>
  have r : Q4 G h a hp[i]? := r
  show Q4 G h' a hp[i]?
  generalize hp[i]? = q at r ⊢
  cases q with
  | none => exact False.elim r
  | some c => cases c with
   | obj c fs => exact xA.same e r
   | _ => exact False.elim r
theorem vf.apart {G hp} {h h' : Heap} (g : vf B G hp h) (k : ∀ a y, G a = some y -> h'.get? a = h.get? a) : vf B G hp h' :=
 ⟨fun a y e => (g.or a y e).same (k a y e), g.fresh, g.injl, g.injd⟩
theorem isCell_sameBut {h h' : Heap} {a ca : Addr} {v : Option Value} (hs : Heap.SameBut a h h') (n : ca ≠ a) (c : h.IsCell ca v) : h'.IsCell ca v := c.sameBut hs n
theorem Rd.of {h h' : Heap} {x : Str} {c : Value} (hn : ∀ m, h.Ns fr.env.locals m -> h'.Ns fr.env.locals m) (hc : ∀ ca v, (x, ca) ∈ fr.env.cells -> h.IsCell ca v -> h'.IsCell ca v) (r : Rd fr.env h x c) : Rd fr.env h' x c := by
 unfold Rd at r ⊢
 split at r
 ·obtain ⟨m, h1, h2⟩ := r; exact ⟨m, hn m h1, h2⟩
 ·obtain ⟨ca, h1, h2⟩ := r; exact ⟨ca, h1, hc ca _ (zH h1) h2⟩
 ·exact r.elim
theorem kl {A : Around} {E : Value -> Shared -> Prop} {Q : Unit -> Shared -> Prop} {G : Gst} {st : St} {s : Shared} {x : Str} {v : V} {c : Value} (ok : FrOk fr) (i : Inv B fr G st s) (hv : VR G v c)
  (hk : fr.env.kindOf x = some .local \/ fr.env.kindOf x = some .cell /\ (fr.env.cells.lookup x).isSome = true)
  (h : ∀ s', Ext fr.own G s G s' -> Inv B fr G ⟨zT x v st.lc, st.hp⟩ s' -> Q () s') : wpAny (model B.prog B.w) A (storeName fr.env x c) Q E s := by
 obtain ⟨m, hm⟩ := i.ns
 have key : ∀ (s' : Shared) (b : Addr), fr.own b -> Heap.SameBut b s.heap s'.heap -> s'.gens = s.gens /\ s'.os = s.os -> (∃ m, s'.heap.Ns fr.env.locals m) -> (∀ p, p ∈ fr.env.cells -> ∃ v, s'.heap.IsCell p.2 v) ->
   (∃ o, s'.heap.get? b = some o /\ ∀ vs, o.data ≠ .fields vs) ->
   (∀ y w, (zT x v st.lc).lookup y = some w -> ∃ c, VR G w c /\ Rd fr.env s'.heap y c) -> Ext fr.own G s G s' /\ Inv B fr G ⟨zT x v st.lc, st.hp⟩ s' := by
  intro s' b hb hs hr hns hcel hbo hnm
  have kp : ∀ a, a ≠ b -> s'.heap.get? a = s.heap.get? a := hs.2
  refine ⟨⟨fun _ _ e => e, fun _ _ e => e, fun a o' no e q => (kp a (fun z => no (z ▸ hb))).trans q, Nat.le_of_eq hs.1.symm, hr⟩, ?_⟩
  refine ⟨i.good.apart fun a y e => kp a fun z => ?_, fun a o' q => (kp a fun z => ?_).trans (i.base a o' q), i.own, hns, hcel, hnm, fun e he => ?_, hr.1.trans i.gens⟩
  ·have := (i.own b hb).1; rw [<- z, e] at this; cases this
  ·have := (i.own b hb).2; rw [<- z, q] at this; cases this
  ·obtain ⟨h1, L, o, h2, h3, h4, h5, h6⟩ := i.frs e he
   by_cases z : L = b
   ·obtain ⟨ob, hb1, hb2⟩ := hbo
    exact ⟨h1, L, ob, h2, h3, h4, z ▸ hb1, hb2⟩
   ·exact ⟨h1, L, o, h2, h3, h4, (kp L z).trans h5, h6⟩
 rcases hk with hk | ⟨hk, hc⟩
 ·refine wpAny_storeName_local hk hm (fun h' hn hs => ?_) (by rw [ok.kind]; rfl)
  obtain ⟨oL, _, _, hoL, hdL, _⟩ := id hn
  have r := key { s with heap := h', toks := s.toks + 1 } fr.env.locals (.inl rfl) hs ⟨rfl, rfl⟩ ⟨_, hn⟩
   (fun p e => let ⟨v, hv⟩ := i.celA p e; ⟨v, hv.sameBut hs fun z => ok.loc (z ▸ List.mem_map_of_mem e)⟩)
   ⟨oL, hoL, fun vs q => by rw [hdL] at q; cases q⟩ (fun y w e => ?_)
  ·exact h _ r.1 r.2
  ·rw [zg] at e
   by_cases hy : y = x
   ·subst hy
    rw [if_pos rfl] at e; cases e
    refine ⟨c, hv, ?_⟩
    unfold Rd
    rw [hk]
    exact ⟨_, hn, if_pos rfl⟩
   ·rw [if_neg hy] at e
    obtain ⟨c', h1, h2⟩ := i.nm y w e
    refine ⟨c', h1, ?_⟩
    unfold Rd at h2 ⊢
    split at h2
    ·obtain ⟨m', a1, a2⟩ := h2
     refine ⟨_, hn, ?_⟩
     show (if y = x then some c else m y) = some c'
     rw [if_neg hy]
     obtain ⟨o1, es1, ep1, b1, b2, b3, b4⟩ := hm
     obtain ⟨o2, es2, ep2, d1, d2, d3, d4⟩ := a1
     rw [b1] at d1; cases d1; rw [b2] at d2; cases d2
     rw [<- b4, d4, a2]
    ·obtain ⟨ca, a1, a2⟩ := h2
     exact ⟨ca, a1, a2.sameBut hs fun z => ok.loc (z ▸ List.mem_map_of_mem (zH a1))⟩
    ·exact h2.elim
 ·obtain ⟨ca, hca⟩ := Option.isSome_iff_exists.mp hc
  obtain ⟨v₀, hv0⟩ := i.celA _ (zH hca)
  have hown : fr.own ca := .inr (List.mem_map_of_mem (zH hca))
  have hne : fr.env.locals ≠ ca := fun z => ok.loc (z ▸ List.mem_map_of_mem (zH hca))
  refine wpAny_storeName_cell ok.kind hk hca hv0 (fun h' hn hs => ?_)
  obtain ⟨oC, hoC, hdC⟩ := id hn
  have r := key { s with heap := h' } ca hown hs ⟨rfl, rfl⟩ ⟨m, hm.sameBut hs hne⟩
   (fun p e => by
    by_cases z : p.2 = ca
    ·exact ⟨_, z ▸ hn⟩
    ·obtain ⟨v, hv⟩ := i.celA p e; exact ⟨v, hv.sameBut hs z⟩)
   ⟨oC, hoC, fun vs q => by rw [hdC] at q; cases q⟩ (fun y w e => ?_)
  ·exact h _ r.1 r.2
  ·rw [zg] at e
   by_cases hy : y = x
   ·subst hy
    rw [if_pos rfl] at e; cases e
    refine ⟨c, hv, ?_⟩
    unfold Rd
    rw [hk]
    exact ⟨ca, hca, hn⟩
   ·rw [if_neg hy] at e
    obtain ⟨c', h1, h2⟩ := i.nm y w e
    refine ⟨c', h1, ?_⟩
    unfold Rd at h2 ⊢
    split at h2
    ·obtain ⟨m', a1, a2⟩ := h2
     exact ⟨m', a1.sameBut hs hne, a2⟩
    ·obtain ⟨cb, a1, a2⟩ := h2
     exact ⟨cb, a1, a2.sameBut hs fun z => hy (ok.uniq _ _ _ (z ▸ a1) hca)⟩
    ·exact h2.elim
theorem XS {e : M V} {x : Str} {v : PySem.Expr} {p pos : Pos} (ok : FrOk fr) (h1 : Sim B n fr fr.own VR (eval v fr.env) e)
  (hk : fr.env.kindOf x = some .local \/ fr.env.kindOf x = some .cell /\ (fr.env.cells.lookup x).isSome = true)
  (hs : swapsWith v (some (.Name x p)) pos.line fr.env = pure false) : Sim B n fr fr.own FR (exec (.Assign [.Name x p] v pos) fr.env) (qy x e) := by
 refine ⟨?_⟩
 intro A G st s o i Q E h
 refine wpAny_Assign_Name (h1.run A G st s o i _ _ (h.bind ?_)) hs
 intro v st' s' G' c x' i' r h'
 refine kl ok i' r hk fun s2 x₂ i₂ => ?_
 exact h' s2 G' .next x₂ i₂ rfl
end
noncomputable def km (v : V) : M Bool := match v with | .bool b => pure b | _ => zC
noncomputable def z8 (e : M V) : M Bool := e >>= km
noncomputable def KC (c : M Bool) : M Bool := c >>= fun b => pure (!b)
noncomputable def jG (a b : M Bool) : M Bool := a >>= fun t => if t then b else pure false
noncomputable def cOr (a b : M Bool) : M Bool := a >>= fun t => if t then pure true else b
noncomputable def Ky (a b : M V) : M V := a >>= fun v => km v >>= fun t => if t then b else pure v
noncomputable def eOr (a b : M V) : M V := a >>= fun v => km v >>= fun t => if t then pure v else b
noncomputable def eNot (c : M V) : M V := c >>= fun v => km v >>= fun b => pure (.bool !b)
noncomputable def eIf (c : M Bool) (a b : M V) : M V := c >>= fun t => if t then a else b
section
variable {B : Bs} {n : Nat} {fr : Frm} {ow : Addr -> Prop}
theorem xT {A : Around} {G : Gst} {st : St} {s : Shared} {v : V} {c : Value} {Q : Bool -> Shared -> Prop} {E : Value -> Shared -> Prop} (i : Inv B fr G st s) (hv : VR G v c) (h : qX B fr ow G s BR Q E (km v st)) :
  wpAny (model B.prog B.w) A (truthy c) Q E s := by
 cases v with
 | bool b => cases hv; exact wpAny_truthy_bool (h.ok i rfl)
 | _ => exact h.elim
theorem za {e : M V} {x : PySem.Expr} (h1 : Sim B n fr ow VR (eval x fr.env) e)
  (he : isTrue x fr.env (eval x fr.env) = (do let v <- eval x fr.env; standAt x.pos; holding [v] (truthy v)) := by rfl) : Sim B n fr ow BR (isTrue x fr.env (eval x fr.env)) (z8 e) := by
 refine ⟨?_⟩
 intro A G st s o i Q E h
 refine isTrue_plain (h1.run A G st s o i _ _ (h.bind ?_)) he
 intro v st' s' G' c x' i' r h'
 exact xT i' r h'
theorem wK {c : M Bool} {x : PySem.Expr} {pos : Pos} {w : Sem Value} (h1 : Sim B n fr ow BR (isTrue x fr.env (eval x fr.env)) c) : Sim B n fr ow BR (isTrue (.UnaryOp .Not x pos) fr.env w) (KC c) := by
 refine ⟨?_⟩
 intro A G st s o i Q E h
 refine isTrue_not (h1.run A G st s o i _ _ (h.bind ?_))
 intro v st' s' G' c x' i' r h'
 cases r; exact h'.ok i' rfl
theorem zn {pos : Pos} {w : Sem Value} : Sim B n fr ow BR (isTrue (.BoolOp .And [] pos) fr.env w) (pure true) := ⟨fun _ _ _ _ _ i _ _ h => isTrue_and_nil (h.ok i rfl)⟩
theorem jL {pos : Pos} {w : Sem Value} : Sim B n fr ow BR (isTrue (.BoolOp .Or [] pos) fr.env w) (pure false) := ⟨fun _ _ _ _ _ i _ _ h => isTrue_or_nil (h.ok i rfl)⟩
theorem zD {a b : M Bool} {x : PySem.Expr} {rest : List PySem.Expr} {pos : Pos} {w : Sem Value} (h1 : Sim B n fr ow BR (isTrue x fr.env (eval x fr.env)) a) (h2 : ∀ w, Sim B n fr ow BR (isTrue (.BoolOp .And rest pos) fr.env w) b) :
  Sim B n fr ow BR (isTrue (.BoolOp .And (x :: rest) pos) fr.env w) (jG a b) := by
 refine ⟨?_⟩
 intro A G st s o i Q E h
 refine isTrue_and (h1.run A G st s o i _ _ (h.bind ?_))
 intro v st' s' G' c x' i' r h'
 cases r
 cases v with
 | true => exact (h2 _).run A G' st' s' o i' _ _ h'
 | false => exact h'.ok i' rfl
theorem zX {a b : M Bool} {x : PySem.Expr} {rest : List PySem.Expr} {pos : Pos} {w : Sem Value} (h1 : Sim B n fr ow BR (isTrue x fr.env (eval x fr.env)) a) (h2 : ∀ w, Sim B n fr ow BR (isTrue (.BoolOp .Or rest pos) fr.env w) b) :
  Sim B n fr ow BR (isTrue (.BoolOp .Or (x :: rest) pos) fr.env w) (cOr a b) := by
 refine ⟨?_⟩
 intro A G st s o i Q E h
 refine isTrue_or (h1.run A G st s o i _ _ (h.bind ?_))
 intro v st' s' G' c x' i' r h'
 cases r
 cases v with
 | true => exact h'.ok i' rfl
 | false => exact (h2 _).run A G' st' s' o i' _ _ h'
theorem jW {a : M V} {op : BoolOp} {x : PySem.Expr} {pos : Pos} (h1 : Sim B n fr ow VR (eval x fr.env) a) : Sim B n fr ow VR (eval (.BoolOp op [x] pos) fr.env) a := ⟨fun A G st s o i Q E h => BoolOp_one (h1.run A G st s o i Q E h)⟩
theorem wJ {a b : M V} {x y : PySem.Expr} {rest : List PySem.Expr} {pos : Pos} (h1 : Sim B n fr ow VR (eval x fr.env) a) (h2 : Sim B n fr ow VR (eval (.BoolOp .And (y :: rest) pos) fr.env) b) :
  Sim B n fr ow VR (eval (.BoolOp .And (x :: y :: rest) pos) fr.env) (Ky a b) := by
 refine ⟨?_⟩
 intro A G st s o i Q E h
 refine BoolOp_and (h1.run A G st s o i _ _ (h.bind ?_))
 intro v st' s' G' c x' i' r h'
 refine xT i' r (h'.bind ?_)
 intro t st2 s2 G2 t' x₂ i₂ r₂ h₂
 cases r₂
 cases t with
 | true => exact h2.run A G2 st2 s2 o i₂ _ _ h₂
 | false => exact h₂.ok i₂ (r.mono x₂.g)
theorem yo {a b : M V} {x y : PySem.Expr} {rest : List PySem.Expr} {pos : Pos} (h1 : Sim B n fr ow VR (eval x fr.env) a) (h2 : Sim B n fr ow VR (eval (.BoolOp .Or (y :: rest) pos) fr.env) b) :
  Sim B n fr ow VR (eval (.BoolOp .Or (x :: y :: rest) pos) fr.env) (eOr a b) := by
 refine ⟨?_⟩
 intro A G st s o i Q E h
 refine BoolOp_or (h1.run A G st s o i _ _ (h.bind ?_))
 intro v st' s' G' c x' i' r h'
 refine xT i' r (h'.bind ?_)
 intro t st2 s2 G2 t' x₂ i₂ r₂ h₂
 cases r₂
 cases t with
 | true => exact h₂.ok i₂ (r.mono x₂.g)
 | false => exact h2.run A G2 st2 s2 o i₂ _ _ h₂
theorem sim_eNot {a : M V} {x : PySem.Expr} {pos : Pos} (h1 : Sim B n fr ow VR (eval x fr.env) a) : Sim B n fr ow VR (eval (.UnaryOp .Not x pos) fr.env) (eNot a) := by
 refine ⟨?_⟩
 intro A G st s o i Q E h
 refine UnaryOp_ (h1.run A G st s o i _ _ (h.bind ?_))
 intro v st' s' G' c x' i' r h'
 refine not_of (xT i' r (h'.bind ?_))
 intro t st2 s2 G2 t' x₂ i₂ r₂ h₂
 cases r₂
 exact h₂.ok i₂ rfl
theorem jx {c : M Bool} {a b : M V} {t x y : PySem.Expr} {pos : Pos} (hc : Sim B n fr ow BR (isTrue t fr.env (eval t fr.env)) c) (ha : Sim B n fr ow VR (eval x fr.env) a) (hb : Sim B n fr ow VR (eval y fr.env) b) :
  Sim B n fr ow VR (eval (.IfExp t x y pos) fr.env) (eIf c a b) := by
 refine ⟨?_⟩
 intro A G st s o i Q E h
 refine IfExp_ (hc.run A G st s o i _ _ (h.bind ?_))
 intro t st' s' G' c x i' r h'
 cases r
 cases t with
 | true => exact ha.run A G' st' s' o i' _ _ h'
 | false => exact hb.run A G' st' s' o i' _ _ h'
theorem xq {G hp} {h : Heap} (g : vf B G hp h) {a l} (e : G a = some (.fz (.tup l))) : zw "tuple" G h a l := g.or a _ e
theorem vX {G hp} {h : Heap} (g : vf B G hp h) {a l} (e : G a = some (.fz (.lst l))) : zw "list" G h a l := g.or a _ e
theorem Zx {G hp} {h : Heap} (g : vf B G hp h) {a i l} (e : G a = some (.cl i)) (q : hp[i]? = some (.lst l)) : zw "list" G h a l := by
 have : ZH B G h a i hp[i]? := g.or a _ e
 rw [q] at this
 exact this
theorem yw {G hp} {h : Heap} (g : vf B G hp h) {a i kv} (e : G a = some (.cl i)) (q : hp[i]? = some (.dct kv)) : yV B G h a kv := by
 have : ZH B G h a i hp[i]? := g.or a _ e
 rw [q] at this
 exact this
theorem Kj {G hp} {h : Heap} (g : vf B G hp h) (v : V) : ∀ c d, pd v = some d -> VR G v c -> ∃ as, Reads h c d as := by
 refine V.rec (motive_1 := fun v => ∀ c d, pd v = some d -> VR G v c -> ∃ as, Reads h c d as) (motive_2 := fun l => ∀ cs ds, pds l = some ds -> VRs G l cs -> ∃ as, ReadsAll h cs ds as) (motive_3 := fun _ => True) (motive_4 := fun _ => True) ?_ ?_ ?_ ?_ ?_ ?_ ?_ ?_ ?_ ?_ ?_ trivial (fun _ _ _ _ => trivial) (fun _ _ _ => trivial) v
 ·intro c d e r; cases e; cases r; exact ⟨_, .none⟩
 ·intro b c d e r; cases e; cases r; exact ⟨_, .bool b⟩
 ·intro b c d e r; cases e; obtain ⟨t, rfl⟩ := r; exact ⟨_, .int b t⟩
 ·intro b c d e r; cases e; obtain ⟨t, rfl⟩ := r; exact ⟨_, .str b t⟩
 ·intro l ih c d e r
  obtain ⟨ds, hd, rfl⟩ := Option.map_eq_some_iff.mp (show (pds l).map _ = some d from e)
  obtain ⟨a, rfl, ga⟩ := r
  obtain ⟨n, cs, h1, h2⟩ := xq g ga
  exact (ih _ _ hd h2).elim fun as q => ⟨_, .tuple h1 rfl rfl q⟩
 ·intro l ih c d e r
  obtain ⟨ds, hd, rfl⟩ := Option.map_eq_some_iff.mp (show (pds l).map _ = some d from e)
  obtain ⟨a, rfl, ga⟩ := r
  obtain ⟨n, cs, h1, h2⟩ := vX g ga
  exact (ih _ _ hd h2).elim fun as q => ⟨_, .list h1 rfl rfl q⟩
 ·intro k fs _ c d e; cases e
 ·intro i c d e; cases e
 ·intro l _ c d e; cases e
 ·intro cs ds e r; cases e; cases r; exact ⟨_, .nil⟩
 ·intro v l ih1 ih2 cs ds e r
  cases hv : pd v with
  | none => rw [show pds (v :: l) = none by simp only [pds, hv]] at e; cases e
  | some d =>
   cases hl : pds l with
   | none => rw [show pds (v :: l) = none by simp only [pds, hv, hl]] at e; cases e
   | some es =>
    rw [show pds (v :: l) = some (d :: es) by simp only [pds, hv, hl]] at e; cases e
    cases r with
    | cons r1 r2 => exact (ih1 _ _ hv r1).elim fun as q => (ih2 _ _ hl r2).elim fun bs q2 => ⟨_, .cons q q2⟩
theorem QK {G hp} {h : Heap} (g : vf B G hp h) (v : V) {c d} (e : pd v = some d) (r : VR G v c) : ∃ as, Reads h c d as := Kj g v c d e r
theorem JZ {G hp} {h : Heap} (g : vf B G hp h) (l : List V) {cs ds} (e : pds l = some ds) (r : VRs G l cs) : ∃ as, ReadsAll h cs ds as := by
 induction l generalizing cs ds with
 | nil => cases e; cases r; exact ⟨_, .nil⟩
 | cons v l ih =>
  cases hv : pd v with
  | none => rw [show pds (v :: l) = none by simp only [pds, hv]] at e; cases e
  | some d =>
   cases hl : pds l with
   | none => rw [show pds (v :: l) = none by simp only [pds, hv, hl]] at e; cases e
   | some es =>
    rw [show pds (v :: l) = some (d :: es) by simp only [pds, hv, hl]] at e; cases e
    cases r with
    | cons r1 r2 => exact (QK g v hv r1).elim fun as q => (ih hl r2).elim fun bs q2 => ⟨_, .cons q q2⟩
set_option tactic.hygienic true in
theorem xe {G hp} {h : Heap} (g : vf B G hp h) {v : V} {c d} (e : wD hp v = some d) (r : VR G v c) : ∃ as, Reads h c d as := by
 cases v with
 | ref i =>
  simp only [wD] at e
  obtain ⟨a, rfl, ga⟩ := r
  split at e
  ·rename_i l hl
   obtain ⟨ds, hd, rfl⟩ := Option.map_eq_some_iff.mp e
   obtain ⟨n, cs, h1, h2⟩ := Zx g ga hl
   obtain ⟨as, q⟩ := JZ g l hd h2
   exact ⟨_, .list h1 rfl rfl q⟩
  ·cases e
 | _ => exact QK g _ e r
end
noncomputable def peq (hp : Hp) (a b : V) : Option Bool := match wD hp a, wD hp b with
 | some d, some e => if zu d && zu e then some (PyData.eqv d e) else none
 | _, _ => none
noncomputable def pin (hp : Hp) (x c : V) : Option Bool := match x, c with
 | .str y, .str x => some (!(Builtin.Str.occurrences x y 0 x.length 1).isEmpty)
 | x, c => match pd x, wD hp c with
  | some d, some (.list l) => if zu d && zu (.list l) then some (l.any fun y => PyData.eqv y d) else none
  | some d, some (.tuple l) => if zu d && zu (.tuple l) then some (l.any fun y => PyData.eqv y d) else none
  | _, _ => none
noncomputable def isNone : V -> Bool | .none => true | _ => false
noncomputable def cmpI (f : Int -> Int -> Bool) (a b : V) : Option Bool := on2 (kP a) (kP b) (fun x y => some (f x y)) none
noncomputable def jq (hp : Hp) (op : CmpOp) (a b : V) : Option Bool := match op with
 | .Lt => cmpI (fun x y => decide (x < y)) a b
 | .LtE => cmpI (fun x y => decide (x <= y)) a b
 | .Gt => cmpI (fun x y => decide (y < x)) a b
 | .GtE => cmpI (fun x y => decide (y <= x)) a b
 | .Is => bif isNone b then some (isNone a) else none
 | .IsNot => bif isNone b then some (!isNone a) else none
 | .Eq => peq hp a b
 | .NotEq => (peq hp a b).map (!·)
 | .In => pin hp a b
 | .NotIn => (pin hp a b).map (!·)
theorem Xr {f : Int -> Int -> Bool} {a b : V} {t : Bool} (h : cmpI f a b = some t) : ∃ x y, a = .int x /\ b = .int y /\ t = f x y :=
 zp (P := fun o => o = some t) h (fun x y e1 e2 q => ⟨x, y, jh e1, jh e2, (Option.some.inj q).symm⟩) fun q => nomatch q
theorem isNone_ {v : V} (h : isNone v = true) : v = .none := by cases v <;> first | rfl | cases h
theorem isB {b : V} {t u : Bool} (h : (bif isNone b then some u else none) = some t) : b = .none /\ t = u := by
 cases q : isNone b with
 | true => rw [q] at h; cases h; exact ⟨isNone_ q, rfl⟩
 | false => rw [q] at h; cases h
noncomputable def kq (op : CmpOp) (a b : V) : M Bool := fun s => match jq s.hp op a b with
 | some t => .ok t s
 | none => .stuck
noncomputable def qi (op : CmpOp) (a b : M V) : M Bool := a >>= fun x => b >>= fun y => kq op x y
noncomputable def wF (op : CmpOp) (a b : M V) : M V := a >>= fun x => b >>= fun y => kq op x y >>= fun t => pure (.bool t)
section
variable {B : Bs} {n : Nat} {fr : Frm} {ow : Addr -> Prop}
theorem ZX {G : Gst} {v : V} {c : Value} (r : VR G v c) : (c == .none) = isNone v := by
 cases v with
 | none => cases r; rfl
 | bool b => cases r; rfl
 | int i => obtain ⟨t, rfl⟩ := r; rfl
 | str i => obtain ⟨t, rfl⟩ := r; rfl
 | tup i => obtain ⟨t, rfl, _⟩ := r; rfl
 | lst i => obtain ⟨t, rfl, _⟩ := r; rfl
 | obj i => obtain ⟨t, rfl, _⟩ := r; rfl
 | ext i => obtain ⟨t, rfl, _⟩ := r; rfl
 | ref i => obtain ⟨t, rfl, _⟩ := r; rfl
theorem depthAll_le {l : List PyData} : PyData.depthAll l <= (PyData.list l).depth := by simp only [PyData.depth]; exact le0
inductive EqR (A : Around) (h : Heap) (ca cb : Value) (t : Bool) : Prop
 | mk (d₁ d₂ : PyData) (as bs) (r1 : Reads h ca d₁ as) (r2 : Reads h cb d₂ bs) (k1 : d₁.canLay0 = true) (k2 : d₂.canLay0 = true) (u : A.units + min d₁.depth d₂.depth < cLine) (e : PyData.eqv d₁ d₂ = t)
set_option tactic.hygienic true in
theorem yI {A : Around} {G : Gst} {st : St} {s : Shared} {a b : V} {ca cb : Value} {t : Bool} (o : AOk n A fr) (i : Inv B fr G st s) (ha : VR G a ca) (hb : VR G b cb) (e : peq st.hp a b = some t) : EqR A s.heap ca cb t := by
 have hu := o.units
 unfold peq at e
 split at e
 ·rename_i d₁ d₂ q1 q2
  split at e
  ·rename_i ok
   simp only [zu, Bool.and_eq_true, decide_eq_true_eq] at ok
   cases e
   obtain ⟨as, r1⟩ := xe i.good q1 ha
   obtain ⟨bs, r2⟩ := xe i.good q2 hb
   refine ⟨d₁, d₂, as, bs, r1, r2, ok.1.1, ok.2.1, ?_, rfl⟩
   have := Nat.min_le_left d₁.depth d₂.depth
   exact lt3 this ok.1.2 (sL hu)
  ·cases e
 ·cases e
theorem Je {A : Around} {G : Gst} {st : St} {s : Shared} {a b : V} {ca cb : Value} {t : Bool} {op' : CmpOp} {d : PyData} {l : List PyData} {Q : Value -> Shared -> Prop} {E : Value -> Shared -> Prop} (o : AOk n A fr) (i : Inv B fr G st s) (ha : VR G a ca) (hb : VR G b cb) (q1 : op' = CmpOp.In -> Q (.bool t) s) (q2 : op' = CmpOp.NotIn -> Q (.bool !t) s) (hop : op' = .In \/ op' = .NotIn)
  (p1 : pd a = some d) (p2 : wD st.hp b = some (.list l) \/ wD st.hp b = some (.tuple l)) (k1 : zu d = true) (k2 : zu (.list l) = true) (ht : t = (l.any fun y => PyData.eqv y d)) : wpAny (model B.prog B.w) A (compareOp op' ca cb) Q E s := by
 have hu := o.units
 simp only [zu, Bool.and_eq_true, decide_eq_true_eq] at k1 k2
 obtain ⟨as, r1⟩ := QK i.good a p1 ha
 have hx : PyData.canLayAll0 l = true := by simpa [PyData.canLay0] using k2.1
 have room : A.units + 1 + min (PyData.depthAll l) d.depth < cLine := by
  have := Nat.min_le_right (PyData.depthAll l) d.depth
  exact lt3 this k1.2 (sL hu)
 rcases p2 with p2 | p2
 ·obtain ⟨bs, r2⟩ := xe i.good p2 hb
  rcases hop with rfl | rfl
  ·exact PySem.SeqAt.in_list_reads r2 r1 hx k1.1 room (by rw [<- ht]; exact q1 rfl)
  ·exact PySem.SeqAt.notIn_list_reads r2 r1 hx k1.1 room (by rw [<- ht]; exact q2 rfl)
 ·obtain ⟨bs, r2⟩ := xe i.good p2 hb
  rcases hop with rfl | rfl
  ·exact PySem.SeqAt.in_tuple_reads r2 r1 hx k1.1 room (by rw [<- ht]; exact q1 rfl)
  ·exact PySem.SeqAt.notIn_tuple_reads r2 r1 hx k1.1 room (by rw [<- ht]; exact q2 rfl)
set_option tactic.hygienic true in
theorem pin_in {A : Around} {G : Gst} {st : St} {s : Shared} {a b : V} {ca cb : Value} {t : Bool} {op' : CmpOp} {Q : Value -> Shared -> Prop} {E : Value -> Shared -> Prop} (o : AOk n A fr) (i : Inv B fr G st s) (ha : VR G a ca) (hb : VR G b cb) (e : pin st.hp a b = some t) (q1 : op' = CmpOp.In -> Q (.bool t) s) (q2 : op' = CmpOp.NotIn -> Q (.bool !t) s) (hop : op' = .In \/ op' = .NotIn) :
  wpAny (model B.prog B.w) A (compareOp op' ca cb) Q E s := by
 unfold pin at e
 split at e
 ·rename_i y x
  cases e
  obtain ⟨t1, rfl⟩ := ha
  obtain ⟨t2, rfl⟩ := hb
  rcases hop with rfl | rfl
  ·exact PySem.P.in_str (q1 rfl)
  ·exact PySem.P.notIn_str (q2 rfl)
 ·split at e
  ·rename_i d l p1 p2
   split at e
   ·rename_i ok
    rw [Bool.and_eq_true] at ok
    cases e
    exact Je o i ha hb q1 q2 hop p1 (.inl p2) ok.1 ok.2 rfl
   ·cases e
  ·rename_i d l p1 p2
   split at e
   ·rename_i ok
    rw [Bool.and_eq_true] at ok
    cases e
    exact Je o i ha hb q1 q2 hop p1 (.inr p2) ok.1 (by simpa [zu, PyData.canLay0, PyData.depth] using ok.2) rfl
   ·cases e
  ·cases e
set_option tactic.hygienic true in
theorem XK {A : Around} {G : Gst} {st : St} {s : Shared} {op : CmpOp} {a b : V} {ca cb : Value} {t : Bool} {Q : Value -> Shared -> Prop} {E : Value -> Shared -> Prop} (o : AOk n A fr) (i : Inv B fr G st s) (ha : VR G a ca) (hb : VR G b cb)
  (e : jq st.hp op a b = some t) (h : Q (.bool t) s) : wpAny (model B.prog B.w) A (compareOp op ca cb) Q E s := by
 cases op with
 | Eq =>
  obtain ⟨d₁, d₂, as, bs, r1, r2, k1, k2, hr, rfl⟩ := yI o i ha hb e
  exact PySem.SeqAt.compareEq_reads r1 r2 k1 k2 hr h
 | NotEq =>
  obtain ⟨t', e', rfl⟩ := Option.map_eq_some_iff.mp e
  obtain ⟨d₁, d₂, as, bs, r1, r2, k1, k2, hr, rfl⟩ := yI o i ha hb e'
  exact PySem.SeqAt.compareNe_reads r1 r2 k1 k2 hr h
 | In => exact pin_in o i ha hb e (fun _ => h) (fun q => nomatch q) (.inl rfl)
 | NotIn =>
  obtain ⟨t', e', rfl⟩ := Option.map_eq_some_iff.mp e
  exact pin_in o i ha hb e' (fun q => nomatch q) (fun _ => h) (.inr rfl)
 | Is =>
  obtain ⟨rfl, rfl⟩ := isB e
  cases hb; exact is_none (by rw [ZX ha]; exact h)
 | IsNot =>
  obtain ⟨rfl, rfl⟩ := isB e
  cases hb; exact isNot_none (by rw [ZX ha]; exact h)
 | Lt => obtain ⟨x, y, rfl, rfl, rfl⟩ := Xr e; obtain ⟨_, rfl⟩ := ha; obtain ⟨_, rfl⟩ := hb; exact lt_int h
 | LtE => obtain ⟨x, y, rfl, rfl, rfl⟩ := Xr e; obtain ⟨_, rfl⟩ := ha; obtain ⟨_, rfl⟩ := hb; exact le_int h
 | Gt => obtain ⟨x, y, rfl, rfl, rfl⟩ := Xr e; obtain ⟨_, rfl⟩ := ha; obtain ⟨_, rfl⟩ := hb; exact gt_int h
 | GtE => obtain ⟨x, y, rfl, rfl, rfl⟩ := Xr e; obtain ⟨_, rfl⟩ := ha; obtain ⟨_, rfl⟩ := hb; exact ge_int h
set_option tactic.hygienic true in
theorem qJ {a b : M V} {op : CmpOp} {x y : PySem.Expr} {pos : Pos} {w : Sem Value} (h1 : Sim B n fr ow VR (eval x fr.env) a) (h2 : Sim B n fr ow VR (eval y fr.env) b)
  (hm : behindInMarks op y = false := by with_unfolding_all rfl) : Sim B n fr ow BR (isTrue (.Compare x [op] [y] pos) fr.env w) (qi op a b) := by
 refine ⟨?_⟩
 intro A G st s o i Q E h
 refine wpAny_isTrue_Compare1 (h1.run A G st s o i _ _ (h.bind ?_)) hm
 intro v st' s' G' c x' i' r h'
 refine h2.run A G' st' s' o i' _ _ (h'.bind ?_)
 intro v₂ st2 s2 G2 c₂ x₂ i₂ r₂ h₂
 unfold kq at h₂
 split at h₂
 ·rename_i t ht
  exact XK o i₂ (r.mono x₂.g) r₂ ht (wpAny_truthy_bool (h₂.ok i₂ rfl))
 ·exact h₂.elim
theorem zi {a b : M V} {op : CmpOp} {x y : PySem.Expr} {pos : Pos} (h1 : Sim B n fr ow VR (eval x fr.env) a) (h2 : Sim B n fr ow VR (eval y fr.env) b)
  (hm : behindInMarks op y = false := by with_unfolding_all rfl) : Sim B n fr ow VR (eval (.Compare x [op] [y] pos) fr.env) (wF op a b) := by
 refine ⟨?_⟩
 intro A G st s o i Q E h
 refine wpAny_Compare1 (h1.run A G st s o i _ _ (h.bind ?_)) hm
 intro v st' s' G' c x' i' r h'
 refine h2.run A G' st' s' o i' _ _ (h'.bind ?_)
 intro v₂ st2 s2 G2 c₂ x₂ i₂ r₂ h₂
 rw [M.bind_eq] at h₂
 unfold kq at h₂
 cases ht : jq st2.hp op v v₂ with
 | some t =>
  rw [ht] at h₂
  exact XK o i₂ (r.mono x₂.g) r₂ ht (h₂.ok i₂ rfl)
 | none => rw [ht] at h₂; exact h₂.elim
end
noncomputable def zN (G : Gst) (a : Addr) (x : Gh) : Gst := fun b => if b = a then some x else G b
theorem zN.self {G : Gst} {a : Addr} {x : Gh} : zN G a x a = some x := if_pos rfl
theorem zN.other {G : Gst} {a b : Addr} {x : Gh} (h : b ≠ a) : zN G a x b = G b := if_neg h
theorem zN.le {G : Gst} {a : Addr} {x : Gh} (h : G a = none) : ∀ b y, G b = some y -> zN G a x b = some y := fun b y e => by
 rw [zN.other (fun z => by rw [z, h] at e; cases e)]; exact e
theorem xA.grow {G G' : Gst} {h : Heap} {a c fs} (m : ∀ a x, G a = some x -> G' a = some x) (r : xA G h a c fs) : xA G' h a c fs := by cases r with | mk n cs h1 h2 h3 => exact ⟨n, cs, h1, h2.mono m, h3⟩
theorem zw.grow {T} {G G' : Gst} {h : Heap} {a l} (m : ∀ a x, G a = some x -> G' a = some x) (r : zw T G h a l) : zw T G' h a l := by cases r with | mk n cs h1 h2 => exact ⟨n, cs, h1, h2.mono m⟩
theorem wz.grow {G G' : Gst} {h : Heap} {a c g} (m : ∀ a x, G a = some x -> G' a = some x) (r : wz G h a c g) : wz G' h a c g := by cases r with | mk dx h1 h2 => exact ⟨dx, h1, m _ _ h2⟩
theorem wC.grow {G G' : Gst} {h : Heap} {a l} (m : ∀ a x, G a = some x -> G' a = some x) (r : wC G h a l) : wC G' h a l := by cases r with | mk o n cs h1 h2 h3 h4 => exact ⟨o, n, cs, h1, h2, h3, h4.mono m⟩
theorem yV.grow {B} {G G' : Gst} {h : Heap} {a kv} (m : ∀ a x, G a = some x -> G' a = some x) (r : yV B G h a kv) : yV B G' h a kv := by cases r with | mk es h1 h2 h3 => exact ⟨es, h1, h2.mono m, h3⟩
theorem OR.grow {B hp hp'} {G G' : Gst} {h : Heap} {a} (m : ∀ a x, G a = some x -> G' a = some x) (hh : ∀ (i : Nat) c, hp[i]? = some c -> hp'[i]? = some c) {g : Gh} (r : OR B hp G h a g) : OR B hp' G' h a g := by
 cases g with
 | fz v =>
  cases v with
  | tup l => exact zw.grow m r
  | lst l => exact zw.grow m r
  | obj c fs => exact wz.grow m r
  | ext l => exact wC.grow m r
  | _ => exact False.elim r
 | cl i =>
  have r : ZH B G h a i hp[i]? := r
  show ZH B G' h a i hp'[i]?
  cases q : hp[i]? with
  | none => rw [q] at r; exact False.elim r
  | some c =>
   rw [q] at r
   rw [hh _ _ q]
   cases c with
   | lst l => exact zw.grow m r
   | dct kv => exact yV.grow m r
   | obj c fs => exact wz.grow m r
 | fd c fs => exact xA.grow m r
 | cd i =>
  have r : Q4 G h a hp[i]? := r
  show Q4 G' h a hp'[i]?
  cases q : hp[i]? with
  | none => rw [q] at r; exact False.elim r
  | some c =>
   rw [q] at r
   rw [hh _ _ q]
   cases c with
   | obj c fs => exact xA.grow m r
   | _ => exact False.elim r
section
variable {B : Bs} {n : Nat} {fr : Frm} {ow : Addr -> Prop}
theorem Inv.own_lt {G st s} (i : Inv B fr G st s) {a : Addr} (h : fr.own a) : a < s.heap.objs.size := by
 rcases h with rfl | h
 ·obtain ⟨m, hm⟩ := i.ns; exact hm.lt
 ·obtain ⟨⟨y, ca⟩, hp, rfl⟩ := List.mem_map.mp h
  obtain ⟨v, hv⟩ : ∃ v, s.heap.IsCell ca v := i.celA _ hp
  exact hv.lt
theorem Inv.rd_grow {G : Gst} {st : St} {s s' : Shared} (_ : Inv B fr G st s) (k : ∀ b o, s.heap.get? b = some o -> s'.heap.get? b = some o) {x c} (r : Rd fr.env s.heap x c) : Rd fr.env s'.heap x c :=
 r.of (fun _ h => h.keeps k) fun _ _ _ h => h.keeps k
theorem Inv.grow {G : Gst} {st : St} {s s' : Shared} (i : Inv B fr G st s) (k : ∀ b o, s.heap.get? b = some o -> s'.heap.get? b = some o) (hz : s.heap.objs.size <= s'.heap.objs.size) (hr : s'.gens = s.gens /\ s'.os = s.os) :
  Ext ow G s G s' /\ Inv B fr G st s' := by
 refine ⟨⟨fun _ _ e => e, fun _ _ e => e, fun a o _ _ q => k a o q, hz, hr⟩, ?_⟩
 refine ⟨i.good.apart fun a y e => ?_, fun a o q => k a o (i.base a o q), i.own, i.ns.imp fun m h => h.keeps k, fun p hp => (i.celA p hp).imp fun v h => h.keeps k,
  fun y v e => let ⟨c, h1, h2⟩ := i.nm y v e; ⟨c, h1, h2.of (fun _ h => h.keeps k) fun _ _ _ h => h.keeps k⟩, fun e he => ?_, hr.1.trans i.gens⟩
 ·obtain ⟨o, ho, _⟩ := (i.good.or a y e).at
  rw [ho, k a o ho]
 ·obtain ⟨h1, L, o, h2, h3, h4, h5, h6⟩ := i.frs e he
  exact ⟨h1, L, o, h2, h3, h4, k L o h5, h6⟩
theorem Kt {hp : Hp} {c : jE} (i : Nat) (d : jE) (h : hp[i]? = some d) : (hp ++ [c])[i]? = some d := by
 rw [List.getElem?_append_left (List.getElem?_eq_some_iff.mp h).1]; exact h
theorem Inv.put {G : Gst} {st : St} {hp' : Hp} {s : Shared} {a : Addr} {y : Gh} (i : Inv B fr G st s) (ha : G a = none) (h0 : B.h0.get? a = none) (ho : ¬ fr.own a) (hf : ∀ e ∈ fr.fenv :: fr.outer, e.frame ≠ some a)
  (hh : ∀ (j : Nat) c, st.hp[j]? = some c -> hp'[j]? = some c) (hor : OR B hp' (zN G a y) s.heap a y) (h1 : ∀ j b, y = .cl j -> G b ≠ some (.cl j)) (h2 : ∀ j b, y = .cd j -> G b ≠ some (.cd j)) :
  Inv B fr (zN G a y) ⟨st.lc, hp'⟩ s := by
 have le := zN.le (x := y) ha
 refine ⟨⟨fun b z e => ?_, fun b z e => ?_, fun b c j e e' => ?_, fun b c j e e' => ?_⟩, i.base, fun b hb => ⟨?_, (i.own b hb).2⟩, i.ns, i.celA, fun x v e => let ⟨c, q1, q2⟩ := i.nm x v e; ⟨c, q1.mono le, q2⟩, fun e he => ?_, i.gens⟩
 ·by_cases q : b = a
  ·subst q; rw [zN.self] at e; cases e; exact hor
  ·rw [zN.other q] at e; exact (i.good.or b z e).grow le hh
 ·intro hz
  by_cases q : b = a
  ·subst q; exact h0
  ·rw [zN.other q] at e; exact i.good.fresh b z e hz
 ·by_cases q : b = a
  ·by_cases q' : c = a
   ·rw [q, q']
   ·subst q; rw [zN.self] at e; cases e; rw [zN.other q'] at e'; exact absurd e' (h1 _ _ rfl)
  ·rw [zN.other q] at e
   by_cases q' : c = a
   ·subst q'; rw [zN.self] at e'; cases e'; exact absurd e (h1 _ _ rfl)
   ·rw [zN.other q'] at e'; exact i.good.injl b c j e e'
 ·by_cases q : b = a
  ·by_cases q' : c = a
   ·rw [q, q']
   ·subst q; rw [zN.self] at e; cases e; rw [zN.other q'] at e'; exact absurd e' (h2 _ _ rfl)
  ·rw [zN.other q] at e
   by_cases q' : c = a
   ·subst q'; rw [zN.self] at e'; cases e'; exact absurd e (h2 _ _ rfl)
   ·rw [zN.other q'] at e'; exact i.good.injd b c j e e'
 ·rw [zN.other (fun z : b = a => ho (z ▸ hb))]; exact (i.own b hb).1
 ·obtain ⟨q1, L, o, q2, q3, q4, q5, q6⟩ := i.frs e he
  exact ⟨q1, L, o, q2, q3, by rw [zN.other (fun z : L = a => hf e he (z ▸ q2))]; exact q4, q5, q6⟩
theorem Inv.nobody {G : Gst} {st : St} {s : Shared} (i : Inv B fr G st s) {a : Addr} (h : s.heap.objs.size <= a) : G a = none /\ B.h0.get? a = none /\ ¬ fr.own a /\ ∀ e ∈ fr.fenv :: fr.outer, e.frame ≠ some a := by
 refine ⟨i.good.none_at h, ?_, fun q => ?_, fun e he q => ?_⟩
 ·cases q : B.h0.get? a with
  | none => rfl
  | some o => exact absurd (Heap.lt_size (i.base a o q)) (Nat.not_lt.mpr h)
 ·exact absurd (i.own_lt q) (Nat.not_lt.mpr h)
 ·obtain ⟨_, L, o, q2, _, _, q5, _⟩ := i.frs e he
  rw [q] at q2; cases q2
  exact absurd (Heap.lt_size q5) (Nat.not_lt.mpr h)
theorem Ext.put {own G} {s : Shared} {a : Addr} {y : Gh} (ha : G a = none) {s0 : Shared} {G0 : Gst} (x : Ext own G0 s0 G s) (hs : s0.heap.objs.size <= a) : Ext own G0 s0 (zN G a y) s :=
 ⟨fun b z e => zN.le ha b z (x.g b z e), fun b l e => by rw [zN.other (fun q : b = a => absurd (q ▸ l) (Nat.not_lt.mpr hs))]; exact x.new b l e, x.keep, x.size, x.rest⟩
theorem Inv.newFz {G : Gst} {st : St} {s s' : Shared} {a : Addr} {v : V} (i : Inv B fr G st s) (k : ∀ b o, s.heap.get? b = some o -> s'.heap.get? b = some o) (hz : s.heap.objs.size <= s'.heap.objs.size) (hr : s'.gens = s.gens /\ s'.os = s.os)
  (ha : s.heap.objs.size <= a) (hor : ∀ G', (∀ b y, G b = some y -> G' b = some y) -> OR B st.hp G' s'.heap a (.fz v)) :
  Ext ow G s (zN G a (.fz v)) s' /\ Inv B fr (zN G a (.fz v)) st s' := by
 obtain ⟨x, i'⟩ := i.grow k hz hr
 have z45 := i.nobody ha; have n1 := z45.1; have n2 := z45.2.1; have n3 := z45.2.2.1; have n4 := z45.2.2.2
 exact ⟨x.put n1 ha, i'.put n1 n2 n3 n4 (fun _ _ q => q) (hor _ (zN.le n1)) (fun _ _ q => nomatch q) (fun _ _ q => nomatch q)⟩
theorem Inv.newCl {G : Gst} {st : St} {s s' : Shared} {a : Addr} {c : jE} (i : Inv B fr G st s) (k : ∀ b o, s.heap.get? b = some o -> s'.heap.get? b = some o) (hz : s.heap.objs.size <= s'.heap.objs.size) (hr : s'.gens = s.gens /\ s'.os = s.os)
  (ha : s.heap.objs.size <= a) (hor : ∀ G', (∀ b y, G b = some y -> G' b = some y) -> OR B (st.hp ++ [c]) G' s'.heap a (.cl st.hp.length)) :
  Ext ow G s (zN G a (.cl st.hp.length)) s' /\ Inv B fr (zN G a (.cl st.hp.length)) ⟨st.lc, st.hp ++ [c]⟩ s' := by
 obtain ⟨x, i'⟩ := i.grow k hz hr
 have z47 := i.nobody ha; have n1 := z47.1; have n2 := z47.2.1; have n3 := z47.2.2.1; have n4 := z47.2.2.2
 refine ⟨x.put n1 ha, i'.put n1 n2 n3 n4 (fun j d q => Kt j d q) (hor _ (zN.le n1)) (fun j b q e => ?_) (fun _ _ q => nomatch q)⟩
 cases q
 have := i.good.or b _ e
 simp only [OR, List.getElem?_eq_none_iff.mpr (Nat.le_refl st.hp.length)] at this
 exact this
theorem Inv.turn {G : Gst} {st : St} {s s' : Shared} {a : Addr} {j : Nat} {c : jE} (i : Inv B fr G st s) (hs : Heap.SameBut a s.heap s'.heap) (hr : s'.gens = s.gens /\ s'.os = s.os)
  (hg : (G a = some (.cl j) /\ ∀ k fs, st.hp[j]? ≠ some (.obj k fs)) \/ (G a = some (.cd j) /\ ∃ k fs fs', st.hp[j]? = some (.obj k fs) /\ c = .obj k fs'))
  (hor : ∀ g, G a = some g -> OR B (st.hp.set j c) G s'.heap a g) : Ext ow G s G s' /\ Inv B fr G ⟨st.lc, st.hp.set j c⟩ s' := by
 have hga : G a ≠ none := by rcases hg with ⟨h, _⟩ | ⟨h, _⟩ <;> rw [h] <;> exact fun q => nomatch q
 have k : ∀ b, b ≠ a -> s'.heap.get? b = s.heap.get? b := hs.2
 have kn : ∀ b, G b = none -> s'.heap.get? b = s.heap.get? b := fun b e => k b fun q => hga (q ▸ e)
 have kN : ∀ b m, G b = none -> s.heap.Ns b m -> s'.heap.Ns b m := fun b m e h => h.sameBut hs fun q => hga (q ▸ e)
 have kC : ∀ b v, G b = none -> s.heap.IsCell b v -> s'.heap.IsCell b v := fun b v e h => h.sameBut hs fun q => hga (q ▸ e)
 have ol : G fr.env.locals = none := (i.own _ (.inl rfl)).1
 have oc : ∀ p, p ∈ fr.env.cells -> G p.2 = none := fun p hp => (i.own _ (.inr (List.mem_map_of_mem hp))).1
 refine ⟨⟨fun _ _ e => e, fun _ _ e => e, fun b o _ e q => (kn b e).trans q, Nat.le_of_eq hs.1.symm, hr⟩, ⟨fun b y e => ?_, i.good.fresh, i.good.injl, i.good.injd⟩, fun b o q => ?_, i.own, i.ns.imp fun m h => kN _ m ol h,
  fun p hp => (i.celA p hp).imp fun v h => kC _ v (oc p hp) h, fun x v e => let ⟨c, h1, h2⟩ := i.nm x v e; ⟨c, h1, h2.of (fun m h => kN _ m ol h) fun ca v hm h => kC ca v (oc (x, ca) hm) h⟩, fun e he => ?_, hr.1.trans i.gens⟩
 ·by_cases q : b = a
  ·subst q; exact hor y e
  ·have h := (i.good.or b y e).same (k b q)
   rcases hg with ⟨h1, h2⟩ | ⟨h1, kk, fs, fs', h2, rfl⟩
   ·cases y with
    | fz v => cases v <;> exact h
    | fd c fs => exact h
    | cl j' =>
     have hne : j ≠ j' := fun z => q (i.good.injl b a j (z ▸ e) h1)
     simp only [OR, List.getElem?_set_ne hne]
     exact h
    | cd j' =>
     have hne : j ≠ j' := fun z => by
      subst z
      exact (Q4.obj h).elim fun k z => z.elim fun fs z => h2 k fs z
     simp only [OR, List.getElem?_set_ne hne]
     exact h
   ·have hl : j < st.hp.length := (List.getElem?_eq_some_iff.mp h2).1
    cases y with
    | fz v => cases v <;> exact h
    | fd c fs => exact h
    | cl j' =>
     by_cases hne : j = j'
     ·subst hne
      simp only [OR, List.getElem?_set_self hl]
      simp only [OR, h2] at h
      exact h
     ·simp only [OR, List.getElem?_set_ne hne]
      exact h
    | cd j' =>
     have hne : j ≠ j' := fun z => q (i.good.injd b a j (z ▸ e) h1)
     simp only [OR, List.getElem?_set_ne hne]
     exact h
 ·refine (k b fun z => ?_).trans (i.base b o q)
  cases hga' : G a with
  | none => exact hga hga'
  | some g => have := i.good.fresh a g hga' (by rcases hg with ⟨h, _⟩ | ⟨h, _⟩ <;> (rw [h] at hga'; cases hga'; rfl)); rw [<- z, q] at this; cases this
 ·obtain ⟨h1, L, o, h2, h3, h4, h5, h6⟩ := i.frs e he
  exact ⟨h1, L, o, h2, h3, h4, (kn L h4).trans h5, h6⟩
end
noncomputable def zh : Nat := 2 ^ 22
noncomputable def QR (op : Operator) (a b : V) : M V := fun s => match op with
 | .Add => on2 (kP a) (kP b) (fun x y => .ok (.int (x + y)) s) (on2 (qo s.hp a) (qo s.hp b) (fun l r => if l.length + r.length <= zh then .ok (.lst (l ++ r)) s else .stuck) .stuck)
 | .Sub => on2 (kP a) (kP b) (fun x y => .ok (.int (x - y)) s) .stuck
 | .Mult => on2 (kP a) (kP b) (fun x y => if Builtin.Int.intBits x <= 64 \/ Builtin.Int.intBits y <= 64 then .ok (.int (x * y)) s else .stuck)
  (on2 (qo s.hp a) (kP b) (fun l k => if 0 <= k /\ k < 2 ^ 22 /\ l.length * k.toNat <= zh then .ok (.lst (List.replicate k.toNat l).flatten) s else .stuck) .stuck)
 | .Mod => on2 (kP a) (kP b) (fun x y => if y ≠ 0 then .ok (.int (x.fmod y)) s else .stuck) .stuck
 | .FloorDiv => on2 (kP a) (kP b) (fun x y => if y ≠ 0 /\ y.natAbs < 1073741824 then .ok (.int (x.fdiv y)) s else .stuck) .stuck
 | _ => .stuck
noncomputable def zf (op : Operator) (a b : M V) : M V := a >>= fun x => b >>= fun y => QR op x y
noncomputable def pNeg (v : V) : M V := match v with | .int i => pure (.int (-i)) | _ => zC
noncomputable def Kw (a : M V) : M V := a >>= pNeg
theorem jF : zh <= sizeLine := by decide
section
variable {B : Bs} {n : Nat} {fr : Frm} {ow : Addr -> Prop}
inductive LsR (G : Gst) (h : Heap) (l : List V) (c : Value) : Prop
 | mk (a : Addr) (k : Nat) (cs : Array Value) (h1 : c = .ref a) (h2 : h.get? a = some (listOf cs k)) (h3 : VRs G l cs.toList)
theorem vA {G : Gst} {st : St} {s : Shared} (i : Inv B fr G st s) {v : V} {c : Value} {l : List V} (hv : VR G v c) (e : qo st.hp v = some l) : LsR G s.heap l c := by
 rcases listAt_ e with rfl | ⟨j, rfl, q⟩
 ·obtain ⟨a, rfl, ga⟩ := hv
  obtain ⟨k, cs, h1, h2⟩ := vX i.good ga
  exact ⟨a, k, cs, rfl, h1, h2⟩
 ·obtain ⟨a, rfl, ga⟩ := hv
  obtain ⟨k, cs, h1, h2⟩ := Zx i.good ga q
  exact ⟨a, k, cs, rfl, h1, h2⟩
theorem seqOb_lst {G : Gst} {h : Heap} {a : Addr} {l : List V} {cs : Array Value} {k : Nat} (e : h.get? a = some (listOf cs k)) (r : VRs G l cs.toList) : zw "list" G h a l := ⟨k, cs, e, r⟩
theorem seqOb_tup {G : Gst} {h : Heap} {a : Addr} {l : List V} {cs : Array Value} {k : Nat} (e : h.get? a = some { cls := .type "tuple", data := .seq cs k }) (r : VRs G l cs.toList) : zw "tuple" G h a l := ⟨k, cs, e, r⟩
theorem qX.newLst {G : Gst} {st : St} {s : Shared} {l : List V} {cs : List Value} {Q : Value -> Shared -> Prop} {E : Value -> Shared -> Prop} {tk : Nat} (i : Inv B fr G st s) (r : VRs G l cs) (h : qX B fr ow G s VR Q E (.ok (.lst l) st)) :
  Q (.ref s.heap.objs.size) { s with heap := s.heap.push { cls := .type "list", data := .seq cs.toArray }, toks := tk } := by
 obtain ⟨x, i'⟩ := i.newFz (s' := { s with heap := s.heap.push { cls := .type "list", data := .seq cs.toArray }, toks := tk }) (a := s.heap.objs.size) (v := .lst l) (fun b o e => Heap.get?_push_of_some _ e) (by show _ <= (s.heap.push _).objs.size; rw [Heap.size_push]; exact le0) ⟨rfl, rfl⟩ (Nat.le_refl _)
  fun G' m => ⟨0, cs.toArray, Heap.get?_push_size _ rfl, by simpa using r.mono m⟩
 exact h _ _ _ x i' ⟨_, rfl, zN.self⟩
theorem qX.newTup {G : Gst} {st : St} {s : Shared} {l : List V} {cs : List Value} {Q : Value -> Shared -> Prop} {E : Value -> Shared -> Prop} {tk : Nat} (i : Inv B fr G st s) (r : VRs G l cs) (h : qX B fr ow G s VR Q E (.ok (.tup l) st)) :
  Q (.ref s.heap.objs.size) { s with heap := s.heap.push { cls := .type "tuple", data := .seq cs.toArray }, toks := tk } := by
 obtain ⟨x, i'⟩ := i.newFz (s' := { s with heap := s.heap.push { cls := .type "tuple", data := .seq cs.toArray }, toks := tk }) (a := s.heap.objs.size) (v := .tup l) (fun b o e => Heap.get?_push_of_some _ e) (by show _ <= (s.heap.push _).objs.size; rw [Heap.size_push]; exact le0) ⟨rfl, rfl⟩ (Nat.le_refl _)
  fun G' m => ⟨0, cs.toArray, Heap.get?_push_size _ rfl, by simpa using r.mono m⟩
 exact h _ _ _ x i' ⟨_, rfl, zN.self⟩
theorem qX.newLstC {G : Gst} {st : St} {s : Shared} {l : List V} {cs : List Value} {Q : Value -> Shared -> Prop} {E : Value -> Shared -> Prop} {tk : Nat} (i : Inv B fr G st s) (r : VRs G l cs) (h : qX B fr ow G s VR Q E (.ok (.ref st.hp.length) ⟨st.lc, st.hp ++ [.lst l]⟩)) :
  Q (.ref s.heap.objs.size) { s with heap := s.heap.push { cls := .type "list", data := .seq cs.toArray }, toks := tk } := by
 obtain ⟨x, i'⟩ := i.newCl (s' := { s with heap := s.heap.push { cls := .type "list", data := .seq cs.toArray }, toks := tk }) (a := s.heap.objs.size) (c := .lst l) (fun b o e => Heap.get?_push_of_some _ e) (by show _ <= (s.heap.push _).objs.size; rw [Heap.size_push]; exact le0) ⟨rfl, rfl⟩ (Nat.le_refl _)
  fun G' m => by
   simp only [OR, List.getElem?_append_right (Nat.le_refl _), Nat.sub_self, List.getElem?_cons_zero]
   exact ⟨0, cs.toArray, Heap.get?_push_size _ rfl, by simpa using r.mono m⟩
 exact h _ _ _ x i' ⟨_, rfl, zN.self⟩
theorem VRs.flat {G : Gst} {l : List V} {cs : List Value} (r : VRs G l cs) : ∀ k, VRs G (List.replicate k l).flatten (List.replicate k cs).flatten
 | 0 => .nil
 | k + 1 => by rw [List.replicate_succ, List.replicate_succ, List.flatten_cons, List.flatten_cons]; exact r.append (r.flat k)
theorem Za (cs : Array Value) : ∀ (k : Nat) (acc : Array Value), (List.foldl (fun x1 x2 => x1 ++ x2) acc (List.replicate k cs)).toList = acc.toList ++ (List.replicate k cs.toList).flatten
 | 0, acc => by simp
 | k + 1, acc => by rw [List.replicate_succ, List.foldl_cons, Za cs k]; simp [List.replicate_succ]
set_option tactic.hygienic true in
theorem wp_addL {A : Around} {a b : V} {ca cb : Value} {G : Gst} {st : St} {s : Shared} {Q : Value -> Shared -> Prop} {E : Value -> Shared -> Prop} {l r : List V} (i : Inv B fr G st s) (ha : VR G a ca) (hb : VR G b cb) (hl : qo st.hp a = some l) (hr : qo st.hp b = some r)
  (h : qX B fr ow G s VR Q E (if l.length + r.length <= zh then .ok (.lst (l ++ r)) st else .stuck)) : wpAny (model B.prog B.w) A (binaryOp .Add ca cb) Q E s := by
 split at h
 ·rename_i hz
  obtain ⟨a, k, cs, rfl, e1, r1⟩ := vA i ha hl
  obtain ⟨b, k2, cs2, rfl, e2, r2⟩ := vA i hb hr
  have hz' : cs.size + cs2.size <= sizeLine := by
   have := r1.length; have := r2.length
   have := jF
   simp only [Array.length_toList] at *
   lia
  refine concat_meets ⟨_, e1, rfl⟩ ⟨_, e2, rfl⟩ noFill_list_add seq_list_add PySem.F.slot_list_add PySem.F.entry_list_add (PySem.F.args_list_add_2 _ _) (list_addW a b cs cs2 k k2 none none #[] #[] hz') ⟨e1, e2, ?_⟩
  have z := qX.newLst (tk := s.toks) i (r1.append r2) h
  have e : (cs.toList ++ cs2.toList).toArray = cs ++ cs2 := by simp
  rw [e] at z
  exact z
 ·exact h.elim
set_option tactic.hygienic true in
theorem wp_mulL {A : Around} {a : V} {ca cb : Value} {G : Gst} {st : St} {s : Shared} {Q : Value -> Shared -> Prop} {E : Value -> Shared -> Prop} {l : List V} {k : Int} (i : Inv B fr G st s) (ha : VR G a ca) (hb : VR G (.int k) cb) (hl : qo st.hp a = some l)
  (h : qX B fr ow G s VR Q E (if 0 <= k /\ k < 2 ^ 22 /\ l.length * k.toNat <= zh then .ok (.lst (List.replicate k.toNat l).flatten) st else .stuck)) : wpAny (model B.prog B.w) A (binaryOp .Mult ca cb) Q E s := by
 split at h
 ·rename_i hz
  obtain ⟨a, k0, cs, rfl, e1, r1⟩ := vA i ha hl
  obtain ⟨u, rfl⟩ := hb
  have q1 := hz.1; have q2 := hz.2.1; have q3 := hz.2.2
  have q4 : cs.size * k.toNat <= 2 ^ 22 := by
   have := r1.length
   simp only [Array.length_toList] at this
   rw [<- this]; exact q3
  refine wpAny_binaryOp_repeat_ref (T := "list") (U := "int") (by decide) ⟨_, e1, rfl⟩ (fun s' => typeIs_int s' k u) noFill_list_mul F.fills_int_mul F.slot_int_rmul repeat_list F.slot_int_index.lookup
   (call_meets F.slot_int_rmul (typeIs_int s k u) F.entry_int_rmul (F.args_int_rmul_2 _ _) (int___rmul___int_list k u a cs k0)
    ⟨e1, rfl, ⟨_, e1, rfl⟩, call_meets F.slot_list_mul ⟨_, e1, rfl⟩ F.entry_list_mul (F.args_list_mul_2 _ _)
     (AutoListH.list___mul___list_int_3 a cs k0 k u (by simp [Builtin.List.listFitsIndex]; lia) (by walk_at "l") (by simp [Builtin.List.listTooLong, sizeLine]; lia))
     ⟨e1, ?_⟩⟩)
  have e : (List.foldl (fun x1 x2 => x1 ++ x2) #[] (List.replicate (if cs.isEmpty = true then 0 else k.toNat) cs)) = ((List.replicate k.toNat cs.toList).flatten).toArray := by
   apply Array.ext'
   rw [Za]
   simp only [List.nil_append]
   split
   ·rename_i hE
    have : cs.toList = [] := by simpa using hE
    rw [this]; simp
   ·rfl
  rw [e]
  exact qX.newLst (tk := s.toks) i (r1.flat _) h
 ·exact h.elim
set_option tactic.hygienic true in
theorem wp_pBin {A : Around} {op : Operator} {a b : V} {ca cb : Value} {G : Gst} {st : St} {s : Shared} {Q : Value -> Shared -> Prop} {E : Value -> Shared -> Prop} (i : Inv B fr G st s) (ha : VR G a ca) (hb : VR G b cb)
  (h : qX B fr ow G s VR Q E (QR op a b st)) : wpAny (model B.prog B.w) A (binaryOp op ca cb) Q E s := by
 cases op with
 | Add =>
  refine zp (P := qX B fr ow G s VR Q E) h (fun x y e1 e2 k => ?_) fun h => zp (P := qX B fr ow G s VR Q E) h (fun l r hl hr h => wp_addL i ha hb hl hr h) False.elim
  have e1 := jh e1; have e2 := jh e2; subst e1; subst e2; obtain ⟨_, rfl⟩ := ha; obtain ⟨_, rfl⟩ := hb
  exact PyProof.Rows.add_int (k.ok' (.tok _) (i.tok _) ⟨_, rfl⟩)
 | Sub =>
  refine zp (P := qX B fr ow G s VR Q E) h (fun x y e1 e2 k => ?_) False.elim
  have e1 := jh e1; have e2 := jh e2; subst e1; subst e2; obtain ⟨_, rfl⟩ := ha; obtain ⟨_, rfl⟩ := hb
  exact PyProof.Rows.sub_int (k.ok' (.tok _) (i.tok _) ⟨_, rfl⟩)
 | Mult =>
  refine zp (P := qX B fr ow G s VR Q E) h (fun x y e1 e2 k => ?_) fun h => zp (P := qX B fr ow G s VR Q E) h (fun l k hl e2 h => wp_mulL i ha (jh e2 ▸ hb) hl h) False.elim
  have e1 := jh e1; have e2 := jh e2; subst e1; subst e2; obtain ⟨_, rfl⟩ := ha; obtain ⟨_, rfl⟩ := hb
  split at k
  ·rename_i hm
   exact PyProof.Rows.mul_int (k.ok' (.tok _) (i.tok _) ⟨_, rfl⟩) (hm.elim .of_left .of_right)
  ·exact k.elim
 | Mod =>
  refine zp (P := qX B fr ow G s VR Q E) h (fun x y e1 e2 k => ?_) False.elim
  have e1 := jh e1; have e2 := jh e2; subst e1; subst e2; obtain ⟨_, rfl⟩ := ha; obtain ⟨_, rfl⟩ := hb
  split at k
  ·rename_i hm
   exact PyProof.Rows.mod_int hm (k.ok' (.tok _) (i.tok _) ⟨_, rfl⟩)
  ·exact k.elim
 | FloorDiv =>
  refine zp (P := qX B fr ow G s VR Q E) h (fun x y e1 e2 k => ?_) False.elim
  have e1 := jh e1; have e2 := jh e2; subst e1; subst e2; obtain ⟨_, rfl⟩ := ha; obtain ⟨_, rfl⟩ := hb
  split at k
  ·rename_i hm
   exact PyProof.Rows.floordiv_int hm.1 (k.ok' (.tok _) (i.tok _) ⟨_, rfl⟩) (.inl (PyProof.noPylong_small hm.2))
  ·exact k.elim
 | _ => exact False.elim h
theorem qu {a b : M V} {op : Operator} {x y : PySem.Expr} {pos : Pos} (h1 : Sim B n fr ow VR (eval x fr.env) a) (h2 : Sim B n fr ow VR (eval y fr.env) b) : Sim B n fr ow VR (eval (.BinOp x op y pos) fr.env) (zf op a b) := by
 refine ⟨?_⟩
 intro A G st s o i Q E h
 refine wpAny_BinOp (h1.run A G st s o i _ _ (h.bind ?_))
 intro v st' s' G' c x' i' r h'
 refine h2.run A G' st' s' o i' _ _ (h'.bind ?_)
 intro v₂ st2 s2 G2 c₂ x₂ i₂ r₂ h₂
 exact wp_pBin i₂ (r.mono x₂.g) r₂ h₂
theorem xZ {a : M V} {x : PySem.Expr} {pos : Pos} (h1 : Sim B n fr ow VR (eval x fr.env) a) : Sim B n fr ow VR (eval (.UnaryOp .USub x pos) fr.env) (Kw a) := by
 refine ⟨?_⟩
 intro A G st s o i Q E h
 refine UnaryOp_ (h1.run A G st s o i _ _ (h.bind ?_))
 intro v st' s' G' c x' i' r h'
 cases v with
 | int k => obtain ⟨_, rfl⟩ := r; exact PySem.P.neg_int (h'.ok' (.tok _) (i'.tok _) ⟨_, rfl⟩)
 | _ => exact h'.elim
end
structure KF (K : Frag) : Prop where
 gat : ∀ c, c ≠ Cls.error -> findIn K (.ref (cA c)) "__getattribute__" = some (some (.builtin "object.__getattribute__")) /\ findIn K (.ref (cA c)) "__getattr__" = some none /\ hasDictIn K (cA c) = true
 fld : ∀ c x, c ≠ Cls.error -> x ∈ zM c -> ∃ attr, findIn K (.ref (cA c)) x = some attr /\ noGet K attr = true
 sat : ∀ c, c ≠ Cls.error -> findIn K (.ref (cA c)) "__setattr__" = some (some (.builtin "object.__setattr__")) /\ plainOver K (cA c) = true
 tak : ∀ c x, c ≠ Cls.error -> x ∈ zM c -> takerIn K (cA c) x = some none
 mak : ∀ c, c ≠ Cls.error -> makesIn K (cA c) = true
structure Bs.Ok (B : Bs) : Prop where
 kin : B.K.In B.h0
 kf : KF B.K
 nolim : B.h0.NoLimit
 blt : ∃ mb, B.h0.Ns builtinsNs mb /\ ∀ x : Str, x ≠ "__name__" -> mb x = bootBuiltins x
theorem Inv.kin {B : Bs} {fr G st s} (b : B.Ok) (i : Inv B fr G st s) : B.K.In s.heap := b.kin.keeps i.base
noncomputable def xk (x : Str) (v : V) : M V := fun s => match v with
 | .obj .error _ => .stuck
 | .obj _ fs => match fs.lookup x with | some w => .ok w s | none => .stuck
 | .ref i => match s.hp[i]? with
  | some (.obj .error _) => .stuck
  | some (.obj _ fs) => match fs.lookup x with | some w => .ok w s | none => .stuck
  | _ => .stuck
 | _ => .stuck
noncomputable def qd (x : Str) (e : M V) : M V := e >>= xk x
section
variable {B : Bs} {n : Nat} {fr : Frm} {ow : Addr -> Prop}
theorem ZZ {G : Gst} {v : V} {c : Value} (r : VR G v c) : handedIn c = true := by
 cases v with
 | none => cases r; rfl
 | bool b => cases r; rfl
 | int i => obtain ⟨t, rfl⟩ := r; rfl
 | str i => obtain ⟨t, rfl⟩ := r; rfl
 | tup i => obtain ⟨t, rfl, _⟩ := r; rfl
 | lst i => obtain ⟨t, rfl, _⟩ := r; rfl
 | obj i => obtain ⟨t, rfl, _⟩ := r; rfl
 | ext i => obtain ⟨t, rfl, _⟩ := r; rfl
 | ref i => obtain ⟨t, rfl, _⟩ := r; rfl
theorem kh (k x : Str) (t : Tok) : (Value.str k t).isStr x = (k == x) := rfl
set_option tactic.hygienic true in
theorem DR.get {G : Gst} {fs : Fs} {x : Str} {v : V} (hv : fs.lookup x = some v) {ns : List Str} {es : List DictEntry} (r : DR G fs ns es) (h : x ∈ ns) : ∃ c, getL x es = some (some c) /\ VR G v c := by
 induction r with
 | nil => cases h
 | @cons n ns e es hk h1 h2 ih =>
  obtain ⟨t, hk⟩ := hk
  by_cases q : n = x
  ·subst q
   exact ⟨e.val, by simp [getL, hk, kh], h1 v hv⟩
  ·have q' : (n == x) = false := by simpa using q
   refine (ih ((List.mem_cons.mp h).resolve_left (fun z => q z.symm))).elim fun c ab => ⟨c, ?_, ab.2⟩
   have a := ab.1
   unfold getL at a ⊢
   rw [List.find?_cons, hk, kh, q']
   split at a
   ·rename_i e' he; rw [he]; exact a
   ·split at a <;> cases a
theorem DR.miss {G : Gst} {fs : Fs} {x : Str} {ns : List Str} {es : List DictEntry} (r : DR G fs ns es) (h : x ∉ ns) : getL x es = some none := by
 induction r with
 | nil => simp [getL]
 | @cons n ns e es hk h1 h2 ih =>
  obtain ⟨t, hk⟩ := hk
  have q' : (n == x) = false := by simpa using fun q : n = x => h (q ▸ .head _)
  have a := ih fun z => h (.tail _ z)
  unfold getL at a ⊢
  rw [List.find?_cons, hk, kh, q', List.any_cons]
  have hr : e.refKey = false := by simp [DictEntry.refKey, hk]
  rw [hr, Bool.false_or]
  exact a
inductive IsR (G : Gst) (h : Heap) (v : V) (c : Cls) (fs : Fs) (ca : Value) : Prop
 | mk (a dx : Addr) (k : Nat) (es : List DictEntry) (h1 : ca = .ref a) (h2 : h.get? a = some (instObj (cA c) dx)) (h3 : h.get? dx = some (dictOf es k)) (h4 : DR G fs (zM c) es) (h5 : ∀ x, (fs.lookup x).isSome = true -> x ∈ zM c) (h6 : ∀ j, v = .ref j -> G a = some (.cl j) /\ G dx = some (.cd j))
theorem yu {G : Gst} {st : St} {s : Shared} (i : Inv B fr G st s) {v : V} {ca : Value} {c : Cls} {fs : Fs} (hv : VR G v ca)
  (e : v = .obj c fs \/ ∃ j, v = .ref j /\ st.hp[j]? = some (.obj c fs)) : IsR G s.heap v c fs ca := by
 rcases e with rfl | ⟨j, rfl, hj⟩
 ·obtain ⟨a, rfl, ga⟩ := hv
  obtain ⟨dx, h1, h2⟩ := i.good.or a _ ga
  obtain ⟨k, es, h3, h4, h5⟩ := i.good.or dx _ h2
  exact ⟨a, dx, k, es, rfl, h1, h3, h4, h5, fun j q => nomatch q⟩
 ·obtain ⟨a, rfl, ga⟩ := hv
  have h := i.good.or a _ ga
  simp only [OR, hj] at h
  obtain ⟨dx, h1, h2⟩ := h
  have h' := i.good.or dx _ h2
  simp only [OR, hj] at h'
  obtain ⟨k, es, h3, h4, h5⟩ := h'
  exact ⟨a, dx, k, es, rfl, h1, h3, h4, h5, fun j' q => by cases q; exact ⟨ga, h2⟩⟩
theorem vW {h : Heap} {a dx C : Addr} {k : Nat} {es : List DictEntry} (h1 : h.get? a = some (instObj C dx)) (h2 : h.get? dx = some (dictOf es k)) : W.InstAt h a (instObj C dx) C (some (dictOf es k)) :=
 ⟨h1, rfl, rfl, h2⟩
theorem yY {A : Around} {x : Str} {v w : V} {ca : Value} {c : Cls} {fs : Fs} {G : Gst} {st : St} {s : Shared} {ex : Bool} {Q : Value -> Shared -> Prop} {E : Value -> Shared -> Prop} (b : B.Ok)
  (i : Inv B fr G st s) (hv : VR G v ca) (e : v = .obj c fs \/ ∃ j, v = .ref j /\ st.hp[j]? = some (.obj c fs)) (hc : c ≠ .error) (hl : fs.lookup x = some w) (h : qX B fr ow G s VR Q E (.ok w st)) :
  wpAny (model B.prog B.w) A (getAttr ca x ex) Q E s := by
 obtain ⟨a, dx, k, es, rfl, h1, h2, h3, hm, _⟩ := yu i hv e
 have hm := hm x (by rw [hl]; rfl)
 obtain ⟨c', q1, q2⟩ := h3.get hl hm
 have z58 := b.kf.gat c hc; have g1 := z58.1; have g3 := z58.2.2
 obtain ⟨attr, f1, f2⟩ := b.kf.fld c x hc hm
 exact get_value (i.kin b) (vW h1 h2) g1 (findObj_own g3 f1 f2 (by rw [lookIn_dict]; exact q1)) (ZZ q2) (h.ok' (.tok _) (i.tok _) q2)
theorem wp_attr {A : Around} {x : Str} {v : V} {ca : Value} {G : Gst} {st : St} {s : Shared} {ex : Bool} {Q : Value -> Shared -> Prop} {E : Value -> Shared -> Prop} (b : B.Ok)
  (i : Inv B fr G st s) (hv : VR G v ca) (h : qX B fr ow G s VR Q E (xk x v st)) : wpAny (model B.prog B.w) A (getAttr ca x ex) Q E s := by
 unfold xk at h
 cases v with
 | obj c fs =>
  by_cases hc : c = .error
  ·subst hc; exact h.elim
  ·have h' : qX B fr ow G s VR Q E (match fs.lookup x with | some w => .ok w st | none => .stuck) := by
    cases c <;> first | exact absurd rfl hc | exact h
   cases hl : fs.lookup x with
   | none => rw [hl] at h'; exact h'.elim
   | some w => rw [hl] at h'; exact yY b i hv (.inl rfl) hc hl h'
 | ref j =>
  cases hj : st.hp[j]? with
  | none => simp only [hj] at h; exact h.elim
  | some cell =>
   cases cell with
   | obj c fs =>
    by_cases hc : c = .error
    ·subst hc; simp only [hj] at h; exact h.elim
    ·have h' : qX B fr ow G s VR Q E (match fs.lookup x with | some w => .ok w st | none => .stuck) := by
      simp only [hj] at h
      cases c <;> first | exact absurd rfl hc | exact h
     cases hl : fs.lookup x with
     | none => rw [hl] at h'; exact h'.elim
     | some w => rw [hl] at h'; exact yY b i hv (.inr ⟨j, rfl, hj⟩) hc hl h'
   | lst _ => simp only [hj] at h; exact h.elim
   | dct _ => simp only [hj] at h; exact h.elim
 | _ => exact h.elim
theorem qL {a : M V} {x : PySem.Expr} {y : Str} {pos : Pos} (b : B.Ok) (h1 : Sim B n fr ow VR (eval x fr.env) a)
  (he : eval (.Attribute x y pos) fr.env = (do
   let o <- eval x fr.env
   standAt pos.atName
   let r <- holding [o] (getAttr o y true)
   letTemporaryGo x o r
   pure r) := by with_unfolding_all rfl) : Sim B n fr ow VR (eval (.Attribute x y pos) fr.env) (qd y a) := by
 refine ⟨?_⟩
 intro A G st s o i Q E h
 refine Attribute_any_ (h1.run A G st s o i _ _ (h.bind ?_)) he
 intro v st' s' G' c x' i' r h'
 exact wp_attr b i' r h'
noncomputable def xf (k : Int) (n : Nat) : Option Nat := if 0 <= k then (if k < n then some k.toNat else none) else (if 0 <= k + n then some (k + n).toNat else none)
noncomputable def ixStr (x : Str) (k : Int) : M V := fun s => if k < 2 ^ 62 /\ 0 <= k then match x.cps[k.toNat]? with | some c => .ok (.str ⟨#[c]⟩) s | none => .stuck else .stuck
noncomputable def ixSeq (v : V) (k : Int) : M V := fun s => match zl s.hp v with
 | some l => match (xf k l.length).bind (l[·]?) with | some w => if -(2 ^ 62) <= k /\ k < 2 ^ 62 then .ok w s else .stuck | none => .stuck
 | none => .stuck
noncomputable def Jr (v : V) (x : Str) : M V := fun s => match dictAt s.hp v with
 | some kv => match kv.lookup x with | some w => .ok w s | none => .stuck
 | none => .stuck
noncomputable def zS (v i : V) : M V := match i with
 | .int k => (match v with
  | .str x => ixStr x k
  | v => ixSeq v k)
 | .str x => Jr v x
 | _ => zC
noncomputable def qV (a b : M V) : M V := a >>= fun x => b >>= fun y => zS x y
noncomputable def wh (hp : Hp) : V -> Option (List V)
 | .ext l => some l
 | v => qo hp v
noncomputable def Jg (k : Nat) (v : V) : M V := fun s => match qo s.hp v with | some l => if l.length <= zh then .ok (.lst (l.drop k)) s else .stuck | none => .stuck
noncomputable def yJ (k : Nat) (v : V) : M V := fun s => match qo s.hp v with | some l => if l.length <= zh then .ok (.ref s.hp.length) ⟨s.lc, s.hp ++ [.lst (l.drop k)]⟩ else .stuck | none => .stuck
noncomputable def Jf (k : Nat) (v : V) : M V := fun s => match wh s.hp v with | some l => if l.length <= zh then .ok (.lst (l.take k)) s else .stuck | none => .stuck
theorem KR.get {G : Gst} {x : Str} {v : V} {kv es} (r : KR G kv es) (h : kv.lookup x = some v) : ∃ c, valueAt es x = some c /\ VR G v c := by
 induction r with
 | nil => cases h
 | @cons k v' c kv es a r ih =>
  rw [List.lookup_cons] at h
  unfold valueAt
  by_cases q : x = k
  ·subst q
   simp only [beq_self_eq_true] at h
   cases h
   exact ⟨c, by simp, a⟩
  ·have q' : (x == k) = false := by simpa using q
   rw [q'] at h
   refine (ih h).elim fun c' h12 => ⟨c', ?_, h12.2⟩
   have h1 := h12.1
   unfold valueAt at h1
   rw [List.find?_cons]
   have q'' : decide (k = x) = false := by simpa using fun z : k = x => q z.symm
   first | (rw [q'']; exact h1) | (simp only [q'']; exact h1)
inductive SqR (G : Gst) (h : Heap) (l : List V) (c : Value) : Prop
 | mk (a : Addr) (k : Nat) (cs : Array Value) (h1 : c = .ref a) (h2 : h.get? a = some (listOf cs k) \/ h.get? a = some { cls := .type "tuple", data := .seq cs k }) (h3 : VRs G l cs.toList)
theorem Kf {G : Gst} {st : St} {s : Shared} (i : Inv B fr G st s) {v : V} {c : Value} {l : List V} (hv : VR G v c) (e : zl st.hp v = some l) : SqR G s.heap l c := by
 cases v with
 | tup l' =>
  simp only [zl] at e; cases e
  obtain ⟨a, rfl, ga⟩ := hv
  obtain ⟨k, cs, h1, h2⟩ := xq i.good ga
  exact ⟨a, k, cs, rfl, .inr h1, h2⟩
 | lst l' => obtain ⟨a, k, cs, h0, h1, h2⟩ := vA i hv (show qo st.hp (.lst l') = some l from e); exact ⟨a, k, cs, h0, .inl h1, h2⟩
 | ref j => obtain ⟨a, k, cs, h0, h1, h2⟩ := vA i hv (show qo st.hp (.ref j) = some l from e); exact ⟨a, k, cs, h0, .inl h1, h2⟩
 | _ => simp [zl, qo] at e
set_option tactic.hygienic true in
theorem X9 {A : Around} {v w : V} {k : Int} {t : Tok} {ca : Value} {l : List V} {G : Gst} {st : St} {s : Shared} {Q : Value -> Shared -> Prop} {E : Value -> Shared -> Prop} (i : Inv B fr G st s) (hv : VR G v ca)
  (e : zl st.hp v = some l) (hk : (xf k l.length).bind (l[·]?) = some w) (h1 : -(2 ^ 62) <= k) (h2 : k < 2 ^ 62) (h : qX B fr ow G s VR Q E (.ok w st)) :
  ∃ T id, s.TypeIs ca T /\ typeLookup (.type T) "__getitem__" = pure (some (.builtin id)) /\ wpAny (model B.prog B.w) A (getItem ca (.int k t)) Q E s := by
 obtain ⟨a, k0, cs, rfl, ho, r⟩ := Kf i hv e
 have hlen : cs.size = l.length := by rw [r.length, Array.length_toList]
 obtain ⟨j, hj, hw⟩ := Option.bind_eq_some_iff.mp hk
 obtain ⟨c, hc, rc⟩ := r.get hw
 have hc' : cs[j]? = some c := by simpa using hc
 have q := h.ok i rc
 unfold xf at hj
 rcases ho with ho | ho
 ·refine ⟨"list", "list.__getitem__", ⟨_, ho, rfl⟩, slot_list_getitem.lookup, ?_⟩
  have hl : s.heap.IsList a cs := ⟨_, ho, rfl, k0, rfl⟩
  split at hj
  ·rename_i h0
   split at hj
   ·cases hj
    exact wpAny_getItem_list hl h0 (by walk_at "l") hc' q
   ·cases hj
  ·rename_i h0
   split at hj
   ·cases hj
    exact wpAny_getItem_list_neg hl (by walk_at "l") (by walk_at "l") (by walk_at "l") (by rw [hlen]; exact hc') q
   ·cases hj
 ·refine ⟨"tuple", "tuple.__getitem__", ⟨_, ho, rfl⟩, slot_tuple_getitem.lookup, ?_⟩
  have hl : IsTup s.heap a cs := ⟨_, ho, rfl, k0, rfl⟩
  split at hj
  ·rename_i h0
   split at hj
   ·rename_i h3
    cases hj
    exact getItem_tuple hl (by walk_at "l") (by walk_at "l") (seqIndex_of h0 (by walk_at "l")) hc' q
   ·cases hj
  ·rename_i h0
   split at hj
   ·cases hj
    exact getItem_tuple hl (by walk_at "l") (by walk_at "l") (PySem.seqIndex_neg (by walk_at "l") (by walk_at "l")) (by rw [hlen]; exact hc') q
   ·cases hj
inductive IxR {B : Bs} (A : Around) (ca cj : Value) (Q : Value -> Shared -> Prop) (E : Value -> Shared -> Prop) (s : Shared) : Prop
 | mk (T : String) (id : String) (h1 : s.TypeIs ca T) (h2 : typeLookup (.type T) "__getitem__" = pure (some (.builtin id))) (h3 : wpAny (model B.prog B.w) A (getItem ca cj) Q E s)
set_option tactic.hygienic true in
theorem wp_ixStr {A : Around} {x : Str} {k : Int} {t u : Tok} {G : Gst} {st : St} {s : Shared} {Q : Value -> Shared -> Prop} {E : Value -> Shared -> Prop} (i : Inv B fr G st s) (h : qX B fr ow G s VR Q E (ixStr x k st)) : IxR (B := B) A (.str x t) (.int k u) Q E s := by
 unfold ixStr at h
 split at h
 ·rename_i hk
  cases hc : x.cps[k.toNat]? with
  | none => rw [hc] at h; exact h.elim
  | some c =>
   rw [hc] at h
   have hlt := (Array.getElem?_eq_some_iff.mp hc).1
   refine ⟨_, _, typeIs_str s x t, PySem.F.slot_str_getitem.lookup, PySem.P.getItem_str ?_ ?_ (h.ok' (.tok _) (i.tok _) ⟨_, rfl⟩)⟩
   ·rw [Bool.or_eq_false_iff, decide_eq_false_iff_not, decide_eq_false_iff_not]; exact ⟨fun q => by have := hk.2; lia, fun q => by have := hk.1; lia⟩
   ·rw [seqIndex_of hk.2 (by show k < (x.cps.size : Int); have := hk.2; lia), Option.bind_some]; exact hc
 ·exact h.elim
set_option tactic.hygienic true in
theorem wp_ixSeq {A : Around} {v : V} {ca : Value} {k : Int} {u : Tok} {G : Gst} {st : St} {s : Shared} {Q : Value -> Shared -> Prop} {E : Value -> Shared -> Prop} (i : Inv B fr G st s) (hv : VR G v ca) (h : qX B fr ow G s VR Q E (ixSeq v k st)) : IxR (B := B) A ca (.int k u) Q E s := by
 unfold ixSeq at h
 cases hl : zl st.hp v with
 | none => rw [hl] at h; exact h.elim
 | some l =>
  rw [hl] at h
  dsimp only at h
  cases hw : (xf k l.length).bind (l[·]?) with
  | none => rw [hw] at h; exact h.elim
  | some w =>
   rw [hw] at h
   dsimp only at h
   split at h
   ·rename_i hb
    obtain ⟨T, id, h1, h2, h3⟩ := X9 (t := u) i hv hl hw hb.1 hb.2 h
    exact ⟨T, id, h1, h2, h3⟩
   ·exact h.elim
theorem wp_ixDct {A : Around} {v : V} {ca : Value} {x : Str} {u : Tok} {G : Gst} {st : St} {s : Shared} {Q : Value -> Shared -> Prop} {E : Value -> Shared -> Prop} (i : Inv B fr G st s) (hv : VR G v ca) (h : qX B fr ow G s VR Q E (Jr v x st)) : IxR (B := B) A ca (.str x u) Q E s := by
 unfold Jr at h
 cases hkv : dictAt st.hp v with
 | none => rw [hkv] at h; exact h.elim
 | some kv =>
  rw [hkv] at h
  dsimp only at h
  cases hw : kv.lookup x with
  | none => rw [hw] at h; exact h.elim
  | some w =>
   rw [hw] at h
   obtain ⟨j', rfl, hj'⟩ := Z0 hkv
   obtain ⟨a, rfl, ga⟩ := hv
   obtain ⟨es, h1, h2, _⟩ := yw i.good ga hj'
   obtain ⟨c, h3, h4⟩ := h2.get hw
   exact ⟨_, _, h1.typeIs, slot_dict_getitem.lookup, wpAny_getItem_of (strKind_is _ _ _ _) h1.mapOf h3 (h.ok' (.tok _) (i.tok _) h4)⟩
theorem wp_ix {A : Around} {v j : V} {ca cj : Value} {G : Gst} {st : St} {s : Shared} {Q : Value -> Shared -> Prop} {E : Value -> Shared -> Prop} (i : Inv B fr G st s) (hv : VR G v ca) (hj : VR G j cj) (h : qX B fr ow G s VR Q E (zS v j st)) : IxR (B := B) A ca cj Q E s := by
 cases j with
 | int k =>
  obtain ⟨u, rfl⟩ := hj
  cases v with
  | str x => obtain ⟨t, rfl⟩ := hv; exact wp_ixStr i h
  | _ => exact wp_ixSeq i hv h
 | str x => obtain ⟨u, rfl⟩ := hj; exact wp_ixDct i hv h
 | _ => exact False.elim h
theorem ZI {A : Around} {v j : V} {ca cj : Value} {x y : PySem.Expr} {G : Gst} {st : St} {s : Shared} {Q : Value -> Shared -> Prop} {E : Value -> Shared -> Prop} (i : Inv B fr G st s) (hv : VR G v ca) (hj : VR G j cj)
  (hs : ∀ o i, subscripted y false o i = operate [o, i] (getItem o i)) (h : qX B fr ow G s VR Q E (zS v j st)) : wpAny (model B.prog B.w) A (subscriptTail x y ca cj) Q E s := by
 cases wp_ix i hv hj h with | mk T id h1 h2 h3 => exact tail_any h1 h2 h3 (hs _ _)
theorem qN {a b : M V} {x y : PySem.Expr} {pos : Pos} (h1 : Sim B n fr ow VR (eval x fr.env) a) (h2 : Sim B n fr ow VR (eval y fr.env) b)
  (hs : ∀ o i, subscripted y false o i = operate [o, i] (getItem o i) := by intro _ _; rfl) : Sim B n fr ow VR (eval (.Subscript x y pos) fr.env) (qV a b) := by
 refine ⟨?_⟩
 intro A G st s o i Q E h
 refine Subscript_ (h1.run A G st s o i _ _ (h.bind ?_))
 intro v st' s' G' c x' i' r h'
 refine h2.run A G' st' s' o i' _ _ (h'.bind ?_)
 intro v₂ st2 s2 G2 c₂ x₂ i₂ r₂ h₂
 exact ZI i₂ (r.mono x₂.g) r₂ hs h₂
theorem ZR (cs : Array Value) (k : Nat) : slicePick cs (some (k : Int)) none none = (cs.toList.drop k).toArray := slicePick_from' cs k
theorem pick_upto (cs : Array Value) (k : Nat) : slicePick cs none (some (k : Int)) none = (cs.toList.take k).toArray := slicePick_upto' cs k
theorem y8 {A : Around} {x : PySem.Expr} {lo up : Option PySem.Expr} {p : Pos} {ca vl vu : Value} {l : List V} {v : V} {il iu : Option Int} {G : Gst} {st : St} {s : Shared} {Q : Value -> Shared -> Prop} {E : Value -> Shared -> Prop} (i : Inv B fr G st s) (hv : VR G v ca)
  (e : wh st.hp v = some l) (hz : l.length <= zh) (pl : IsPart vl il) (pu : IsPart vu iu)
  (h : ∀ cs : Array Value, VRs G l cs.toList -> ∀ (s' : Shared) (tk : Nat), Ext ow G s G s' -> Inv B fr G st s' -> Q (.ref s'.heap.objs.size) { s' with heap := s'.heap.push { cls := .type "list", data := .seq (slicePick cs il iu none) }, toks := tk }) :
  wpAny (model B.prog B.w) A (subscriptTail x (.Slice lo up none p) ca (.ref s.heap.objs.size)) Q E { s with heap := s.heap.push { cls := .type "slice", data := .fields #[vl, vu, .none] } } := by
 obtain ⟨a, cs, rfl, hl, r⟩ : ∃ a cs, ca = .ref a /\ s.heap.IsList a cs /\ VRs G l cs.toList := by
  cases v with
  | ext l' =>
   obtain ⟨a, rfl, ga⟩ := hv
   cases e
   obtain ⟨o, n, cs, h1, h2, h3, h4⟩ := i.good.or a _ ga
   exact ⟨a, cs, rfl, ⟨o, h1, h2, n, h3⟩, h4⟩
  | lst l' => obtain ⟨a, k, cs, rfl, h1, r⟩ := vA i hv (show qo st.hp (.lst l') = some l from e); exact ⟨a, cs, rfl, ⟨_, h1, rfl, k, rfl⟩, r⟩
  | ref j => obtain ⟨a, k, cs, rfl, h1, r⟩ := vA i hv (show qo st.hp (.ref j) = some l from e); exact ⟨a, cs, rfl, ⟨_, h1, rfl, k, rfl⟩, r⟩
  | _ => simp [wh, qo] at e
 have hlen : cs.size = l.length := by rw [r.length, Array.length_toList]
 obtain ⟨xx, ii⟩ := i.grow (s' := { s with heap := s.heap.push { cls := .type "slice", data := .fields #[vl, vu, .none] } }) (fun b o e => Heap.get?_push_of_some _ e) (by show _ <= (s.heap.push _).objs.size; rw [Heap.size_push]; exact le0) ⟨rfl, rfl⟩
 refine tail_any (T := "list") (ops := [.ref s.heap.objs.size, .ref a]) (hl.push _).typeIs slot_list_getitem.lookup (wpAny_getItem_list_slice (hl.push _) (Heap.IsSliceOf.new ..) pl pu .none (by simp) ?_ (by have := jF; exact le3 (eL hlen) hz this)) rfl
 exact h cs r _ _ xx ii
end
noncomputable def qa : List (M V) -> M (List V)
 | [] => pure []
 | m :: r => m >>= fun v => qa r >>= fun vs => pure (v :: vs)
noncomputable def pLst (l : List V) : M V := fun s => if l.length <= zh then .ok (.lst l) s else .stuck
noncomputable def pTup (l : List V) : M V := fun s => if l.length <= zh then .ok (.tup l) s else .stuck
noncomputable def pNew (c : jE) : M V := fun s => .ok (.ref s.hp.length) ⟨s.lc, s.hp ++ [c]⟩
noncomputable def pLstC (l : List V) : M V := fun s => if l.length <= zh then .ok (.ref s.hp.length) ⟨s.lc, s.hp ++ [.lst l]⟩ else .stuck
noncomputable def zF (l : List (M V)) : M V := qa l >>= pTup
noncomputable def q8 (l : List (M V)) : M V := qa l >>= pLst
noncomputable def vY (l : List (M V)) : M V := qa l >>= pLstC
noncomputable def pDct (ks : List Str) (vs : List V) : M V := fun s => if (ks.zip vs).map (·.1) = ks /\ ks.Nodup then .ok (.ref s.hp.length) ⟨s.lc, s.hp ++ [.dct (ks.zip vs)]⟩ else .stuck
noncomputable def eDct (ks : List Str) (l : List (M V)) : M V := qa l >>= pDct ks
section
variable {B : Bs} {n : Nat} {fr : Frm} {ow : Addr -> Prop}
theorem qC {pos : Pos} : Sim B n fr ow VRs (spliced (backTo pos (starEach [] fr.env))) (qa []) := ⟨fun _ _ _ _ _ i _ _ h => wpAny_items_nil (h.ok i .nil)⟩
theorem qA {m : M V} {r : List (M V)} {x : PySem.Expr} {xs : List PySem.Expr} {pos : Pos} (h1 : Sim B n fr ow VR (eval x fr.env) m) (h2 : Sim B n fr ow VRs (spliced (backTo pos (starEach xs fr.env))) (qa r))
  (he : starEach (x :: xs) fr.env = (false, eval x fr.env) :: starEach xs fr.env := by rfl) : Sim B n fr ow VRs (spliced (backTo pos (starEach (x :: xs) fr.env))) (qa (m :: r)) := by
 refine ⟨?_⟩
 intro A G st s o i Q E h
 refine wpAny_items_cons (h1.run A G st s o i _ _ (h.bind ?_)) he
 intro v st' s' G' c x' i' rv h'
 refine h2.run A G' st' s' o i' _ _ (h'.bind ?_)
 intro vs st2 s2 G2 cs x₂ i₂ r₂ h₂
 exact h₂.ok i₂ (.cons (rv.mono x₂.g) r₂)
set_option tactic.hygienic true in
theorem qP {l : List (M V)} {xs : List PySem.Expr} {k : Nat} {pos : Pos} (h1 : Sim B n fr ow VRs (spliced (backTo pos (starEach xs fr.env))) (qa l)) : Sim B n fr ow VR (eval (.Tuple xs k pos) fr.env) (zF l) := by
 refine ⟨?_⟩
 intro A G st s o i Q E h
 refine wpAny_Tuple (h1.run A G st s o i _ _ (h.bind ?_))
 intro vs st' s' G' cs x' i' r h'
 unfold pTup at h'
 split at h'
 ·rename_i hz
  have := jF
  exact ⟨by rw [<- r.length]; exact le2 hz this, qX.newTup (tk := s'.toks) i' r h'⟩
 ·exact h'.elim
set_option tactic.hygienic true in
theorem qO {l : List (M V)} {xs : List PySem.Expr} {pos : Pos} (h1 : Sim B n fr ow VRs (spliced (backTo pos (starEach xs fr.env))) (qa l)) : Sim B n fr ow VR (eval (.List xs pos) fr.env) (q8 l) := by
 refine ⟨?_⟩
 intro A G st s o i Q E h
 refine wpAny_List (h1.run A G st s o i _ _ (h.bind ?_))
 intro vs st' s' G' cs x' i' r h'
 unfold pLst at h'
 split at h'
 ·rename_i hz
  have := jF
  exact ⟨by rw [<- r.length]; exact le2 hz this, qX.newLst (tk := s'.toks) i' r h'⟩
 ·exact h'.elim
set_option tactic.hygienic true in
theorem zm {l : List (M V)} {xs : List PySem.Expr} {pos : Pos} (h1 : Sim B n fr ow VRs (spliced (backTo pos (starEach xs fr.env))) (qa l)) : Sim B n fr ow VR (eval (.List xs pos) fr.env) (vY l) := by
 refine ⟨?_⟩
 intro A G st s o i Q E h
 refine wpAny_List (h1.run A G st s o i _ _ (h.bind ?_))
 intro vs st' s' G' cs x' i' r h'
 unfold pLstC at h'
 split at h'
 ·rename_i hz
  have := jF
  exact ⟨by rw [<- r.length]; exact le2 hz this, qX.newLstC (tk := s'.toks) i' r h'⟩
 ·exact h'.elim
noncomputable def strKeys : List Str -> List Pos -> List (Option PySem.Expr)
 | k :: ks, p :: ps => some (.Constant (.str k) 0 p) :: strKeys ks ps
 | _, _ => []
inductive KP (G : Gst) (ks : List Str) : List V -> List (Value × Value) -> Prop
 | mk {vs kvs} : allStrKeys kvs = true -> (∀ G', (∀ a x, G a = some x -> G' a = some x) -> KR G' (ks.zip vs) (strPairs kvs)) -> ks.length = vs.length -> KP G ks vs kvs
theorem vm {pos : Pos} : Sim B n fr ow (fun G => KP G []) (evalPairs (pairTrees [] [] fr.env pos)) (qa []) :=
 ⟨fun _ _ _ _ _ i _ _ h => pairTrees_nil_walk (h.ok i (.mk rfl (fun _ _ => .nil) rfl))⟩
theorem qm {k : Str} {ks : List Str} {m : M V} {r : List (M V)} {x : PySem.Expr} {xs : List PySem.Expr} {keys : List (Option PySem.Expr)} {j : Nat} {p pos : Pos} (h1 : Sim B n fr ow VR (eval x fr.env) m)
  (h2 : Sim B n fr ow (fun G => KP G ks) (evalPairs (pairTrees keys xs fr.env pos)) (qa r)) : Sim B n fr ow (fun G => KP G (k :: ks)) (evalPairs (pairTrees (some (.Constant (.str k) j p) :: keys) (x :: xs) fr.env pos)) (qa (m :: r)) := by
 refine ⟨?_⟩
 intro A G st s o i Q E h
 refine pairTrees_cons_walk (wpAny_Constant_str ?_)
 refine h1.run A G st _ o (i.tok _) _ _ ((h.ext (.tok _)).bind ?_)
 intro v st' s' G' c x' i' rv h'
 refine h2.run A G' st' s' o i' _ _ (h'.bind ?_)
 intro vs st2 s2 G2 kvs x₂ i₂ r₂ h₂
 obtain ⟨q1, q2, q3⟩ := r₂
 refine h₂.ok i₂ (.mk (by simpa [allStrKeys] using q1) (fun G3 m => ?_) (by simp [q3]))
 exact .cons (rv.mono fun a y e => m _ _ (x₂.g _ _ e)) (q2 G3 m)
theorem KR.keys {G : Gst} {kv es} (r : KR G kv es) : es.map (·.1) = kv.map (·.1) := by
 induction r with
 | nil => rfl
 | cons _ _ ih => rw [List.map_cons, List.map_cons, ih]
set_option tactic.hygienic true in
theorem xa (bo : B.Ok) (hw : ∀ a, ow a -> fr.own a) {ks : List Str} {l : List (M V)} {keys : List (Option PySem.Expr)} {xs : List PySem.Expr} {pos : Pos} (hall : keys.all (·.isSome) = true) (hl : keys.length = xs.length) (h0 : keys ≠ []) (hlen : keys.length <= 15)
  (h1 : Sim B n fr ow (fun G => KP G ks) (evalPairs (pairTrees keys xs fr.env pos)) (qa l)) : Sim B n fr ow VR (eval (.Dict keys xs pos) fr.env) (eDct ks l) := by
 refine ⟨?_⟩
 intro A G st s o i Q E h
 obtain ⟨xg, ig⟩ := i.grow (s' := { s with heap := s.heap.push { cls := .type "dict", data := .dict #[] } }) (fun b o e => Heap.get?_push_of_some _ e) (by show _ <= (s.heap.push _).objs.size; rw [Heap.size_push]; exact le0) ⟨rfl, rfl⟩
 refine wpAny_Dict_walk (knd := strKind B.prog B.w) hall hl h0 hlen (h1.run A G st _ o ig _ _ (qX.bind' xg h ?_))
 intro vs st' s' G' kvs x₀ x' i' r h'
 obtain ⟨q1, q2, q3⟩ := r
 unfold pDct at h'
 split at h'
 ·rename_i hz
  have z69 := i.nobody (Nat.le_refl _); have n1 := z69.1; have n2 := z69.2.1; have n3 := z69.2.2.1; have n4 := z69.2.2.2
  have hD : s'.heap.DictOf (strKind B.prog B.w) s.heap.objs.size [] := by
   obtain ⟨o, es, ep, ho, rr⟩ := Heap.DictOf.new (knd := strKind B.prog B.w) s.heap
   exact ⟨o, es, ep, x'.keep _ _ (fun z => n3 (hw _ z)) n1 ho, rr⟩
  have hk : (strPairs kvs).map (·.1) = ks := (q2 G' fun _ _ e => e).keys.trans hz.1
  refine display_done_str q1 (by rw [hk]; exact hz.2) hD fun h₂ hm hs => ?_
  have hG' : G' s.heap.objs.size = none := x'.new _ (by show _ < (s.heap.push _).objs.size; rw [Heap.size_push]; exact lt0) n1
  have kn : ∀ b, b ≠ s.heap.objs.size -> h₂.get? b = s'.heap.get? b := hs.2
  have good : ∀ b y, G' b = some y -> h₂.get? b = s'.heap.get? b := fun b y e => kn b fun z => by rw [z, hG'] at e; cases e
  have hown : ∀ b, fr.own b -> b ≠ s.heap.objs.size := fun b hb z => n3 (z ▸ hb)
  have i₂ : Inv B fr G' st' { s' with heap := h₂, toks := s'.toks + kvs.length } := by
   refine ⟨i'.good.apart good, fun b o q => ?_, i'.own, i'.ns.imp fun m hm => hm.sameBut hs (hown _ (.inl rfl)), fun p hp => (i'.celA p hp).imp fun v hv => hv.sameBut hs (hown _ (.inr (List.mem_map_of_mem hp))),
    fun x v e => let ⟨c, q1, q2⟩ := i'.nm x v e; ⟨c, q1, q2.of (fun m hm => hm.sameBut hs (hown _ (.inl rfl))) fun ca v hm hv => hv.sameBut hs (hown _ (.inr (List.mem_map_of_mem hm)))⟩, fun e he => ?_, i'.gens⟩
   ·exact (kn b fun z => by rw [z, n2] at q; cases q).trans (i'.base b o q)
   ·obtain ⟨w1, L, oL, w2, w3, w4, w5, w6⟩ := i'.frs e he
    exact ⟨w1, L, oL, w2, w3, w4, (kn L fun z => n4 e he (z ▸ w2)).trans w5, w6⟩
  have i3 := i₂.put (hp' := st'.hp ++ [.dct (ks.zip vs)]) (y := .cl st'.hp.length) hG' n2 n3 n4 (fun j d q => Kt j d q)
   (by
    simp only [OR, List.getElem?_append_right (Nat.le_refl _), Nat.sub_self, List.getElem?_cons_zero]
    exact ⟨_, hm, q2 _ (zN.le hG'), beq_eq_false_iff_ne.mpr (Nat.ne_of_gt (PyProof.Rows.modules_low (bo.nolim.keeps i.base)))⟩)
   (fun j b q e => by
    cases q
    have := i'.good.or b _ e
    simp only [OR, List.getElem?_eq_none_iff.mpr (Nat.le_refl st'.hp.length)] at this; exact this) (fun _ _ q => nomatch q)
  refine h' _ _ _ (Ext.put hG' (s := { s' with heap := h₂, toks := s'.toks + kvs.length }) ⟨x₀.g, x₀.new, fun b o' hn e q => ?_, ?_, x₀.rest⟩ (Nat.le_refl _)) i3 ⟨_, rfl, zN.self⟩
  ·exact (kn b (Nat.ne_of_lt (Heap.lt_size q))).trans (x₀.keep b o' hn e q)
  ·exact Nat.le_trans x₀.size (Nat.le_of_eq hs.1.symm)
 ·exact h'.elim
end
structure XR (B : Bs) (S : List Addr) (s s' : Shared) : Prop where
 kp : ∀ a o, s.heap.get? a = some o -> (∀ vs, o.data ≠ .fields vs) -> a ∉ S -> s'.heap.get? a = some o
 sl : ∀ a o, s.heap.get? a = some o -> (∀ vs, o.data ≠ .fields vs) -> ∃ sl, s'.heap.get? a = some { o with slots := sl }
 base : B.h0.StaysIn s.heap -> B.h0.StaysIn s'.heap
 size : s.heap.objs.size <= s'.heap.objs.size
 rest : s'.gens = s.gens /\ s'.os = s.os
section
variable {B : Bs} {S : List Addr} {s s₁ s2 : Shared}
theorem XR.refl : XR B S s s := ⟨fun _ _ e _ _ => e, fun _ o e _ => ⟨o.slots, e⟩, fun e => e, Nat.le_refl _, rfl, rfl⟩
theorem XR.trans (x : XR B S s s₁) (y : XR B S s₁ s2) : XR B S s s2 :=
 ⟨fun a o e d n => y.kp a o (x.kp a o e d n) d n, fun a o e d => let ⟨_, h⟩ := x.sl a o e d; let ⟨sl, h'⟩ := y.sl a _ h d; ⟨sl, h'⟩, fun e => y.base (x.base e), Nat.le_trans x.size y.size, y.rest.1.trans x.rest.1, y.rest.2.trans x.rest.2⟩
theorem XR.put {e : Addr} {oe : Obj} {vs : Array Value} {f : Obj -> Obj} (he : s.heap.get? e = some oe) (hd : oe.data = .fields vs) (h0 : B.h0.get? e = none) : XR B S s { s with heap := s.heap.update e f } := by
 have k : ∀ a, a ≠ e -> (s.heap.update e f).get? a = s.heap.get? a := fun a h => Heap.get?_update_other _ _ (Ne.symm h)
 have ne : ∀ a o, s.heap.get? a = some o -> (∀ vs, o.data ≠ .fields vs) -> a ≠ e := fun a o q d z => by rw [z, he] at q; cases q; exact d vs hd
 exact ⟨fun a o q d _ => (k a (ne a o q d)).trans q, fun a o q d => ⟨o.slots, (k a (ne a o q d)).trans q⟩, fun b a o q => (k a fun z => by rw [z, h0] at q; cases q).trans (b a o q),
  Nat.le_of_eq (Heap.size_after_update ..).symm, rfl, rfl⟩
theorem XR.push {o : Obj} : XR B S s { s with heap := s.heap.push o } :=
 ⟨fun _ _ e _ _ => Heap.get?_push_of_some _ e, fun _ o e _ => ⟨o.slots, Heap.get?_push_of_some _ e⟩, fun b a o e => Heap.get?_push_of_some _ (b a o e), by show _ <= (s.heap.push _).objs.size; rw [Heap.size_push]; exact le0, rfl, rfl⟩
theorem XR.slots {h' : Heap} (x : Heap.SlotsOnly S s.heap h') (h0 : ∀ a ∈ S, B.h0.get? a = none) : XR B S s { s with heap := h' } :=
 ⟨fun a o e _ n => (x.2.1 a n).trans e, fun a o e _ => x.2.2 a o e, fun b a o e => (x.2.1 a fun m => by rw [h0 a m] at e; cases e).trans (b a o e), Nat.le_of_eq x.1.symm, rfl, rfl⟩
theorem XR.mono {S' : List Addr} (x : XR B S s s₁) (h : ∀ a, a ∈ S -> a ∈ S') : XR B S' s s₁ := ⟨fun a o e d n => x.kp a o e d fun m => n (h a m), x.sl, x.base, x.size, x.rest⟩
end
noncomputable def Frm.Ls (fr : Frm) : List Addr := (fr.fenv :: fr.outer).filterMap (·.frame)
section
variable {B : Bs} {n : Nat} {fr : Frm} {ow : Addr -> Prop}
theorem Inv.funFrames {G st s} (i : Inv B fr G st s) : s.heap.FunFrames B.h0 (fr.fenv :: fr.outer) := by
 have all : ∀ l : List Env, (∀ e ∈ l, FrsOb B G s.heap e) -> s.heap.FunFrames B.h0 l := by
  intro l
  induction l with
  | nil => intro _; trivial
  | cons e r ih =>
   intro h
   obtain ⟨h1, L, o, h2, h3, _, h5, h6⟩ := h e (.head _)
   exact ⟨h1, ⟨L, o, h2, h3, h5, h6⟩, ih fun e' he => h e' (.tail _ he)⟩
 exact all _ i.frs
theorem Inv.Ls_free {G st s} (i : Inv B fr G st s) {a : Addr} (h : a ∈ fr.Ls) : G a = none /\ B.h0.get? a = none /\ ∃ o, s.heap.get? a = some o /\ ∀ vs, o.data ≠ .fields vs := by
 obtain ⟨e, he, hf⟩ := List.mem_filterMap.mp h
 obtain ⟨_, L, o, h2, h3, h4, h5, h6⟩ := i.frs e he
 rw [hf] at h2; cases h2
 exact ⟨h4, h3, o, h5, h6⟩
theorem Inv.xr {G st} {s s' : Shared} (i : Inv B fr G st s) (x : XR B fr.Ls s s') : Inv B fr G st s' := by
 have gk : ∀ a y, G a = some y -> s'.heap.get? a = s.heap.get? a := fun a y e => by
  obtain ⟨o, ho, hd⟩ := (i.good.or a y e).at
  rw [ho]; exact x.kp a o ho hd fun m => by rw [(i.Ls_free m).1] at e; cases e
 have ns : ∀ a m, s.heap.Ns a m -> s'.heap.Ns a m := fun a m ⟨o, es, ep, ho, hd, r⟩ => by
  obtain ⟨sl, h⟩ := x.sl a o ho fun vs q => by rw [hd] at q; cases q
  exact ⟨_, es, ep, h, hd, r⟩
 have cl : ∀ a v, s.heap.IsCell a v -> s'.heap.IsCell a v := fun a v ⟨o, ho, hd⟩ => by
  obtain ⟨sl, h⟩ := x.sl a o ho fun vs q => by rw [hd] at q; cases q
  exact ⟨_, h, hd⟩
 refine ⟨i.good.apart gk, x.base i.base, i.own, i.ns.imp fun m h => ns _ m h, fun p hp => (i.celA p hp).imp fun v h => cl _ v h, fun y v e => let ⟨c, q1, q2⟩ := i.nm y v e; ⟨c, q1, q2.of (fun m h => ns _ m h) fun ca v _ h => cl ca v h⟩, fun e he => ?_, x.rest.1.trans i.gens⟩
 obtain ⟨h1, L, o, h2, h3, h4, h5, h6⟩ := i.frs e he
 obtain ⟨sl, h⟩ := x.sl L o h5 h6
 exact ⟨h1, L, _, h2, h3, h4, h, h6⟩
theorem yn.xr {own G} {s s' : Shared} (x : XR B fr.Ls s s') : yn own G s G s' :=
 ⟨fun _ _ e => e, fun _ _ e => e, fun a o _ _ q d => x.sl a o q d, x.size, x.rest⟩
theorem kJ {A : Around} {G st} {s : Shared} {e : Addr} {k p : V} {v : Value} {f : Option Addr} {Q : Unit -> Shared -> Prop} {E : Value -> Shared -> Prop} (_i : Inv B fr G st s) (x : Fl3 B G s e k p (some v))
  (h : ∀ s', XR B fr.Ls s s' -> Fl3 B G s' e k p (some (f.elim .none fun a => rawInt a)) -> Q () s') : wpAny (model B.prog B.w) A (setFlight (.ref e) f) Q E s := by
 obtain ⟨h0, hG, vs, ⟨oe, dx, he, hc, hdx, hd, hz, hk⟩, hm⟩ := x
 cases hm with | mk T oT ts h1 hTe hT0 hTG hT hdT h3 =>
 unfold setFlight
 refine wpAny_bind (wpAny_field he hd h1 ?_)
 rw [if_pos (show (Value.ref T != Value.none) = true from by simp)]
 have hsz : 3 < ts.size := (Array.getElem?_eq_some_iff.mp h3).1
 refine wpAny_setField hT hdT hsz (h _ (.put hT hdT hT0) ⟨h0, hG, vs, ⟨oe, dx, ?_, hc, hdx, hd, hz, hk⟩, T, _, _, h1, hTe, hT0, hTG, Heap.get?_update_self _ hT (Obj.isFreed_of_fields (Obj.data_mapFields hdT _)), Obj.data_mapFields hdT _, by simp [hsz]⟩)
 exact (Heap.get?_update_other _ _ hTe).trans he
theorem Jv {o : Obj} {f : Array Value -> Array Value} : (Obj.mapFields f o).dict = o.dict := by
 obtain ⟨c, d, dt, sl⟩ := o
 cases dt <;> rfl
theorem Zl {A : Around} {G st} {s : Shared} {e : Addr} {k p : V} {m : Option Value} {Q : Unit -> Shared -> Prop} {E : Value -> Shared -> Prop} (hA : A.frames = some (fr.fenv :: fr.outer)) (i : Inv B fr G st s) (x : Fl3 B G s e k p m)
  (hm : m = none \/ m = some .none \/ ∃ L, fr.fenv.frame = some L /\ m = some (rawInt L))
  (h : ∀ s', XR B fr.Ls s s' -> (∃ L, fr.fenv.frame = some L /\ Fl3 B G s' e k p (some (rawInt L))) -> Q () s') : wpAny (model B.prog B.w) A (noteFrame (.ref e) fr.fenv) Q E s := by
 obtain ⟨_, L, oL, hf, hL0, hLG, hL, hLd⟩ := i.frs fr.fenv (.head _)
 have hene : e ∉ fr.Ls := fun q => by
  obtain ⟨_, _, o, ho, hd⟩ := i.Ls_free q
  obtain ⟨_, _, vs, ⟨oe, _, he, _, _, hd', _, _⟩, _⟩ := x
  rw [he] at ho; cases ho; exact hd vs hd'
 have fin : ∀ (s0 : Shared) (head : Value) (had : Bool), XR B fr.Ls s s0 -> Inv B fr G st s0 -> ∀ vs, ExOb G s0.heap e k p vs ->
   wpAny (model B.prog B.w) A (do let a <- frameOf fr.fenv; let pl <- entryPlaceOf L had; let b <- EntryCells.newEntry head a .none (rawInt L) .none pl; setField (.ref e) 1 b) Q E s0 := by
  intro s0 head had xr i0 vs xo
  obtain ⟨oe, dx, he, hc, hdx, hd, hz, hk⟩ := xo
  have h0 : B.h0.get? e = none := by cases x with | mk h0 _ _ _ _ => exact h0
  have hG : G e = none := by cases x with | mk _ h0 _ _ _ => exact h0
  refine wpAny_bind (wpAny_frameOf_fun hA i0.funFrames hf fun h₁ hs₁ => ?_)
  have x₁ : XR B fr.Ls s0 { s0 with heap := h₁ } := .slots hs₁ fun a q => (i0.Ls_free q).2.1
  have i₁ := i0.xr x₁
  have he₁ : h₁.get? e = some oe := (hs₁.2.1 e hene).trans he
  refine wpAny_bind (wpAny_entryPlaceOf fun pl hpl => ?_)
  unfold EntryCells.newEntry newFields
  refine wpAny_bind (wpAny_newObj_type ?_ (hpl.sizeOk5 _ _ _ _ _))
  have hTe : h₁.objs.size ≠ e := Nat.ne_of_gt (Heap.lt_size he₁)
  have he₂ := Heap.get?_push_of_some { cls := .type "traceback", dict := none, data := .fields ([head, .ref L, .none, rawInt L, .none] ++ (if pl.isEmpty then List.replicate 6 Value.none else pl)).toArray } he₁
  have hT := Heap.get?_push_size h₁ (o := { cls := .type "traceback", dict := none, data := .fields ([head, .ref L, .none, rawInt L, .none] ++ (if pl.isEmpty then List.replicate 6 Value.none else pl)).toArray }) rfl
  refine wpAny_setField he₂ hd hz (h _ (xr.trans (x₁.trans (XR.push.trans (.put he₂ hd h0)))) ⟨L, hf, h0, hG, _, ⟨_, dx, Heap.get?_update_self _ he₂ (Obj.isFreed_of_fields (Obj.data_mapFields hd _)), (Obj.cls_mapFields _ _).trans hc, Jv.trans hdx, Obj.data_mapFields hd _, by simpa using hz, hk⟩,
   h₁.objs.size, _, _, by simp [hz], hTe, (i₁.nobody (Nat.le_refl _)).2.1, i₁.good.none_at (Nat.le_refl _), (Heap.get?_update_other _ _ (Ne.symm hTe)).trans hT, rfl, ?_⟩)
  simp
 unfold noteFrame
 simp only [hf]
 obtain ⟨h0, hG, vs, ⟨oe, dx, he, hc, hdx, hd, hz, hk⟩, hmm⟩ := id x
 rcases hm with rfl | hm
 ·refine wpAny_bind (wpAny_field he hd hmm ?_)
  rw [if_neg (by decide)]
  exact fin s _ _ .refl i vs ⟨oe, dx, he, hc, hdx, hd, hz, hk⟩
 ·obtain ⟨v, rfl, hv⟩ : ∃ v, m = some v /\ (v = .none \/ v = rawInt L) := by
   rcases hm with rfl | ⟨L', hL', rfl⟩
   ·exact ⟨_, rfl, .inl rfl⟩
   ·rw [hf] at hL'; cases hL'; exact ⟨_, rfl, .inr rfl⟩
  obtain ⟨T, oT, ts, h1, hTe, hT0, hTG, hT, hdT, h3⟩ := hmm
  have hsz : 3 < ts.size := (Array.getElem?_eq_some_iff.mp h3).1
  refine wpAny_bind (wpAny_field he hd h1 ?_)
  rw [if_pos (show (Value.ref T != Value.none) = true from by simp)]
  refine wpAny_bind (wpAny_field hT hdT h3 ?_)
  rcases hv with rfl | rfl
  ·rw [if_neg (show ¬ ((Value.none == rawInt L) = true) from by simp [rawInt])]
   refine wpAny_bind (wpAny_setField hT hdT hsz ?_)
   have xp : XR B fr.Ls s { s with heap := s.heap.update T (Obj.mapFields (·.setIfInBounds 3 Value.none)) } := .put hT hdT hT0
   exact fin _ _ _ xp (i.xr xp) vs ⟨oe, dx, (Heap.get?_update_other _ _ hTe).trans he, hc, hdx, hd, hz, hk⟩
  ·rw [if_pos (show (rawInt L == rawInt L) = true from by simp)]
   exact wpAny_pure (h s .refl ⟨L, hf, x⟩)
theorem KZ {A : Around} {G st} {s : Shared} {e : Addr} {k p : V} {Q : Unit -> Shared -> Prop} {E : Value -> Shared -> Prop} (hA : A.frames = some (fr.fenv :: fr.outer)) (i : Inv B fr G st s) (x : Fly B fr G s e k p)
  (h : ∀ s', XR B fr.Ls s s' -> Inv B fr G st s' -> Fl3 B G s' e k p (some .none) -> Q () s') : wpAny (model B.prog B.w) A (leaving fr.fenv (.ref e)) Q E s := by
 obtain ⟨m, x, hm⟩ := x
 unfold leaving
 refine wpAny_bind (Zl hA i x hm fun s₁ x₁ ⟨L, _, f₁⟩ => ?_)
 refine kJ (i.xr x₁) f₁ fun s2 x₂ f₂ => ?_
 exact h s2 (x₁.trans x₂) (i.xr (x₁.trans x₂)) f₂
end
noncomputable def flV : Fl -> V | .ret v => v | _ => .none
noncomputable def wm (lc : Fs) (m : M Fl) : M V := fun st => match m ⟨lc, st.hp⟩ with
 | .ok fl st' => .ok (flV fl) ⟨st.lc, st'.hp⟩
 | .exc k p st' => .exc k p ⟨st.lc, st'.hp⟩
 | .stuck => .stuck
inductive LB (G : Gst) : Fs -> List (Str × Value) -> Prop
 | nil : LB G [] []
 | cons {x v c lc bs} : VR G v c -> LB G lc bs -> LB G ((x, v) :: lc) ((x, c) :: bs)
theorem LB.mono {G G' : Gst} (m : ∀ a x, G a = some x -> G' a = some x) {lc bs} (r : LB G lc bs) : LB G' lc bs := by
 induction r with
 | nil => exact .nil
 | cons a _ ih => exact .cons (a.mono m) ih
theorem LB.names {G : Gst} {lc bs} (r : LB G lc bs) : bs.map (·.1) = lc.map (·.1) := by
 induction r with
 | nil => rfl
 | cons _ _ ih => rw [List.map_cons, List.map_cons, ih]
theorem LB.get {G : Gst} {x : Str} {v : V} {lc bs} (r : LB G lc bs) (h : lc.lookup x = some v) : ∃ c, bs.lookup x = some c /\ VR G v c := by
 induction r with
 | nil => cases h
 | @cons y w c lc bs a r ih =>
  rw [List.lookup_cons] at h ⊢
  by_cases q : x = y
  ·subst q; simp only [beq_self_eq_true] at h ⊢; cases h; exact ⟨c, rfl, a⟩
  ·have q' : (x == y) = false := by simpa using q
   rw [q'] at h ⊢; exact ih h
theorem vq {bs : List (Str × Value)} (h : (bs.map (·.1)).Nodup) (x : Str) : bs.reverse.lookup x = bs.lookup x := by
 induction bs with
 | nil => rfl
 | cons p r ih =>
  obtain ⟨y, c⟩ := p
  rw [List.map_cons, List.nodup_cons] at h
  rw [List.reverse_cons, List.lookup_append, ih h.2, List.lookup_cons]
  by_cases q : x = y
  ·subst q
   have : r.lookup x = none := by
    cases hr : r.lookup x with
    | none => rfl
    | some c' => exact absurd (List.mem_map_of_mem (f := (·.1)) (zH hr)) h.1
   rw [this]; simp
  ·have q' : (x == y) = false := by simpa using q
   rw [List.lookup_cons, List.lookup_nil, q']
   cases r.lookup x <;> rfl
structure qW where
 name : Str
 qual : Str
 params : Arguments
 body : List Stmt
 scope : Scope
inductive k6 (K : Frag) (a : Addr) (r : qW) (dV : Value) : Prop
 | mk (oc : Value) (od : Option Addr) (osl : Array (Option Value)) (kV doc pm : Value) (an : Option Addr) (cdv ct : Value) (h1 : K.lookup a = some ⟨oc, od, .func (fnOf r.name r.qual r.params r.body r.scope dV kV doc pm an cdv ct), osl⟩) (h2 : codeIn K cdv r.qual = true)
section
variable {B : Bs} {n : Nat} {fr : Frm} {ow : Addr -> Prop}
theorem Inv.back {G G' : Gst} {st : St} {hp' : Hp} {s s' : Shared} (i : Inv B fr G st s) (good : vf B G' hp' s'.heap) (base : B.h0.StaysIn s'.heap) (gens : s'.gens = #[]) (m : ∀ a x, G a = some x -> G' a = some x)
  (new : ∀ a, a < s.heap.objs.size -> G a = none -> G' a = none)
  (keep : ∀ a o, G a = none -> s.heap.get? a = some o -> (∀ vs, o.data ≠ .fields vs) -> ∃ sl, s'.heap.get? a = some { o with slots := sl }) : Inv B fr G' ⟨st.lc, hp'⟩ s' := by
 have ns : ∀ a m, G a = none -> s.heap.Ns a m -> s'.heap.Ns a m := fun a m g ⟨o, es, ep, ho, hd, r⟩ => by
  obtain ⟨sl, h⟩ := keep a o g ho fun vs q => by rw [hd] at q; cases q
  exact ⟨_, es, ep, h, hd, r⟩
 have cl : ∀ a v, G a = none -> s.heap.IsCell a v -> s'.heap.IsCell a v := fun a v g ⟨o, ho, hd⟩ => by
  obtain ⟨sl, h⟩ := keep a o g ho fun vs q => by rw [hd] at q; cases q
  exact ⟨_, h, hd⟩
 have ol : G fr.env.locals = none := (i.own _ (.inl rfl)).1
 have oc : ∀ p, p ∈ fr.env.cells -> G p.2 = none := fun p hp => (i.own _ (.inr (List.mem_map_of_mem hp))).1
 refine ⟨good, base, fun a h => ⟨new a (i.own_lt h) (i.own a h).1, (i.own a h).2⟩, i.ns.imp fun m h => ns _ m ol h, fun p hp => (i.celA p hp).imp fun v h => cl _ v (oc p hp) h,
  fun y v e => let ⟨c, q1, q2⟩ := i.nm y v e; ⟨c, q1.mono m, q2.of (fun m h => ns _ m ol h) fun ca v hm h => cl ca v (oc (y, ca) hm) h⟩, fun e he => ?_, gens⟩
 obtain ⟨h1, L, o, h2, h3, h4, h5, h6⟩ := i.frs e he
 obtain ⟨sl, h⟩ := keep L o h4 h5 h6
 exact ⟨h1, L, _, h2, h3, new L (Heap.lt_size h5) h4, h, h6⟩
theorem dp_ (a b k n c : Nat) (h : k <= b) : a + k + b * n + c <= a + b * (n + 1) + c := by
 rw [Nat.mul_succ, Nat.add_assoc a k, Nat.add_comm k]
 exact Nat.add_le_add_right (Nat.add_le_add_left (Nat.add_le_add_left h _) _) _
theorem dq_ (a b c : Nat) {k n : Nat} (h : k <= n) : a + b * k + c <= a + b * n + c := Nat.add_le_add_right (Nat.add_le_add_left (Nat.mul_le_mul_left b h) a) c
theorem AOk.deep {A : Around} {env : Env} (o : AOk (n + 1) A fr) : AOk n (A.deeper env) ⟨env, env, fr.fenv :: fr.outer⟩ :=
 ⟨by show A.frames.map _ = _; rw [o.frames]; rfl, Nat.lt_of_le_of_lt (dp_ A.depth 3 1 n 20 (Nat.le_of_ble_eq_true rfl)) o.depth, Nat.lt_of_le_of_lt (dp_ A.units 20 3 n 4000 (Nat.le_of_ble_eq_true rfl)) o.units, o.handled⟩
theorem AOk.le {A : Around} {k : Nat} (o : AOk n A fr) (h : k <= n) : AOk k A fr := ⟨o.frames, Nat.lt_of_le_of_lt (dq_ A.depth 3 20 h) o.depth, Nat.lt_of_le_of_lt (dq_ A.units 20 4000 h) o.units, o.handled⟩
theorem Qt {R : Result -> Shared -> Prop} {A' : Around} {env : Env} {G : Gst} {st : St} {s s₁ : Shared} {lc : Fs} {m : M Fl} {Q : Value -> Shared -> Prop} {E : Value -> Shared -> Prop} (hA : A'.frames = some (env :: fr.fenv :: fr.outer)) (i : Inv B fr G st s)
  (hk : ∀ b o, s.heap.get? b = some o -> s₁.heap.get? b = some o) (hz : s.heap.objs.size <= s₁.heap.objs.size) (hr : s₁.gens = s.gens /\ s₁.os = s.os) (hown : ∀ a, (⟨env, env, fr.fenv :: fr.outer⟩ : Frm).own a -> s.heap.objs.size <= a)
  (hQ : ∀ v s', Q v s' -> R (.ok (.ret v)) s') (hE : ∀ v s', E v s' -> R (.error v) s') (h : qX B fr ow G s VR Q E (wm lc m st)) :
  qX B ⟨env, env, fr.fenv :: fr.outer⟩ (⟨env, env, fr.fenv :: fr.outer⟩ : Frm).own G s₁ FR (fun f s' => R (.ok (.ret (match f with | .ret v => v | _ => .none))) s')
   (fun e s' => wpAny (model B.prog B.w) A' (leaving env e) (fun _ s'' => R (.error e) s'') (fun e' s'' => R (.error e') s'') s') (m ⟨lc, st.hp⟩) := by
 have nown : ∀ a o, s.heap.get? a = some o -> ¬ (⟨env, env, fr.fenv :: fr.outer⟩ : Frm).own a := fun a o e q => absurd (Heap.lt_size e) (Nat.not_lt.mpr (hown a q))
 unfold wm at h
 cases hm : m ⟨lc, st.hp⟩ with
 | ok fl st' =>
  rw [hm] at h
  intro s' G' f x i' r
  have x0 : Ext ow G s G' s' := ⟨x.g, fun a l e => x.new a (Nat.lt_of_lt_of_le l hz) e, fun a o _ e q => x.keep a o (nown a o q) e (hk a o q), Nat.le_trans hz x.size, x.rest.1.trans hr.1, x.rest.2.trans hr.2⟩
  have ib : Inv B fr G' ⟨st.lc, st'.hp⟩ s' := i.back i'.good i'.base i'.gens x.g (fun a l e => x.new a (Nat.lt_of_lt_of_le l hz) e) fun a o e q _ => ⟨o.slots, x.keep a o (nown a o q) e (hk a o q)⟩
  refine hQ _ _ (h s' G' _ x0 ib ?_)
  cases fl with
  | ret v => obtain ⟨c, rfl, rv⟩ := r; exact rv
  | nxt => cases r; rfl
  | brk => cases r; rfl
  | cont => cases r; rfl
 | exc k p st' =>
  rw [hm] at h
  intro s' G' e x i' fly
  refine KZ hA i' fly fun s'' xr i'' f3 => ?_
  have x0 : yn ow G s G' s'' := by
   refine ⟨x.g, fun a l e => x.new a (Nat.lt_of_lt_of_le l hz) e, fun a o _ e q d => ?_, Nat.le_trans hz (Nat.le_trans x.size xr.size), xr.rest.1.trans (x.rest.1.trans hr.1), xr.rest.2.trans (x.rest.2.trans hr.2)⟩
   obtain ⟨sl, h1⟩ := x.keep a o (nown a o q) e (hk a o q) d
   obtain ⟨sl', h2⟩ := xr.sl a _ h1 d
   exact ⟨sl', h2⟩
  have ib : Inv B fr G' ⟨st.lc, st'.hp⟩ s'' := i.back i''.good i''.base i''.gens x.g (fun a l e => x.new a (Nat.lt_of_lt_of_le l hz) e) fun a o e q d => by
   obtain ⟨sl, h1⟩ := x.keep a o (nown a o q) e (hk a o q) d
   obtain ⟨sl', h2⟩ := xr.sl a _ h1 d
   exact ⟨sl', h2⟩
  exact hE _ _ (h s'' G' e x0 ib ⟨_, f3, .inr (.inl rfl)⟩)
 | stuck => rw [hm] at h; exact h.elim
theorem code_call {a : Addr} {r : qW} {dV : Value} {m : M Fl} {A : Around} {G : Gst} {st : St} {s : Shared} {lc : Fs} {cs : List Value} {binds : List (Str × Value)} {R : Result -> Shared -> Prop} {Q : Value -> Shared -> Prop} {E : Value -> Shared -> Prop} (b : B.Ok) (hf : k6 B.K a r dV)
  (hcell : ∀ x ∈ r.scope.names, x.2 ≠ .cell) (hloc : ∀ x ∈ binds, r.scope.names.lookup x.1 = some .local) (hk : r.scope.kind = .function) (hco : r.scope.isCoroutine = false) (hgen : r.scope.isGenerator = false)
  (hd : A.depth < recursionLimit) (i : Inv B fr G st s)
  (hb : ∀ kV doc pm an cdv ct, BindsTo s (fnOf r.name r.qual r.params r.body r.scope dV kV doc pm an cdv ct) ⟨cs, []⟩ binds) (hl : LB G lc binds) (hn : (lc.map (·.1)).Nodup)
  (hm : ∀ L cdv fr', fr'.env = envOf r.qual r.scope L a cdv -> fr'.fenv = fr'.env -> Sim B n fr' fr'.own FR (execs r.body fr'.env) m) (ho : ∀ env, AOk n (A.deeper env) ⟨env, env, fr.fenv :: fr.outer⟩)
  (hQ : ∀ v s', Q v s' -> R (.ok (.ret v)) s') (hE : ∀ v s', E v s' -> R (.error v) s') (h : qX B fr ow G s VR Q E (wm lc m st)) : codeAny (model B.prog B.w) A (.call (.ref a) ⟨cs, []⟩) R s := by
 obtain ⟨oc, od, osl, kV, doc, pm, an, cdv, ct, hK, hcd⟩ := hf
 have kin := i.kin b
 refine codeAny_call_def (fd := fnOf r.name r.qual r.params r.body r.scope dV kV doc pm an cdv ct) (body := r.body) (binds := binds) hd (kin _ _ hK) rfl (b.nolim.keeps i.base) (codeRec_of kin hcd) rfl (hb _ _ _ _ _ _) hcell hloc (fun h₁ hns hk₁ => ?_) hco hgen hk
 have hsz : s.heap.objs.size < h₁.objs.size := hns.lt
 have env_eq : callEnv (fnOf r.name r.qual r.params r.body r.scope dV kV doc pm an cdv ct) s.heap.objs.size a = envOf r.qual r.scope s.heap.objs.size a cdv := rfl
 rw [env_eq]
 have z93 := i.nobody (Nat.le_refl _); have n1 := z93.1; have n2 := z93.2.1; have n3 := z93.2.2.1; have n4 := z93.2.2.2
 have s1eq : (⟨h₁, s.gens, s.drawn, s.toks + binds.length, s.os⟩ : Shared).heap = h₁ := rfl
 obtain ⟨xg, ig⟩ := i.grow (ow := ow) (s' := ⟨h₁, s.gens, s.drawn, s.toks + binds.length, s.os⟩) hk₁ (Nat.le_of_lt hsz) ⟨rfl, rfl⟩
 have i' : Inv B ⟨envOf r.qual r.scope s.heap.objs.size a cdv, envOf r.qual r.scope s.heap.objs.size a cdv, fr.fenv :: fr.outer⟩ G ⟨lc, st.hp⟩ ⟨h₁, s.gens, s.drawn, s.toks + binds.length, s.os⟩ := by
  refine ⟨ig.good, ig.base, fun a' q => ?_, ⟨_, hns⟩, (fun p hp => by cases hp), fun x v e => ?_, fun e he => ?_, ig.gens⟩
  ·rcases q with rfl | q
   ·exact ⟨n1, n2⟩
   ·cases q
  ·obtain ⟨c, h1, h2⟩ := hl.get e
   refine ⟨c, h2, ?_⟩
   have hkd : (envOf r.qual r.scope s.heap.objs.size a cdv).kindOf x = some .local := hloc _ (zH h1)
   unfold Rd
   rw [hkd]
   exact ⟨_, hns, (vq (by rw [hl.names]; exact hn) x).trans h1⟩
  ·rcases List.mem_cons.mp he with rfl | he
   ·obtain ⟨oL, es, ep, h1, h2, _⟩ := id hns
    exact ⟨(by show r.scope.kind ≠ _; rw [hk]; intro q; cases q), _, oL, rfl, n2, n1, h1, fun vs q => by rw [h2] at q; cases q⟩
   ·obtain ⟨w1, L, oL, w2, w3, w4, w5, w6⟩ := ig.frs e he
    exact ⟨w1, L, oL, w2, w3, w4, w5, w6⟩
 have oo := ho (envOf r.qual r.scope s.heap.objs.size a cdv)
 refine (hm _ cdv _ rfl rfl).run _ G ⟨lc, st.hp⟩ _ oo i' _ _ ?_
 refine Qt oo.frames i hk₁ (Nat.le_of_lt hsz) ⟨rfl, rfl⟩ (fun a' q => ?_) hQ hE h
 rcases q with rfl | q
 ·exact Nat.le_refl _
 ·cases q
end
theorem yH (x : Str) (hsh : Int) (key v : Value) (es : List DictEntry) : (putL x hsh key v es).length <= es.length + 1 := by
 induction es with
 | nil => simp [putL]
 | cons e r ih =>
  unfold putL
  split
  ·simp
  ·exact Nat.succ_le_succ ih
theorem DR.len {G : Gst} {fs : Fs} {ns : List Str} {es : List DictEntry} (r : DR G fs ns es) : es.length = ns.length := by
 induction r with
 | nil => rfl
 | cons _ _ _ ih => exact congrArg (· + 1) ih
theorem DR.noRef {G : Gst} {fs : Fs} {ns : List Str} {es : List DictEntry} (r : DR G fs ns es) : es.any (·.refKey) = false := by
 induction r with
 | nil => rfl
 | cons hk _ _ ih =>
  obtain ⟨t, hk⟩ := hk
  rw [List.any_cons, ih]
  simp [DictEntry.refKey, hk]
theorem DR.setOff {G : Gst} {fs : Fs} {n : Str} {v : V} {ns es} (d : DR G fs ns es) (h : n ∉ ns) : DR G (zT n v fs) ns es := by
 induction d with
 | nil => exact .nil
 | @cons m ns e es hk h1 _ ih =>
  rw [List.mem_cons, not_or] at h
  exact .cons hk (fun w hw => h1 w (by rw [zg, if_neg fun z => h.1 z.symm] at hw; exact hw)) (ih h.2)
theorem DR.set {G : Gst} {fs : Fs} {x : Str} {v : V} {c : Value} {hsh : Int} {t : Tok} (hv : VR G v c) {ns : List Str} {es : List DictEntry} (d : DR G fs ns es) (hn : ns.Nodup) (h : x ∈ ns) : DR G (zT x v fs) ns (putL x hsh (.str x t) c es) := by
 induction d with
 | nil => cases h
 | @cons n ns e es hk h1 h2 ih =>
  obtain ⟨u, hk⟩ := hk
  rw [List.nodup_cons] at hn
  unfold putL
  rw [hk, kh]
  by_cases q : n = x
  ·subst q
   rw [if_pos (by simp)]
   exact .cons ⟨u, rfl⟩ (fun w hw => by rw [zg, if_pos rfl] at hw; cases hw; exact hv) (h2.setOff hn.1)
  ·have q' : (n == x) = false := by simpa using q
   rw [if_neg (by rw [q']; exact Bool.false_ne_true)]
   exact .cons ⟨u, hk⟩ (fun w hw => h1 w (by rw [zg, if_neg q] at hw; exact hw)) (ih hn.2 ((List.mem_cons.mp h).resolve_left fun z => q z.symm))
theorem DR.setAny {G : Gst} {fs : Fs} {x : Str} {c : Value} {hsh : Int} {t : Tok} (hx : fs.lookup x = none) {ns : List Str} {es : List DictEntry} (r : DR G fs ns es) (h : x ∈ ns) : DR G fs ns (putL x hsh (.str x t) c es) := by
 induction r with
 | nil => cases h
 | @cons n ns e es hk h1 h2 ih =>
  obtain ⟨u, hk⟩ := hk
  unfold putL
  rw [hk, kh]
  by_cases q : n = x
  ·subst q
   rw [if_pos (by simp)]
   exact .cons ⟨u, rfl⟩ (fun w hw => (by rw [hx] at hw; cases hw)) h2
  ·have q' : (n == x) = false := by simpa using q
   rw [if_neg (by rw [q']; exact Bool.false_ne_true)]
   exact .cons ⟨u, hk⟩ h1 (ih ((List.mem_cons.mp h).resolve_left fun z => q z.symm))
theorem DR.add {G : Gst} {fs : Fs} {x : Str} {v : V} {c : Value} {hsh : Int} {t : Tok} (hv : VR G v c) {ns : List Str} {es : List DictEntry} (r : DR G fs ns es) (h : x ∉ ns) : DR G (zT x v fs) (ns ++ [x]) (putL x hsh (.str x t) c es) := by
 induction r with
 | nil => exact .cons ⟨t, rfl⟩ (fun w hw => (by rw [zg, if_pos rfl] at hw; cases hw; exact hv)) .nil
 | @cons n ns e es hk h1 h2 ih =>
  obtain ⟨u, hk⟩ := hk
  have q : n ≠ x := fun z => h (z ▸ .head _)
  have q' : (n == x) = false := by simpa using q
  unfold putL
  rw [hk, kh, if_neg (by rw [q']; exact Bool.false_ne_true)]
  exact .cons ⟨u, hk⟩ (fun w hw => h1 w (by rw [zg, if_neg q] at hw; exact hw)) (ih fun z => h (.tail _ z))
section
variable {B : Bs} {n : Nat} {fr : Frm} {ow : Addr -> Prop}
theorem vg {A : Around} {s : Shared} {a dx : Addr} {c : Cls} {k : Nat} {es : List DictEntry} {x : Str} {v : Value} {Q : Unit -> Shared -> Prop} {E : Value -> Shared -> Prop} (kf : KF B.K) (X : B.K.In s.heap) (hc : c ≠ .error) (hx : x ∈ zM c)
  (h1 : s.heap.get? a = some (instObj (cA c) dx)) (h2 : s.heap.get? dx = some (dictOf es k)) (hr : es.any (·.refKey) = false) (hz : es.length <= 900)
  (h : ∀ h' k' t, Heap.SameBut dx s.heap h' -> h'.get? dx = some (dictOf (putL x (PyData.keyHash B.w.params x) (.str x t) v es) k') -> Q () { s with heap := h', toks := s.toks + 1 + 1 }) :
  wpAny (model B.prog B.w) A (setAttr (.ref a) x v) Q E s := by
 have z98 := kf.sat c hc; have g1 := z98.1; have g2 := z98.2
 have hd := (kf.gat c hc).2.2
 refine set_plain (K := B.K) X (vW h1 h2) g1 ?_
 refine osa_open (K := B.K) (s := { s with toks := s.toks + 1 }) X (vW h1 h2) g2 (kf.tak c x hc hx) fun b => ?_
 obtain ⟨cd, hcd, hdd⟩ := any_some hd
 refine wpAny_bind (wpAny_pure (wpAny_bind (wpAny_bind (wpAny_loadPart h1 (wpAny_bind (Looks.here (s := { s with toks := s.toks + 1 }) (looks_clsIn X hcd) ?_))))))
 rw [hdd]
 refine wpAny_pure (a := some dx) (wpAny_bind (wpAny_pure (wpAny_bind ?_)))
 unfold nsSet
 refine wpAny_bind (wpAny_bind (wpAny_askSetting (wpAny_pure (wpAny_bind (wpAny_mkText (wpAny_bind (wpAny_loadPart h2 ?_)))))))
 have cnd : (!es.toArray.any (·.key.isStr x) && es.toArray.any (·.refKey)) = false := by
  have : es.toArray.any (·.refKey) = false := by simpa using hr
  rw [this, Bool.and_false]
 dsimp only
 rw [aRefKeyMayBeTheName_at, cnd]
 refine wpAny_updatePart h2 ?_
 have hnew := Heap.get?_update_self (Obj.putName x (PyData.keyHash B.w.params x) (.str x (s.toks + 1)) v) h2 (by rw [putName_dict]; rfl)
 rw [putName_dict] at hnew
 have hlen := yH x (PyData.keyHash B.w.params x) (.str x (s.toks + 1)) v es
 refine wpAny_bind (wpAny_lookBehind hnew (pastItsLine_dict (by rw [List.size_toArray, sizeLine_eq]; exact le2 hlen hz)) ?_)
 exact wpAny_pure (h _ _ _ (Heap.SameBut.update ..) hnew)
theorem Inv.turn0 {G : Gst} {st : St} {s s' : Shared} {a : Addr} {y : Gh} (i : Inv B fr G st s) (hs : Heap.SameBut a s.heap s'.heap) (hr : s'.gens = s.gens /\ s'.os = s.os) (hg : G a = some y) (hy : y.mine = true) (hor : OR B st.hp G s'.heap a y) :
  Ext ow G s G s' /\ Inv B fr G st s' := by
 have k : ∀ b, b ≠ a -> s'.heap.get? b = s.heap.get? b := hs.2
 have kn : ∀ b, G b = none -> b ≠ a := fun b e q => by rw [q, hg] at e; cases e
 have ol : G fr.env.locals = none := (i.own _ (.inl rfl)).1
 have oc : ∀ p, p ∈ fr.env.cells -> G p.2 = none := fun p hp => (i.own _ (.inr (List.mem_map_of_mem hp))).1
 refine ⟨⟨fun _ _ e => e, fun _ _ e => e, fun b o _ e q => (k b (kn b e)).trans q, Nat.le_of_eq hs.1.symm, hr⟩, ⟨fun b z e => ?_, i.good.fresh, i.good.injl, i.good.injd⟩, fun b o q => ?_, i.own, i.ns.imp fun m h => h.sameBut hs (kn _ ol),
  fun p hp => (i.celA p hp).imp fun v h => h.sameBut hs (kn _ (oc p hp)), fun x v e => let ⟨c, h1, h2⟩ := i.nm x v e; ⟨c, h1, h2.of (fun m h => h.sameBut hs (kn _ ol)) fun ca v hm h => h.sameBut hs (kn _ (oc (x, ca) hm))⟩, fun e he => ?_, hr.1.trans i.gens⟩
 ·by_cases q : b = a
  ·subst q; rw [hg] at e; cases e; exact hor
  ·exact (i.good.or b z e).same (k b q)
 ·exact (k b fun z => by rw [z] at q; have := i.good.fresh a y hg hy; rw [q] at this; cases this).trans (i.base b o q)
 ·obtain ⟨h1, L, o, h2, h3, h4, h5, h6⟩ := i.frs e he
  exact ⟨h1, L, o, h2, h3, h4, (k L (kn L h4)).trans h5, h6⟩
theorem xw (c : Cls) : (zM c).Nodup := by cases c <;> decide +kernel
noncomputable def vR (x : Str) (ov v : V) : M Unit := fun s => match ov with
 | .ref j => match s.hp[j]? with
  | some (.obj c fs) => if c ≠ .error /\ (fs.lookup x).isSome = true then .ok () ⟨s.lc, s.hp.set j (.obj c (zT x v fs))⟩ else .stuck
  | _ => .stuck
 | .obj c fs => if c = .vector /\ x = Str.ofString "shared" /\ fs.lookup x = none then .ok () s else .stuck
 | _ => .stuck
noncomputable def wL (x : Str) (o e : M V) : M Fl := e >>= fun v => o >>= fun ov => vR x ov v >>= fun _ => pure .nxt
theorem xb {x y : Str} {v : V} {fs : Fs} (h : ((zT x v fs).lookup y).isSome = true) : y = x \/ (fs.lookup y).isSome = true := by
 rw [zg] at h
 by_cases q : y = x
 ·exact .inl q
 ·rw [if_neg q] at h; exact .inr h
set_option tactic.hygienic true in
theorem JL {A : Around} {G : Gst} {st : St} {s : Shared} {x : Str} {ov v : V} {co cv : Value} {Q : Unit -> Shared -> Prop} {E : Value -> Shared -> Prop} (b : B.Ok) (i : Inv B fr G st s) (ho : VR G ov co) (hv : VR G v cv)
  (h : qX B fr ow G s UR Q E (vR x ov v st)) : wpAny (model B.prog B.w) A (setAttr co x cv) Q E s := by
 unfold vR at h
 cases ov with
 | ref j =>
  dsimp only at h
  split at h
  ·rename_i c fs hj
   split at h
   ·rename_i hc
    obtain ⟨a, dx, k, es, rfl, h1, h2, h3, hm, hjj⟩ := yu i ho (.inr ⟨j, rfl, hj⟩)
    have z101 := hjj j rfl; have gj := z101.1; have gd := z101.2
    have hx := hm x hc.2
    have hlen := h3.len
    refine vg b.kf (i.kin b) hc.1 hx h1 h2 h3.noRef (by rw [hlen]; cases c <;> decide) fun h' k' t hs hn => ?_
    have hl : j < st.hp.length := (List.getElem?_eq_some_iff.mp hj).1
    obtain ⟨x1, i1⟩ := i.turn (s' := { s with heap := h', toks := s.toks + 1 + 1 }) (c := .obj c (zT x v fs)) hs ⟨rfl, rfl⟩ (.inr ⟨gd, c, fs, _, hj, rfl⟩) fun g e => by
     rw [gd] at e; cases e
     simp only [OR, List.getElem?_set_self hl]
     refine ⟨k', _, hn, h3.set hv (xw c) hx, fun y hy => ?_⟩
     rcases xb hy with rfl | hy
     ·exact hx
     ·exact hm y hy
    exact h _ _ _ x1 i1 trivial
   ·exact h.elim
  ·exact h.elim
 | obj c fs =>
  dsimp only at h
  split at h
  ·rename_i hc
   obtain ⟨rfl, rfl, hn0⟩ := hc
   obtain ⟨a, rfl, ga⟩ := ho
   obtain ⟨dx, h1, gd⟩ := i.good.or a _ ga
   obtain ⟨k, es, h2, h3, hm⟩ := i.good.or dx _ gd
   have hlen := h3.len
   refine vg (c := .vector) b.kf (i.kin b) (by decide) (by decide +kernel) h1 h2 h3.noRef (by rw [hlen]; decide) fun h' k' t hs hn => ?_
   obtain ⟨x1, i1⟩ := i.turn0 (s' := { s with heap := h', toks := s.toks + 1 + 1 }) hs ⟨rfl, rfl⟩ gd rfl ⟨k', _, hn, h3.setAny hn0 (by decide +kernel), hm⟩
   exact h _ _ _ x1 i1 trivial
  ·exact h.elim
 | _ => exact h.elim
theorem wH {ov e : M V} {x : Str} {o y : PySem.Expr} {p pos : Pos} (b : B.Ok) (h1 : Sim B n fr ow VR (eval y fr.env) e) (h2 : Sim B n fr ow VR (eval o fr.env) ov)
  (hs : swapsWith y (some (.Attribute o x p)) pos.line fr.env = pure false := by rfl) : Sim B n fr ow FR (exec (.Assign [.Attribute o x p] y pos) fr.env) (wL x ov e) := by
 refine ⟨?_⟩
 intro A G st s ok i Q E h
 refine plainObj_wpAny_Assign_Attribute (h1.run A G st s ok i _ _ (h.bind ?_)) hs
 intro v st' s' G' c x' i' r h'
 refine h2.run A G' st' s' ok i' _ _ (h'.bind ?_)
 intro v₂ st2 s2 G2 c₂ x₂ i₂ r₂ h₂
 refine JL b i₂ r₂ (r.mono x₂.g) (h₂.bind ?_)
 intro _ st3 s3 G3 _ x₃ i3 _ h₃
 exact h₃.ok i3 rfl
end
noncomputable def jN : List (Str × M V) -> Fs -> M Fs
 | [], fs => pure fs
 | (x, m) :: r, fs => m >>= fun v => jN r (zT x v fs)
noncomputable def v8 (_ : Addr) : Prop := False
inductive yE (B : Bs) (n : Nat) (fr : Frm) (self : Str) : List Stmt -> List (Str × M V) -> Prop
 | nil : yE B n fr self [] []
 | cons {x : Str} {m : M V} {e : PySem.Expr} {p1 p2 pos : Pos} {rest : List Stmt} {r : List (Str × M V)} : Sim B n fr v8 VR (eval e fr.env) m -> swapsWith e (some (.Attribute (.Name self p1) x p2)) pos.line fr.env = pure false -> yE B n fr self rest r ->
   yE B n fr self (.Assign [.Attribute (.Name self p1) x p2] e pos :: rest) ((x, m) :: r)
section
variable {B : Bs} {n : Nat} {fr : Frm} {ow : Addr -> Prop}
theorem Inv.off {G : Gst} {st : St} {s s' : Shared} {d : Addr} (i : Inv B fr G st s) (hs : Heap.SameBut d s.heap s'.heap) (hr : s'.gens = s.gens /\ s'.os = s.os) (hg : G d = none) (h0 : B.h0.get? d = none) (ho : ¬ fr.own d) (hf : ∀ e ∈ fr.fenv :: fr.outer, e.frame ≠ some d) :
  Inv B fr G st s' := by
 have kn : ∀ b, b ≠ d -> s'.heap.get? b = s.heap.get? b := hs.2
 have hown : ∀ b, fr.own b -> b ≠ d := fun b hb z => ho (z ▸ hb)
 refine ⟨i.good.apart fun b y e => kn b fun z => (by rw [z, hg] at e; cases e), fun b o q => (kn b fun z => by rw [z, h0] at q; cases q).trans (i.base b o q), i.own, i.ns.imp fun m hm => hm.sameBut hs (hown _ (.inl rfl)), fun p hp => (i.celA p hp).imp fun v hv => hv.sameBut hs (hown _ (.inr (List.mem_map_of_mem hp))),
  fun x v e => let ⟨c, q1, q2⟩ := i.nm x v e; ⟨c, q1, q2.of (fun m hm => hm.sameBut hs (hown _ (.inl rfl))) fun ca v hm hv => hv.sameBut hs (hown _ (.inr (List.mem_map_of_mem hm)))⟩, fun e he => ?_, hr.1.trans i.gens⟩
 obtain ⟨w1, L, oL, w2, w3, w4, w5, w6⟩ := i.frs e he
 exact ⟨w1, L, oL, w2, w3, w4, (kn L fun z => hf e he (z ▸ w2)).trans w5, w6⟩
noncomputable def DExt (d : Addr) (a : Addr) : Prop := a = d
theorem init_run {self : Str} {c : Cls} {a dx : Addr} (b : B.Ok) (hc : c ≠ .error) (hk : fr.env.scope.kind = .function) (hself : fr.env.kindOf self = some .local) (hd : (self == ("__debug__" : Str)) = false) : ∀ {stmts : List Stmt} {r : List (Str × M V)}, yE B n fr self stmts r ->
  ∀ (A : Around) (G : Gst) (st : St) (s : Shared) (ns : List Str) (fs : Fs) (es : List DictEntry) (k : Nat), AOk n A fr -> Inv B fr G st s -> (∃ m, s.heap.Ns fr.env.locals m /\ m self = some (.ref a)) -> s.heap.get? a = some (instObj (cA c) dx) -> s.heap.get? dx = some (dictOf es k) ->
   G a = none -> G dx = none -> B.h0.get? dx = none -> ¬ fr.own dx -> (∀ e ∈ fr.fenv :: fr.outer, e.frame ≠ some dx) -> DR G fs ns es -> (∀ x, (fs.lookup x).isSome = true -> x ∈ ns) -> (ns ++ r.map (·.1)) = zM c -> ∀ (Q : Flow -> Shared -> Prop) (E : Value -> Shared -> Prop),
   (match jN r fs st with
    | .ok fs' st' => ∀ s' G' es' k', Ext (DExt dx) G s G' s' -> Inv B fr G' st' s' -> s'.heap.get? a = some (instObj (cA c) dx) -> s'.heap.get? dx = some (dictOf es' k') -> DR G' fs' (zM c) es' -> (∀ x, (fs'.lookup x).isSome = true -> x ∈ zM c) -> Q .next s'
    | _ => False) -> wpAny (model B.prog B.w) A (execs stmts fr.env) Q E s := by
 intro stmts r hI
 induction hI with
 | nil =>
  intro A G st s ns fs es k o i hm h1 h2 g1 g2 g3 g4 g5 hD hsub hn Q E h
  rw [List.map_nil, List.append_nil] at hn
  subst hn
  exact wpAny_execs_nil (h s G es k .refl i h1 h2 hD hsub)
 | @cons x m e p1 p2 pos rest r hs hsw _ ih =>
  intro A G st s ns fs es k o i hm h1 h2 g1 g2 g3 g4 g5 hD hsub hn Q E h
  refine wpAny_execs_cons (plainObj_wpAny_Assign_Attribute (hs.run A G st s o i _ _ ?_) hsw)
  have hm' : jN ((x, m) :: r) fs st = (m >>= fun v => jN r (zT x v fs)) st := rfl
  rw [hm', M.bind_eq] at h
  cases hmv : m st with
  | stuck => rw [hmv] at h; exact h.elim
  | exc _ _ _ => rw [hmv] at h; exact h.elim
  | ok v st1 =>
   rw [hmv] at h
   dsimp only at h
   intro s₁ G1 cv x₁ i₁ rv
   have k₁ : ∀ b o, G b = none -> s.heap.get? b = some o -> s₁.heap.get? b = some o := fun b o g e => x₁.keep b o (fun z => z) g e
   obtain ⟨m₀, hns, hms⟩ := hm
   have hL : G fr.env.locals = none := (i.own _ (.inl rfl)).1
   have hns1 : s₁.heap.Ns fr.env.locals m₀ := by
    obtain ⟨oL, es', ep, q1, q2⟩ := hns
    exact ⟨oL, es', ep, k₁ _ _ hL q1, q2⟩
   refine wpAny_Name (wpAny_loadName_local hk hself hns1 hms ?_) hd
   have h11 := k₁ _ _ g1 h1
   have h21 := k₁ _ _ g2 h2
   have g11 : G1 a = none := x₁.new a (Heap.lt_size h1) g1
   have g21 : G1 dx = none := x₁.new dx (Heap.lt_size h2) g2
   have hxn : x ∈ zM c := hn ▸ List.mem_append_right _ (.head _)
   have hlen := hD.len
   have hcn : (zM c).length <= 10 := by cases c <;> decide
   have hnl : ns.length <= 10 := by
    have := congrArg List.length hn
    simp only [List.length_append, List.length_map, List.length_cons] at this
    exact le2 (eL this) hcn
   refine vg (s := s₁) b.kf (i₁.kin b) hc hxn h11 h21 hD.noRef (by exact le2 (eL hlen) hnl) fun h' k' t hsb hnew => ?_
   have hndup : (zM c).Nodup := xw c
   rw [<- hn] at hndup
   have hx : x ∉ ns := by
    have := (List.nodup_append.mp hndup).2.2
    intro z
    exact this x z x (.head _) rfl
   have hne : a ≠ dx := fun z => by rw [z, h2] at h1; cases h1
   have i₂ := i₁.off (s' := { s₁ with heap := h', toks := s₁.toks + 1 + 1 }) hsb ⟨rfl, rfl⟩ g21 g3 g4 g5
   refine ih A G1 st1 { s₁ with heap := h', toks := s₁.toks + 1 + 1 } (ns ++ [x]) (zT x v fs) _ k' o i₂ ⟨m₀, hns1.sameBut hsb fun z => g4 (z ▸ .inl rfl), hms⟩ ((hsb.2 a hne).trans h11) hnew g11 g21 g3 g4 g5 ((hD.mono x₁.g).add rv hx)
    (fun y hy => ?_) (by rw [List.append_assoc]; exact hn) _ _ ?_
   ·rcases xb hy with rfl | hy
    ·exact List.mem_append_right _ (.head _)
    ·exact List.mem_append_left _ (hsub y hy)
   ·cases hmk : jN r (zT x v fs) st1 with
    | stuck => rw [hmk] at h; exact h.elim
    | exc _ _ _ => rw [hmk] at h; exact h.elim
    | ok fs' st' =>
     rw [hmk] at h
     intro s' G' es' k'' x' i' w1 w2 w3 w4
     refine h s' G' es' k'' ?_ i' w1 w2 w3 w4
     have y₁ : Ext (DExt dx) G s G1 s₁ := ⟨x₁.g, x₁.new, fun b o _ g e => k₁ b o g e, x₁.size, x₁.rest⟩
     have y₂ : Ext (DExt dx) G1 s₁ G1 { s₁ with heap := h', toks := s₁.toks + 1 + 1 } := ⟨fun _ _ e => e, fun _ _ e => e, fun b o nb _ e => (hsb.2 b nb).trans e, Nat.le_of_eq hsb.1.symm, rfl, rfl⟩
     exact (y₁.trans y₂).trans x'
theorem Zm {A : Around} {C : Addr} {cs : List Value} : (A.under (.builtin "type.__call__" ⟨.ref C :: cs, []⟩)).frames = A.frames := rfl
theorem wG {A : Around} {C : Addr} {cs : List Value} : (A.under (.builtin "type.__call__" ⟨.ref C :: cs, []⟩)).depth = A.depth + 1 := rfl
theorem JM {A : Around} {C : Addr} {cs : List Value} : (A.under (.builtin "type.__call__" ⟨.ref C :: cs, []⟩)).units <= A.units + 3 := Nat.add_le_add_left (by decide : (Code.builtin "type.__call__" ⟨[], []⟩).cUnits <= 3) _
theorem under_handled {A : Around} {C : Addr} {cs : List Value} : (A.under (.builtin "type.__call__" ⟨.ref C :: cs, []⟩)).handled = A.handled := rfl
theorem K3 {c : Cls} {fI : Addr} {rc : qW} {dV : Value} {A : Around} {G : Gst} {st : St} {s : Shared} {self : Str} {lc : Fs} {cs : List Value} {binds : List (Str × Value)} {r : List (Str × M V)} {R : Result -> Shared -> Prop} (b : B.Ok) (hc : c ≠ .error)
  (hi : findIn B.K (.ref (cA c)) "__init__" = some (some (.ref fI))) (hfn : typeIn B.K (.ref fI) = some (.type "function")) (hf : k6 B.K fI rc dV)
  (hcell : ∀ x ∈ rc.scope.names, x.2 ≠ .cell) (hself : rc.scope.names.lookup self = some .local) (hloc : ∀ x ∈ binds, rc.scope.names.lookup x.1 = some .local) (hk : rc.scope.kind = .function) (hco : rc.scope.isCoroutine = false) (hgen : rc.scope.isGenerator = false)
  (hsd : (self == ("__debug__" : Str)) = false) (o : AOk (n + 1) A fr) (i : Inv B fr G st s)
  (hb : ∀ s' a kV doc pm an cdv ct, (∀ b o, s.heap.get? b = some o -> s'.heap.get? b = some o) -> BindsTo s' (fnOf rc.name rc.qual rc.params rc.body rc.scope dV kV doc pm an cdv ct) ⟨.ref a :: cs, []⟩ ((self, .ref a) :: binds)) (hl : LB G lc binds) (hn : (self :: lc.map (·.1)).Nodup)
  (hm : ∀ L cdv fr', fr'.env = envOf rc.qual rc.scope L fI cdv -> fr'.fenv = fr'.env -> yE B n fr' self rc.body r) (hr : r.map (·.1) = zM c)
  (hfin : ∀ s' G' fs st' a dx es k, jN r [] ⟨lc, st.hp⟩ = .ok fs st' -> Ext ow G s G' s' -> Inv B fr G' ⟨st.lc, st'.hp⟩ s' -> s.heap.objs.size <= a -> s.heap.objs.size <= dx -> a ≠ dx -> G' a = none -> G' dx = none ->
   s'.heap.get? a = some (instObj (cA c) dx) -> s'.heap.get? dx = some (dictOf es k) -> DR G' fs (zM c) es -> (∀ x, (fs.lookup x).isSome = true -> x ∈ zM c) -> R (.ok (.ret (.ref a))) s')
  (hok : ∃ fs st', jN r [] ⟨lc, st.hp⟩ = .ok fs st') : codeAny (model B.prog B.w) A (.call (.ref (cA c)) ⟨cs, []⟩) R s := by
 obtain ⟨hh, g, d, tk, os⟩ := s
 have kin := i.kin b
 refine make_core (makes_of kin (b.kf.mak c hc)) (looks_findIn kin hi) (fun self => bind_fn kin self hfn) (.inl rfl) ?_
 obtain ⟨oc, od, osl, kV, doc, pm, an, cdv, ct, hK, hcd⟩ := hf
 have hk2 : ∀ b o, hh.get? b = some o -> ((hh.push emptyDict).push (instObj (cA c) hh.objs.size)).get? b = some o := fun b o e => Heap.get?_push_of_some _ (Heap.get?_push_of_some _ e)
 have hsz2 : ((hh.push emptyDict).push (instObj (cA c) hh.objs.size)).objs.size = hh.objs.size + 2 := by rw [Heap.size_push, Heap.size_push]
 obtain ⟨xg, ig⟩ := i.grow (ow := ow) (s' := ⟨(hh.push emptyDict).push (instObj (cA c) hh.objs.size), g, d, tk, os⟩) hk2 (by show hh.objs.size <= _; rw [hsz2]; exact le0) ⟨rfl, rfl⟩
 have kin2 := ig.kin b
 refine codeAny_call_def (s := ⟨(hh.push emptyDict).push (instObj (cA c) hh.objs.size), g, d, tk, os⟩) (fd := fnOf rc.name rc.qual rc.params rc.body rc.scope dV kV doc pm an cdv ct) (body := rc.body) (binds := (self, .ref (hh.objs.size + 1)) :: binds) (by rw [wG]; have := o.depth; exact lt1 (sL this)) (kin2 _ _ hK) rfl (b.nolim.keeps ig.base) (codeRec_of kin2 hcd) rfl (hb _ _ _ _ _ _ _ _ hk2) hcell
  (fun x hx => by rcases List.mem_cons.mp hx with rfl | hx; exact hself; exact hloc x hx) (fun h₁ hns hk₁ => ?_) hco hgen hk
 show wpAny _ ((A.under (.builtin "type.__call__" ⟨.ref (cA c) :: cs, []⟩)).deeper (envOf rc.qual rc.scope ((hh.push emptyDict).push (instObj (cA c) hh.objs.size)).objs.size fI cdv)) (execs rc.body (envOf rc.qual rc.scope ((hh.push emptyDict).push (instObj (cA c) hh.objs.size)).objs.size fI cdv)) _ _ _
 have hL : hh.objs.size + 2 < h₁.objs.size := by have := hns.lt; rw [hsz2] at this; exact this
 obtain ⟨xg1, ig1⟩ := ig.grow (ow := ow) (s' := ⟨h₁, g, d, tk + ((self, Value.ref (hh.objs.size + 1)) :: binds).length, os⟩) hk₁ (by show (_ : Nat) <= h₁.objs.size; rw [hsz2]; exact le1 (sL hL)) ⟨rfl, rfl⟩
 rw [hsz2] at hns
 rw [hsz2]
 obtain ⟨nL1, nL2, nL3, nL4⟩ := i.nobody (a := hh.objs.size + 2) (Nat.le_add_right _ _)
 obtain ⟨nd1, nd2, nd3, nd4⟩ := i.nobody (a := hh.objs.size) (Nat.le_refl _)
 obtain ⟨na1, na2, na3, na4⟩ := i.nobody (a := hh.objs.size + 1) (Nat.le_add_right _ _)
 have hnodup : (((self, Value.ref (hh.objs.size + 1)) :: binds).map (·.1)).Nodup := by rw [List.map_cons, hl.names]; exact hn
 have i' : Inv B ⟨envOf rc.qual rc.scope (hh.objs.size + 2) fI cdv, envOf rc.qual rc.scope (hh.objs.size + 2) fI cdv, fr.fenv :: fr.outer⟩ G ⟨lc, st.hp⟩ ⟨h₁, g, d, tk + ((self, Value.ref (hh.objs.size + 1)) :: binds).length, os⟩ := by
  refine ⟨ig1.good, ig1.base, fun a' q => ?_, ⟨_, hns⟩, (fun p hp => by cases hp), fun x v e => ?_, fun e he => ?_, ig1.gens⟩
  ·rcases q with rfl | q
   ·exact ⟨nL1, nL2⟩
   ·cases q
  ·obtain ⟨c', h1, h2⟩ := hl.get e
   refine ⟨c', h2, ?_⟩
   have hkd : (envOf rc.qual rc.scope (hh.objs.size + 2) fI cdv).kindOf x = some .local := hloc _ (zH h1)
   unfold Rd
   rw [hkd]
   have hxs : x ≠ self := fun z => by
    subst z
    have hm1 : x ∈ lc.map (·.1) := List.mem_map_of_mem (f := (·.1)) (zH e)
    exact (List.nodup_cons.mp hn).1 hm1
   refine ⟨_, hns, (vq hnodup x).trans ?_⟩
   rw [List.lookup_cons, show (x == self) = false from by simpa using hxs]
   exact h1
  ·rcases List.mem_cons.mp he with rfl | he
   ·obtain ⟨oL, es, ep, h1, h2, _⟩ := id hns
    exact ⟨(by show rc.scope.kind ≠ _; rw [hk]; intro q; cases q), _, oL, rfl, nL2, nL1, h1, fun vs q => by rw [h2] at q; cases q⟩
   ·obtain ⟨w1, L, oL, w2, w3, w4, w5, w6⟩ := ig1.frs e he
    exact ⟨w1, L, oL, w2, w3, w4, w5, w6⟩
 have oo : AOk n ((A.under (.builtin "type.__call__" ⟨.ref (cA c) :: cs, []⟩)).deeper (envOf rc.qual rc.scope (hh.objs.size + 2) fI cdv)) ⟨envOf rc.qual rc.scope (hh.objs.size + 2) fI cdv, envOf rc.qual rc.scope (hh.objs.size + 2) fI cdv, fr.fenv :: fr.outer⟩ := by
  refine ⟨?_, ?_, ?_, ?_⟩
  ·show (A.under _).frames.map _ = _; rw [Zm, o.frames]; rfl
  ·have := o.depth; show (A.under _).depth + 1 + 3 * n + 20 < _; rw [wG]; exact lt1 (sL this)
  ·have := o.units; have h3 := @JM A (cA c) cs; show (A.under _).units + 3 + 20 * n + 4000 < _; exact lt2 (sL this) h3
  ·exact o.handled
 obtain ⟨fs, st', hmk⟩ := hok
 refine init_run (self := self) (c := c) (a := hh.objs.size + 1) (dx := hh.objs.size) b hc (fr := ⟨envOf rc.qual rc.scope (hh.objs.size + 2) fI cdv, envOf rc.qual rc.scope (hh.objs.size + 2) fI cdv, fr.fenv :: fr.outer⟩) hk hself hsd
  (hm (hh.objs.size + 2) cdv _ rfl rfl) _ G ⟨lc, st.hp⟩ _ [] [] [] 0 oo i' ⟨_, hns, (vq hnodup self).trans (by rw [List.lookup_cons]; simp)⟩ (hk₁ _ _ (by heap_get)) (hk₁ _ _ (by heap_get)) na1 nd1 nd2 (fun q => ?_) (fun e he q => ?_) .nil (fun x hx => by cases hx) (by rw [List.nil_append]; exact hr) _ _ ?_
 ·rcases q with q | q
  ·exact absurd (show hh.objs.size = hh.objs.size + 2 from q) (by exact Nat.ne_of_lt (lt0))
  ·cases q
 ·rcases List.mem_cons.mp he with rfl | he
  ·exact absurd (Option.some.inj (show some (hh.objs.size + 2) = some hh.objs.size from q)) (by exact Nat.ne_of_gt (lt0))
  ·exact nd4 e he q
 ·rw [hmk]
  intro s' G' es' k' x' i₂ w1 w2 w3 w4
  have kp : ∀ a o, G a = none -> hh.get? a = some o -> s'.heap.get? a = some o := fun a o e q => x'.keep a o (fun z => absurd (Heap.lt_size q) (by rw [show a = hh.objs.size from z]; exact Nat.lt_irrefl _)) e (hk₁ _ _ (hk2 _ _ q))
  have hsz' : hh.objs.size <= s'.heap.objs.size := Nat.le_trans (by exact le1 (sL hL)) (show h₁.objs.size <= s'.heap.objs.size from x'.size)
  have x0 : Ext ow G ⟨hh, g, d, tk, os⟩ G' s' := ⟨x'.g, fun a l e => x'.new a (show a < h₁.objs.size by have : a < hh.objs.size := l; exact lt2 (sL l) (sL hL)) e, fun a o _ e q => kp a o e q, hsz', x'.rest⟩
  have ib : Inv B fr G' ⟨st.lc, st'.hp⟩ s' := i.back i₂.good i₂.base i₂.gens x'.g (fun a l e => x'.new a (show a < h₁.objs.size by have : a < hh.objs.size := l; exact lt2 (sL l) (sL hL)) e) fun a o e q _ => ⟨o.slots, kp a o e q⟩
  refine ⟨rfl, hfin s' G' fs st' _ _ es' k' hmk x0 ib (Nat.le_add_right _ _) (Nat.le_refl _) (Nat.succ_ne_self _) (x'.new _ (show hh.objs.size + 1 < h₁.objs.size by exact lt1 (sL hL)) na1) (x'.new _ (show hh.objs.size < h₁.objs.size by exact lt1 (sL hL)) nd1) w1 w2 w3 w4⟩
end
noncomputable def ZU (lc : Fs) (r : List (Str × M V)) (fin : Fs -> M V) : M V := fun st => match jN r [] ⟨lc, st.hp⟩ with
 | .ok fs st' => fin fs ⟨st.lc, st'.hp⟩
 | _ => .stuck
noncomputable def vis (c : Cls) (fs : Fs) : Fs := match c with | .vector => fs.take 3 | _ => fs
noncomputable def kH (c : Cls) (fs : Fs) : M V := pure (.obj c (vis c fs))
noncomputable def yh (c : Cls) (fs : Fs) : M V := pNew (.obj c fs)
theorem Jm {x : Str} {v : V} (k : Nat) (fs : Fs) : (fs.take k).lookup x = some v -> fs.lookup x = some v := by
 induction fs generalizing k with
 | nil => rw [List.take_nil]; exact id
 | cons p r ih => cases k with
  | zero => intro h; cases h
  | succ k =>
   rw [List.take_succ_cons, List.lookup_cons, List.lookup_cons]
   cases x == p.1 with
   | true => exact id
   | false => exact ih k
theorem QE {c : Cls} {fs : Fs} {x : Str} {v : V} (h : (vis c fs).lookup x = some v) : fs.lookup x = some v := by
 cases c <;> first | exact h | exact Jm _ _ h
theorem DR.weak {G : Gst} {fs fs' : Fs} (h : ∀ x v, fs'.lookup x = some v -> fs.lookup x = some v) {ns : List Str} {es : List DictEntry} (r : DR G fs ns es) : DR G fs' ns es := by
 induction r with
 | nil => exact .nil
 | cons a b _ ih => exact .cons a (fun v e => b v (h _ _ e)) ih
section
variable {B : Bs} {n : Nat} {fr : Frm} {ow : Addr -> Prop}
theorem after_fz {c : Cls} {G G' : Gst} {st st' : St} {s s' : Shared} {fs : Fs} {a dx : Addr} {es : List DictEntry} {k : Nat} {Q : Value -> Shared -> Prop} {E : Value -> Shared -> Prop} (i : Inv B fr G st s) (x : Ext ow G s G' s') (i' : Inv B fr G' ⟨st.lc, st'.hp⟩ s')
  (ha : s.heap.objs.size <= a) (hd : s.heap.objs.size <= dx) (hne : a ≠ dx) (ga : G' a = none) (gd : G' dx = none) (h1 : s'.heap.get? a = some (instObj (cA c) dx)) (h2 : s'.heap.get? dx = some (dictOf es k)) (hD : DR G' fs (zM c) es)
  (hsub : ∀ x, (fs.lookup x).isSome = true -> x ∈ zM c) (h : qX B fr ow G s VR Q E (kH c fs ⟨st.lc, st'.hp⟩)) : Q (.ref a) s' := by
 have z113 := i.nobody hd; have d1 := z113.1; have d2 := z113.2.1; have d3 := z113.2.2.1; have d4 := z113.2.2.2
 obtain ⟨a1, a2, a3, a4⟩ := i.nobody ha
 have i₁ := i'.put (hp' := st'.hp) (y := .fd c (vis c fs)) gd d2 d3 d4 (fun _ _ q => q) ⟨k, es, h2, (hD.weak fun x v e => QE e).mono (zN.le gd), fun x hx => by
  obtain ⟨v, hv⟩ := Option.isSome_iff_exists.mp hx
  exact hsub x (by rw [QE hv]; rfl)⟩ (fun _ _ q => nomatch q) (fun _ _ q => nomatch q)
 have ga1 : zN G' dx (.fd c (vis c fs)) a = none := by rw [zN.other hne]; exact ga
 have i₂ := i₁.put (hp' := st'.hp) (y := .fz (.obj c (vis c fs))) ga1 a2 a3 a4 (fun _ _ q => q) ⟨dx, h1, by rw [zN.other (Ne.symm hne)]; exact zN.self⟩ (fun _ _ q => nomatch q) (fun _ _ q => nomatch q)
 exact h s' _ _ (Ext.put ga1 (Ext.put gd x hd) ha) i₂ ⟨a, rfl, zN.self⟩
theorem after_cl {c : Cls} {G G' : Gst} {st st' : St} {s s' : Shared} {fs : Fs} {a dx : Addr} {es : List DictEntry} {k : Nat} {Q : Value -> Shared -> Prop} {E : Value -> Shared -> Prop} (i : Inv B fr G st s) (x : Ext ow G s G' s') (i' : Inv B fr G' ⟨st.lc, st'.hp⟩ s')
  (ha : s.heap.objs.size <= a) (hd : s.heap.objs.size <= dx) (hne : a ≠ dx) (ga : G' a = none) (gd : G' dx = none) (h1 : s'.heap.get? a = some (instObj (cA c) dx)) (h2 : s'.heap.get? dx = some (dictOf es k)) (hD : DR G' fs (zM c) es)
  (hsub : ∀ x, (fs.lookup x).isSome = true -> x ∈ zM c) (h : qX B fr ow G s VR Q E (yh c fs ⟨st.lc, st'.hp⟩)) : Q (.ref a) s' := by
 have z116 := i.nobody hd; have d1 := z116.1; have d2 := z116.2.1; have d3 := z116.2.2.1; have d4 := z116.2.2.2
 have z117 := i.nobody ha; have a1 := z117.1; have a2 := z117.2.1; have a3 := z117.2.2.1; have a4 := z117.2.2.2
 have fresh : ∀ j b, (Gh.cd st'.hp.length = .cd j -> G' b ≠ some (.cd j)) /\ (Gh.cl st'.hp.length = .cl j -> G' b ≠ some (.cl j)) := fun j b => by
  refine ⟨fun q e => ?_, fun q e => ?_⟩
  ·cases q; have := i'.good.or b _ e
   simp only [OR, List.getElem?_eq_none_iff.mpr (Nat.le_refl st'.hp.length)] at this; exact this
  ·cases q; have := i'.good.or b _ e
   simp only [OR, List.getElem?_eq_none_iff.mpr (Nat.le_refl st'.hp.length)] at this; exact this
 have i₁ := i'.put (hp' := st'.hp ++ [.obj c fs]) (y := .cd st'.hp.length) gd d2 d3 d4 (fun j d q => Kt j d q) (by
  simp only [OR, List.getElem?_append_right (Nat.le_refl _), Nat.sub_self, List.getElem?_cons_zero]
  exact ⟨k, es, h2, hD.mono (zN.le gd), hsub⟩) (fun _ _ q => nomatch q) (fun j b q => (fresh j b).1 q)
 have ga1 : zN G' dx (.cd st'.hp.length) a = none := by rw [zN.other hne]; exact ga
 have i₂ := i₁.put (hp' := st'.hp ++ [.obj c fs]) (y := .cl st'.hp.length) ga1 a2 a3 a4 (fun _ _ q => q) (by
  simp only [OR, List.getElem?_append_right (Nat.le_refl _), Nat.sub_self, List.getElem?_cons_zero]
  exact ⟨dx, h1, by rw [zN.other (Ne.symm hne)]; exact zN.self⟩) (fun j b q e => by
   cases q
   by_cases z : b = dx
   ·rw [z, zN.self] at e; cases e
   ·rw [zN.other z] at e; exact (fresh _ b).2 rfl e) (fun _ _ q => nomatch q)
 exact h s' _ _ (Ext.put ga1 (Ext.put gd x hd) ha) i₂ ⟨a, rfl, zN.self⟩
theorem mkRun_ok {lc : Fs} {r : List (Str × M V)} {fin : Fs -> M V} {G : Gst} {st : St} {s : Shared} {Q : Value -> Shared -> Prop} {E : Value -> Shared -> Prop} (h : qX B fr ow G s VR Q E (ZU lc r fin st)) : ∃ fs st', jN r [] ⟨lc, st.hp⟩ = .ok fs st' := by
 unfold ZU at h
 split at h
 ·exact ⟨_, _, by assumption⟩
 ·exact h.elim
theorem mkRun_at {lc : Fs} {r : List (Str × M V)} {fin : Fs -> M V} {G : Gst} {st st' : St} {fs : Fs} {s : Shared} {Q : Value -> Shared -> Prop} {E : Value -> Shared -> Prop} (h : qX B fr ow G s VR Q E (ZU lc r fin st)) (e : jN r [] ⟨lc, st.hp⟩ = .ok fs st') :
  qX B fr ow G s VR Q E (fin fs ⟨st.lc, st'.hp⟩) := by
 unfold ZU at h; rw [e] at h; exact h
structure FrG (fr : Frm) : Prop extends FrOk fr where
 glob : fr.env.globals = mainGlobals
 bu : fr.env.builtins = builtinsNs
theorem wd {A : Around} {s : Shared} {x : Str} {p : Pos} {v : Value} {Q : Value -> Shared -> Prop} {E : Value -> Shared -> Prop} {G : Gst} {st : St} (b : B.Ok) (ok : FrG fr) (i : Inv B fr G st s) (hx : fr.env.kindOf x = some .globalImplicit)
  (e : nsIn B.K mainGlobals x = some (some v)) (hd : (x == ("__debug__" : Str)) = false) (h : Q v s) : wpAny (model B.prog B.w) A (eval (.Name x p) fr.env) Q E s := by
 refine Name_function_global ok.kind hx ?_ hd
 unfold loadGlobal
 rw [ok.glob]
 exact wpAny_bind ((looks_nsIn (i.kin b) e).here (wpAny_pure h))
theorem QA {A : Around} {s : Shared} {x : Str} {p : Pos} {v : Value} {Q : Value -> Shared -> Prop} {E : Value -> Shared -> Prop} {G : Gst} {st : St} (b : B.Ok) (ok : FrG fr) (i : Inv B fr G st s) (hx : fr.env.kindOf x = some .globalImplicit)
  (e : nsIn B.K mainGlobals x = some none) (hv : bootBuiltins x = some v) (hn : x ≠ "__name__") (hd : (x == ("__debug__" : Str)) = false) (h : Q v s) : wpAny (model B.prog B.w) A (eval (.Name x p) fr.env) Q E s := by
 refine Name_function_global ok.kind hx ?_ hd
 unfold loadGlobal
 rw [ok.glob, ok.bu]
 obtain ⟨mb, hb, hm⟩ := b.blt
 refine wpAny_bind ((looks_nsIn (i.kin b) e).here ?_)
 exact wpAny_bind (wpAny_nsGet (hb.keeps i.base) (by rw [hm x hn, hv]; exact wpAny_pure h))
noncomputable def qQ (B : Bs) (n : Nat) (a : Addr) (g : List V -> M V) : Prop :=
 ∀ A fr ow G st s vs cs, AOk n A fr -> Inv B fr G st s -> VRs G vs cs -> ∀ Q E, qX B fr ow G s VR Q E (g vs st) -> wpAny (model B.prog B.w) A (call (.ref a) cs) Q E s
theorem sim_call {a : Addr} {g : List V -> M V} {x : Str} {y : PySem.Expr} {ys : List PySem.Expr} {p pos : Pos} {ms : List (M V)} (b : B.Ok) (ok : FrG fr) (H : qQ B n a g) (hx : fr.env.kindOf x = some .globalImplicit) (e : nsIn B.K mainGlobals x = some (some (.ref a)))
  (hk : keepIn B.K (.ref a) = true) (hargs : Sim B n fr ow VRs (spliced (backTo pos (starEach (y :: ys) fr.env))) (qa ms)) (hd : (x == ("__debug__" : Str)) = false := by decide)
  (h1 : starEach (y :: ys) fr.env = (false, eval y fr.env) :: starEach ys fr.env := by rfl) (h2 : ((backTo pos (starEach ys fr.env)).any fun z => z.1) = false := by rfl) :
  Sim B n fr ow VR (eval (.Call (.Name x p) (y :: ys) [] pos) fr.env) (qa ms >>= g) := by
 refine ⟨?_⟩
 intro A G st s o i Q E h
 show wpAny _ _ (eval (.Name x p) fr.env >>= fun f => callWith pos f [] (backTo pos (starEach (y :: ys) fr.env)) []) _ _ _
 refine wpAny_bind (wd b ok i hx e hd ?_)
 refine callWith_K b.kin hk (hargs.run A G st s o i _ _ (h.bind ?_)) h1 h2
 intro vs st' s' G' cs x' i' r h'
 exact ⟨i'.kin b, by rw [List.nil_append]; exact H A fr ow G' st' s' vs cs o i' r _ _ h'⟩
theorem sim_call0 {a : Addr} {g : List V -> M V} {x : Str} {p pos : Pos} (b : B.Ok) (ok : FrG fr) (H : qQ B n a g) (hx : fr.env.kindOf x = some .globalImplicit) (e : nsIn B.K mainGlobals x = some (some (.ref a)))
  (hk : keepIn B.K (.ref a) = true) (hd : (x == ("__debug__" : Str)) = false := by decide) :
  Sim B n fr ow VR (eval (.Call (.Name x p) [] [] pos) fr.env) (g []) := by
 refine ⟨?_⟩
 intro A G st s o i Q E h
 show wpAny _ _ (eval (.Name x p) fr.env >>= fun f => callWith pos f [] (backTo pos (starEach [] fr.env)) []) _ _ _
 refine wpAny_bind (wd b ok i hx e hd ?_)
 refine callWith_K0 (i.kin b) hk ?_
 exact H A fr ow G st s [] [] o i .nil _ _ h
end
noncomputable def kX (a : Addr) (h h' : Heap) : Prop := Heap.ExtBut a h h' /\ h.objs.size <= h'.objs.size
section
variable {prog : Program} {w : World} {A : Around} {E : Value -> Shared -> Prop} {s : Shared}
theorem k9 {it : Addr} {h₁ : Heap} {α : Type} {R : α -> Shared -> Prop} {E1 : Value -> Shared -> Prop} (hh : A.handled = none) (hb : kX it s.heap h₁)
  (h : ∀ e h', kX it s.heap h' -> (∃ o, h'.get? e = some o /\ o.cls = .type "StopIteration") -> E1 (.ref e) { s with heap := h' }) :
  wpAny (model prog w) A (newExc (.type "StopIteration") [] >>= fun e => raiseNew e : Sem α) R E1 { s with heap := h₁ } := by
 refine wpAny_bind ?_
 simp only [newExc, newTuple]
 refine wpAny_bind (wpAny_newObj_type ?_ (by size_fits))
 refine wpAny_bind (m := firstArgMember _ _) (wpAny_of_eq (a := Value.none) (by first | rfl | (simp only [firstArgMember]; rfl)) ?_)
 refine wpAny_newObj_type ?_ (by size_fits)
 simp only [raiseNew]
 refine wpAny_bind (wpAny_handled ?_)
 rw [hh]
 refine wpAny_bind (wpAny_pure (wpAny_throw ?_))
 refine h _ _ ⟨(hb.1.push _).push _, ?_⟩ ⟨_, Heap.get?_push_size _ rfl, rfl⟩
 rw [Heap.size_push, Heap.size_push]; have := hb.2; exact le1 this
theorem Q6 {it l : Addr} {i : Nat} {items} {Q : Option Value -> Shared -> Prop} (hh : A.handled = none)
  (hit : s.heap.IsListIter it l i) (hl : s.heap.IsList l items) (hx : items[i]? = none)
  (hQ : ∀ h', kX it s.heap h' -> Q none { s with heap := h' }) : wpAny (model prog w) A (pyNext (.ref it)) Q E s := by
 obtain ⟨o, ho, hc, hd⟩ := id hit
 obtain ⟨ol, hol, _, nl, hdl⟩ := hl
 unfold pyNext
 refine wpAny_bind (wpAny_attempt (wpAny_callSpecial?_slot (name := Str.ofString "__next__") hit.typeIs slot_listiter_next
  (wpAny_call_entry slot_listiter_next hit.typeIs entry_listiter_next ?_ (args_listiter_next _))))
 show wpAny _ _ (field (.ref it) 0 >>= _) _ _ s
 refine wpAny_bind (wpAny_field ho hd (x := .ref l) rfl ?_)
 show wpAny _ _ (if (Value.ref l == Value.none) = true then _ else _) _ _ s
 rw [if_neg (show ¬ ((Value.ref l == Value.none) = true) from Bool.false_ne_true)]
 show wpAny _ _ (field (.ref it) 1 >>= _) _ _ s
 refine wpAny_bind (wpAny_field ho hd (x := .int i 0) rfl ?_)
 show wpAny _ _ (seqItems? (.ref l) >>= _) _ _ s
 refine wpAny_bind (wpAny_seqItems hol hdl ?_)
 simp only [Int.toNat_natCast, hx]
 refine wpAny_bind (wpAny_rule (wpAny_bind (wpAny_setField ho hd (by simp) ?_)))
 refine k9 (s := s) (it := it) hh ⟨(Heap.SameBut.update ..).extBut, Nat.le_of_eq (Heap.size_after_update ..).symm⟩ fun e h' hg ⟨oe, he, hc⟩ => ?_
 refine wpAny_bind (wpAny_isInstance (T := "StopIteration") (b := true) ⟨_, he, hc⟩ isSubtype_stop ?_)
 exact wpAny_pure (hQ _ hg)
theorem QV {it : Addr} {x left step : Int} {Q : Option Value -> Shared -> Prop} (hh : A.handled = none) (hit : IsRangeIter s.heap it x left step) (hleft : left <= 0)
  (hQ : ∀ h', kX it s.heap h' -> Q none { s with heap := h' }) : wpAny (model prog w) A (pyNext (.ref it)) Q E s := by
 have hT : s.TypeIs (.ref it) "range_iterator" := ⟨_, hit, rfl⟩
 unfold pyNext
 refine wpAny_bind (wpAny_attempt (wpAny_callSpecial?_slot (name := Str.ofString "__next__") hT F.slot_range_iterator_next
  (wpAny_call_entry F.slot_range_iterator_next hT F.entry_range_iterator_next ?_ (F.args_range_iterator_next_1 _))))
 show wpAny _ _ (field (.ref it) 0 >>= _) _ _ s
 refine wpAny_bind (wpAny_field hit rfl (x := rawInt x) rfl ?_)
 show wpAny _ _ (field (.ref it) 1 >>= _) _ _ s
 refine wpAny_bind (wpAny_field hit rfl (x := rawInt left) rfl ?_)
 show wpAny _ _ (field (.ref it) 2 >>= _) _ _ s
 refine wpAny_bind (wpAny_field hit rfl (x := rawInt step) rfl ?_)
 show wpAny _ _ (if left <= 0 then _ else _) _ _ s
 rw [if_pos hleft]
 refine wpAny_bind (wpAny_rule ?_)
 refine wpAny_bind ?_
 refine k9 (s := s) (it := it) hh ⟨fun _ _ _ e => e, Nat.le_refl _⟩ fun e h' hg ⟨oe, he, hc⟩ => ?_
 refine wpAny_bind (wpAny_isInstance (T := "StopIteration") (b := true) ⟨_, he, hc⟩ isSubtype_stop ?_)
 exact wpAny_pure (hQ _ hg)
section
variable {K : Type} [DecidableEq K] {knd : KeyKind prog w K}
theorem Q7 {it d : Addr} {i ep : Nat} {kvs : List (K × Value)} {Q : Option Value -> Shared -> Prop} (hh : A.handled = none) (hit : s.heap.IsKeyIter it d i kvs.length ep)
  (hm : s.heap.DictAt knd d kvs ep) (hx : kvs[i]? = none)
  (hQ : ∀ h', kX it s.heap h' -> Q none { s with heap := h' }) : wpAny (model prog w) A (pyNext (.ref it)) Q E s := by
 obtain ⟨o, ho, hc, hd⟩ := id hit
 obtain ⟨od, es, hod, hcd, hdd, hk, hp, hn⟩ := id hm
 unfold pyNext
 refine wpAny_bind (wpAny_attempt (wpAny_callSpecial?_slot (name := Str.ofString "__next__") hit.typeIs F.slot_dict_keyiterator_next
  (wpAny_call_entry F.slot_dict_keyiterator_next hit.typeIs F.entry_dict_keyiterator_next ?_ (F.args_dict_keyiterator_next_1 _))))
 refine wpAny_bind (wpAny_pure (wpAny_bind (wpAny_bind ?_)))
 first | refine wpAny_bind (wpAny_typeNameOfWhole_keyiter hit.typeIs (wpAny_pure ?_)) | refine wpAny_bind (wpAny_typeNameOf_keyiter hit.typeIs (wpAny_pure ?_))
 refine wpAny_bind (wpAny_fieldsOf ho hd ?_)
 have hown : Builtin.Dict_items.ownsTuple "dict_keyiterator" = false := by decide
 rw [hown, if_neg Bool.false_ne_true]
 show wpAny _ _ (if (Value.ref d == Value.none) = true then _ else _) _ _ s
 rw [if_neg (show ¬ ((Value.ref d == Value.none) = true) from Bool.false_ne_true)]
 refine wpAny_bind (wpAny_pure (wpAny_bind (wpAny_dictEntries hod hdd ?_)))
 have hsz : es.size = kvs.length := by rw [<- hp.length]; simp
 rw [if_neg (by rw [hsz]; simp)]
 refine wpAny_bind (wpAny_pure (wpAny_bind (wpAny_dictEpoch hod hdd ?_)))
 rw [if_neg (by simp)]
 refine wpAny_pure ?_
 have hge : es.size <= i := by rw [hsz]; simpa using hx
 dsimp only
 rw [if_neg (show ¬ ((i : Int) < 0) from by lia), Int.toNat_natCast, Array.getElem?_eq_none hge]
 refine wpAny_bind ?_
 first | refine wpAny_bind (wpAny_typeNameOfWhole_keyiter hit.typeIs (wpAny_pure ?_)) | refine wpAny_bind (wpAny_typeNameOf_keyiter hit.typeIs (wpAny_pure ?_))
 show wpAny _ _ (setField (.ref it) 0 .none >>= _) _ _ s
 refine wpAny_bind (wpAny_setField ho hd (by simp) ?_)
 refine k9 (s := s) (it := it) hh ⟨(Heap.SameBut.update ..).extBut, Nat.le_of_eq (Heap.size_after_update ..).symm⟩ fun e h' hg ⟨oe, he, hc⟩ => ?_
 refine wpAny_bind (wpAny_isInstance (T := "StopIteration") (b := true) ⟨_, he, hc⟩ isSubtype_stop ?_)
 exact wpAny_pure (hQ _ hg)
end
end
noncomputable def zP : Nat -> M Bool -> M Fl -> M Fl
 | 0, _, _ => zC
 | k + 1, c, b => c >>= fun t => if t then b >>= fun f => match f with | .nxt => zP k c b | .cont => zP k c b | .brk => pure .nxt | .ret v => pure (.ret v) else pure .nxt
noncomputable def jI (x : Str) (b : M Fl) : List V -> M Fl
 | [] => pure .nxt
 | v :: r => xL x v >>= fun _ => b >>= fun f => match f with | .nxt => jI x b r | .cont => jI x b r | .brk => pure .nxt | .ret v => pure (.ret v)
noncomputable def zo (k : Int) : List V := (List.range k.toNat).map fun i => .int (Int.ofNat i)
noncomputable def Jh (x : Str) (b : M Fl) : V -> M Fl
 | .int k => if 0 <= k /\ k < 2 ^ 40 then jI x b (zo k) else zC
 | _ => zC
noncomputable def ya (x : Str) (e : M V) (b : M Fl) : M Fl := e >>= Jh x b
noncomputable def pForL (x : Str) (b : M Fl) : V -> M Fl
 | .lst l => jI x b l
 | _ => zC
noncomputable def sForL (x : Str) (e : M V) (b : M Fl) : M Fl := e >>= pForL x b
section
variable {B : Bs} {n : Nat} {fr : Frm} {ow : Addr -> Prop}
theorem qX.noted {α β : Type} {A : Around} {G : Gst} {s : Shared} {R : Gst -> β -> α -> Prop} {Q : α -> Shared -> Prop} {E : Value -> Shared -> Prop} {oo : Out β} (hf : fr.fenv = fr.env) (hA : A.frames = some (fr.fenv :: fr.outer))
  (h : qX B fr ow G s R Q E oo) : qX B fr ow G s R Q (notedBy (model B.prog B.w) A fr.env fun e s' => cameBackBy (model B.prog B.w) A fr.env E e s') oo := by
 cases oo with
 | ok b st' => exact h
 | stuck => exact h
 | exc k p st' =>
  intro s' G' e x i fly
  obtain ⟨m, f3, hm⟩ := fly
  unfold notedBy
  rw [<- hf]
  refine Zl hA i f3 hm fun s₁ x₁ ⟨L, hL, f₁⟩ => ?_
  unfold cameBackBy
  have f1' := f₁
  obtain ⟨_, _, vs, ⟨oe, dx, he, _, _, hd, _, _⟩, T, _, _, h1, _, _, _, _, _, _⟩ := f1'
  refine wpAny_bind (wpAny_field he hd h1 ?_)
  rw [if_neg (show ¬ ((Value.ref T == Value.none) = true) from by simp)]
  refine kJ (i.xr x₁) f₁ fun s2 x₂ f₂ => ?_
  have i₂ := i.xr (x₁.trans x₂)
  refine h s2 G' e (x.trans (yn.xr (x₁.trans x₂))) i₂ ⟨_, f₂, .inr (.inr ⟨L, hL, ?_⟩)⟩
  rw [hL]; rfl
theorem kZ (k : Nat) {c : M Bool} {b : M Fl} {t : PySem.Expr} {body : List Stmt} {pos : Pos} (hf : fr.fenv = fr.env) (hc : Sim B n fr ow BR (isTrue t fr.env (eval t fr.env)) c) (hb : Sim B n fr ow FR (execs body fr.env) b) :
  Sim B n fr ow FR (exec (.While t body [] pos) fr.env) (zP k c b) := by
 refine ⟨?_⟩
 intro A G st s o i Q E h
 refine wpAny_While (codeAny_whileLoop (fun k s' => ∃ G' st', Inv B fr G' st' s' /\ qX B fr ow G' s' FR Q E (zP k c b st')) ?_ k ⟨G, st, i, h⟩)
 rintro k s' ⟨G', st', i', h'⟩
 cases k with
 | zero => exact h'.elim
 | succ k =>
  refine hc.run A G' st' s' o i' _ _ (qX.noted hf o.frames (h'.bind ?_))
  intro t st2 s2 G2 t' x₂ i₂ r₂ h₂
  cases r₂
  cases t with
  | false => exact wpAny_execs_nil (h₂.ok i₂ rfl)
  | true =>
   refine hb.run A G2 st2 s2 o i₂ _ _ (qX.noted hf o.frames (h₂.bind ?_))
   intro f st3 s3 G3 fl x₃ i3 r₃ h₃
   cases f with
   | nxt => cases r₃; exact ⟨k, Nat.lt_succ_self k, G3, st3, i3, h₃⟩
   | cont => cases r₃; exact ⟨k, Nat.lt_succ_self k, G3, st3, i3, h₃⟩
   | brk => cases r₃; exact h₃.ok i3 rfl
   | ret v => obtain ⟨c, rfl, rv⟩ := r₃; exact h₃.ok i3 ⟨c, rfl, rv⟩
structure Zk (B : Bs) (I : Addr) where
 Pt : List V -> Gst -> Heap -> Prop
 keep : ∀ l G G' h h', (∀ a x, G a = some x -> G' a = some x) -> (∀ o, h.get? I = some o -> h'.get? I = some o) -> Pt l G h -> Pt l G' h'
 live : ∀ l G h, Pt l G h -> ∃ o, h.get? I = some o
 nil : ∀ A G (st : St) (s : Shared) (Q : Option Value -> Shared -> Prop) E, A.handled = none -> vf B G st.hp s.heap -> Pt [] G s.heap -> (∀ h', kX I s.heap h' -> Q none { s with heap := h' }) -> wpAny (model B.prog B.w) A (pyNext (.ref I)) Q E s
 cons : ∀ A G (st : St) (s : Shared) v l (Q : Option Value -> Shared -> Prop) E, vf B G st.hp s.heap -> Pt (v :: l) G s.heap -> (∀ c h' tk, VR G v c -> Heap.SameBut I s.heap h' -> Pt l G h' -> Q (some c) { s with heap := h', toks := tk }) ->
  wpAny (model B.prog B.w) A (pyNext (.ref I)) Q E s
theorem Ext.same {own G} {s0 s s' : Shared} {G0 : Gst} {I : Addr} (x : Ext own G0 s0 G s) (hI : s0.heap.objs.size <= I) (hs : Heap.SameBut I s.heap s'.heap) (hr : s'.gens = s.gens /\ s'.os = s.os) : Ext own G0 s0 G s' :=
 ⟨x.g, x.new, fun a o n e q => (hs.2 a fun z => absurd (Heap.lt_size q) (Nat.not_lt.mpr (z ▸ hI))).trans (x.keep a o n e q), Nat.le_trans x.size (Nat.le_of_eq hs.1.symm), hr.1.trans x.rest.1, hr.2.trans x.rest.2⟩
theorem Ext.growB {own G} {s0 s s' : Shared} {G0 : Gst} {I : Addr} (x : Ext own G0 s0 G s) (hI : s0.heap.objs.size <= I) (hs : kX I s.heap s'.heap) (hr : s'.gens = s.gens /\ s'.os = s.os) : Ext own G0 s0 G s' :=
 ⟨x.g, x.new, fun a o n e q => hs.1 a o (fun z => absurd (Heap.lt_size q) (Nat.not_lt.mpr (z ▸ hI))) (x.keep a o n e q), Nat.le_trans x.size hs.2, hr.1.trans x.rest.1, hr.2.trans x.rest.2⟩
theorem Inv.offB {G : Gst} {st : St} {s s' : Shared} {d : Addr} (i : Inv B fr G st s) (hs : kX d s.heap s'.heap) (hr : s'.gens = s.gens /\ s'.os = s.os) (hg : G d = none) (h0 : B.h0.get? d = none) (ho : ¬ fr.own d) (hf : ∀ e ∈ fr.fenv :: fr.outer, e.frame ≠ some d) :
  Inv B fr G st s' := by
 have hown : ∀ b, fr.own b -> b ≠ d := fun b hb z => ho (z ▸ hb)
 have kk : ∀ b o, b ≠ d -> s.heap.get? b = some o -> s'.heap.get? b = some o := hs.1
 have ns : ∀ b m, b ≠ d -> s.heap.Ns b m -> s'.heap.Ns b m := fun b m n ⟨o, es, ep, ho, r⟩ => ⟨o, es, ep, kk b o n ho, r⟩
 have cl : ∀ b v, b ≠ d -> s.heap.IsCell b v -> s'.heap.IsCell b v := fun b v n ⟨o, ho, r⟩ => ⟨o, kk b o n ho, r⟩
 refine ⟨i.good.apart fun b y e => ?_, fun b o q => kk b o (fun z => by rw [z, h0] at q; cases q) (i.base b o q), i.own, i.ns.imp fun m hm => ns _ m (hown _ (.inl rfl)) hm, fun p hp => (i.celA p hp).imp fun v hv => cl _ v (hown _ (.inr (List.mem_map_of_mem hp))) hv,
  fun x v e => let ⟨c, q1, q2⟩ := i.nm x v e; ⟨c, q1, q2.of (fun m hm => ns _ m (hown _ (.inl rfl)) hm) fun ca v hm hv => cl _ v (hown _ (.inr (List.mem_map_of_mem hm))) hv⟩, fun e he => ?_, hr.1.trans i.gens⟩
 ·obtain ⟨o, ho', _⟩ := (i.good.or b y e).at
  rw [ho', kk b o (fun z => by rw [z, hg] at e; cases e) ho']
 ·obtain ⟨w1, L, oL, w2, w3, w4, w5, w6⟩ := i.frs e he
  exact ⟨w1, L, oL, w2, w3, w4, kk L oL (fun z => hf e he (z ▸ w2)) w5, w6⟩
inductive FLp {B' : Bs} (f : Frm) {I : Addr} (K : Zk B' I) (x : Str) (b : M Fl) (G0 : Gst) (s0 : Shared) (Q : Flow -> Shared -> Prop) (E : Value -> Shared -> Prop) (k : Nat) (s' : Shared) : Prop
 | mk (G' : Gst) (st' : St) (l : List V) (h0 : k = l.length) (h1 : Ext f.own G0 s0 G' s') (h2 : Inv B' f G' st' s') (h3 : G' I = none) (h4 : K.Pt l G' s'.heap) (h5 : qX B' f f.own G0 s0 FR Q E (jI x b l st'))
theorem Ju {A : Around} {I : Addr} (K : Zk B I) {x : Str} {p : Pos} {b : M Fl} {body : List Stmt} {G0 G : Gst} {st : St} {s0 s : Shared} {l : List V} {Q : Flow -> Shared -> Prop} {E : Value -> Shared -> Prop} (hf : fr.fenv = fr.env) (ok : FrOk fr) (o : AOk n A fr)
  (hx : fr.env.kindOf x = some .local) (hb : Sim B n fr fr.own FR (execs body fr.env) b) (hI : s0.heap.objs.size <= I) (hG : G I = none) (h0 : B.h0.get? I = none) (ho : ¬ fr.own I) (hfr : ∀ e ∈ fr.fenv :: fr.outer, e.frame ≠ some I) (xx : Ext fr.own G0 s0 G s) (i : Inv B fr G st s)
  (hs : K.Pt l G s.heap) (h : qX B fr fr.own G0 s0 FR Q E (jI x b l st)) :
  codeAny (model B.prog B.w) A (.forLoop (.Name x p) (.ref I) body [] fr.env) (fun r s' => match r with | .ok f => Q f s' | .error e => cameBackBy (model B.prog B.w) A fr.env E e s') s := by
 refine codeAny_forLoop (FLp fr K x b G0 s0 Q E) ?_ l.length ⟨G, st, l, rfl, xx, i, hG, hs, h⟩
 rintro k s' ⟨G', st', l, rfl, x', i', hG', hs', h'⟩
 cases l with
 | nil =>
  refine K.nil _ _ st' _ _ _ o.handled i'.good hs' fun h₁ g₁ => wpAny_execs_nil ?_
  exact h' _ _ _ (x'.growB (s' := { s' with heap := h₁ }) hI g₁ ⟨rfl, rfl⟩) (i'.offB (s' := { s' with heap := h₁ }) g₁ ⟨rfl, rfl⟩ hG' h0 ho hfr) rfl
 | cons v l =>
  refine K.cons _ _ st' _ _ _ _ _ i'.good hs' fun c h₁ tk rv hsb st1 => ?_
  have i₁ : Inv B fr G' st' { s' with heap := h₁, toks := tk } := i'.off (s' := { s' with heap := h₁, toks := tk }) hsb ⟨rfl, rfl⟩ hG' h0 ho hfr
  have x₁ : Ext fr.own G0 s0 G' { s' with heap := h₁, toks := tk } := x'.same (s' := { s' with heap := h₁, toks := tk }) hI hsb ⟨rfl, rfl⟩
  refine wpAny_assign_Name (kl ok i₁ rv (.inl hx) fun s2 x₂ i₂ => ?_)
  have h₂ : qX B fr fr.own G0 s0 FR Q E ((b >>= fun f => match f with | .nxt => jI x b l | .cont => jI x b l | .brk => pure .nxt | .ret v => pure (.ret v)) ⟨zT x v st'.lc, st'.hp⟩) := h'
  have y₂ := x₁.trans x₂
  have st2 : K.Pt l G' s2.heap := K.keep l G' G' _ _ (fun _ _ e => e) (fun o' e => x₂.keep I o' ho hG' e) st1
  have l₂ : ∃ o', s2.heap.get? I = some o' := K.live _ _ _ st2
  refine hb.run A G' _ s2 o i₂ _ _ (qX.noted hf o.frames (qX.bind' y₂ h₂ ?_))
  intro f st3 s3 G3 fl x₃ x3' i3 r₃ h₃
  obtain ⟨o', ho'⟩ := l₂
  have hG3 : G3 I = none := x3'.new I (Heap.lt_size ho') hG'
  have st3 : K.Pt l G3 s3.heap := K.keep l G' G3 _ _ x3'.g (fun o'' e => x3'.keep I o'' ho hG' e) st2
  cases f with
  | nxt => cases r₃; exact ⟨_, Nat.lt_succ_self _, G3, _, l, rfl, x₃, i3, hG3, st3, h₃⟩
  | cont => cases r₃; exact ⟨_, Nat.lt_succ_self _, G3, _, l, rfl, x₃, i3, hG3, st3, h₃⟩
  | brk => cases r₃; exact h₃ s3 G3 _ x₃ i3 rfl
  | ret v => obtain ⟨c, rfl, rv⟩ := r₃; exact h₃ s3 G3 _ x₃ i3 ⟨c, rfl, rv⟩
end
noncomputable def vP (x : Int) : Nat -> List V
 | 0 => []
 | n + 1 => .int x :: vP (x + 1) n
theorem Ja (n : Nat) : ∀ (x : Int), vP x n = (List.range n).map fun i => V.int (x + Int.ofNat i) := by
 induction n with
 | zero => intro x; rfl
 | succ n ih =>
  intro x
  rw [vP, ih, List.range_succ_eq_map, List.map_cons, List.map_map]
  congr 1
  ·simp
  ·apply List.map_congr_left
   intro a _
   simp only [Function.comp_apply]
   congr 1
   show x + 1 + Int.ofNat a = x + Int.ofNat (a + 1)
   simp only [Int.ofNat_eq_natCast]; lia
theorem rangeV_eq (k : Int) : zo k = vP 0 k.toNat := by rw [Ja]; simp [zo]
section
variable {B : Bs} {n : Nat} {fr : Frm} {ow : Addr -> Prop}
noncomputable def iterRange (B : Bs) (I : Addr) : Zk B I where
 Pt l _ h := ∃ (x : Int) (k : Nat), IsRangeIter h I x k 1 /\ l = vP x k
 keep := fun _ _ _ _ _ _ hk ⟨x, k, h1, h2⟩ => ⟨x, k, hk _ h1, h2⟩
 live := fun _ _ _ ⟨_, _, h1, _⟩ => ⟨_, h1⟩
 nil := fun A G st s Q E hh _ ⟨x, k, h1, h2⟩ hQ => by
  cases k with
  | zero => exact QV hh h1 (by simp) hQ
  | succ k => cases h2
 cons := fun A G st s v l Q E _ ⟨x, k, h1, h2⟩ hQ => by
  cases k with
  | zero => cases h2
  | succ k =>
   cases h2
   refine wpAny_pyNext_range_item h1 (by walk_at "l") fun h' hit hs => hQ _ h' _ ⟨_, rfl⟩ hs ⟨x + 1, k, ?_, rfl⟩
   have e : (((k + 1 : Nat) : Int) - 1) = (k : Int) := by lia
   rw [e] at hit; exact hit
noncomputable def Js (B : Bs) (I ax : Addr) (all : List V) : Zk B I where
 Pt l G h := ∃ i, h.IsListIter I ax i /\ G ax = some (.fz (.lst all)) /\ l = all.drop i /\ i <= all.length
 keep := fun _ _ _ _ _ m hk ⟨i, ⟨o, ho, r⟩, h2, h3⟩ => ⟨i, ⟨o, hk _ ho, r⟩, m _ _ h2, h3⟩
 live := fun _ _ _ ⟨_, ⟨o, ho, _⟩, _⟩ => ⟨o, ho⟩
 nil := fun A G st s Q E hh g ⟨i, h1, h2, h3, h4⟩ hQ => by
  obtain ⟨k, cs, q1, q2⟩ := vX g h2
  refine Q6 hh h1 (items := cs) ⟨_, q1, rfl, k, rfl⟩ ?_ hQ
  have e := q2.length
  have : all.length <= i := by simpa using h3.symm
  simp only [Array.length_toList] at e
  simp; exact le2 (eR e) this
 cons := fun A G st s v l Q E g ⟨i, h1, h2, h3, h4⟩ hQ => by
  obtain ⟨k, cs, q1, q2⟩ := vX g h2
  have hv : all[i]? = some v := by
   have : (all.drop i)[0]? = some v := by rw [<- h3]; rfl
   simpa using this
  obtain ⟨c, hc, rc⟩ := q2.get hv
  refine wpAny_pyNext_list_item h1 (items := cs) ⟨_, q1, rfl, k, rfl⟩ (by simpa using hc) fun h' hit hs => hQ c h' _ rc hs ⟨i + 1, hit, h2, ?_, ?_⟩
  ·rw [<- List.drop_drop, <- h3]; rfl
  ·exact (List.getElem?_eq_some_iff.mp hv).1
theorem yM {A : Around} {G : Gst} {st : St} {s : Shared} {m : M V} {β δ : Type} {k : V -> M β} {R : Gst -> β -> δ -> Prop} {Q : δ -> Shared -> Prop} {Q₁ : List Value -> Shared -> Prop} {E : Value -> Shared -> Prop} {x : PySem.Expr} {pos : Pos} (o : AOk n A fr) (i : Inv B fr G st s)
  (h1 : Sim B n fr ow VR (eval x fr.env) m) (h : qX B fr ow G s R Q E ((m >>= k) st)) (hq : ∀ v st' s' G' c, Ext ow G s G' s' -> Inv B fr G' st' s' -> VR G' v c -> qX B fr ow G' s' R Q E (k v st') -> Q₁ [c] s')
  (he : starEach [x] fr.env = [(false, eval x fr.env)] := by rfl) : wpAny (model B.prog B.w) A (spliced (backTo pos (starEach [x] fr.env))) Q₁ E s :=
 wpAny_items_cons (h1.run A G st s o i _ _ (h.bind fun v st' s' G' c x' i' r h' => wpAny_items_nil (hq v st' s' G' c x' i' r h'))) (by rw [he]; rfl)
set_option tactic.hygienic true in
theorem vO {e : M V} {b : M Fl} {x : Str} {y : PySem.Expr} {p p1 pos cpos : Pos} {body : List Stmt} (bo : B.Ok) (ok : FrG fr) (hf : fr.fenv = fr.env) (hx : fr.env.kindOf x = some .local) (hr : fr.env.kindOf (Str.ofString "range") = some .globalImplicit)
  (hn : nsIn B.K mainGlobals (Str.ofString "range") = some none) (h1 : Sim B n fr fr.own VR (eval y fr.env) e) (hb : Sim B n fr fr.own FR (execs body fr.env) b)
  (he : starEach [y] fr.env = [(false, eval y fr.env)] := by rfl) :
  Sim B n fr fr.own FR (exec (.For (.Name x p) (.Call (.Name (Str.ofString "range") p1) [y] [] cpos) body [] pos) fr.env) (ya x e b) := by
 refine ⟨?_⟩
 intro A G st s o i Q E h
 refine wpAny_For ?_
 show wpAny _ _ (eval (.Name (Str.ofString "range") p1) fr.env >>= fun f => callWith cpos f [] (backTo cpos (starEach [y] fr.env)) []) _ _ _
 refine wpAny_bind (QA (v := .type "range") bo ok i hr hn (by decide +kernel) (by decide) (by decide) ?_)
 refine PyProof.Rows.callWith_type1 (yM o i h1 h ?_ he) (by rw [he]; rfl)
 intro v st' s' G' c x' i' r h'
 cases v with
 | int k =>
  obtain ⟨t, rfl⟩ := r
  unfold Jh at h'
  dsimp only at h'
  split at h'
  ·rename_i hk
   refine call_range_1 (wpAny_pyIter_range (IsRange.new _ _ _ _ _ _ _) (small_one (by walk_at "l") (by walk_at "l") (by walk_at "l") (by walk_at "l")) ?_)
   have hsz : Builtin.Range.rangeSize 0 k 1 = (k.toNat : Int) := by rw [rangeSize_one]; split <;> lia
   rw [hsz]
   have kk : ∀ b o, s'.heap.get? b = some o -> ((s'.heap.push { cls := .type "range", data := .fields #[.int 0 s'.toks, .int k t, .int 1 (s'.toks + 1)] }).push { cls := .type "range_iterator", data := .fields #[rawInt 0, rawInt (k.toNat : Int), rawInt 1] }).get? b = some o :=
    fun b o e => Heap.get?_push_of_some _ (Heap.get?_push_of_some _ e)
   obtain ⟨x₁, i₁⟩ := i'.grow (ow := fr.own) (s' := { s' with heap := (s'.heap.push { cls := .type "range", data := .fields #[.int 0 s'.toks, .int k t, .int 1 (s'.toks + 1)] }).push { cls := .type "range_iterator", data := .fields #[rawInt 0, rawInt (k.toNat : Int), rawInt 1] }, toks := s'.toks + 1 + 1 })
    kk (by show _ <= ((s'.heap.push _).push _).objs.size; rw [Heap.size_push, Heap.size_push]; exact le0) ⟨rfl, rfl⟩
   obtain ⟨n1, n2, n3, n4⟩ := i'.nobody (a := s'.heap.objs.size + 1) (Nat.le_succ _)
   refine Ju (iterRange B _) hf ok.toFrOk o hx hb (G0 := G') (s0 := s') (l := zo k) ?_ ?_ ?_ ?_ ?_ x₁ i₁ ⟨0, k.toNat, ?_, rangeV_eq k⟩ h'
   all_goals first | (rw [Heap.size_push]; first | exact Nat.le_succ _ | assumption) | exact Heap.get?_push_size _ rfl
  ·exact h'.elim
 | _ => exact h'.elim
theorem sim_forL {e : M V} {b : M Fl} {x : Str} {y : PySem.Expr} {p pos : Pos} {body : List Stmt} (ok : FrG fr) (hf : fr.fenv = fr.env) (hx : fr.env.kindOf x = some .local)
  (h1 : Sim B n fr fr.own VR (eval y fr.env) e) (hb : Sim B n fr fr.own FR (execs body fr.env) b)
  (hs : ∀ x, foldedSetIterable y fr.env x = pure x := by intro _; rfl) :
  Sim B n fr fr.own FR (exec (.For (.Name x p) y body [] pos) fr.env) (sForL x e b) := by
 refine ⟨?_⟩
 intro A G st s o i Q E h
 refine wpAny_For (h1.run A G st s o i _ _ (h.bind ?_)) hs
 intro v st' s' G' c x' i' r h'
 cases v with
 | lst l =>
  obtain ⟨a, rfl, ga⟩ := r
  obtain ⟨k, cs, q1, q2⟩ := vX i'.good ga
  refine wpAny_pyIter_list ⟨_, q1, rfl, k, rfl⟩ ?_
  obtain ⟨x₁, i₁⟩ := i'.grow (ow := fr.own) (s' := { s' with heap := s'.heap.push { cls := .type "list_iterator", data := .fields #[.ref a, .int 0 0] } }) (fun b o e => Heap.get?_push_of_some _ e) (by show _ <= (s'.heap.push _).objs.size; rw [Heap.size_push]; exact le0) ⟨rfl, rfl⟩
  obtain ⟨n1, n2, n3, n4⟩ := i'.nobody (a := s'.heap.objs.size) (Nat.le_refl _)
  exact Ju (Js B _ a l) hf ok.toFrOk o hx hb (G0 := G') (s0 := s') (l := l) (Nat.le_refl _) n1 n2 n3 n4 x₁ i₁ ⟨0, ⟨_, Heap.get?_push_size _ rfl, rfl, rfl⟩, ga, rfl, Nat.zero_le _⟩ h'
 | _ => exact h'.elim
end
noncomputable def inC (x : Str) (v : V) (e : M V) : M V := fun st => match e ⟨[(x, v)], st.hp⟩ with | .ok w st' => .ok w ⟨st.lc, st'.hp⟩ | _ => .stuck
noncomputable def yl (x : Str) (e : M V) : List V -> M (List V)
 | [] => pure []
 | v :: r => inC x v e >>= fun w => yl x e r >>= fun ws => pure (w :: ws)
noncomputable def Ji (x : Str) (e : M V) (v : V) : M V := match v with
 | .lst l => if l.length <= zh then yl x e l >>= fun ws => pure (.lst ws) else zC
 | _ => zC
noncomputable def Xq (x : Str) (e : M V) (src : M V) : M V := src >>= Ji x e
section
variable {B : Bs} {n : Nat} {fr : Frm} {ow : Addr -> Prop}
theorem Inv.forget {G : Gst} {st : St} {s : Shared} (i : Inv B fr G st s) : Inv B fr G ⟨[], st.hp⟩ s :=
 ⟨i.good, i.base, i.own, i.ns, i.celA, (fun _ _ e => nomatch e), i.frs, i.gens⟩
theorem Ext.weak {own own' G s G' s'} (h : ∀ a, own a -> own' a) (x : Ext own G s G' s') : Ext own' G s G' s' := ⟨x.g, x.new, fun a o n e q => x.keep a o (fun z => n (h a z)) e q, x.size, x.rest⟩
theorem Ext.ofNew {own G0 s0 G s G' s'} (x : Ext v8 G0 s0 G s) (y : Ext own G s G' s') (h : ∀ a, own a -> s0.heap.objs.size <= a) : Ext v8 G0 s0 G' s' :=
 ⟨fun a v e => y.g a v (x.g a v e), fun a l e => y.new a (Nat.lt_of_lt_of_le l x.size) (x.new a l e), fun a o _ e q => y.keep a o (fun z => absurd (Heap.lt_size q) (Nat.not_lt.mpr (h a z))) (x.new a (Heap.lt_size q) e) (x.keep a o (fun z => z) e q),
  Nat.le_trans x.size y.size, y.rest.1.trans x.rest.1, y.rest.2.trans x.rest.2⟩
noncomputable def Frm.comp (fr : Frm) (scope : Scope) (C : Addr) : Frm := ⟨compEnv scope C fr.env, fr.fenv, fr.outer⟩
theorem wU {scope : Scope} {C a : Addr} (h : (fr.comp scope C).own a) : a = C := by
 rcases h with h | h
 ·exact h
 ·cases h
inductive CLp {B' : Bs} (f : Frm) (o' : Addr -> Prop) {I : Addr} (K : Zk B' I) (scope : Scope) (C D : Addr) (G0 : Gst) (s0 : Shared) (x : Str) (e : M V) (lc : Fs) (Q : Value -> Shared -> Prop) (E : Value -> Shared -> Prop) (m : Nat) (s' : Shared) : Prop
 | mk (G' : Gst) (hp' : Hp) (l vs : List V) (cs : List Value) (k : Nat) (h0 : m = l.length) (h1 : Ext v8 G0 s0 G' s') (h2 : Inv B' (f.comp scope C) G' ⟨[], hp'⟩ s') (h3 : G' I = none) (h4 : G' D = none) (h5 : K.Pt l G' s'.heap) (h6 : s'.heap.get? D = some (listOf cs.toArray k)) (h7 : VRs G' vs cs)
  (h8 : vs.length + l.length <= zh) (h9 : qX B' f o' G0 s0 VR Q E ((yl x e l >>= fun ws => pure (.lst (vs ++ ws))) ⟨lc, hp'⟩))
theorem comp_loop {A : Around} {I D C : Addr} (K : Zk B I) {x : Str} {px pos : Pos} {iter elt : PySem.Expr} {scope : Scope} {e : M V} {lc : Fs} {G0 G : Gst} {hp : Hp} {st0 : St} {s0 s : Shared} {l vs : List V} {cs : List Value} {k : Nat} {Q : Value -> Shared -> Prop} {E : Value -> Shared -> Prop} {E2 : Value -> Shared -> Prop}
  (o : AOk n A fr) (hk : scope.kind = .function) (hx : scope.names.lookup x = some .local) (he : Sim B n (fr.comp scope C) (fr.comp scope C).own VR (eval elt (compEnv scope C fr.env)) e)
  (hI : s0.heap.objs.size <= I) (hD : s0.heap.objs.size <= D) (hC : s0.heap.objs.size <= C) (hID : D ≠ I) (hIC : C ≠ I) (hDC : D ≠ C) (i0 : Inv B fr G0 st0 s0) (hlc : st0.lc = lc)
  (xx : Ext v8 G0 s0 G s) (i : Inv B (fr.comp scope C) G ⟨[], hp⟩ s) (gI : G I = none) (gD : G D = none) (hs : K.Pt l G s.heap) (hd : s.heap.get? D = some (listOf cs.toArray k)) (hv : VRs G vs cs) (hz : vs.length + l.length <= zh)
  (h : qX B fr ow G0 s0 VR Q E ((yl x e l >>= fun ws => pure (.lst (vs ++ ws))) ⟨lc, hp⟩)) :
  codeAny (model B.prog B.w) A (.compLoop (.ListComp elt [⟨.Name x px, iter, [], 0⟩] scope pos) 0 (.ref I) (.ref D) (compEnv scope C fr.env))
   (fun r s' => ∃ m, s'.heap.Ns C m /\ ∀ h', Heap.SameBut C s'.heap h' -> match r with | .ok _ => Q (.ref D) { s' with heap := h' } | .error y => E2 y { s' with heap := h' }) s := by
 refine codeAny_compLoop_tests (CLp fr ow K scope C D G0 s0 x e lc Q E) ?_ l.length ⟨G, hp, l, vs, cs, k, rfl, xx, i, gI, gD, hs, hd, hv, hz, h⟩
 clear xx i gI gD hs hd hv hz h
 rintro m s' ⟨G', hp', l, vs, cs, k, rfl, x', i', gI, gD, hs', hd, hv, hz, h'⟩
 have z132 := i0.nobody hI; have I1 := z132.1; have I2 := z132.2.1; have I3 := z132.2.2.1; have I4 := z132.2.2.2
 have z133 := i0.nobody hD; have D1 := z133.1; have D2 := z133.2.1; have D3 := z133.2.2.1; have D4 := z133.2.2.2
 have z134 := i0.nobody hC; have C1 := z134.1; have C2 := z134.2.1; have C3 := z134.2.2.1; have C4 := z134.2.2.2
 have nI : ¬ (fr.comp scope C).own I := fun z => hIC (wU z).symm
 have nD : ¬ (fr.comp scope C).own D := fun z => hDC (wU z)
 have frk : FrOk (fr.comp scope C) := ⟨hk, List.nodup_nil, List.not_mem_nil, fun _ _ _ e => by cases e⟩
 cases l with
 | nil =>
  refine K.nil _ _ ⟨[], hp'⟩ _ _ _ o.handled i'.good hs' fun h₁ g₁ => ?_
  have hd₁ : h₁.get? D = some (listOf cs.toArray k) := g₁.1 D _ hID hd
  have i₁ : Inv B (fr.comp scope C) G' ⟨[], hp'⟩ { s' with heap := h₁ } := i'.offB (s' := { s' with heap := h₁ }) g₁ ⟨rfl, rfl⟩ gI I2 nI I4
  have x₁ : Ext v8 G0 s0 G' { s' with heap := h₁ } := x'.growB (s' := { s' with heap := h₁ }) hI g₁ ⟨rfl, rfl⟩
  obtain ⟨mC, hmC⟩ := i₁.ns
  refine ⟨mC, hmC, fun h₂ hs₂ => ?_⟩
  have gC : G' C = none := (i₁.own C (.inl rfl)).1
  have x₂ : Ext v8 G0 s0 G' { s' with heap := h₂ } := x₁.same (s' := { s' with heap := h₂ }) hC hs₂ ⟨rfl, rfl⟩
  have kC : ∀ a o, s0.heap.get? a = some o -> h₂.get? a = h₁.get? a := fun a o q => hs₂.2 a fun z => absurd (Heap.lt_size q) (Nat.not_lt.mpr (z ▸ hC))
  have good2 : vf B G' hp' h₂ := i₁.good.apart fun a y e => hs₂.2 a fun z => by rw [z, gC] at e; cases e
  have i₂ : Inv B fr G' ⟨lc, hp'⟩ { s' with heap := h₂ } := by
   subst hlc
   exact i0.back good2 (fun a o q => (hs₂.2 a fun z => by rw [z, C2] at q; cases q).trans (i₁.base a o q)) i₁.gens x₂.g x₂.new (fun a o g q _ => ⟨o.slots, x₂.keep a o (fun z => z) g q⟩)
  have i3 := i₂.put (y := .fz (.lst vs)) gD D2 D3 D4 (fun _ _ q => q) ⟨k, cs.toArray, (hs₂.2 D hDC).trans hd₁, by simpa using hv.mono (zN.le gD)⟩ (fun _ _ q => nomatch q) (fun _ _ q => nomatch q)
  have h₃ : qX B fr ow G0 s0 VR Q E (.ok (.lst (vs ++ [])) ⟨lc, hp'⟩) := h'
  rw [List.append_nil] at h₃
  exact h₃ _ _ _ (Ext.weak (fun a z => z.elim) (Ext.put gD x₂ hD)) i3 ⟨D, rfl, zN.self⟩
 | cons v l =>
  refine K.cons _ _ ⟨[], hp'⟩ _ _ _ _ _ i'.good hs' fun c h₁ tk rv hsb pt1 => ?_
  have i₁ : Inv B (fr.comp scope C) G' ⟨[], hp'⟩ { s' with heap := h₁, toks := tk } := i'.off (s' := { s' with heap := h₁, toks := tk }) hsb ⟨rfl, rfl⟩ gI I2 nI I4
  have x₁ : Ext v8 G0 s0 G' { s' with heap := h₁, toks := tk } := x'.same (s' := { s' with heap := h₁, toks := tk }) hI hsb ⟨rfl, rfl⟩
  refine wpAny_assign_Name (kl (fr := fr.comp scope C) frk i₁ rv (.inl hx) fun s2 y₂ i₂ => wpAny_tests_nil ?_)
  rw [if_pos rfl]
  have x₂ : Ext v8 G0 s0 G' s2 := x₁.ofNew y₂ fun a z => wU z ▸ hC
  have pt2 : K.Pt l G' s2.heap := K.keep l G' G' _ _ (fun _ _ e => e) (fun o' e => y₂.keep I o' nI gI e) pt1
  have hd₂ : s2.heap.get? D = some (listOf cs.toArray k) := y₂.keep D _ nD gD ((hsb.2 D hID).trans hd)
  have h₂ : qX B fr ow G0 s0 VR Q E ((inC x v e >>= fun w => yl x e l >>= fun ws => pure (.lst (vs ++ w :: ws))) ⟨lc, hp'⟩) := by
   have e1 : (yl x e (v :: l) >>= fun ws => (pure (V.lst (vs ++ ws)) : M V)) ⟨lc, hp'⟩ = (inC x v e >>= fun w => yl x e l >>= fun ws => pure (.lst (vs ++ w :: ws))) ⟨lc, hp'⟩ := by
    show ((inC x v e >>= fun w => yl x e l >>= fun ws => pure (w :: ws)) >>= fun ws => (pure (V.lst (vs ++ ws)) : M V)) ⟨lc, hp'⟩ = _
    simp only [M.bind_eq]
    cases inC x v e ⟨lc, hp'⟩ with
    | ok w st1 =>
     dsimp only
     cases yl x e l st1 with
     | ok ws st2 => rfl
     | exc _ _ _ => rfl
     | stuck => rfl
    | exc _ _ _ => rfl
    | stuck => rfl
   rw [e1] at h'; exact h'
  refine he.run A G' ⟨[(x, v)], hp'⟩ s2 ⟨o.frames, o.depth, o.units, o.handled⟩ i₂ _ _ ?_
  rw [M.bind_eq] at h₂
  unfold inC at h₂
  cases hev : e ⟨[(x, v)], hp'⟩ with
  | stuck => rw [hev] at h₂; exact h₂.elim
  | exc _ _ _ => rw [hev] at h₂; exact h₂.elim
  | ok w st3 =>
   rw [hev] at h₂
   intro s3 G3 cw y₃ i3 rw3
   have x₃ : Ext v8 G0 s0 G3 s3 := x₂.ofNew y₃ fun a z => wU z ▸ hC
   have gI3 : G3 I = none := by
    obtain ⟨o', ho'⟩ := K.live _ _ _ pt2
    exact y₃.new I (Heap.lt_size ho') gI
   have gD3 : G3 D = none := y₃.new D (Heap.lt_size hd₂) gD
   have pt3 : K.Pt l G3 s3.heap := K.keep l G' G3 _ _ y₃.g (fun o' q => y₃.keep I o' nI gI q) pt2
   have hd₃ : s3.heap.get? D = some (listOf cs.toArray k) := y₃.keep D _ nD gD hd₂
   have hlen := hv.length
   refine append_at (s := s3) hd₃ (fun h₄ hs₄ hd₄ => ?_) (by have := jF; simp only [List.length_cons] at hz; rw [List.size_toArray]; exact le3 (eR hlen) hz this)
   have i4 : Inv B (fr.comp scope C) G3 ⟨[], st3.hp⟩ { s3 with heap := h₄ } := i3.forget.off (s' := { s3 with heap := h₄ }) hs₄ ⟨rfl, rfl⟩ gD3 D2 nD D4
   have x₄ : Ext v8 G0 s0 G3 { s3 with heap := h₄ } := x₃.same (s' := { s3 with heap := h₄ }) hD hs₄ ⟨rfl, rfl⟩
   refine ⟨l.length, Nat.lt_succ_self _, G3, st3.hp, l, vs ++ [w], cs ++ [cw], k + 1, rfl, x₄, i4, gI3, gD3, K.keep l G3 G3 _ _ (fun _ _ e => e) (fun o' q => (hs₄.2 I (fun z => hID z.symm)).trans q) pt3, ?_, (hv.mono y₃.g).append (.cons rw3 .nil), ?_, ?_⟩
   ·show h₄.get? D = _
    rw [hd₄]
    have : cs.toArray.push cw = (cs ++ [cw]).toArray := by simp
    rw [this]
   ·simp only [List.length_append, List.length_cons, List.length_nil] at hz ⊢; exact le1 hz
   ·have e2 : (fun ws => (pure (V.lst (vs ++ w :: ws)) : M V)) = fun ws => pure (V.lst (vs ++ [w] ++ ws)) := funext fun ws => by simp
    have h₅ : qX B fr ow G0 s0 VR Q E ((yl x e l >>= fun ws => (pure (V.lst (vs ++ w :: ws)) : M V)) ⟨lc, st3.hp⟩) := h₂
    rw [e2] at h₅
    exact h₅
set_option tactic.hygienic true in
theorem ZM {e src : M V} {x : Str} {px pos : Pos} {iter elt : PySem.Expr} {scope : Scope} (hfree : ∀ y ∈ scope.names, y.2 ≠ .free) (hcell : ∀ y ∈ scope.names, y.2 ≠ .cell) (hk : scope.kind = .function)
  (hnames : ∀ y ∈ scope.names, y.2 = .local -> scope.names.lookup y.1 = some .local) (hx : scope.names.lookup x = some .local)
  (h1 : Sim B n fr ow VR (eval iter fr.env) src) (he : ∀ C, Sim B n (fr.comp scope C) (fr.comp scope C).own VR (eval elt (compEnv scope C fr.env)) e)
  (hs : ∀ x, foldedSetIterable iter fr.env x = pure x := by intro _; rfl) :
  Sim B n fr ow VR (eval (.ListComp elt [⟨.Name x px, iter, [], 0⟩] scope pos) fr.env) (Xq x e src) := by
 refine ⟨?_⟩
 intro A G st s o i Q E h
 refine wpAny_ListComp hfree hk hnames (h1.run A G st s o i _ _ (h.bind ?_)) hs
 intro v st' s' G' c x' i' r h'
 cases v with
 | lst l =>
  unfold Ji at h'
  dsimp only at h'
  split at h'
  ·rename_i hz
   obtain ⟨a, rfl, ga⟩ := r
   obtain ⟨k, cs, q1, q2⟩ := vX i'.good ga
   have hl : s'.heap.IsList a cs := ⟨_, q1, rfl, k, rfl⟩
   refine wpAny_pyIter_list hl (wpAny_newObj_type (hd := by size_fits) (wpAny_newFunctionEnv hcell (by intro y hy; simp at hy) (fun h₁ hns1 hsb1 => ?_) hk))
   dsimp only at hns1 hsb1 ⊢
   generalize hH1 : s'.heap.push { cls := .type "list_iterator", data := .fields #[.ref a, .int 0 0] } = H1 at hns1 hsb1 ⊢
   have hD : H1.objs.size = s'.heap.objs.size + 1 := by rw [<- hH1, Heap.size_push]
   generalize hH2 : H1.push { cls := .type "list", dict := none, data := .seq ([] : List Value).toArray } = H2 at hns1 hsb1 ⊢
   have hC : H2.objs.size = s'.heap.objs.size + 2 := by rw [<- hH2, Heap.size_push, hD]
   have lt : ∀ b o, s'.heap.get? b = some o -> b < s'.heap.objs.size := fun b o e => Heap.lt_size e
   have hs1 : h₁.objs.size = s'.heap.objs.size + 3 := by rw [hsb1.1, Heap.size_push, hC]
   have old : ∀ b o, s'.heap.get? b = some o -> h₁.get? b = some o := fun b o e =>
    hsb1.extBut b o (Nat.ne_of_lt (Nat.lt_of_lt_of_le (lt b o e) (by exact le1 (eR hC)))) (Heap.get?_push_of_some _ (hH2 ▸ Heap.get?_push_of_some _ (hH1 ▸ Heap.get?_push_of_some _ e)))
   have hit : h₁.get? s'.heap.objs.size = some { cls := .type "list_iterator", data := .fields #[.ref a, .int 0 0] } :=
    hsb1.extBut _ _ (Nat.ne_of_lt (by exact lt1 (eR hC))) (Heap.get?_push_of_some _ (hH2 ▸ Heap.get?_push_of_some _ (hH1 ▸ Heap.get?_push_size _ rfl)))
   have hacc : h₁.get? H1.objs.size = some (listOf #[] 0) := hsb1.extBut _ _ (Nat.ne_of_lt (by exact lt2 (eL hD) (eR hC))) (Heap.get?_push_of_some _ (hH2 ▸ Heap.get?_push_size _ rfl))
   obtain ⟨x₁, i₁⟩ := i'.grow (ow := v8) (s' := { s' with heap := h₁, toks := s'.toks + ([] : List (Str × Value)).length }) old (by show _ <= h₁.objs.size; exact le1 (eR hs1)) ⟨rfl, rfl⟩
   obtain ⟨I1, I2, I3, I4⟩ := i'.nobody (a := s'.heap.objs.size) (Nat.le_refl _)
   obtain ⟨D1, D2, D3, D4⟩ := i'.nobody (a := H1.objs.size) (by exact le1 (eR hD))
   obtain ⟨C1, C2, C3, C4⟩ := i'.nobody (a := H2.objs.size) (by exact le1 (eR hC))
   have ic : Inv B (fr.comp scope H2.objs.size) G' ⟨[], st'.hp⟩ { s' with heap := h₁, toks := s'.toks + ([] : List (Str × Value)).length } :=
    ⟨i₁.good, i₁.base, fun b hb => wU hb ▸ ⟨C1, C2⟩, ⟨_, hns1⟩, (fun p hp => by cases hp), (fun _ _ e => nomatch e), i₁.frs, i₁.gens⟩
   have h₂ : qX B fr ow G' s' VR Q E ((yl x e l >>= fun ws => pure (.lst ([] ++ ws))) ⟨st'.lc, st'.hp⟩) := h'
   have loop : ∀ s2 : Shared, s2 = { s' with heap := h₁, toks := s'.toks + ([] : List (Str × Value)).length } -> codeAny (model B.prog B.w) A (.compLoop (.ListComp elt [⟨.Name x px, iter, [], 0⟩] scope pos) 0 (.ref s'.heap.objs.size) (.ref H1.objs.size) (compEnv scope H2.objs.size fr.env)) (fun r s' => ∃ m, s'.heap.Ns H2.objs.size m /\ ∀ h', Heap.SameBut H2.objs.size s'.heap h' -> match r with | .ok _ => Q (.ref H1.objs.size) { s' with heap := h' } | .error y => wpAny (model B.prog B.w) A (passOn "comprehension.variables-let-go" y (compEnv scope H2.objs.size fr.env)) Q E { s' with heap := h' }) s2 := by
    rintro s2 rfl
    exact comp_loop (E2 := fun y s'' => wpAny (model B.prog B.w) A (passOn "comprehension.variables-let-go" y (compEnv scope H2.objs.size fr.env)) Q E s'') (Js B s'.heap.objs.size a l) o hk hx (he _) (Nat.le_refl _) (by exact le1 (eR hD)) (by exact le1 (eR hC)) (Nat.ne_of_gt (by exact lt1 (eR hD))) (Nat.ne_of_gt (by exact lt1 (eR hC))) (Nat.ne_of_lt (by exact lt2 (eL hD) (eR hC))) i' rfl x₁ ic I1 D1
     ⟨0, ⟨_, hit, rfl, rfl⟩, ga, rfl, Nat.zero_le _⟩ hacc .nil (by simpa using hz) h₂
   exact codeAny_compStart_list (loop _ rfl) (wpAny_pyIter_listiter ⟨_, hit, rfl, rfl⟩ (loop _ rfl))
  ·exact h'.elim
 | _ => exact h'.elim
end
noncomputable def Qg : V -> Bool | .int _ => true | _ => false
noncomputable def kw (m : Int) : V -> Bool | .int j => decide (m <= j) | _ => false
noncomputable def pOps (y : Str) (d k : V) : M Unit := fun s => match dictAt s.hp d, k with
 | some kv, .int m => if kv.all (fun p => Qg p.2) = true /\ kv.length <= zh /\ (kv.map (·.1)).Nodup then xL y (.lst ((kv.filter fun p => kw m p.2).map fun p => .str p.1)) s else .stuck
 | _, _ => .stuck
noncomputable def sOps (y lv le : Str) : M Fl := qD lv >>= fun d => qD le >>= fun k => pOps y d k >>= fun _ => pure .nxt
section
variable {B : Bs} {n : Nat} {fr : Frm} {ow : Addr -> Prop}
theorem qX.loc {β δ : Type} {x : Str} {k : V -> M β} {G : Gst} {st : St} {s : Shared} {R : Gst -> β -> δ -> Prop} {Q : δ -> Shared -> Prop} {E : Value -> Shared -> Prop} (h : qX B fr ow G s R Q E ((qD x >>= k) st)) :
  ∃ v, st.lc.lookup x = some v /\ qX B fr ow G s R Q E (k v st) := by
 rw [M.bind_eq] at h
 unfold qD at h
 cases hv : st.lc.lookup x with
 | none => rw [hv] at h; exact h.elim
 | some v => rw [hv] at h; exact ⟨v, rfl, h⟩
theorem KR.len {G : Gst} {kv es} (r : KR G kv es) : es.length = kv.length := by
 induction r with
 | nil => rfl
 | cons _ _ ih => exact congrArg (· + 1) ih
theorem KR.getAt {G : Gst} {kv es} (r : KR G kv es) : ∀ {i : Nat} {k : Str} {v : V}, kv[i]? = some (k, v) -> ∃ c, es[i]? = some (k, c) /\ VR G v c := by
 induction r with
 | nil => intro i k v h; cases h
 | cons a _ ih =>
  intro i k v h
  cases i with
  | zero => cases h; exact ⟨_, rfl, a⟩
  | succ i => exact ih (i := i) h
theorem Kb {es : List (Str × Value)} (hn : (es.map (·.1)).Nodup) {i : Nat} {k : Str} {c : Value} (h : es[i]? = some (k, c)) : valueAt es k = some c := by
 unfold valueAt
 induction es generalizing i with
 | nil => simp at h
 | cons p r ih =>
  obtain ⟨k', c'⟩ := p
  rw [List.map_cons, List.nodup_cons] at hn
  cases i with
  | zero => simp at h; obtain ⟨rfl, rfl⟩ := h; simp
  | succ i =>
   simp at h
   have hm : k ∈ r.map (·.1) := List.mem_map_of_mem (f := (·.1)) (List.mem_of_getElem? h)
   have hne : k' ≠ k := fun q => hn.1 (q ▸ hm)
   have := ih hn.2 h
   simpa [List.find?_cons, hne] using this
inductive OLp (G : Gst) (kv : Fs) (I C D d : Addr) (n : Nat) (ep : Nat) (m : Int) (s0 s : Shared) (j : Nat) (s' : Shared) : Prop
 | mk (h' : Heap) (tk i : Nat) (cs : List Value) (k : Nat) (h0 : s' = { s with heap := h', toks := tk }) (h1 : i <= kv.length) (h2 : j = kv.length - i) (h3 : ∀ b o, s0.heap.get? b = some o -> h'.get? b = some o) (h4 : s0.heap.objs.size <= h'.objs.size) (h5 : h'.IsKeyIter I d i n ep) (mC : Str -> Option Value) (h6 : h'.Ns C mC)
  (h7 : h'.get? D = some (listOf (List.toArray cs) k)) (h8 : VRs G (((kv.take i).filter fun p => kw m p.2).map fun p => .str p.1) cs)
theorem ops_loop {A : Around} {I D C d cl1 cl2 : Addr} {x lv le : Str} {px p1 p2 p3 p4 p5 p6 pos : Pos} {iter : PySem.Expr} {scope : Scope} {cenv : Env} {G : Gst} {s0 s : Shared} {kv : Fs} {es : List (Str × Value)} {ep : Nat} {m : Int} {mt : Tok} {R : Result -> Shared -> Prop}
  (hh : A.handled = none) (hk : cenv.scope.kind = .function) (hC : cenv.locals = C) (hx : cenv.kindOf x = some .local) (hlv : cenv.kindOf lv = some .cell) (hle : cenv.kindOf le = some .cell)
  (hc1 : cenv.cells.lookup lv = some cl1) (hc2 : cenv.cells.lookup le = some cl2) (hv1 : s0.heap.IsCell cl1 (some (.ref d))) (hv2 : s0.heap.IsCell cl2 (some (.int m mt)))
  (hdx : (x == ("__debug__" : Str)) = false) (hdl : (lv == ("__debug__" : Str)) = false) (hde : (le == ("__debug__" : Str)) = false)
  (hD₀ : s0.heap.DictAt (strKind B.prog B.w) d es ep) (hkr : KR G kv es) (hint : kv.all (fun p => Qg p.2) = true) (hz : kv.length <= zh)
  (hI : s0.heap.objs.size <= I) (hDl : s0.heap.objs.size <= D) (hCl : s0.heap.objs.size <= C) (hID : I ≠ D) (hIC : I ≠ C) (hDC : D ≠ C)
  (hkeep : ∀ b o, s0.heap.get? b = some o -> s.heap.get? b = some o) (hsz : s0.heap.objs.size <= s.heap.objs.size) (hit : s.heap.IsKeyIter I d 0 es.length ep) (hns : ∃ mC, s.heap.Ns C mC) (hd : s.heap.get? D = some (listOf #[] 0))
  (hR : ∀ h' tk cs k, (∀ b o, s0.heap.get? b = some o -> h'.get? b = some o) -> s0.heap.objs.size <= h'.objs.size -> (∃ mC, h'.Ns C mC) -> h'.get? D = some (listOf (List.toArray cs) k) -> VRs G ((kv.filter fun p => kw m p.2).map fun p => .str p.1) cs -> R (.ok .next) { s with heap := h', toks := tk }) :
  codeAny (model B.prog B.w) A (.compLoop (.ListComp (.Name x p1) [⟨.Name x px, iter, [.Compare (.Subscript (.Name lv p2) (.Name x p3) p4) [.GtE] [.Name le p5] p6], 0⟩] scope pos) 0 (.ref I) (.ref D) cenv) R s := by
 have ltI : ∀ b o, s0.heap.get? b = some o -> b ≠ I := fun b o e z => absurd (Heap.lt_size e) (Nat.not_lt.mpr (z ▸ hI))
 have ltD : ∀ b o, s0.heap.get? b = some o -> b ≠ D := fun b o e z => absurd (Heap.lt_size e) (Nat.not_lt.mpr (z ▸ hDl))
 have ltC : ∀ b o, s0.heap.get? b = some o -> b ≠ C := fun b o e z => absurd (Heap.lt_size e) (Nat.not_lt.mpr (z ▸ hCl))
 have hnod : (es.map (·.1)).Nodup := hD₀.nodup
 refine codeAny_compLoop_tests (OLp G kv I C D d es.length ep m s0 s) ?_ (kv.length - 0) (hns.elim fun mC hns => ⟨s.heap, s.toks, 0, [], 0, rfl, Nat.zero_le _, rfl, hkeep, hsz, hit, mC, hns, hd, by simpa using VRs.nil⟩)
 rintro j s' ⟨h', tk, i, cs, k, rfl, hi, rfl, kp, sz, it, mC, hmC, hl, vr⟩
 have hlen := hkr.len
 have hdt : h'.DictAt (strKind B.prog B.w) d es ep := hD₀.keep kp
 cases hv : kv[i]? with
 | none =>
  have hge : kv.length <= i := by simpa using hv
  refine Q7 (knd := strKind B.prog B.w) hh it hdt (by simp; exact le2 (eL hlen) hge) fun h₁ g₁ => ?_
  rw [List.take_of_length_le hge] at vr
  exact hR h₁ tk cs k (fun b o e => g₁.1 b o (ltI b o e) (kp b o e)) (Nat.le_trans sz g₁.2) ⟨mC, hmC.extBut g₁.1 (Ne.symm hIC)⟩ (g₁.1 D _ (Ne.symm hID) hl) vr
 | some kvp =>
  refine byC fun zq => ?_
  obtain ⟨key, v⟩ := kvp
  have hlt : i < kv.length := (List.getElem?_eq_some_iff.mp hv).1
  obtain ⟨c, hc, rc⟩ := hkr.getAt hv
  have hvi : Qg v = true := by
   rw [List.all_eq_true] at hint
   exact hint _ (List.mem_of_getElem? hv)
  obtain ⟨q, rfl⟩ : ∃ q, v = .int q := by cases v <;> first | exact ⟨_, rfl⟩ | exact absurd hvi (by simp [Qg])
  obtain ⟨u, rfl⟩ := rc
  refine zq ?_
  refine wpAny_pyNext_dict_item (knd := strKind B.prog B.w) it hdt hc fun kc h₁ hkc it1 hs₁ => ?_
  refine byC fun zq => ?_
  obtain ⟨kt, rfl⟩ : ∃ kt, kc = .str key kt := by
   have hkc2 : Value.isStrOf key kc = true := hkc; cases kc <;> simp [Value.isStrOf] at hkc2
   subst hkc2; exact ⟨_, rfl⟩
  refine zq ?_
  have kp1 : ∀ b o, s0.heap.get? b = some o -> h₁.get? b = some o := fun b o e => (hs₁.2 b (ltI b o e)).trans (kp b o e)
  have ns1 : h₁.Ns cenv.locals mC := by rw [hC]; exact hmC.sameBut hs₁ (Ne.symm hIC)
  refine wpAny_assign_Name (wpAny_storeName_local hx ns1 (fun h₂ ns2 hs₂ => ?_) (by rw [hk]; rfl))
  rw [hC] at hs₂ 
  have kp₂ : ∀ b o, s0.heap.get? b = some o -> h₂.get? b = some o := fun b o e => (hs₂.2 b (ltC b o e)).trans (kp1 b o e)
  have sz₂ : s0.heap.objs.size <= h₂.objs.size := by rw [hs₂.1, hs₁.1]; exact sz
  have it2 : h₂.IsKeyIter I d (i + 1) es.length ep := it1.extBut hs₂.extBut hIC
  have hl₂ : h₂.get? D = some (listOf (List.toArray cs) k) := (hs₂.2 D hDC).trans ((hs₁.2 D (Ne.symm hID)).trans hl)
  have nsx : (fun y => if y = x then some (Value.str key kt) else mC y) x = some (.str key kt) := if_pos rfl
  refine wpAny_tests_one (wpAny_isTrue_Compare1 (Subscript_ (wpAny_Name (wpAny_loadName_cell hk hlv hc1 (hv1.keeps kp₂) ?_) hdl)))
  refine wpAny_Name (wpAny_loadName_local hk hx ns2 nsx ?_) hdx
  refine tail_any (hD₀.keep kp₂).dictOf.typeIs slot_dict_getitem.lookup (wpAny_getItem_of (strKind_is _ _ _ _) (hD₀.keep kp₂).dictOf.mapOf (Kb hnod hc) ?_) rfl
  refine wpAny_Name (wpAny_loadName_cell hk hle hc2 (hv2.keeps kp₂) ?_) hde
  refine ge_int (wpAny_truthy_bool ?_)
  have htk : ((kv.take (i + 1)).filter fun p => kw m p.2) = ((kv.take i).filter fun p => kw m p.2) ++ (if kw m (.int q) then [(key, V.int q)] else []) := take_succ_filter (fun p => kw m p.2) kv i _ hv
  have hgd : kw m (.int q) = decide (m <= q) := rfl
  rw [hgd] at htk
  by_cases hmq : m <= q
  ·rw [decide_eq_true hmq] at htk ⊢
   simp only [if_true] at htk ⊢
   refine wpAny_Name (wpAny_loadName_local hk hx ns2 nsx ?_) hdx
   have hcs : cs.length <= zh := by
    rw [<- vr.length, List.length_map]
    exact Nat.le_trans (List.length_filter_le _ _) (Nat.le_trans (List.length_take_le _ _) (by exact le2 hi hz))
   refine append_at hl₂ (fun h₃ hs₃ hl3 => ?_) (by have := jF; rw [List.size_toArray]; exact le2 hcs this)
   refine ⟨kv.length - (i + 1), by lia, h₃, _, i + 1, cs ++ [.str key kt], k + 1, rfl, hlt, rfl, fun b o e => (hs₃.2 b (ltD b o e)).trans (kp₂ b o e), by rw [hs₃.1]; exact sz₂, it2.extBut hs₃.extBut hID, _, (hC ▸ ns2).sameBut hs₃ (Ne.symm hDC), ?_, ?_⟩
   ·rw [hl3]
    have : (List.toArray cs).push (Value.str key kt) = (cs ++ [Value.str key kt]).toArray := by simp
    rw [this]
   ·rw [htk, List.map_append]
    exact vr.append (.cons ⟨_, rfl⟩ .nil)
  ·rw [decide_eq_false hmq] at htk ⊢
   simp only [Bool.false_eq_true, if_false, List.append_nil] at htk ⊢
   refine ⟨kv.length - (i + 1), by lia, h₂, _, i + 1, cs, k, rfl, hlt, rfl, kp₂, sz₂, it2, _, hC ▸ ns2, hl₂, ?_⟩
   rw [htk]; exact vr
theorem sim_ops {x y lv le : Str} {px py p0 p1 p2 p3 p4 p5 p6 pos spos : Pos} {scope : Scope} (bo : B.Ok) (ok : FrG fr)
  (hsw : swapsWith (.ListComp (.Name x p1) [⟨.Name x px, .Name lv p0, [.Compare (.Subscript (.Name lv p2) (.Name x p3) p4) [.GtE] [.Name le p5] p6], 0⟩] scope pos) (some (.Name y py)) spos.line fr.env = pure true)
  (hclos : ∀ c1 c2, fr.env.cells.lookup lv = some c1 -> fr.env.cells.lookup le = some c2 -> ∃ cl, closureFor scope fr.env = pure cl /\ cl.lookup lv = some c1 /\ cl.lookup le = some c2)
  (hcell : ∀ z ∈ scope.names, z.2 ≠ .cell) (hk : scope.kind = .function) (hnames : ∀ z ∈ scope.names, z.2 = .local -> scope.names.lookup z.1 = some .local) (hx : scope.names.lookup x = some .local)
  (hr1 : (relabel scope fr.env).names.lookup lv = some .cell) (hr2 : (relabel scope fr.env).names.lookup le = some .cell)
  (hy : fr.env.kindOf y = some .local) (hlv : fr.env.kindOf lv = some .cell) (hle : fr.env.kindOf le = some .cell)
  (hdx : (x == ("__debug__" : Str)) = false := by decide) (hdl : (lv == ("__debug__" : Str)) = false := by decide) (hde : (le == ("__debug__" : Str)) = false := by decide) :
  Sim B n fr fr.own FR (exec (.Assign [.Name y py] (.ListComp (.Name x p1) [⟨.Name x px, .Name lv p0, [.Compare (.Subscript (.Name lv p2) (.Name x p3) p4) [.GtE] [.Name le p5] p6], 0⟩] scope pos) spos) fr.env) (sOps y lv le) := by
 refine ⟨?_⟩
 intro A G st s o i Q E h
 refine byC fun zq => ?_
 obtain ⟨dv, hd1, g1⟩ := h.loc
 obtain ⟨kvv, hd2, g2⟩ := g1.loc
 refine zq ?_
 clear h g1
 refine byC fun zq => ?_
 obtain ⟨cd, rd, hrd⟩ := i.nm lv dv hd1
 obtain ⟨ck, rk, hrk⟩ := i.nm le kvv hd2
 refine zq ?_
 rw [M.bind_eq] at g2
 unfold pOps at g2
 cases hdv : dictAt st.hp dv with
 | none => rw [hdv] at g2; exact g2.elim
 | some kv =>
 rw [hdv] at g2
 cases kvv with
 | int m =>
  dsimp only at g2
  by_cases hc : kv.all (fun p => Qg p.2) = true /\ kv.length <= zh /\ (kv.map (·.1)).Nodup
  rotate_left
  ·rw [if_neg hc] at g2; exact g2.elim
  rw [if_pos hc] at g2
  refine byC fun zq => ?_
  obtain ⟨hint, hz, hnod⟩ := hc
  obtain ⟨mt, rfl⟩ := rk
  refine zq ?_
  obtain ⟨j, rfl, hj⟩ := Z0 hdv
  refine byC fun zq => ?_
  obtain ⟨d, rfl, gd⟩ := rd
  obtain ⟨es, hdict, hkr, hds⟩ := yw i.good gd hj
  obtain ⟨ep, hDA⟩ := hdict.dictAt
  refine zq ?_
  unfold Rd at hrd hrk
  rw [hlv] at hrd
  rw [hle] at hrk
  refine byC fun zq => ?_
  obtain ⟨c1, hc1, hv1⟩ := hrd
  obtain ⟨c2, hc2, hv2⟩ := hrk
  obtain ⟨cl, hcl, hl1, hl2⟩ := hclos c1 c2 hc1 hc2
  refine zq ?_
  rw [exec_Assign_Name_used _ _ _ _ hsw]
  refine wpAny_bind (wpAny_standAt (wpAny_bind ?_))
  show wpAny _ A (do let _ <- comprehension (.ListComp (.Name x p1) [⟨.Name x px, .Name lv p0, [.Compare (.Subscript (.Name lv p2) (.Name x p3) p4) [.GtE] [.Name le p5] p6], 0⟩] scope pos) scope fr.env _ (newList []) false (eval (.Name lv p0) fr.env) (some (assign (.Name y py) fr.env))) _ _ s
  refine wpAny_bind (wpAny_mono (wpAny_comprehension_free (Q := fun _ s' => Q .next s') (use := some (assign (.Name y py) fr.env)) (E := E) rfl (by intro _; rfl) hcl hk hnames ?_) (fun _ s' hq => wpAny_pure (wpAny_pure hq)) fun _ _ e => e)
  refine wpAny_Name (wpAny_loadName_cell ok.kind hlv hc1 hv1 ?_) hdl
  refine wpAny_pyIter_dict hds hDA (wpAny_newObj_type (hd := by size_fits) (wpAny_newFunctionEnv hcell (by intro y hy; simp at hy) (fun h₁ hns1 hsb1 => ?_) hk))
  dsimp only at hns1 hsb1 ⊢
  generalize hH1 : s.heap.push { cls := .type "dict_keyiterator", data := .fields #[.ref d, .int 0 0, .int es.length 0, .int ep 0] } = H1 at hns1 hsb1 ⊢
  have hD : H1.objs.size = s.heap.objs.size + 1 := by rw [<- hH1, Heap.size_push]
  generalize hH2 : H1.push { cls := .type "list", dict := none, data := .seq ([] : List Value).toArray } = H2 at hns1 hsb1 ⊢
  have hC : H2.objs.size = s.heap.objs.size + 2 := by rw [<- hH2, Heap.size_push, hD]
  have hs1 : h₁.objs.size = s.heap.objs.size + 3 := by rw [hsb1.1, Heap.size_push, hC]
  have lt : ∀ b o, s.heap.get? b = some o -> b < s.heap.objs.size := fun b o e => Heap.lt_size e
  have old : ∀ b o, s.heap.get? b = some o -> h₁.get? b = some o := fun b o e =>
   hsb1.extBut b o (Nat.ne_of_lt (Nat.lt_of_lt_of_le (lt b o e) (by exact le1 (eR hC)))) (Heap.get?_push_of_some _ (hH2 ▸ Heap.get?_push_of_some _ (hH1 ▸ Heap.get?_push_of_some _ e)))
  have hit : h₁.get? s.heap.objs.size = some { cls := .type "dict_keyiterator", data := .fields #[.ref d, .int 0 0, .int es.length 0, .int ep 0] } :=
   hsb1.extBut _ _ (Nat.ne_of_lt (by exact lt1 (eR hC))) (Heap.get?_push_of_some _ (hH2 ▸ Heap.get?_push_of_some _ (hH1 ▸ Heap.get?_push_size _ rfl)))
  have hacc : h₁.get? H1.objs.size = some (listOf #[] 0) := hsb1.extBut _ _ (Nat.ne_of_lt (by exact lt2 (eL hD) (eR hC))) (Heap.get?_push_of_some _ (hH2 ▸ Heap.get?_push_size _ rfl))
  refine byC fun zq => ?_
  obtain ⟨D1, D2, D3, D4⟩ := i.nobody (a := H1.objs.size) (by exact le1 (eR hD))
  obtain ⟨C1, C2, C3, C4⟩ := i.nobody (a := H2.objs.size) (by exact le1 (eR hC))
  refine zq ?_
  have loop : ∀ s2 : Shared, s2 = { s with heap := h₁, toks := s.toks + ([] : List (Str × Value)).length } -> codeAny (model B.prog B.w) A (.compLoop (.ListComp (.Name x p1) [⟨.Name x px, .Name lv p0, [.Compare (.Subscript (.Name lv p2) (.Name x p3) p4) [.GtE] [.Name le p5] p6], 0⟩] scope pos) 0 (.ref s.heap.objs.size) (.ref H1.objs.size) (compEnvC scope cl H2.objs.size fr.env))
    (compPost (model B.prog B.w) A E (some (assign (.Name y py) fr.env)) (fun _ s' => Q .next s') (.ref H1.objs.size) H2.objs.size) s2 := by
   rintro s2 rfl
   have h' : qX B fr fr.own G s FR Q E (.ok .nxt ⟨zT y (.lst ((kv.filter fun p => kw m p.2).map fun p => .str p.1)) st.lc, st.hp⟩) := g2
   refine ops_loop (B := B) (C := H2.objs.size) (s0 := s) (cl1 := c1) (cl2 := c2) (d := d) (mt := mt) o.handled hk rfl (lookup_relabel_local hx) hr1 hr2 hl1 hl2 hv1 hv2 hdx hdl hde hDA hkr hint hz (Nat.le_refl _) (by exact le1 (eR hD)) (by exact le1 (eR hC))
    (Nat.ne_of_lt (by exact lt1 (eR hD))) (Nat.ne_of_lt (by exact lt1 (eR hC))) (Nat.ne_of_lt (by exact lt2 (eL hD) (eR hC))) old (by show _ <= h₁.objs.size; exact le1 (eR hs1)) ⟨_, hit, rfl, rfl⟩ ⟨_, hns1⟩ hacc fun h₂ tk cs k kp sz ⟨mC, hmC⟩ hl vr => ?_
   obtain ⟨x₁, i₁⟩ := i.grow (ow := fr.own) (s' := { s with heap := h₂, toks := tk }) kp sz ⟨rfl, rfl⟩
   have i₂ := i₁.put (y := .fz (.lst ((kv.filter fun p => kw m p.2).map fun p => .str p.1))) D1 D2 D3 D4 (fun _ _ q => q) ⟨k, cs.toArray, hl, by simpa using vr.mono (zN.le D1)⟩ (fun _ _ q => nomatch q) (fun _ _ q => nomatch q)
   have x₂ := Ext.put (y := .fz (.lst ((kv.filter fun p => kw m p.2).map fun p => .str p.1))) D1 x₁ (show s.heap.objs.size <= H1.objs.size by exact le1 (eR hD))
   refine wpAny_assign_Name (kl ok.toFrOk i₂ (v := .lst ((kv.filter fun p => kw m p.2).map fun p => .str p.1)) ⟨_, rfl, zN.self⟩ (.inl hy) fun s3 x₃ i3 => ?_)
   have gC : zN G H1.objs.size (.fz (.lst ((kv.filter fun p => kw m p.2).map fun p => .str p.1))) H2.objs.size = none := by rw [zN.other (Nat.ne_of_gt (by exact lt2 (eL hD) (eR hC)))]; exact C1
   obtain ⟨oC, esC, epC, w1, w2⟩ := hmC
   refine ⟨mC, ⟨oC, esC, epC, x₃.keep _ _ C3 gC w1, w2⟩, fun h₄ hs₄ => ?_⟩
   exact h' _ _ _ ((x₂.trans x₃).same (s' := { s3 with heap := h₄ }) (show s.heap.objs.size <= H2.objs.size by exact le1 (eR hC)) hs₄ ⟨rfl, rfl⟩) (i3.off (s' := { s3 with heap := h₄ }) hs₄ ⟨rfl, rfl⟩ gC C2 C3 C4) rfl
  exact codeAny_compStart_list (loop _ rfl) (wpAny_pyIter_keyiter ⟨_, hit, rfl, rfl⟩ (loop _ rfl))
 | _ => exact g2.elim
end
noncomputable def xE : List Str -> List V -> M Unit
 | [], [] => pure ()
 | x :: xs, v :: vs => xL x v >>= fun _ => xE xs vs
 | _, _ => zC
noncomputable def xh (xs : List Str) (v : V) : M Unit := match v with | .tup l => if l.length = xs.length then xE xs l else zC | _ => zC
noncomputable def jy (xs : List Str) (e : M V) : M Fl := e >>= fun v => xh xs v >>= fun _ => pure .nxt
noncomputable def wM (xs : List Str) (v : V) : M Unit := match v with | .tup l => if l.length = xs.length then xE xs.reverse l.reverse else zC | _ => zC
noncomputable def QI (xs : List Str) (e : M V) : M Fl := e >>= fun v => wM xs v >>= fun _ => pure .nxt
section
variable {prog : Program} {w : World} {A : Around} {E : Value -> Shared -> Prop} {s : Shared}
theorem QU {it t : Addr} {i : Nat} {items} {Q : Option Value -> Shared -> Prop} (hh : A.handled = none)
  (hit : s.heap.IsTupleIter it t i) (ht : s.heap.IsTuple t items) (hx : items[i]? = none)
  (hQ : ∀ h', kX it s.heap h' -> Q none { s with heap := h' }) : wpAny (model prog w) A (pyNext (.ref it)) Q E s := by
 obtain ⟨o, ho, hc, hd⟩ := id hit
 obtain ⟨ol, hol, _, nl, hdl⟩ := ht
 unfold pyNext
 refine wpAny_bind (wpAny_attempt (wpAny_callSpecial?_slot (name := Str.ofString "__next__") hit.typeIs PySem.F.slot_tuple_iterator_next
  (wpAny_call_entry PySem.F.slot_tuple_iterator_next hit.typeIs PySem.F.entry_tuple_iterator_next ?_ (PySem.F.args_tuple_iterator_next_1 _))))
 show wpAny _ _ (field (.ref it) 0 >>= _) _ _ s
 refine wpAny_bind (wpAny_field ho hd (x := .ref t) rfl ?_)
 show wpAny _ _ (if (Value.ref t == Value.none) = true then _ else _) _ _ s
 rw [if_neg (show ¬ ((Value.ref t == Value.none) = true) from Bool.false_ne_true)]
 show wpAny _ _ (field (.ref it) 1 >>= _) _ _ s
 refine wpAny_bind (wpAny_field ho hd (x := .int i 0) rfl ?_)
 show wpAny _ _ (seqItems? (.ref t) >>= _) _ _ s
 refine wpAny_bind (wpAny_seqItems hol hdl ?_)
 simp only [Int.toNat_natCast, hx]
 refine wpAny_bind (wpAny_rule (wpAny_bind (wpAny_setField ho hd (by simp) ?_)))
 refine k9 (s := s) (it := it) hh ⟨(Heap.SameBut.update ..).extBut, Nat.le_of_eq (Heap.size_after_update ..).symm⟩ fun e h' hg ⟨oe, he, hc⟩ => ?_
 refine wpAny_bind (wpAny_isInstance (T := "StopIteration") (b := true) ⟨_, he, hc⟩ isSubtype_stop ?_)
 exact wpAny_pure (hQ _ hg)
theorem xV {t : Addr} {items : Array Value} {k : Nat} {Q : List Value -> Shared -> Prop} (hh : A.handled = none) (ht : s.heap.IsTuple t items) (hk : k = items.size)
  (hQ : ∀ h', (∀ b o, s.heap.get? b = some o -> h'.get? b = some o) -> s.heap.objs.size <= h'.objs.size -> Q items.toList { s with heap := h' }) : wpAny (model prog w) A (unpackItems (.ref t) k none) Q E s := by
 subst hk
 have hlt : t ≠ s.heap.objs.size := by obtain ⟨o, ho, _⟩ := ht; exact Nat.ne_of_lt (Heap.lt_size ho)
 unfold unpackItems
 refine wpAny_bind ?_
 unfold notIterableAtAll
 refine wpAny_bind (wpAny_specialOf ht.typeIs PySem.F.slot_tuple_iter.lookup (wpAny_pure ?_))
 simp only [Bool.false_eq_true, if_false]
 refine wpAny_bind (wpAny_holding (wpAny_pyIter_tuple ht ?_))
 refine wpAny_bind (wpAny_holding (wpAny_draw_tuple hlt items.size 0 _ _ ⟨_, Heap.get?_push_size _ rfl, rfl, rfl⟩ (ht.push _) (by exact le0) fun h₁ hit1 hs₁ => ?_))
 have hall : List.take items.size (List.drop 0 items.toList) = items.toList := by rw [List.drop_zero]; exact List.take_of_length_le (by simp)
 rw [hall, if_neg (by simp)]
 refine wpAny_bind (wpAny_holding (QU hh hit1 ((ht.push _).extBut hs₁.extBut hlt) (by simp) fun h₂ g₂ => ?_))
 simp only [Option.isSome_none, Bool.false_eq_true, if_false]
 refine wpAny_pure (hQ h₂ (fun b o e => ?_) ?_)
 ·have hb : b ≠ s.heap.objs.size := Nat.ne_of_lt (Heap.lt_size e)
  exact g₂.1 b o hb (hs₁.extBut b o hb (Heap.get?_push_of_some _ e))
 ·have := g₂.2
  rw [hs₁.1, Heap.size_push] at this; exact le1 this
end
section
variable {B : Bs} {n : Nat} {fr : Frm} {ow : Addr -> Prop}
inductive TN (fr : Frm) : List PySem.Expr -> List Str -> Prop
 | nil : TN fr [] []
 | cons {x p es xs} : fr.env.kindOf x = some .local -> TN fr es xs -> TN fr (.Name x p :: es) (x :: xs)
theorem TN.len {es xs} (h : TN fr es xs) : (assignEach es fr.env).length = xs.length := by
 induction h with
 | nil => rfl
 | cons _ _ ih => exact congrArg (· + 1) ih
theorem TN.star {es xs} (h : TN fr es xs) : (assignEach es fr.env).findIdx? (·.1) = none := by
 induction h with
 | nil => rfl
 | @cons p x es xs _ r ih =>
  show ((false, assign (.Name _ _) fr.env) :: assignEach _ fr.env).findIdx? (·.1) = none
  rw [List.findIdx?_cons, ih]; rfl
theorem wp_sets {A : Around} {G : Gst} {β : Type} {k : Unit -> M β} {R' : Gst -> β -> Flow -> Prop} {Q : Flow -> Shared -> Prop} {Q₁ : Unit -> Shared -> Prop} {E : Value -> Shared -> Prop} (ok : FrOk fr) : ∀ (es : List PySem.Expr) (xs : List Str) (vs : List V) (cs : List Value) (st : St) (s : Shared), TN fr es xs -> Inv B fr G st s -> VRs G vs cs ->
  vs.length = xs.length -> qX B fr fr.own G s R' Q E ((xE xs vs >>= k) st) -> (∀ st' s', Inv B fr G st' s' -> qX B fr fr.own G s' R' Q E (k () st') -> Q₁ () s') -> wpAny (model B.prog B.w) A (assignInOrder ((assignEach es fr.env).map (·.2)) cs) Q₁ E s := by
 intro es xs vs cs st s hT
 induction hT generalizing vs cs st s with
 | nil =>
  intro i r hl h hq
  cases r with
  | nil => exact wpAny_pure (hq st s i h)
  | cons _ _ => cases hl
 | @cons x p es xs hx _ ih =>
  intro i r hl h hq
  cases r with
  | nil => cases hl
  | @cons v c vs cs rv rr =>
   show wpAny _ _ (assignInOrder (assign (.Name x p) fr.env :: (assignEach es fr.env).map (·.2)) (c :: cs)) _ _ _
   refine assignInOrder_cons (assign_Name (kl ok i rv (.inl hx) fun s' x' i' => ?_))
   exact ih vs cs _ s' i' rr (Nat.succ.inj hl) (h.ext x') hq
theorem jV {e : M V} {es : List PySem.Expr} {xs : List Str} {k : Nat} {v : PySem.Expr} {p pos : Pos} (ok : FrOk fr) (hT : TN fr es xs) (h1 : Sim B n fr fr.own VR (eval v fr.env) e)
  (hs : swapsWithSole [.Tuple es k p] v pos.line fr.env = pure false := by rfl) (hw : swappedStores [.Tuple es k p] v fr.env = pure none := by rfl) :
  Sim B n fr fr.own FR (exec (.Assign [.Tuple es k p] v pos) fr.env) (jy xs e) := by
 refine ⟨?_⟩
 intro A G st s o i Q E h
 refine Assign_Tuple (h1.run A G st s o i _ _ (h.bind ?_)) hs hw
 intro v st' s' G' c x' i' r h'
 cases v with
 | tup l =>
  unfold xh at h'
  dsimp only at h'
  by_cases hl : l.length = xs.length
  rotate_left
  ·rw [if_neg hl] at h'; exact h'.elim
  rw [if_pos hl] at h'
  obtain ⟨a, rfl, ga⟩ := r
  obtain ⟨k0, cs, q1, q2⟩ := xq i'.good ga
  show wpAny _ _ (do standAt p; unpack (.ref a) (assignEach es fr.env)) _ _ _
  refine wpAny_bind (wpAny_standAt ?_)
  unfold unpack
  rw [hT.len, hT.star]
  have hcs : cs.toList.length = xs.length := by rw [<- q2.length]; exact hl
  refine wpAny_bind (wpAny_holding (xV o.handled ⟨_, q1, rfl, k0, rfl⟩ (by rw [<- hcs]; simp) fun h₂ hk hz => ?_))
  obtain ⟨x₂, i₂⟩ := i'.grow (ow := fr.own) (s' := { s' with heap := h₂ }) hk hz ⟨rfl, rfl⟩
  exact wp_sets ok es xs l cs.toList st' _ hT i₂ q2 hl (h'.ext x₂) fun st3 s3 i3 h₃ => h₃.ok i3 rfl
 | _ => exact h'.elim
inductive TNn (fr : Frm) : List Str -> Prop
 | nil : TNn fr []
 | cons {x xs} : fr.env.kindOf x = some .local -> TNn fr xs -> TNn fr (x :: xs)
theorem wp_setsR {A : Around} {G : Gst} {β : Type} {k : Unit -> M β} {R' : Gst -> β -> Flow -> Prop} {Q : Flow -> Shared -> Prop} {Q₁ : Unit -> Shared -> Prop} {E : Value -> Shared -> Prop} (ok : FrOk fr) : ∀ (xs : List Str) (vs : List V) (cs : List Value) (st : St) (s : Shared), TNn fr xs -> Inv B fr G st s -> VRs G vs cs ->
  vs.length = xs.length -> qX B fr fr.own G s R' Q E ((xE xs vs >>= k) st) -> (∀ st' s', Inv B fr G st' s' -> qX B fr fr.own G s' R' Q E (k () st') -> Q₁ () s') -> wpAny (model B.prog B.w) A (assignInOrder (xs.map fun n => bindName fr.env n) cs) Q₁ E s := by
 intro xs vs cs st s hT
 induction hT generalizing vs cs st s with
 | nil =>
  intro i r hl h hq
  cases r with
  | nil => exact wpAny_pure (hq st s i h)
  | cons _ _ => cases hl
 | @cons x xs hx _ ih =>
  intro i r hl h hq
  cases r with
  | nil => cases hl
  | @cons v c vs cs rv rr =>
   show wpAny _ _ (assignInOrder (bindName fr.env x :: xs.map fun n => bindName fr.env n) (c :: cs)) _ _ _
   refine assignInOrder_cons (bindName_ (kl ok i rv (.inl hx) fun s' x' i' => ?_))
   exact ih vs cs _ s' i' rr (Nat.succ.inj hl) (h.ext x') hq
theorem VRs.rev {G : Gst} {vs cs} (h : VRs G vs cs) : VRs G vs.reverse cs.reverse := by
 induction h with
 | nil => exact .nil
 | cons a _ ih => rw [List.reverse_cons, List.reverse_cons]; exact ih.append (.cons a .nil)
theorem TNn.app {xs ys} (h : TNn fr xs) (k : TNn fr ys) : TNn fr (xs ++ ys) := by
 induction h with
 | nil => exact k
 | cons a _ ih => exact .cons a ih
theorem TNn.rev {xs} (h : TNn fr xs) : TNn fr xs.reverse := by
 induction h with
 | nil => exact .nil
 | cons a _ ih => rw [List.reverse_cons]; exact ih.app (.cons a .nil)
theorem JO {e : M V} {es : List PySem.Expr} {xs : List Str} {k : Nat} {v : PySem.Expr} {p pos : Pos} (ok : FrOk fr) (hT : TNn fr xs) (h1 : Sim B n fr fr.own VR (eval v fr.env) e)
  (hw : swappedStores [.Tuple es k p] v fr.env = pure (some xs)) (hs : swapsWithSole [.Tuple es k p] v pos.line fr.env = pure false := by rfl) :
  Sim B n fr fr.own FR (exec (.Assign [.Tuple es k p] v pos) fr.env) (QI xs e) := by
 refine ⟨?_⟩
 intro A G st s o i Q E h
 refine Assign_Tuple_swapped (h1.run A G st s o i _ _ (h.bind ?_)) hs hw
 intro v st' s' G' c x' i' r h'
 cases v with
 | tup l =>
  unfold wM at h'
  dsimp only at h'
  by_cases hl : l.length = xs.length
  rotate_left
  ·rw [if_neg hl] at h'; exact h'.elim
  rw [if_pos hl] at h'
  obtain ⟨a, rfl, ga⟩ := r
  obtain ⟨k0, cs, q1, q2⟩ := xq i'.good ga
  have hcs : cs.toList.length = xs.length := by rw [<- q2.length]; exact hl
  refine xV o.handled ⟨_, q1, rfl, k0, rfl⟩ (by rw [<- hcs]; simp) fun h₂ hk hz => ?_
  obtain ⟨x₂, i₂⟩ := i'.grow (ow := fr.own) (s' := { s' with heap := h₂ }) hk hz ⟨rfl, rfl⟩
  exact wp_setsR ok xs.reverse l.reverse cs.toList.reverse st' _ hT.rev i₂ q2.rev (by simp [hl]) (h'.ext x₂) fun st3 s3 i3 h₃ => h₃.ok i3 rfl
 | _ => exact h'.elim
end
noncomputable def xi (v : V) : M Unit := fun s => if (qo s.hp v).isSome then .ok () s else .stuck
noncomputable def Zp : V -> Option Nat
 | .ref j => some j
 | _ => none
theorem refV_ {v : V} {j : Nat} (h : Zp v = some j) : v = .ref j := by cases v <;> first | (cases h; rfl) | cases h
noncomputable def lstC (hp : Hp) (j : Nat) : Option (Nat × List V) := match hp[j]? with | some (.lst l) => some (j, l) | _ => none
noncomputable def dctC (hp : Hp) (j : Nat) : Option (Nat × Fs) := match hp[j]? with | some (.dct l) => some (j, l) | _ => none
theorem lstC_ {hp : Hp} {k j : Nat} {l : List V} (h : lstC hp k = some (j, l)) : k = j /\ hp[j]? = some (.lst l) := by
 unfold lstC at h
 cases q : hp[k]? with
 | none => rw [q] at h; cases h
 | some c => rw [q] at h; cases c <;> first | (cases h; exact ⟨rfl, q⟩) | cases h
theorem dctC_ {hp : Hp} {k j : Nat} {l : Fs} (h : dctC hp k = some (j, l)) : k = j /\ hp[j]? = some (.dct l) := by
 unfold dctC at h
 cases q : hp[k]? with
 | none => rw [q] at h; cases h
 | some c => rw [q] at h; cases c <;> first | (cases h; exact ⟨rfl, q⟩) | cases h
noncomputable def j6 (hp : Hp) (v : V) : Option (Nat × List V) := (Zp v).bind (lstC hp)
theorem cellList_ {hp : Hp} {v : V} {j : Nat} {l : List V} (h : j6 hp v = some (j, l)) : v = .ref j /\ hp[j]? = some (.lst l) :=
 (Option.bind_eq_some_iff.mp h).elim fun k q => have r := lstC_ q.2; ⟨r.1 ▸ refV_ q.1, r.2⟩
noncomputable def kK (l v : V) : M V := fun s => match j6 s.hp l with
 | some (j, xs) => if xs.length <= zh then .ok .none ⟨s.lc, s.hp.set j (.lst (xs ++ [v]))⟩ else .stuck
 | none => .stuck
noncomputable def ze (o e : M V) : M V := o >>= fun l => xi l >>= fun _ => e >>= fun v => kK l v
noncomputable def pPop (l : V) : M V := fun s => match j6 s.hp l with
 | some (j, xs) => if xs.length <= zh then match xs.getLast? with | some v => .ok v ⟨s.lc, s.hp.set j (.lst xs.dropLast)⟩ | none => .stuck else .stuck
 | none => .stuck
noncomputable def Kv (o : M V) : M V := o >>= pPop
noncomputable def zv (hp : Hp) (v : V) : Option (Nat × Fs) := (Zp v).bind (dctC hp)
theorem cellDict_ {hp : Hp} {v : V} {j : Nat} {l : Fs} (h : zv hp v = some (j, l)) : v = .ref j /\ hp[j]? = some (.dct l) :=
 (Option.bind_eq_some_iff.mp h).elim fun k q => have r := dctC_ q.2; ⟨r.1 ▸ refV_ q.1, r.2⟩
noncomputable def jM (c i v : V) : M Unit := fun s => match i with
 | .int k => match j6 s.hp c with
  | some (j, xs) => if 0 <= k /\ k < xs.length /\ xs.length <= zh then .ok () ⟨s.lc, s.hp.set j (.lst (xs.set k.toNat v))⟩ else .stuck
  | none => .stuck
 | .str x => match zv s.hp c with
  | some (j, kv) => if kv.length <= zh then .ok () ⟨s.lc, s.hp.set j (.dct (zT x v kv))⟩ else .stuck
  | none => .stuck
 | _ => .stuck
noncomputable def xd (o i e : M V) : M Fl := e >>= fun v => o >>= fun ov => i >>= fun iv => jM ov iv v >>= fun _ => pure .nxt
noncomputable def Jj (op : Operator) (a b : V) : M V := match op with
 | .Add => on2 (kP a) (kP b) (fun x y => pure (.int (x + y))) zC
 | .Sub => on2 (kP a) (kP b) (fun x y => pure (.int (x - y))) zC
 | .FloorDiv => on2 (kP a) (kP b) (fun x y => if y ≠ 0 /\ y.natAbs < 1073741824 then pure (.int (x.fdiv y)) else zC) zC
 | _ => zC
noncomputable def sAug (op : Operator) (x : Str) (e : M V) : M Fl := qD x >>= fun a => e >>= fun b => Jj op a b >>= fun v => xL x v >>= fun _ => pure .nxt
noncomputable def jQ (op : Operator) (o i e : M V) : M Fl := o >>= fun ov => i >>= fun iv => zS ov iv >>= fun a => e >>= fun b => Jj op a b >>= fun v => jM ov iv v >>= fun _ => pure .nxt
noncomputable def Zh : Fs -> Fs -> Fs
 | kv, [] => kv
 | kv, (x, v) :: r => Zh (zT x v kv) r
noncomputable def wn (d e : V) : M V := fun s => match zv s.hp d, zv s.hp e with
 | some (j, kv), some (i, more) => if i ≠ j /\ kv.length + more.length <= zh then .ok .none ⟨s.lc, s.hp.set j (.dct (Zh kv more))⟩ else .stuck
 | _, _ => .stuck
noncomputable def xj (v : V) : M Unit := fun s => if (zv s.hp v).isSome then .ok () s else .stuck
noncomputable def Zz (o e : M V) : M V := o >>= fun l => xj l >>= fun _ => e >>= fun v => wn l v
section
variable {B : Bs} {n : Nat} {fr : Frm} {ow : Addr -> Prop}
inductive ClR (G : Gst) (st : St) (h : Heap) (j : Nat) (l : List V) (c : Value) : Prop
 | mk (a : Addr) (k : Nat) (cs : Array Value) (h1 : c = .ref a) (h2 : G a = some (.cl j)) (h3 : st.hp[j]? = some (.lst l)) (h4 : h.get? a = some (listOf cs k)) (h5 : VRs G l cs.toList)
inductive CdR (B : Bs) (G : Gst) (st : St) (h : Heap) (j : Nat) (kv : Fs) (c : Value) : Prop
 | mk (a : Addr) (es : List (Str × Value)) (h1 : c = .ref a) (h2 : G a = some (.cl j)) (h3 : st.hp[j]? = some (.dct kv)) (h4 : h.DictOf (strKind B.prog B.w) a es) (h5 : KR G kv es) (h6 : (a == sysModules) = false)
theorem wV {G : Gst} {st : St} {s : Shared} (i : Inv B fr G st s) {v : V} {c : Value} {j : Nat} {l : List V} (hv : VR G v c) (e : j6 st.hp v = some (j, l)) : ClR G st s.heap j l c := by
 obtain ⟨rfl, q⟩ := cellList_ e
 obtain ⟨a, rfl, ga⟩ := hv
 obtain ⟨k, cs, h1, h2⟩ := Zx i.good ga q
 exact ⟨a, k, cs, rfl, ga, q, h1, h2⟩
theorem vB {G : Gst} {st : St} {s : Shared} (i : Inv B fr G st s) {v : V} {c : Value} {j : Nat} {kv : Fs} (hv : VR G v c) (e : zv st.hp v = some (j, kv)) : CdR B G st s.heap j kv c := by
 obtain ⟨rfl, q⟩ := cellDict_ e
 obtain ⟨a, rfl, ga⟩ := hv
 obtain ⟨es, h1, h2, h3⟩ := yw i.good ga q
 exact ⟨a, es, rfl, ga, q, h1, h2, h3⟩
theorem VRs.size {G : Gst} {l : List V} {cs : Array Value} (r : VRs G l cs.toList) : l.length = cs.size := by rw [r.length]; simp
theorem Inv.turnL {G : Gst} {st : St} {s : Shared} {h' : Heap} {a : Addr} {j : Nat} {l l' : List V} {cs : Array Value} {k tk : Nat} (i : Inv B fr G st s) (hs : Heap.SameBut a s.heap h') (ga : G a = some (.cl j)) (hj : st.hp[j]? = some (.lst l))
  (ho : h'.get? a = some (listOf cs k)) (hr : VRs G l' cs.toList) : Ext ow G s G { s with heap := h', toks := tk } /\ Inv B fr G ⟨st.lc, st.hp.set j (.lst l')⟩ { s with heap := h', toks := tk } :=
 i.turn (s' := { s with heap := h', toks := tk }) (c := .lst l') hs ⟨rfl, rfl⟩ (.inl ⟨ga, fun _ _ q => by rw [hj] at q; cases q⟩) fun g e => by
  rw [ga] at e; cases e
  simp only [OR, List.getElem?_set_self (List.getElem?_eq_some_iff.mp hj).1]
  exact ⟨k, cs, ho, hr⟩
theorem Inv.turnD {G : Gst} {st : St} {s : Shared} {h' : Heap} {a : Addr} {j : Nat} {l l' : Fs} {es : List (Str × Value)} {tk : Nat} (i : Inv B fr G st s) (hs : Heap.SameBut a s.heap h') (ga : G a = some (.cl j)) (hj : st.hp[j]? = some (.dct l))
  (ho : h'.DictOf (strKind B.prog B.w) a es) (hr : KR G l' es) (hl : (a == sysModules) = false) : Ext ow G s G { s with heap := h', toks := tk } /\ Inv B fr G ⟨st.lc, st.hp.set j (.dct l')⟩ { s with heap := h', toks := tk } :=
 i.turn (s' := { s with heap := h', toks := tk }) (c := .dct l') hs ⟨rfl, rfl⟩ (.inl ⟨ga, fun _ _ q => by rw [hj] at q; cases q⟩) fun g e => by
  rw [ga] at e; cases e
  simp only [OR, List.getElem?_set_self (List.getElem?_eq_some_iff.mp hj).1]
  exact ⟨es, ho, hr, hl⟩
set_option tactic.hygienic true in
theorem KY {A : Around} {G : Gst} {st : St} {s : Shared} {l v : V} {cl cv : Value} {Q : Value -> Shared -> Prop} {E : Value -> Shared -> Prop} (i : Inv B fr G st s) (hl : VR G l cl) (hv : VR G v cv)
  (h : qX B fr ow G s VR Q E (kK l v st)) : wpAny (model B.prog B.w) A (call (.builtin "list.append") [cl, cv]) Q E s := by
 unfold kK at h
 split at h
 ·rename_i j xs e
  split at h
  ·rename_i hz
   obtain ⟨a, k, cs, rfl, ga, hj, ho, hr⟩ := wV i hl e
   have hlen := hr.size
   refine append_at ho (fun h' hs hn => ?_) (by have := jF; exact le3 (eR hlen) hz this)
   obtain ⟨x₁, i₁⟩ := i.turnL (ow := ow) (tk := s.toks) (l' := xs ++ [v]) hs ga hj hn (by simpa using hr.append (.cons hv .nil))
   exact h _ _ _ x₁ i₁ rfl
  ·exact h.elim
 ·exact h.elim
set_option tactic.hygienic true in
theorem wp_pPop {A : Around} {G : Gst} {st : St} {s : Shared} {l : V} {cl : Value} {Q : Value -> Shared -> Prop} {E : Value -> Shared -> Prop} (i : Inv B fr G st s) (hl : VR G l cl)
  (h : qX B fr ow G s VR Q E (pPop l st)) : ∃ a o, cl = .ref a /\ s.heap.get? a = some o /\ o.cls = .type "list" /\ o.dict = none /\ wpAny (model B.prog B.w) A (call (.builtin "list.pop") [cl]) Q E s := by
 unfold pPop at h
 split at h
 ·rename_i j xs e
  split at h
  ·rename_i hz
   split at h
   ·rename_i v hv
    obtain ⟨a, k, cs, rfl, ga, hj, ho, hr⟩ := wV i hl e
    refine ⟨a, _, rfl, ho, rfl, rfl, ?_⟩
    have hlen := hr.size
    have hv' : xs[xs.length - 1]? = some v := by rw [<- List.getLast?_eq_getElem?]; exact hv
    obtain ⟨c, hc, rc⟩ := hr.get hv'
    refine Copied.pop_at (y := c) ho (by rw [<- hlen]; simpa using hc) (fun h' hs hn => ?_) (by have := jF; exact le3 (eR hlen) hz this)
    obtain ⟨x₁, i₁⟩ := i.turnL (ow := ow) (tk := s.toks) (l' := xs.dropLast) hs ga hj hn (by
     have := hr.take (xs.length - 1)
     rw [List.dropLast_eq_take, Array.toList_pop, List.dropLast_eq_take, <- hr.length]
     exact this)
    exact h _ _ _ x₁ i₁ rc
   ·exact h.elim
  ·exact h.elim
 ·exact h.elim
theorem VRs.setAt {G : Gst} {v : V} {c : Value} (hv : VR G v c) {vs cs} (h : VRs G vs cs) : ∀ k, VRs G (vs.set k v) (cs.set k c) := by
 induction h with
 | nil => intro k; exact .nil
 | cons a r ih => intro k; cases k with
  | zero => exact .cons hv r
  | succ k => exact .cons a (ih k)
theorem KR.setOff {G : Gst} {x : Str} {c : Value} {kv es} (r : KR G kv es) (h : x ∉ kv.map (·.1)) : KR G kv (es.map fun p => if p.1 = x then (p.1, c) else p) := by
 induction r with
 | nil => exact .nil
 | cons a' _ ih =>
  rw [List.map_cons, List.mem_cons, not_or] at h
  rw [List.map_cons, if_neg (fun z => h.1 z.symm)]
  exact .cons a' (ih h.2)
theorem KR.setMap {G : Gst} {x : Str} {v : V} {c : Value} (hv : VR G v c) {kv es} (r : KR G kv es) (hn : (kv.map (·.1)).Nodup) (h : x ∈ kv.map (·.1)) : KR G (zT x v kv) (es.map fun p => if p.1 = x then (p.1, c) else p) := by
 induction r with
 | nil => cases h
 | @cons k w d kv es a r ih =>
  rw [List.map_cons, List.nodup_cons] at hn
  unfold zT
  by_cases q : x = k
  ·subst q
   rw [if_pos rfl, List.map_cons, if_pos rfl]
   exact .cons hv (r.setOff hn.1)
  ·rw [if_neg q, List.map_cons, if_neg (fun z => q z.symm)]
   exact .cons a (ih hn.2 ((List.mem_cons.mp h).resolve_left q))
theorem KR.addEnd {G : Gst} {x : Str} {v : V} {c : Value} (hv : VR G v c) {kv es} (r : KR G kv es) (h : x ∉ kv.map (·.1)) : KR G (zT x v kv) (es ++ [(x, c)]) := by
 induction r with
 | nil => exact .cons hv .nil
 | cons a r ih =>
  rw [List.map_cons, List.mem_cons, not_or] at h
  unfold zT
  rw [if_neg h.1]
  exact .cons a (ih h.2)
theorem KR.stored {G : Gst} {x : Str} {v : V} {c : Value} {kv es} (hv : VR G v c) (r : KR G kv es) (hn : (es.map (·.1)).Nodup) : KR G (zT x v kv) (PySem.stored es x c) := by
 unfold PySem.stored
 have hk := r.keys
 by_cases hx : x ∈ kv.map (·.1)
 ·rw [if_pos (by
   rw [<- hk] at hx
   obtain ⟨p, hp, hpe⟩ := List.mem_map.mp hx
   exact List.any_eq_true.mpr ⟨p, hp, by simpa using hpe⟩)]
  exact r.setMap hv (hk ▸ hn) hx
 ·rw [if_neg (by
   intro z
   obtain ⟨p, hp, hpe⟩ := List.any_eq_true.mp z
   rw [<- hk] at hx
   exact hx (List.mem_map.mpr ⟨p, hp, by simpa using hpe⟩))]
  exact r.addEnd hv hx
theorem Ke (x : Str) (v : V) (kv : Fs) : (zT x v kv).map (·.1) = if x ∈ kv.map (·.1) then kv.map (·.1) else kv.map (·.1) ++ [x] := by
 induction kv with
 | nil => simp [zT]
 | cons p r ih =>
  obtain ⟨y, w⟩ := p
  unfold zT
  by_cases q : x = y
  ·subst q; simp
  ·rw [if_neg q, List.map_cons, ih, List.map_cons]
   by_cases h : x ∈ r.map (·.1)
   ·rw [if_pos h, if_pos (.tail _ h)]
   ·rw [if_neg h, if_neg (by simp only [List.mem_cons, not_or]; exact ⟨q, h⟩)]; rfl
set_option tactic.hygienic true in
theorem JS {x : Str} {v : V} {kv : Fs} (h : (kv.map (·.1)).Nodup) : ((zT x v kv).map (·.1)).Nodup := by
 rw [Ke]
 split
 ·exact h
 ·rename_i q
  rw [List.nodup_append]
  exact ⟨h, by simp, fun a ha b hb => by simp at hb; subst hb; exact fun z => q (z ▸ ha)⟩
theorem KR.merged {G : Gst} {more : Fs} {ms} (r2 : KR G more ms) : ∀ {kv es}, KR G kv es -> (es.map (·.1)).Nodup -> KR G (Zh kv more) (PySem.merged es ms) := by
 induction r2 with
 | nil => intro kv es r _; exact r
 | @cons k v c kv' es' a _ ih =>
  intro kv es r hn
  have r' := r.stored (x := k) a hn
  exact ih r' (by rw [r'.keys]; exact JS (by rw [<- r.keys]; exact hn))
theorem DictOf.nodup {h : Heap} {a : Addr} {es : List (Str × Value)} (x : h.DictOf (strKind B.prog B.w) a es) : (es.map (·.1)).Nodup := x.elim fun _ x => x.elim fun _ x => x.elim fun _ x => x.2.2.2.2.2
theorem QZ (cs : Array Value) (k j : Nat) (v : Value) (_h : j < cs.size) : Obj.mapSeq (·.setIfInBounds j v) (listOf cs k) = listOf (cs.setIfInBounds j v) k := by
 simp [Obj.mapSeq, W.listOf]
set_option tactic.hygienic true in
theorem yX {A : Around} {G : Gst} {st : St} {s : Shared} {c i v : V} {cc ci cv : Value} {Q : Unit -> Shared -> Prop} {E : Value -> Shared -> Prop} (inv : Inv B fr G st s) (hc : VR G c cc) (hi : VR G i ci) (hv : VR G v cv)
  (h : qX B fr ow G s UR Q E (jM c i v st)) : wpAny (model B.prog B.w) A (setItem cc ci cv) Q E s := by
 unfold jM at h
 cases i with
 | int k =>
  obtain ⟨t, rfl⟩ := hi
  dsimp only at h
  split at h
  ·rename_i j xs e
   split at h
   ·rename_i hz
    obtain ⟨a, k0, cs, rfl, ga, hj, ho, hr⟩ := wV inv hc e
    have hlen := hr.size
    have hsz := jF
    have hsl : sizeLine < 2 ^ 63 := by decide
    refine ki_setAt (n := k0) ho hz.1 (by walk_at "l") (by walk_at "l") ?_
    have hk : k.toNat < cs.size := by lia
    have hn := Heap.get?_update_self (Obj.mapSeq (·.setIfInBounds k.toNat cv)) ho (by rw [QZ _ _ _ _ hk]; rfl)
    rw [QZ _ _ _ _ hk] at hn
    obtain ⟨x₁, i₁⟩ := inv.turnL (ow := ow) (tk := s.toks) (l' := xs.set k.toNat v) (Heap.SameBut.update ..) ga hj hn (by rw [Array.toList_setIfInBounds]; exact hr.setAt hv _)
    exact h _ _ _ x₁ i₁ trivial
   ·exact h.elim
  ·exact h.elim
 | str x =>
  obtain ⟨t, rfl⟩ := hi
  dsimp only at h
  split at h
  ·rename_i j kv e
   split at h
   ·rename_i hz
    obtain ⟨a, es, rfl, ga, hj, ho, hr, hl⟩ := vB inv hc e
    have hsz := jF
    refine wpAny_setItem_pairs (strKind_is _ _ _ _) ho (fun h' hn hs => ?_) (by rw [hr.len]; exact le2 hz hsz)
    obtain ⟨x₁, i₁⟩ := inv.turnD (ow := ow) (tk := s.toks + 1) (l' := zT x v kv) hs ga hj hn (hr.stored hv (DictOf.nodup ho)) hl
    exact h _ _ _ x₁ i₁ trivial
   ·exact h.elim
  ·exact h.elim
 | _ => exact h.elim
set_option tactic.hygienic true in
theorem XL {A : Around} {G : Gst} {st : St} {s : Shared} {op : Operator} {a b : V} {ca cb : Value} {Q : Value -> Shared -> Prop} {E : Value -> Shared -> Prop} (i : Inv B fr G st s) (ha : VR G a ca) (hb : VR G b cb) (h : qX B fr ow G s VR Q E (Jj op a b st)) :
  wpAny (model B.prog B.w) A (inplaceOp op ca cb) Q E s := by
 cases op with
 | Add =>
  refine zp (P := fun m : M V => qX B fr ow G s VR Q E (m st)) h (fun x y e1 e2 k => ?_) False.elim
  have e1 := jh e1; have e2 := jh e2; subst e1; subst e2; obtain ⟨_, rfl⟩ := ha; obtain ⟨_, rfl⟩ := hb
  exact PyProof.Rows.iadd_int (k.ok' (.tok _) (i.tok _) ⟨_, rfl⟩)
 | Sub =>
  refine zp (P := fun m : M V => qX B fr ow G s VR Q E (m st)) h (fun x y e1 e2 k => ?_) False.elim
  have e1 := jh e1; have e2 := jh e2; subst e1; subst e2; obtain ⟨_, rfl⟩ := ha; obtain ⟨_, rfl⟩ := hb
  exact PyProof.Rows.isub_int (k.ok' (.tok _) (i.tok _) ⟨_, rfl⟩)
 | FloorDiv =>
  refine zp (P := fun m : M V => qX B fr ow G s VR Q E (m st)) h (fun x y e1 e2 k => ?_) False.elim
  have e1 := jh e1; have e2 := jh e2; subst e1; subst e2; obtain ⟨_, rfl⟩ := ha; obtain ⟨_, rfl⟩ := hb
  split at k
  ·rename_i hm
   exact PyProof.Rows.ifloordiv_int hm.1 (k.ok' (.tok _) (i.tok _) ⟨_, rfl⟩) (.inl (PyProof.noPylong_small hm.2))
  ·exact k.elim
 | _ => exact False.elim h
theorem yZ {o i e : M V} {x y z : PySem.Expr} {p pos : Pos} (h1 : Sim B n fr ow VR (eval z fr.env) e) (h2 : Sim B n fr ow VR (eval x fr.env) o) (h3 : Sim B n fr ow VR (eval y fr.env) i)
  (hs : swapsWith z (some (.Subscript x y p)) pos.line fr.env = pure false := by rfl) : Sim B n fr ow FR (exec (.Assign [.Subscript x y p] z pos) fr.env) (xd o i e) := by
 refine ⟨?_⟩
 intro A G st s ok inv Q E h
 refine wpAny_Assign_Subscript (h1.run A G st s ok inv _ _ (h.bind ?_)) hs
 intro v st' s' G' c x' i' r h'
 refine h2.run A G' st' s' ok i' _ _ (h'.bind ?_)
 intro v₂ st2 s2 G2 c₂ x₂ i₂ r₂ h₂
 refine h3.run A G2 st2 s2 ok i₂ _ _ (h₂.bind ?_)
 intro v₃ st3 s3 G3 c₃ x₃ i3 r₃ h₃
 refine yX i3 (r₂.mono x₃.g) r₃ ((r.mono x₂.g).mono x₃.g) (h₃.bind ?_)
 intro _ st4 s4 G4 _ x₄ i4 _ h₄
 exact h₄.ok i4 rfl
theorem sim_aug {op : Operator} {e : M V} {x : Str} {y : PySem.Expr} {p pos : Pos} (ok : FrOk fr) (hk : fr.env.kindOf x = some .local) (h1 : Sim B n fr fr.own VR (eval y fr.env) e) : Sim B n fr fr.own FR (exec (.AugAssign (.Name x p) op y pos) fr.env) (sAug op x e) := by
 refine ⟨?_⟩
 intro A G st s o i Q E h
 refine wpAny_AugAssign_Name ?_
 obtain ⟨v, hv, h⟩ := h.loc
 obtain ⟨c, rc, hr⟩ := i.nm x v hv
 refine xU ok.kind hr (h1.run A G st s o i _ _ (h.bind ?_))
 intro v₂ st2 s2 G2 c₂ x₂ i₂ r₂ h₂
 refine XL i₂ (rc.mono x₂.g) r₂ (h₂.bind ?_)
 intro v₃ st3 s3 G3 c₃ x₃ i3 r₃ h₃
 refine kl ok i3 r₃ (.inl hk) fun s4 x₄ i4 => ?_
 exact h₃ s4 G3 .next x₄ i4 rfl
theorem wp_pGet {A : Around} {v j : V} {ca cj : Value} {G : Gst} {st : St} {s : Shared} {Q : Value -> Shared -> Prop} {E : Value -> Shared -> Prop} (i : Inv B fr G st s) (hv : VR G v ca) (hj : VR G j cj) (h : qX B fr ow G s VR Q E (zS v j st)) :
  wpAny (model B.prog B.w) A (getItem ca cj) Q E s := by
 cases wp_ix i hv hj h with | mk T id h1 h2 h3 => exact h3
theorem jt {op : Operator} {o i e : M V} {x y z : PySem.Expr} {p pos : Pos} (h1 : Sim B n fr ow VR (eval x fr.env) o) (h2 : Sim B n fr ow VR (eval y fr.env) i) (h3 : Sim B n fr ow VR (eval z fr.env) e)
  (ha : ∀ ov iv new, augStore y ov iv new = (do holding [new, ov, iv] (setItem ov iv new); release [new, ov, iv] []; pure .next) := by intro _ _ _; rfl) :
  Sim B n fr ow FR (exec (.AugAssign (.Subscript x y p) op z pos) fr.env) (jQ op o i e) := by
 refine ⟨?_⟩
 intro A G st s ok inv Q E h
 refine wpAny_AugAssign_Subscript_any (h1.run A G st s ok inv _ _ (h.bind ?_)) ha
 intro v st' s' G' c x' i' r h'
 refine h2.run A G' st' s' ok i' _ _ (h'.bind ?_)
 intro v₂ st2 s2 G2 c₂ x₂ i₂ r₂ h₂
 refine wp_pGet i₂ (r.mono x₂.g) r₂ (h₂.bind ?_)
 intro v₃ st3 s3 G3 c₃ x₃ i3 r₃ h₃
 refine h3.run A G3 st3 s3 ok i3 _ _ (h₃.bind ?_)
 intro v₄ st4 s4 G4 c₄ x₄ i4 r₄ h₄
 refine XL i4 (r₃.mono x₄.g) r₄ (h₄.bind ?_)
 intro v₅ st5 s5 G5 c₅ x₅ i5 r₅ h₅
 refine yX i5 ((((r.mono x₂.g).mono x₃.g).mono x₄.g).mono x₅.g) (((r₂.mono x₃.g).mono x₄.g).mono x₅.g) r₅ (h₅.bind ?_)
 intro _ st6 s6 G6 _ x₆ i6 _ h₆
 exact h₆.ok i6 rfl
theorem qU {e : M V} {x : PySem.Expr} {pos : Pos} (h1 : Sim B n fr ow VR (eval x fr.env) e) (hi : interactive fr.env = false := by rfl) (hs : swapsWith x none pos.line fr.env = pure false := by rfl) :
  Sim B n fr ow FR (exec (.Expr x pos) fr.env) (qv e) := by
 refine ⟨?_⟩
 intro A G st s o i Q E h
 refine wpAny_Expr_any (h1.run A G st s o i _ _ (h.bind ?_)) hi hs
 intro v st' s' G' c x' i' r h'
 exact h'.ok i' rfl
end
noncomputable def Zb (k : Nat) (e : M V) : M V := e >>= Jg k
noncomputable def Kx (k : Nat) (e : M V) : M V := e >>= yJ k
noncomputable def Xp (k : Nat) (e : M V) : M V := e >>= Jf k
section
variable {B : Bs} {n : Nat} {fr : Frm} {ow : Addr -> Prop}
theorem xY {hp : Hp} {v : V} {l : List V} (h : qo hp v = some l) : wh hp v = some l := by
 cases v <;> first | exact h | simp [qo] at h
set_option tactic.hygienic true in
theorem wi {e : M V} {x : PySem.Expr} {k : Nat} {c0 : Nat} {p0 p pos : Pos} (h1 : Sim B n fr ow VR (eval x fr.env) e) : Sim B n fr ow VR (eval (.Subscript x (.Slice (some (.Constant (.int (k : Int)) c0 p0)) none none p) pos) fr.env) (Zb k e) := by
 refine ⟨?_⟩
 intro A G st s o i Q E h
 refine Subscript_ (h1.run A G st s o i _ _ (h.bind ?_))
 intro v st' s' G' c x' i' r h'
 unfold Jg at h'
 split at h'
 ·rename_i l hl
  split at h'
  ·rename_i hz
   refine wpAny_Slice ?_
   rw [evalPart_some]
   refine wpAny_Constant_int (wpAny_pure (wpAny_pure ?_))
   refine y8 (ow := ow) (i'.tok _) r (xY hl) hz (.int _ _) .none fun cs rc s2 tk x₂ i₂ => ?_
   rw [ZR]
   exact qX.newLst i₂ ((rc.drop k)) (h'.ext ((Ext.tok _).trans x₂))
  ·exact h'.elim
 ·exact h'.elim
set_option tactic.hygienic true in
theorem Kd {e : M V} {x : PySem.Expr} {k : Nat} {c0 : Nat} {p0 p pos : Pos} (h1 : Sim B n fr ow VR (eval x fr.env) e) : Sim B n fr ow VR (eval (.Subscript x (.Slice (some (.Constant (.int (k : Int)) c0 p0)) none none p) pos) fr.env) (Kx k e) := by
 refine ⟨?_⟩
 intro A G st s o i Q E h
 refine Subscript_ (h1.run A G st s o i _ _ (h.bind ?_))
 intro v st' s' G' c x' i' r h'
 unfold yJ at h'
 split at h'
 ·rename_i l hl
  split at h'
  ·rename_i hz
   refine wpAny_Slice ?_
   rw [evalPart_some]
   refine wpAny_Constant_int (wpAny_pure (wpAny_pure ?_))
   refine y8 (ow := ow) (i'.tok _) r (xY hl) hz (.int _ _) .none fun cs rc s2 tk x₂ i₂ => ?_
   rw [ZR]
   exact qX.newLstC i₂ ((rc.drop k)) (h'.ext ((Ext.tok _).trans x₂))
  ·exact h'.elim
 ·exact h'.elim
set_option tactic.hygienic true in
theorem ZL {e : M V} {x : PySem.Expr} {k : Nat} {c0 : Nat} {p0 p pos : Pos} (h1 : Sim B n fr ow VR (eval x fr.env) e) : Sim B n fr ow VR (eval (.Subscript x (.Slice none (some (.Constant (.int (k : Int)) c0 p0)) none p) pos) fr.env) (Xp k e) := by
 refine ⟨?_⟩
 intro A G st s o i Q E h
 refine Subscript_ (h1.run A G st s o i _ _ (h.bind ?_))
 intro v st' s' G' c x' i' r h'
 unfold Jf at h'
 split at h'
 ·rename_i l hl
  split at h'
  ·rename_i hz
   refine wpAny_Slice (wpAny_pure ?_)
   rw [evalPart_some]
   refine wpAny_Constant_int (wpAny_pure ?_)
   refine y8 (ow := ow) (i'.tok _) r hl hz .none (.int _ _) fun cs rc s2 tk x₂ i₂ => ?_
   rw [pick_upto]
   exact qX.newLst i₂ ((rc.take k)) (h'.ext ((Ext.tok _).trans x₂))
  ·exact h'.elim
 ·exact h'.elim
end
noncomputable def yd (hp : Hp) (v : V) : Option Nat := match Kc v with
 | some x => some x.length
 | none => (zl hp v).map (·.length)
noncomputable def wE (v : V) : M V := fun s => match yd s.hp v with
 | some n => if n <= 2 ^ 30 then .ok (.int n) s else .stuck
 | none => .stuck
noncomputable def pAbs (v : V) : M V := match v with | .int i => pure (.int (if i < 0 then -i else i)) | _ => zC
noncomputable def pInt (v : V) : M V := match v with | .int i => pure (.int i) | _ => zC
noncomputable def Kl (a b : V) : M V := match a, b with | .int a, .int b => pure (.int (if b > a then b else a)) | _, _ => zC
noncomputable def ko (v : V) : M V := fun s => match zl s.hp v with
 | some l => if l.length <= zh then .ok (.lst l) s else .stuck
 | none => match dictAt s.hp v with
  | some kv => if kv.length <= zh then .ok (.lst (kv.map fun p => .str p.1)) s else .stuck
  | none => .stuck
noncomputable def QP (v : V) : M V := match v with
 | .obj .vector _ => pure (.bool true)
 | .obj .null _ => pure (.bool false)
 | _ => zC
structure KI (K : Frag) : Prop where
 hg : ∀ c, c = Cls.vector \/ c = .null -> plainGet K (cA c) "__class__" = true /\ hasDictIn K (cA c) = true /\ findIn K (.ref (cA c)) "__class__" = some (some (.builtin "object.__class__")) /\ mroIn K (cA c) (.type "object") = some true
 hn : specialIn K (.builtin "object.__class__") "__get__" = some (some (.builtin "getset_descriptor.__get__")) /\ takesIn K (.builtin "object.__class__") = some true
 hv : kitOne K (.ref (cA .vector)) (.ref (cA .vector)) = some true
 hu : kitOne K (.ref (cA .null)) (.ref (cA .vector)) = some false
section
variable {prog : Program} {w : World} {A : Around} {E : Value -> Shared -> Prop} {s : Shared}
theorem Q8 {a b : Int} {t u : Tok} {Q : Value -> Shared -> Prop} (hh : A.handled = none)
  (h : ∀ h' tk, (∀ c o, s.heap.get? c = some o -> h'.get? c = some o) -> s.heap.objs.size <= h'.objs.size -> Q (if b > a then .int b u else .int a t) { s with heap := h', toks := tk }) :
  wpAny (model prog w) A (call (.builtin "max") [.int a t, .int b u]) Q E s := by
 have hT : (s.heap.push { cls := .type "tuple", data := .seq #[.int a t, .int b u] }).IsTuple s.heap.objs.size (intItems #[(a, t), (b, u)]) := ⟨_, Heap.get?_push_size _ rfl, rfl, 0, by simp [intItems]⟩
 refine call_max_two (wpAny_pyIter_tuple hT ?_)
 have hsz : (s.heap.push { cls := .type "tuple", data := .seq #[.int a t, .int b u] }).objs.size = s.heap.objs.size + 1 := Heap.size_push ..
 refine ⟨_, [_, s.heap.objs.size], [_], _, _, _, _, rfl, Walks.tuple (A := A.in1) hh _ s.heap.objs.size (by rw [hsz]; exact Nat.ne_of_lt (Nat.lt_succ_self _)) (intItems #[(a, t), (b, u)]),
  ⟨⟨_, Heap.get?_push_size _ rfl, rfl, rfl⟩, hT.push _⟩, fun c hc => ?_, by simp [intItems], CmpOf.ints_gt (numAt #[(a, t), (b, u)]) (fun _ _ => intItems_at), fun v h' tk hP hk => ?_⟩
 ·show c < ((s.heap.push _).push _).objs.size
  rw [Heap.size_push, hsz]
  rcases List.mem_cons.mp hc with rfl | hc
  ·rw [hsz]; exact Nat.lt_succ_self _
  ·rcases List.mem_cons.mp hc with rfl | hc
   ·exact Nat.lt_succ_of_lt (Nat.lt_succ_self _)
   ·cases hc
 ·have hold : ∀ c o, s.heap.get? c = some o -> h'.get? c = some o := fun c o e => by
   refine hk c o (fun hm => ?_) (Heap.get?_push_of_some _ (Heap.get?_push_of_some _ e))
   rcases List.mem_cons.mp hm with e1 | hm
   ·have := Heap.lt_size e; rw [e1, hsz] at this; exact Nat.lt_irrefl _ (Nat.lt_of_succ_lt this)
   ·cases hm
  have hlt : s.heap.objs.size < h'.objs.size := by
   refine Heap.lt_size (hk s.heap.objs.size _ (fun hm => ?_) (Heap.get?_push_of_some _ (Heap.get?_push_size _ rfl)))
   rcases List.mem_cons.mp hm with e1 | hm
   ·rw [hsz] at e1; exact Nat.succ_ne_self _ e1.symm
   ·cases hm
  have := h h' tk hold (Nat.le_of_lt hlt)
  have hv : v = if b > a then Value.int b u else Value.int a t := by
   have hP' : (intItems #[(a, t), (b, u)])[argBest (fun i j => decide (numAt #[(a, t), (b, u)] i > numAt #[(a, t), (b, u)] j)) 1]? = some v := by
    have hsz2 : (intItems #[(a, t), (b, u)]).size - 1 = 1 := by simp [intItems]
    rw [<- hsz2]; exact hP
   by_cases hba : b > a
   ·have e : argBest (fun i j => decide (numAt #[(a, t), (b, u)] i > numAt #[(a, t), (b, u)] j)) 1 = 1 := by simp [argBest, numAt, hba]
    rw [e] at hP'
    simpa [intItems, hba] using hP'.symm
   ·have e : argBest (fun i j => decide (numAt #[(a, t), (b, u)] i > numAt #[(a, t), (b, u)] j)) 1 = 0 := by simp [argBest, numAt, hba]
    rw [e] at hP'
    simpa [intItems, hba] using hP'.symm
  rw [hv]; exact this
end
section
variable {B : Bs} {n : Nat} {fr : Frm} {ow : Addr -> Prop}
noncomputable def Sim1 (B : Bs) (f : Value) (g : V -> M V) : Prop :=
 ∀ n A fr ow G st s v c, AOk n A fr -> Inv B fr G st s -> VR G v c -> ∀ Q E, qX B fr ow G s VR Q E (g v st) -> wpAny (model B.prog B.w) A (call f [c]) Q E s
theorem JR {id : String} {g : V -> M V} {x : Str} {y : PySem.Expr} {p pos : Pos} {m : M V} (b : B.Ok) (ok : FrG fr) (H : Sim1 B (.builtin id) g) (hx : fr.env.kindOf x = some .globalImplicit) (e : nsIn B.K mainGlobals x = some none) (hb : bootBuiltins x = some (.builtin id))
  (h1 : Sim B n fr ow VR (eval y fr.env) m) (hn : x ≠ "__name__" := by decide) (hd : (x == ("__debug__" : Str)) = false := by decide) (he : starEach [y] fr.env = [(false, eval y fr.env)] := by rfl) :
  Sim B n fr ow VR (eval (.Call (.Name x p) [y] [] pos) fr.env) (m >>= g) := by
 refine ⟨?_⟩
 intro A G st s o i Q E h
 show wpAny _ _ (eval (.Name x p) fr.env >>= fun f => callWith pos f [] (backTo pos (starEach [y] fr.env)) []) _ _ _
 refine wpAny_bind (QA b ok i hx e hb hn hd ?_)
 refine PyProof.Rows.callWith_builtin1 (yM o i h1 h ?_ he) (by rw [he]; rfl)
 intro v st' s' G' c x' i' r h'
 exact H n A fr ow G' st' s' v c o i' r _ _ h'
theorem JP {T : String} {g : V -> M V} {x : Str} {y : PySem.Expr} {p pos : Pos} {m : M V} (b : B.Ok) (ok : FrG fr) (H : Sim1 B (.type T) g) (hx : fr.env.kindOf x = some .globalImplicit) (e : nsIn B.K mainGlobals x = some none) (hb : bootBuiltins x = some (.type T))
  (h1 : Sim B n fr ow VR (eval y fr.env) m) (hn : x ≠ "__name__" := by decide) (hd : (x == ("__debug__" : Str)) = false := by decide) (he : starEach [y] fr.env = [(false, eval y fr.env)] := by rfl) :
  Sim B n fr ow VR (eval (.Call (.Name x p) [y] [] pos) fr.env) (m >>= g) := by
 refine ⟨?_⟩
 intro A G st s o i Q E h
 show wpAny _ _ (eval (.Name x p) fr.env >>= fun f => callWith pos f [] (backTo pos (starEach [y] fr.env)) []) _ _ _
 refine wpAny_bind (QA b ok i hx e hb hn hd ?_)
 refine PyProof.Rows.callWith_type1 (yM o i h1 h ?_ he) (by rw [he]; rfl)
 intro v st' s' G' c x' i' r h'
 exact H n A fr ow G' st' s' v c o i' r _ _ h'
set_option tactic.hygienic true in
theorem sim_len : Sim1 B (.builtin "len") wE := by
 intro n A fr ow G st s v c o i r Q E h
 unfold wE at h
 split at h
 ·rename_i k hk
  split at h
  ·rename_i hz
   unfold yd at hk
   cases hs : Kc v with
   | some x =>
    rw [hs] at hk
    cases hk
    have := strV_ hs
    subst this
    obtain ⟨t, rfl⟩ := r
    refine PyProof.Rows.len_str (by walk_at "l") (h.ok' (.tok _) (i.tok _) ⟨_, rfl⟩)
   | none =>
    rw [hs] at hk
    obtain ⟨l, hl, rfl⟩ := Option.map_eq_some_iff.mp hk
    obtain ⟨a, k0, cs, rfl, ho, rr⟩ := Kf i r hl
    have hlen := rr.size
    rcases ho with ho | ho
    ·refine call_len_list (items := cs) ⟨_, ho, rfl, k0, rfl⟩ (by walk_at "l") ?_
     rw [<- hlen]
     exact h.ok' (.tok _) (i.tok _) ⟨_, rfl⟩
    ·refine PyProof.Rows.len_tuple (items := cs) ⟨_, ho, rfl, k0, rfl⟩ (by walk_at "l") ?_
     rw [<- hlen]
     exact h.ok' (.tok _) (i.tok _) ⟨_, rfl⟩
  ·exact h.elim
 ·exact h.elim
theorem sim_abs : Sim1 B (.builtin "abs") pAbs := by
 intro n A fr ow G st s v c o i r Q E h
 cases v with
 | int k => obtain ⟨t, rfl⟩ := r; exact PyProof.Rows.call_abs_int fun u tk => h.ok' (.tok _) (i.tok _) ⟨_, rfl⟩
 | _ => exact h.elim
theorem sim_int1 : Sim1 B (.type "int") pInt := by
 intro n A fr ow G st s v c o i r Q E h
 cases v with
 | int k => obtain ⟨t, rfl⟩ := r; exact call_int_int (h.ok i ⟨_, rfl⟩)
 | _ => exact h.elim
theorem xQ {G : Gst} {st : St} {s : Shared} {h' : Heap} {cs : Array Value} {k tk : Nat} {l : List V} {Q : Value -> Shared -> Prop} {E : Value -> Shared -> Prop} (i : Inv B fr G st s) (hk : ∀ b o, s.heap.get? b = some o -> h'.get? b = some o)
  (hn : h'.get? s.heap.objs.size = some { cls := .type "list", dict := none, data := .seq cs k, slots := #[] }) (r : VRs G l cs.toList) (h : qX B fr ow G s VR Q E (.ok (.lst l) st)) : Q (.ref s.heap.objs.size) { s with heap := h', toks := tk } := by
 obtain ⟨x, i'⟩ := i.newFz (ow := ow) (s' := { s with heap := h', toks := tk }) (a := s.heap.objs.size) (v := .lst l) hk (Nat.le_of_lt (Heap.lt_size hn)) ⟨rfl, rfl⟩ (Nat.le_refl _) fun G' m => ⟨k, cs, hn, r.mono m⟩
 exact h _ _ _ x i' ⟨_, rfl, zN.self⟩
set_option tactic.hygienic true in
theorem sim_list1 : Sim1 B (.type "list") ko := by
 intro n A fr ow G st s v c o i r Q E h
 unfold ko at h
 have hsz := jF
 split at h
 ·rename_i l hl
  split at h
  ·rename_i hz
   obtain ⟨a, k0, cs, rfl, ho, rr⟩ := Kf i r hl
   have hlen := rr.size
   rcases ho with ho | ho
   ·exact call_list_seq (T := "list") a (.inl rfl) ho rfl rfl (fun h' c' hk hn => xQ (tk := s.toks) i hk hn rr h) (by exact le3 (eR hlen) hz hsz)
   ·exact call_list_seq (T := "tuple") a (.inr rfl) ho rfl rfl (fun h' c' hk hn => xQ (tk := s.toks) i hk hn rr h) (by exact le3 (eR hlen) hz hsz)
  ·exact h.elim
 ·split at h
  ·rename_i kv hkv
   split at h
   ·rename_i hz
    obtain ⟨j, rfl, hj⟩ := Z0 hkv
    obtain ⟨d, rfl, gd⟩ := r
    obtain ⟨es, hdict, hkr, hds⟩ := yw i.good gd hj
    obtain ⟨ep, hDA⟩ := hdict.dictAt
    have hlen := hkr.len
    refine kdl_call (kdl_dict (knd := strKind B.prog B.w) hds) o.handled hDA (by exact le3 (eL hlen) hz hsz) fun h' tk acc c' hk hn hi => xQ (tk := tk) i hk hn ?_ h
    have hi1 := hi.1; have hi2 := hi.2
    have key : ∀ (kv : Fs) (es : List (Str × Value)) (l : List Value), KR G kv es -> l.length = es.length -> (∀ (j : Nat) v, l[j]? = some v -> ∃ k x, es[j]? = some (k, x) /\ (strKind B.prog B.w).is k v = true) -> VRs G (kv.map fun p => V.str p.1) l := by
     intro kv es l r
     induction r generalizing l with
     | nil => intro hl _; cases l with | nil => exact .nil | cons _ _ => cases hl
     | @cons k v c kv' es' a _ ih =>
      intro hl hp
      cases l with
      | nil => cases hl
      | cons y l =>
       obtain ⟨k', x', e1, e2⟩ := hp 0 y rfl
       simp at e1
       obtain ⟨rfl, rfl⟩ := e1
       obtain ⟨t, rfl⟩ := Value.isStrOf_shape e2
       exact .cons ⟨_, rfl⟩ (ih l (Nat.succ.inj hl) fun j v hv => hp (j + 1) v hv)
    exact key _ _ _ hkr (by simpa using hi1) fun j v hv => hi2 j v (by simpa using hv)
   ·exact h.elim
  ·exact h.elim
set_option tactic.hygienic true in
theorem sim_max {x : Str} {y z : PySem.Expr} {p pos : Pos} {m₁ m₂ : M V} (b : B.Ok) (ok : FrG fr) (hx : fr.env.kindOf x = some .globalImplicit) (e : nsIn B.K mainGlobals x = some none) (hb : bootBuiltins x = some (.builtin "max"))
  (hargs : Sim B n fr ow VRs (spliced (backTo pos (starEach [y, z] fr.env))) (qa [m₁, m₂])) (hn : x ≠ "__name__" := by decide) (hd : (x == ("__debug__" : Str)) = false := by decide) (he : starEach [y, z] fr.env = (false, eval y fr.env) :: starEach [z] fr.env := by rfl) (hp : ((backTo pos (starEach [z] fr.env)).any fun z => z.1) = false := by rfl) :
  Sim B n fr ow VR (eval (.Call (.Name x p) [y, z] [] pos) fr.env) (m₁ >>= fun a => m₂ >>= fun b => Kl a b) := by
 refine ⟨?_⟩
 intro A G st s o i Q E h
 show wpAny _ _ (eval (.Name x p) fr.env >>= fun f => callWith pos f [] (backTo pos (starEach [y, z] fr.env)) []) _ _ _
 refine wpAny_bind (QA b ok i hx e hb hn hd ?_)
 have h2 : qX B fr ow G s VR Q E ((qa [m₁, m₂] >>= fun vs => match vs with | [a, b] => Kl a b | _ => zC) st) := by
  have e1 : (qa [m₁, m₂] >>= fun vs => match vs with | [a, b] => Kl a b | _ => zC) st = (m₁ >>= fun a => m₂ >>= fun b => Kl a b) st := by
   show ((m₁ >>= fun v => (m₂ >>= fun v' => pure [] >>= fun vs => pure (v' :: vs)) >>= fun vs => pure (v :: vs)) >>= _) st = _
   simp only [M.bind_eq]
   cases m₁ st with
   | ok a s1 =>
    dsimp only
    cases m₂ s1 <;> rfl
   | exc _ _ _ => rfl
   | stuck => rfl
  rw [e1]; exact h
 refine PyProof.Rows.callWith_builtin1 (hargs.run A G st s o i _ _ (h2.bind ?_)) he hp
 intro vs st' s' G' cs x' i' r h'
 cases r with
 | nil => exact h'.elim
 | cons ra r =>
  cases r with
  | nil => exact h'.elim
  | cons rb r =>
   cases r with
   | cons _ _ => exact h'.elim
   | nil =>
    rename_i va ca vb cb
    cases va with
    | int a =>
     cases vb with
     | int b =>
      obtain ⟨t, rfl⟩ := ra
      obtain ⟨u, rfl⟩ := rb
      refine Q8 o.handled fun h₂ tk hk hz => ?_
      obtain ⟨x₂, i₂⟩ := i'.grow (ow := ow) (s' := { s' with heap := h₂, toks := tk }) hk hz ⟨rfl, rfl⟩
      refine h' _ _ _ x₂ i₂ ?_
      by_cases q : b > a
      ·rw [if_pos q, if_pos q]; exact ⟨_, rfl⟩
      ·rw [if_neg q, if_neg q]; exact ⟨_, rfl⟩
     | _ => exact h'.elim
    | _ => exact h'.elim
end
noncomputable def xO (c : Cls) (v : V) : M Unit := fun s => match v with
 | .ref j => match s.hp[j]? with | some (.obj k _) => if k = c then .ok () s else .stuck | _ => .stuck
 | _ => .stuck
noncomputable def ql (c : Cls) (o : M V) (ms : List (M V)) (g : List V -> M V) : M V := o >>= fun self => xO c self >>= fun _ => qa ms >>= fun vs => g (self :: vs)
noncomputable def pFind (x y : V) : M V := match x, y with | .str x, .str y => pure (.int (match Builtin.Str.occurrences x y 0 x.length 1 with | i :: _ => (i : Int) | [] => -1)) | _, _ => zC
noncomputable def pIsStr (v : V) : M Unit := match v with | .str _ => pure () | _ => zC
noncomputable def eFind (o e : M V) : M V := o >>= fun l => pIsStr l >>= fun _ => e >>= fun v => pFind l v
section
variable {B : Bs} {n : Nat} {fr : Frm} {ow : Addr -> Prop}
theorem ZJ {A : Around} {G : Gst} {st : St} {s : Shared} {c : Cls} {fs : Fs} {j : Nat} {cv : Value} {f : Addr} {name : Str} {pl : Sem Bool} {Q : Value × List Value -> Shared -> Prop} {E : Value -> Shared -> Prop} (b : B.Ok) (i : Inv B fr G st s) (hv : VR G (.ref j) cv) (hj : st.hp[j]? = some (.obj c fs))
  (hc : c ≠ .error) (hf : findIn B.K (.ref (cA c)) name = some (some (.ref f))) (ht : typeIn B.K (.ref f) = some (.type "function")) (hn : name ∉ zM c) (h : Q (.ref f, [cv]) s) : wpAny (model B.prog B.w) A (getMethod cv name pl) Q E s := by
 obtain ⟨a, dx, k, es, rfl, h1, h2, h3, hm, _⟩ := yu i hv (.inr ⟨j, rfl, hj⟩)
 have z170 := b.kf.gat c hc; have g1 := z170.1; have g2 := z170.2.1
 refine method_fn (i.kin b) (vW h1 h2) g1 g2 hf ht ?_ h
 show (lookIn name (dictOf es k)).map (·.isSome) = some false
 rw [lookIn_dict, h3.miss hn]; rfl
theorem sim_meth {pl : Sem Bool} {c : Cls} {f : Addr} {g : List V -> M V} {x y : PySem.Expr} {ys : List PySem.Expr} {name : Str} {apos pos : Pos} {m : M V} {ms : List (M V)} (b : B.Ok) (H : qQ B n f g) (hc : c ≠ .error) (hf : findIn B.K (.ref (cA c)) name = some (some (.ref f)))
  (ht : typeIn B.K (.ref f) = some (.type "function")) (hn : name ∉ zM c) (hk : keepIn B.K (.ref f) = true) (h1 : Sim B n fr ow VR (eval x fr.env) m) (hargs : Sim B n fr ow VRs (spliced (backTo pos (starEach (y :: ys) fr.env))) (qa ms))
  (he : starEach (y :: ys) fr.env = (false, eval y fr.env) :: starEach ys fr.env := by rfl) (hp : ((backTo pos (starEach ys fr.env)).any fun z => z.1) = false := by rfl) (hm : eval (.Call (.Attribute x name apos) (y :: ys) [] pos) fr.env = (do
   let ov <- eval x fr.env
   standAt apos.atName
   let (f, first) <- holding [ov] (getMethod ov name pl)
   callWith pos f first (backTo pos (starEach (y :: ys) fr.env)) []) := by rfl) :
  Sim B n fr ow VR (eval (.Call (.Attribute x name apos) (y :: ys) [] pos) fr.env) (ql c m ms g) := by
 refine ⟨?_⟩
 intro A G st s o i Q E h
 refine MethodCall_ (h1.run A G st s o i _ _ (h.bind ?_)) hm
 intro v st' s' G' cv x' i' r h'
 rw [M.bind_eq] at h'
 unfold xO at h'
 cases v with
 | ref j =>
  dsimp only at h'
  cases hj : st'.hp[j]? with
  | none => rw [hj] at h'; exact h'.elim
  | some cell =>
   rw [hj] at h'
   cases cell with
   | obj k fs =>
    dsimp only at h'
    by_cases hkc : k = c
    ·rw [if_pos hkc] at h'
     subst hkc
     refine ZJ b i' r hj hc hf ht hn ?_
     refine callWith_K b.kin hk (hargs.run A G' st' s' o i' _ _ (qX.bind h' ?_)) he hp
     intro vs st2 s2 G2 cs x₂ i₂ r₂ h₂
     exact ⟨i₂.kin b, H A fr ow G2 st2 s2 _ _ o i₂ (.cons (r.mono x₂.g) r₂) _ _ h₂⟩
    ·rw [if_neg hkc] at h'; exact h'.elim
   | _ => exact h'.elim
 | _ => exact h'.elim
theorem sim_meth0 {pl : Sem Bool} {c : Cls} {f : Addr} {g : List V -> M V} {x : PySem.Expr} {name : Str} {apos pos : Pos} {m : M V} (b : B.Ok) (H : qQ B n f g) (hc : c ≠ .error) (hf : findIn B.K (.ref (cA c)) name = some (some (.ref f)))
  (ht : typeIn B.K (.ref f) = some (.type "function")) (hn : name ∉ zM c) (hk : keepIn B.K (.ref f) = true) (h1 : Sim B n fr ow VR (eval x fr.env) m) (hm : eval (.Call (.Attribute x name apos) [] [] pos) fr.env = (do
   let ov <- eval x fr.env
   standAt apos.atName
   let (f, first) <- holding [ov] (getMethod ov name pl)
   callWith pos f first (backTo pos (starEach [] fr.env)) []) := by rfl) :
  Sim B n fr ow VR (eval (.Call (.Attribute x name apos) [] [] pos) fr.env) (ql c m [] g) := by
 refine ⟨?_⟩
 intro A G st s o i Q E h
 refine MethodCall_ (h1.run A G st s o i _ _ (h.bind ?_)) hm
 intro v st' s' G' cv x' i' r h'
 rw [M.bind_eq] at h'
 unfold xO at h'
 cases v with
 | ref j =>
  dsimp only at h'
  cases hj : st'.hp[j]? with
  | none => rw [hj] at h'; exact h'.elim
  | some cell =>
   rw [hj] at h'
   cases cell with
   | obj k fs =>
    dsimp only at h'
    by_cases hkc : k = c
    ·rw [if_pos hkc] at h'
     subst hkc
     refine ZJ b i' r hj hc hf ht hn ?_
     refine callWith_K0 (i'.kin b) hk ?_
     exact H A fr ow G' st' s' [_] _ o i' (.cons r .nil) _ _ h'
    ·rw [if_neg hkc] at h'; exact h'.elim
   | _ => exact h'.elim
 | _ => exact h'.elim
theorem zG {pl : Sem Bool} {x y : PySem.Expr} {apos pos : Pos} {o e : M V} (h1 : Sim B n fr ow VR (eval x fr.env) o) (h2 : Sim B n fr ow VR (eval y fr.env) e) (he : starEach [y] fr.env = [(false, eval y fr.env)] := by rfl) (hm : eval (.Call (.Attribute x (Str.ofString "append") apos) [y] [] pos) fr.env = (do
   let ov <- eval x fr.env
   standAt apos.atName
   let (f, first) <- holding [ov] (getMethod ov (Str.ofString "append") pl)
   callWith pos f first (backTo pos (starEach [y] fr.env)) []) := by rfl) :
  Sim B n fr ow VR (eval (.Call (.Attribute x (Str.ofString "append") apos) [y] [] pos) fr.env) (ze o e) := by
 refine ⟨?_⟩
 intro A G st s ok i Q E h
 refine MethodCall_ (h1.run A G st s ok i _ _ (h.bind ?_)) hm
 intro v st' s' G' cv x' i' r h'
 rw [M.bind_eq] at h'
 unfold xi at h'
 cases hl : qo st'.hp v with
 | none => rw [hl] at h'; exact h'.elim
 | some l =>
  rw [hl] at h'
  obtain ⟨a, k, cs, rfl, ho, rr⟩ := vA i' r hl
  refine getMethod_list_append ho rfl rfl ?_
  refine callWith_method1 (yM ok i' h2 (k := fun w => kK v w) h' ?_ he) (by rw [he]; rfl)
  intro w st2 s2 G2 c₂ x₂ i₂ r₂ h₂
  exact KY i₂ (r.mono x₂.g) r₂ h₂
theorem wI {pl : Sem Bool} {x : PySem.Expr} {apos pos : Pos} {o : M V} (h1 : Sim B n fr ow VR (eval x fr.env) o) (hm : eval (.Call (.Attribute x (Str.ofString "pop") apos) [] [] pos) fr.env = (do
   let ov <- eval x fr.env
   standAt apos.atName
   let (f, first) <- holding [ov] (getMethod ov (Str.ofString "pop") pl)
   callWith pos f first (backTo pos (starEach [] fr.env)) []) := by rfl) :
  Sim B n fr ow VR (eval (.Call (.Attribute x (Str.ofString "pop") apos) [] [] pos) fr.env) (Kv o) := by
 refine ⟨?_⟩
 intro A G st s ok i Q E h
 refine MethodCall_ (h1.run A G st s ok i _ _ (h.bind ?_)) hm
 intro v st' s' G' cv x' i' r h'
 obtain ⟨a, ob, rfl, q1, q2, q3, q4⟩ := wp_pPop i' r h'
 exact Copied.getMethod_pop_at q1 q2 q3 (callWith_method0 q4)
theorem JQ {pl : Sem Bool} {x y : PySem.Expr} {apos pos : Pos} {o e : M V} (h1 : Sim B n fr ow VR (eval x fr.env) o) (h2 : Sim B n fr ow VR (eval y fr.env) e) (he : starEach [y] fr.env = [(false, eval y fr.env)] := by rfl) (hm : eval (.Call (.Attribute x (Str.ofString "update") apos) [y] [] pos) fr.env = (do
   let ov <- eval x fr.env
   standAt apos.atName
   let (f, first) <- holding [ov] (getMethod ov (Str.ofString "update") pl)
   callWith pos f first (backTo pos (starEach [y] fr.env)) []) := by rfl) :
  Sim B n fr ow VR (eval (.Call (.Attribute x (Str.ofString "update") apos) [y] [] pos) fr.env) (Zz o e) := by
 refine ⟨?_⟩
 intro A G st s ok i Q E h
 refine MethodCall_ (h1.run A G st s ok i _ _ (h.bind ?_)) hm
 intro v st' s' G' cv x' i' r h'
 rw [M.bind_eq] at h'
 unfold xj at h'
 cases hl : zv st'.hp v with
 | none => rw [hl] at h'; exact h'.elim
 | some jl =>
  obtain ⟨j, kv⟩ := jl
  rw [hl] at h'
  obtain ⟨a, es, rfl, ga, hj, ho, hr, hs⟩ := vB i' r hl
  have hdn : ∀ b, Value.ref a = .ref b -> ∃ oo, s'.heap.get? b = some oo /\ oo.dict = none := fun b q => by
   cases q
   obtain ⟨oo, es', ep, w1, w2, _⟩ := ho
   exact ⟨oo, w1, w2.2.1⟩
  refine getMethod_builtin ho.typeIs PySem.F.plainAttrs_dict PySem.F.slot_dict_update PySem.F.type_dict_update hdn ?_
  refine callWith_method1 (yM ok i' h2 (k := fun w => wn v w) h' ?_ he) (by rw [he]; rfl)
  intro w st2 s2 G2 c₂ x₂ i₂ r₂ h₂
  unfold wn at h₂
  cases hv : zv st2.hp v with
  | none => rw [hv] at h₂; exact h₂.elim
  | some jk =>
   cases hw : zv st2.hp w with
   | none => rw [hv, hw] at h₂; exact h₂.elim
   | some ik =>
    obtain ⟨j₁, kv1⟩ := jk
    obtain ⟨i₁, more⟩ := ik
    rw [hv, hw] at h₂
    dsimp only at h₂
    by_cases hz : i₁ ≠ j₁ /\ kv1.length + more.length <= zh
    rotate_left
    ·rw [if_neg hz] at h₂; exact h₂.elim
    rw [if_pos hz] at h₂
    obtain ⟨a', es₁, e1, ga1, hj1, ho₁, hr₁, hs₁⟩ := vB i₂ (r.mono x₂.g) hv
    cases e1
    obtain ⟨b, es₂, rfl, gb, hj2, ho2, hr₂, hs₂⟩ := vB i₂ r₂ hw
    have hne : a ≠ b := fun q => by
     subst q
     rw [ga1] at gb
     cases gb
     exact hz.1 rfl
    have hlim := jF
    refine call_meetsIn PySem.F.slot_dict_update ho₁.typeIs PySem.F.entry_dict_update (PySem.F.args_dict_update_2 _ _) (meets_dict_update (strKind B.prog B.w) a b hne hs₂) ⟨es₁, es₂, ho₁, ho2, by rw [hr₁.len, hr₂.len]; exact le2 hz.2 hlim, fun h₃ hd₃ _ hsb => ?_⟩
    obtain ⟨x₃, i3⟩ := i₂.turnD (ow := ow) (tk := s2.toks) (l' := Zh kv1 more) hsb ga1 hj1 hd₃ (hr₂.merged hr₁ (DictOf.nodup ho₁)) hs
    exact h₂ _ _ _ x₃ i3 rfl
theorem sim_eFind {pl : Sem Bool} {x y : PySem.Expr} {apos pos : Pos} {o e : M V} (h1 : Sim B n fr ow VR (eval x fr.env) o) (h2 : Sim B n fr ow VR (eval y fr.env) e) (he : starEach [y] fr.env = [(false, eval y fr.env)] := by rfl) (hm : eval (.Call (.Attribute x (Str.ofString "find") apos) [y] [] pos) fr.env = (do
   let ov <- eval x fr.env
   standAt apos.atName
   let (f, first) <- holding [ov] (getMethod ov (Str.ofString "find") pl)
   callWith pos f first (backTo pos (starEach [y] fr.env)) []) := by rfl) :
  Sim B n fr ow VR (eval (.Call (.Attribute x (Str.ofString "find") apos) [y] [] pos) fr.env) (eFind o e) := by
 refine ⟨?_⟩
 intro A G st s ok i Q E h
 refine MethodCall_ (h1.run A G st s ok i _ _ (h.bind ?_)) hm
 intro v st' s' G' cv x' i' r h'
 cases v with
 | str xs =>
  obtain ⟨t, rfl⟩ := r
  refine getMethod_builtin (T := "str") (id := "str.find") (typeIs_str s' xs t) PySem.F.plainAttrs_str PySem.F.slot_str_find PySem.F.type_str_find (fun a q => nomatch q) ?_
  refine callWith_method1 (yM ok i' h2 (k := fun w => pFind (.str xs) w) h' ?_ he) (by rw [he]; rfl)
  intro w st2 s2 G2 c₂ x₂ i₂ r₂ h₂
  cases w with
  | str ys =>
   obtain ⟨u, rfl⟩ := r₂
   refine call_gives PySem.F.slot_str_find (typeIs_str s2 xs t) PySem.F.entry_str_find (PySem.F.args_str_find_2 _ _) (PySem.gives_str_find xs ys t u) ?_
   exact h₂.ok' (.tok _) (i₂.tok _) ⟨_, rfl⟩
  | _ => exact h₂.elim
 | _ => exact h'.elim
theorem sim_isVec {x : Str} {y : PySem.Expr} {p p2 pos : Pos} {m : M V} {xc : Str} (b : B.Ok) (ki : KI B.K) (ok : FrG fr) (hx : fr.env.kindOf x = some .globalImplicit) (e : nsIn B.K mainGlobals x = some none) (hb : bootBuiltins x = some (.builtin "isinstance"))
  (hxc : fr.env.kindOf xc = some .globalImplicit) (ec : nsIn B.K mainGlobals xc = some (some (.ref (cA .vector)))) (h1 : Sim B n fr ow VR (eval y fr.env) m) (hn : x ≠ "__name__" := by decide) (hd : (x == ("__debug__" : Str)) = false := by decide) (hdc : (xc == ("__debug__" : Str)) = false := by decide)
  (he : starEach [y, .Name xc p2] fr.env = [(false, eval y fr.env), (false, eval (.Name xc p2) fr.env)] := by rfl) :
  Sim B n fr ow VR (eval (.Call (.Name x p) [y, .Name xc p2] [] pos) fr.env) (m >>= QP) := by
 refine ⟨?_⟩
 intro A G st s o i Q E h
 show wpAny _ _ (eval (.Name x p) fr.env >>= fun f => callWith pos f [] (backTo pos (starEach [y, .Name xc p2] fr.env)) []) _ _ _
 refine wpAny_bind (QA b ok i hx e hb hn hd ?_)
 refine PyProof.Rows.callWith_builtin1 (wpAny_items_cons (h1.run A G st s o i _ _ (h.bind ?_)) (by rw [he]; rfl)) (by rw [he]; rfl) rfl
 intro v st' s' G' cv x' i' r h'
 refine wpAny_items_cons (wd b ok i' hxc ec hdc (wpAny_items_nil ?_)) rfl
 have go : ∀ c fs, v = .obj c fs -> (c = .vector \/ c = .null) -> ∀ t, kitOne B.K (.ref (cA c)) (.ref (cA .vector)) = some t -> qX B fr ow G' s' VR Q E (.ok (.bool t) st') -> wpAny (model B.prog B.w) A (call (.builtin "isinstance") [cv, .ref (cA .vector)]) Q E s' := by
  intro c fs hv hc t ht hA
  obtain ⟨a, dx, k, es, rfl, w1, w2, _, _, _⟩ := yu i' r (.inl hv)
  have z176 := ki.hg c hc; have q1 := z176.1; have q2 := z176.2.1; have q3 := z176.2.2.1; have q4 := z176.2.2.2
  refine kia_one (kitx_own q1 q2 q3 ki.hn.1 ki.hn.2 q4) (i'.kin b) (vW w1 w2) ht (fun q => nomatch q) fun tk => ?_
  exact hA.ok' (.tok _) (i'.tok _) rfl
 cases v with
 | obj c fs =>
  cases c with
  | vector => exact go .vector fs rfl (.inl rfl) true ki.hv h'
  | null => exact go .null fs rfl (.inr rfl) false ki.hu h'
  | _ => exact h'.elim
 | _ => exact h'.elim
end
noncomputable def xu (xs : List Str) (d : Option V) (vs : List V) : Option Fs :=
 if vs.length = xs.length then some (xs.zip vs)
 else match d with | some v => if vs.length + 1 = xs.length then some (xs.zip (vs ++ [v])) else none | none => none
noncomputable def qq (xs : List Str) (d : Option V) (m : M Fl) (vs : List V) : M V := match xu xs d vs with | some lc => wm lc m | none => zC
noncomputable def vt (xs : List Str) (d : Option V) (r : List (Str × M V)) (fin : Fs -> M V) (vs : List V) : M V := match xu xs d vs with | some lc => ZU lc r fin | none => zC
theorem yQ {xs : List Str} {d : Option V} {vs : List V} {lc : Fs} (h : xu xs d vs = some lc) : (vs.length = xs.length /\ lc = xs.zip vs) \/ ∃ v, d = some v /\ vs.length + 1 = xs.length /\ lc = xs.zip (vs ++ [v]) := by
 unfold xu at h
 by_cases hl : vs.length = xs.length
 ·rw [if_pos hl] at h; cases h; exact .inl ⟨hl, rfl⟩
 ·rw [if_neg hl] at h
  cases d with
  | none => cases h
  | some v =>
   dsimp only at h
   by_cases hl' : vs.length + 1 = xs.length
   ·rw [if_pos hl'] at h; cases h; exact .inr ⟨v, rfl, hl', rfl⟩
   ·rw [if_neg hl'] at h; cases h
theorem LB.zip {G : Gst} {vs : List V} {cs : List Value} (xs : List Str) (h : VRs G vs cs) : LB G (xs.zip vs) (xs.zip cs) := by
 induction h generalizing xs with
 | nil => rw [List.zip_nil_right, List.zip_nil_right]; exact .nil
 | cons a _ ih => cases xs with
  | nil => exact .nil
  | cons x xs => exact .cons a (ih xs)
theorem wa {α β : Type} (xs : List α) (vs : List β) (h : vs.length = xs.length) : (xs.zip vs).map (·.1) = xs := List.map_fst_zip (Nat.le_of_eq h.symm)
theorem yr {α β : Type} {xs : List α} {vs : List β} {p : α × β} (h : p ∈ xs.zip vs) : p.1 ∈ xs := (List.of_mem_zip h).1
structure z0 (K : Frag) (r : qW) (dV : Value) (xs : List Str) (d : Option V) (dc : Value) (pre : List Value) (pren : List Str) : Prop where
 full : ∀ s cs kV doc pm an cdv ct, K.In s.heap -> cs.length = xs.length -> BindsTo s (fnOf r.name r.qual r.params r.body r.scope dV kV doc pm an cdv ct) ⟨pre ++ cs, []⟩ (pren.zip pre ++ xs.zip cs)
 part : ∀ v, d = some v -> (∀ G, VR G v dc) /\ ∀ s cs kV doc pm an cdv ct, K.In s.heap -> cs.length + 1 = xs.length -> BindsTo s (fnOf r.name r.qual r.params r.body r.scope dV kV doc pm an cdv ct) ⟨pre ++ cs, []⟩ (pren.zip pre ++ xs.zip (cs ++ [dc]))
section
variable {B : Bs} {n : Nat}
theorem csim_def {a : Addr} {r : qW} {dV : Value} {xs : List Str} {d : Option V} {dc : Value} {m : M Fl} (b : B.Ok) (hf : k6 B.K a r dV) (hcell : ∀ x ∈ r.scope.names, x.2 ≠ .cell) (hloc : ∀ x ∈ xs, r.scope.names.lookup x = some .local) (hk : r.scope.kind = .function)
  (hco : r.scope.isCoroutine = false) (hgen : r.scope.isGenerator = false) (hn : xs.Nodup) (hb : z0 B.K r dV xs d dc [] [])
  (hm : ∀ L cdv fr', fr'.env = envOf r.qual r.scope L a cdv -> fr'.fenv = fr'.env -> Sim B n fr' fr'.own FR (execs r.body fr'.env) m) : qQ B (n + 1) a (qq xs d m) := by
 intro A fr ow G st s vs cs o i rv Q E h
 unfold qq at h
 have hd : A.depth < recursionLimit := by have := o.depth; exact lt1 (sL this)
 have go : ∀ (ws : List V) (ds : List Value), VRs G ws ds -> ws.length = xs.length -> (∀ kV doc pm an cdv ct, BindsTo s (fnOf r.name r.qual r.params r.body r.scope dV kV doc pm an cdv ct) ⟨cs, []⟩ (xs.zip ds)) ->
   qX B fr ow G s VR Q E (wm (xs.zip ws) m st) -> wpAny (model B.prog B.w) A (call (.ref a) cs) Q E s := by
  intro ws ds rw hl hbb hA
  refine wpAny_call (code_call (R := fun r s' => match r with | .ok (.ret v) => Q v s' | .ok _ => False | .error e => E e s') b hf hcell (fun x hx => hloc _ (yr hx)) hk hco hgen hd i hbb (LB.zip xs rw) (by rw [wa xs ws hl]; exact hn) hm (fun env => o.deep) (fun _ _ q => q) (fun _ _ q => q) hA)
 cases hfl : xu xs d vs with
 | none => rw [hfl] at h; exact h.elim
 | some lc =>
  rw [hfl] at h
  rcases yQ hfl with ⟨hl, rfl⟩ | ⟨v, rfl, hl, rfl⟩
  ·exact go vs cs rv hl (fun kV doc pm an cdv ct => hb.full s cs kV doc pm an cdv ct (i.kin b) (rv.length ▸ hl)) h
  ·have z177 := hb.part v rfl; have hc := z177.1; have hbb := z177.2
   exact go (vs ++ [v]) (cs ++ [dc]) (rv.append (.cons (hc G) .nil)) (by rw [List.length_append]; exact hl) (fun kV doc pm an cdv ct => hbb s cs kV doc pm an cdv ct (i.kin b) (by rw [<- rv.length]; exact hl)) h
theorem csim_cls {c : Cls} {fI : Addr} {r : qW} {dV : Value} {self : Str} {xs : List Str} {d : Option V} {dc : Value} {rows : List (Str × M V)} (fz : Bool) (b : B.Ok) (hc : c ≠ .error) (hi : findIn B.K (.ref (cA c)) "__init__" = some (some (.ref fI))) (hfn : typeIn B.K (.ref fI) = some (.type "function"))
  (hf : k6 B.K fI r dV) (hcell : ∀ x ∈ r.scope.names, x.2 ≠ .cell) (hself : r.scope.names.lookup self = some .local) (hloc : ∀ x ∈ xs, r.scope.names.lookup x = some .local) (hk : r.scope.kind = .function)
  (hco : r.scope.isCoroutine = false) (hgen : r.scope.isGenerator = false) (hsd : (self == ("__debug__" : Str)) = false) (hn : (self :: xs).Nodup) (hb : ∀ a, z0 B.K r dV xs d dc [.ref a] [self])
  (hm : ∀ L cdv fr', fr'.env = envOf r.qual r.scope L fI cdv -> fr'.fenv = fr'.env -> yE B n fr' self r.body rows) (hr : rows.map (·.1) = zM c) :
  qQ B (n + 1) (cA c) (vt xs d rows (if fz then kH c else yh c)) := by
 intro A fr ow G st s vs cs o i rv Q E h
 unfold vt at h
 have go : ∀ (ws : List V) (ds : List Value), VRs G ws ds -> ws.length = xs.length -> (∀ s' a kV doc pm an cdv ct, B.K.In s'.heap -> BindsTo s' (fnOf r.name r.qual r.params r.body r.scope dV kV doc pm an cdv ct) ⟨.ref a :: cs, []⟩ ((self, .ref a) :: xs.zip ds)) ->
   qX B fr ow G s VR Q E (ZU (xs.zip ws) rows (if fz then kH c else yh c) st) -> wpAny (model B.prog B.w) A (call (.ref (cA c)) cs) Q E s := by
  intro ws ds rw hl hbb hA
  refine wpAny_call (K3 (ow := ow) (R := fun r s' => match r with | .ok (.ret v) => Q v s' | .ok _ => False | .error e => E e s') b hc hi hfn hf hcell hself (fun x hx => hloc _ (yr hx)) hk hco hgen hsd o i (fun s' a kV doc pm an cdv ct hkp => hbb s' a kV doc pm an cdv ct ((i.kin b).keeps hkp)) (LB.zip xs rw)
   (by rw [wa xs ws hl]; exact hn) hm hr (fun s' G' fs st' a dx es k e x i' ha hdx hne ga gd w1 w2 w3 w4 => ?_) (mkRun_ok hA))
  have hA' := mkRun_at hA e
  cases fz with
  | true => exact after_fz i x i' ha hdx hne ga gd w1 w2 w3 w4 hA'
  | false => exact after_cl i x i' ha hdx hne ga gd w1 w2 w3 w4 hA'
 cases hfl : xu xs d vs with
 | none => rw [hfl] at h; exact h.elim
 | some lc =>
  rw [hfl] at h
  rcases yQ hfl with ⟨hl, rfl⟩ | ⟨v, rfl, hl, rfl⟩
  ·exact go vs cs rv hl (fun s' a kV doc pm an cdv ct hK => (hb a).full s' cs kV doc pm an cdv ct hK (rv.length ▸ hl)) h
  ·exact go (vs ++ [v]) (cs ++ [dc]) (rv.append (.cons (((hb 0).part v rfl).1 G) .nil)) (by rw [List.length_append]; exact hl) (fun s' a kV doc pm an cdv ct hK => ((hb a).part v rfl).2 s' cs kV doc pm an cdv ct hK (by rw [<- rv.length]; exact hl)) h
end
end
section
open PySem PySem.W PySem.Calls PyProof.Rows Builtin Builtin.ObjectAttr
section
variable {prog : Program} {w : World} {A : Around} {R : Result -> Shared -> Prop} {h : Heap} {g : Array GenState} {d : Drawn} {t : Nat} {os : OsState}
variable {nm q : Str} {C N fI : Addr} {bs bm bmB : List Value} {hdct : Bool} {sn : List Str} {sub : List Value} {ab : Bool} {col : Option Bool} {dd : Option Addr} {k0 k1 k2 k3 k5 : Option Value} {Bb newId initId : String}
theorem ZA {rest : List Value} {Q : Fin -> Shared -> Prop} {E : Value -> Shared -> Prop} (F : ExcBaseFacts Bb newId initId bmB) (T : OwnTail h bmB bm) (hC : h.get? C = some (excClassObj nm q C N bs bm hdct sn sub ab col dd k0 k1 k2 k3 k5 newId))
  (hi : Looks (model prog w) h (typeLookup (.ref C) "__init__") (some (.ref fI))) (hb : ∀ self, Looks (model prog w) h (bindSpecial (.ref fI) self) (.ref fI, [self])) (hrest : rest.length <= sizeLine)
  (hq : codeAny (model prog w) A (.call (.ref fI) ⟨.ref (h.objs.size + 1) :: rest, []⟩) (InitBack (h.objs.size + 1) fun r s' => match r with | .ok f => Q (.done f) s' | .error e => E e s')
   ⟨(h.push { cls := .type "tuple", data := .seq rest.toArray }).push { cls := .ref C, data := .fields #[.ref h.objs.size, .none, .none, .none, .bool false, .none] }, g, d, t, os⟩) :
  wpAny (model prog w) A (Builtin.«type.__call__» ⟨.ref C :: rest, []⟩) Q E ⟨h, g, d, t, os⟩ := by
 repeat (first | with_reducible refine wpAny_loadPart_at hC ?_ | with_reducible refine wpAny_madeBy_exc hC ?_ | wp_step)
 refine codeAny_call_builtin_code (Code.quiet_builtin _ F.quiet) (wpAny_check_new_subT F T hC ?_)
 refine codeAny_exc_new_subT F T hC ?_ hrest
 show wpAny _ _ _ _ _ _
 have hC1 := Heap.get?_push_of_some { cls := .ref C, data := .fields #[.ref h.objs.size, .none, .none, .none, .bool false, .none] }
  (Heap.get?_push_of_some { cls := .type "tuple", data := .seq rest.toArray } hC)
 have hget : ((h.push { cls := .type "tuple", data := .seq rest.toArray }).push
   { cls := .ref C, data := .fields #[.ref h.objs.size, .none, .none, .none, .bool false, .none] }).get? (h.objs.size + 1) = some
   { cls := .ref C, data := .fields #[.ref h.objs.size, .none, .none, .none, .bool false, .none] } := by heap_get
 have hcC : (Value.ref C :: bm).contains (.ref C) = true := by simp
 have k : ∀ b o, h.get? b = some o -> ((h.push { cls := .type "tuple", data := .seq rest.toArray }).push { cls := .ref C, data := .fields #[.ref h.objs.size, .none, .none, .none, .bool false, .none] }).get? b = some o :=
  fun b o e => Heap.get?_push_of_some _ (Heap.get?_push_of_some _ e)
 have i1 := hi.keeps k
 have b1 := (hb (.ref (h.objs.size + 1))).keeps k
 unfold isInstance
 repeat (first | with_reducible refine wpAny_loadPart_at hget ?_ | (with_reducible refine wpAny_isSubtype_exc hC1 ?_; rw [hcC]) | wp_step)
 show wpAny _ _ (typeLookup (.ref C) _) _ _ _
 refine i1.here ?_
 refine wpAny_holding (wpAny_bind (b1.here ?_))
 refine wpAny_bind (wpAny_call (codeAny_mono hq fun r s' z => ?_))
 rcases r with e | (v | _ | _ | _) <;> first | exact z | exact z.elim | skip
 obtain ⟨rfl, z⟩ := z
 wp_walk
 exact z
theorem exc_make {rest : List Value} (F : ExcBaseFacts Bb newId initId bmB) (T : OwnTail h bmB bm) (hC : h.get? C = some (excClassObj nm q C N bs bm hdct sn sub ab col dd k0 k1 k2 k3 k5 newId))
  (hi : Looks (model prog w) h (typeLookup (.ref C) "__init__") (some (.ref fI))) (hb : ∀ self, Looks (model prog w) h (bindSpecial (.ref fI) self) (.ref fI, [self])) (hrest : rest.length <= sizeLine)
  (hq : codeAny (model prog w) (A.under (.builtin "type.__call__" ⟨.ref C :: rest, []⟩)) (.call (.ref fI) ⟨.ref (h.objs.size + 1) :: rest, []⟩) (InitBack (h.objs.size + 1) R)
   ⟨(h.push { cls := .type "tuple", data := .seq rest.toArray }).push { cls := .ref C, data := .fields #[.ref h.objs.size, .none, .none, .none, .bool false, .none] }, g, d, t, os⟩) :
  codeAny (model prog w) A (.call (.ref C) ⟨rest, []⟩) R ⟨h, g, d, t, os⟩ := by
 have f1 := tc_lookup
 have f2 := tc_bind (.ref C)
 have hT : (⟨h, g, d, t, os⟩ : Shared).TypeIs (.ref C) "type" := ⟨_, hC, rfl⟩
 refine codeAny_of_tree ?_
 show wpAny _ _ (callAny (.ref C) _) _ _ _
 repeat (any_goals (first | assumption | with_reducible refine wpAny_loadPart_at hC ?_ | wp_step))
 refine ⟨rfl, ?_⟩
 refine codeAny_call_builtin_at (Code.quiet_builtin _ (by decide +kernel)) entry_typeCall (wpAny_check_type_call_sub hC (ZA F T hC hi hb hrest ?_))
 refine codeAny_mono hq fun r s' z => ?_
 rcases r with e | (v | _ | _ | _) <;> first | exact z | exact z.elim
end
section
variable {prog : Program} {w : World} {A : Around} {K : Frag} {C C' x : Addr}
theorem JN {s : Shared} {dx : Addr} {es : List DictEntry} {k : Nat} {name : Str} {tk : Tok} {v : Value} {Q : Fin -> Shared -> Prop} {E : Value -> Shared -> Prop} (h2 : s.heap.get? dx = some (dictOf es k)) (hr : es.any (·.refKey) = false) (hz : es.length <= 900)
  (h : ∀ h' k' t, Heap.SameBut dx s.heap h' -> h'.get? dx = some (dictOf (putL name (PyData.keyHash w.params name) (.str name t) v es) k') -> Q (.done (.ret .none)) { s with heap := h', toks := s.toks + 1 }) :
  wpAny (model prog w) A (storeInDict dx (.str name tk) name v) Q E s := by
 unfold storeInDict newKeyGuard
 refine wpAny_bind (wpAny_pure (wpAny_bind ?_))
 unfold nsSet
 refine wpAny_bind (wpAny_bind (wpAny_askSetting (wpAny_pure (wpAny_bind (wpAny_mkText (wpAny_bind (wpAny_loadPart h2 ?_)))))))
 have cnd : (!es.toArray.any (·.key.isStr name) && es.toArray.any (·.refKey)) = false := by
  have : es.toArray.any (·.refKey) = false := by simpa using hr
  rw [this, Bool.and_false]
 dsimp only
 rw [aRefKeyMayBeTheName_at, cnd]
 refine wpAny_updatePart h2 ?_
 have hnew := Heap.get?_update_self (Obj.putName name (PyData.keyHash w.params name) (.str name s.toks) v) h2 (by rw [putName_dict]; rfl)
 rw [putName_dict] at hnew
 have hlen := yH name (PyData.keyHash w.params name) (.str name s.toks) v es
 refine wpAny_bind (wpAny_lookBehind hnew (pastItsLine_dict (by rw [List.size_toArray, sizeLine_eq]; exact le2 hlen hz)) ?_)
 exact wpAny_pure (h _ _ _ (Heap.SameBut.update ..) hnew)
theorem Xo {s : Shared} {ox : Obj} {od : Option Obj} {cd : ClassData} {name : Str} {v : Value} {Q : Unit -> Shared -> Prop} {E : Value -> Shared -> Prop} (X : K.In s.heap) (I : InstAt s.heap x ox C od) (hsa : findIn K (.ref C) "__setattr__" = some (some (.builtin "object.__setattr__")))
  (hcd : clsIn K C = some cd) (hmro : cd.mro = [.ref C, .ref C', .type "Exception", .type "BaseException", .type "object"]) (hn : findIn K (.ref C) name = some none)
  (h : wpAny (model prog w) A.in1 (storeInOwnDict (.ref x) (.ref C) (.str name s.toks) name v false) (fun fin s' => match fin with | .done (.ret _) => Q () s' | _ => False) (fun e s' => E e s') { s with toks := s.toks + 1 }) :
  wpAny (model prog w) A (setAttr (.ref x) name v) Q E s := by
 have SF := PySem.F.store_object
 have SE := PySem.F.store_Exception
 refine set_plain (K := K) X I hsa ?_
 have hm : Looks (model prog w) s.heap (mroOf (.ref C)) cd.mro := (looks_clsIn X hcd).andThen .now
 have sub : Looks (model prog w) s.heap (isInstance (.ref x) (.type "object")) true := I.type.andThen (looks_mroIn X (by unfold mroIn; rw [hcd, Option.bind_some, hmro]; rfl))
 refine codeAny_call_builtin (s := { s with toks := s.toks + 1 }) SF.slot.plain SF.entry (@check_slot (model prog w) _ _ { s with toks := s.toks + 1 } "object.__setattr__" "object" "__setattr__" (.ref x) [.str name s.toks, v] [] _ SF.kind SF.split sub (SF.args (.ref x) (.str name s.toks) v) ?_)
 rw [osa_eq, refuse_eq]
 refine wpAny_bind (wpAny_bind (I.type.here (s := { s with toks := s.toks + 1 }) (wpAny_bind (hm.here (s := { s with toks := s.toks + 1 }) ?_))))
 rw [hmro, refuseLoop_ref, refuseLoop_ref, SE.passes]
 refine wpAny_pure (wpAny_bind (I.type.here (s := { s with toks := s.toks + 1 }) (wpAny_bind ((looks_findIn X hn).here (s := { s with toks := s.toks + 1 }) (wpAny_bind (wpAny_pure ?_))))))
 refine wpAny_mono h (fun fin s' z => ?_) (fun _ _ z => z)
 rcases fin with (v | _ | _ | _) | c
 ·exact z.elim
 ·exact z.elim
 ·exact z.elim
 ·exact z
 ·exact z.elim
theorem exc_set1 {s : Shared} {vs : Array Value} {cd : ClassData} {name : Str} {v : Value} {dx : Addr} {es : List DictEntry} {k : Nat} {Q : Unit -> Shared -> Prop} {E : Value -> Shared -> Prop} (X : K.In s.heap)
  (hx : s.heap.get? x = some { cls := .ref C, dict := some dx, data := .fields vs }) (h2 : s.heap.get? dx = some (dictOf es k)) (hr : es.any (·.refKey) = false) (hz : es.length <= 900) (hsa : findIn K (.ref C) "__setattr__" = some (some (.builtin "object.__setattr__")))
  (hcd : clsIn K C = some cd) (hd : cd.hasDict = true) (hmro : cd.mro = [.ref C, .ref C', .type "Exception", .type "BaseException", .type "object"]) (hn : findIn K (.ref C) name = some none)
  (h : ∀ h' k' t tk, Heap.SameBut dx s.heap h' -> h'.get? dx = some (dictOf (putL name (PyData.keyHash w.params name) (.str name t) v es) k') -> Q () { s with heap := h', toks := tk }) :
  wpAny (model prog w) A (setAttr (.ref x) name v) Q E s := by
 refine Xo (C' := C') (od := some (dictOf es k)) X ⟨hx, rfl, rfl, h2⟩ hsa hcd hmro hn ?_
 refine wpAny_bind (wpAny_pure (wpAny_bind (wpAny_bind (wpAny_loadPart hx (wpAny_bind (Looks.here (s := { s with toks := s.toks + 1 }) (looks_clsIn X hcd) ?_))))))
 rw [hd]
 refine wpAny_pure (a := some dx) ?_
 exact JN (s := { s with toks := s.toks + 1 }) h2 hr hz fun h' k' t hs hg => h h' k' t _ hs hg
theorem exc_set0 {s : Shared} {vs : Array Value} {cd : ClassData} {name : Str} {v : Value} {Q : Unit -> Shared -> Prop} {E : Value -> Shared -> Prop} (X : K.In s.heap)
  (hx : s.heap.get? x = some { cls := .ref C, dict := none, data := .fields vs }) (hsa : findIn K (.ref C) "__setattr__" = some (some (.builtin "object.__setattr__")))
  (hcd : clsIn K C = some cd) (hd : cd.hasDict = true) (hmro : cd.mro = [.ref C, .ref C', .type "Exception", .type "BaseException", .type "object"]) (hn : findIn K (.ref C) name = some none)
  (h : ∀ h' k' t tk, (∀ b o, b ≠ x -> s.heap.get? b = some o -> h'.get? b = some o) -> h'.objs.size = s.heap.objs.size + 1 -> h'.get? x = some { cls := .ref C, dict := some s.heap.objs.size, data := .fields vs } ->
   h'.get? s.heap.objs.size = some (dictOf (putL name (PyData.keyHash w.params name) (.str name t) v []) k') -> Q () { s with heap := h', toks := tk }) :
  wpAny (model prog w) A (setAttr (.ref x) name v) Q E s := by
 refine Xo (C' := C') (od := none) X ⟨hx, rfl, rfl, trivial⟩ hsa hcd hmro hn ?_
 refine wpAny_bind (wpAny_pure (wpAny_bind (wpAny_bind (wpAny_loadPart hx (wpAny_bind (Looks.here (s := { s with toks := s.toks + 1 }) (looks_clsIn X hcd) ?_))))))
 rw [hd]
 have hxs : x ≠ s.heap.objs.size := Nat.ne_of_lt (Heap.lt_size hx)
 have hx₁ : (s.heap.push emptyDict).get? x = some { cls := .ref C, dict := none, data := .fields vs } := Heap.get?_push_of_some _ hx
 show wpAny _ _ (alloc emptyDict >>= _) _ _ _
 refine wpAny_bind (wpAny_alloc' ?_)
 refine wpAny_bind (wpAny_update' hx₁ ?_)
 refine wpAny_pure ?_
 have hgd : ((s.heap.push emptyDict).update x fun o => { o with dict := some s.heap.objs.size }).get? s.heap.objs.size = some (dictOf [] 0) := (Heap.get?_update_ne _ _ _ _ hxs.symm).trans (Heap.get?_push_at rfl rfl)
 have hgx : ((s.heap.push emptyDict).update x fun o => { o with dict := some s.heap.objs.size }).get? x = some { cls := .ref C, dict := some s.heap.objs.size, data := .fields vs } := Heap.get?_update_self _ hx₁ rfl
 refine JN (s := { s with heap := (s.heap.push emptyDict).update x fun o => { o with dict := some s.heap.objs.size }, toks := s.toks + 1 }) hgd rfl (by simp) fun h' k' t hs hg => ?_
 refine h h' k' t _ (fun b o hb e => ?_) ?_ ((hs.2 x hxs).trans hgx) hg
 ·exact (hs.2 b (Nat.ne_of_lt (Heap.lt_size e))).trans ((Heap.get?_update_ne _ _ _ _ hb).trans (Heap.get?_push_of_some _ e))
 ·rw [hs.1]
  show ((s.heap.push emptyDict).update x _).objs.size = _
  rw [Heap.size_after_update, Heap.size_push]
end
end
section
open PySem PySem.W PySem.Calls PyProof.Rows
noncomputable def sK : Str := Str.ofString "kind"
noncomputable def sA : Str := Str.ofString "at"
inductive ClsX (K : Frag) : Prop
 | mk (nm q N bs sn sub ab col dd k0 k1 k2 k3 k5) (h : K.lookup 51 = some (excClassObj nm q 51 N bs [.ref 31, .type "Exception", .type "BaseException", .type "object"] true sn sub ab col dd k0 k1 k2 k3 k5 "Exception.__new__"))
inductive BodyX (r : qW) (sf : Str) : Prop
 | mk (p1 p2 p3 p4 q1 q2 q3 q4) (h : r.body = [.Assign [.Attribute (.Name sf p1) sK p2] (.Name sK p3) p4, .Assign [.Attribute (.Name sf q1) sA q2] (.Name sA q3) q4])
structure KEx (K : Frag) (r : qW) (dV : Value) (sf : Str) : Prop where
 cls : ClsX K
 tail : tailIn K [.type "Exception", .type "BaseException", .type "object"] [.ref 31, .type "Exception", .type "BaseException", .type "object"] = true
 init : findIn K (.ref 51) "__init__" = some (some (.ref 48)) /\ typeIn K (.ref 48) = some (.type "function")
 sa : findIn K (.ref 51) "__setattr__" = some (some (.builtin "object.__setattr__"))
 kn : findIn K (.ref 51) sK = some none /\ findIn K (.ref 51) sA = some none
 fn : k6 K 48 r dV
 cell : ∀ x ∈ r.scope.names, x.2 ≠ .cell
 loc : r.scope.names.lookup sf = some .local /\ r.scope.names.lookup sK = some .local /\ r.scope.names.lookup sA = some .local
 scope : r.scope.kind = .function /\ r.scope.isCoroutine = false /\ r.scope.isGenerator = false
 selfOk : (sf == ("__debug__" : Str)) = false /\ sf ≠ sK /\ sf ≠ sA
 body : BodyX r sf
 binds : ∀ s a b c kV doc pm an cdv ct, BindsTo s (fnOf r.name r.qual r.params r.body r.scope dV kV doc pm an cdv ct) ⟨[a, b, c], []⟩ [(sf, a), (sK, b), (sA, c)]
section
variable {B : Bs} {n : Nat} {fr : Frm} {ow : Addr -> Prop}
theorem Ka {r : qW} {dV : Value} {sf : Str} {A : Around} {G : Gst} {st : St} {s : Shared} {kv pv : V} {ck cp : Value} {Q : Value -> Shared -> Prop} {E : Value -> Shared -> Prop} (b : B.Ok) (ke : KEx B.K r dV sf) (o : AOk (n + 1) A fr) (i : Inv B fr G st s) (hk : VR G kv ck) (hp : VR G pv cp)
  (h : ∀ s' G' e, Ext ow G s G' s' -> Inv B fr G' st s' -> G' e = none -> B.h0.get? e = none -> (∃ t dx, s'.heap.get? e = some { cls := .ref 51, dict := some dx, data := .fields #[.ref t, .none, .none, .none, .bool false, .none] } /\ G' dx = some (.fd .error [(sK, kv), (sA, pv)])) -> Q (.ref e) s') :
  wpAny (model B.prog B.w) A (call (.ref 51) [ck, cp]) Q E s := by
 obtain ⟨hh, g, d, tk, os⟩ := s
 obtain ⟨nm, q, N, bs, sn, sub, ab, col, dd, k0, k1, k2, k3, k5, hcls⟩ := ke.cls
 have kin := i.kin b
 have hC := kin _ _ hcls
 have T := tail_of_in kin ke.tail
 have hcd : clsIn B.K 51 = some { name := nm, bases := bs, mro := [.ref 51, .ref 31, .type "Exception", .type "BaseException", .type "object"], ns := N, qualname := q, hasDict := true, slotNames := sn, subclasses := sub, abstract := ab, collection := col, hasDel := false } := by
  unfold clsIn; rw [hcls]
 refine wpAny_call (exc_make PySem.F.excBase_Exception T hC (looks_findIn kin ke.init.1) (fun w => bind_fn kin w ke.init.2) (by show 2 <= sizeLine; decide) ?_)
 obtain ⟨oc, od, osl, kV, doc, pm, an, cdv, ct, hKf, hcdr⟩ := ke.fn
 generalize hH1 : hh.push { cls := .type "tuple", data := .seq [ck, cp].toArray } = H1
 generalize hH2 : H1.push { cls := .ref 51, data := .fields #[.ref hh.objs.size, .none, .none, .none, .bool false, .none] } = H2
 have z1 : H1.objs.size = hh.objs.size + 1 := by rw [<- hH1, Heap.size_push]
 have z2 : H2.objs.size = hh.objs.size + 2 := by rw [<- hH2, Heap.size_push, z1]
 have hk2 : ∀ b o, hh.get? b = some o -> H2.get? b = some o := fun b o e => hH2 ▸ Heap.get?_push_of_some _ (hH1 ▸ Heap.get?_push_of_some _ e)
 have hx2 : H2.get? (hh.objs.size + 1) = some { cls := .ref 51, dict := none, data := .fields #[.ref hh.objs.size, .none, .none, .none, .bool false, .none] } := by rw [<- hH2, <- z1]; exact Heap.get?_push_size _ rfl
 obtain ⟨xg, ig⟩ := i.grow (ow := ow) (s' := ⟨H2, g, d, tk, os⟩) hk2 (by show hh.objs.size <= H2.objs.size; exact le1 (eR z2)) ⟨rfl, rfl⟩
 have kin2 := ig.kin b
 obtain ⟨p1, p2, p3, p4, q1, q2, q3, q4, hbody⟩ := ke.body
 have hnd : ([(sf, Value.ref (hh.objs.size + 1)), (sK, ck), (sA, cp)].map (·.1)).Nodup := by
  have h1 : sK ≠ sA := by decide +kernel
  simp [ke.selfOk.2.1, ke.selfOk.2.2, h1]
 refine codeAny_call_def (s := ⟨H2, g, d, tk, os⟩) (fd := fnOf r.name r.qual r.params r.body r.scope dV kV doc pm an cdv ct) (body := r.body) (binds := [(sf, .ref (hh.objs.size + 1)), (sK, ck), (sA, cp)]) (by rw [wG]; have := o.depth; exact lt1 (sL this)) (kin2 _ _ hKf) rfl (b.nolim.keeps ig.base) (codeRec_of kin2 hcdr) rfl (ke.binds _ _ _ _ _ _ _ _ _ _) ke.cell
  (fun x hx => ?_) (fun h₁ hns hk₁ => ?_) ke.scope.2.1 ke.scope.2.2 ke.scope.1
 ·rcases List.mem_cons.mp hx with rfl | hx
  ·exact ke.loc.1
  ·rcases List.mem_cons.mp hx with rfl | hx
   ·exact ke.loc.2.1
   ·rcases List.mem_cons.mp hx with rfl | hx
    ·exact ke.loc.2.2
    ·cases hx
 ·have env_eq : callEnv (fnOf r.name r.qual r.params r.body r.scope dV kV doc pm an cdv ct) H2.objs.size 48 = envOf r.qual r.scope H2.objs.size 48 cdv := rfl
  rw [env_eq, hbody]
  have z3 : H2.objs.size < h₁.objs.size := hns.lt
  have hx1 := hk₁ _ _ hx2
  have lu : ∀ x v, [(sf, Value.ref (hh.objs.size + 1)), (sK, ck), (sA, cp)].lookup x = some v -> [(sf, Value.ref (hh.objs.size + 1)), (sK, ck), (sA, cp)].reverse.lookup x = some v := fun x v e => (vq hnd x).trans e
  have e1 : [(sf, Value.ref (hh.objs.size + 1)), (sK, ck), (sA, cp)].lookup sf = some (.ref (hh.objs.size + 1)) := by simp
  have nKs : (sK == sf) = false := by simpa using fun z : sK = sf => ke.selfOk.2.1 z.symm
  have nAs : (sA == sf) = false := by simpa using fun z : sA = sf => ke.selfOk.2.2 z.symm
  have nAK : (sA == sK) = false := by decide +kernel
  have e2 : [(sf, Value.ref (hh.objs.size + 1)), (sK, ck), (sA, cp)].lookup sK = some ck := by rw [List.lookup_cons, nKs, List.lookup_cons]; simp
  have e3 : [(sf, Value.ref (hh.objs.size + 1)), (sK, ck), (sA, cp)].lookup sA = some cp := by rw [List.lookup_cons, nAs, List.lookup_cons, nAK, List.lookup_cons]; simp
  have hkf : (envOf r.qual r.scope H2.objs.size 48 cdv).scope.kind = .function := ke.scope.1
  have X1 : B.K.In h₁ := kin2.keeps hk₁
  refine wpAny_execs_cons (plainObj_wpAny_Assign_Attribute (wpAny_Name (wpAny_loadName_local hkf ke.loc.2.1 hns (lu _ _ e2) ?_) (by decide +kernel)) rfl)
  refine wpAny_Name (wpAny_loadName_local hkf ke.loc.1 hns (lu _ _ e1) ?_) ke.selfOk.1
  refine exc_set0 (C' := 31) X1 hx1 ke.sa hcd rfl rfl ke.kn.1 fun h₂ k' t2 tk2 kp2 sz2 hx2' hd2 => ?_
  have sz2' : h₂.objs.size = h₁.objs.size + 1 := sz2
  have hL2 : h₂.Ns H2.objs.size (fun x => [(sf, Value.ref (hh.objs.size + 1)), (sK, ck), (sA, cp)].reverse.lookup x) := by
   obtain ⟨oL, es, ep, w1, w2⟩ := hns
   exact ⟨oL, es, ep, kp2 _ _ (Nat.ne_of_gt (by exact lt1 (eR z2))) w1, w2⟩
  have kp2' : ∀ b o, hh.get? b = some o -> h₂.get? b = some o := fun b o e => kp2 b o (Nat.ne_of_lt (Nat.lt_succ_of_lt (Heap.lt_size e))) (hk₁ b o (hk2 b o e))
  have X2 : B.K.In h₂ := kin.keeps kp2'
  refine wpAny_execs_cons (plainObj_wpAny_Assign_Attribute (wpAny_Name (wpAny_loadName_local hkf ke.loc.2.2 hL2 (lu _ _ e3) ?_) (by decide +kernel)) rfl)
  refine wpAny_Name (wpAny_loadName_local hkf ke.loc.1 hL2 (lu _ _ e1) ?_) ke.selfOk.1
  have hlen1 := yH sK (PyData.keyHash B.w.params sK) (.str sK t2) ck []
  have hDR1 : DR G [(sK, kv)] ([] ++ [sK]) (putL sK (PyData.keyHash B.w.params sK) (.str sK t2) ck []) := DR.add (fs := []) (G := G) hk (ns := []) (es := []) .nil (by simp)
  refine exc_set1 (C' := 31) X2 hx2' hd2 hDR1.noRef (Nat.le_trans hlen1 (by simp)) ke.sa hcd rfl rfl ke.kn.2 fun h₃ k3' t3 tk3 hs3 hd3 => ?_
  refine wpAny_execs_nil ⟨rfl, ?_⟩
  have sz3 : h₃.objs.size = h₂.objs.size := hs3.1
  have hne : hh.objs.size + 1 ≠ h₁.objs.size := by exact Nat.ne_of_lt (lt2 (eR z2) (sL z3))
  have kp3 : ∀ b o, hh.get? b = some o -> h₃.get? b = some o := fun b o e => (hs3.2 b (Nat.ne_of_lt (Nat.lt_of_lt_of_le (Heap.lt_size e) (show hh.objs.size <= h₁.objs.size by exact le2 (eR z2) (sL z3))))).trans (kp2' b o e)
  obtain ⟨x₃, i3⟩ := i.grow (ow := ow) (s' := ⟨h₃, g, d, tk3, os⟩) kp3 (by show hh.objs.size <= h₃.objs.size; exact le4 (eR z2) (sL z3) (eR sz2) (eR sz3)) ⟨rfl, rfl⟩
  obtain ⟨D1, D2, D3, D4⟩ := i.nobody (a := h₁.objs.size) (show hh.objs.size <= h₁.objs.size by exact le2 (eR z2) (sL z3))
  obtain ⟨e1', e2', e3', e4'⟩ := i.nobody (a := hh.objs.size + 1) (Nat.le_succ _)
  have hDR2 : DR G [(sK, kv), (sA, pv)] (zM .error) (putL sA (PyData.keyHash B.w.params sA) (.str sA t3) cp (putL sK (PyData.keyHash B.w.params sK) (.str sK t2) ck [])) := by
   have hno : sA ∉ ([] ++ [sK]) := by decide +kernel
   have := hDR1.add (x := sA) (hsh := PyData.keyHash B.w.params sA) (t := t3) hp hno
   have e : zT sA pv [(sK, kv)] = [(sK, kv), (sA, pv)] := by simp [zT, show sA ≠ sK from by decide +kernel]
   rw [e] at this
   exact this
  have i4 := i3.put (y := .fd .error [(sK, kv), (sA, pv)]) D1 D2 D3 D4 (fun _ _ q => q) ⟨k3', _, hd3, hDR2.mono (zN.le D1), fun x hx => by
   have : x = sK \/ x = sA := by
    by_cases h1 : x = sK
    ·exact .inl h1
    ·by_cases h2 : x = sA
     ·exact .inr h2
     ·have n1 : (x == sK) = false := by simpa using h1
      have n2 : (x == sA) = false := by simpa using h2
      simp [List.lookup_cons, n1, n2] at hx
   rcases this with rfl | rfl <;> decide +kernel⟩ (fun _ _ q => nomatch q) (fun _ _ q => nomatch q)
  exact h _ _ _ (Ext.put D1 x₃ (show hh.objs.size <= h₁.objs.size by exact le2 (eR z2) (sL z3))) i4 (by rw [zN.other hne]; exact e1') e2' ⟨_, _, (hs3.2 _ hne).trans hx2', zN.self⟩
end
section
variable {M : Model} {A : Around} {E : Value -> Shared -> Prop} {s : Shared} {env : Env}
variable {nm q : Str} {C N : Addr} {bs bm : List Value} {hdct : Bool} {sn : List Str} {sub : List Value} {ab : Bool} {col : Option Bool} {dd : Option Addr} {k0 k1 k2 k3 k5 : Option Value} {newId : String}
theorem Kk {x : Sem Value} {Q : Flow -> Shared -> Prop} (hbase : bm.contains (.type "BaseException") = true) (hh : A.handled = none)
  (h : wpAny M A x (fun v s₁ => ∃ e t dO, v = .ref e /\ s₁.heap.get? C = some (excClassObj nm q C N bs bm hdct sn sub ab col dd k0 k1 k2 k3 k5 newId) /\
   s₁.heap.get? e = some { cls := .ref C, dict := dO, data := .fields #[.ref t, .none, .none, .none, .bool false, .none] } /\ E (.ref e) s₁) E s) :
  wpAny M A (raiseStmt env (some x) none) Q E s := by
 have hcB : (Value.ref C :: bm).contains (.type "BaseException") = true := by rw [List.contains_cons, hbase, Bool.or_true]
 unfold raiseStmt
 refine wpAny_bind (wpAny_mono h (fun v s₁ h₁ => ?_) fun _ _ x => x)
 obtain ⟨e, t, dO, rfl, hC, he, hE⟩ := h₁
 obtain ⟨hp, g, d, tk, os⟩ := s₁
 repeat (first | with_reducible refine wpAny_loadPart_at he ?_ | with_reducible refine wpAny_loadPart_at hC ?_ | (with_reducible refine wpAny_isSubtype_exc hC ?_; rw [hcB]) | wp_step)
 exact wpAny_raiseNew_none hh hE
end
noncomputable def xN (k p : M V) : M Fl := k >>= fun kv => p >>= fun pv => fun st => .exc kv pv st
section
variable {B : Bs} {n : Nat} {fr : Frm} {ow : Addr -> Prop}
theorem sim_raise {r : qW} {dV : Value} {sf x : Str} {ke pe : PySem.Expr} {np cpos pos : Pos} {k p : M V} (b : B.Ok) (kx : KEx B.K r dV sf) (hk51 : keepIn B.K (.ref 51) = true) (ok : FrG fr) (hx : fr.env.kindOf x = some .globalImplicit) (e : nsIn B.K mainGlobals x = some (some (.ref 51)))
  (h1 : Sim B (n + 1) fr ow VR (eval ke fr.env) k) (h2 : Sim B (n + 1) fr ow VR (eval pe fr.env) p) (hd : (x == ("__debug__" : Str)) = false := by decide)
  (he1 : starEach [ke, pe] fr.env = (false, eval ke fr.env) :: starEach [pe] fr.env := by rfl) (he2 : starEach [pe] fr.env = [(false, eval pe fr.env)] := by rfl) :
  Sim B (n + 1) fr ow FR (exec (.Raise (some (.Call (.Name x np) [ke, pe] [] cpos)) none pos) fr.env) (xN k p) := by
 refine ⟨?_⟩
 intro A G st s o i Q E h
 rw [arm_exec_Raise]
 obtain ⟨nm, q, N, bs, sn, sub, ab, col, dd, k0, k1, k2, k3, k5, hcls⟩ := kx.cls
 refine wpAny_bind (wpAny_standAt (Kk (C := 51) (nm := nm) (q := q) (N := N) (bs := bs) (bm := [.ref 31, .type "Exception", .type "BaseException", .type "object"]) (hdct := true) (sn := sn) (sub := sub) (ab := ab) (col := col) (dd := dd) (k0 := k0) (k1 := k1) (k2 := k2) (k3 := k3) (k5 := k5) (newId := "Exception.__new__") (by decide) o.handled ?_))
 refine wpAny_bind (m := eval (.Call (.Name x np) [ke, pe] [] cpos) fr.env) ?_
 show wpAny _ _ (eval (.Name x np) fr.env >>= fun f => callWith cpos f [] (backTo cpos (starEach [ke, pe] fr.env)) []) _ _ _
 refine wpAny_bind (wd b ok i hx e hd ?_)
 refine callWith_K b.kin hk51 (wpAny_items_cons (h1.run A G st s o i _ _ (h.bind ?_)) he1) he1 (by rw [he2]; rfl)
 intro kv st' s' G' ck x' i' rk h'
 refine wpAny_items_cons (h2.run A G' st' s' o i' _ _ (h'.bind ?_)) (by rw [he2]; rfl)
 intro pv st2 s2 G2 cp x₂ i₂ rp h₂
 refine wpAny_items_nil ⟨i₂.kin b, ?_⟩
 refine Ka (ow := ow) b kx o i₂ (rk.mono x₂.g) rp fun s3 G3 ea x₃ i3 gea h0 ⟨t, dx, hobj, hgd⟩ => ?_
 refine wpAny_bind (wpAny_standAt (wpAny_pure ⟨ea, t, some dx, rfl, i3.kin b _ _ hcls, hobj, ?_⟩))
 exact h₂ s3 G3 ea x₃.toX i3 ⟨none, ⟨h0, gea, _, ⟨_, dx, hobj, rfl, rfl, rfl, by simp, hgd⟩, (by simp [MkOb])⟩, .inl rfl⟩
end
end
section
open PySem PySem.W PySem.Calls PyProof.Rows Builtin Builtin.ObjectAttr
section
variable {prog : Program} {w : World} {A : Around} {K : Frag} {C x : Addr} {ox : Obj} {od : Option Obj} {name : Str}
theorem exc_get {s : Shared} {v : Value} {expr : Bool} {Q : Value -> Shared -> Prop} {E : Value -> Shared -> Prop} (X : K.In s.heap) (I : InstAt s.heap x ox C od) (hga : findIn K (.ref C) "__getattribute__" = some (some (.builtin "BaseException.__getattribute__"))) (hgn : findIn K (.ref C) "__getattr__" = some none)
  (hm : mroIn K C (.type "BaseException") = some true) (hf : findObj K C od name = some (.value v)) (hh : handedIn v = true) (h : Q v { s with toks := s.toks + 1 }) : wpAny (model prog w) A (getAttr (.ref x) name expr) Q E s := by
 obtain ⟨H, g, d, t, os⟩ := s
 have L0 := I.type (M := model prog w)
 have L1 := looks_findIn (M := model prog w) X hga
 have L2 := looks_findIn (M := model prog w) X hgn
 have L3 := looks_find (M := model prog w) X I hf
 have L4 : Looks (model prog w) H (isInstance (.ref x) (.type "BaseException")) true := I.type.andThen (looks_mroIn X hm)
 have FB := PySem.F.attr_Exception
 have f3 := FB.ga.bind (.ref x)
 have hx0 : (expr && onTheHeap (Value.builtin "BaseException.__getattribute__")) = false := by cases expr <;> rfl
 have hx2 : (Value.builtin "BaseException.__getattribute__" == Value.builtin "object.__getattribute__") = false := by decide +kernel
 have hx1 : (onTheHeap (Value.ref C) && Value.builtin "BaseException.__getattribute__" == Value.builtin "object.__getattribute__") = false := by rw [hx2]; rfl
 have fin : ∀ A' t' (Q' : Fin -> Shared -> Prop) E', Q' (.done (.ret v)) ⟨H, g, d, t', os⟩ -> wpAny (model prog w) A' (Builtin.«object.__getattribute__» ⟨[.ref x, .str name t], []⟩) Q' E' ⟨H, g, d, t', os⟩ := by
  intro A' t' Q' E' hq
  refine wpAny_bind (wpAny_pure ?_)
  refine wpAny_bind (wpAny_pure (wpAny_bind (L0.at (wpAny_bind (L3.at ?_)))))
  exact wpAny_pure hq
 have cl : ∀ A' t' (R : Result -> Shared -> Prop), R (.ok (.ret v)) ⟨H, g, d, t', os⟩ -> codeAny (model prog w) A' (.call (.builtin "BaseException.__getattribute__") ⟨[.ref x, .str name t], []⟩) R ⟨H, g, d, t', os⟩ := by
  intro A' t' R hq
  exact codeAny_call_builtin FB.ga.plain PySem.F.entry_bexc_ga (@check_slot (model prog w) _ _ ⟨H, g, d, t', os⟩ "BaseException.__getattribute__" "BaseException" "__getattribute__" (.ref x) [.str name t] [] _ (by decide +kernel) (by decide +kernel) L4 (PySem.F.args_bexc_ga _ _) (fin _ _ _ _ hq))
 unfold getAttr getAttrBy
 refine wpAny_bind (wpAny_mkText (wpAny_holding (wpAny_bind (L0.at (wpAny_bind (L1.at ?_))))))
 dsimp only
 rw [hx1]
 show wpAny _ _ (getAttrByItsOwn (.ref x) (.str name t) (.ref C) (.builtin "BaseException.__getattribute__") true expr) _ _ _
 unfold getAttrByItsOwn
 refine wpAny_bind (m := typeLookup (.ref C) "__getattr__") (L2.at ?_)
 unfold callGetattribute boundAndCalled
 rw [hx0, f3]
 refine wpAny_bind (wpAny_attempt (wpAny_holding (wpAny_bind (wpAny_pure (wpAny_call (cl _ _ _ ?_))))))
 show wpAny _ _ (handedOut v) _ _ _
 rw [handedOut_of hh]
 exact wpAny_pure h
end
end
section
open PySem PySem.W PySem.Calls PyProof.Rows
noncomputable def AfterT (B : Bs) (fr : Frm) (os : OsState) (Q : Flow -> Shared -> Prop) : Out Fl -> Prop
 | .ok f st' => ∀ s' G' fl, s'.os = os -> Inv B fr G' st' s' -> FR G' f fl -> Q fl s'
 | _ => False
structure TSim (B : Bs) (n : Nat) (fr : Frm) (t : Sem Flow) (m : M Fl) : Prop where
 run : ∀ A G st s, AOk n A fr -> Inv B fr G st s -> ∀ Q E, AfterT B fr s.os Q (m st) -> wpAny (model B.prog B.w) A t Q E s
noncomputable def Zt (k p : V) (wv bk : Str) : M Fl := fun st => match st.lc.lookup wv with
 | some w => match dictAt st.hp w with
  | some kv => match kv.lookup bk with
   | some v => match peq st.hp (.tup [k, p]) v with | some t => .ok (.ret (.bool t)) ⟨[], st.hp⟩ | none => .stuck
   | none => .stuck
  | none => .stuck
 | none => .stuck
noncomputable def sTry (b : M Fl) (wv bk : Str) : M Fl := fun st => match b st with
 | .exc k p st' => Zt k p wv bk st'
 | .ok .nxt st' => .ok .nxt st'
 | _ => .stuck
structure KEg (K : Frag) : Prop where
 ga : findIn K (.ref 51) "__getattribute__" = some (some (.builtin "BaseException.__getattribute__"))
 gn : findIn K (.ref 51) "__getattr__" = some none
 hd : hasDictIn K 51 = true
 mb : mroIn K 51 (.type "BaseException") = some true
section
variable {B : Bs} {n : Nat} {fr : Frm}
theorem k8 {t : Sem Flow} {m : M Fl} (h : Sim B n fr fr.own FR t m) : TSim B n fr t m := by
 refine ⟨?_⟩
 intro A G st s o i Q E hA
 refine h.run A G st s o i Q E ?_
 cases hm : m st with
 | ok f st' => rw [hm] at hA; exact fun s' G' a x i' r => hA s' G' a x.rest.2 i' r
 | exc _ _ _ => rw [hm] at hA; exact hA.elim
 | stuck => rw [hm] at hA; exact hA.elim
theorem jY {a b : M Fl} {st : Stmt} {rest : List Stmt} (h1 : TSim B n fr (exec st fr.env) a) (h2 : TSim B n fr (execs rest fr.env) b) : TSim B n fr (execs (st :: rest) fr.env) (qF a b) := by
 refine ⟨?_⟩
 intro A G st s o i Q E h
 refine wpAny_execs_cons (h1.run A G st s o i _ E ?_)
 unfold qF at h
 rw [M.bind_eq] at h
 cases ha : a st with
 | stuck => rw [ha] at h; exact h.elim
 | exc _ _ _ => rw [ha] at h; exact h.elim
 | ok f st' =>
  rw [ha] at h
  intro s' G' fl hos i' r
  cases f with
  | nxt => cases r; exact h2.run A G' st' s' o i' Q E (hos ▸ h)
  | brk => cases r; exact h s' G' _ hos i' rfl
  | cont => cases r; exact h s' G' _ hos i' rfl
  | ret v => obtain ⟨c, rfl, rv⟩ := r; exact h s' G' _ hos i' ⟨c, rfl, rv⟩
theorem Inv.raw {G : Gst} {st : St} {s : Shared} {h' : Heap} {m m' : Str -> Option Value} {lc' : Fs} {tk : Nat} (ok : FrOk fr) (i : Inv B fr G st s) (hm : s.heap.Ns fr.env.locals m) (hn : h'.Ns fr.env.locals m') (hs : Heap.SameBut fr.env.locals s.heap h')
  (hlc : ∀ y v, lc'.lookup y = some v -> m' y = m y /\ st.lc.lookup y = some v) : Inv B fr G ⟨lc', st.hp⟩ { s with heap := h', toks := tk } := by
 have kp : ∀ a, a ≠ fr.env.locals -> h'.get? a = s.heap.get? a := hs.2
 refine ⟨i.good.apart fun a y e => kp a fun z => ?_, fun a o' q => (kp a fun z => ?_).trans (i.base a o' q), i.own, ⟨_, hn⟩, fun p e => ?_, fun y w e => ?_, fun e he => ?_, i.gens⟩
 ·have := (i.own _ (.inl rfl)).1; rw [<- z, e] at this; cases this
 ·have := (i.own _ (.inl rfl)).2; rw [<- z, q] at this; cases this
 ·obtain ⟨v, hv⟩ := i.celA p e; exact ⟨v, hv.sameBut hs fun z => ok.loc (z ▸ List.mem_map_of_mem e)⟩
 ·have z186 := hlc y w e; have hyx := z186.1; have hl := z186.2
  obtain ⟨c', h1, h2⟩ := i.nm y w hl
  refine ⟨c', h1, ?_⟩
  unfold Rd at h2 ⊢
  split at h2
  ·obtain ⟨m₂, a1, a2⟩ := h2
   refine ⟨_, hn, ?_⟩
   rw [hyx]
   obtain ⟨o1, es1, ep1, b1, b2, b3, b4⟩ := hm
   obtain ⟨o2, es2, ep2, d1, d2, d3, d4⟩ := a1
   rw [b1] at d1; cases d1; rw [b2] at d2; cases d2
   rw [<- b4, d4, a2]
  ·obtain ⟨ca, a1, a2⟩ := h2
   exact ⟨ca, a1, a2.sameBut hs fun z => ok.loc (z ▸ List.mem_map_of_mem (zH a1))⟩
  ·exact h2.elim
 ·obtain ⟨h1, L, o, h2, h3, h4, h5, h6⟩ := i.frs e he
  by_cases z : L = fr.env.locals
  ·obtain ⟨ob, es, ep, hb1, hb2, _⟩ := hn
   exact ⟨h1, L, ob, h2, h3, h4, z ▸ hb1, fun vs q => by rw [hb2] at q; cases q⟩
  ·exact ⟨h1, L, o, h2, h3, h4, (kp L z).trans h5, h6⟩
theorem y9 {A : Around} {G : Gst} {st : St} {s : Shared} {ea : Addr} {k p v : V} {m : Option Value} {x : Str} {ex : Bool} {r : qW} {dV : Value} {sf : Str} {Q : Value -> Shared -> Prop} {E : Value -> Shared -> Prop} (b : B.Ok) (kx : KEx B.K r dV sf) (kg : KEg B.K) (i : Inv B fr G st s) (f : Fl3 B G s ea k p m)
  (hx : (x = sK /\ v = k) \/ (x = sA /\ v = p)) (h : ∀ c tk, VR G v c -> Q c { s with toks := tk }) : wpAny (model B.prog B.w) A (getAttr (.ref ea) x ex) Q E s := by
 obtain ⟨_, _, vs, ⟨oe, dx, h1, h2, h3, h4, _, h5⟩, _⟩ := f
 obtain ⟨n0, es, hD, hDR, _⟩ := i.good.or dx _ h5
 have hl : ([(Str.ofString "kind", k), (Str.ofString "at", p)] : Fs).lookup x = some v := by
  rcases hx with ⟨rfl, rfl⟩ | ⟨rfl, rfl⟩
  ·show List.lookup sK [(sK, v), (sA, p)] = _
   simp [List.lookup_cons]
  ·show List.lookup sA [(sK, k), (sA, v)] = _
   have : (sA == sK) = false := by decide +kernel
   simp [List.lookup_cons, this]
 have hm : x ∈ zM .error := by rcases hx with ⟨rfl, _⟩ | ⟨rfl, _⟩ <;> decide +kernel
 obtain ⟨c, q1, q2⟩ := hDR.get hl hm
 have hn : findIn B.K (.ref 51) x = some none := by rcases hx with ⟨rfl, _⟩ | ⟨rfl, _⟩; exact kx.kn.1; exact kx.kn.2
 have hnc : notCls oe = true := by
  unfold notCls
  rw [h4]
 refine exc_get (C := 51) (ox := oe) (od := some (dictOf es n0)) (i.kin b) ⟨h1, h2, hnc, ?_⟩ kg.ga kg.gn kg.mb (findObj_own kg.hd hn rfl (by rw [lookIn_dict]; exact q1)) (ZZ q2) (h c _ q2)
 rw [h3]; exact hD
set_option tactic.hygienic true in
theorem tsim_try {r : qW} {dV : Value} {sf : Str} {mb : M Fl} {body : List Stmt} {x en wv bk : Str} {np a1 a2 a3 a4 tp cp wp1 bp sp rp hp pos : Pos} {tk bkk : Nat} (b : B.Ok) (kx : KEx B.K r dV sf) (kg : KEg B.K) (ok : FrG fr) (hf : fr.fenv = fr.env) (hb : Sim B n fr fr.own FR (execs body fr.env) mb)
  (hx : fr.env.kindOf x = some .globalImplicit) (ex : nsIn B.K mainGlobals x = some (some (.ref 51))) (hen : fr.env.kindOf en = some .local) (hwv : fr.env.kindOf wv = some .local) (hne : (wv == en) = false) (hdx : (x == ("__debug__" : Str)) = false := by decide) (hde : (en == ("__debug__" : Str)) = false := by decide) (hdw : (wv == ("__debug__" : Str)) = false := by decide) :
  TSim B n fr (exec (.Try body [.ExceptHandler (some (.Name x np)) (some en) [.Return (some (.Compare (.Tuple [.Attribute (.Name en a1) sK a2, .Attribute (.Name en a3) sA a4] tk tp) [.Eq] [.Subscript (.Name wv wp1) (.Constant (.str bk) bkk bp) sp] cp)) rp] hp] [] [] pos) fr.env) (sTry mb wv bk) := by
 refine ⟨?_⟩
 intro A G st s o i Q E h
 refine wpAny_Try_except (hb.run A G st s o i _ _ ?_)
 unfold sTry at h
 cases hm : mb st with
 | stuck => rw [hm] at h; exact h.elim
 | ok f st' =>
  rw [hm] at h
  cases f with
  | nxt => intro s' G' fl x i' r; cases r; exact wpAny_execs_nil (h s' G' _ x.rest.2 i' rfl)
  | _ => exact h.elim
 | exc k p st' =>
  rw [hm] at h
  intro s₁ G1 e x₁ i₁ fly
  obtain ⟨m, f3, hmm⟩ := fly
  rw [<- hf]
  refine Zl o.frames i₁ f3 hmm fun s2 x₂ ⟨L, hL, f₂⟩ => ?_
  have i₂ := i₁.xr x₂
  refine kJ i₂ f₂ fun s3 x₃ f₃ => ?_
  have i3 := i₂.xr x₃
  rw [hf]
  dsimp only [Zt] at h
  cases hw : st'.lc.lookup wv with
  | none => rw [hw] at h; exact h.elim
  | some w =>
  rw [hw] at h
  dsimp only at h
  cases hdw' : dictAt st'.hp w with
  | none => rw [hdw'] at h; exact h.elim
  | some kv =>
  rw [hdw'] at h
  dsimp only at h
  cases hv : kv.lookup bk with
  | none => rw [hv] at h; exact h.elim
  | some v =>
  rw [hv] at h
  dsimp only at h
  cases hp' : peq st'.hp (.tup [k, p]) v with
  | none => rw [hp'] at h; exact h.elim
  | some t =>
  rw [hp'] at h
  dsimp only at h
  obtain ⟨nm, q, N, bs, sn, sub, ab, col, dd, k0, k1, k2, k3, k5, hcls⟩ := kx.cls
  obtain ⟨mL, hmL⟩ := i3.ns
  have f3' := f₃
  obtain ⟨_, _, vs, ⟨oe, dx, he, hec, _, _, _, _⟩, _⟩ := f3'
  refine wpAny_handleBy_cons (codeAny_handlers_test (wd b ok i3 hx ex hdx ?_)) (by intro q; cases q)
  obtain ⟨H3, g3, d3, t3, os3⟩ := s3
  refine wpAny_excMatches_sub_self (i3.kin b _ _ hcls) he hec (by decide) ?_
  refine codeAny_handlers_suite_as (kJ i3 f₃ fun s4 x₄ f₄ => ?_)
  have i4 := i3.xr x₄
  obtain ⟨mL4, hmL4⟩ := i4.ns
  refine wpAny_storeName_local hen hmL4 (fun h₅ hn5 hs5 => ?_) (by rw [ok.kind]; rfl)
  have i5 : Inv B fr G1 ⟨[(wv, w)], st'.hp⟩ { s4 with heap := h₅, toks := s4.toks + 1 } := i4.raw ok.toFrOk hmL4 hn5 hs5 fun y u hy => by
   rw [List.lookup_cons] at hy
   by_cases hyw : y = wv
   ·subst hyw
    simp only [beq_self_eq_true] at hy
    cases hy
    exact ⟨if_neg fun z => by rw [z] at hne; simp at hne, hw⟩
   ·have : (y == wv) = false := by simpa using hyw
    rw [this] at hy; cases hy
  have f₅ : Fl3 B G1 { s4 with heap := h₅, toks := s4.toks + 1 } e k p (some .none) := by
   obtain ⟨w1, w2, vs', ⟨oe', dx', y1, y2, y3, y4, y5, y6⟩, T, oT, ts, z1, z2, z3, z4, z5, z6, z7⟩ := f₄
   have nl : ∀ a o vs, s4.heap.get? a = some o -> o.data = .fields vs -> h₅.get? a = some o := fun a o vs q1 q2 => (hs5.2 a fun z => by
    obtain ⟨oL, es, ep, c1, c2, _⟩ := hmL4
    rw [z, c1] at q1; cases q1; rw [c2] at q2; cases q2).trans q1
   exact ⟨w1, w2, vs', ⟨oe', dx', nl _ _ _ y1 y4, y2, y3, y4, y5, y6⟩, T, oT, ts, z1, z2, z3, z4, nl _ _ _ z5 z6, z6, z7⟩
  have hen5 : (fun y => if y = en then some (Value.ref e) else mL4 y) en = some (.ref e) := if_pos rfl
  have ren : ∀ {s' : Shared}, s'.heap = h₅ -> Rd fr.env s'.heap en (.ref e) := fun hs' => by unfold Rd; rw [hen, hs']; exact ⟨_, hn5, hen5⟩
  refine wpAny_execs_cons (wpAny_Return_some (wpAny_Compare1 (wpAny_Tuple ?_)))
  refine wpAny_items_cons (Attribute_any_ (wpAny_Name (xU ok.kind (ren rfl) ?_) hde) (by with_unfolding_all rfl)) rfl
  refine y9 b kx kg i5 f₅ (.inl ⟨rfl, rfl⟩) fun c1 tk1 r1 => ?_
  have i6 : Inv B fr G1 ⟨[(wv, w)], st'.hp⟩ { s4 with heap := h₅, toks := tk1 } := i5.tok tk1
  have f6 : Fl3 B G1 { s4 with heap := h₅, toks := tk1 } e k p (some .none) := f₅
  refine wpAny_items_cons (Attribute_any_ (wpAny_Name (xU ok.kind (ren (s' := { s4 with heap := h₅, toks := tk1 }) rfl) ?_) hde) (by with_unfolding_all rfl)) rfl
  refine y9 b kx kg i6 f6 (.inr ⟨rfl, rfl⟩) fun c2 tk2 r2 => wpAny_items_nil ⟨by show 2 <= sizeLine; decide, ?_⟩
  have i7 : Inv B fr G1 ⟨[(wv, w)], st'.hp⟩ { s4 with heap := h₅, toks := tk2 } := i6.tok tk2
  obtain ⟨x₈, i8⟩ := i7.newFz (ow := fr.own) (s' := { s4 with heap := h₅.push { cls := .type "tuple", data := .seq [c1, c2].toArray }, toks := tk2 }) (a := h₅.objs.size) (v := .tup [k, p]) (fun b o e => Heap.get?_push_of_some _ e) (by show h₅.objs.size <= (h₅.push _).objs.size; rw [Heap.size_push]; exact le0) ⟨rfl, rfl⟩ (Nat.le_refl _)
   fun G' m => ⟨0, [c1, c2].toArray, Heap.get?_push_size _ rfl, .cons (r1.mono m) (.cons (r2.mono m) .nil)⟩
  have rt : VR (zN G1 h₅.objs.size (.fz (.tup [k, p]))) (.tup [k, p]) (.ref h₅.objs.size) := ⟨_, rfl, zN.self⟩
  obtain ⟨cw, rw1, hrw⟩ := i8.nm wv w (by simp [List.lookup_cons])
  refine Subscript_ (wpAny_Name (xU ok.kind hrw ?_) hdw)
  refine wpAny_Constant_str ?_
  have hidx : zS w (.str bk) ⟨[(wv, w)], st'.hp⟩ = .ok v ⟨[(wv, w)], st'.hp⟩ := by
   show Jr w bk ⟨[(wv, w)], st'.hp⟩ = _
   unfold Jr
   rw [hdw']
   show (match kv.lookup bk with | some w => _ | none => _) = _
   rw [hv]
  refine ZI (ow := fr.own) (j := .str bk) (i8.tok _) rw1 ⟨_, rfl⟩ (by intro _ _; rfl) ?_
  rw [hidx]
  intro s9 G9 cv x₉ i9 rv
  obtain ⟨d₁, d₂, as, bs', ra, rb, k1', k2', hu, rfl⟩ := yI (st := ⟨[(wv, w)], st'.hp⟩) o i9 (rt.mono x₉.g) rv hp'
  refine PySem.SeqAt.compareEq_reads ra rb k1' k2' hu ?_
  obtain ⟨mL9, hmL9⟩ := i9.ns
  refine wpAny_nameGoes hen hmL9 (by rw [ok.kind]; rfl) fun h10 m₁₀ hn10 hs10 => ?_
  exact h _ G9 _ (x₉.rest.2.trans (x₄.rest.2.trans (x₃.rest.2.trans (x₂.rest.2.trans x₁.rest.2)))) (Inv.raw (st := ⟨[(wv, w)], st'.hp⟩) ok.toFrOk i9 hmL9 hn10 hs10 fun y u hy => by cases hy) ⟨_, rfl, rfl⟩
end
theorem XA {kindOf : Str -> Option NameKind} {x : Str} {binds : List (Str × Value)} : ∀ {m : Str -> Option Value}, x ∉ binds.map (·.1) -> bindL kindOf binds m x = m x := by
 induction binds with
 | nil => intro m _; rfl
 | cons p r ih =>
  intro m h
  rw [List.map_cons, List.mem_cons, not_or] at h
  unfold bindL
  rw [ih h.2]
  split
  ·exact if_neg h.1
  ·rfl
theorem XB {kindOf : Str -> Option NameKind} {x : Str} {binds : List (Str × Value)} : ∀ {m : Str -> Option Value}, x ∉ binds.map (·.1) -> bindC kindOf binds m x = m x := by
 induction binds with
 | nil => intro m _; rfl
 | cons p r ih =>
  intro m h
  rw [List.map_cons, List.mem_cons, not_or] at h
  unfold bindC
  rw [ih h.2]
  split
  ·rfl
  ·exact if_neg h.1
theorem bindL_get {kindOf : Str -> Option NameKind} {x : Str} {c : Value} (hk : kindOf x = some .local) {binds : List (Str × Value)} : ∀ {m : Str -> Option Value}, (binds.map (·.1)).Nodup -> binds.lookup x = some c -> bindL kindOf binds m x = some c := by
 induction binds with
 | nil => intro m _ h; cases h
 | cons p r ih =>
  intro m hn h
  obtain ⟨n, v⟩ := p
  rw [List.map_cons, List.nodup_cons] at hn
  rw [List.lookup_cons] at h
  unfold bindL
  by_cases q : x = n
  ·subst q
   simp only [beq_self_eq_true] at h
   cases h
   rw [XA hn.1, if_pos hk]
   exact if_pos rfl
  ·have q' : (x == n) = false := by simpa using q
   rw [q'] at h
   exact ih hn.2 h
theorem bindC_get {kindOf : Str -> Option NameKind} {x : Str} {c : Value} (hk : kindOf x ≠ some .local) {binds : List (Str × Value)} : ∀ {m : Str -> Option Value}, (binds.map (·.1)).Nodup -> binds.lookup x = some c -> bindC kindOf binds m x = some c := by
 induction binds with
 | nil => intro m _ h; cases h
 | cons p r ih =>
  intro m hn h
  obtain ⟨n, v⟩ := p
  rw [List.map_cons, List.nodup_cons] at hn
  rw [List.lookup_cons] at h
  unfold bindC
  by_cases q : x = n
  ·subst q
   simp only [beq_self_eq_true] at h
   cases h
   rw [XB hn.1, if_neg hk]
   exact if_pos rfl
  ·have q' : (x == n) = false := by simpa using q
   rw [q'] at h
   exact ih hn.2 h
section
variable {B : Bs} {n : Nat}
noncomputable def KD (r : qW) (L a : Addr) (cdv : Value) (c1 c2 : Str) : Env := { envOf r.qual r.scope L a cdv with cells := [(c2, L + 2), (c1, L + 1)] }
theorem Kz {a : Addr} {r : qW} {dV : Value} {xs : List Str} {m : M Fl} {c1 c2 : Str} (b : B.Ok) (hf : k6 B.K a r dV) (hcf : ∀ k, cellsFrom k r.scope.names [] = [(c2, k + 1), (c1, k)]) (hc12 : c1 ≠ c2) (hk : r.scope.kind = .function)
  (hco : r.scope.isCoroutine = false) (hgen : r.scope.isGenerator = false) (hn : xs.Nodup) (hkx : ∀ x ∈ xs, r.scope.names.lookup x = some .local \/ r.scope.names.lookup x = some .cell /\ (x = c1 \/ x = c2))
  (hb : ∀ cs kV doc pm an cdv ct, cs.length = xs.length -> bindArgs (fnOf r.name r.qual r.params r.body r.scope dV kV doc pm an cdv ct) ⟨cs, []⟩ = pure (xs.zip cs))
  (hm : ∀ L cdv fr', fr'.env = KD r L a cdv c1 c2 -> fr'.fenv = fr'.env -> Sim B n fr' fr'.own FR (execs r.body fr'.env) m) : qQ B (n + 1) a (qq xs none m) := by
 intro A fr ow G st s vs cs o i rv Q E h
 unfold qq at h
 have hd : A.depth < recursionLimit := by have := o.depth; exact lt1 (sL this)
 cases hfl : xu xs none vs with
 | none => rw [hfl] at h; exact h.elim
 | some lc =>
 rw [hfl] at h
 rcases yQ hfl with ⟨hl, rfl⟩ | ⟨v, q, _⟩
 rotate_left
 ·cases q
 have hl' : cs.length = xs.length := rv.length ▸ hl
 have LBx : LB G (xs.zip vs) (xs.zip cs) := LB.zip xs rv
 have hnames : ((xs.zip cs).map (·.1)).Nodup := by rw [wa xs cs hl']; exact hn
 obtain ⟨oc, od, osl, kV, doc, pm, an, cdv, ct, hK, hcd⟩ := hf
 have kin := i.kin b
 have look2 : ∀ x, x = c1 \/ x = c2 -> ∀ k, ((cellsFrom k r.scope.names []).lookup x).isSome = true := by
  intro x hx k
  rw [hcf k]
  rcases hx with rfl | rfl
  ·have : (x == c2) = false := by simpa using hc12
   simp [List.lookup_cons, this]
  ·simp [List.lookup_cons]
 refine wpAny_call (codeAny_call_cells (fd := fnOf r.name r.qual r.params r.body r.scope dV kV doc pm an cdv ct) (body := r.body) (binds := xs.zip cs) hd (kin _ _ hK) rfl (b.nolim.keeps i.base) (codeRec_of kin hcd) rfl (hb cs kV doc pm an cdv ct hl') rfl (fun x hx => ?_) (fun s₁ hin => ?_) hco hgen hk)
 ·rcases hkx _ (yr hx) with h1 | ⟨h1, h2⟩
  ·exact .inl h1
  ·exact .inr ⟨h1, look2 _ h2 _⟩
 have env_eq : callEnvC (fnOf r.name r.qual r.params r.body r.scope dV kV doc pm an cdv ct) s.heap.objs.size a = KD r s.heap.objs.size a cdv c1 c2 := by
  show newEnv _ _ _ (cellsFrom (s.heap.objs.size + 1) r.scope.names []) _ _ _ _ _ = _
  rw [hcf]; rfl
 rw [env_eq] at hin ⊢
 generalize henv : KD r s.heap.objs.size a cdv c1 c2 = env at hin ⊢
 have hloc : env.locals = s.heap.objs.size := by rw [<- henv]; rfl
 have hcells : env.cells = [(c2, s.heap.objs.size + 2), (c1, s.heap.objs.size + 1)] := by rw [<- henv]; rfl
 have hkof : ∀ x, env.kindOf x = r.scope.names.lookup x := fun x => by rw [<- henv]; rfl
 obtain ⟨h₁, tk, hs₁, hkeep⟩ := hin.done
 obtain ⟨⟨_, hns, _, _⟩, hcell, _, _⟩ := hin
 subst hs₁
 have hsz : s.heap.objs.size < h₁.objs.size := by have := hns.lt; rw [hloc] at this; exact this
 obtain ⟨xg, ig⟩ := i.grow (ow := ow) (s' := { s with heap := h₁, toks := tk }) hkeep (Nat.le_of_lt hsz) ⟨rfl, rfl⟩
 have hown : ∀ q, (⟨env, env, fr.fenv :: fr.outer⟩ : Frm).own q -> s.heap.objs.size <= q := by
  intro q hq
  rcases hq with hq | hq
  ·rw [show q = env.locals from hq, hloc]; exact Nat.le_refl _
  ·rw [show (⟨env, env, fr.fenv :: fr.outer⟩ : Frm).env.cells = env.cells from rfl, hcells] at hq
   simp only [List.map_cons, List.map_nil, List.mem_cons, List.not_mem_nil, or_false] at hq
   rcases hq with rfl | rfl <;> exact le0
 have lk1 : env.cells.lookup c1 = some (s.heap.objs.size + 1) := by
  rw [hcells, List.lookup_cons, show (c1 == c2) = false from by simpa using hc12]; simp [List.lookup_cons]
 have lk2 : env.cells.lookup c2 = some (s.heap.objs.size + 2) := by rw [hcells, List.lookup_cons]; simp
 have i' : Inv B ⟨env, env, fr.fenv :: fr.outer⟩ G ⟨xs.zip vs, st.hp⟩ { s with heap := h₁, toks := tk } := by
  refine ⟨ig.good, ig.base, fun q hq => ?_, ⟨_, hns⟩, fun p hp => ?_, fun x v e => ?_, fun e he => ?_, ig.gens⟩
  ·obtain ⟨n1, n2, _⟩ := i.nobody (hown q hq); exact ⟨n1, n2⟩
  ·rw [show (⟨env, env, fr.fenv :: fr.outer⟩ : Frm).env.cells = env.cells from rfl, hcells] at hp
   simp only [List.mem_cons, List.not_mem_nil, or_false] at hp
   rcases hp with rfl | rfl
   ·exact ⟨_, hcell _ _ lk2⟩
   ·exact ⟨_, hcell _ _ lk1⟩
  ·obtain ⟨c, h1, h2⟩ := LBx.get e
   refine ⟨c, h2, ?_⟩
   have hx : x ∈ xs := yr (zH e)
   unfold Rd
   rcases hkx x hx with hkl | ⟨hkc, hcc⟩
   ·rw [show (⟨env, env, fr.fenv :: fr.outer⟩ : Frm).env.kindOf x = some .local from (hkof x).trans hkl]
    exact ⟨_, hns, bindL_get ((hkof x).trans hkl) hnames h1⟩
   ·rw [show (⟨env, env, fr.fenv :: fr.outer⟩ : Frm).env.kindOf x = some .cell from (hkof x).trans hkc]
    have hne : env.kindOf x ≠ some .local := by rw [hkof, hkc]; intro q; cases q
    have hv := bindC_get (m := fun _ => none) hne hnames h1
    rcases hcc with rfl | rfl
    ·exact ⟨_, lk1, hv ▸ hcell _ _ lk1⟩
    ·exact ⟨_, lk2, hv ▸ hcell _ _ lk2⟩
  ·rcases List.mem_cons.mp he with rfl | he
   ·obtain ⟨n1, n2, _⟩ := i.nobody (a := s.heap.objs.size) (Nat.le_refl _)
    obtain ⟨oL, es, ep, h1, h2, _⟩ := id hns
    rw [hloc] at h1
    refine ⟨(by rw [<- henv]; show r.scope.kind ≠ _; rw [hk]; intro q; cases q), s.heap.objs.size, oL, (by rw [<- henv]; rfl), n2, n1, h1, fun vs q => by rw [h2] at q; cases q⟩
   ·obtain ⟨w1, L, oL, w2, w3, w4, w5, w6⟩ := ig.frs e he
    exact ⟨w1, L, oL, w2, w3, w4, w5, w6⟩
 have oo : AOk n (A.deeper env) ⟨env, env, fr.fenv :: fr.outer⟩ := o.deep
 refine (hm s.heap.objs.size cdv ⟨env, env, fr.fenv :: fr.outer⟩ henv.symm rfl).run (A.deeper env) G ⟨xs.zip vs, st.hp⟩ _ oo i' _ _ ?_
 exact Qt (ow := ow) (R := fun r s' => match r with | .ok (.ret v) => Q v s' | .ok _ => False | .error e => E e s') oo.frames i hkeep (Nat.le_of_lt hsz) ⟨rfl, rfl⟩ hown (fun _ _ q => q) (fun _ _ q => q) h
end
end
section
open PySem
noncomputable def nmT : List String := ["self", "kind", "items", "attrs", "name", "tags", "code", "value", "at", "newline", "source", "ahead", "contexts", "tokens", "place", "shared", "loose", "Null", "Missing", "logical", "list", "Vector", "integer", "double", "character", "b", "s", "Symbol", "args", "len", "Call", "v", "isinstance", "operator", "|>", "%", "==", "!=", "<", ">", "<=", ">=", "COMPARISON", "<-", "<<-", "->", "->>", "|", "||", "&", "&&", "+", "-", "*", "/", "?=~:^", "!", "~", "?", "level", "key", "FALSE", "TRUE", "flag", "NULL", "null", "NA", "NA_integer_", "NA_real_", "NA_character_", "Inf", "NaN", "language", "head", "symbol", "(", "{", "[", "[[", "$", "@", "if", "for", "while", "repeat", "function", "break", "next", "", "binary_level", "right", "left", "call_of", "is_pipe_target", "bad_pipe", "ReadError", "n", "token", "op", "word", "eof", "unexpected_end", "unexpected_token", "found", "right_level", "joined", "prefix_level", "num", "share", "str", "text", "id", "constant_of", "STATEMENT", ")", "missing", "]", "context", "more", "tag", "closing", ",", "ARGUMENT", "named", "behind", "=", "Token", "figures", "mix", "cell", "int", "big", "abs", "rest", "step", "script", "pool", "figure", "bound", "call", "item", "_law_plain", "pairlist", "world", "spot", "inner", "_law_pick", "rows", "%in%", ":", "^", "bad", "second", "first", "_law_levels", "words", "_law_bad", "waiting", "least", "done", "last", "_law_joined", "levels", "ops", "deep", "count", "front", "_law_put", "max", "again", "_law_operand", "_law_reduced", "room", "else", "in", "}", "_law_primary", "tree", "_law_followed", "abf", "g", "_law_bracketed", "_law_row", "x", "y z", "$@", "mark", "way", "member", "m", "begun", "_law_arguments", "_law_pool", "due", ";", "TokenRow", "ExprReader", "reader", "told", "error", "top", "range", "a", "f"]
noncomputable def nm (i : Nat) : Str := match nmT[i]? with | some s => Str.ofString s | none => ⟨Array.replicate (i + 1000) 0⟩
noncomputable def wf : Nat := 1000000
structure Fn where
 i : Nat
noncomputable def Fn.null : Fn := ⟨0⟩
noncomputable def Fn.missing : Fn := ⟨1⟩
noncomputable def Fn.logical : Fn := ⟨2⟩
noncomputable def Fn.integer : Fn := ⟨3⟩
noncomputable def Fn.double : Fn := ⟨4⟩
noncomputable def Fn.character : Fn := ⟨5⟩
noncomputable def Fn.flag : Fn := ⟨6⟩
noncomputable def Fn.text : Fn := ⟨7⟩
noncomputable def Fn.symbol : Fn := ⟨8⟩
noncomputable def Fn.callOf : Fn := ⟨9⟩
noncomputable def Fn.share : Fn := ⟨10⟩
noncomputable def Fn.binaryLevel : Fn := ⟨11⟩
noncomputable def Fn.prefixLevel : Fn := ⟨12⟩
noncomputable def Fn.rightLevel : Fn := ⟨13⟩
noncomputable def Fn.constantOf : Fn := ⟨14⟩
noncomputable def Fn.isPipeTarget : Fn := ⟨15⟩
noncomputable def Fn.joined : Fn := ⟨16⟩
noncomputable def Fn.peek : Fn := ⟨17⟩
noncomputable def Fn.take : Fn := ⟨18⟩
noncomputable def Fn.isOp : Fn := ⟨19⟩
noncomputable def Fn.isKey : Fn := ⟨20⟩
noncomputable def Fn.expectOp : Fn := ⟨21⟩
noncomputable def Fn.fail : Fn := ⟨22⟩
noncomputable def Fn.joins : Fn := ⟨23⟩
noncomputable def Fn.expression : Fn := ⟨24⟩
noncomputable def Fn.noSecondComparison : Fn := ⟨25⟩
noncomputable def Fn.operand : Fn := ⟨26⟩
noncomputable def Fn.primary : Fn := ⟨27⟩
noncomputable def Fn.bracketed : Fn := ⟨28⟩
noncomputable def Fn.construct : Fn := ⟨29⟩
noncomputable def Fn.followed : Fn := ⟨30⟩
noncomputable def Fn.callOn : Fn := ⟨31⟩
noncomputable def Fn.indexOn : Fn := ⟨32⟩
noncomputable def Fn.member : Fn := ⟨33⟩
noncomputable def Fn.arguments : Fn := ⟨34⟩
noncomputable def Fn.argumentTag : Fn := ⟨35⟩
noncomputable def Fn.nextToken : Fn := ⟨36⟩
noncomputable def Fn.lawPool : Fn := ⟨37⟩
noncomputable def Fn.lawPick : Fn := ⟨38⟩
noncomputable def Fn.lawPlain : Fn := ⟨39⟩
noncomputable def Fn.lawPut : Fn := ⟨40⟩
noncomputable def Fn.lawLevels : Fn := ⟨41⟩
noncomputable def Fn.lawBad : Fn := ⟨42⟩
noncomputable def Fn.lawJoined : Fn := ⟨43⟩
noncomputable def Fn.lawReduced : Fn := ⟨44⟩
noncomputable def Fn.lawRow : Fn := ⟨45⟩
noncomputable def Fn.lawOperand : Fn := ⟨46⟩
noncomputable def Fn.lawPrimary : Fn := ⟨47⟩
noncomputable def Fn.lawBracketed : Fn := ⟨48⟩
noncomputable def Fn.lawArguments : Fn := ⟨49⟩
noncomputable def Fn.lawFollowed : Fn := ⟨50⟩
noncomputable def Fn.cNull : Fn := ⟨51⟩
noncomputable def Fn.cMissing : Fn := ⟨52⟩
noncomputable def Fn.cVector : Fn := ⟨53⟩
noncomputable def Fn.cSymbol : Fn := ⟨54⟩
noncomputable def Fn.cCall : Fn := ⟨55⟩
noncomputable def Fn.cExprReader : Fn := ⟨56⟩
noncomputable def Fn.cToken : Fn := ⟨57⟩
noncomputable def Fn.cTokenRow : Fn := ⟨58⟩
noncomputable def aL : List Addr := [174, 181, 188, 195, 202, 209, 216, 223, 230, 237, 244, 251, 258, 265, 272, 279, 286, 308, 315, 322, 329, 336, 343, 350, 358, 365, 372, 379, 386, 393, 400, 407, 414, 421, 428, 435, 484, 498, 505, 510, 517, 524, 531, 538, 545, 550, 557, 564, 571, 578, 585, 70, 91, 120, 141, 163, 438, 459, 487]
noncomputable def aFn (f : Fn) : Addr := (aL[f.i]?).getD 0
section
variable (c : Fn -> List V -> M V)
noncomputable abbrev u0 : M Fl := (qF (qs (c .cNull [])) qK)
noncomputable def b_null (c : Fn -> List V -> M V) : M Fl := (u0 c)
noncomputable abbrev u1 : M Fl := (qF (qs (c .cMissing [])) qK)
noncomputable def Zc (c : Fn -> List V -> M V) : M Fl := (u1 c)
noncomputable abbrev u2 : M Fl := (qF (qs (qa [(pure (.str (nm 19))), ((qD (nm 2)) >>= ko)] >>= c .cVector)) qK)
noncomputable def Zd (c : Fn -> List V -> M V) : M Fl := (u2 c)
noncomputable abbrev u3 : M Fl := (qF (qs (qa [(pure (.str (nm 22))), ((qD (nm 2)) >>= ko)] >>= c .cVector)) qK)
noncomputable def Zf (c : Fn -> List V -> M V) : M Fl := (u3 c)
noncomputable abbrev u4 : M Fl := (qF (qs (qa [(pure (.str (nm 23))), ((qD (nm 2)) >>= ko)] >>= c .cVector)) qK)
noncomputable def KL (c : Fn -> List V -> M V) : M Fl := (u4 c)
noncomputable abbrev u5 : M Fl := (qF (qs (qa [(pure (.str (nm 24))), ((qD (nm 2)) >>= ko)] >>= c .cVector)) qK)
noncomputable def yi (c : Fn -> List V -> M V) : M Fl := (u5 c)
noncomputable abbrev u6 : M Fl := (qF (qs (qa [(pure (.str (nm 19))), (q8 [(pure .none)])] >>= c .cVector)) qK)
noncomputable abbrev u7 : M Fl := (qF (qs (qa [(pure (.str (nm 19))), (q8 [(eIf (z8 (qD (nm 25))) (pure (.int 1)) (pure (.int 0)))])] >>= c .cVector)) qK)
noncomputable abbrev u8 : M Fl := (qF (sIf (qi .Is (qD (nm 25)) (pure .none)) (u6 c) qK) (u7 c))
noncomputable def b_flag (c : Fn -> List V -> M V) : M Fl := (u8 c)
noncomputable abbrev u9 : M Fl := (qF (qs (qa [(pure (.str (nm 24))), (q8 [(qD (nm 26))])] >>= c .cVector)) qK)
noncomputable def b_text (c : Fn -> List V -> M V) : M Fl := (u9 c)
noncomputable abbrev u10 : M Fl := (qF (qs (qa [(qD (nm 4))] >>= c .cSymbol)) qK)
noncomputable def KJ (c : Fn -> List V -> M V) : M Fl := (u10 c)
noncomputable abbrev u11 : M Fl := (qF (qs (qa [(qD (nm 2)), (zf .Mult (q8 [(pure .none)]) ((qD (nm 2)) >>= wE))] >>= c .cCall)) qK)
noncomputable abbrev u12 : M Fl := (qF (qy (nm 2) (zf .Add (q8 [(qa [(qD (nm 4))] >>= c .cSymbol)]) ((qD (nm 28)) >>= ko))) (u11 c))
noncomputable def yB (c : Fn -> List V -> M V) : M Fl := (u12 c)
noncomputable abbrev u13 : M Fl := (qF (wL (nm 15) (qD (nm 31)) (pure (.bool true))) qK)
noncomputable abbrev u14 : M Fl := (qF (qs (qD (nm 31))) qK)
noncomputable abbrev u15 : M Fl := (qF (sIf (z8 ((qD (nm 31)) >>= QP)) u13 qK) u14)
noncomputable def Xt (c : Fn -> List V -> M V) : M Fl := u15
noncomputable abbrev u16 : M Fl := (qF (qs (pure (.int 12))) qK)
noncomputable abbrev u17 : M Fl := (qF (qs (pure (.int 9))) qK)
noncomputable abbrev u18 : M Fl := (qF (qs (pure (.int 3))) qK)
noncomputable abbrev u19 : M Fl := (qF (qs (pure (.int 4))) qK)
noncomputable abbrev u20 : M Fl := (qF (qs (pure (.int 6))) qK)
noncomputable abbrev u21 : M Fl := (qF (qs (pure (.int 7))) qK)
noncomputable abbrev u22 : M Fl := (qF (qs (pure (.int 10))) qK)
noncomputable abbrev u23 : M Fl := (qF (qs (pure (.int 11))) qK)
noncomputable abbrev u24 : M Fl := (qF (qs (qV (zF [(pure (.int 1)), (pure (.int 2)), (pure (.int 5)), (pure (.int 13)), (pure (.int 15))]) (eFind (pure (.str (nm 55))) (qD (nm 33))))) qK)
noncomputable abbrev u25 : M Fl := (qF (qs (pure (.int 0))) qK)
noncomputable abbrev u26 : M Fl := (qF (sIf (jG (qi .Eq ((qD (nm 33)) >>= wE) (pure (.int 1))) (jG (qi .In (qD (nm 33)) (pure (.str (nm 55)))) (pure true))) u24 qK) u25)
noncomputable abbrev u27 : M Fl := (qF (sIf (qi .In (qD (nm 33)) (zF [(pure (.str (nm 53))), (pure (.str (nm 54)))])) u23 qK) u26)
noncomputable abbrev u28 : M Fl := (qF (sIf (qi .In (qD (nm 33)) (zF [(pure (.str (nm 51))), (pure (.str (nm 52)))])) u22 qK) u27)
noncomputable abbrev u29 : M Fl := (qF (sIf (qi .In (qD (nm 33)) (zF [(pure (.str (nm 49))), (pure (.str (nm 50)))])) u21 qK) u28)
noncomputable abbrev u30 : M Fl := (qF (sIf (qi .In (qD (nm 33)) (zF [(pure (.str (nm 47))), (pure (.str (nm 48)))])) u20 qK) u29)
noncomputable abbrev u31 : M Fl := (qF (sIf (qi .In (qD (nm 33)) (zF [(pure (.str (nm 45))), (pure (.str (nm 46)))])) u19 qK) u30)
noncomputable abbrev u32 : M Fl := (qF (sIf (qi .In (qD (nm 33)) (zF [(pure (.str (nm 43))), (pure (.str (nm 44)))])) u18 qK) u31)
noncomputable abbrev u33 : M Fl := (qF (sIf (qi .In (qD (nm 33)) (zF [(pure (.str (nm 36))), (pure (.str (nm 37))), (pure (.str (nm 38))), (pure (.str (nm 39))), (pure (.str (nm 40))), (pure (.str (nm 41)))])) u17 qK) u32)
noncomputable abbrev u34 : M Fl := (qF (sIf (cOr (qi .Eq (qV (qD (nm 33)) (pure (.int 0))) (pure (.str (nm 35)))) (cOr (qi .Eq (qD (nm 33)) (pure (.str (nm 34)))) (pure false))) u16 qK) u33)
noncomputable def xI (c : Fn -> List V -> M V) : M Fl := u34
noncomputable abbrev u35 : M Fl := (qF (qs (pure (.int 14))) qK)
noncomputable abbrev u36 : M Fl := (qF (qs (pure (.int 8))) qK)
noncomputable abbrev u37 : M Fl := (qF (qs (pure (.int 2))) qK)
noncomputable abbrev u38 : M Fl := (qF (sIf (qi .Eq (qD (nm 33)) (pure (.str (nm 58)))) u37 qK) u25)
noncomputable abbrev u39 : M Fl := (qF (sIf (qi .Eq (qD (nm 33)) (pure (.str (nm 57)))) u20 qK) u38)
noncomputable abbrev u40 : M Fl := (qF (sIf (qi .Eq (qD (nm 33)) (pure (.str (nm 56)))) u36 qK) u39)
noncomputable abbrev u41 : M Fl := (qF (sIf (qi .In (qD (nm 33)) (zF [(pure (.str (nm 51))), (pure (.str (nm 52)))])) u35 qK) u40)
noncomputable def xH (c : Fn -> List V -> M V) : M Fl := u41
noncomputable abbrev u42 : M Fl := (qF (qs (qD (nm 59))) qK)
noncomputable abbrev u43 : M Fl := (qF (qs (zf .Add (qD (nm 59)) (pure (.int 1)))) qK)
noncomputable abbrev u44 : M Fl := (qF (sIf (cOr (qi .Eq (qD (nm 59)) (pure (.int 2))) (cOr (qi .Eq (qD (nm 59)) (pure (.int 3))) (cOr (qi .Eq (qD (nm 59)) (pure (.int 15))) (pure false)))) u42 qK) u43)
noncomputable def xy (c : Fn -> List V -> M V) : M Fl := u44
noncomputable abbrev u45 : M Fl := (qF (qs (qa [(wF .Eq (qD (nm 60)) (pure (.str (nm 62))))] >>= c .flag)) qK)
noncomputable abbrev u46 : M Fl := (qF (qs (c .null [])) qK)
noncomputable abbrev u47 : M Fl := (qF (qs (qa [(q8 [(pure .none)])] >>= c .logical)) qK)
noncomputable abbrev u48 : M Fl := (qF (qs (qa [(q8 [(pure .none)])] >>= c .integer)) qK)
noncomputable abbrev u49 : M Fl := (qF (qs (qa [(q8 [(pure .none)])] >>= c .double)) qK)
noncomputable abbrev u50 : M Fl := (qF (qs (qa [(q8 [(pure .none)])] >>= c .character)) qK)
noncomputable abbrev u51 : M Fl := (qF (qs (qa [(q8 [(zF [(pure (.int 1)), (pure (.int 0))])])] >>= c .double)) qK)
noncomputable abbrev u52 : M Fl := (qF (qs (qa [(q8 [(zF [(pure (.int 0)), (pure (.int 0))])])] >>= c .double)) qK)
noncomputable abbrev u53 : M Fl := (qF (qs (pure .none)) qK)
noncomputable abbrev u54 : M Fl := (qF (sIf (qi .Eq (qD (nm 60)) (pure (.str (nm 71)))) (u52 c) qK) u53)
noncomputable abbrev u55 : M Fl := (qF (sIf (qi .Eq (qD (nm 60)) (pure (.str (nm 70)))) (u51 c) qK) (u54 c))
noncomputable abbrev u56 : M Fl := (qF (sIf (qi .Eq (qD (nm 60)) (pure (.str (nm 69)))) (u50 c) qK) (u55 c))
noncomputable abbrev u57 : M Fl := (qF (sIf (qi .Eq (qD (nm 60)) (pure (.str (nm 68)))) (u49 c) qK) (u56 c))
noncomputable abbrev u58 : M Fl := (qF (sIf (qi .Eq (qD (nm 60)) (pure (.str (nm 67)))) (u48 c) qK) (u57 c))
noncomputable abbrev u59 : M Fl := (qF (sIf (qi .Eq (qD (nm 60)) (pure (.str (nm 66)))) (u47 c) qK) (u58 c))
noncomputable abbrev u60 : M Fl := (qF (sIf (qi .Eq (qD (nm 60)) (pure (.str (nm 64)))) (u46 c) qK) (u59 c))
noncomputable abbrev u61 : M Fl := (qF (sIf (cOr (qi .Eq (qD (nm 60)) (pure (.str (nm 62)))) (cOr (qi .Eq (qD (nm 60)) (pure (.str (nm 61)))) (pure false))) (u45 c) qK) (u60 c))
noncomputable def x9 (c : Fn -> List V -> M V) : M Fl := (u61 c)
noncomputable abbrev u62 : M Fl := (qF (qs (pure (.bool false))) qK)
noncomputable abbrev u63 : M Fl := (qF (qs (pure (.bool true))) qK)
noncomputable abbrev u64 : M Fl := (qF (qs (eOr (wF .Eq (qD (nm 4)) (pure (.str (nm 88)))) (wF .Eq (qa [(qD (nm 4))] >>= c .binaryLevel) (pure (.int 0))))) qK)
noncomputable abbrev u65 : M Fl := (qF (sIf (qi .In (qD (nm 4)) (zF [(pure (.str (nm 75))), (pure (.str (nm 76))), (pure (.str (nm 77))), (pure (.str (nm 78))), (pure (.str (nm 79))), (pure (.str (nm 80))), (pure (.str (nm 56))), (pure (.str (nm 81))), (pure (.str (nm 82))), (pure (.str (nm 83))), (pure (.str (nm 84))), (pure (.str (nm 85))), (pure (.str (nm 86))), (pure (.str (nm 87)))])) u62 qK) (u64 c))
noncomputable abbrev u66 : M Fl := (qF (qy (nm 4) (qd (nm 4) (qD (nm 73)))) (u65 c))
noncomputable abbrev u67 : M Fl := (qF (sIf (qi .NotEq (qd (nm 1) (qD (nm 73))) (pure (.str (nm 74)))) u63 qK) (u66 c))
noncomputable abbrev u68 : M Fl := (qF (qy (nm 73) (qV (qd (nm 2) (qD (nm 7))) (pure (.int 0)))) (u67 c))
noncomputable abbrev u69 : M Fl := (qF (sIf (qi .NotEq (qd (nm 1) (qD (nm 7))) (pure (.str (nm 72)))) u62 qK) (u68 c))
noncomputable def jm (c : Fn -> List V -> M V) : M Fl := (u69 c)
noncomputable abbrev u70 : M Fl := (qF (qs (qa [(pure (.str (nm 43))), (q8 [(qD (nm 90)), (qD (nm 91))])] >>= c .callOf)) qK)
noncomputable abbrev u71 : M Fl := (qF (qs (qa [(pure (.str (nm 44))), (q8 [(qD (nm 90)), (qD (nm 91))])] >>= c .callOf)) qK)
noncomputable abbrev u72 : M Fl := (qF (xN (pure (.str (nm 94))) (qD (nm 8))) qK)
noncomputable abbrev u73 : M Fl := (qF (qs (qa [(qD (nm 2)), (qD (nm 5))] >>= c .cCall)) qK)
noncomputable abbrev u74 : M Fl := (qF (qy (nm 5) (zf .Add (q8 [(pure .none), (pure .none)]) (Zb 1 (qd (nm 5) (qD (nm 90)))))) (u73 c))
noncomputable abbrev u75 : M Fl := (qF (qy (nm 2) (zf .Add (q8 [(qV (qd (nm 2) (qD (nm 90))) (pure (.int 0))), (qD (nm 91))]) (Zb 1 (qd (nm 2) (qD (nm 90)))))) (u74 c))
noncomputable abbrev u76 : M Fl := (qF (sIf (KC (z8 (qa [(qD (nm 90))] >>= c .isPipeTarget))) u72 qK) (u75 c))
noncomputable abbrev u77 : M Fl := (qF (qs (qa [(qD (nm 33)), (q8 [(qD (nm 91)), (qD (nm 90))])] >>= c .callOf)) qK)
noncomputable abbrev u78 : M Fl := (qF (sIf (qi .Eq (qD (nm 33)) (pure (.str (nm 34)))) (u76 c) qK) (u77 c))
noncomputable abbrev u79 : M Fl := (qF (sIf (qi .Eq (qD (nm 33)) (pure (.str (nm 46)))) (u71 c) qK) (u78 c))
noncomputable abbrev u80 : M Fl := (qF (sIf (qi .Eq (qD (nm 33)) (pure (.str (nm 45)))) (u70 c) qK) (u79 c))
noncomputable def x8 (c : Fn -> List V -> M V) : M Fl := (u80 c)
noncomputable abbrev u81 : M Fl := (qF (qv (ze (qd (nm 11) (qD (nm 0))) (ql .row (qd (nm 10) (qD (nm 0))) [] (c .nextToken)))) qK)
noncomputable abbrev u82 : M Fl := (qF (qs (qV (qd (nm 11) (qD (nm 0))) (qD (nm 96)))) qK)
noncomputable abbrev u83 : M Fl := (qF (zP wf (qi .LtE ((qd (nm 11) (qD (nm 0))) >>= wE) (qD (nm 96))) (u81 c)) u82)
noncomputable def Qr (c : Fn -> List V -> M V) : M Fl := (u83 c)
noncomputable abbrev u84 : M Fl := (qF (qs (qD (nm 97))) qK)
noncomputable abbrev u85 : M Fl := (qF (wL (nm 11) (qD (nm 0)) (Kx 1 (qd (nm 11) (qD (nm 0))))) u84)
noncomputable abbrev u86 : M Fl := (qF (qy (nm 97) (ql .reader (qD (nm 0)) [] (c .peek))) u85)
noncomputable def JA (c : Fn -> List V -> M V) : M Fl := (u86 c)
noncomputable abbrev u87 : M Fl := (qF (qs (Ky (wF .Eq (qd (nm 1) (qD (nm 97))) (pure (.str (nm 98)))) (wF .Eq (qd (nm 7) (qD (nm 97))) (qD (nm 33))))) qK)
noncomputable abbrev u88 : M Fl := (qF (qy (nm 97) (ql .reader (qD (nm 0)) [] (c .peek))) u87)
noncomputable def JC (c : Fn -> List V -> M V) : M Fl := (u88 c)
noncomputable abbrev u89 : M Fl := (qF (qs (Ky (wF .Eq (qd (nm 1) (qD (nm 97))) (pure (.str (nm 60)))) (wF .Eq (qd (nm 7) (qD (nm 97))) (qD (nm 99))))) qK)
noncomputable abbrev u90 : M Fl := (qF (qy (nm 97) (ql .reader (qD (nm 0)) [] (c .peek))) u89)
noncomputable def yy (c : Fn -> List V -> M V) : M Fl := (u90 c)
noncomputable abbrev u91 : M Fl := (qF (qv (ql .reader (qD (nm 0)) [] (c .fail))) qK)
noncomputable abbrev u92 : M Fl := (qF (qs (ql .reader (qD (nm 0)) [] (c .take))) qK)
noncomputable abbrev u93 : M Fl := (qF (sIf (KC (z8 (ql .reader (qD (nm 0)) [(qD (nm 33))] (c .isOp)))) (u91 c) qK) (u92 c))
noncomputable def vy (c : Fn -> List V -> M V) : M Fl := (u93 c)
noncomputable abbrev u94 : M Fl := (qF (xN (pure (.str (nm 101))) (qd (nm 8) (qD (nm 97)))) qK)
noncomputable abbrev u95 : M Fl := (qF (xN (pure (.str (nm 102))) (qd (nm 8) (qD (nm 97)))) qK)
noncomputable abbrev u96 : M Fl := (qF (sIf (qi .Eq (qd (nm 1) (qD (nm 97))) (pure (.str (nm 100)))) u94 qK) u95)
noncomputable abbrev u97 : M Fl := (qF (qy (nm 97) (ql .reader (qD (nm 0)) [] (c .peek))) u96)
noncomputable def JD (c : Fn -> List V -> M V) : M Fl := (u97 c)
noncomputable abbrev u98 : M Fl := (qF (qs (eOr (eNot (qd (nm 9) (qD (nm 97)))) (wF .In (qV (qd (nm 12) (qD (nm 0))) (Kw (pure (.int 1)))) (zF [(pure (.str (nm 75))), (pure (.str (nm 77)))])))) qK)
noncomputable def yx (c : Fn -> List V -> M V) : M Fl := u98
noncomputable abbrev u99 : M Fl := (qF (qy (nm 103) (qa [(qd (nm 7) (qD (nm 97)))] >>= c .binaryLevel)) qK)
noncomputable abbrev u100 : M Fl := (qF (qs (qD (nm 91))) qK)
noncomputable abbrev u101 : M Fl := (qF (qv (ql .reader (qD (nm 0)) [] (c .noSecondComparison))) qK)
noncomputable abbrev u102 : M Fl := (qF (sIf (qi .Eq (qD (nm 103)) (pure (.int 9))) (u101 c) qK) qK)
noncomputable abbrev u103 : M Fl := (qF (qy (nm 91) (qa [(qd (nm 7) (qD (nm 97))), (qD (nm 91)), (qD (nm 90)), (qd (nm 8) (qD (nm 97)))] >>= c .joined)) (u102 c))
noncomputable abbrev u104 : M Fl := (qF (qy (nm 90) (ql .reader (qD (nm 0)) [(qa [(qd (nm 7) (qD (nm 97))), (qD (nm 103))] >>= c .rightLevel)] (c .expression))) (u103 c))
noncomputable abbrev u105 : M Fl := (qF (qv (ql .reader (qD (nm 0)) [] (c .take))) (u104 c))
noncomputable abbrev u106 : M Fl := (qF (sIf (cOr (qi .Eq (qD (nm 103)) (pure (.int 0))) (cOr (qi .Lt (qD (nm 103)) (qD (nm 59))) (pure false))) u100 qK) (u105 c))
noncomputable abbrev u107 : M Fl := (qF (sIf (jG (qi .Eq (qd (nm 1) (qD (nm 97))) (pure (.str (nm 98)))) (jG (z8 (ql .reader (qD (nm 0)) [(qD (nm 97))] (c .joins))) (pure true))) (u99 c) qK) (u106 c))
noncomputable abbrev u108 : M Fl := (qF (qy (nm 103) (pure (.int 0))) (u107 c))
noncomputable abbrev u109 : M Fl := (qF (qy (nm 97) (ql .reader (qD (nm 0)) [] (c .peek))) (u108 c))
noncomputable abbrev u110 : M Fl := (qF (zP wf (z8 (pure (.bool true))) (u109 c)) qK)
noncomputable abbrev u111 : M Fl := (qF (qy (nm 91) (ql .reader (qD (nm 0)) [] (c .operand))) (u110 c))
noncomputable def jn (c : Fn -> List V -> M V) : M Fl := (u111 c)
noncomputable abbrev u112 : M Fl := (qF (sIf (jG (qi .Eq (qd (nm 1) (qD (nm 97))) (pure (.str (nm 98)))) (jG (z8 (ql .reader (qD (nm 0)) [(qD (nm 97))] (c .joins))) (jG (qi .Eq (qa [(qd (nm 7) (qD (nm 97)))] >>= c .binaryLevel) (pure (.int 9))) (pure true)))) (u91 c) qK) qK)
noncomputable abbrev u113 : M Fl := (qF (qy (nm 97) (ql .reader (qD (nm 0)) [] (c .peek))) (u112 c))
noncomputable def zj (c : Fn -> List V -> M V) : M Fl := (u113 c)
noncomputable abbrev u114 : M Fl := (qF (qs (qa [(qd (nm 7) (qD (nm 97))), (q8 [(ql .reader (qD (nm 0)) [(qD (nm 59))] (c .expression))])] >>= c .callOf)) qK)
noncomputable abbrev u115 : M Fl := (qF (qv (ql .reader (qD (nm 0)) [] (c .take))) (u114 c))
noncomputable abbrev u116 : M Fl := (qF (sIf (qi .Gt (qD (nm 59)) (pure (.int 0))) (u115 c) qK) qK)
noncomputable abbrev u117 : M Fl := (qF (qy (nm 59) (qa [(qd (nm 7) (qD (nm 97)))] >>= c .prefixLevel)) (u116 c))
noncomputable abbrev u118 : M Fl := (qF (qs (ql .reader (qD (nm 0)) [(ql .reader (qD (nm 0)) [] (c .primary))] (c .followed))) qK)
noncomputable abbrev u119 : M Fl := (qF (sIf (qi .Eq (qd (nm 1) (qD (nm 97))) (pure (.str (nm 98)))) (u117 c) qK) (u118 c))
noncomputable abbrev u120 : M Fl := (qF (qy (nm 97) (ql .reader (qD (nm 0)) [] (c .peek))) (u119 c))
noncomputable def kj (c : Fn -> List V -> M V) : M Fl := (u120 c)
noncomputable abbrev u121 : M Fl := (qF (qs (qa [(qd (nm 7) (ql .reader (qD (nm 0)) [] (c .take)))] >>= c .share)) qK)
noncomputable abbrev u122 : M Fl := (qF (qs (qa [(qa [(qd (nm 7) (ql .reader (qD (nm 0)) [] (c .take)))] >>= c .text)] >>= c .share)) qK)
noncomputable abbrev u123 : M Fl := (qF (qs (qa [(qd (nm 7) (ql .reader (qD (nm 0)) [] (c .take)))] >>= c .symbol)) qK)
noncomputable abbrev u124 : M Fl := (qF (qs (qa [(qD (nm 7))] >>= c .share)) qK)
noncomputable abbrev u125 : M Fl := (qF (qv (ql .reader (qD (nm 0)) [] (c .take))) (u124 c))
noncomputable abbrev u126 : M Fl := (qF (sIf (qi .IsNot (qD (nm 7)) (pure .none)) (u125 c) qK) qK)
noncomputable abbrev u127 : M Fl := (qF (qy (nm 7) (qa [(qd (nm 7) (qD (nm 97)))] >>= c .constantOf)) (u126 c))
noncomputable abbrev u128 : M Fl := (qF (qs (ql .reader (qD (nm 0)) [] (c .bracketed))) qK)
noncomputable abbrev u129 : M Fl := (qF (qs (ql .reader (qD (nm 0)) [(qD (nm 97))] (c .construct))) qK)
noncomputable abbrev u130 : M Fl := (qF (sIf (z8 (ql .reader (qD (nm 0)) [(pure (.str (nm 75)))] (c .isOp))) (u128 c) qK) (u129 c))
noncomputable abbrev u131 : M Fl := (qF (sIf (qi .Eq (qd (nm 1) (qD (nm 97))) (pure (.str (nm 60)))) (u127 c) qK) (u130 c))
noncomputable abbrev u132 : M Fl := (qF (sIf (qi .Eq (qd (nm 1) (qD (nm 97))) (pure (.str (nm 111)))) (u123 c) qK) (u131 c))
noncomputable abbrev u133 : M Fl := (qF (sIf (qi .Eq (qd (nm 1) (qD (nm 97))) (pure (.str (nm 109)))) (u122 c) qK) (u132 c))
noncomputable abbrev u134 : M Fl := (qF (sIf (qi .Eq (qd (nm 1) (qD (nm 97))) (pure (.str (nm 107)))) (u121 c) qK) (u133 c))
noncomputable abbrev u135 : M Fl := (qF (qy (nm 97) (ql .reader (qD (nm 0)) [] (c .peek))) (u134 c))
noncomputable def jd (c : Fn -> List V -> M V) : M Fl := (u135 c)
noncomputable abbrev u136 : M Fl := (qF (qs (qa [(pure (.str (nm 75))), (q8 [(qD (nm 7))])] >>= c .callOf)) qK)
noncomputable abbrev u137 : M Fl := (qF (qv (Kv (qd (nm 12) (qD (nm 0))))) (u136 c))
noncomputable abbrev u138 : M Fl := (qF (qv (ql .reader (qD (nm 0)) [(pure (.str (nm 114)))] (c .expectOp))) (u137 c))
noncomputable abbrev u139 : M Fl := (qF (qy (nm 7) (ql .reader (qD (nm 0)) [(pure (.int 1))] (c .expression))) (u138 c))
noncomputable abbrev u140 : M Fl := (qF (qv (ze (qd (nm 12) (qD (nm 0))) (pure (.str (nm 75))))) (u139 c))
noncomputable abbrev u141 : M Fl := (qF (qv (ql .reader (qD (nm 0)) [(pure (.str (nm 75)))] (c .expectOp))) (u140 c))
noncomputable def vG (c : Fn -> List V -> M V) : M Fl := (u141 c)
noncomputable def vF (c : Fn -> List V -> M V) : M Fl := (u91 c)
noncomputable abbrev u142 : M Fl := (qF (qs (qD (nm 7))) qK)
noncomputable abbrev u143 : M Fl := (qF (qy (nm 7) (ql .reader (qD (nm 0)) [(qD (nm 7))] (c .callOn))) qK)
noncomputable abbrev u144 : M Fl := (qF (qy (nm 7) (ql .reader (qD (nm 0)) [(qD (nm 7)), (qd (nm 7) (qD (nm 97)))] (c .indexOn))) qK)
noncomputable abbrev u145 : M Fl := (qF (qy (nm 7) (qa [(qd (nm 7) (qD (nm 97))), (q8 [(qD (nm 7)), (ql .reader (qD (nm 0)) [] (c .member))])] >>= c .callOf)) qK)
noncomputable abbrev u146 : M Fl := (qF (qv (ql .reader (qD (nm 0)) [] (c .take))) (u145 c))
noncomputable abbrev u147 : M Fl := (qF (sIf (cOr (qi .Eq (qd (nm 7) (qD (nm 97))) (pure (.str (nm 79)))) (cOr (qi .Eq (qd (nm 7) (qD (nm 97))) (pure (.str (nm 80)))) (pure false))) (u146 c) u142) qK)
noncomputable abbrev u148 : M Fl := (qF (sIf (cOr (qi .Eq (qd (nm 7) (qD (nm 97))) (pure (.str (nm 77)))) (cOr (qi .Eq (qd (nm 7) (qD (nm 97))) (pure (.str (nm 78)))) (pure false))) (u144 c) (u147 c)) qK)
noncomputable abbrev u149 : M Fl := (qF (sIf (qi .Eq (qd (nm 7) (qD (nm 97))) (pure (.str (nm 75)))) (u143 c) (u148 c)) qK)
noncomputable abbrev u150 : M Fl := (qF (sIf (cOr (qi .NotEq (qd (nm 1) (qD (nm 97))) (pure (.str (nm 98)))) (cOr (KC (z8 (ql .reader (qD (nm 0)) [(qD (nm 97))] (c .joins)))) (pure false))) u142 qK) (u149 c))
noncomputable abbrev u151 : M Fl := (qF (qy (nm 97) (ql .reader (qD (nm 0)) [] (c .peek))) (u150 c))
noncomputable abbrev u152 : M Fl := (qF (zP wf (z8 (pure (.bool true))) (u151 c)) qK)
noncomputable def vx (c : Fn -> List V -> M V) : M Fl := (u152 c)
noncomputable abbrev u153 : M Fl := (qF (qy (nm 5) (q8 [])) qK)
noncomputable abbrev u154 : M Fl := (qF (qy (nm 2) (q8 [])) u153)
noncomputable abbrev u155 : M Fl := (qF (qy (nm 7) (qa [(qV (qd (nm 2) (qD (nm 7))) (pure (.int 0)))] >>= c .symbol)) qK)
noncomputable abbrev u156 : M Fl := (qF (qs (qa [(zf .Add (q8 [(qD (nm 7))]) (qD (nm 2))), (zf .Add (q8 [(pure .none)]) (qD (nm 5)))] >>= c .cCall)) qK)
noncomputable abbrev u157 : M Fl := (qF (sIf (jG (qi .Eq (qd (nm 1) (qD (nm 7))) (pure (.str (nm 24)))) (jG (qi .IsNot (qV (qd (nm 2) (qD (nm 7))) (pure (.int 0))) (pure .none)) (pure true))) (u155 c) qK) (u156 c))
noncomputable abbrev u158 : M Fl := (qF (sIf (jG (qi .Eq ((qD (nm 2)) >>= wE) (pure (.int 1))) (jG (qi .Eq (qd (nm 1) (qV (qD (nm 2)) (pure (.int 0)))) (pure (.str (nm 115)))) (jG (qi .Is (qV (qD (nm 5)) (pure (.int 0))) (pure .none)) (pure true)))) u154 qK) (u157 c))
noncomputable abbrev u159 : M Fl := (qF (qv (ql .reader (qD (nm 0)) [(pure (.str (nm 114)))] (c .expectOp))) (u158 c))
noncomputable abbrev u160 : M Fl := (qF (jy [(nm 2), (nm 5)] (ql .reader (qD (nm 0)) [(pure (.str (nm 114))), (pure (.str (nm 75)))] (c .arguments))) (u159 c))
noncomputable abbrev u161 : M Fl := (qF (qv (ql .reader (qD (nm 0)) [(pure (.str (nm 75)))] (c .expectOp))) (u160 c))
noncomputable def yA (c : Fn -> List V -> M V) : M Fl := (u161 c)
noncomputable abbrev u162 : M Fl := (qF (qv (ql .reader (qD (nm 0)) [(pure (.str (nm 116)))] (c .expectOp))) qK)
noncomputable abbrev u163 : M Fl := (qF (qs (qa [(zf .Add (q8 [(qa [(qD (nm 33))] >>= c .symbol), (qD (nm 7))]) (qD (nm 2))), (zf .Add (q8 [(pure .none), (pure .none)]) (qD (nm 5)))] >>= c .cCall)) qK)
noncomputable abbrev u164 : M Fl := (qF (sIf (qi .Eq (qD (nm 33)) (pure (.str (nm 78)))) (u162 c) qK) (u163 c))
noncomputable abbrev u165 : M Fl := (qF (qv (ql .reader (qD (nm 0)) [(pure (.str (nm 116)))] (c .expectOp))) (u164 c))
noncomputable abbrev u166 : M Fl := (qF (jy [(nm 2), (nm 5)] (ql .reader (qD (nm 0)) [(pure (.str (nm 116))), (pure (.str (nm 77)))] (c .arguments))) (u165 c))
noncomputable abbrev u167 : M Fl := (qF (qv (ql .reader (qD (nm 0)) [(qD (nm 33))] (c .expectOp))) (u166 c))
noncomputable def ww (c : Fn -> List V -> M V) : M Fl := (u167 c)
noncomputable abbrev u168 : M Fl := (qF (sIf (qi .Eq (qd (nm 1) (qD (nm 97))) (pure (.str (nm 109)))) (u122 c) qK) (u128 c))
noncomputable abbrev u169 : M Fl := (qF (sIf (qi .Eq (qd (nm 1) (qD (nm 97))) (pure (.str (nm 111)))) (u123 c) qK) (u168 c))
noncomputable abbrev u170 : M Fl := (qF (qy (nm 97) (ql .reader (qD (nm 0)) [] (c .peek))) (u169 c))
noncomputable def j8 (c : Fn -> List V -> M V) : M Fl := (u170 c)
noncomputable abbrev u171 : M Fl := (qF (qv (ze (qD (nm 2)) (c .missing []))) qK)
noncomputable abbrev u172 : M Fl := (qF (qv (ze (qD (nm 2)) (ql .reader (qD (nm 0)) [(pure (.int 3))] (c .expression)))) qK)
noncomputable abbrev u173 : M Fl := (qF (qv (ql .reader (qD (nm 0)) [] (c .take))) qK)
noncomputable abbrev u174 : M Fl := (qF (sIf (z8 (qD (nm 118))) (u173 c) qK) qK)
noncomputable abbrev u175 : M Fl := (qF (qy (nm 118) (ql .reader (qD (nm 0)) [(pure (.str (nm 121)))] (c .isOp))) (u174 c))
noncomputable abbrev u176 : M Fl := (qF (sIf (cOr (z8 (ql .reader (qD (nm 0)) [(pure (.str (nm 121)))] (c .isOp))) (cOr (z8 (ql .reader (qD (nm 0)) [(qD (nm 120))] (c .isOp))) (pure false))) (u171 c) (u172 c)) (u175 c))
noncomputable abbrev u177 : M Fl := (qF (qv (ze (qD (nm 5)) (qD (nm 119)))) (u176 c))
noncomputable abbrev u178 : M Fl := (qF (qy (nm 119) (ql .reader (qD (nm 0)) [] (c .argumentTag))) (u177 c))
noncomputable abbrev u179 : M Fl := (qF (qs (zF [(qD (nm 2)), (qD (nm 5))])) qK)
noncomputable abbrev u180 : M Fl := (qF (qv (Kv (qd (nm 12) (qD (nm 0))))) u179)
noncomputable abbrev u181 : M Fl := (qF (sIf (KC (z8 (ql .reader (qD (nm 0)) [(qD (nm 120))] (c .isOp)))) (u91 c) qK) u180)
noncomputable abbrev u182 : M Fl := (qF (zP wf (z8 (qD (nm 118))) (u178 c)) (u181 c))
noncomputable abbrev u183 : M Fl := (qF (qy (nm 118) (pure (.bool true))) (u182 c))
noncomputable abbrev u184 : M Fl := (qF (qy (nm 5) (vY [])) (u183 c))
noncomputable abbrev u185 : M Fl := (qF (qy (nm 2) (vY [])) (u184 c))
noncomputable abbrev u186 : M Fl := (qF (qv (ze (qd (nm 12) (qD (nm 0))) (qD (nm 117)))) (u185 c))
noncomputable def vH (c : Fn -> List V -> M V) : M Fl := (u186 c)
noncomputable abbrev u187 : M Fl := (qF (qs (qd (nm 7) (qD (nm 97)))) qK)
noncomputable abbrev u188 : M Fl := (qF (qv (ql .reader (qD (nm 0)) [] (c .take))) u187)
noncomputable abbrev u189 : M Fl := (qF (qv (ql .reader (qD (nm 0)) [] (c .take))) (u188 c))
noncomputable abbrev u190 : M Fl := (qF (sIf (cOr (qi .NotEq (qd (nm 1) (qD (nm 124))) (pure (.str (nm 98)))) (cOr (qi .NotEq (qd (nm 7) (qD (nm 124))) (pure (.str (nm 125)))) (pure false))) u53 qK) (u189 c))
noncomputable abbrev u191 : M Fl := (qF (qy (nm 124) (ql .reader (qD (nm 0)) [(pure (.int 1))] (c .peek))) (u190 c))
noncomputable abbrev u192 : M Fl := (qF (sIf (KC (z8 (qD (nm 123)))) u53 qK) (u191 c))
noncomputable abbrev u193 : M Fl := (qF (qy (nm 123) (eOr (wF .Eq (qd (nm 1) (qD (nm 97))) (pure (.str (nm 111)))) (eOr (wF .Eq (qd (nm 1) (qD (nm 97))) (pure (.str (nm 109)))) (ql .reader (qD (nm 0)) [(pure (.str (nm 64)))] (c .isKey))))) (u192 c))
noncomputable abbrev u194 : M Fl := (qF (qy (nm 97) (ql .reader (qD (nm 0)) [] (c .peek))) (u193 c))
noncomputable def zx (c : Fn -> List V -> M V) : M Fl := (u194 c)
noncomputable abbrev u195 : M Fl := (qF (qs (qa [(pure (.str (nm 100))), (pure (.str (nm 88))), (Kw (pure (.int 1))), (pure (.bool false))] >>= c .cToken)) qK)
noncomputable abbrev u196 : M Fl := (qF (wL (nm 14) (qD (nm 0)) (zf .Add (qd (nm 14) (qD (nm 0))) (pure (.int 1)))) u84)
noncomputable abbrev u197 : M Fl := (qF (qy (nm 97) (qV (qd (nm 13) (qD (nm 0))) (qd (nm 14) (qD (nm 0))))) u196)
noncomputable abbrev u198 : M Fl := (qF (sIf (qi .GtE (qd (nm 14) (qD (nm 0))) ((qd (nm 13) (qD (nm 0))) >>= wE)) (u195 c) qK) u197)
noncomputable def vC (c : Fn -> List V -> M V) : M Fl := (u198 c)
noncomputable abbrev u199 : M Fl := (qF (pure .brk) qK)
noncomputable abbrev u200 : M Fl := (qF (sIf (qi .Eq (qD (nm 133)) (pure (.int 0))) u199 qK) qK)
noncomputable abbrev u201 : M Fl := (qF (sAug .FloorDiv (nm 133) (pure (.int 840))) u200)
noncomputable abbrev u202 : M Fl := (qF (qv (ze (qD (nm 127)) (zf .Mod (qD (nm 133)) (pure (.int 840))))) u201)
noncomputable abbrev u203 : M Fl := (qF (sIf (qi .Gt ((qD (nm 127)) >>= wE) (pure (.int 400))) u199 qK) qK)
noncomputable abbrev u204 : M Fl := (qF (ya (nm 134) (pure (.int 60)) u202) u203)
noncomputable abbrev u205 : M Fl := (qF (qy (nm 133) ((qD (nm 131)) >>= pAbs)) u204)
noncomputable abbrev u206 : M Fl := (qF (qy (nm 128) (zf .Mod (zf .Add (zf .Mult (qD (nm 128)) (pure (.int 31))) (qD (nm 131))) (pure (.int 1009)))) u205)
noncomputable abbrev u207 : M Fl := (qF (qy (nm 131) ((qD (nm 129)) >>= pInt)) u206)
noncomputable abbrev u208 : M Fl := (qF (qs (vY [(qD (nm 127)), (pure (.int 0)), (qD (nm 128))])) qK)
noncomputable abbrev u209 : M Fl := (qF (sForL (nm 129) (Xp 40 (qD (nm 135))) u207) u208)
noncomputable abbrev u210 : M Fl := (qF (qy (nm 128) (pure (.int 5))) u209)
noncomputable abbrev u211 : M Fl := (qF (qy (nm 127) (vY [])) u210)
noncomputable def wr (c : Fn -> List V -> M V) : M Fl := u211
noncomputable abbrev u212 : M Fl := (qF (jQ .Add (qD (nm 136)) (pure (.int 1)) (pure (.int 1))) qK)
noncomputable abbrev u213 : M Fl := (qF (qy (nm 137) (qV (qV (qD (nm 136)) (pure (.int 0))) (qV (qD (nm 136)) (pure (.int 1))))) u212)
noncomputable abbrev u214 : M Fl := (qF (qy (nm 137) (pure (.int 0))) qK)
noncomputable abbrev u215 : M Fl := (qF (qy (nm 137) (qV (qD (nm 136)) (pure (.int 2)))) qK)
noncomputable abbrev u216 : M Fl := (qF (xd (qD (nm 136)) (pure (.int 2)) (zf .Mod (zf .Add (zf .Mult (qV (qD (nm 136)) (pure (.int 2))) (pure (.int 37))) (pure (.int 11))) (pure (.int 1009)))) u215)
noncomputable abbrev u217 : M Fl := (qF (sIf (qi .Lt ((qV (qD (nm 136)) (pure (.int 0))) >>= wE) (pure (.int 3))) u214 u216) qK)
noncomputable abbrev u218 : M Fl := (qF (qs (zf .Mod (qD (nm 137)) (qD (nm 138)))) qK)
noncomputable abbrev u219 : M Fl := (qF (sIf (qi .Lt (qV (qD (nm 136)) (pure (.int 1))) ((qV (qD (nm 136)) (pure (.int 0))) >>= wE)) u213 u217) u218)
noncomputable def wu (c : Fn -> List V -> M V) : M Fl := u219
noncomputable abbrev u220 : M Fl := (qF (qs (zF [(pure (.str (nm 4))), (qd (nm 4) (qD (nm 7)))])) qK)
noncomputable abbrev u221 : M Fl := (qF (qs (zF [(qD (nm 1))])) qK)
noncomputable abbrev u222 : M Fl := (qF (qs (zF [(pure (.str (nm 139))), (Xq (nm 140) (qa [(qD (nm 140))] >>= c .lawPlain) (qd (nm 2) (qD (nm 7)))), ((qd (nm 5) (qD (nm 7))) >>= ko)])) qK)
noncomputable abbrev u223 : M Fl := (qF (qs (zF [(qD (nm 1)), ((qd (nm 2) (qD (nm 7))) >>= ko)])) qK)
noncomputable abbrev u224 : M Fl := (qF (sIf (qi .Eq (qD (nm 1)) (pure (.str (nm 142)))) zC qK) u223)
noncomputable abbrev u225 : M Fl := (qF (sIf (qi .Eq (qD (nm 1)) (pure (.str (nm 72)))) (u222 c) qK) u224)
noncomputable abbrev u226 : M Fl := (qF (sIf (qi .In (qD (nm 1)) (q8 [(pure (.str (nm 64))), (pure (.str (nm 115)))])) u221 qK) (u225 c))
noncomputable abbrev u227 : M Fl := (qF (sIf (qi .Eq (qD (nm 1)) (pure (.str (nm 74)))) u220 qK) (u226 c))
noncomputable abbrev u228 : M Fl := (qF (qy (nm 1) (qd (nm 1) (qD (nm 7)))) (u227 c))
noncomputable def vw (c : Fn -> List V -> M V) : M Fl := (u228 c)
noncomputable abbrev u229 : M Fl := (qF (qs (qD (nm 144))) qK)
noncomputable abbrev u230 : M Fl := (qF (qv (ze (qV (qD (nm 143)) (pure (.str (nm 13)))) (qa [(qD (nm 1)), (qD (nm 7)), (qD (nm 144)), (qD (nm 9))] >>= c .cToken))) u229)
noncomputable abbrev u231 : M Fl := (qF (qy (nm 9) (Ky (wF .Gt (qV (qD (nm 143)) (pure (.str (nm 145)))) (pure (.int 0))) (wF .Eq (qa [(qD (nm 136)), (pure (.int 4))] >>= c .lawPick) (pure (.int 3))))) (u230 c))
noncomputable abbrev u232 : M Fl := (qF (qy (nm 144) (zf .Mult (pure (.int 10)) ((qV (qD (nm 143)) (pure (.str (nm 13)))) >>= wE))) (u231 c))
noncomputable def x5 (c : Fn -> List V -> M V) : M Fl := (u232 c)
noncomputable abbrev u233 : M Fl := (qF (qs (qD (nm 147))) qK)
noncomputable abbrev u234 : M Fl := (qF (qv (Zz (qD (nm 147)) (eDct [(nm 38), (nm 40), (nm 39), (nm 41), (nm 36), (nm 37), (nm 51), (nm 52), (nm 53), (nm 54), (nm 148), (nm 34), (nm 149), (nm 150)] [(pure (.int 9)), (pure (.int 9)), (pure (.int 9)), (pure (.int 9)), (pure (.int 9)), (pure (.int 9)), (pure (.int 10)), (pure (.int 10)), (pure (.int 11)), (pure (.int 11)), (pure (.int 12)), (pure (.int 12)), (pure (.int 13)), (pure (.int 15))]))) u233)
noncomputable abbrev u235 : M Fl := (qF (qy (nm 147) (eDct [(nm 58), (nm 125), (nm 43), (nm 44), (nm 45), (nm 46), (nm 57), (nm 47), (nm 48), (nm 49), (nm 50)] [(pure (.int 1)), (pure (.int 2)), (pure (.int 3)), (pure (.int 3)), (pure (.int 4)), (pure (.int 4)), (pure (.int 5)), (pure (.int 6)), (pure (.int 6)), (pure (.int 7)), (pure (.int 7))])) u234)
noncomputable def vD (c : Fn -> List V -> M V) : M Fl := u235
noncomputable abbrev u236 : M Fl := (qF (xd (qD (nm 143)) (pure (.str (nm 151))) (zF [(qD (nm 1)), (qD (nm 144))])) qK)
noncomputable abbrev u237 : M Fl := (qF (sIf (qi .Is (qV (qD (nm 143)) (pure (.str (nm 151)))) (pure .none)) u236 qK) qK)
noncomputable def x6 (c : Fn -> List V -> M V) : M Fl := u237
noncomputable abbrev u238 : M Fl := (qF (qs (zF [(pure (.str (nm 139))), (q8 [(zF [(pure (.str (nm 4))), (eIf (qi .Eq (qD (nm 98)) (pure (.str (nm 45)))) (pure (.str (nm 43))) (pure (.str (nm 44))))]), (qD (nm 152)), (qD (nm 153))]), (q8 [(pure .none), (pure .none), (pure .none)])])) qK)
noncomputable abbrev u239 : M Fl := (qF (qs (zF [(pure (.str (nm 139))), (q8 [(zF [(pure (.str (nm 4))), (qD (nm 98))]), (qD (nm 153)), (qD (nm 152))]), (q8 [(pure .none), (pure .none), (pure .none)])])) qK)
noncomputable abbrev u240 : M Fl := (qF (qs (qD (nm 152))) qK)
noncomputable abbrev u241 : M Fl := (qF (qv (qa [(qD (nm 143)), (pure (.str (nm 94))), (qD (nm 144))] >>= c .lawBad)) u240)
noncomputable abbrev u242 : M Fl := (qF (qs (zF [(pure (.str (nm 139))), (zf .Add (q8 [(qV (qV (qD (nm 152)) (pure (.int 1))) (pure (.int 0))), (qD (nm 153))]) (Zb 1 (qV (qD (nm 152)) (pure (.int 1))))), (zf .Add (q8 [(pure .none), (pure .none)]) (Zb 1 (qV (qD (nm 152)) (pure (.int 2)))))])) qK)
noncomputable abbrev u243 : M Fl := (qF (sIf (cOr (qi .NotEq (qV (qD (nm 152)) (pure (.int 0))) (pure (.str (nm 139)))) (cOr (jG (qi .Eq (qV (qV (qV (qD (nm 152)) (pure (.int 1))) (pure (.int 0))) (pure (.int 0))) (pure (.str (nm 4)))) (jG (qi .In (qV (qV (qV (qD (nm 152)) (pure (.int 1))) (pure (.int 0))) (pure (.int 1))) (qD (nm 155))) (pure true))) (pure false))) (u241 c) qK) u242)
noncomputable abbrev u244 : M Fl := (qF (qy (nm 155) (zf .Add (q8 [(pure (.str (nm 75))), (pure (.str (nm 77))), (pure (.str (nm 78))), (pure (.str (nm 79))), (pure (.str (nm 80))), (pure (.str (nm 56)))]) ((c .lawLevels []) >>= ko))) (u243 c))
noncomputable abbrev u245 : M Fl := (qF (sIf (qi .NotEq (qD (nm 98)) (pure (.str (nm 34)))) u239 qK) (u244 c))
noncomputable abbrev u246 : M Fl := (qF (sIf (qi .In (qD (nm 98)) (q8 [(pure (.str (nm 45))), (pure (.str (nm 46)))])) u238 qK) (u245 c))
noncomputable def vE (c : Fn -> List V -> M V) : M Fl := (u246 c)
noncomputable abbrev u247 : M Fl := (qF (qv (ze (qD (nm 159)) (zF [(pure (.str (nm 139))), (q8 [(zF [(pure (.str (nm 4))), (qD (nm 98))]), (qD (nm 160))]), (q8 [(pure .none), (pure .none)])]))) u62)
noncomputable abbrev u248 : M Fl := (qF (qs (wF .Eq (qV (c .lawLevels []) (qD (nm 98))) (pure (.int 9)))) qK)
noncomputable abbrev u249 : M Fl := (qF (qv (ze (qD (nm 159)) (qa [(qD (nm 143)), (qD (nm 98)), (Kv (qD (nm 159))), (qD (nm 160)), (qD (nm 144))] >>= c .lawJoined))) (u248 c))
noncomputable abbrev u250 : M Fl := (qF (sIf (qi .Lt (qD (nm 144)) (pure (.int 0))) u247 qK) (u249 c))
noncomputable abbrev u251 : M Fl := (qF (qy (nm 160) (Kv (qD (nm 159)))) (u250 c))
noncomputable abbrev u252 : M Fl := (qF (jy [(nm 98), (nm 158), (nm 144)] (Kv (qD (nm 157)))) (u251 c))
noncomputable def kS (c : Fn -> List V -> M V) : M Fl := (u252 c)
noncomputable abbrev u253 : M Fl := (qF (qv (ze (qD (nm 157)) (zF [(qD (nm 166)), (qV (eDct [(nm 51), (nm 52), (nm 56), (nm 57), (nm 58)] [(pure (.int 14)), (pure (.int 14)), (pure (.int 8)), (pure (.int 6)), (pure (.int 2))]) (qD (nm 166))), (Kw (pure (.int 1)))]))) qK)
noncomputable abbrev u254 : M Fl := (qF (qv (qa [(qD (nm 136)), (qD (nm 143)), (pure (.str (nm 98))), (qD (nm 166))] >>= c .lawPut)) u253)
noncomputable abbrev u255 : M Fl := (qF (qy (nm 166) (qV (q8 [(pure (.str (nm 51))), (pure (.str (nm 52))), (pure (.str (nm 56))), (pure (.str (nm 57))), (pure (.str (nm 58)))]) (qa [(qD (nm 136)), (pure (.int 5))] >>= c .lawPick))) (u254 c))
noncomputable abbrev u256 : M Fl := (qF (qv (qa [(qD (nm 143)), (pure (.str (nm 102))), (qD (nm 144))] >>= c .lawBad)) qK)
noncomputable abbrev u257 : M Fl := (qF (sIf (jG (z8 (qa [(qD (nm 143)), (qD (nm 157)), (qD (nm 159))] >>= c .lawReduced)) (jG (qi .Eq (qV (qD (nm 162)) (qD (nm 98))) (pure (.int 9))) (pure true))) (u256 c) qK) qK)
noncomputable abbrev u258 : M Fl := (qF (qv (ze (qD (nm 157)) (zF [(qD (nm 98)), (eIf (qi .In (qV (qD (nm 162)) (qD (nm 98))) (q8 [(pure (.int 2)), (pure (.int 3)), (pure (.int 15))])) (qV (qD (nm 162)) (qD (nm 98))) (zf .Add (qV (qD (nm 162)) (qD (nm 98))) (pure (.int 1)))), (qD (nm 144))]))) qK)
noncomputable abbrev u259 : M Fl := (qF (zP wf (jG (qi .NotEq (qD (nm 157)) (q8 [])) (jG (qi .Lt (qV (qD (nm 162)) (qD (nm 98))) (qV (qV (qD (nm 157)) (Kw (pure (.int 1)))) (pure (.int 1)))) (pure true))) (u257 c)) u258)
noncomputable abbrev u260 : M Fl := (qF (qy (nm 144) (qa [(qD (nm 136)), (qD (nm 143)), (pure (.str (nm 98))), (qD (nm 98))] >>= c .lawPut)) (u259 c))
noncomputable abbrev u261 : M Fl := (qF (qy (nm 98) (qV (qD (nm 163)) (qa [(qD (nm 136)), ((qD (nm 163)) >>= wE)] >>= c .lawPick))) (u260 c))
noncomputable abbrev u262 : M Fl := (qF (sIf (qi .Lt (qD (nm 134)) (qD (nm 165))) (u261 c) qK) qK)
noncomputable abbrev u263 : M Fl := (qF (qv (ze (qD (nm 159)) (qa [(qD (nm 136)), (qD (nm 143)), (qD (nm 164))] >>= c .lawOperand))) (u262 c))
noncomputable abbrev u264 : M Fl := (qF (ya (nm 169) ((pure (.int 0)) >>= fun a => (zf .Sub (qa [(qD (nm 136)), (pure (.int 6))] >>= c .lawPick) (pure (.int 3))) >>= fun b => Kl a b) (u255 c)) (u263 c))
noncomputable abbrev u265 : M Fl := (qF (qv (qa [(qD (nm 143)), (qD (nm 157)), (qD (nm 159))] >>= c .lawReduced)) qK)
noncomputable abbrev u266 : M Fl := (qF (qs (qV (qD (nm 159)) (pure (.int 0)))) qK)
noncomputable abbrev u267 : M Fl := (qF (zP wf (qi .NotEq (qD (nm 157)) (q8 [])) (u265 c)) u266)
noncomputable abbrev u268 : M Fl := (qF (ya (nm 134) (zf .Add (qD (nm 165)) (pure (.int 1))) (u264 c)) (u267 c))
noncomputable abbrev u269 : M Fl := (qF (qy (nm 165) (qa [(qD (nm 136)), (eIf (qi .Eq (qD (nm 164)) (pure (.int 0))) (pure (.int 5)) (pure (.int 3)))] >>= c .lawPick)) (u268 c))
noncomputable abbrev u270 : M Fl := (qF (qy (nm 159) (vY [])) (u269 c))
noncomputable abbrev u271 : M Fl := (qF (qy (nm 157) (vY [])) (u270 c))
noncomputable abbrev u272 : M Fl := (qF (sOps (nm 163) (nm 162) (nm 158)) (u271 c))
noncomputable abbrev u273 : M Fl := (qF (qy (nm 162) (c .lawLevels [])) (u272 c))
noncomputable def xz (c : Fn -> List V -> M V) : M Fl := (u273 c)
noncomputable abbrev u274 : M Fl := (qF (qs (zF [(pure (.str (nm 64)))])) qK)
noncomputable abbrev u275 : M Fl := (qF (qv (qa [(qD (nm 143)), (eIf (qi .Eq (qD (nm 1)) (pure (.str (nm 100)))) (pure (.str (nm 101))) (pure (.str (nm 102)))), (qD (nm 144))] >>= c .lawBad)) u274)
noncomputable abbrev u276 : M Fl := (qF (qy (nm 144) (qa [(qD (nm 136)), (qD (nm 143)), (qD (nm 1)), (qD (nm 7))] >>= c .lawPut)) (u275 c))
noncomputable abbrev u277 : M Fl := (qF (jy [(nm 1), (nm 7)] (qV (q8 [(zF [(pure (.str (nm 60))), (pure (.str (nm 173)))]), (zF [(pure (.str (nm 60))), (pure (.str (nm 174)))]), (zF [(pure (.str (nm 98))), (pure (.str (nm 175)))]), (zF [(pure (.str (nm 100))), (pure (.str (nm 88)))])]) (qa [(qD (nm 136)), (pure (.int 4))] >>= c .lawPick))) (u276 c))
noncomputable abbrev u278 : M Fl := (qF (qy (nm 177) (qa [(qD (nm 136)), (qD (nm 143)), (qD (nm 164)), (qD (nm 177))] >>= c .lawFollowed)) qK)
noncomputable abbrev u279 : M Fl := (qF (qs (qD (nm 177))) qK)
noncomputable abbrev u280 : M Fl := (qF (ya (nm 134) (eIf (jG (qi .Lt (qD (nm 164)) (pure (.int 3))) (jG (qi .Gt (qV (qD (nm 143)) (pure (.str (nm 172)))) (pure (.int 0))) (pure true))) (qa [(qD (nm 136)), (pure (.int 3))] >>= c .lawPick) (pure (.int 0))) (u278 c)) u279)
noncomputable abbrev u281 : M Fl := (qF (qy (nm 177) (qa [(qD (nm 136)), (qD (nm 143)), (qD (nm 164))] >>= c .lawPrimary)) (u280 c))
noncomputable abbrev u282 : M Fl := (qF (sIf (qi .Eq (qa [(qD (nm 136)), (pure (.int 50))] >>= c .lawPick) (pure (.int 49))) (u277 c) qK) (u281 c))
noncomputable abbrev u283 : M Fl := (qF (jQ .Sub (qD (nm 143)) (pure (.str (nm 172))) (pure (.int 1))) (u282 c))
noncomputable def kU (c : Fn -> List V -> M V) : M Fl := (u283 c)
noncomputable abbrev u284 : M Fl := (qF (qs (zF [(pure (.str (nm 4))), (qD (nm 4))])) qK)
noncomputable abbrev u285 : M Fl := (qF (qv (qa [(qD (nm 136)), (qD (nm 143)), (pure (.str (nm 111))), (qD (nm 4))] >>= c .lawPut)) u284)
noncomputable abbrev u286 : M Fl := (qF (qy (nm 4) (qV (pure (.str (nm 179))) (qa [(qD (nm 136)), (pure (.int 3))] >>= c .lawPick))) (u285 c))
noncomputable abbrev u287 : M Fl := (qF (qs (zF [(pure (.str (nm 23))), (q8 [(zF [(qD (nm 137)), (pure (.int 1))])])])) qK)
noncomputable abbrev u288 : M Fl := (qF (qv (qa [(qD (nm 136)), (qD (nm 143)), (pure (.str (nm 107))), (qa [(pure (.str (nm 23))), (q8 [(zF [(qD (nm 137)), (pure (.int 1))])])] >>= c .cVector)] >>= c .lawPut)) u287)
noncomputable abbrev u289 : M Fl := (qF (qy (nm 137) (qV (qV (qD (nm 143)) (pure (.str (nm 127)))) (qa [(qD (nm 136)), ((qV (qD (nm 143)) (pure (.str (nm 127)))) >>= wE)] >>= c .lawPick))) (u288 c))
noncomputable abbrev u290 : M Fl := (qF (qs (zF [(pure (.str (nm 24))), (q8 [(pure (.str (nm 180)))])])) qK)
noncomputable abbrev u291 : M Fl := (qF (qv (qa [(qD (nm 136)), (qD (nm 143)), (pure (.str (nm 109))), (pure (.str (nm 180)))] >>= c .lawPut)) u290)
noncomputable abbrev u292 : M Fl := (qF (qv (qa [(qD (nm 136)), (qD (nm 143)), (pure (.str (nm 60))), (qD (nm 99))] >>= c .lawPut)) u279)
noncomputable abbrev u293 : M Fl := (qF (jy [(nm 99), (nm 177)] (qV (q8 [(zF [(pure (.str (nm 62))), (zF [(pure (.str (nm 19))), (q8 [(pure (.int 1))])])]), (zF [(pure (.str (nm 64))), (zF [(pure (.str (nm 64)))])]), (zF [(pure (.str (nm 66))), (zF [(pure (.str (nm 19))), (q8 [(pure .none)])])]), (zF [(pure (.str (nm 70))), (zF [(pure (.str (nm 23))), (q8 [(zF [(pure (.int 1)), (pure (.int 0))])])])])]) (qa [(qD (nm 136)), (pure (.int 4))] >>= c .lawPick))) (u292 c))
noncomputable abbrev u294 : M Fl := (qF (qs (qa [(qD (nm 136)), (qD (nm 143)), (qD (nm 164))] >>= c .lawBracketed)) qK)
noncomputable abbrev u295 : M Fl := (qF (sIf (qi .Eq (qD (nm 1)) (pure (.int 6))) (u293 c) qK) (u294 c))
noncomputable abbrev u296 : M Fl := (qF (sIf (qi .Eq (qD (nm 1)) (pure (.int 5))) (u291 c) qK) (u295 c))
noncomputable abbrev u297 : M Fl := (qF (sIf (qi .Lt (qD (nm 1)) (pure (.int 5))) (u289 c) qK) (u296 c))
noncomputable abbrev u298 : M Fl := (qF (sIf (qi .Lt (qD (nm 1)) (pure (.int 3))) (u286 c) qK) (u297 c))
noncomputable abbrev u299 : M Fl := (qF (qy (nm 1) (qa [(qD (nm 136)), (eIf (jG (qi .Lt (qD (nm 164)) (pure (.int 3))) (jG (qi .Gt (qV (qD (nm 143)) (pure (.str (nm 172)))) (pure (.int 0))) (pure true))) (pure (.int 8)) (pure (.int 7)))] >>= c .lawPick)) (u298 c))
noncomputable def kT (c : Fn -> List V -> M V) : M Fl := (u299 c)
noncomputable abbrev u300 : M Fl := (qF (qs (zF [(pure (.str (nm 139))), (q8 [(zF [(pure (.str (nm 4))), (pure (.str (nm 75)))]), (qD (nm 177))]), (q8 [(pure .none), (pure .none)])])) qK)
noncomputable abbrev u301 : M Fl := (qF (jQ .Sub (qD (nm 143)) (pure (.str (nm 145))) (pure (.int 1))) u300)
noncomputable abbrev u302 : M Fl := (qF (qv (qa [(qD (nm 136)), (qD (nm 143)), (pure (.str (nm 98))), (pure (.str (nm 114)))] >>= c .lawPut)) u301)
noncomputable abbrev u303 : M Fl := (qF (qy (nm 177) (qa [(qD (nm 136)), (qD (nm 143)), (zf .Add (qD (nm 164)) (pure (.int 1))), (pure (.int 1))] >>= c .lawRow)) (u302 c))
noncomputable abbrev u304 : M Fl := (qF (jQ .Add (qD (nm 143)) (pure (.str (nm 145))) (pure (.int 1))) (u303 c))
noncomputable abbrev u305 : M Fl := (qF (qv (qa [(qD (nm 136)), (qD (nm 143)), (pure (.str (nm 98))), (pure (.str (nm 75)))] >>= c .lawPut)) (u304 c))
noncomputable def ji (c : Fn -> List V -> M V) : M Fl := (u305 c)
noncomputable abbrev u306 : M Fl := (qF (qv (qa [(qD (nm 136)), (qD (nm 143)), (pure (.str (nm 98))), (pure (.str (nm 121)))] >>= c .lawPut)) qK)
noncomputable abbrev u307 : M Fl := (qF (qv (qa [(qD (nm 136)), (qD (nm 143)), (pure (.str (nm 98))), (pure (.str (nm 125)))] >>= c .lawPut)) qK)
noncomputable abbrev u308 : M Fl := (qF (qv (qa [(qD (nm 136)), (qD (nm 143)), (qD (nm 1)), (qD (nm 119))] >>= c .lawPut)) (u307 c))
noncomputable abbrev u309 : M Fl := (qF (jy [(nm 1), (nm 119)] (qV (q8 [(zF [(pure (.str (nm 111))), (pure (.str (nm 183)))]), (zF [(pure (.str (nm 109))), (pure (.str (nm 184)))]), (zF [(pure (.str (nm 60))), (pure (.str (nm 64)))])]) (qa [(qD (nm 136)), (pure (.int 3))] >>= c .lawPick))) (u308 c))
noncomputable abbrev u310 : M Fl := (qF (qv (ze (qD (nm 2)) (eIf (qi .Eq (qa [(qD (nm 136)), (pure (.int 4))] >>= c .lawPick) (pure (.int 0))) (zF [(pure (.str (nm 115)))]) (qa [(qD (nm 136)), (qD (nm 143)), (zf .Add (qD (nm 164)) (pure (.int 1))), (pure (.int 3))] >>= c .lawRow)))) qK)
noncomputable abbrev u311 : M Fl := (qF (qv (ze (qD (nm 5)) (qD (nm 119)))) (u310 c))
noncomputable abbrev u312 : M Fl := (qF (sIf (qi .Eq (qa [(qD (nm 136)), (pure (.int 3))] >>= c .lawPick) (pure (.int 2))) (u309 c) qK) (u311 c))
noncomputable abbrev u313 : M Fl := (qF (qy (nm 119) (pure .none)) (u312 c))
noncomputable abbrev u314 : M Fl := (qF (sIf (qi .Gt (qD (nm 134)) (pure (.int 0))) (u306 c) qK) (u313 c))
noncomputable abbrev u315 : M Fl := (qF (ya (nm 134) (zf .Add (pure (.int 1)) (qa [(qD (nm 136)), (pure (.int 3))] >>= c .lawPick)) (u314 c)) u179)
noncomputable abbrev u316 : M Fl := (qF (qy (nm 5) (vY [])) (u315 c))
noncomputable abbrev u317 : M Fl := (qF (qy (nm 2) (vY [])) (u316 c))
noncomputable def jj (c : Fn -> List V -> M V) : M Fl := (u317 c)
noncomputable abbrev u318 : M Fl := (qF (qy (nm 188) (qa [(qD (nm 136)), (qD (nm 143)), (qD (nm 164))] >>= c .lawBracketed)) qK)
noncomputable abbrev u319 : M Fl := (qF (qy (nm 188) (qV (q8 [(zF [(pure (.str (nm 4))), (pure (.str (nm 189)))]), (zF [(pure (.str (nm 24))), (q8 [(pure (.str (nm 189)))])])]) (qD (nm 187)))) qK)
noncomputable abbrev u320 : M Fl := (qF (qv (qa [(qD (nm 136)), (qD (nm 143)), (qV (q8 [(pure (.str (nm 111))), (pure (.str (nm 109)))]) (qD (nm 187))), (pure (.str (nm 189)))] >>= c .lawPut)) u319)
noncomputable abbrev u321 : M Fl := (qF (qs (zF [(pure (.str (nm 139))), (q8 [(zF [(pure (.str (nm 4))), (qD (nm 186))]), (qD (nm 177)), (qD (nm 188))]), (q8 [(pure .none), (pure .none), (pure .none)])])) qK)
noncomputable abbrev u322 : M Fl := (qF (sIf (qi .Eq (qD (nm 187)) (pure (.int 2))) (u318 c) (u320 c)) u321)
noncomputable abbrev u323 : M Fl := (qF (qy (nm 187) (qa [(qD (nm 136)), (pure (.int 3))] >>= c .lawPick)) (u322 c))
noncomputable abbrev u324 : M Fl := (qF (qv (qa [(qD (nm 136)), (qD (nm 143)), (pure (.str (nm 98))), (qD (nm 186))] >>= c .lawPut)) (u323 c))
noncomputable abbrev u325 : M Fl := (qF (qy (nm 186) (qV (pure (.str (nm 185))) (zf .Sub (qD (nm 1)) (pure (.int 3))))) (u324 c))
noncomputable abbrev u326 : M Fl := (qF (qv (qa [(qD (nm 136)), (qD (nm 143)), (pure (.str (nm 98))), (eIf (qi .Eq (qD (nm 1)) (pure (.int 0))) (pure (.str (nm 114))) (pure (.str (nm 116))))] >>= c .lawPut)) qK)
noncomputable abbrev u327 : M Fl := (qF (qs (zF [(pure (.str (nm 139))), (zf .Add (q8 [(zF [(pure (.str (nm 4))), (qD (nm 190))]), (qD (nm 177))]) (qD (nm 2))), (zf .Add (q8 [(pure .none), (pure .none)]) (qD (nm 5)))])) qK)
noncomputable abbrev u328 : M Fl := (qF (QI [(nm 2), (nm 5)] (zF [(q8 []), (q8 [])])) qK)
noncomputable abbrev u329 : M Fl := (qF (qy (nm 177) (zF [(pure (.str (nm 4))), (qV (qV (qD (nm 177)) (pure (.int 1))) (pure (.int 0)))])) qK)
noncomputable abbrev u330 : M Fl := (qF (qs (zF [(pure (.str (nm 139))), (zf .Add (q8 [(qD (nm 177))]) (qD (nm 2))), (zf .Add (q8 [(pure .none)]) (qD (nm 5)))])) qK)
noncomputable abbrev u331 : M Fl := (qF (sIf (qi .Eq (qV (qD (nm 177)) (pure (.int 0))) (pure (.str (nm 24)))) u329 qK) u330)
noncomputable abbrev u332 : M Fl := (qF (sIf (jG (qi .Eq (qD (nm 2)) (q8 [(zF [(pure (.str (nm 115)))])])) (jG (qi .Eq (qD (nm 5)) (q8 [(pure .none)])) (pure true))) u328 qK) u331)
noncomputable abbrev u333 : M Fl := (qF (sIf (qi .Gt (qD (nm 1)) (pure (.int 0))) u327 qK) u332)
noncomputable abbrev u334 : M Fl := (qF (jQ .Sub (qD (nm 143)) (pure (.str (nm 145))) (pure (.int 1))) u333)
noncomputable abbrev u335 : M Fl := (qF (ya (nm 134) (eIf (qi .Eq (qD (nm 1)) (pure (.int 2))) (pure (.int 2)) (pure (.int 1))) (u326 c)) u334)
noncomputable abbrev u336 : M Fl := (qF (jy [(nm 2), (nm 5)] (qa [(qD (nm 136)), (qD (nm 143)), (qD (nm 164))] >>= c .lawArguments)) (u335 c))
noncomputable abbrev u337 : M Fl := (qF (jQ .Add (qD (nm 143)) (pure (.str (nm 145))) (pure (.int 1))) (u336 c))
noncomputable abbrev u338 : M Fl := (qF (qv (qa [(qD (nm 136)), (qD (nm 143)), (pure (.str (nm 98))), (qD (nm 190))] >>= c .lawPut)) (u337 c))
noncomputable abbrev u339 : M Fl := (qF (qy (nm 190) (qV (q8 [(pure (.str (nm 75))), (pure (.str (nm 77))), (pure (.str (nm 78)))]) (qD (nm 1)))) (u338 c))
noncomputable abbrev u340 : M Fl := (qF (sIf (qi .Gt (qD (nm 1)) (pure (.int 2))) (u325 c) qK) (u339 c))
noncomputable abbrev u341 : M Fl := (qF (qy (nm 1) (qa [(qD (nm 136)), (pure (.int 5))] >>= c .lawPick)) (u340 c))
noncomputable def j0 (c : Fn -> List V -> M V) : M Fl := (u341 c)
noncomputable abbrev u342 : M Fl := (qF (qy (nm 198) (qa [(ql .reader (qD (nm 197)) [(pure (.int 1))] (c .expression))] >>= c .lawPlain)) qK)
noncomputable abbrev u343 : M Fl := (qF (qs (Ky (wF .Is (qV (qD (nm 143)) (pure (.str (nm 151)))) (pure .none)) (Ky (wF .Eq (qD (nm 198)) (qD (nm 193))) (ql .reader (qD (nm 197)) [(pure (.str (nm 194)))] (c .isOp))))) qK)
noncomputable abbrev u344 : M Fl := (qF (sTry (u342 c) (nm 143) (nm 151)) (u343 c))
noncomputable abbrev u345 : M Fl := (qF (qy (nm 197) (qa [(qa [(qV (qD (nm 143)) (pure (.str (nm 13))))] >>= c .cTokenRow)] >>= c .cExprReader)) (u344 c))
noncomputable abbrev u346 : M Fl := (qF (qv (qa [(qD (nm 136)), (qD (nm 143)), (pure (.str (nm 98))), (pure (.str (nm 194)))] >>= c .lawPut)) (u345 c))
noncomputable abbrev u347 : M Fl := (qF (qy (nm 193) (qa [(qD (nm 136)), (qD (nm 143)), (pure (.int 0)), (pure (.int 1))] >>= c .lawRow)) (u346 c))
noncomputable abbrev u348 : M Fl := (qF (qy (nm 143) (eDct [(nm 13), (nm 145), (nm 151), (nm 172), (nm 127)] [(vY []), (pure (.int 0)), (pure .none), (pure (.int 14)), (qD (nm 127))])) (u347 c))
noncomputable abbrev u349 : M Fl := (qF (qy (nm 127) (zf .Add (q8 [(pure (.int 0)), (pure (.int 7))]) (Xq (nm 129) (((qD (nm 129)) >>= pInt) >>= pAbs) (Xp 3 (qD (nm 135)))))) (u348 c))
noncomputable abbrev u350 : M Fl := (qF (qy (nm 136) (qa [(qD (nm 135))] >>= c .lawPool)) (u349 c))
end
noncomputable def Ze (c : Fn -> List V -> M V) : M Fl := (u350 c)
noncomputable def XV : List (Str × M V) := [((nm 1), (pure (.str (nm 64)))), ((nm 3), (pure .none))]
noncomputable def QL : List (Str × M V) := [((nm 1), (pure (.str (nm 115)))), ((nm 3), (pure .none))]
noncomputable def ZO : List (Str × M V) := [((nm 1), (qD (nm 1))), ((nm 2), (qD (nm 2))), ((nm 3), (qD (nm 3))), ((nm 15), (pure (.bool false))), ((nm 16), (pure (.bool false)))]
noncomputable def ZP : List (Str × M V) := [((nm 1), (pure (.str (nm 74)))), ((nm 4), (qD (nm 4))), ((nm 3), (pure .none))]
noncomputable def XW : List (Str × M V) := [((nm 1), (pure (.str (nm 72)))), ((nm 2), (qD (nm 2))), ((nm 5), (qD (nm 5))), ((nm 3), (qD (nm 3))), ((nm 6), (pure .none))]
noncomputable def xB : List (Str × M V) := [((nm 10), (qD (nm 10))), ((nm 11), (vY [])), ((nm 12), (vY [(pure (.str (nm 200)))]))]
noncomputable def Jb : List (Str × M V) := [((nm 1), (qD (nm 1))), ((nm 7), (qD (nm 7))), ((nm 8), (qD (nm 8))), ((nm 9), (qD (nm 9)))]
noncomputable def yc : List (Str × M V) := [((nm 13), (qD (nm 13))), ((nm 14), (pure (.int 0)))]
noncomputable def bodyL (c : Fn -> List V -> M V) : List (List V -> M V) := [
 qq [] none (b_null c),
 qq [] none (Zc c),
 qq [(nm 2)] none (Zd c),
 qq [(nm 2)] none (Zf c),
 qq [(nm 2)] none (KL c),
 qq [(nm 2)] none (yi c),
 qq [(nm 25)] none (b_flag c),
 qq [(nm 26)] none (b_text c),
 qq [(nm 4)] none (KJ c),
 qq [(nm 4), (nm 28)] none (yB c),
 qq [(nm 31)] none (Xt c),
 qq [(nm 33)] none (xI c),
 qq [(nm 33)] none (xH c),
 qq [(nm 33), (nm 59)] none (xy c),
 qq [(nm 60)] none (x9 c),
 qq [(nm 7)] none (jm c),
 qq [(nm 33), (nm 91), (nm 90), (nm 8)] none (x8 c),
 qq [(nm 0), (nm 96)] (some (.int 0)) (Qr c),
 qq [(nm 0)] none (JA c),
 qq [(nm 0), (nm 33)] none (JC c),
 qq [(nm 0), (nm 99)] none (yy c),
 qq [(nm 0), (nm 33)] none (vy c),
 qq [(nm 0)] none (JD c),
 qq [(nm 0), (nm 97)] none (yx c),
 qq [(nm 0), (nm 59)] (some (.int 0)) (jn c),
 qq [(nm 0)] none (zj c),
 qq [(nm 0)] none (kj c),
 qq [(nm 0)] none (jd c),
 qq [(nm 0)] none (vG c),
 qq [(nm 0), (nm 97)] none (vF c),
 qq [(nm 0), (nm 7)] none (vx c),
 qq [(nm 0), (nm 7)] none (yA c),
 qq [(nm 0), (nm 7), (nm 33)] none (ww c),
 qq [(nm 0)] none (j8 c),
 qq [(nm 0), (nm 120), (nm 117)] none (vH c),
 qq [(nm 0)] none (zx c),
 qq [(nm 0)] none (vC c),
 qq [(nm 135)] none (wr c),
 qq [(nm 136), (nm 138)] none (wu c),
 qq [(nm 7)] none (vw c),
 qq [(nm 136), (nm 143), (nm 1), (nm 7)] none (x5 c),
 qq [] none (vD c),
 qq [(nm 143), (nm 1), (nm 144)] none (x6 c),
 qq [(nm 143), (nm 98), (nm 153), (nm 152), (nm 144)] none (vE c),
 qq [(nm 143), (nm 157), (nm 159)] none (kS c),
 qq [(nm 136), (nm 143), (nm 164), (nm 158)] none (xz c),
 qq [(nm 136), (nm 143), (nm 164)] none (kU c),
 qq [(nm 136), (nm 143), (nm 164)] none (kT c),
 qq [(nm 136), (nm 143), (nm 164)] none (ji c),
 qq [(nm 136), (nm 143), (nm 164)] none (jj c),
 qq [(nm 136), (nm 143), (nm 164), (nm 177)] none (j0 c),
 vt [] none XV (kH .null),
 vt [] none QL (kH .missing),
 vt [(nm 1), (nm 2), (nm 3)] (some .none) ZO (kH .vector),
 vt [(nm 4)] none ZP (kH .symbol),
 vt [(nm 2), (nm 5), (nm 3)] (some .none) XW (kH .call),
 vt [(nm 10)] none xB (yh .reader),
 vt [(nm 1), (nm 7), (nm 8), (nm 9)] none Jb (kH .token),
 vt [(nm 13)] none yc (yh .row)]
noncomputable def body (c : Fn -> List V -> M V) (f : Fn) : List V -> M V := ((bodyL c)[f.i]?).getD fun _ => zC
noncomputable def run : Nat -> Fn -> List V -> M V
 | 0 => fun _ _ => zC
 | n + 1 => fun f => body (run n) f
noncomputable def nmC (s : Str) : Nat := s.cps.foldl (fun a c => a * 2097152 + c) 1
noncomputable def nmOk (s : Str) : Bool := PyData.strOk s && decide (s.cps.size < 1000) && !(s == ("__debug__" : Str)) && !decide (s = ("__name__" : Str))
theorem Xf : ((nmT.map Str.ofString).map nmC).Nodup /\ (nmT.map Str.ofString).all nmOk = true := by decide +kernel
theorem Ko {s : String} (h : s ∈ nmT) : nmOk (Str.ofString s) = true := List.all_eq_true.mp Xf.2 _ (List.mem_map_of_mem h)
end
section
open PySem PySem.W PySem.Calls PyProof.Rows
noncomputable def stN (l : List Stmt) (i : Nat) : Stmt := (l[i]?).getD (.Pass ⟨0, 0, 0, 0⟩)
noncomputable def pB : List Stmt := PySem.Challenge.pw_no0510_01.main.body
noncomputable def stP (q : Str) : Stmt -> List Stmt × qW
 | .ClassDef _ _ _ b _ _ _ _ _ _ _ => (b, ⟨q, q, { posonlyargs := [], args := [], vararg := none, kwonlyargs := [], kw_defaults := [], kwarg := none, defaults := [] }, [], { kind := .module, names := [], isGenerator := false, isCoroutine := false }⟩)
 | .FunctionDef x ps b _ _ _ sc _ _ _ => ([], ⟨x, q, ps, b, sc⟩)
 | _ => ([], ⟨q, q, { posonlyargs := [], args := [], vararg := none, kwonlyargs := [], kw_defaults := [], kwarg := none, defaults := [] }, [], { kind := .module, names := [], isGenerator := false, isCoroutine := false }⟩)
noncomputable def clB (s : Stmt) : List Stmt := (stP "" s).1
noncomputable def fnR (q : Str) (s : Stmt) : qW := (stP q s).2
noncomputable def r174 : qW := fnR "null" (stN pB 10)
noncomputable def r181 : qW := fnR "missing" (stN pB 11)
noncomputable def r188 : qW := fnR "logical" (stN pB 12)
noncomputable def r195 : qW := fnR "integer" (stN pB 13)
noncomputable def r202 : qW := fnR "double" (stN pB 14)
noncomputable def r209 : qW := fnR "character" (stN pB 15)
noncomputable def r216 : qW := fnR "flag" (stN pB 16)
noncomputable def r223 : qW := fnR "text" (stN pB 17)
noncomputable def r230 : qW := fnR "symbol" (stN pB 18)
noncomputable def r237 : qW := fnR "call_of" (stN pB 19)
noncomputable def r244 : qW := fnR "share" (stN pB 20)
noncomputable def r251 : qW := fnR "binary_level" (stN pB 25)
noncomputable def r258 : qW := fnR "prefix_level" (stN pB 26)
noncomputable def r265 : qW := fnR "right_level" (stN pB 27)
noncomputable def r272 : qW := fnR "constant_of" (stN pB 28)
noncomputable def r279 : qW := fnR "is_pipe_target" (stN pB 29)
noncomputable def r286 : qW := fnR "joined" (stN pB 30)
noncomputable def r308 : qW := fnR "ExprReader.peek" (stN (clB (stN pB 31)) 1)
noncomputable def r315 : qW := fnR "ExprReader.take" (stN (clB (stN pB 31)) 2)
noncomputable def r322 : qW := fnR "ExprReader.is_op" (stN (clB (stN pB 31)) 3)
noncomputable def r329 : qW := fnR "ExprReader.is_key" (stN (clB (stN pB 31)) 4)
noncomputable def r336 : qW := fnR "ExprReader.expect_op" (stN (clB (stN pB 31)) 5)
noncomputable def r343 : qW := fnR "ExprReader.fail" (stN (clB (stN pB 31)) 6)
noncomputable def r350 : qW := fnR "ExprReader.joins" (stN (clB (stN pB 31)) 7)
noncomputable def r358 : qW := fnR "ExprReader.expression" (stN (clB (stN pB 31)) 8)
noncomputable def r365 : qW := fnR "ExprReader.no_second_comparison" (stN (clB (stN pB 31)) 9)
noncomputable def r372 : qW := fnR "ExprReader.operand" (stN (clB (stN pB 31)) 10)
noncomputable def r379 : qW := fnR "ExprReader.primary" (stN (clB (stN pB 31)) 11)
noncomputable def r386 : qW := fnR "ExprReader.bracketed" (stN (clB (stN pB 31)) 12)
noncomputable def r393 : qW := fnR "ExprReader.construct" (stN (clB (stN pB 31)) 13)
noncomputable def r400 : qW := fnR "ExprReader.followed" (stN (clB (stN pB 31)) 14)
noncomputable def r407 : qW := fnR "ExprReader.call_on" (stN (clB (stN pB 31)) 15)
noncomputable def r414 : qW := fnR "ExprReader.index_on" (stN (clB (stN pB 31)) 16)
noncomputable def r421 : qW := fnR "ExprReader.member" (stN (clB (stN pB 31)) 17)
noncomputable def r428 : qW := fnR "ExprReader.arguments" (stN (clB (stN pB 31)) 18)
noncomputable def r435 : qW := fnR "ExprReader.argument_tag" (stN (clB (stN pB 31)) 19)
noncomputable def r484 : qW := fnR "TokenRow.next_token" (stN (clB (stN pB 34)) 1)
noncomputable def r498 : qW := fnR "_law_pool" (stN pB 36)
noncomputable def r505 : qW := fnR "_law_pick" (stN pB 37)
noncomputable def r510 : qW := fnR "_law_plain" (stN pB 38)
noncomputable def r517 : qW := fnR "_law_put" (stN pB 39)
noncomputable def r524 : qW := fnR "_law_levels" (stN pB 40)
noncomputable def r531 : qW := fnR "_law_bad" (stN pB 41)
noncomputable def r538 : qW := fnR "_law_joined" (stN pB 42)
noncomputable def r545 : qW := fnR "_law_reduced" (stN pB 43)
noncomputable def r550 : qW := fnR "_law_row" (stN pB 44)
noncomputable def r557 : qW := fnR "_law_operand" (stN pB 45)
noncomputable def r564 : qW := fnR "_law_primary" (stN pB 46)
noncomputable def r571 : qW := fnR "_law_bracketed" (stN pB 47)
noncomputable def r578 : qW := fnR "_law_arguments" (stN pB 48)
noncomputable def r585 : qW := fnR "_law_followed" (stN pB 49)
noncomputable def Zr : qW := fnR "law" (stN pB 50)
noncomputable def r67 : qW := fnR "Null.__init__" (stN (clB (stN pB 5)) 0)
noncomputable def r88 : qW := fnR "Missing.__init__" (stN (clB (stN pB 6)) 0)
noncomputable def r110 : qW := fnR "Vector.__init__" (stN (clB (stN pB 7)) 0)
noncomputable def r138 : qW := fnR "Symbol.__init__" (stN (clB (stN pB 8)) 0)
noncomputable def r160 : qW := fnR "Call.__init__" (stN (clB (stN pB 9)) 0)
noncomputable def r300 : qW := fnR "ExprReader.__init__" (stN (clB (stN pB 31)) 0)
noncomputable def r456 : qW := fnR "Token.__init__" (stN (clB (stN pB 33)) 0)
noncomputable def r477 : qW := fnR "TokenRow.__init__" (stN (clB (stN pB 34)) 0)
noncomputable def r48 : qW := fnR "ReadError.__init__" (stN (clB (stN pB 3)) 0)
noncomputable def fnT : List (Addr × qW × Value) := [(174, r174, .none), (181, r181, .none), (188, r188, .none), (195, r195, .none), (202, r202, .none), (209, r209, .none), (216, r216, .none), (223, r223, .none), (230, r230, .none), (237, r237, .none), (244, r244, .none), (251, r251, .none), (258, r258, .none), (265, r265, .none), (272, r272, .none), (279, r279, .none), (286, r286, .none), (308, r308, (.ref 301)), (315, r315, .none), (322, r322, .none), (329, r329, .none), (336, r336, .none), (343, r343, .none), (350, r350, .none), (358, r358, (.ref 351)), (365, r365, .none), (372, r372, .none), (379, r379, .none), (386, r386, .none), (393, r393, .none), (400, r400, .none), (407, r407, .none), (414, r414, .none), (421, r421, .none), (428, r428, .none), (435, r435, .none), (484, r484, .none), (498, r498, .none), (505, r505, .none), (510, r510, .none), (517, r517, .none), (524, r524, .none), (531, r531, .none), (538, r538, .none), (545, r545, .none), (550, r550, .none), (557, r557, .none), (564, r564, .none), (571, r571, .none), (578, r578, .none), (585, r585, .none), (67, r67, .none), (88, r88, .none), (110, r110, (.ref 103)), (138, r138, .none), (160, r160, (.ref 153)), (300, r300, .none), (456, r456, .none), (477, r477, .none)]
noncomputable def gT : List (Nat × Addr) := [(30, 163), (196, 438), (18, 91), (17, 70), (95, 51), (27, 141), (126, 459), (195, 487), (21, 120), (191, 578), (156, 531), (181, 571), (178, 585), (161, 538), (154, 524), (170, 557), (146, 505), (141, 510), (192, 498), (176, 564), (167, 517), (171, 545), (182, 550), (89, 251), (92, 237), (24, 209), (112, 272), (23, 202), (63, 216), (22, 195), (93, 279), (105, 286), (19, 188), (115, 181), (65, 174), (106, 258), (104, 265), (108, 244), (74, 230), (110, 223)]
noncomputable def mT : List (Cls × Fn × String) := [(.reader, .peek, "peek"), (.reader, .take, "take"), (.reader, .isOp, "is_op"), (.reader, .isKey, "is_key"), (.reader, .expectOp, "expect_op"), (.reader, .fail, "fail"), (.reader, .joins, "joins"), (.reader, .expression, "expression"), (.reader, .noSecondComparison, "no_second_comparison"), (.reader, .operand, "operand"), (.reader, .primary, "primary"), (.reader, .bracketed, "bracketed"), (.reader, .construct, "construct"), (.reader, .followed, "followed"), (.reader, .callOn, "call_on"), (.reader, .indexOn, "index_on"), (.reader, .member, "member"), (.reader, .arguments, "arguments"), (.reader, .argumentTag, "argument_tag"), (.row, .nextToken, "next_token")]
noncomputable def bT : List Nat := [29, 132, 168, 32, 130, 20, 201]
noncomputable def iT : List (Cls × Addr) := [(.null, 67), (.missing, 88), (.vector, 110), (.symbol, 138), (.call, 160), (.reader, 300), (.token, 456), (.row, 477)]
inductive AllF (K : Frag) : List (Addr × qW × Value) -> Prop
 | nil : AllF K []
 | cons {a r v l} : k6 K a r v -> AllF K l -> AllF K ((a, r, v) :: l)
theorem AllF.get {K : Frag} {l : List (Addr × qW × Value)} (h : AllF K l) : ∀ {i : Nat} {a r v}, l[i]? = some (a, r, v) -> k6 K a r v := by
 induction h with
 | nil => intro i a r v e; simp at e
 | cons f _ ih =>
  intro i a r v e
  cases i with
  | zero => simp at e; obtain ⟨rfl, rfl, rfl⟩ := e; exact f
  | succ i => exact ih (by simpa using e)
structure zJ (K : Frag) : Prop where
 gl : ∀ i a, gT.lookup i = some a -> nsIn K mainGlobals (nm i) = some (some (.ref a)) /\ keepIn K (.ref a) = true
 gi : (∃ t, nsIn K mainGlobals (nm 113) = some (some (.int 1 t))) /\ (∃ t, nsIn K mainGlobals (nm 122) = some (some (.int 3 t))) /\ ∃ t, nsIn K mainGlobals (nm 42) = some (some (.int 9 t))
 gb : ∀ i, bT.contains i = true -> nsIn K mainGlobals (nm i) = some none
 mt : ∀ (i : Nat) c f s, mT[i]? = some (c, f, s) -> findIn K (.ref (cA c)) (Str.ofString s) = some (some (.ref (aFn f))) /\ typeIn K (.ref (aFn f)) = some (.type "function") /\ keepIn K (.ref (aFn f)) = true
 ci : ∀ c a, iT.lookup c = some a -> findIn K (.ref (cA c)) "__init__" = some (some (.ref a)) /\ typeIn K (.ref a) = some (.type "function")
 fn : AllF K fnT
 df1 : ∃ o t n, K.lookup 301 = some o /\ o.data = .seq #[.int 0 t] n
 df2 : ∃ o t n, K.lookup 351 = some o /\ o.data = .seq #[.int 0 t] n
 df3 : ∃ o n, K.lookup 103 = some o /\ o.data = .seq #[Value.none] n
 df4 : ∃ o n, K.lookup 153 = some o /\ o.data = .seq #[Value.none] n
 ki : KI K
 keg : KEg K
 kex : KEx K r48 .none (Str.ofString "self")
noncomputable def Kn (sc : PySem.Scope) : Bool := sc.names.all fun x => match x.2 with | .cell => false | _ => true
theorem wp {sc : PySem.Scope} (h : Kn sc = true) : ∀ x ∈ sc.names, x.2 ≠ .cell := by
 intro x hx e
 unfold Kn at h
 rw [List.all_eq_true] at h
 have := h x hx
 rw [e] at this
 cases this
noncomputable def noFree (sc : PySem.Scope) : Bool := sc.names.all fun x => match x.2 with | .free => false | _ => true
theorem Xd {sc : PySem.Scope} (h : noFree sc = true) : ∀ x ∈ sc.names, x.2 ≠ .free := by
 intro x hx e
 unfold noFree at h
 rw [List.all_eq_true] at h
 have := h x hx
 rw [e] at this
 cases this
noncomputable def Jt : Option NameKind -> Bool
 | some .local => true
 | _ => false
theorem Ks {o : Option NameKind} (h : Jt o = true) : o = some .local := by
 cases o with
 | none => cases h
 | some k => cases k <;> first | rfl | cases h
noncomputable def locOk (sc : PySem.Scope) : Bool := sc.names.all fun x => !Jt (some x.2) || Jt (sc.names.lookup x.1)
theorem Kq {sc : PySem.Scope} (h : locOk sc = true) : ∀ y ∈ sc.names, y.2 = .local -> sc.names.lookup y.1 = some .local := by
 intro x hx e
 unfold locOk at h
 rw [List.all_eq_true] at h
 have := h x hx
 rw [e] at this
 exact Ks this
noncomputable def Kp (sc : PySem.Scope) (xs : List Str) : Bool := xs.all fun x => Jt (sc.names.lookup x)
theorem Xh {sc : PySem.Scope} {xs : List Str} (h : Kp sc xs = true) : ∀ x ∈ xs, sc.names.lookup x = some .local := by
 intro x hx
 unfold Kp at h
 rw [List.all_eq_true] at h
 exact Ks (h x hx)
noncomputable def isCel : Option NameKind -> Bool
 | some .cell => true
 | _ => false
theorem isCel_ {o : Option NameKind} (h : isCel o = true) : o = some .cell := by
 cases o with
 | none => cases h
 | some k => cases k <;> first | rfl | cases h
noncomputable def lcsOk (sc : PySem.Scope) (xs : List Str) (c1 c2 : Str) : Bool := xs.all fun x => Jt (sc.names.lookup x) || isCel (sc.names.lookup x) && (x == c1 || x == c2)
theorem lcsOk_ {sc : PySem.Scope} {xs : List Str} {c1 c2 : Str} (h : lcsOk sc xs c1 c2 = true) : ∀ x ∈ xs, sc.names.lookup x = some .local \/ sc.names.lookup x = some .cell /\ (x = c1 \/ x = c2) := by
 intro x hx
 unfold lcsOk at h
 rw [List.all_eq_true] at h
 have := h x hx
 rw [Bool.or_eq_true, Bool.and_eq_true, Bool.or_eq_true] at this
 exact this.imp Ks fun q => ⟨isCel_ q.1, q.2.imp (fun q => by simpa using q) fun q => by simpa using q⟩
noncomputable def isFun : ScopeKind -> Bool
 | .function => true
 | _ => false
theorem isFun_ {k : ScopeKind} (h : isFun k = true) : k = .function := by cases k <;> first | rfl | cases h
noncomputable def Xm (r : qW) (xs : List Str) : Bool := Kn r.scope && Kp r.scope xs && isFun r.scope.kind && !r.scope.isCoroutine && !r.scope.isGenerator
theorem nd0 (i : Nat) (h : i < nmT.length) : (!(nm i == ("__debug__" : Str)) && !decide (nm i = ("__name__" : Str))) = true := by
 have h2 := Ko (List.getElem_mem h)
 unfold nmOk at h2
 rw [Bool.and_assoc, Bool.and_eq_true] at h2
 unfold nm
 rw [List.getElem?_eq_getElem h]
 exact h2.2
theorem nd_ (i : Nat) (h : Nat.blt i 204 = true := by rfl) : (nm i == ("__debug__" : Str)) = false := by
 have := nd0 i (Nat.lt_of_lt_of_eq (Nat.le_of_ble_eq_true h) (by decide +kernel))
 rw [Bool.and_eq_true] at this
 simpa using this.1
theorem ne_ (i : Nat) (h : Nat.blt i 204 = true := by rfl) : nm i ≠ "__name__" := by
 have := nd0 i (Nat.lt_of_lt_of_eq (Nat.le_of_ble_eq_true h) (by decide +kernel))
 rw [Bool.and_eq_true] at this
 simpa using this.2
theorem gT_lt : ∀ {i a}, gT.lookup i = some a -> Nat.blt i 204 = true := by
 have : (gT.all fun p => Nat.blt p.1 204) = true := by decide +kernel
 intro i a h
 rw [List.all_eq_true] at this
 have go : ∀ l : List (Nat × Addr), l.lookup i = some a -> (i, a) ∈ l := by
  intro l
  induction l with
  | nil => intro h; cases h
  | cons p l ih =>
   obtain ⟨j, b⟩ := p
   intro h
   rw [List.lookup_cons] at h
   by_cases q : i = j
   ·subst q; simp at h; subst h; exact List.mem_cons_self
   ·have : (i == j) = false := by simpa using q
    rw [this] at h
    exact List.mem_cons_of_mem _ (ih h)
 exact this _ (go _ h)
section
variable {B : Bs} {n : Nat} {fr : Frm} {ow : Addr -> Prop} {c : Fn -> List V -> M V}
theorem sim_stuck {α β : Type} {R : Gst -> β -> α -> Prop} {t : Sem α} : Sim B n fr ow R t zC := ⟨fun _ _ _ _ _ _ _ _ h => h.elim⟩
theorem frG_comp {scope : PySem.Scope} {C : Addr} (ok : FrG fr) (hk : scope.kind = .function) : FrG (fr.comp scope C) :=
 ⟨⟨hk, List.nodup_nil, List.not_mem_nil, fun _ _ _ e => by cases e⟩, ok.glob, ok.bu⟩
set_option tactic.hygienic true in
theorem Ku {r : qW} {L a : Addr} {cdv : Value} {c1 c2 : Str} {o : List Env} (hk : r.scope.kind = .function) : FrOk ⟨KD r L a cdv c1 c2, KD r L a cdv c1 c2, o⟩ := by
 refine ⟨hk, ?_, ?_, ?_⟩
 ·show [L + 2, L + 1].Nodup
  simp
 ·show L ∉ [L + 2, L + 1]
  simp
 ·intro x y ca h1 h2
  have h1 : List.lookup x [(c2, L + 2), (c1, L + 1)] = some ca := h1
  have h2 : List.lookup y [(c2, L + 2), (c1, L + 1)] = some ca := h2
  simp only [List.lookup_cons, List.lookup_nil] at h1 h2
  by_cases a1 : x = c2
  ·subst a1
   simp at h1
   subst h1
   by_cases a2 : y = x
   ·exact a2.symm
   ·have q : (y == x) = false := by simpa using a2
    rw [q] at h2
    dsimp only at h2
    split at h2
    ·simp at h2
    ·cases h2
  ·have q : (x == c2) = false := by simpa using a1
   rw [q] at h1
   dsimp only at h1
   split at h1
   ·rename_i q1
    simp at h1 q1
    subst h1
    by_cases a2 : y = c2
    ·subst a2; simp at h2
    ·have q : (y == c2) = false := by simpa using a2
     rw [q] at h2
     dsimp only at h2
     split at h2
     ·rename_i q2
      simp at q2
      rw [q1, q2]
     ·cases h2
   ·cases h1
noncomputable def frm (r : qW) (L a : Addr) (cdv : Value) (o : List Env) : Frm := ⟨envOf r.qual r.scope L a cdv, envOf r.qual r.scope L a cdv, o⟩
noncomputable def frc (r : qW) (L a : Addr) (cdv : Value) (c1 c2 : Str) (o : List Env) : Frm := ⟨KD r L a cdv c1 c2, KD r L a cdv c1 c2, o⟩
structure Cx (B : Bs) (n : Nat) (c : Fn -> List V -> M V) (fr : Frm) : Prop where
 k : zJ B.K
 b : B.Ok
 h : ∀ f, qQ B n (aFn f) (c f)
 g : FrG fr
theorem Cx.of (k : zJ B.K) (b : B.Ok) (h : ∀ f, qQ B n (aFn f) (c f)) {r : qW} {L a : Addr} {cdv : Value} {o : List Env} (hk : r.scope.kind = .function) : Cx B n c (frm r L a cdv o) :=
 ⟨k, b, h, ⟨⟨hk, List.nodup_nil, List.not_mem_nil, fun _ _ _ e => by cases e⟩, rfl, rfl⟩⟩
theorem Cx.fl (k : zJ B.K) (b : B.Ok) (h : ∀ f, qQ B n (aFn f) (c f)) {r : qW} {a : Addr} {m : M Fl} (hk : r.scope.kind = .function) (hm : ∀ L cdv o, Cx B n c (frm r L a cdv o) -> Sim B n (frm r L a cdv o) (frm r L a cdv o).own FR (execs r.body (frm r L a cdv o).env) m) :
  ∀ L cdv fr', fr'.env = envOf r.qual r.scope L a cdv -> fr'.fenv = fr'.env -> Sim B n fr' fr'.own FR (execs r.body fr'.env) m := by
 intro L cdv fr' he hf
 obtain ⟨env, fenv, o⟩ := fr'
 dsimp only at he hf
 subst hf he
 exact hm L cdv o (.of k b h hk)
theorem Cx.flc (k : zJ B.K) (b : B.Ok) (h : ∀ f, qQ B n (aFn f) (c f)) {r : qW} {a : Addr} {m : M Fl} {c1 c2 : Str} (hk : r.scope.kind = .function) (hm : ∀ L cdv o, Cx B n c (frc r L a cdv c1 c2 o) -> Sim B n (frc r L a cdv c1 c2 o) (frc r L a cdv c1 c2 o).own FR (execs r.body (frc r L a cdv c1 c2 o).env) m) :
  ∀ L cdv fr', fr'.env = KD r L a cdv c1 c2 -> fr'.fenv = fr'.env -> Sim B n fr' fr'.own FR (execs r.body fr'.env) m := by
 intro L cdv fr' he hf
 obtain ⟨env, fenv, o⟩ := fr'
 dsimp only at he hf
 subst hf he
 exact hm L cdv o ⟨k, b, h, ⟨Ku hk, rfl, rfl⟩⟩
structure InX (fr : Frm) : Prop where
 kind : fr.env.scope.kind = .function
theorem InX.l (x : InX fr) (i : Nat) {pos : Pos} (h : Nat.blt i 204 = true) : Sim B n fr ow VR (eval (.Name (nm i) pos) fr.env) (qD (nm i)) := XQ x.kind (nd_ i h)
theorem InS.fl {r : qW} {a : Addr} {self : Str} {rows : List (Str × M V)} (hk : r.scope.kind = .function) (hm : ∀ fr, InX fr -> yE B n fr self r.body rows) : ∀ L cdv fr', fr'.env = envOf r.qual r.scope L a cdv -> fr'.fenv = fr'.env -> yE B n fr' self r.body rows :=
 fun _ _ fr' he _ => hm fr' ⟨by rw [he]; exact hk⟩
theorem qR {a : Addr} {r : qW} {dV : Value} {xs : List Str} {d : Option V} {dc : Value} {m : M Fl} (b : B.Ok) (hf : k6 B.K a r dV) (hc : Xm r xs = true) (hn : xs.Nodup) (hb : z0 B.K r dV xs d dc [] [])
  (hm : ∀ L cdv fr', fr'.env = envOf r.qual r.scope L a cdv -> fr'.fenv = fr'.env -> Sim B n fr' fr'.own FR (execs r.body fr'.env) m) : qQ B (n + 1) a (qq xs d m) := by
 unfold Xm at hc
 simp only [Bool.and_eq_true, Bool.not_eq_true'] at hc
 exact csim_def b hf (wp hc.1.1.1.1) (Xh hc.1.1.1.2) (isFun_ hc.1.1.2) hc.1.2 hc.2 hn hb hm
theorem jc {c : Cls} {fI : Addr} {r : qW} {dV : Value} {xs : List Str} {d : Option V} {dc : Value} {rows : List (Str × M V)} (fz : Bool) (b : B.Ok) (k : zJ B.K) (hc : c ≠ .error) (hi : iT.lookup c = some fI) (hf : k6 B.K fI r dV) (hk : Xm r (nm 0 :: xs) = true) (hn : (nm 0 :: xs).Nodup)
  (hb : ∀ a, z0 B.K r dV xs d dc [.ref a] [nm 0]) (hm : ∀ L cdv fr', fr'.env = envOf r.qual r.scope L fI cdv -> fr'.fenv = fr'.env -> yE B n fr' (nm 0) r.body rows) (hr : rows.map (·.1) = zM c) : qQ B (n + 1) (cA c) (vt xs d rows (if fz then kH c else yh c)) := by
 unfold Xm at hk
 simp only [Bool.and_eq_true, Bool.not_eq_true'] at hk
 have hl := Xh hk.1.1.1.2
 exact csim_cls fz b hc (k.ci c fI hi).1 (k.ci c fI hi).2 hf (wp hk.1.1.1.1) (hl _ List.mem_cons_self) (fun x hx => hl x (List.mem_cons_of_mem _ hx)) (isFun_ hk.1.1.2) hk.1.2 hk.2 (nd_ 0) hn hb hm hr
theorem Cx.comp (x : Cx B n c fr) {scope : PySem.Scope} {C : Addr} (hk : scope.kind = .function) : Cx B n c (fr.comp scope C) := ⟨x.k, x.b, x.h, frG_comp x.g hk⟩
theorem Cx.l (x : Cx B n c fr) (i : Nat) {pos : Pos} (h : Nat.blt i 204 = true) : Sim B n fr ow VR (eval (.Name (nm i) pos) fr.env) (qD (nm i)) := XQ x.g.kind (nd_ i h)
theorem Cx.gint (x : Cx B n c fr) (i : Nat) {v : Int} {p : Pos} (hx : fr.env.kindOf (nm i) = some .globalImplicit := by kernel_rfl) (hv : (i = 113 /\ v = 1) \/ (i = 122 /\ v = 3) \/ i = 42 /\ v = 9 := by decide) : Sim B n fr ow VR (eval (.Name (nm i) p) fr.env) (pure (.int v)) := by
 refine ⟨?_⟩
 intro A G st s o inv Q E h
 have : ∃ t, nsIn B.K mainGlobals (nm i) = some (some (.int v t)) := by
  rcases hv with ⟨rfl, rfl⟩ | ⟨rfl, rfl⟩ | ⟨rfl, rfl⟩
  ·exact x.k.gi.1
  ·exact x.k.gi.2.1
  ·exact x.k.gi.2.2
 obtain ⟨t, e⟩ := this
 exact wd x.b x.g inv hx e (nd_ i (by rcases hv with ⟨rfl, _⟩ | ⟨rfl, _⟩ | ⟨rfl, _⟩ <;> rfl)) (h.ok inv ⟨_, rfl⟩)
theorem Cx.call (x : Cx B n c fr) (i : Nat) {f : Fn} {y : PySem.Expr} {ys : List PySem.Expr} {p pos : Pos} {ms : List (M V)} (hargs : Sim B n fr ow VRs (spliced (backTo pos (starEach (y :: ys) fr.env))) (qa ms)) (hx : fr.env.kindOf (nm i) = some .globalImplicit := by kernel_rfl) (ht : gT.lookup i = some (aFn f) := by kernel_rfl) (h1 : starEach (y :: ys) fr.env = (false, eval y fr.env) :: starEach ys fr.env := by rfl) (h2 : ((backTo pos (starEach ys fr.env)).any fun z => z.1) = false := by rfl) :
  Sim B n fr ow VR (eval (.Call (.Name (nm i) p) (y :: ys) [] pos) fr.env) (qa ms >>= c f) := sim_call x.b x.g (x.h f) hx (x.k.gl i _ ht).1 (x.k.gl i _ ht).2 hargs (nd_ i (gT_lt ht)) h1 h2
theorem Cx.call0 (x : Cx B n c fr) (i : Nat) {f : Fn} {p pos : Pos} (hx : fr.env.kindOf (nm i) = some .globalImplicit := by kernel_rfl) (ht : gT.lookup i = some (aFn f) := by kernel_rfl) :
  Sim B n fr ow VR (eval (.Call (.Name (nm i) p) [] [] pos) fr.env) (c f []) := sim_call0 x.b x.g (x.h f) hx (x.k.gl i _ ht).1 (x.k.gl i _ ht).2 (nd_ i (gT_lt ht))
structure MtOk (B : Bs) (n : Nat) (c : Cls) (f : Addr) (g : List V -> M V) (name : Str) : Prop where
 h : qQ B n f g
 e : c ≠ .error
 f : findIn B.K (.ref (cA c)) name = some (some (.ref f)) /\ typeIn B.K (.ref f) = some (.type "function") /\ keepIn B.K (.ref f) = true
 n : name ∉ zM c
theorem mT_ok : (mT.all fun q => decide (q.1 ≠ .error) && decide (Str.ofString q.2.2 ∉ zM q.1)) = true := by decide +kernel
theorem Cx.m (x : Cx B n c fr) (i : Nat) {cl : Cls} {f : Fn} {s : String} (h : mT[i]? = some (cl, f, s)) : MtOk B n cl (aFn f) (c f) (Str.ofString s) := by
 have := mT_ok
 rw [List.all_eq_true] at this
 have := this _ (List.mem_of_getElem? h)
 rw [Bool.and_eq_true] at this
 exact ⟨x.h f, of_decide_eq_true this.1, x.k.mt i _ _ _ h, of_decide_eq_true this.2⟩
theorem qt {pl : Sem Bool} {c : Cls} {f : Addr} {g : List V -> M V} {x y : PySem.Expr} {ys : List PySem.Expr} {name : Str} {apos pos : Pos} {m : M V} {ms : List (M V)} (b : B.Ok) (o : MtOk B n c f g name) (h1 : Sim B n fr ow VR (eval x fr.env) m) (hargs : Sim B n fr ow VRs (spliced (backTo pos (starEach (y :: ys) fr.env))) (qa ms))
  (he : starEach (y :: ys) fr.env = (false, eval y fr.env) :: starEach ys fr.env := by rfl) (hp : ((backTo pos (starEach ys fr.env)).any fun z => z.1) = false := by rfl) (hm : eval (.Call (.Attribute x name apos) (y :: ys) [] pos) fr.env = (do
   let ov <- eval x fr.env
   standAt apos.atName
   let (f, first) <- holding [ov] (getMethod ov name pl)
   callWith pos f first (backTo pos (starEach (y :: ys) fr.env)) []) := by rfl) : Sim B n fr ow VR (eval (.Call (.Attribute x name apos) (y :: ys) [] pos) fr.env) (ql c m ms g) :=
 sim_meth b o.h o.e o.f.1 o.f.2.1 o.n o.f.2.2 h1 hargs he hp hm
theorem qZ {pl : Sem Bool} {c : Cls} {f : Addr} {g : List V -> M V} {x : PySem.Expr} {name : Str} {apos pos : Pos} {m : M V} (b : B.Ok) (o : MtOk B n c f g name) (h1 : Sim B n fr ow VR (eval x fr.env) m) (hm : eval (.Call (.Attribute x name apos) [] [] pos) fr.env = (do
   let ov <- eval x fr.env
   standAt apos.atName
   let (f, first) <- holding [ov] (getMethod ov name pl)
   callWith pos f first (backTo pos (starEach [] fr.env)) []) := by rfl) : Sim B n fr ow VR (eval (.Call (.Attribute x name apos) [] [] pos) fr.env) (ql c m [] g) :=
 sim_meth0 b o.h o.e o.f.1 o.f.2.1 o.n o.f.2.2 h1 hm
section
variable {y : PySem.Expr} {p pos : Pos} {m : M V}
theorem Cx.len (x : Cx B n c fr) (h1 : Sim B n fr ow VR (eval y fr.env) m) (he : starEach [y] fr.env = [(false, eval y fr.env)] := by rfl) (hx : fr.env.kindOf (nm 29) = some .globalImplicit := by kernel_rfl) : Sim B n fr ow VR (eval (.Call (.Name (nm 29) p) [y] [] pos) fr.env) (m >>= wE) :=
 JR x.b x.g sim_len hx (x.k.gb 29 rfl) (by decide +kernel) h1 (ne_ 29) (nd_ 29) he
theorem Cx.abs (x : Cx B n c fr) (h1 : Sim B n fr ow VR (eval y fr.env) m) (he : starEach [y] fr.env = [(false, eval y fr.env)] := by rfl) (hx : fr.env.kindOf (nm 132) = some .globalImplicit := by kernel_rfl) : Sim B n fr ow VR (eval (.Call (.Name (nm 132) p) [y] [] pos) fr.env) (m >>= pAbs) :=
 JR x.b x.g sim_abs hx (x.k.gb 132 rfl) (by decide +kernel) h1 (ne_ 132) (nd_ 132) he
theorem Cx.int (x : Cx B n c fr) (h1 : Sim B n fr ow VR (eval y fr.env) m) (he : starEach [y] fr.env = [(false, eval y fr.env)] := by rfl) (hx : fr.env.kindOf (nm 130) = some .globalImplicit := by kernel_rfl) : Sim B n fr ow VR (eval (.Call (.Name (nm 130) p) [y] [] pos) fr.env) (m >>= pInt) :=
 JP x.b x.g sim_int1 hx (x.k.gb 130 rfl) (by decide +kernel) h1 (ne_ 130) (nd_ 130) he
theorem Cx.list (x : Cx B n c fr) (h1 : Sim B n fr ow VR (eval y fr.env) m) (he : starEach [y] fr.env = [(false, eval y fr.env)] := by rfl) (hx : fr.env.kindOf (nm 20) = some .globalImplicit := by kernel_rfl) : Sim B n fr ow VR (eval (.Call (.Name (nm 20) p) [y] [] pos) fr.env) (m >>= ko) :=
 JP x.b x.g sim_list1 hx (x.k.gb 20 rfl) (by decide +kernel) h1 (ne_ 20) (nd_ 20) he
theorem Cx.max (x : Cx B n c fr) {z : PySem.Expr} {m2 : M V} (hargs : Sim B n fr ow VRs (spliced (backTo pos (starEach [y, z] fr.env))) (qa [m, m2])) (he : starEach [y, z] fr.env = (false, eval y fr.env) :: starEach [z] fr.env := by rfl) (hp : ((backTo pos (starEach [z] fr.env)).any fun z => z.1) = false := by rfl) (hx : fr.env.kindOf (nm 168) = some .globalImplicit := by kernel_rfl) : Sim B n fr ow VR (eval (.Call (.Name (nm 168) p) [y, z] [] pos) fr.env) (m >>= fun a => m2 >>= fun b => Kl a b) :=
 sim_max x.b x.g hx (x.k.gb 168 rfl) (by decide +kernel) hargs (ne_ 168) (nd_ 168) he hp
theorem Cx.isVec (x : Cx B n c fr) {p2 : Pos} (h1 : Sim B n fr ow VR (eval y fr.env) m) (he : starEach [y, .Name (nm 21) p2] fr.env = [(false, eval y fr.env), (false, eval (.Name (nm 21) p2) fr.env)] := by rfl) (hx : fr.env.kindOf (nm 32) = some .globalImplicit := by kernel_rfl) (hx2 : fr.env.kindOf (nm 21) = some .globalImplicit := by kernel_rfl) : Sim B n fr ow VR (eval (.Call (.Name (nm 32) p) [y, .Name (nm 21) p2] [] pos) fr.env) (m >>= QP) :=
 sim_isVec x.b x.k.ki x.g hx (x.k.gb 32 rfl) (by decide +kernel) hx2 (x.k.gl 21 _ rfl).1 h1 (ne_ 32) (nd_ 32) (nd_ 21) he
theorem Cx.let (x : Cx B n c fr) (i : Nat) (h1 : Sim B n fr fr.own VR (eval y fr.env) m) (hk : fr.env.kindOf (nm i) = some .local := by kernel_rfl) (hs : swapsWith y (some (.Name (nm i) p)) pos.line fr.env = pure false := by with_unfolding_all rfl) : Sim B n fr fr.own FR (exec (.Assign [.Name (nm i) p] y pos) fr.env) (qy (nm i) m) :=
 XS x.g.toFrOk h1 (.inl hk) hs
end
theorem Cx.raise (x : Cx B (n + 1) c fr) {ke pe : PySem.Expr} {np cpos pos : Pos} {k p : M V} (h1 : Sim B (n + 1) fr ow VR (eval ke fr.env) k) (h2 : Sim B (n + 1) fr ow VR (eval pe fr.env) p) (he1 : starEach [ke, pe] fr.env = (false, eval ke fr.env) :: starEach [pe] fr.env := by rfl) (he2 : starEach [pe] fr.env = [(false, eval pe fr.env)] := by rfl) (hx : fr.env.kindOf (nm 95) = some .globalImplicit := by kernel_rfl) :
  Sim B (n + 1) fr ow FR (exec (.Raise (some (.Call (.Name (nm 95) np) [ke, pe] [] cpos)) none pos) fr.env) (xN k p) := sim_raise x.b x.k.kex (x.k.gl 95 _ rfl).2 x.g hx (x.k.gl 95 _ rfl).1 h1 h2 (nd_ 95) he1 he2
end
theorem K4 {α : Type} {Q : List α -> Prop} (h : Q []) (cs : List α) (e : cs.length = 0) : Q cs := by
 cases cs with
 | nil => exact h
 | cons a cs => cases e
theorem Qj {α : Type} {n : Nat} {Q : List α -> Prop} (h : ∀ (a : α) (cs : List α), cs.length = n -> Q (a :: cs)) (cs : List α) (e : cs.length = n + 1) : Q cs := by
 cases cs with
 | nil => cases e
 | cons a cs => exact h a cs (Nat.succ.inj e)
theorem Z3 {α : Type} {Q : List α -> Prop} (h : ∀ a, Q [a]) (cs : List α) (e : cs.length = 1) : Q cs := Qj (fun a => K4 (h a)) cs e
theorem Qk {α : Type} {Q : List α -> Prop} (h : ∀ a b, Q [a, b]) (cs : List α) (e : cs.length = 2) : Q cs := Qj (fun a => Z3 (h a)) cs e
theorem Z2 {α : Type} {Q : List α -> Prop} (h : ∀ a b c, Q [a, b, c]) (cs : List α) (e : cs.length = 3) : Q cs := Qj (fun a => Qk (h a)) cs e
theorem Z1 {α : Type} {Q : List α -> Prop} (h : ∀ a b c d, Q [a, b, c, d]) (cs : List α) (e : cs.length = 4) : Q cs := Qj (fun a => Z2 (h a)) cs e
theorem cases5 {α : Type} {Q : List α -> Prop} (h : ∀ a b c d f, Q [a, b, c, d, f]) (cs : List α) (e : cs.length = 5) : Q cs := Qj (fun a => Z1 (h a)) cs e
noncomputable def Jq (fd : FuncData) (vals : List Value) : { k : Option (Array Value) -> Sem (List (Str × Value)) // bindArgs fd ⟨vals, []⟩ = seqItems? fd.defaults >>= k } := ⟨_, rfl⟩
theorem Qp {K : Frag} {r : qW} {dV : Value}  (h : ∀ (kV doc pm : Value) (an : Option Addr) (cdv ct : Value), bindArgs (fnOf r.name r.qual r.params r.body r.scope dV kV doc pm an cdv ct) ⟨[], []⟩ = (pure [] : Sem (List (Str × Value)))) : z0 K r dV [] none .none ([] : List Value) ([] : List Str) :=
 ⟨fun s cs kV doc pm an cdv ct _ hl => K4 (Q := fun cs : List Value => BindsTo s (fnOf r.name r.qual r.params r.body r.scope dV kV doc pm an cdv ct) ⟨([] : List Value) ++ cs, []⟩ (([] : List Str).zip ([] : List Value) ++ ([] : List Str).zip cs)) ( BindsTo.of_eq (h  kV doc pm an cdv ct)) cs hl, fun v e => by cases e⟩
theorem KH {K : Frag} {r : qW} {dV : Value}  {y : Str} {x : Addr} (h : ∀ (kV doc pm : Value) (an : Option Addr) (cdv ct : Value), bindArgs (fnOf r.name r.qual r.params r.body r.scope dV kV doc pm an cdv ct) ⟨[.ref x], []⟩ = (pure [(y, .ref x)] : Sem (List (Str × Value)))) : z0 K r dV [] none .none ([.ref x] : List Value) ([y] : List Str) :=
 ⟨fun s cs kV doc pm an cdv ct _ hl => K4 (Q := fun cs : List Value => BindsTo s (fnOf r.name r.qual r.params r.body r.scope dV kV doc pm an cdv ct) ⟨([.ref x] : List Value) ++ cs, []⟩ (([y] : List Str).zip ([.ref x] : List Value) ++ ([] : List Str).zip cs)) ( BindsTo.of_eq (h  kV doc pm an cdv ct)) cs hl, fun v e => by cases e⟩
theorem zI {K : Frag} {r : qW} {dV : Value} {x0 : Str} (h : ∀ (a0 : Value) (kV doc pm : Value) (an : Option Addr) (cdv ct : Value), bindArgs (fnOf r.name r.qual r.params r.body r.scope dV kV doc pm an cdv ct) ⟨[a0], []⟩ = (pure [(x0, a0)] : Sem (List (Str × Value)))) : z0 K r dV [x0] none .none ([] : List Value) ([] : List Str) :=
 ⟨fun s cs kV doc pm an cdv ct _ hl => Z3 (Q := fun cs : List Value => BindsTo s (fnOf r.name r.qual r.params r.body r.scope dV kV doc pm an cdv ct) ⟨([] : List Value) ++ cs, []⟩ (([] : List Str).zip ([] : List Value) ++ ([x0] : List Str).zip cs)) (fun a0 => BindsTo.of_eq (h a0 kV doc pm an cdv ct)) cs hl, fun v e => by cases e⟩
theorem Qq {K : Frag} {r : qW} {dV : Value} {x0 : Str} {y : Str} {x : Addr} (h : ∀ (a0 : Value) (kV doc pm : Value) (an : Option Addr) (cdv ct : Value), bindArgs (fnOf r.name r.qual r.params r.body r.scope dV kV doc pm an cdv ct) ⟨[.ref x, a0], []⟩ = (pure [(y, .ref x), (x0, a0)] : Sem (List (Str × Value)))) : z0 K r dV [x0] none .none ([.ref x] : List Value) ([y] : List Str) :=
 ⟨fun s cs kV doc pm an cdv ct _ hl => Z3 (Q := fun cs : List Value => BindsTo s (fnOf r.name r.qual r.params r.body r.scope dV kV doc pm an cdv ct) ⟨([.ref x] : List Value) ++ cs, []⟩ (([y] : List Str).zip ([.ref x] : List Value) ++ ([x0] : List Str).zip cs)) (fun a0 => BindsTo.of_eq (h a0 kV doc pm an cdv ct)) cs hl, fun v e => by cases e⟩
theorem jO {K : Frag} {r : qW} {dV : Value} {x0 x1 : Str} (h : ∀ (a0 a1 : Value) (kV doc pm : Value) (an : Option Addr) (cdv ct : Value), bindArgs (fnOf r.name r.qual r.params r.body r.scope dV kV doc pm an cdv ct) ⟨[a0, a1], []⟩ = (pure [(x0, a0), (x1, a1)] : Sem (List (Str × Value)))) : z0 K r dV [x0, x1] none .none ([] : List Value) ([] : List Str) :=
 ⟨fun s cs kV doc pm an cdv ct _ hl => Qk (Q := fun cs : List Value => BindsTo s (fnOf r.name r.qual r.params r.body r.scope dV kV doc pm an cdv ct) ⟨([] : List Value) ++ cs, []⟩ (([] : List Str).zip ([] : List Value) ++ ([x0, x1] : List Str).zip cs)) (fun a0 a1 => BindsTo.of_eq (h a0 a1 kV doc pm an cdv ct)) cs hl, fun v e => by cases e⟩
theorem bindOkC2 {K : Frag} {r : qW} {dV : Value} {x0 x1 : Str} {y : Str} {x : Addr} (h : ∀ (a0 a1 : Value) (kV doc pm : Value) (an : Option Addr) (cdv ct : Value), bindArgs (fnOf r.name r.qual r.params r.body r.scope dV kV doc pm an cdv ct) ⟨[.ref x, a0, a1], []⟩ = (pure [(y, .ref x), (x0, a0), (x1, a1)] : Sem (List (Str × Value)))) : z0 K r dV [x0, x1] none .none ([.ref x] : List Value) ([y] : List Str) :=
 ⟨fun s cs kV doc pm an cdv ct _ hl => Qk (Q := fun cs : List Value => BindsTo s (fnOf r.name r.qual r.params r.body r.scope dV kV doc pm an cdv ct) ⟨([.ref x] : List Value) ++ cs, []⟩ (([y] : List Str).zip ([.ref x] : List Value) ++ ([x0, x1] : List Str).zip cs)) (fun a0 a1 => BindsTo.of_eq (h a0 a1 kV doc pm an cdv ct)) cs hl, fun v e => by cases e⟩
theorem KG {K : Frag} {r : qW} {dc : Value} {v : V} {T : Addr} {oT : Obj} {nT : Nat} {x0 x1 : Str} (hT : K.lookup T = some oT) (hs : oT.data = .seq #[dc] nT) (hv : ∀ G, VR G v dc) (h : ∀ (a0 a1 : Value) (kV doc pm : Value) (an : Option Addr) (cdv ct : Value), (Jq (fnOf r.name r.qual r.params r.body r.scope (.ref T) kV doc pm an cdv ct) [a0, a1]).1 (some #[dc]) = (pure [(x0, a0), (x1, a1)] : Sem (List (Str × Value)))) (h2 : ∀ (a0 : Value) (kV doc pm : Value) (an : Option Addr) (cdv ct : Value), (Jq (fnOf r.name r.qual r.params r.body r.scope (.ref T) kV doc pm an cdv ct) [a0]).1 (some #[dc]) = (pure [(x0, a0), (x1, dc)] : Sem (List (Str × Value)))) : z0 K r (.ref T) [x0, x1] (some v) dc ([] : List Value) ([] : List Str) :=
 ⟨fun s cs kV doc pm an cdv ct hK hl => Qk (Q := fun cs : List Value => BindsTo s (fnOf r.name r.qual r.params r.body r.scope (.ref T) kV doc pm an cdv ct) ⟨([] : List Value) ++ cs, []⟩ (([] : List Str).zip ([] : List Value) ++ ([x0, x1] : List Str).zip cs)) (fun a0 a1 => show BindsTo s (fnOf r.name r.qual r.params r.body r.scope (.ref T) kV doc pm an cdv ct) ⟨[a0, a1], []⟩ [(x0, a0), (x1, a1)] from BindsTo.of_defaults rfl (hK _ _ hT) hs (Jq (fnOf r.name r.qual r.params r.body r.scope (.ref T) kV doc pm an cdv ct) [a0, a1]).2 (h a0 a1 kV doc pm an cdv ct)) cs hl, fun v e => by cases e; exact ⟨hv, fun s cs kV doc pm an cdv ct hK hl => Z3 (Q := fun cs : List Value => BindsTo s (fnOf r.name r.qual r.params r.body r.scope (.ref T) kV doc pm an cdv ct) ⟨([] : List Value) ++ cs, []⟩ (([] : List Str).zip ([] : List Value) ++ ([x0, x1] : List Str).zip (cs ++ [dc]))) (fun a0 => show BindsTo s (fnOf r.name r.qual r.params r.body r.scope (.ref T) kV doc pm an cdv ct) ⟨[a0], []⟩ [(x0, a0), (x1, dc)] from BindsTo.of_defaults rfl (hK _ _ hT) hs (Jq (fnOf r.name r.qual r.params r.body r.scope (.ref T) kV doc pm an cdv ct) [a0]).2 (h2 a0 kV doc pm an cdv ct)) cs (Nat.succ.inj hl)⟩⟩
theorem j7 {K : Frag} {r : qW} {dV : Value} {x0 x1 x2 : Str} (h : ∀ (a0 a1 a2 : Value) (kV doc pm : Value) (an : Option Addr) (cdv ct : Value), bindArgs (fnOf r.name r.qual r.params r.body r.scope dV kV doc pm an cdv ct) ⟨[a0, a1, a2], []⟩ = (pure [(x0, a0), (x1, a1), (x2, a2)] : Sem (List (Str × Value)))) : z0 K r dV [x0, x1, x2] none .none ([] : List Value) ([] : List Str) :=
 ⟨fun s cs kV doc pm an cdv ct _ hl => Z2 (Q := fun cs : List Value => BindsTo s (fnOf r.name r.qual r.params r.body r.scope dV kV doc pm an cdv ct) ⟨([] : List Value) ++ cs, []⟩ (([] : List Str).zip ([] : List Value) ++ ([x0, x1, x2] : List Str).zip cs)) (fun a0 a1 a2 => BindsTo.of_eq (h a0 a1 a2 kV doc pm an cdv ct)) cs hl, fun v e => by cases e⟩
theorem bindOkC3 {K : Frag} {r : qW} {dV : Value} {x0 x1 x2 : Str} {y : Str} {x : Addr} (h : ∀ (a0 a1 a2 : Value) (kV doc pm : Value) (an : Option Addr) (cdv ct : Value), bindArgs (fnOf r.name r.qual r.params r.body r.scope dV kV doc pm an cdv ct) ⟨[.ref x, a0, a1, a2], []⟩ = (pure [(y, .ref x), (x0, a0), (x1, a1), (x2, a2)] : Sem (List (Str × Value)))) : z0 K r dV [x0, x1, x2] none .none ([.ref x] : List Value) ([y] : List Str) :=
 ⟨fun s cs kV doc pm an cdv ct _ hl => Z2 (Q := fun cs : List Value => BindsTo s (fnOf r.name r.qual r.params r.body r.scope dV kV doc pm an cdv ct) ⟨([.ref x] : List Value) ++ cs, []⟩ (([y] : List Str).zip ([.ref x] : List Value) ++ ([x0, x1, x2] : List Str).zip cs)) (fun a0 a1 a2 => BindsTo.of_eq (h a0 a1 a2 kV doc pm an cdv ct)) cs hl, fun v e => by cases e⟩
theorem KE {K : Frag} {r : qW} {dc : Value} {v : V} {T : Addr} {oT : Obj} {nT : Nat} {x0 x1 x2 : Str} {y : Str} {x : Addr} (hT : K.lookup T = some oT) (hs : oT.data = .seq #[dc] nT) (hv : ∀ G, VR G v dc) (h : ∀ (a0 a1 a2 : Value) (kV doc pm : Value) (an : Option Addr) (cdv ct : Value), (Jq (fnOf r.name r.qual r.params r.body r.scope (.ref T) kV doc pm an cdv ct) [.ref x, a0, a1, a2]).1 (some #[dc]) = (pure [(y, .ref x), (x0, a0), (x1, a1), (x2, a2)] : Sem (List (Str × Value)))) (h2 : ∀ (a0 a1 : Value) (kV doc pm : Value) (an : Option Addr) (cdv ct : Value), (Jq (fnOf r.name r.qual r.params r.body r.scope (.ref T) kV doc pm an cdv ct) [.ref x, a0, a1]).1 (some #[dc]) = (pure [(y, .ref x), (x0, a0), (x1, a1), (x2, dc)] : Sem (List (Str × Value)))) : z0 K r (.ref T) [x0, x1, x2] (some v) dc ([.ref x] : List Value) ([y] : List Str) :=
 ⟨fun s cs kV doc pm an cdv ct hK hl => Z2 (Q := fun cs : List Value => BindsTo s (fnOf r.name r.qual r.params r.body r.scope (.ref T) kV doc pm an cdv ct) ⟨([.ref x] : List Value) ++ cs, []⟩ (([y] : List Str).zip ([.ref x] : List Value) ++ ([x0, x1, x2] : List Str).zip cs)) (fun a0 a1 a2 => show BindsTo s (fnOf r.name r.qual r.params r.body r.scope (.ref T) kV doc pm an cdv ct) ⟨[.ref x, a0, a1, a2], []⟩ [(y, .ref x), (x0, a0), (x1, a1), (x2, a2)] from BindsTo.of_defaults rfl (hK _ _ hT) hs (Jq (fnOf r.name r.qual r.params r.body r.scope (.ref T) kV doc pm an cdv ct) [.ref x, a0, a1, a2]).2 (h a0 a1 a2 kV doc pm an cdv ct)) cs hl, fun v e => by cases e; exact ⟨hv, fun s cs kV doc pm an cdv ct hK hl => Qk (Q := fun cs : List Value => BindsTo s (fnOf r.name r.qual r.params r.body r.scope (.ref T) kV doc pm an cdv ct) ⟨([.ref x] : List Value) ++ cs, []⟩ (([y] : List Str).zip ([.ref x] : List Value) ++ ([x0, x1, x2] : List Str).zip (cs ++ [dc]))) (fun a0 a1 => show BindsTo s (fnOf r.name r.qual r.params r.body r.scope (.ref T) kV doc pm an cdv ct) ⟨[.ref x, a0, a1], []⟩ [(y, .ref x), (x0, a0), (x1, a1), (x2, dc)] from BindsTo.of_defaults rfl (hK _ _ hT) hs (Jq (fnOf r.name r.qual r.params r.body r.scope (.ref T) kV doc pm an cdv ct) [.ref x, a0, a1]).2 (h2 a0 a1 kV doc pm an cdv ct)) cs (Nat.succ.inj hl)⟩⟩
theorem Qo {K : Frag} {r : qW} {dV : Value} {x0 x1 x2 x3 : Str} (h : ∀ (a0 a1 a2 a3 : Value) (kV doc pm : Value) (an : Option Addr) (cdv ct : Value), bindArgs (fnOf r.name r.qual r.params r.body r.scope dV kV doc pm an cdv ct) ⟨[a0, a1, a2, a3], []⟩ = (pure [(x0, a0), (x1, a1), (x2, a2), (x3, a3)] : Sem (List (Str × Value)))) : z0 K r dV [x0, x1, x2, x3] none .none ([] : List Value) ([] : List Str) :=
 ⟨fun s cs kV doc pm an cdv ct _ hl => Z1 (Q := fun cs : List Value => BindsTo s (fnOf r.name r.qual r.params r.body r.scope dV kV doc pm an cdv ct) ⟨([] : List Value) ++ cs, []⟩ (([] : List Str).zip ([] : List Value) ++ ([x0, x1, x2, x3] : List Str).zip cs)) (fun a0 a1 a2 a3 => BindsTo.of_eq (h a0 a1 a2 a3 kV doc pm an cdv ct)) cs hl, fun v e => by cases e⟩
theorem bindOkC4 {K : Frag} {r : qW} {dV : Value} {x0 x1 x2 x3 : Str} {y : Str} {x : Addr} (h : ∀ (a0 a1 a2 a3 : Value) (kV doc pm : Value) (an : Option Addr) (cdv ct : Value), bindArgs (fnOf r.name r.qual r.params r.body r.scope dV kV doc pm an cdv ct) ⟨[.ref x, a0, a1, a2, a3], []⟩ = (pure [(y, .ref x), (x0, a0), (x1, a1), (x2, a2), (x3, a3)] : Sem (List (Str × Value)))) : z0 K r dV [x0, x1, x2, x3] none .none ([.ref x] : List Value) ([y] : List Str) :=
 ⟨fun s cs kV doc pm an cdv ct _ hl => Z1 (Q := fun cs : List Value => BindsTo s (fnOf r.name r.qual r.params r.body r.scope dV kV doc pm an cdv ct) ⟨([.ref x] : List Value) ++ cs, []⟩ (([y] : List Str).zip ([.ref x] : List Value) ++ ([x0, x1, x2, x3] : List Str).zip cs)) (fun a0 a1 a2 a3 => BindsTo.of_eq (h a0 a1 a2 a3 kV doc pm an cdv ct)) cs hl, fun v e => by cases e⟩
theorem bindOkD5 {K : Frag} {r : qW} {dV : Value} {x0 x1 x2 x3 x4 : Str} (h : ∀ (a0 a1 a2 a3 a4 : Value) (kV doc pm : Value) (an : Option Addr) (cdv ct : Value), bindArgs (fnOf r.name r.qual r.params r.body r.scope dV kV doc pm an cdv ct) ⟨[a0, a1, a2, a3, a4], []⟩ = (pure [(x0, a0), (x1, a1), (x2, a2), (x3, a3), (x4, a4)] : Sem (List (Str × Value)))) : z0 K r dV [x0, x1, x2, x3, x4] none .none ([] : List Value) ([] : List Str) :=
 ⟨fun s cs kV doc pm an cdv ct _ hl => cases5 (Q := fun cs : List Value => BindsTo s (fnOf r.name r.qual r.params r.body r.scope dV kV doc pm an cdv ct) ⟨([] : List Value) ++ cs, []⟩ (([] : List Str).zip ([] : List Value) ++ ([x0, x1, x2, x3, x4] : List Str).zip cs)) (fun a0 a1 a2 a3 a4 => BindsTo.of_eq (h a0 a1 a2 a3 a4 kV doc pm an cdv ct)) cs hl, fun v e => by cases e⟩
theorem bindOkC5 {K : Frag} {r : qW} {dV : Value} {x0 x1 x2 x3 x4 : Str} {y : Str} {x : Addr} (h : ∀ (a0 a1 a2 a3 a4 : Value) (kV doc pm : Value) (an : Option Addr) (cdv ct : Value), bindArgs (fnOf r.name r.qual r.params r.body r.scope dV kV doc pm an cdv ct) ⟨[.ref x, a0, a1, a2, a3, a4], []⟩ = (pure [(y, .ref x), (x0, a0), (x1, a1), (x2, a2), (x3, a3), (x4, a4)] : Sem (List (Str × Value)))) : z0 K r dV [x0, x1, x2, x3, x4] none .none ([.ref x] : List Value) ([y] : List Str) :=
 ⟨fun s cs kV doc pm an cdv ct _ hl => cases5 (Q := fun cs : List Value => BindsTo s (fnOf r.name r.qual r.params r.body r.scope dV kV doc pm an cdv ct) ⟨([.ref x] : List Value) ++ cs, []⟩ (([y] : List Str).zip ([.ref x] : List Value) ++ ([x0, x1, x2, x3, x4] : List Str).zip cs)) (fun a0 a1 a2 a3 a4 => BindsTo.of_eq (h a0 a1 a2 a3 a4 kV doc pm an cdv ct)) cs hl, fun v e => by cases e⟩
variable {B : Bs} {n : Nat} {c : Fn -> List V -> M V}
theorem c_null (k : zJ B.K) (b : B.Ok) (h : ∀ f, qQ B (n + 1) (aFn f) (c f)) : qQ B (n + 2) 174 (qq [] none (b_null c)) :=
 qR (dc := .none) b (k.fn.get (i := 0) rfl) (by kernel_rfl) (by decide +kernel) (Qp (fun _ _ _ _ _ _ => by kernel_rfl))
  (Cx.fl k b h (by kernel_rfl) fun L cdv o x => (qB (qM (x.call0 17))
  qG))
theorem c_missing (k : zJ B.K) (b : B.Ok) (h : ∀ f, qQ B (n + 1) (aFn f) (c f)) : qQ B (n + 2) 181 (qq [] none (Zc c)) :=
 qR (dc := .none) b (k.fn.get (i := 1) rfl) (by kernel_rfl) (by decide +kernel) (Qp (fun _ _ _ _ _ _ => by kernel_rfl))
  (Cx.fl k b h (by kernel_rfl) fun L cdv o x => (qB (qM (x.call0 18))
  qG))
theorem c_logical (k : zJ B.K) (b : B.Ok) (h : ∀ f, qQ B (n + 1) (aFn f) (c f)) : qQ B (n + 2) 188 (qq [nm 2] none (Zd c)) :=
 qR (dc := .none) b (k.fn.get (i := 2) rfl) (by kernel_rfl) (by decide +kernel) (zI (fun _ _ _ _ _ _ _ => by kernel_rfl))
  (Cx.fl k b h (by kernel_rfl) fun L cdv o x => (qB (qM (x.call 21 (qA qE (qA (x.list (x.l 2 rfl)) qC))))
  qG))
theorem c_integer (k : zJ B.K) (b : B.Ok) (h : ∀ f, qQ B (n + 1) (aFn f) (c f)) : qQ B (n + 2) 195 (qq [nm 2] none (Zf c)) :=
 qR (dc := .none) b (k.fn.get (i := 3) rfl) (by kernel_rfl) (by decide +kernel) (zI (fun _ _ _ _ _ _ _ => by kernel_rfl))
  (Cx.fl k b h (by kernel_rfl) fun L cdv o x => (qB (qM (x.call 21 (qA qE (qA (x.list (x.l 2 rfl)) qC))))
  qG))
theorem c_double (k : zJ B.K) (b : B.Ok) (h : ∀ f, qQ B (n + 1) (aFn f) (c f)) : qQ B (n + 2) 202 (qq [nm 2] none (KL c)) :=
 qR (dc := .none) b (k.fn.get (i := 4) rfl) (by kernel_rfl) (by decide +kernel) (zI (fun _ _ _ _ _ _ _ => by kernel_rfl))
  (Cx.fl k b h (by kernel_rfl) fun L cdv o x => (qB (qM (x.call 21 (qA qE (qA (x.list (x.l 2 rfl)) qC))))
  qG))
theorem J8 (k : zJ B.K) (b : B.Ok) (h : ∀ f, qQ B (n + 1) (aFn f) (c f)) : qQ B (n + 2) 209 (qq [nm 2] none (yi c)) :=
 qR (dc := .none) b (k.fn.get (i := 5) rfl) (by kernel_rfl) (by decide +kernel) (zI (fun _ _ _ _ _ _ _ => by kernel_rfl))
  (Cx.fl k b h (by kernel_rfl) fun L cdv o x => (qB (qM (x.call 21 (qA qE (qA (x.list (x.l 2 rfl)) qC))))
  qG))
theorem c_flag (k : zJ B.K) (b : B.Ok) (h : ∀ f, qQ B (n + 1) (aFn f) (c f)) : qQ B (n + 2) 216 (qq [nm 25] none (b_flag c)) :=
 qR (dc := .none) b (k.fn.get (i := 6) rfl) (by kernel_rfl) (by decide +kernel) (zI (fun _ _ _ _ _ _ _ => by kernel_rfl))
  (Cx.fl k b h (by kernel_rfl) fun L cdv o x => (qB (qT (qJ (x.l 25 rfl) qf) (qB (qM (x.call 21 (qA qE (qA (qO (qA qf qC)) qC))))
  qG) qG)
  (qB (qM (x.call 21 (qA qE (qA (qO (qA (jx (za (x.l 25 rfl)) qH qH) qC)) qC))))
  qG)))
theorem c_text (k : zJ B.K) (b : B.Ok) (h : ∀ f, qQ B (n + 1) (aFn f) (c f)) : qQ B (n + 2) 223 (qq [nm 26] none (b_text c)) :=
 qR (dc := .none) b (k.fn.get (i := 7) rfl) (by kernel_rfl) (by decide +kernel) (zI (fun _ _ _ _ _ _ _ => by kernel_rfl))
  (Cx.fl k b h (by kernel_rfl) fun L cdv o x => (qB (qM (x.call 21 (qA qE (qA (qO (qA (x.l 26 rfl) qC)) qC))))
  qG))
theorem c_symbol (k : zJ B.K) (b : B.Ok) (h : ∀ f, qQ B (n + 1) (aFn f) (c f)) : qQ B (n + 2) 230 (qq [nm 4] none (KJ c)) :=
 qR (dc := .none) b (k.fn.get (i := 8) rfl) (by kernel_rfl) (by decide +kernel) (zI (fun _ _ _ _ _ _ _ => by kernel_rfl))
  (Cx.fl k b h (by kernel_rfl) fun L cdv o x => (qB (qM (x.call 27 (qA (x.l 4 rfl) qC)))
  qG))
theorem c_callOf (k : zJ B.K) (b : B.Ok) (h : ∀ f, qQ B (n + 1) (aFn f) (c f)) : qQ B (n + 2) 237 (qq [nm 4, nm 28] none (yB c)) :=
 qR (dc := .none) b (k.fn.get (i := 9) rfl) (by kernel_rfl) (by decide +kernel) (jO (fun _ _ _ _ _ _ _ _ => by kernel_rfl))
  (Cx.fl k b h (by kernel_rfl) fun L cdv o x => (qB (x.let 2 (qu (qO (qA (x.call 27 (qA (x.l 4 rfl) qC)) qC)) (x.list (x.l 28 rfl))))
  (qB (qM (x.call 30 (qA (x.l 2 rfl) (qA (qu (qO (qA qf qC)) (x.len (x.l 2 rfl))) qC))))
  qG)))
theorem c_share (k : zJ B.K) (b : B.Ok) (h : ∀ f, qQ B (n + 1) (aFn f) (c f)) : qQ B (n + 2) 244 (qq [nm 31] none (Xt c)) :=
 qR (dc := .none) b (k.fn.get (i := 10) rfl) (by kernel_rfl) (by decide +kernel) (zI (fun _ _ _ _ _ _ _ => by kernel_rfl))
  (Cx.fl k b h (by kernel_rfl) fun L cdv o x => (qB (qT (za (x.isVec (x.l 31 rfl))) (qB (wH x.b jA (x.l 31 rfl))
  qG) qG)
  (qB (qM (x.l 31 rfl))
  qG)))
theorem ZE (k : zJ B.K) (b : B.Ok) (h : ∀ f, qQ B (n + 1) (aFn f) (c f)) : qQ B (n + 2) 251 (qq [nm 33] none (xI c)) :=
 qR (dc := .none) b (k.fn.get (i := 11) rfl) (by kernel_rfl) (by decide +kernel) (zI (fun _ _ _ _ _ _ _ => by kernel_rfl))
  (Cx.fl k b h (by kernel_rfl) fun L cdv o x => (qB (qT (zX (qJ (qN (x.l 33 rfl) qH) qE) (fun _ => (zX (qJ (x.l 33 rfl) qE) (fun _ => jL)))) (qB (qM qH)
  qG) qG)
  (qB (qT (qJ (x.l 33 rfl) (qP (qA qE (qA qE (qA qE (qA qE (qA qE (qA qE qC)))))))) (qB (qM (x.gint 42))
  qG) qG)
  (qB (qT (qJ (x.l 33 rfl) (qP (qA qE (qA qE qC)))) (qB (qM qH)
  qG) qG)
  (qB (qT (qJ (x.l 33 rfl) (qP (qA qE (qA qE qC)))) (qB (qM qH)
  qG) qG)
  (qB (qT (qJ (x.l 33 rfl) (qP (qA qE (qA qE qC)))) (qB (qM qH)
  qG) qG)
  (qB (qT (qJ (x.l 33 rfl) (qP (qA qE (qA qE qC)))) (qB (qM qH)
  qG) qG)
  (qB (qT (qJ (x.l 33 rfl) (qP (qA qE (qA qE qC)))) (qB (qM qH)
  qG) qG)
  (qB (qT (qJ (x.l 33 rfl) (qP (qA qE (qA qE qC)))) (qB (qM qH)
  qG) qG)
  (qB (qT (zD (qJ (x.len (x.l 33 rfl)) qH) (fun _ => (zD (qJ (x.l 33 rfl) qE) (fun _ => zn)))) (qB (qM (qN (qP (qA qH (qA qH (qA qH (qA qH (qA qH qC)))))) (sim_eFind qE (x.l 33 rfl))))
  qG) qG)
  (qB (qM qH)
  qG)))))))))))
theorem ZB (k : zJ B.K) (b : B.Ok) (h : ∀ f, qQ B (n + 1) (aFn f) (c f)) : qQ B (n + 2) 258 (qq [nm 33] none (xH c)) :=
 qR (dc := .none) b (k.fn.get (i := 12) rfl) (by kernel_rfl) (by decide +kernel) (zI (fun _ _ _ _ _ _ _ => by kernel_rfl))
  (Cx.fl k b h (by kernel_rfl) fun L cdv o x => (qB (qT (qJ (x.l 33 rfl) (qP (qA qE (qA qE qC)))) (qB (qM qH)
  qG) qG)
  (qB (qT (qJ (x.l 33 rfl) qE) (qB (qM qH)
  qG) qG)
  (qB (qT (qJ (x.l 33 rfl) qE) (qB (qM qH)
  qG) qG)
  (qB (qT (qJ (x.l 33 rfl) qE) (qB (qM qH)
  qG) qG)
  (qB (qM qH)
  qG))))))
theorem Z4 (k : zJ B.K) (b : B.Ok) (h : ∀ f, qQ B (n + 1) (aFn f) (c f)) : qQ B (n + 2) 265 (qq [nm 33, nm 59] none (xy c)) :=
 qR (dc := .none) b (k.fn.get (i := 13) rfl) (by kernel_rfl) (by decide +kernel) (jO (fun _ _ _ _ _ _ _ _ => by kernel_rfl))
  (Cx.fl k b h (by kernel_rfl) fun L cdv o x => (qB (qT (zX (qJ (x.l 59 rfl) qH) (fun _ => (zX (qJ (x.l 59 rfl) qH) (fun _ => (zX (qJ (x.l 59 rfl) qH) (fun _ => jL)))))) (qB (qM (x.l 59 rfl))
  qG) qG)
  (qB (qM (qu (x.l 59 rfl) qH))
  qG)))
theorem Z9 (k : zJ B.K) (b : B.Ok) (h : ∀ f, qQ B (n + 1) (aFn f) (c f)) : qQ B (n + 2) 272 (qq [nm 60] none (x9 c)) :=
 qR (dc := .none) b (k.fn.get (i := 14) rfl) (by kernel_rfl) (by decide +kernel) (zI (fun _ _ _ _ _ _ _ => by kernel_rfl))
  (Cx.fl k b h (by kernel_rfl) fun L cdv o x => (qB (qT (zX (qJ (x.l 60 rfl) qE) (fun _ => (zX (qJ (x.l 60 rfl) qE) (fun _ => jL)))) (qB (qM (x.call 63 (qA (zi (x.l 60 rfl) qE) qC)))
  qG) qG)
  (qB (qT (qJ (x.l 60 rfl) qE) (qB (qM (x.call0 65))
  qG) qG)
  (qB (qT (qJ (x.l 60 rfl) qE) (qB (qM (x.call 19 (qA (qO (qA qf qC)) qC)))
  qG) qG)
  (qB (qT (qJ (x.l 60 rfl) qE) (qB (qM (x.call 22 (qA (qO (qA qf qC)) qC)))
  qG) qG)
  (qB (qT (qJ (x.l 60 rfl) qE) (qB (qM (x.call 23 (qA (qO (qA qf qC)) qC)))
  qG) qG)
  (qB (qT (qJ (x.l 60 rfl) qE) (qB (qM (x.call 24 (qA (qO (qA qf qC)) qC)))
  qG) qG)
  (qB (qT (qJ (x.l 60 rfl) qE) (qB (qM (x.call 23 (qA (qO (qA (qP (qA qH (qA qH qC))) qC)) qC)))
  qG) qG)
  (qB (qT (qJ (x.l 60 rfl) qE) (qB (qM (x.call 23 (qA (qO (qA (qP (qA qH (qA qH qC))) qC)) qC)))
  qG) qG)
  (qB (qM qf)
  qG))))))))))
theorem Qn (k : zJ B.K) (b : B.Ok) (h : ∀ f, qQ B (n + 1) (aFn f) (c f)) : qQ B (n + 2) 279 (qq [nm 7] none (jm c)) :=
 qR (dc := .none) b (k.fn.get (i := 15) rfl) (by kernel_rfl) (by decide +kernel) (zI (fun _ _ _ _ _ _ _ => by kernel_rfl))
  (Cx.fl k b h (by kernel_rfl) fun L cdv o x => (qB (qT (qJ (qL x.b (x.l 7 rfl)) qE) (qB (qM jA)
  qG) qG)
  (qB (x.let 73 (qN (qL x.b (x.l 7 rfl)) qH))
  (qB (qT (qJ (qL x.b (x.l 73 rfl)) qE) (qB (qM jA)
  qG) qG)
  (qB (x.let 4 (qL x.b (x.l 73 rfl)))
  (qB (qT (qJ (x.l 4 rfl) (qP (qA qE (qA qE (qA qE (qA qE (qA qE (qA qE (qA qE (qA qE (qA qE (qA qE (qA qE (qA qE (qA qE (qA qE qC)))))))))))))))) (qB (qM jA)
  qG) qG)
  (qB (qM (yo (zi (x.l 4 rfl) qE) (jW (zi (x.call 89 (qA (x.l 4 rfl) qC)) qH))))
  qG)))))))
theorem c_joined (k : zJ B.K) (b : B.Ok) (h : ∀ f, qQ B (n + 1) (aFn f) (c f)) : qQ B (n + 2) 286 (qq [nm 33, nm 91, nm 90, nm 8] none (x8 c)) :=
 qR (dc := .none) b (k.fn.get (i := 16) rfl) (by kernel_rfl) (by decide +kernel) (Qo (fun _ _ _ _ _ _ _ _ _ _ => by kernel_rfl))
  (Cx.fl k b h (by kernel_rfl) fun L cdv o x => (qB (qT (qJ (x.l 33 rfl) qE) (qB (qM (x.call 92 (qA qE (qA (qO (qA (x.l 90 rfl) (qA (x.l 91 rfl) qC))) qC))))
  qG) qG)
  (qB (qT (qJ (x.l 33 rfl) qE) (qB (qM (x.call 92 (qA qE (qA (qO (qA (x.l 90 rfl) (qA (x.l 91 rfl) qC))) qC))))
  qG) qG)
  (qB (qT (qJ (x.l 33 rfl) qE) (qB (qT (wK (za (x.call 93 (qA (x.l 90 rfl) qC)))) (qB (x.raise qE (x.l 8 rfl))
  qG) qG)
  (qB (x.let 2 (qu (qO (qA (qN (qL x.b (x.l 90 rfl)) qH) (qA (x.l 91 rfl) qC))) (wi (k := 1) (qL x.b (x.l 90 rfl)))))
  (qB (x.let 5 (qu (qO (qA qf (qA qf qC))) (wi (k := 1) (qL x.b (x.l 90 rfl)))))
  (qB (qM (x.call 30 (qA (x.l 2 rfl) (qA (x.l 5 rfl) qC))))
  qG)))) qG)
  (qB (qM (x.call 92 (qA (x.l 33 rfl) (qA (qO (qA (x.l 91 rfl) (qA (x.l 90 rfl) qC))) qC))))
  qG)))))
theorem c_peek (k : zJ B.K) (b : B.Ok) (h : ∀ f, qQ B (n + 1) (aFn f) (c f)) : qQ B (n + 2) 308 (qq [nm 0, nm 96] (some (.int 0)) (Qr c)) :=
 let ⟨_, t, _, h1, h2⟩ := k.df1
 qR (dc := .int 0 t) b (k.fn.get (i := 17) rfl) (by kernel_rfl) (by decide +kernel) (KG h1 h2 (fun _ => ⟨_, rfl⟩) (fun _ _ _ _ _ _ _ _ => by kernel_rfl) (fun _ _ _ _ _ _ _ => by kernel_rfl))
  (Cx.fl k b h (by kernel_rfl) fun L cdv o x => (qB (kZ wf rfl (qJ (x.len (qL x.b (x.l 0 rfl))) (x.l 96 rfl)) (qB (qU (zG (qL x.b (x.l 0 rfl)) (qZ x.b (x.m 19 rfl) (qL x.b (x.l 0 rfl)))))
  qG))
  (qB (qM (qN (qL x.b (x.l 0 rfl)) (x.l 96 rfl)))
  qG)))
theorem c_take (k : zJ B.K) (b : B.Ok) (h : ∀ f, qQ B (n + 1) (aFn f) (c f)) : qQ B (n + 2) 315 (qq [nm 0] none (JA c)) :=
 qR (dc := .none) b (k.fn.get (i := 18) rfl) (by kernel_rfl) (by decide +kernel) (zI (fun _ _ _ _ _ _ _ => by kernel_rfl))
  (Cx.fl k b h (by kernel_rfl) fun L cdv o x => (qB (x.let 97 (qZ x.b (x.m 0 rfl) (x.l 0 rfl)))
  (qB (wH x.b (Kd (k := 1) (qL x.b (x.l 0 rfl))) (x.l 0 rfl))
  (qB (qM (x.l 97 rfl))
  qG))))
theorem c_isOp (k : zJ B.K) (b : B.Ok) (h : ∀ f, qQ B (n + 1) (aFn f) (c f)) : qQ B (n + 2) 322 (qq [nm 0, nm 33] none (JC c)) :=
 qR (dc := .none) b (k.fn.get (i := 19) rfl) (by kernel_rfl) (by decide +kernel) (jO (fun _ _ _ _ _ _ _ _ => by kernel_rfl))
  (Cx.fl k b h (by kernel_rfl) fun L cdv o x => (qB (x.let 97 (qZ x.b (x.m 0 rfl) (x.l 0 rfl)))
  (qB (qM (wJ (zi (qL x.b (x.l 97 rfl)) qE) (jW (zi (qL x.b (x.l 97 rfl)) (x.l 33 rfl)))))
  qG)))
theorem c_isKey (k : zJ B.K) (b : B.Ok) (h : ∀ f, qQ B (n + 1) (aFn f) (c f)) : qQ B (n + 2) 329 (qq [nm 0, nm 99] none (yy c)) :=
 qR (dc := .none) b (k.fn.get (i := 20) rfl) (by kernel_rfl) (by decide +kernel) (jO (fun _ _ _ _ _ _ _ _ => by kernel_rfl))
  (Cx.fl k b h (by kernel_rfl) fun L cdv o x => (qB (x.let 97 (qZ x.b (x.m 0 rfl) (x.l 0 rfl)))
  (qB (qM (wJ (zi (qL x.b (x.l 97 rfl)) qE) (jW (zi (qL x.b (x.l 97 rfl)) (x.l 99 rfl)))))
  qG)))
theorem K8 (k : zJ B.K) (b : B.Ok) (h : ∀ f, qQ B (n + 1) (aFn f) (c f)) : qQ B (n + 2) 336 (qq [nm 0, nm 33] none (vy c)) :=
 qR (dc := .none) b (k.fn.get (i := 21) rfl) (by kernel_rfl) (by decide +kernel) (jO (fun _ _ _ _ _ _ _ _ => by kernel_rfl))
  (Cx.fl k b h (by kernel_rfl) fun L cdv o x => (qB (qT (wK (za (qt x.b (x.m 2 rfl) (x.l 0 rfl) (qA (x.l 33 rfl) qC)))) (qB (qU (qZ x.b (x.m 5 rfl) (x.l 0 rfl)))
  qG) qG)
  (qB (qM (qZ x.b (x.m 1 rfl) (x.l 0 rfl)))
  qG)))
theorem c_fail (k : zJ B.K) (b : B.Ok) (h : ∀ f, qQ B (n + 1) (aFn f) (c f)) : qQ B (n + 2) 343 (qq [nm 0] none (JD c)) :=
 qR (dc := .none) b (k.fn.get (i := 22) rfl) (by kernel_rfl) (by decide +kernel) (zI (fun _ _ _ _ _ _ _ => by kernel_rfl))
  (Cx.fl k b h (by kernel_rfl) fun L cdv o x => (qB (x.let 97 (qZ x.b (x.m 0 rfl) (x.l 0 rfl)))
  (qB (qT (qJ (qL x.b (x.l 97 rfl)) qE) (qB (x.raise qE (qL x.b (x.l 97 rfl)))
  qG) qG)
  (qB (x.raise qE (qL x.b (x.l 97 rfl)))
  qG))))
theorem c_joins (k : zJ B.K) (b : B.Ok) (h : ∀ f, qQ B (n + 1) (aFn f) (c f)) : qQ B (n + 2) 350 (qq [nm 0, nm 97] none (yx c)) :=
 qR (dc := .none) b (k.fn.get (i := 23) rfl) (by kernel_rfl) (by decide +kernel) (jO (fun _ _ _ _ _ _ _ _ => by kernel_rfl))
  (Cx.fl k b h (by kernel_rfl) fun L cdv o x => (qB (qM (yo (sim_eNot (qL x.b (x.l 97 rfl))) (jW (zi (qN (qL x.b (x.l 0 rfl)) (xZ qH)) (qP (qA qE (qA qE qC)))))))
  qG))
theorem Z8 (k : zJ B.K) (b : B.Ok) (h : ∀ f, qQ B (n + 1) (aFn f) (c f)) : qQ B (n + 2) 358 (qq [nm 0, nm 59] (some (.int 0)) (jn c)) :=
 let ⟨_, t, _, h1, h2⟩ := k.df2
 qR (dc := .int 0 t) b (k.fn.get (i := 24) rfl) (by kernel_rfl) (by decide +kernel) (KG h1 h2 (fun _ => ⟨_, rfl⟩) (fun _ _ _ _ _ _ _ _ => by kernel_rfl) (fun _ _ _ _ _ _ _ => by kernel_rfl))
  (Cx.fl k b h (by kernel_rfl) fun L cdv o x => (qB (x.let 91 (qZ x.b (x.m 9 rfl) (x.l 0 rfl)))
  (qB (kZ wf rfl (za jA) (qB (x.let 97 (qZ x.b (x.m 0 rfl) (x.l 0 rfl)))
  (qB (x.let 103 qH)
  (qB (qT (zD (qJ (qL x.b (x.l 97 rfl)) qE) (fun _ => (zD (za (qt x.b (x.m 6 rfl) (x.l 0 rfl) (qA (x.l 97 rfl) qC))) (fun _ => zn)))) (qB (x.let 103 (x.call 89 (qA (qL x.b (x.l 97 rfl)) qC)))
  qG) qG)
  (qB (qT (zX (qJ (x.l 103 rfl) qH) (fun _ => (zX (qJ (x.l 103 rfl) (x.l 59 rfl)) (fun _ => jL)))) (qB (qM (x.l 91 rfl))
  qG) qG)
  (qB (qU (qZ x.b (x.m 1 rfl) (x.l 0 rfl)))
  (qB (x.let 90 (qt x.b (x.m 7 rfl) (x.l 0 rfl) (qA (x.call 104 (qA (qL x.b (x.l 97 rfl)) (qA (x.l 103 rfl) qC))) qC)))
  (qB (x.let 91 (x.call 105 (qA (qL x.b (x.l 97 rfl)) (qA (x.l 91 rfl) (qA (x.l 90 rfl) (qA (qL x.b (x.l 97 rfl)) qC))))))
  (qB (qT (qJ (x.l 103 rfl) (x.gint 42)) (qB (qU (qZ x.b (x.m 8 rfl) (x.l 0 rfl)))
  qG) qG)
  qG)))))))))
  qG)))
theorem wW (k : zJ B.K) (b : B.Ok) (h : ∀ f, qQ B (n + 1) (aFn f) (c f)) : qQ B (n + 2) 365 (qq [nm 0] none (zj c)) :=
 qR (dc := .none) b (k.fn.get (i := 25) rfl) (by kernel_rfl) (by decide +kernel) (zI (fun _ _ _ _ _ _ _ => by kernel_rfl))
  (Cx.fl k b h (by kernel_rfl) fun L cdv o x => (qB (x.let 97 (qZ x.b (x.m 0 rfl) (x.l 0 rfl)))
  (qB (qT (zD (qJ (qL x.b (x.l 97 rfl)) qE) (fun _ => (zD (za (qt x.b (x.m 6 rfl) (x.l 0 rfl) (qA (x.l 97 rfl) qC))) (fun _ => (zD (qJ (x.call 89 (qA (qL x.b (x.l 97 rfl)) qC)) (x.gint 42)) (fun _ => zn)))))) (qB (qU (qZ x.b (x.m 5 rfl) (x.l 0 rfl)))
  qG) qG)
  qG)))
theorem c_operand (k : zJ B.K) (b : B.Ok) (h : ∀ f, qQ B (n + 1) (aFn f) (c f)) : qQ B (n + 2) 372 (qq [nm 0] none (kj c)) :=
 qR (dc := .none) b (k.fn.get (i := 26) rfl) (by kernel_rfl) (by decide +kernel) (zI (fun _ _ _ _ _ _ _ => by kernel_rfl))
  (Cx.fl k b h (by kernel_rfl) fun L cdv o x => (qB (x.let 97 (qZ x.b (x.m 0 rfl) (x.l 0 rfl)))
  (qB (qT (qJ (qL x.b (x.l 97 rfl)) qE) (qB (x.let 59 (x.call 106 (qA (qL x.b (x.l 97 rfl)) qC)))
  (qB (qT (qJ (x.l 59 rfl) qH) (qB (qU (qZ x.b (x.m 1 rfl) (x.l 0 rfl)))
  (qB (qM (x.call 92 (qA (qL x.b (x.l 97 rfl)) (qA (qO (qA (qt x.b (x.m 7 rfl) (x.l 0 rfl) (qA (x.l 59 rfl) qC)) qC)) qC))))
  qG)) qG)
  qG)) qG)
  (qB (qM (qt x.b (x.m 13 rfl) (x.l 0 rfl) (qA (qZ x.b (x.m 10 rfl) (x.l 0 rfl)) qC)))
  qG))))
theorem c_primary (k : zJ B.K) (b : B.Ok) (h : ∀ f, qQ B (n + 1) (aFn f) (c f)) : qQ B (n + 2) 379 (qq [nm 0] none (jd c)) :=
 qR (dc := .none) b (k.fn.get (i := 27) rfl) (by kernel_rfl) (by decide +kernel) (zI (fun _ _ _ _ _ _ _ => by kernel_rfl))
  (Cx.fl k b h (by kernel_rfl) fun L cdv o x => (qB (x.let 97 (qZ x.b (x.m 0 rfl) (x.l 0 rfl)))
  (qB (qT (qJ (qL x.b (x.l 97 rfl)) qE) (qB (qM (x.call 108 (qA (qL x.b (qZ x.b (x.m 1 rfl) (x.l 0 rfl))) qC)))
  qG) qG)
  (qB (qT (qJ (qL x.b (x.l 97 rfl)) qE) (qB (qM (x.call 108 (qA (x.call 110 (qA (qL x.b (qZ x.b (x.m 1 rfl) (x.l 0 rfl))) qC)) qC)))
  qG) qG)
  (qB (qT (qJ (qL x.b (x.l 97 rfl)) qE) (qB (qM (x.call 74 (qA (qL x.b (qZ x.b (x.m 1 rfl) (x.l 0 rfl))) qC)))
  qG) qG)
  (qB (qT (qJ (qL x.b (x.l 97 rfl)) qE) (qB (x.let 7 (x.call 112 (qA (qL x.b (x.l 97 rfl)) qC)))
  (qB (qT (qJ (x.l 7 rfl) qf) (qB (qU (qZ x.b (x.m 1 rfl) (x.l 0 rfl)))
  (qB (qM (x.call 108 (qA (x.l 7 rfl) qC)))
  qG)) qG)
  qG)) qG)
  (qB (qT (za (qt x.b (x.m 2 rfl) (x.l 0 rfl) (qA qE qC))) (qB (qM (qZ x.b (x.m 11 rfl) (x.l 0 rfl)))
  qG) qG)
  (qB (qM (qt x.b (x.m 12 rfl) (x.l 0 rfl) (qA (x.l 97 rfl) qC)))
  qG))))))))
theorem KA (k : zJ B.K) (b : B.Ok) (h : ∀ f, qQ B (n + 1) (aFn f) (c f)) : qQ B (n + 2) 386 (qq [nm 0] none (vG c)) :=
 qR (dc := .none) b (k.fn.get (i := 28) rfl) (by kernel_rfl) (by decide +kernel) (zI (fun _ _ _ _ _ _ _ => by kernel_rfl))
  (Cx.fl k b h (by kernel_rfl) fun L cdv o x => (qB (qU (qt x.b (x.m 4 rfl) (x.l 0 rfl) (qA qE qC)))
  (qB (qU (zG (qL x.b (x.l 0 rfl)) qE))
  (qB (x.let 7 (qt x.b (x.m 7 rfl) (x.l 0 rfl) (qA (x.gint 113) qC)))
  (qB (qU (qt x.b (x.m 4 rfl) (x.l 0 rfl) (qA qE qC)))
  (qB (qU (wI (qL x.b (x.l 0 rfl))))
  (qB (qM (x.call 92 (qA qE (qA (qO (qA (x.l 7 rfl) qC)) qC))))
  qG)))))))
theorem J7 (k : zJ B.K) (b : B.Ok) (h : ∀ f, qQ B (n + 1) (aFn f) (c f)) : qQ B (n + 2) 393 (qq [nm 0, nm 97] none (vF c)) :=
 qR (dc := .none) b (k.fn.get (i := 29) rfl) (by kernel_rfl) (by decide +kernel) (jO (fun _ _ _ _ _ _ _ _ => by kernel_rfl))
  (Cx.fl k b h (by kernel_rfl) fun L cdv o x => (qB (qU (qZ x.b (x.m 5 rfl) (x.l 0 rfl)))
  qG))
theorem K7 (k : zJ B.K) (b : B.Ok) (h : ∀ f, qQ B (n + 1) (aFn f) (c f)) : qQ B (n + 2) 400 (qq [nm 0, nm 7] none (vx c)) :=
 qR (dc := .none) b (k.fn.get (i := 30) rfl) (by kernel_rfl) (by decide +kernel) (jO (fun _ _ _ _ _ _ _ _ => by kernel_rfl))
  (Cx.fl k b h (by kernel_rfl) fun L cdv o x => (qB (kZ wf rfl (za jA) (qB (x.let 97 (qZ x.b (x.m 0 rfl) (x.l 0 rfl)))
  (qB (qT (zX (qJ (qL x.b (x.l 97 rfl)) qE) (fun _ => (zX (wK (za (qt x.b (x.m 6 rfl) (x.l 0 rfl) (qA (x.l 97 rfl) qC)))) (fun _ => jL)))) (qB (qM (x.l 7 rfl))
  qG) qG)
  (qB (qT (qJ (qL x.b (x.l 97 rfl)) qE) (qB (x.let 7 (qt x.b (x.m 14 rfl) (x.l 0 rfl) (qA (x.l 7 rfl) qC)))
  qG) (qB (qT (zX (qJ (qL x.b (x.l 97 rfl)) qE) (fun _ => (zX (qJ (qL x.b (x.l 97 rfl)) qE) (fun _ => jL)))) (qB (x.let 7 (qt x.b (x.m 15 rfl) (x.l 0 rfl) (qA (x.l 7 rfl) (qA (qL x.b (x.l 97 rfl)) qC))))
  qG) (qB (qT (zX (qJ (qL x.b (x.l 97 rfl)) qE) (fun _ => (zX (qJ (qL x.b (x.l 97 rfl)) qE) (fun _ => jL)))) (qB (qU (qZ x.b (x.m 1 rfl) (x.l 0 rfl)))
  (qB (x.let 7 (x.call 92 (qA (qL x.b (x.l 97 rfl)) (qA (qO (qA (x.l 7 rfl) (qA (qZ x.b (x.m 16 rfl) (x.l 0 rfl)) qC))) qC))))
  qG)) (qB (qM (x.l 7 rfl))
  qG))
  qG))
  qG))
  qG))))
  qG))
theorem c_callOn (k : zJ B.K) (b : B.Ok) (h : ∀ f, qQ B (n + 1) (aFn f) (c f)) : qQ B (n + 2) 407 (qq [nm 0, nm 7] none (yA c)) :=
 qR (dc := .none) b (k.fn.get (i := 31) rfl) (by kernel_rfl) (by decide +kernel) (jO (fun _ _ _ _ _ _ _ _ => by kernel_rfl))
  (Cx.fl k b h (by kernel_rfl) fun L cdv o x => (qB (qU (qt x.b (x.m 4 rfl) (x.l 0 rfl) (qA qE qC)))
  (qB (jV x.g.toFrOk (.cons (by kernel_rfl) (.cons (by kernel_rfl) TN.nil)) (qt x.b (x.m 17 rfl) (x.l 0 rfl) (qA qE (qA qE qC))))
  (qB (qU (qt x.b (x.m 4 rfl) (x.l 0 rfl) (qA qE qC)))
  (qB (qT (zD (qJ (x.len (x.l 2 rfl)) qH) (fun _ => (zD (qJ (qL x.b (qN (x.l 2 rfl) qH)) qE) (fun _ => (zD (qJ (qN (x.l 5 rfl) qH) qf) (fun _ => zn)))))) (qB (x.let 2 (qO qC))
  (qB (x.let 5 (qO qC))
  qG)) qG)
  (qB (qT (zD (qJ (qL x.b (x.l 7 rfl)) qE) (fun _ => (zD (qJ (qN (qL x.b (x.l 7 rfl)) qH) qf) (fun _ => zn)))) (qB (x.let 7 (x.call 74 (qA (qN (qL x.b (x.l 7 rfl)) qH) qC)))
  qG) qG)
  (qB (qM (x.call 30 (qA (qu (qO (qA (x.l 7 rfl) qC)) (x.l 2 rfl)) (qA (qu (qO (qA qf qC)) (x.l 5 rfl)) qC))))
  qG)))))))
theorem c_indexOn (k : zJ B.K) (b : B.Ok) (h : ∀ f, qQ B (n + 1) (aFn f) (c f)) : qQ B (n + 2) 414 (qq [nm 0, nm 7, nm 33] none (ww c)) :=
 qR (dc := .none) b (k.fn.get (i := 32) rfl) (by kernel_rfl) (by decide +kernel) (j7 (fun _ _ _ _ _ _ _ _ _ => by kernel_rfl))
  (Cx.fl k b h (by kernel_rfl) fun L cdv o x => (qB (qU (qt x.b (x.m 4 rfl) (x.l 0 rfl) (qA (x.l 33 rfl) qC)))
  (qB (jV x.g.toFrOk (.cons (by kernel_rfl) (.cons (by kernel_rfl) TN.nil)) (qt x.b (x.m 17 rfl) (x.l 0 rfl) (qA qE (qA qE qC))))
  (qB (qU (qt x.b (x.m 4 rfl) (x.l 0 rfl) (qA qE qC)))
  (qB (qT (qJ (x.l 33 rfl) qE) (qB (qU (qt x.b (x.m 4 rfl) (x.l 0 rfl) (qA qE qC)))
  qG) qG)
  (qB (qM (x.call 30 (qA (qu (qO (qA (x.call 74 (qA (x.l 33 rfl) qC)) (qA (x.l 7 rfl) qC))) (x.l 2 rfl)) (qA (qu (qO (qA qf (qA qf qC))) (x.l 5 rfl)) qC))))
  qG))))))
theorem c_member (k : zJ B.K) (b : B.Ok) (h : ∀ f, qQ B (n + 1) (aFn f) (c f)) : qQ B (n + 2) 421 (qq [nm 0] none (j8 c)) :=
 qR (dc := .none) b (k.fn.get (i := 33) rfl) (by kernel_rfl) (by decide +kernel) (zI (fun _ _ _ _ _ _ _ => by kernel_rfl))
  (Cx.fl k b h (by kernel_rfl) fun L cdv o x => (qB (x.let 97 (qZ x.b (x.m 0 rfl) (x.l 0 rfl)))
  (qB (qT (qJ (qL x.b (x.l 97 rfl)) qE) (qB (qM (x.call 74 (qA (qL x.b (qZ x.b (x.m 1 rfl) (x.l 0 rfl))) qC)))
  qG) qG)
  (qB (qT (qJ (qL x.b (x.l 97 rfl)) qE) (qB (qM (x.call 108 (qA (x.call 110 (qA (qL x.b (qZ x.b (x.m 1 rfl) (x.l 0 rfl))) qC)) qC)))
  qG) qG)
  (qB (qM (qZ x.b (x.m 11 rfl) (x.l 0 rfl)))
  qG)))))
theorem KB (k : zJ B.K) (b : B.Ok) (h : ∀ f, qQ B (n + 1) (aFn f) (c f)) : qQ B (n + 2) 428 (qq [nm 0, nm 120, nm 117] none (vH c)) :=
 qR (dc := .none) b (k.fn.get (i := 34) rfl) (by kernel_rfl) (by decide +kernel) (j7 (fun _ _ _ _ _ _ _ _ _ => by kernel_rfl))
  (Cx.fl k b h (by kernel_rfl) fun L cdv o x => (qB (qU (zG (qL x.b (x.l 0 rfl)) (x.l 117 rfl)))
  (qB (x.let 2 (zm qC))
  (qB (x.let 5 (zm qC))
  (qB (x.let 118 jA)
  (qB (kZ wf rfl (za (x.l 118 rfl)) (qB (x.let 119 (qZ x.b (x.m 18 rfl) (x.l 0 rfl)))
  (qB (qU (zG (x.l 5 rfl) (x.l 119 rfl)))
  (qB (qT (zX (za (qt x.b (x.m 2 rfl) (x.l 0 rfl) (qA qE qC))) (fun _ => (zX (za (qt x.b (x.m 2 rfl) (x.l 0 rfl) (qA (x.l 120 rfl) qC))) (fun _ => jL)))) (qB (qU (zG (x.l 2 rfl) (x.call0 115)))
  qG) (qB (qU (zG (x.l 2 rfl) (qt x.b (x.m 7 rfl) (x.l 0 rfl) (qA (x.gint 122) qC))))
  qG))
  (qB (x.let 118 (qt x.b (x.m 2 rfl) (x.l 0 rfl) (qA qE qC)))
  (qB (qT (za (x.l 118 rfl)) (qB (qU (qZ x.b (x.m 1 rfl) (x.l 0 rfl)))
  qG) qG)
  qG))))))
  (qB (qT (wK (za (qt x.b (x.m 2 rfl) (x.l 0 rfl) (qA (x.l 120 rfl) qC)))) (qB (qU (qZ x.b (x.m 5 rfl) (x.l 0 rfl)))
  qG) qG)
  (qB (qU (wI (qL x.b (x.l 0 rfl))))
  (qB (qM (qP (qA (x.l 2 rfl) (qA (x.l 5 rfl) qC))))
  qG)))))))))
theorem ZF (k : zJ B.K) (b : B.Ok) (h : ∀ f, qQ B (n + 1) (aFn f) (c f)) : qQ B (n + 2) 435 (qq [nm 0] none (zx c)) :=
 qR (dc := .none) b (k.fn.get (i := 35) rfl) (by kernel_rfl) (by decide +kernel) (zI (fun _ _ _ _ _ _ _ => by kernel_rfl))
  (Cx.fl k b h (by kernel_rfl) fun L cdv o x => (qB (x.let 97 (qZ x.b (x.m 0 rfl) (x.l 0 rfl)))
  (qB (x.let 123 (yo (zi (qL x.b (x.l 97 rfl)) qE) (yo (zi (qL x.b (x.l 97 rfl)) qE) (jW (qt x.b (x.m 3 rfl) (x.l 0 rfl) (qA qE qC))))))
  (qB (qT (wK (za (x.l 123 rfl))) (qB (qM qf)
  qG) qG)
  (qB (x.let 124 (qt x.b (x.m 0 rfl) (x.l 0 rfl) (qA qH qC)))
  (qB (qT (zX (qJ (qL x.b (x.l 124 rfl)) qE) (fun _ => (zX (qJ (qL x.b (x.l 124 rfl)) qE) (fun _ => jL)))) (qB (qM qf)
  qG) qG)
  (qB (qU (qZ x.b (x.m 1 rfl) (x.l 0 rfl)))
  (qB (qU (qZ x.b (x.m 1 rfl) (x.l 0 rfl)))
  (qB (qM (qL x.b (x.l 97 rfl)))
  qG)))))))))
theorem J4 (k : zJ B.K) (b : B.Ok) (h : ∀ f, qQ B (n + 1) (aFn f) (c f)) : qQ B (n + 2) 484 (qq [nm 0] none (vC c)) :=
 qR (dc := .none) b (k.fn.get (i := 36) rfl) (by kernel_rfl) (by decide +kernel) (zI (fun _ _ _ _ _ _ _ => by kernel_rfl))
  (Cx.fl k b h (by kernel_rfl) fun L cdv o x => (qB (qT (qJ (qL x.b (x.l 0 rfl)) (x.len (qL x.b (x.l 0 rfl)))) (qB (qM (x.call 126 (qA qE (qA qE (qA (xZ qH) (qA jA qC))))))
  qG) qG)
  (qB (x.let 97 (qN (qL x.b (x.l 0 rfl)) (qL x.b (x.l 0 rfl))))
  (qB (wH x.b (qu (qL x.b (x.l 0 rfl)) qH) (x.l 0 rfl))
  (qB (qM (x.l 97 rfl))
  qG)))))
theorem c_lawPool (k : zJ B.K) (b : B.Ok) (h : ∀ f, qQ B (n + 1) (aFn f) (c f)) : qQ B (n + 2) 498 (qq [nm 135] none (wr c)) :=
 qR (dc := .none) b (k.fn.get (i := 37) rfl) (by kernel_rfl) (by decide +kernel) (zI (fun _ _ _ _ _ _ _ => by kernel_rfl))
  (Cx.fl k b h (by kernel_rfl) fun L cdv o x => (qB (x.let 127 (zm qC))
  (qB (x.let 128 qH)
  (qB (sim_forL x.g rfl (by kernel_rfl) (ZL (k := 40) (x.l 135 rfl)) (qB (x.let 131 (x.int (x.l 129 rfl)))
  (qB (x.let 128 (qu (qu (qu (x.l 128 rfl) qH) (x.l 131 rfl)) qH))
  (qB (x.let 133 (x.abs (x.l 131 rfl)))
  (qB (vO x.b x.g rfl (by kernel_rfl) (by kernel_rfl) (x.k.gb 201 rfl) qH (qB (qU (zG (x.l 127 rfl) (qu (x.l 133 rfl) qH)))
  (qB (sim_aug x.g.toFrOk (by kernel_rfl) qH)
  (qB (qT (qJ (x.l 133 rfl) qH) (qB ZN
  qG) qG)
  qG))))
  (qB (qT (qJ (x.len (x.l 127 rfl)) qH) (qB ZN
  qG) qG)
  qG))))))
  (qB (qM (zm (qA (x.l 127 rfl) (qA qH (qA (x.l 128 rfl) qC)))))
  qG)))))
theorem c_lawPick (k : zJ B.K) (b : B.Ok) (h : ∀ f, qQ B (n + 1) (aFn f) (c f)) : qQ B (n + 2) 505 (qq [nm 136, nm 138] none (wu c)) :=
 qR (dc := .none) b (k.fn.get (i := 38) rfl) (by kernel_rfl) (by decide +kernel) (jO (fun _ _ _ _ _ _ _ _ => by kernel_rfl))
  (Cx.fl k b h (by kernel_rfl) fun L cdv o x => (qB (qT (qJ (qN (x.l 136 rfl) qH) (x.len (qN (x.l 136 rfl) qH))) (qB (x.let 137 (qN (qN (x.l 136 rfl) qH) (qN (x.l 136 rfl) qH)))
  (qB (jt (x.l 136 rfl) qH qH)
  qG)) (qB (qT (qJ (x.len (qN (x.l 136 rfl) qH)) qH) (qB (x.let 137 qH)
  qG) (qB (yZ (qu (qu (qu (qN (x.l 136 rfl) qH) qH) qH) qH) (x.l 136 rfl) qH)
  (qB (x.let 137 (qN (x.l 136 rfl) qH))
  qG)))
  qG))
  (qB (qM (qu (x.l 137 rfl) (x.l 138 rfl)))
  qG)))
theorem K5 (k : zJ B.K) (b : B.Ok) (h : ∀ f, qQ B (n + 1) (aFn f) (c f)) : qQ B (n + 2) 510 (qq [nm 7] none (vw c)) :=
 qR (dc := .none) b (k.fn.get (i := 39) rfl) (by kernel_rfl) (by decide +kernel) (zI (fun _ _ _ _ _ _ _ => by kernel_rfl))
  (Cx.fl k b h (by kernel_rfl) fun L cdv o x => (qB (x.let 1 (qL x.b (x.l 7 rfl)))
  (qB (qT (qJ (x.l 1 rfl) qE) (qB (qM (qP (qA qE (qA (qL x.b (x.l 7 rfl)) qC))))
  qG) qG)
  (qB (qT (qJ (x.l 1 rfl) (qO (qA qE (qA qE qC)))) (qB (qM (qP (qA (x.l 1 rfl) qC)))
  qG) qG)
  (qB (qT (qJ (x.l 1 rfl) qE) (qB (qM (qP (qA qE (qA (ZM (Xd (by kernel_rfl)) (wp (by kernel_rfl)) rfl (Kq (by kernel_rfl)) (by kernel_rfl) (qL x.b (x.l 7 rfl)) (fun C => ((x.comp rfl).call 141 (qA ((x.comp rfl).l 140 rfl) qC)))) (qA (x.list (qL x.b (x.l 7 rfl))) qC)))))
  qG) qG)
  (qB (qT (qJ (x.l 1 rfl) qE) sim_stuck qG)
  (qB (qM (qP (qA (x.l 1 rfl) (qA (x.list (qL x.b (x.l 7 rfl))) qC))))
  qG)))))))
theorem c_lawPut (k : zJ B.K) (b : B.Ok) (h : ∀ f, qQ B (n + 1) (aFn f) (c f)) : qQ B (n + 2) 517 (qq [nm 136, nm 143, nm 1, nm 7] none (x5 c)) :=
 qR (dc := .none) b (k.fn.get (i := 40) rfl) (by kernel_rfl) (by decide +kernel) (Qo (fun _ _ _ _ _ _ _ _ _ _ => by kernel_rfl))
  (Cx.fl k b h (by kernel_rfl) fun L cdv o x => (qB (x.let 144 (qu qH (x.len (qN (x.l 143 rfl) qE))))
  (qB (x.let 9 (wJ (zi (qN (x.l 143 rfl) qE) qH) (jW (zi (x.call 146 (qA (x.l 136 rfl) (qA qH qC))) qH))))
  (qB (qU (zG (qN (x.l 143 rfl) qE) (x.call 126 (qA (x.l 1 rfl) (qA (x.l 7 rfl) (qA (x.l 144 rfl) (qA (x.l 9 rfl) qC)))))))
  (qB (qM (x.l 144 rfl))
  qG)))))
theorem J5 (k : zJ B.K) (b : B.Ok) (h : ∀ f, qQ B (n + 1) (aFn f) (c f)) : qQ B (n + 2) 524 (qq [] none (vD c)) :=
 qR (dc := .none) b (k.fn.get (i := 41) rfl) (by kernel_rfl) (by decide +kernel) (Qp (fun _ _ _ _ _ _ => by kernel_rfl))
  (Cx.fl k b h (by kernel_rfl) fun L cdv o x => (qB (x.let 147 (xa x.b (fun _ h => h) rfl rfl (by simp) (by decide) (qm qH (qm qH (qm qH (qm qH (qm qH (qm qH (qm qH (qm qH (qm qH (qm qH (qm qH vm)))))))))))))
  (qB (qU (JQ (x.l 147 rfl) (xa x.b (fun _ h => h) rfl rfl (by simp) (by decide) (qm qH (qm qH (qm qH (qm qH (qm qH (qm qH (qm qH (qm qH (qm qH (qm qH (qm qH (qm qH (qm qH (qm qH vm)))))))))))))))))
  (qB (qM (x.l 147 rfl))
  qG))))
theorem c_lawBad (k : zJ B.K) (b : B.Ok) (h : ∀ f, qQ B (n + 1) (aFn f) (c f)) : qQ B (n + 2) 531 (qq [nm 143, nm 1, nm 144] none (x6 c)) :=
 qR (dc := .none) b (k.fn.get (i := 42) rfl) (by kernel_rfl) (by decide +kernel) (j7 (fun _ _ _ _ _ _ _ _ _ => by kernel_rfl))
  (Cx.fl k b h (by kernel_rfl) fun L cdv o x => (qB (qT (qJ (qN (x.l 143 rfl) qE) qf) (qB (yZ (qP (qA (x.l 1 rfl) (qA (x.l 144 rfl) qC))) (x.l 143 rfl) qE)
  qG) qG)
  qG))
theorem J6 (k : zJ B.K) (b : B.Ok) (h : ∀ f, qQ B (n + 1) (aFn f) (c f)) : qQ B (n + 2) 538 (qq [nm 143, nm 98, nm 153, nm 152, nm 144] none (vE c)) :=
 qR (dc := .none) b (k.fn.get (i := 43) rfl) (by kernel_rfl) (by decide +kernel) (bindOkD5 (fun _ _ _ _ _ _ _ _ _ _ _ => by kernel_rfl))
  (Cx.fl k b h (by kernel_rfl) fun L cdv o x => (qB (qT (qJ (x.l 98 rfl) (qO (qA qE (qA qE qC)))) (qB (qM (qP (qA qE (qA (qO (qA (qP (qA qE (qA (jx (qJ (x.l 98 rfl) qE) qE qE) qC))) (qA (x.l 152 rfl) (qA (x.l 153 rfl) qC)))) (qA (qO (qA qf (qA qf (qA qf qC)))) qC)))))
  qG) qG)
  (qB (qT (qJ (x.l 98 rfl) qE) (qB (qM (qP (qA qE (qA (qO (qA (qP (qA qE (qA (x.l 98 rfl) qC))) (qA (x.l 153 rfl) (qA (x.l 152 rfl) qC)))) (qA (qO (qA qf (qA qf (qA qf qC)))) qC)))))
  qG) qG)
  (qB (x.let 155 (qu (qO (qA qE (qA qE (qA qE (qA qE (qA qE (qA qE qC))))))) (x.list (x.call0 154))))
  (qB (qT (zX (qJ (qN (x.l 152 rfl) qH) qE) (fun _ => (zX (zD (qJ (qN (qN (qN (x.l 152 rfl) qH) qH) qH) qE) (fun _ => (zD (qJ (qN (qN (qN (x.l 152 rfl) qH) qH) qH) (x.l 155 rfl)) (fun _ => zn)))) (fun _ => jL)))) (qB (qU (x.call 156 (qA (x.l 143 rfl) (qA qE (qA (x.l 144 rfl) qC)))))
  (qB (qM (x.l 152 rfl))
  qG)) qG)
  (qB (qM (qP (qA qE (qA (qu (qO (qA (qN (qN (x.l 152 rfl) qH) qH) (qA (x.l 153 rfl) qC))) (wi (k := 1) (qN (x.l 152 rfl) qH))) (qA (qu (qO (qA qf (qA qf qC))) (wi (k := 1) (qN (x.l 152 rfl) qH))) qC)))))
  qG))))))
theorem Z5 (k : zJ B.K) (b : B.Ok) (h : ∀ f, qQ B (n + 1) (aFn f) (c f)) : qQ B (n + 2) 545 (qq [nm 143, nm 157, nm 159] none (kS c)) :=
 qR (dc := .none) b (k.fn.get (i := 44) rfl) (by kernel_rfl) (by decide +kernel) (j7 (fun _ _ _ _ _ _ _ _ _ => by kernel_rfl))
  (Cx.fl k b h (by kernel_rfl) fun L cdv o x => (qB (jV x.g.toFrOk (.cons (by kernel_rfl) (.cons (by kernel_rfl) (.cons (by kernel_rfl) TN.nil))) (wI (x.l 157 rfl)))
  (qB (x.let 160 (wI (x.l 159 rfl)))
  (qB (qT (qJ (x.l 144 rfl) qH) (qB (qU (zG (x.l 159 rfl) (qP (qA qE (qA (qO (qA (qP (qA qE (qA (x.l 98 rfl) qC))) (qA (x.l 160 rfl) qC))) (qA (qO (qA qf (qA qf qC))) qC))))))
  (qB (qM jA)
  qG)) qG)
  (qB (qU (zG (x.l 159 rfl) (x.call 161 (qA (x.l 143 rfl) (qA (x.l 98 rfl) (qA (wI (x.l 159 rfl)) (qA (x.l 160 rfl) (qA (x.l 144 rfl) qC))))))))
  (qB (qM (zi (qN (x.call0 154) (x.l 98 rfl)) qH))
  qG))))))
theorem c_lawRow (k : zJ B.K) (b : B.Ok) (h : ∀ f, qQ B (n + 1) (aFn f) (c f)) : qQ B (n + 2) 550 (qq [nm 136, nm 143, nm 164, nm 158] none (xz c)) :=
 Kz (c1 := nm 158) (c2 := nm 162) b (k.fn.get (i := 45) rfl) (fun k => by kernel_rfl) (by decide +kernel) (by kernel_rfl) (by kernel_rfl) (by kernel_rfl) (by decide +kernel) (lcsOk_ (by kernel_rfl)) (fun cs kV doc pm an cdv ct hl => Z1 (Q := fun cs : List Value => bindArgs (fnOf r550.name r550.qual r550.params r550.body r550.scope .none kV doc pm an cdv ct) ⟨cs, []⟩ = pure ([nm 136, nm 143, nm 164, nm 158].zip cs)) (fun a b c d => by kernel_rfl) cs hl)
  (Cx.flc k b h (by kernel_rfl) fun L cdv o x => (qB (XS x.g.toFrOk (x.call0 154) (.inr ⟨(by kernel_rfl), rfl⟩) (by with_unfolding_all rfl))
  (qB (sim_ops x.b x.g (by with_unfolding_all rfl) (fun c1 c2 e1 e2 => ⟨_, rfl, by rw [<- e1]; rfl, by rw [<- e2]; rfl⟩) (wp (by kernel_rfl)) rfl (Kq (by kernel_rfl)) (by kernel_rfl) (by kernel_rfl) (by kernel_rfl) (by kernel_rfl) (by kernel_rfl) (by kernel_rfl) (nd_ 98) (nd_ 162) (nd_ 158))
  (qB (x.let 157 (zm qC))
  (qB (x.let 159 (zm qC))
  (qB (x.let 165 (x.call 146 (qA (x.l 136 rfl) (qA (jx (qJ (x.l 164 rfl) qH) qH qH) qC))))
  (qB (vO x.b x.g rfl (by kernel_rfl) (by kernel_rfl) (x.k.gb 201 rfl) (qu (x.l 165 rfl) qH) (qB (vO x.b x.g rfl (by kernel_rfl) (by kernel_rfl) (x.k.gb 201 rfl) (x.max (qA qH (qA (qu (x.call 146 (qA (x.l 136 rfl) (qA qH qC))) qH) qC))) (qB (x.let 166 (qN (qO (qA qE (qA qE (qA qE (qA qE (qA qE qC)))))) (x.call 146 (qA (x.l 136 rfl) (qA qH qC)))))
  (qB (qU (x.call 167 (qA (x.l 136 rfl) (qA (x.l 143 rfl) (qA qE (qA (x.l 166 rfl) qC))))))
  (qB (qU (zG (x.l 157 rfl) (qP (qA (x.l 166 rfl) (qA (qN (xa x.b (fun _ h => h) rfl rfl (by simp) (by decide) (qm qH (qm qH (qm qH (qm qH (qm qH vm)))))) (x.l 166 rfl)) (qA (xZ qH) qC))))))
  qG))))
  (qB (qU (zG (x.l 159 rfl) (x.call 170 (qA (x.l 136 rfl) (qA (x.l 143 rfl) (qA (x.l 164 rfl) qC))))))
  (qB (qT (qJ (x.l 134 rfl) (x.l 165 rfl)) (qB (x.let 98 (qN (x.l 163 rfl) (x.call 146 (qA (x.l 136 rfl) (qA (x.len (x.l 163 rfl)) qC)))))
  (qB (x.let 144 (x.call 167 (qA (x.l 136 rfl) (qA (x.l 143 rfl) (qA qE (qA (x.l 98 rfl) qC))))))
  (qB (kZ wf rfl (zD (qJ (x.l 157 rfl) (qO qC)) (fun _ => (zD (qJ (qN (x.l 162 rfl) (x.l 98 rfl)) (qN (qN (x.l 157 rfl) (xZ qH)) qH)) (fun _ => zn)))) (qB (qT (zD (za (x.call 171 (qA (x.l 143 rfl) (qA (x.l 157 rfl) (qA (x.l 159 rfl) qC))))) (fun _ => (zD (qJ (qN (x.l 162 rfl) (x.l 98 rfl)) qH) (fun _ => zn)))) (qB (qU (x.call 156 (qA (x.l 143 rfl) (qA qE (qA (x.l 144 rfl) qC)))))
  qG) qG)
  qG))
  (qB (qU (zG (x.l 157 rfl) (qP (qA (x.l 98 rfl) (qA (jx (qJ (qN (x.l 162 rfl) (x.l 98 rfl)) (qO (qA qH (qA qH (qA qH qC))))) (qN (x.l 162 rfl) (x.l 98 rfl)) (qu (qN (x.l 162 rfl) (x.l 98 rfl)) qH)) (qA (x.l 144 rfl) qC))))))
  qG)))) qG)
  qG))))
  (qB (kZ wf rfl (qJ (x.l 157 rfl) (qO qC)) (qB (qU (x.call 171 (qA (x.l 143 rfl) (qA (x.l 157 rfl) (qA (x.l 159 rfl) qC)))))
  qG))
  (qB (qM (qN (x.l 159 rfl) qH))
  qG)))))))))
theorem Z7 (k : zJ B.K) (b : B.Ok) (h : ∀ f, qQ B (n + 1) (aFn f) (c f)) : qQ B (n + 2) 557 (qq [nm 136, nm 143, nm 164] none (kU c)) :=
 qR (dc := .none) b (k.fn.get (i := 46) rfl) (by kernel_rfl) (by decide +kernel) (j7 (fun _ _ _ _ _ _ _ _ _ => by kernel_rfl))
  (Cx.fl k b h (by kernel_rfl) fun L cdv o x => (qB (jt (x.l 143 rfl) qE qH)
  (qB (qT (qJ (x.call 146 (qA (x.l 136 rfl) (qA qH qC))) qH) (qB (jV x.g.toFrOk (.cons (by kernel_rfl) (.cons (by kernel_rfl) TN.nil)) (qN (qO (qA (qP (qA qE (qA qE qC))) (qA (qP (qA qE (qA qE qC))) (qA (qP (qA qE (qA qE qC))) (qA (qP (qA qE (qA qE qC))) qC))))) (x.call 146 (qA (x.l 136 rfl) (qA qH qC)))))
  (qB (x.let 144 (x.call 167 (qA (x.l 136 rfl) (qA (x.l 143 rfl) (qA (x.l 1 rfl) (qA (x.l 7 rfl) qC))))))
  (qB (qU (x.call 156 (qA (x.l 143 rfl) (qA (jx (qJ (x.l 1 rfl) qE) qE qE) (qA (x.l 144 rfl) qC)))))
  (qB (qM (qP (qA qE qC)))
  qG)))) qG)
  (qB (x.let 177 (x.call 176 (qA (x.l 136 rfl) (qA (x.l 143 rfl) (qA (x.l 164 rfl) qC)))))
  (qB (vO x.b x.g rfl (by kernel_rfl) (by kernel_rfl) (x.k.gb 201 rfl) (jx (zD (qJ (x.l 164 rfl) qH) (fun _ => (zD (qJ (qN (x.l 143 rfl) qE) qH) (fun _ => zn)))) (x.call 146 (qA (x.l 136 rfl) (qA qH qC))) qH) (qB (x.let 177 (x.call 178 (qA (x.l 136 rfl) (qA (x.l 143 rfl) (qA (x.l 164 rfl) (qA (x.l 177 rfl) qC))))))
  qG))
  (qB (qM (x.l 177 rfl))
  qG))))))
theorem Z6 (k : zJ B.K) (b : B.Ok) (h : ∀ f, qQ B (n + 1) (aFn f) (c f)) : qQ B (n + 2) 564 (qq [nm 136, nm 143, nm 164] none (kT c)) :=
 qR (dc := .none) b (k.fn.get (i := 47) rfl) (by kernel_rfl) (by decide +kernel) (j7 (fun _ _ _ _ _ _ _ _ _ => by kernel_rfl))
  (Cx.fl k b h (by kernel_rfl) fun L cdv o x => (qB (x.let 1 (x.call 146 (qA (x.l 136 rfl) (qA (jx (zD (qJ (x.l 164 rfl) qH) (fun _ => (zD (qJ (qN (x.l 143 rfl) qE) qH) (fun _ => zn)))) qH qH) qC))))
  (qB (qT (qJ (x.l 1 rfl) qH) (qB (x.let 4 (qN qE (x.call 146 (qA (x.l 136 rfl) (qA qH qC)))))
  (qB (qU (x.call 167 (qA (x.l 136 rfl) (qA (x.l 143 rfl) (qA qE (qA (x.l 4 rfl) qC))))))
  (qB (qM (qP (qA qE (qA (x.l 4 rfl) qC))))
  qG))) qG)
  (qB (qT (qJ (x.l 1 rfl) qH) (qB (x.let 137 (qN (qN (x.l 143 rfl) qE) (x.call 146 (qA (x.l 136 rfl) (qA (x.len (qN (x.l 143 rfl) qE)) qC)))))
  (qB (qU (x.call 167 (qA (x.l 136 rfl) (qA (x.l 143 rfl) (qA qE (qA (x.call 21 (qA qE (qA (qO (qA (qP (qA (x.l 137 rfl) (qA qH qC))) qC)) qC))) qC))))))
  (qB (qM (qP (qA qE (qA (qO (qA (qP (qA (x.l 137 rfl) (qA qH qC))) qC)) qC))))
  qG))) qG)
  (qB (qT (qJ (x.l 1 rfl) qH) (qB (qU (x.call 167 (qA (x.l 136 rfl) (qA (x.l 143 rfl) (qA qE (qA qE qC))))))
  (qB (qM (qP (qA qE (qA (qO (qA qE qC)) qC))))
  qG)) qG)
  (qB (qT (qJ (x.l 1 rfl) qH) (qB (jV x.g.toFrOk (.cons (by kernel_rfl) (.cons (by kernel_rfl) TN.nil)) (qN (qO (qA (qP (qA qE (qA (qP (qA qE (qA (qO (qA qH qC)) qC))) qC))) (qA (qP (qA qE (qA (qP (qA qE qC)) qC))) (qA (qP (qA qE (qA (qP (qA qE (qA (qO (qA qf qC)) qC))) qC))) (qA (qP (qA qE (qA (qP (qA qE (qA (qO (qA (qP (qA qH (qA qH qC))) qC)) qC))) qC))) qC))))) (x.call 146 (qA (x.l 136 rfl) (qA qH qC)))))
  (qB (qU (x.call 167 (qA (x.l 136 rfl) (qA (x.l 143 rfl) (qA qE (qA (x.l 99 rfl) qC))))))
  (qB (qM (x.l 177 rfl))
  qG))) qG)
  (qB (qM (x.call 181 (qA (x.l 136 rfl) (qA (x.l 143 rfl) (qA (x.l 164 rfl) qC)))))
  qG)))))))
theorem Ql (k : zJ B.K) (b : B.Ok) (h : ∀ f, qQ B (n + 1) (aFn f) (c f)) : qQ B (n + 2) 571 (qq [nm 136, nm 143, nm 164] none (ji c)) :=
 qR (dc := .none) b (k.fn.get (i := 48) rfl) (by kernel_rfl) (by decide +kernel) (j7 (fun _ _ _ _ _ _ _ _ _ => by kernel_rfl))
  (Cx.fl k b h (by kernel_rfl) fun L cdv o x => (qB (qU (x.call 167 (qA (x.l 136 rfl) (qA (x.l 143 rfl) (qA qE (qA qE qC))))))
  (qB (jt (x.l 143 rfl) qE qH)
  (qB (x.let 177 (x.call 182 (qA (x.l 136 rfl) (qA (x.l 143 rfl) (qA (qu (x.l 164 rfl) qH) (qA qH qC))))))
  (qB (qU (x.call 167 (qA (x.l 136 rfl) (qA (x.l 143 rfl) (qA qE (qA qE qC))))))
  (qB (jt (x.l 143 rfl) qE qH)
  (qB (qM (qP (qA qE (qA (qO (qA (qP (qA qE (qA qE qC))) (qA (x.l 177 rfl) qC))) (qA (qO (qA qf (qA qf qC))) qC)))))
  qG)))))))
theorem Qm (k : zJ B.K) (b : B.Ok) (h : ∀ f, qQ B (n + 1) (aFn f) (c f)) : qQ B (n + 2) 578 (qq [nm 136, nm 143, nm 164] none (jj c)) :=
 qR (dc := .none) b (k.fn.get (i := 49) rfl) (by kernel_rfl) (by decide +kernel) (j7 (fun _ _ _ _ _ _ _ _ _ => by kernel_rfl))
  (Cx.fl k b h (by kernel_rfl) fun L cdv o x => (qB (x.let 2 (zm qC))
  (qB (x.let 5 (zm qC))
  (qB (vO x.b x.g rfl (by kernel_rfl) (by kernel_rfl) (x.k.gb 201 rfl) (qu qH (x.call 146 (qA (x.l 136 rfl) (qA qH qC)))) (qB (qT (qJ (x.l 134 rfl) qH) (qB (qU (x.call 167 (qA (x.l 136 rfl) (qA (x.l 143 rfl) (qA qE (qA qE qC))))))
  qG) qG)
  (qB (x.let 119 qf)
  (qB (qT (qJ (x.call 146 (qA (x.l 136 rfl) (qA qH qC))) qH) (qB (jV x.g.toFrOk (.cons (by kernel_rfl) (.cons (by kernel_rfl) TN.nil)) (qN (qO (qA (qP (qA qE (qA qE qC))) (qA (qP (qA qE (qA qE qC))) (qA (qP (qA qE (qA qE qC))) qC)))) (x.call 146 (qA (x.l 136 rfl) (qA qH qC)))))
  (qB (qU (x.call 167 (qA (x.l 136 rfl) (qA (x.l 143 rfl) (qA (x.l 1 rfl) (qA (x.l 119 rfl) qC))))))
  (qB (qU (x.call 167 (qA (x.l 136 rfl) (qA (x.l 143 rfl) (qA qE (qA qE qC))))))
  qG))) qG)
  (qB (qU (zG (x.l 5 rfl) (x.l 119 rfl)))
  (qB (qU (zG (x.l 2 rfl) (jx (qJ (x.call 146 (qA (x.l 136 rfl) (qA qH qC))) qH) (qP (qA qE qC)) (x.call 182 (qA (x.l 136 rfl) (qA (x.l 143 rfl) (qA (qu (x.l 164 rfl) qH) (qA qH qC))))))))
  qG))))))
  (qB (qM (qP (qA (x.l 2 rfl) (qA (x.l 5 rfl) qC))))
  qG)))))
theorem ZC (k : zJ B.K) (b : B.Ok) (h : ∀ f, qQ B (n + 1) (aFn f) (c f)) : qQ B (n + 2) 585 (qq [nm 136, nm 143, nm 164, nm 177] none (j0 c)) :=
 qR (dc := .none) b (k.fn.get (i := 50) rfl) (by kernel_rfl) (by decide +kernel) (Qo (fun _ _ _ _ _ _ _ _ _ _ => by kernel_rfl))
  (Cx.fl k b h (by kernel_rfl) fun L cdv o x => (qB (x.let 1 (x.call 146 (qA (x.l 136 rfl) (qA qH qC))))
  (qB (qT (qJ (x.l 1 rfl) qH) (qB (x.let 186 (qN qE (qu (x.l 1 rfl) qH)))
  (qB (qU (x.call 167 (qA (x.l 136 rfl) (qA (x.l 143 rfl) (qA qE (qA (x.l 186 rfl) qC))))))
  (qB (x.let 187 (x.call 146 (qA (x.l 136 rfl) (qA qH qC))))
  (qB (qT (qJ (x.l 187 rfl) qH) (qB (x.let 188 (x.call 181 (qA (x.l 136 rfl) (qA (x.l 143 rfl) (qA (x.l 164 rfl) qC)))))
  qG) (qB (qU (x.call 167 (qA (x.l 136 rfl) (qA (x.l 143 rfl) (qA (qN (qO (qA qE (qA qE qC))) (x.l 187 rfl)) (qA qE qC))))))
  (qB (x.let 188 (qN (qO (qA (qP (qA qE (qA qE qC))) (qA (qP (qA qE (qA (qO (qA qE qC)) qC))) qC))) (x.l 187 rfl)))
  qG)))
  (qB (qM (qP (qA qE (qA (qO (qA (qP (qA qE (qA (x.l 186 rfl) qC))) (qA (x.l 177 rfl) (qA (x.l 188 rfl) qC)))) (qA (qO (qA qf (qA qf (qA qf qC)))) qC)))))
  qG))))) qG)
  (qB (x.let 190 (qN (qO (qA qE (qA qE (qA qE qC)))) (x.l 1 rfl)))
  (qB (qU (x.call 167 (qA (x.l 136 rfl) (qA (x.l 143 rfl) (qA qE (qA (x.l 190 rfl) qC))))))
  (qB (jt (x.l 143 rfl) qE qH)
  (qB (jV x.g.toFrOk (.cons (by kernel_rfl) (.cons (by kernel_rfl) TN.nil)) (x.call 191 (qA (x.l 136 rfl) (qA (x.l 143 rfl) (qA (x.l 164 rfl) qC)))))
  (qB (vO x.b x.g rfl (by kernel_rfl) (by kernel_rfl) (x.k.gb 201 rfl) (jx (qJ (x.l 1 rfl) qH) qH qH) (qB (qU (x.call 167 (qA (x.l 136 rfl) (qA (x.l 143 rfl) (qA qE (qA (jx (qJ (x.l 1 rfl) qH) qE qE) qC))))))
  qG))
  (qB (jt (x.l 143 rfl) qE qH)
  (qB (qT (qJ (x.l 1 rfl) qH) (qB (qM (qP (qA qE (qA (qu (qO (qA (qP (qA qE (qA (x.l 190 rfl) qC))) (qA (x.l 177 rfl) qC))) (x.l 2 rfl)) (qA (qu (qO (qA qf (qA qf qC))) (x.l 5 rfl)) qC)))))
  qG) qG)
  (qB (qT (zD (qJ (x.l 2 rfl) (qO (qA (qP (qA qE qC)) qC))) (fun _ => (zD (qJ (x.l 5 rfl) (qO (qA qf qC))) (fun _ => zn)))) (qB (JO x.g.toFrOk (.cons (by kernel_rfl) (.cons (by kernel_rfl) TNn.nil)) (qP (qA (qO qC) (qA (qO qC) qC))) (by with_unfolding_all rfl))
  qG) qG)
  (qB (qT (qJ (qN (x.l 177 rfl) qH) qE) (qB (x.let 177 (qP (qA qE (qA (qN (qN (x.l 177 rfl) qH) qH) qC))))
  qG) qG)
  (qB (qM (qP (qA qE (qA (qu (qO (qA (x.l 177 rfl) qC)) (x.l 2 rfl)) (qA (qu (qO (qA qf qC)) (x.l 5 rfl)) qC)))))
  qG)))))))))))))
theorem s_law (k : zJ B.K) (b : B.Ok) (h : ∀ f, qQ B (n + 1) (aFn f) (c f)) : ∀ L a cdv o, TSim B (n + 1) (frm Zr L a cdv o) (execs Zr.body (frm Zr L a cdv o).env) (Ze c) := fun L a cdv o => have x := Cx.of k b h (by kernel_rfl); (jY (k8 (x.let 136 (x.call 192 (qA (x.l 135 rfl) qC))))
  (jY (k8 (x.let 127 (qu (qO (qA qH (qA qH qC))) (ZM (Xd (by kernel_rfl)) (wp (by kernel_rfl)) rfl (Kq (by kernel_rfl)) (by kernel_rfl) (ZL (k := 3) (x.l 135 rfl)) (fun C => ((x.comp rfl).abs ((x.comp rfl).int ((x.comp rfl).l 129 rfl))))))))
  (jY (k8 (x.let 143 (xa x.b (fun _ h => h) rfl rfl (by simp) (by decide) (qm (zm qC) (qm qH (qm qf (qm qH (qm (x.l 127 rfl) vm))))))))
  (jY (k8 (x.let 193 (x.call 182 (qA (x.l 136 rfl) (qA (x.l 143 rfl) (qA qH (qA qH qC)))))))
  (jY (k8 (qU (x.call 167 (qA (x.l 136 rfl) (qA (x.l 143 rfl) (qA qE (qA qE qC)))))))
  (jY (k8 (x.let 197 (x.call 196 (qA (x.call 195 (qA (qN (x.l 143 rfl) qE) qC)) qC))))
  (jY (tsim_try x.b x.k.kex x.k.keg x.g rfl (qB (x.let 198 (x.call 141 (qA (qt x.b (x.m 7 rfl) (x.l 197 rfl) (qA qH qC)) qC)))
  qG) (by kernel_rfl) (x.k.gl 95 51 rfl).1 (by kernel_rfl) (by kernel_rfl) (by decide +kernel) (nd_ 95) (nd_ 199) (nd_ 143))
  (jY (k8 (qM (wJ (zi (qN (x.l 143 rfl) qE) qf) (wJ (zi (x.l 198 rfl) (x.l 193 rfl)) (jW (qt x.b (x.m 2 rfl) (x.l 197 rfl) (qA qE qC))))))) (k8 qG)))))))))
theorem c_cNull (k : zJ B.K) (b : B.Ok) : qQ B (n + 2) 70 (vt [] none XV (kH .null)) :=
 jc (c := .null) (fI := 67) (dc := .none) true b k (by decide) rfl (k.fn.get (i := 51) rfl) (by kernel_rfl) (by decide +kernel) (fun a => (KH (fun _ _ _ _ _ _ => by kernel_rfl)))
  (InS.fl (by kernel_rfl) fun fr x => (.cons qE (by with_unfolding_all rfl) (.cons qf (by with_unfolding_all rfl) .nil))) (by kernel_rfl)
theorem K9 (k : zJ B.K) (b : B.Ok) : qQ B (n + 2) 91 (vt [] none QL (kH .missing)) :=
 jc (c := .missing) (fI := 88) (dc := .none) true b k (by decide) rfl (k.fn.get (i := 52) rfl) (by kernel_rfl) (by decide +kernel) (fun a => (KH (fun _ _ _ _ _ _ => by kernel_rfl)))
  (InS.fl (by kernel_rfl) fun fr x => (.cons qE (by with_unfolding_all rfl) (.cons qf (by with_unfolding_all rfl) .nil))) (by kernel_rfl)
theorem c_cVector (k : zJ B.K) (b : B.Ok) : qQ B (n + 2) 120 (vt [nm 1, nm 2, nm 3] (some .none) ZO (kH .vector)) :=
 let ⟨_, _, h1, h2⟩ := k.df3
 jc (c := .vector) (fI := 110) (dc := .none) true b k (by decide) rfl (k.fn.get (i := 53) rfl) (by kernel_rfl) (by decide +kernel) (fun a => (KE h1 h2 (fun _ => rfl) (fun _ _ _ _ _ _ _ _ _ => by kernel_rfl) (fun _ _ _ _ _ _ _ _ => by kernel_rfl)))
  (InS.fl (by kernel_rfl) fun fr x => (.cons (x.l 1 rfl) (by with_unfolding_all rfl) (.cons (x.l 2 rfl) (by with_unfolding_all rfl) (.cons (x.l 3 rfl) (by with_unfolding_all rfl) (.cons jA (by with_unfolding_all rfl) (.cons jA (by with_unfolding_all rfl) .nil)))))) (by kernel_rfl)
theorem c_cSymbol (k : zJ B.K) (b : B.Ok) : qQ B (n + 2) 141 (vt [nm 4] none ZP (kH .symbol)) :=
 jc (c := .symbol) (fI := 138) (dc := .none) true b k (by decide) rfl (k.fn.get (i := 54) rfl) (by kernel_rfl) (by decide +kernel) (fun a => (Qq (fun _ _ _ _ _ _ _ => by kernel_rfl)))
  (InS.fl (by kernel_rfl) fun fr x => (.cons qE (by with_unfolding_all rfl) (.cons (x.l 4 rfl) (by with_unfolding_all rfl) (.cons qf (by with_unfolding_all rfl) .nil)))) (by kernel_rfl)
theorem c_cCall (k : zJ B.K) (b : B.Ok) : qQ B (n + 2) 163 (vt [nm 2, nm 5, nm 3] (some .none) XW (kH .call)) :=
 let ⟨_, _, h1, h2⟩ := k.df4
 jc (c := .call) (fI := 160) (dc := .none) true b k (by decide) rfl (k.fn.get (i := 55) rfl) (by kernel_rfl) (by decide +kernel) (fun a => (KE h1 h2 (fun _ => rfl) (fun _ _ _ _ _ _ _ _ _ => by kernel_rfl) (fun _ _ _ _ _ _ _ _ => by kernel_rfl)))
  (InS.fl (by kernel_rfl) fun fr x => (.cons qE (by with_unfolding_all rfl) (.cons (x.l 2 rfl) (by with_unfolding_all rfl) (.cons (x.l 5 rfl) (by with_unfolding_all rfl) (.cons (x.l 3 rfl) (by with_unfolding_all rfl) (.cons qf (by with_unfolding_all rfl) .nil)))))) (by kernel_rfl)
theorem ZD (k : zJ B.K) (b : B.Ok) : qQ B (n + 2) 438 (vt [nm 10] none xB (yh .reader)) :=
 jc (c := .reader) (fI := 300) (dc := .none) false b k (by decide) rfl (k.fn.get (i := 56) rfl) (by kernel_rfl) (by decide +kernel) (fun a => (Qq (fun _ _ _ _ _ _ _ => by kernel_rfl)))
  (InS.fl (by kernel_rfl) fun fr x => (.cons (x.l 10 rfl) (by with_unfolding_all rfl) (.cons (zm qC) (by with_unfolding_all rfl) (.cons (zm (qA qE qC)) (by with_unfolding_all rfl) .nil)))) (by kernel_rfl)
theorem c_cToken (k : zJ B.K) (b : B.Ok) : qQ B (n + 2) 459 (vt [nm 1, nm 7, nm 8, nm 9] none Jb (kH .token)) :=
 jc (c := .token) (fI := 456) (dc := .none) true b k (by decide) rfl (k.fn.get (i := 57) rfl) (by kernel_rfl) (by decide +kernel) (fun a => (bindOkC4 (fun _ _ _ _ _ _ _ _ _ _ => by kernel_rfl)))
  (InS.fl (by kernel_rfl) fun fr x => (.cons (x.l 1 rfl) (by with_unfolding_all rfl) (.cons (x.l 7 rfl) (by with_unfolding_all rfl) (.cons (x.l 8 rfl) (by with_unfolding_all rfl) (.cons (x.l 9 rfl) (by with_unfolding_all rfl) .nil))))) (by kernel_rfl)
theorem J9 (k : zJ B.K) (b : B.Ok) : qQ B (n + 2) 487 (vt [nm 13] none yc (yh .row)) :=
 jc (c := .row) (fI := 477) (dc := .none) false b k (by decide) rfl (k.fn.get (i := 58) rfl) (by kernel_rfl) (by decide +kernel) (fun a => (Qq (fun _ _ _ _ _ _ _ => by kernel_rfl)))
  (InS.fl (by kernel_rfl) fun fr x => (.cons (x.l 13 rfl) (by with_unfolding_all rfl) (.cons qH (by with_unfolding_all rfl) .nil))) (by kernel_rfl)
theorem qn {P : Addr -> (List V -> M V) -> Prop} {a : Addr} {g : List V -> M V} {as : List Addr} {gs : List (List V -> M V)} (h : P a g) (ih : ∀ i : Nat, P ((as[i]?).getD 0) ((gs[i]?).getD fun _ => zC)) : ∀ i : Nat, P (((a :: as)[i]?).getD 0) (((g :: gs)[i]?).getD fun _ => zC)
 | 0 => h
 | i + 1 => ih i
theorem Xs {a : Addr} : qQ B n a fun _ => zC := fun _ _ _ _ _ _ _ _ _ _ _ _ _ h => h.elim
theorem c_all (k : zJ B.K) (b : B.Ok) (n : Nat) : ∀ f, qQ B (n + 1) (aFn f) (run n f) := by
 induction n with
 | zero => exact fun _ => Xs
 | succ n ih => exact fun f => (qn (P := qQ B (n + 2)) (c_null k b ih) (
  qn (P := qQ B (n + 2)) (c_missing k b ih) (
  qn (P := qQ B (n + 2)) (c_logical k b ih) (
  qn (P := qQ B (n + 2)) (c_integer k b ih) (
  qn (P := qQ B (n + 2)) (c_double k b ih) (
  qn (P := qQ B (n + 2)) (J8 k b ih) (
  qn (P := qQ B (n + 2)) (c_flag k b ih) (
  qn (P := qQ B (n + 2)) (c_text k b ih) (
  qn (P := qQ B (n + 2)) (c_symbol k b ih) (
  qn (P := qQ B (n + 2)) (c_callOf k b ih) (
  qn (P := qQ B (n + 2)) (c_share k b ih) (
  qn (P := qQ B (n + 2)) (ZE k b ih) (
  qn (P := qQ B (n + 2)) (ZB k b ih) (
  qn (P := qQ B (n + 2)) (Z4 k b ih) (
  qn (P := qQ B (n + 2)) (Z9 k b ih) (
  qn (P := qQ B (n + 2)) (Qn k b ih) (
  qn (P := qQ B (n + 2)) (c_joined k b ih) (
  qn (P := qQ B (n + 2)) (c_peek k b ih) (
  qn (P := qQ B (n + 2)) (c_take k b ih) (
  qn (P := qQ B (n + 2)) (c_isOp k b ih) (
  qn (P := qQ B (n + 2)) (c_isKey k b ih) (
  qn (P := qQ B (n + 2)) (K8 k b ih) (
  qn (P := qQ B (n + 2)) (c_fail k b ih) (
  qn (P := qQ B (n + 2)) (c_joins k b ih) (
  qn (P := qQ B (n + 2)) (Z8 k b ih) (
  qn (P := qQ B (n + 2)) (wW k b ih) (
  qn (P := qQ B (n + 2)) (c_operand k b ih) (
  qn (P := qQ B (n + 2)) (c_primary k b ih) (
  qn (P := qQ B (n + 2)) (KA k b ih) (
  qn (P := qQ B (n + 2)) (J7 k b ih) (
  qn (P := qQ B (n + 2)) (K7 k b ih) (
  qn (P := qQ B (n + 2)) (c_callOn k b ih) (
  qn (P := qQ B (n + 2)) (c_indexOn k b ih) (
  qn (P := qQ B (n + 2)) (c_member k b ih) (
  qn (P := qQ B (n + 2)) (KB k b ih) (
  qn (P := qQ B (n + 2)) (ZF k b ih) (
  qn (P := qQ B (n + 2)) (J4 k b ih) (
  qn (P := qQ B (n + 2)) (c_lawPool k b ih) (
  qn (P := qQ B (n + 2)) (c_lawPick k b ih) (
  qn (P := qQ B (n + 2)) (K5 k b ih) (
  qn (P := qQ B (n + 2)) (c_lawPut k b ih) (
  qn (P := qQ B (n + 2)) (J5 k b ih) (
  qn (P := qQ B (n + 2)) (c_lawBad k b ih) (
  qn (P := qQ B (n + 2)) (J6 k b ih) (
  qn (P := qQ B (n + 2)) (Z5 k b ih) (
  qn (P := qQ B (n + 2)) (c_lawRow k b ih) (
  qn (P := qQ B (n + 2)) (Z7 k b ih) (
  qn (P := qQ B (n + 2)) (Z6 k b ih) (
  qn (P := qQ B (n + 2)) (Ql k b ih) (
  qn (P := qQ B (n + 2)) (Qm k b ih) (
  qn (P := qQ B (n + 2)) (ZC k b ih) (
  qn (P := qQ B (n + 2)) (c_cNull k b) (
  qn (P := qQ B (n + 2)) (K9 k b) (
  qn (P := qQ B (n + 2)) (c_cVector k b) (
  qn (P := qQ B (n + 2)) (c_cSymbol k b) (
  qn (P := qQ B (n + 2)) (c_cCall k b) (
  qn (P := qQ B (n + 2)) (ZD k b) (
  qn (P := qQ B (n + 2)) (c_cToken k b) (
  qn (P := qQ B (n + 2)) (J9 k b) (fun _ => Xs)))))))))))))))))))))))))))))))))))))))))))))))))))))))))))) f.i
noncomputable def fnD (K : Frag) (a : Addr) : Option FuncData := match K.lookup a with
 | some o => (match o.data with
  | .func f => some f
  | _ => none)
 | none => none
theorem fnD_ {K : Frag} {a : Addr} {f : FuncData} (h : fnD K a = some f) : ∃ o, K.lookup a = some o /\ o.data = .func f := by
 unfold fnD at h
 cases q : K.lookup a with
 | none => rw [q] at h; cases h
 | some o =>
  rw [q] at h
  refine ⟨o, rfl, ?_⟩
  obtain ⟨c, d, dt, sl⟩ := o
  cases dt <;> first | (cases h; rfl) | cases h
noncomputable def stB : FuncBody -> Option (List Stmt)
 | .stmts b => some b
 | _ => none
noncomputable def recK (K : Frag) (a : Addr) : qW := ((fnD K a).map fun f => ⟨f.name, f.qualname, f.params, (stB f.body).getD [], f.scope⟩).getD r48
noncomputable def fnOk (K : Frag) (a : Addr) (dV : Value) : Bool := (fnD K a).any fun f => (stB f.body).isSome && f.globals == mainGlobals && f.closure.isEmpty && f.defaults == dV && f.builtins == builtinsNs && codeIn K f.code f.qualname
theorem fnFact {K : Frag} {a : Addr} {r : qW} {dV : Value} (h : fnOk K a dV = true) (e : recK K a = r) : k6 K a r dV := by
 subst e
 unfold fnOk at h
 cases q : fnD K a with
 | none => rw [q] at h; cases h
 | some f =>
  rw [q] at h
  refine (fnD_ q).elim fun o ho => ?_
  obtain ⟨oc, od, dt, osl⟩ := o
  have hl := ho.1
  have hd : dt = .func f := ho.2
  subst hd
  obtain ⟨nm, q', ps, bd, sc, gl, cl, df, kd, doc, pm, an, cd, ct, bu⟩ := f
  cases bd with
  | stmts b =>
   simp only [Option.any_some, stB, Option.isSome_some, Bool.and_eq_true, beq_iff_eq, List.isEmpty_iff, true_and] at h
   obtain ⟨⟨⟨⟨rfl, rfl⟩, rfl⟩, rfl⟩, h5⟩ := h
   have er : recK K a = ⟨nm, q', ps, b, sc⟩ := by unfold recK; rw [q]; rfl
   rw [er]
   exact ⟨oc, od, osl, kd, doc, pm, an, cd, ct, hl, h5⟩
  | _ => simp [stB] at h
noncomputable def chkG (K : Frag) : Bool := gT.all fun p => nsIn K mainGlobals (nm p.1) == some (some (.ref p.2)) && keepIn K (.ref p.2)
noncomputable def chkM (K : Frag) : Bool := mT.all fun q => findIn K (.ref (cA q.1)) (Str.ofString q.2.2) == some (some (.ref (aFn q.2.1))) && typeIn K (.ref (aFn q.2.1)) == some (.type "function") && keepIn K (.ref (aFn q.2.1))
noncomputable def chkI (K : Frag) : Bool := iT.all fun q => findIn K (.ref (cA q.1)) "__init__" == some (some (.ref q.2)) && typeIn K (.ref q.2) == some (.type "function")
noncomputable def chkB (K : Frag) : Bool := bT.all fun i => nsIn K mainGlobals (nm i) == some none
theorem Jl {α β : Type} [BEq α] [LawfulBEq α] {i : α} {a : β} {l : List (α × β)} (h : l.lookup i = some a) : (i, a) ∈ l := by
 induction l with
 | nil => cases h
 | cons p l ih =>
  rw [List.lookup_cons] at h
  cases q : i == p.1 with
  | true => rw [q] at h; cases h; rw [eq_of_beq q]; exact List.mem_cons_self
  | false => rw [q] at h; exact List.mem_cons_of_mem _ (ih h)
theorem chkG_ {K : Frag} (h : chkG K = true) (i a) (e : gT.lookup i = some a) : nsIn K mainGlobals (nm i) = some (some (.ref a)) /\ keepIn K (.ref a) = true := by
 unfold chkG at h
 rw [List.all_eq_true] at h
 have := h _ (Jl e)
 rw [Bool.and_eq_true] at this
 exact ⟨eq_of_beq this.1, this.2⟩
theorem chkM_ {K : Frag} (h : chkM K = true) (i : Nat) (c f s) (e : mT[i]? = some (c, f, s)) : findIn K (.ref (cA c)) (Str.ofString s) = some (some (.ref (aFn f))) /\ typeIn K (.ref (aFn f)) = some (.type "function") /\ keepIn K (.ref (aFn f)) = true := by
 unfold chkM at h
 rw [List.all_eq_true] at h
 have := h _ (List.mem_of_getElem? e)
 rw [Bool.and_eq_true, Bool.and_eq_true] at this
 exact ⟨eq_of_beq this.1.1, eq_of_beq this.1.2, this.2⟩
theorem chkI_ {K : Frag} (h : chkI K = true) (c a) (e : iT.lookup c = some a) : findIn K (.ref (cA c)) "__init__" = some (some (.ref a)) /\ typeIn K (.ref a) = some (.type "function") := by
 unfold chkI at h
 rw [List.all_eq_true] at h
 have := h _ (Jl e)
 rw [Bool.and_eq_true] at this
 exact ⟨eq_of_beq this.1, eq_of_beq this.2⟩
theorem chkB_ {K : Frag} (h : chkB K = true) (i) (e : bT.contains i = true) : nsIn K mainGlobals (nm i) = some none := by
 unfold chkB at h
 rw [List.all_eq_true] at h
 exact eq_of_beq (h i (by simpa using e))
noncomputable def clsL : List Cls := [.null, .missing, .vector, .symbol, .call, .token, .reader, .row]
theorem clsL_ : ∀ {c : Cls}, c ≠ .error -> c ∈ clsL
 | .null, _ => by decide
 | .missing, _ => by decide
 | .vector, _ => by decide
 | .symbol, _ => by decide
 | .call, _ => by decide
 | .token, _ => by decide
 | .reader, _ => by decide
 | .row, _ => by decide
 | .error, h => absurd rfl h
noncomputable def chkC (K : Frag) : Bool := clsL.all fun c => findIn K (.ref (cA c)) "__getattribute__" == some (some (.builtin "object.__getattribute__")) && findIn K (.ref (cA c)) "__getattr__" == some none && hasDictIn K (cA c) && (zM c).all (fun x => findIn K (.ref (cA c)) x == some none) && noGet K none
 && findIn K (.ref (cA c)) "__setattr__" == some (some (.builtin "object.__setattr__")) && plainOver K (cA c) && (zM c).all (fun x => (takerIn K (cA c) x).any Option.isNone) && makesIn K (cA c)
theorem any_none {α : Type} {o : Option (Option α)} (h : o.any Option.isNone = true) : o = some none := by
 cases o with
 | none => cases h
 | some x => cases x with
  | none => rfl
  | some _ => cases h
theorem chkC_ {K : Frag} (h : chkC K = true) : KF K := by
 unfold chkC at h
 rw [List.all_eq_true] at h
 have g := fun c hc => h c (clsL_ hc)
 simp only [Bool.and_eq_true, List.all_eq_true] at g
 exact ⟨fun c hc => ⟨eq_of_beq (g c hc).1.1.1.1.1.1.1.1, eq_of_beq (g c hc).1.1.1.1.1.1.1.2, (g c hc).1.1.1.1.1.1.2⟩, fun c x hc hx => ⟨none, eq_of_beq ((g c hc).1.1.1.1.1.2 x hx), (g c hc).1.1.1.1.2⟩,
  fun c hc => ⟨eq_of_beq (g c hc).1.1.1.2, (g c hc).1.1.2⟩, fun c x hc hx => any_none ((g c hc).1.2 x hx), fun c hc => (g c hc).2⟩
theorem intsVRs {G : Gst} {vs : List Value} {ns : List Int} (h : IntsAre vs ns) : VRs G (ns.map V.int) vs := by
 induction h with
 | nil => exact .nil
 | cons _ _ _ ih => exact .cons ⟨_, rfl⟩ ih
set_option tactic.hygienic true in
theorem conn {K : Frag} {pr : Program} {w : World} {s₁ s' : Shared} {fa ls : Addr} {cdv : Value} {vs : List Value} {ns : List Int} {st' : St} {Q : Flow -> Shared -> Prop} {E : Value -> Shared -> Prop} {env : Env} {body : List Stmt}
  (KX : K.In s₁.heap) (kf : KF K) (ka : zJ K) (hlim : s₁.heap.NoLimit) (hblt : ∃ mb, s₁.heap.Ns builtinsNs mb /\ ∀ x : Str, x ≠ "__name__" -> mb x = bootBuiltins x)
  (F : Fr s₁.heap s₁.heap.objs.size s'.heap (fun x => [(nm 135, Value.ref ls)].reverse.lookup x)) (hL : s₁.heap.IsList ls vs.toArray) (hI : IntsAre vs ns) (hg : s'.gens = #[]) (hos : s'.os = s₁.os)
  (hlaw : Ze (run 220) ⟨[(nm 135, .ext (ns.map .int))], []⟩ = .ok (.ret (.bool true)) st')
  (hQ : ∀ s2, s₁.heap.StaysIn s2.heap -> s2.gens = #[] -> s2.os = s₁.os -> Q (.ret (.bool true)) s2)
  (henv : env = envOf Zr.qual Zr.scope s₁.heap.objs.size fa cdv) (hbody : body = Zr.body) :
  wpAny (model pr w) (callerA.deeper env) (execs body env) Q E s' := by
 subst hbody
 have bo : Bs.Ok ⟨pr, w, K, s₁.heap⟩ := ⟨KX, kf, hlim, hblt⟩
 have hs := s_law ka bo (c_all ka bo 220) s₁.heap.objs.size fa cdv []
 subst henv
 obtain ⟨oL, es, ep, hoL, hdL, _⟩ := id F.ns
 obtain ⟨ol, hol, hcl, nl, hdl⟩ := hL
 refine hs.run _ (fun a => if a = ls then some (.fz (.ext (ns.map .int))) else none) ⟨[(nm 135, .ext (ns.map .int))], []⟩ s' ⟨rfl, (by show 1 + claimMargin + 1 + 3 * 221 + 20 < recursionLimit; decide), (by show 4 + 3 + 20 * 221 + 4000 < cLine; decide +kernel), rfl⟩ ?_ Q E ?_
 ·have lsn : ls ≠ s₁.heap.objs.size := Nat.ne_of_lt (Heap.lt_size hol)
  refine ⟨⟨fun a g e => ?_, fun a g e hm => ?_, fun a b i e => ?_, fun a b i e => ?_⟩, fun a o e => F.keep a o e, fun a ha => ?_, ⟨_, F.ns⟩, (fun p hp => by cases hp), fun x v e => ?_, fun e he => ?_, hg⟩
  ·split at e
   ·rename_i q
    cases e
    subst q
    exact ⟨ol, nl, _, F.keep _ _ hol, hcl, hdl, intsVRs hI⟩
   ·cases e
  ·split at e
   ·cases e; cases hm
   ·cases e
  ·split at e <;> cases e
  ·split at e <;> cases e
  ·have ha' : a = s₁.heap.objs.size := by
    rcases ha with ha | ha
    ·exact ha
    ·cases ha
   subst ha'
   refine ⟨if_neg (Ne.symm lsn), ?_⟩
   cases q : s₁.heap.get? s₁.heap.objs.size with
   | none => rfl
   | some o => exact absurd (Heap.lt_size q) (Nat.lt_irrefl _)
  ·have hx : x = nm 135 /\ v = .ext (ns.map .int) := by
    rw [List.lookup_cons] at e
    by_cases q : x = nm 135
    ·subst q; simp at e; exact ⟨rfl, e.symm⟩
    ·have q' : (x == nm 135) = false := by simpa using q
     rw [q'] at e; cases e
   obtain ⟨rfl, rfl⟩ := hx
   refine ⟨.ref ls, ⟨ls, rfl, if_pos rfl⟩, ?_⟩
   have hk : (frm Zr s₁.heap.objs.size fa cdv []).env.kindOf (nm 135) = some .local := by kernel_rfl
   unfold Rd
   rw [hk]
   exact ⟨_, F.ns, by simp⟩
  ·rcases List.mem_cons.mp he with rfl | he
   ·refine ⟨(by show Zr.scope.kind ≠ _; rw [show Zr.scope.kind = .function by kernel_rfl]; intro q; cases q), s₁.heap.objs.size, oL, rfl, ?_, if_neg (Ne.symm lsn), hoL, fun vs q => by rw [hdL] at q; cases q⟩
    cases q : s₁.heap.get? s₁.heap.objs.size with
    | none => rfl
    | some o => exact absurd (Heap.lt_size q) (Nat.lt_irrefl _)
   ·cases he
 ·rw [hlaw]
  intro s2 G' fl e1 i2 r
  obtain ⟨c, rfl, rv⟩ := r
  cases rv
  exact hQ s2 i2.base i2.gens (e1.trans hos)
end
section
open PySem
theorem nmT_nodup : (nmT.map Str.ofString).Nodup := List.Pairwise.of_map nmC (fun _ _ h e => h (e ▸ rfl)) Xf.1
set_option tactic.hygienic true in
theorem nm_inj {i j : Nat} (h : nm i = nm j) : i = j := by
 have sh : ∀ k : Nat, ∀ s, nmT[k]? = some s -> (Str.ofString s).cps.size < 1000 := fun k s e => by
  have := Ko (List.mem_of_getElem? e)
  simp only [nmOk, Bool.and_eq_true, decide_eq_true_eq] at this
  exact this.1.1.2
 unfold nm at h
 split at h
 ·rename_i s hs
  split at h
  ·rename_i t ht
   have h1 : (nmT.map Str.ofString)[i]? = some (Str.ofString s) := by rw [List.getElem?_map, hs]; rfl
   have h2 : (nmT.map Str.ofString)[j]? = some (Str.ofString s) := by rw [List.getElem?_map, ht, h]; rfl
   exact (List.getElem?_inj (List.getElem?_eq_some_iff.mp h1).1 nmT_nodup).mp (h1.trans h2.symm)
  ·have := sh i s hs
   rw [h] at this
   simp at this
   lia
 ·split at h
  ·rename_i t ht
   have := sh j t ht
   rw [<- h] at this
   simp at this
   lia
  ·have := congrArg (fun x => x.cps.size) h
   simp at this
   exact this
theorem ZS {i j : Nat} (h : i ≠ j) : nm i ≠ nm j := fun e => h (nm_inj e)
theorem QT (i j : Nat) : (nm i == nm j) = (i == j) := by
 by_cases h : i = j
 ·subst h; simp
 ·have : (nm i == nm j) = false := by simpa using ZS h
  rw [this]; symm; simpa using h
noncomputable abbrev Nv := List (Nat × V)
noncomputable def FL (l : Nv) : Fs := l.map fun p => (nm p.1, p.2)
theorem jw (i : Nat) : ∀ l : Nv, (FL l).lookup (nm i) = l.lookup i
 | [] => rfl
 | (j, v) :: r => by
  show List.lookup (nm i) ((nm j, v) :: FL r) = _
  rw [List.lookup_cons, List.lookup_cons, QT, jw i r]
noncomputable def setN (i : Nat) (v : V) : Nv -> Nv
 | [] => [(i, v)]
 | (j, w) :: r => if i = j then (i, v) :: r else (j, w) :: setN i v r
theorem XJ (i : Nat) (v : V) (l : Nv) : zT (nm i) v (FL l) = FL (setN i v l) := by
 induction l with
 | nil => rfl
 | cons p r ih =>
  show zT (nm i) v ((nm p.1, p.2) :: FL r) = _
  unfold zT setN
  by_cases h : i = p.1
  ·rw [if_pos (congrArg nm h), if_pos h]; rfl
  ·rw [if_neg (ZS h), if_neg h, ih]; rfl
noncomputable def Has (lc : Fs) (l : Nv) : Prop := ∀ i v, l.lookup i = some v -> lc.lookup (nm i) = some v
theorem zK {i : Nat} {v : V} {l : Nv} : List.lookup i ((i, v) :: l) = some v := by simp [List.lookup_cons]
theorem ja {i j : Nat} {v w : V} {l : Nv} (h : (i == j) = false) (k : l.lookup i = some v) : List.lookup i ((j, w) :: l) = some v := by rw [List.lookup_cons, h]; exact k
theorem Has.set {lc : Fs} {l : Nv} (h : Has lc l) (i : Nat) (v : V) : Has (zT (nm i) v lc) ((i, v) :: l) := by
 intro j w e
 rw [zg]
 rw [List.lookup_cons] at e
 by_cases q : j = i
 ·subst q; simp at e; subst e; rw [if_pos rfl]
 ·have : (j == i) = false := by simpa using q
  rw [this] at e
  rw [if_neg (ZS q)]
  exact h j w e
theorem Has.FL {l : Nv} : Has (FL l) l := fun i v e => by rw [jw]; exact e
theorem Has.nil {lc : Fs} : Has lc [] := fun _ _ e => nomatch e
structure W {α : Type} (m : M α) (l : Nv) (hp : Hp) (Q : α -> Nv -> Hp -> Prop) (E : V -> V -> Hp -> Prop) : Prop where
 go : ∀ lc, Has lc l -> match m ⟨lc, hp⟩ with
  | .ok a s => ∃ l', Has s.lc l' /\ Q a l' s.hp
  | .exc k p s => E k p s.hp
  | .stuck => False
structure Call (n : Nat) (f : Fn) (vs : List V) (hp : Hp) (Q : V -> Hp -> Prop) (E : V -> V -> Hp -> Prop) : Prop where
 go : ∀ lc, match run n f vs ⟨lc, hp⟩ with
  | .ok v s => s.lc = lc /\ Q v s.hp
  | .exc k p s => E k p s.hp
  | .stuck => False
noncomputable def xM (b : M Fl) (Q : Fl -> Nv -> Hp -> Prop) (E : V -> V -> Hp -> Prop) (f : Fl) (l : Nv) (hp : Hp) : Prop := match f with
 | .nxt => W b l hp Q E
 | f => Q f l hp
noncomputable def Zw {α : Type} (t : Bool) (a b : M α) (l : Nv) (hp : Hp) (Q : α -> Nv -> Hp -> Prop) (E : V -> V -> Hp -> Prop) : Prop := if t then W a l hp Q E else W b l hp Q E
section
variable {α β γ : Type}
noncomputable abbrev kB (f : α -> M β) (Q : β -> Nv -> Hp -> Prop) (E : V -> V -> Hp -> Prop) : α -> Nv -> Hp -> Prop := fun a l hp => W (f a) l hp Q E
noncomputable abbrev kB2 (b : M β) (f : α -> β -> M γ) (Q : γ -> Nv -> Hp -> Prop) (E : V -> V -> Hp -> Prop) : α -> Nv -> Hp -> Prop := fun x l hp => W b l hp (kB (f x) Q E) E
noncomputable abbrev kI (a b : M α) (Q : α -> Nv -> Hp -> Prop) (E : V -> V -> Hp -> Prop) : Bool -> Nv -> Hp -> Prop := fun t l hp => Zw t a b l hp Q E
noncomputable abbrev kR (Q : Fl -> Nv -> Hp -> Prop) : V -> Nv -> Hp -> Prop := fun v l hp => Q (.ret v) l hp
noncomputable abbrev kL (i : Nat) (Q : Fl -> Nv -> Hp -> Prop) : V -> Nv -> Hp -> Prop := fun v l hp => Q .nxt ((i, v) :: l) hp
noncomputable abbrev kN (Q : Fl -> Nv -> Hp -> Prop) : α -> Nv -> Hp -> Prop := fun _ l hp => Q .nxt l hp
noncomputable abbrev kNot (Q : Bool -> Nv -> Hp -> Prop) : Bool -> Nv -> Hp -> Prop := fun t l hp => Q (!t) l hp
noncomputable abbrev kBo (Q : V -> Nv -> Hp -> Prop) : Bool -> Nv -> Hp -> Prop := fun t l hp => Q (.bool t) l hp
noncomputable abbrev kBn (Q : V -> Nv -> Hp -> Prop) : Bool -> Nv -> Hp -> Prop := fun t l hp => Q (.bool !t) l hp
noncomputable abbrev kAnd (b : M V) (Q : V -> Nv -> Hp -> Prop) (E : V -> V -> Hp -> Prop) : V -> Nv -> Hp -> Prop := fun v l hp => W (km v) l hp (kI b (pure v) Q E) E
noncomputable abbrev kOr (b : M V) (Q : V -> Nv -> Hp -> Prop) (E : V -> V -> Hp -> Prop) : V -> Nv -> Hp -> Prop := fun v l hp => W (km v) l hp (kI (pure v) b Q E) E
noncomputable abbrev kC (v : V) (Q : List V -> Nv -> Hp -> Prop) : List V -> Nv -> Hp -> Prop := fun vs l hp => Q (v :: vs) l hp
noncomputable abbrev kA (r : List (M V)) (Q : List V -> Nv -> Hp -> Prop) (E : V -> V -> Hp -> Prop) : V -> Nv -> Hp -> Prop := fun v l hp => W (qa r) l hp (kC v Q) E
noncomputable abbrev kTup (Q : V -> Nv -> Hp -> Prop) : List V -> Nv -> Hp -> Prop := fun vs l hp => vs.length <= zh /\ Q (.tup vs) l hp
noncomputable abbrev kLst (Q : V -> Nv -> Hp -> Prop) : List V -> Nv -> Hp -> Prop := fun vs l hp => vs.length <= zh /\ Q (.lst vs) l hp
noncomputable abbrev kCall (Q : V -> Nv -> Hp -> Prop) (l : Nv) : V -> Hp -> Prop := fun v hp' => Q v l hp'
noncomputable abbrev kDef (Q : V -> Hp -> Prop) : Fl -> Nv -> Hp -> Prop := fun fl _ hp' => Q (flV fl) hp'
noncomputable abbrev kM2 (ms : List (M V)) (g : List V -> M V) (self : V) (Q : V -> Nv -> Hp -> Prop) (E : V -> V -> Hp -> Prop) : α -> Nv -> Hp -> Prop := fun _ l hp => W (qa ms) l hp (kB (fun vs => g (self :: vs)) Q E) E
noncomputable abbrev kM (c : Cls) (ms : List (M V)) (g : List V -> M V) (Q : V -> Nv -> Hp -> Prop) (E : V -> V -> Hp -> Prop) : V -> Nv -> Hp -> Prop := fun self l hp => W (xO c self) l hp (kM2 ms g self Q E) E
noncomputable abbrev kAp2 (e : M V) (v : V) (Q : V -> Nv -> Hp -> Prop) (E : V -> V -> Hp -> Prop) : α -> Nv -> Hp -> Prop := fun _ l hp => W e l hp (kB (kK v) Q E) E
noncomputable abbrev kAp (e : M V) (Q : V -> Nv -> Hp -> Prop) (E : V -> V -> Hp -> Prop) : V -> Nv -> Hp -> Prop := fun v l hp => W (xi v) l hp (kAp2 e v Q E) E
noncomputable abbrev kSA (i : Nat) (o : M V) (Q : Fl -> Nv -> Hp -> Prop) (E : V -> V -> Hp -> Prop) : V -> Nv -> Hp -> Prop := fun v l hp => W o l hp (kB (fun ov => vR (nm i) ov v) (kN Q) E) E
noncomputable abbrev kRs2 (kv : V) (E : V -> V -> Hp -> Prop) : V -> Nv -> Hp -> Prop := fun pv _ hp => E kv pv hp
noncomputable abbrev kRs (p : M V) (E : V -> V -> Hp -> Prop) : V -> Nv -> Hp -> Prop := fun kv l hp => W p l hp (kRs2 kv E) E
end
section
variable {α β : Type} {l : Nv} {hp : Hp} {E : V -> V -> Hp -> Prop}
theorem z9 {m : M α} {Q : α -> Nv -> Hp -> Prop} (a : α) (hp' : Hp) (h : ∀ lc, Has lc l -> m ⟨lc, hp⟩ = .ok a ⟨lc, hp'⟩) (k : Q a l hp') : W m l hp Q E := by
 refine ⟨fun lc hl => ?_⟩
 rw [h lc hl]
 exact ⟨l, hl, k⟩
theorem qS {m : M α} {f : α -> M β} {Q : β -> Nv -> Hp -> Prop} (h : W m l hp (kB f Q E) E) : W (m >>= f) l hp Q E := by
 refine ⟨fun lc hl => ?_⟩
 have := h.go lc hl
 rw [M.bind_eq]
 cases hm : m ⟨lc, hp⟩ with
 | ok a s =>
  rw [hm] at this
  obtain ⟨l', h1, h2⟩ := this
  exact h2.go s.lc h1
 | exc k p s => rw [hm] at this; exact this
 | stuck => rw [hm] at this; exact this
theorem qr {a : α} {Q : α -> Nv -> Hp -> Prop} (h : Q a l hp) : W (pure a : M α) l hp Q E := ⟨fun lc hl => ⟨l, hl, h⟩⟩
theorem qk {m : M α} {Q Q' : α -> Nv -> Hp -> Prop} {E' : V -> V -> Hp -> Prop} (h : W m l hp Q' E') (hq : ∀ a l' hp', Q' a l' hp' -> Q a l' hp') (he : ∀ k p hp', E' k p hp' -> E k p hp') : W m l hp Q E := by
 refine ⟨fun lc hl => ?_⟩
 have := h.go lc hl
 cases hm : m ⟨lc, hp⟩ with
 | ok a s => rw [hm] at this; obtain ⟨l', h1, h2⟩ := this; exact ⟨l', h1, hq _ _ _ h2⟩
 | exc k p s => rw [hm] at this; exact he _ _ _ this
 | stuck => rw [hm] at this; exact this
theorem ve {m : M α} {l' : Nv} {Q : α -> Nv -> Hp -> Prop} (hs : ∀ i v, l'.lookup i = some v -> l.lookup i = some v) (h : W m l' hp Q E) : W m l hp Q E := ⟨fun lc hl => h.go lc fun i v e => hl i v (hs i v e)⟩
theorem Call.mono {n : Nat} {f : Fn} {vs : List V} {Q Q' : V -> Hp -> Prop} {E' : V -> V -> Hp -> Prop} (h : Call n f vs hp Q' E') (hq : ∀ v hp', Q' v hp' -> Q v hp') (he : ∀ k p hp', E' k p hp' -> E k p hp') : Call n f vs hp Q E := by
 refine ⟨fun lc => ?_⟩
 have := h.go lc
 cases hm : run n f vs ⟨lc, hp⟩ with
 | ok a s => rw [hm] at this; exact ⟨this.1, hq _ _ this.2⟩
 | exc k p s => rw [hm] at this; exact he _ _ _ this
 | stuck => rw [hm] at this; exact this
theorem qI {n : Nat} {f : Fn} {vs : List V} {Q : V -> Nv -> Hp -> Prop} (h : Call n f vs hp (kCall Q l) E) : W (run n f vs) l hp Q E := by
 refine ⟨fun lc hl => ?_⟩
 have := h.go lc
 cases hm : run n f vs ⟨lc, hp⟩ with
 | ok a s => rw [hm] at this; exact ⟨l, by rw [this.1]; exact hl, this.2⟩
 | exc k p s => rw [hm] at this; exact this
 | stuck => rw [hm] at this; exact this
theorem zV {n : Nat} {f : Fn} {vs : List V} {Q : V -> Hp -> Prop} {v : V} {hp' : Hp} (h : ∀ lc, run n f vs ⟨lc, hp⟩ = .ok v ⟨lc, hp'⟩) (k : Q v hp') : Call n f vs hp Q E := by
 refine ⟨fun lc => ?_⟩; rw [h lc]; exact ⟨rfl, k⟩
theorem qh {n : Nat} {f : Fn} {vs : List V} {Q : V -> Hp -> Prop} (ks : List Nat) (d : Option V) (b : M Fl) (h1 : run (n + 1) f vs = qq (ks.map nm) d b vs) (h2 : vs.length = ks.length)
  (h : W b (ks.zip vs) hp (kDef Q) E) : Call (n + 1) f vs hp Q E := by
 refine ⟨fun lc => ?_⟩
 have hf : xu (ks.map nm) d vs = some ((ks.map nm).zip vs) := by unfold xu; rw [if_pos (by rw [h2, List.length_map])]
 have hz : ∀ (ks : List Nat) (vs : List V), (ks.map nm).zip vs = FL (ks.zip vs) := by
  intro ks
  induction ks with
  | nil => intro vs; rfl
  | cons k ks ih => intro vs; cases vs with
   | nil => rfl
   | cons v vs => show (nm k, v) :: (ks.map nm).zip vs = _; rw [ih]; rfl
 have := h.go (FL (ks.zip vs)) Has.FL
 rw [h1]
 unfold qq wm
 rw [hf, hz]
 dsimp only
 cases hm : b ⟨FL (ks.zip vs), hp⟩ with
 | ok a s => rw [hm] at this; obtain ⟨_, _, h3⟩ := this; exact ⟨rfl, h3⟩
 | exc k p s => rw [hm] at this; exact this
 | stuck => rw [hm] at this; exact this
theorem Call_dflt {n : Nat} {f : Fn} {vs : List V} {Q : V -> Hp -> Prop} (ks : List Nat) (d : V) (b : M Fl) (h1 : run (n + 1) f = qq (ks.map nm) (some d) b) (h2 : vs.length + 1 = ks.length)
  (h : Call (n + 1) f (vs ++ [d]) hp Q E) : Call (n + 1) f vs hp Q E := by
 refine ⟨fun lc => ?_⟩
 have := h.go lc
 rw [h1] at this ⊢
 have e : qq (ks.map nm) (some d) b (vs ++ [d]) = qq (ks.map nm) (some d) b vs := by
  unfold qq
  have e1 : xu (ks.map nm) (some d) (vs ++ [d]) = some ((ks.map nm).zip (vs ++ [d])) := by unfold xu; rw [if_pos (by simp; exact Nat.le_antisymm (le1 (eL h2)) (le1 (eR h2)))]
  have e2 : xu (ks.map nm) (some d) vs = some ((ks.map nm).zip (vs ++ [d])) := by
   unfold xu; rw [if_neg (by simp; exact Nat.ne_of_lt (lt1 (eL h2)))]; dsimp only; rw [if_pos (by simp; exact Nat.le_antisymm (le1 (eL h2)) (le1 (eR h2)))]
  rw [e1, e2]
 rw [e] at this
 exact this
section
variable {Q : Fl -> Nv -> Hp -> Prop}
theorem zz (h : Q .nxt l hp) : W qK l hp Q E := qr h
theorem zR {a b : M Fl} (h : W a l hp (xM b Q E) E) : W (qF a b) l hp Q E := by
 unfold qF
 refine qS (qk h (fun f l' hp' q => ?_) fun _ _ _ e => e)
 cases f with
 | nxt => exact q
 | brk => exact qr q
 | cont => exact qr q
 | ret v => exact qr q
theorem qY {b : M Fl} (h : W b l hp Q E) : xM b Q E .nxt l hp := h
theorem QH {b : M Fl} {v : V} (h : Q (.ret v) l hp) : xM b Q E (.ret v) l hp := h
theorem seqK_brk {b : M Fl} (h : Q .brk l hp) : xM b Q E .brk l hp := h
theorem W_sRet {e : M V} (h : W e l hp (kR Q) E) : W (qs e) l hp Q E := qS (qk h (fun _ _ _ q => qr q) fun _ _ _ e => e)
theorem vc {i : Nat} {v : V} {Q : Unit -> Nv -> Hp -> Prop} (h : Q () ((i, v) :: l) hp) : W (xL (nm i) v) l hp Q E := ⟨fun _ hl => ⟨_, hl.set i v, h⟩⟩
theorem Qw {i : Nat} {e : M V} (h : W e l hp (kL i Q) E) : W (qy (nm i) e) l hp Q E :=
 qS (qk h (fun _ _ _ q => qS (vc (qr q))) fun _ _ _ e => e)
theorem Xx {e : M V} (h : W e l hp (kN Q) E) : W (qv e) l hp Q E := qS (qk h (fun _ _ _ q => qr q) fun _ _ _ e => e)
theorem Zi {c : M Bool} {a b : M Fl} (h : W c l hp (kI a b Q E) E) : W (sIf c a b) l hp Q E := qS (qk h (fun t _ _ q => by cases t <;> exact q) fun _ _ _ e => e)
theorem W_brk (h : Q .brk l hp) : W (pure .brk : M Fl) l hp Q E := qr h
theorem W_sRaise {k p : M V} (h : W k l hp (kRs p E) E) : W (xN k p) l hp Q E := by
 unfold xN
 refine qS (qk h (fun kv l' hp' q => qS (qk q (fun pv l2 hp2 q2 => ?_) fun _ _ _ e => e)) fun _ _ _ e => e)
 refine ⟨fun lc _ => ?_⟩
 exact q2
end
theorem yN {Q : α -> Nv -> Hp -> Prop} {a b : M α} (h : W a l hp Q E) : Zw true a b l hp Q E := h
theorem Zu {Q : α -> Nv -> Hp -> Prop} {a b : M α} (h : W b l hp Q E) : Zw false a b l hp Q E := h
theorem zL {Q : α -> Nv -> Hp -> Prop} {t : Bool} {a b : M α} (h1 : t = true -> W a l hp Q E) (h2 : t = false -> W b l hp Q E) : Zw t a b l hp Q E := by
 cases t; exact h2 rfl; exact h1 rfl
section
variable {Q : Bool -> Nv -> Hp -> Prop}
theorem Qx {b : Bool} (h : Q b l hp) : W (km (.bool b)) l hp Q E := qr h
theorem W_cVal {e : M V} (h : W e l hp (kB km Q E) E) : W (z8 e) l hp Q E := qS h
theorem W_cNot {c : M Bool} (h : W c l hp (kNot Q) E) : W (KC c) l hp Q E := qS (qk h (fun _ _ _ q => qr q) fun _ _ _ e => e)
theorem W_cAnd {a b : M Bool} (h : W a l hp (kI b (pure false) Q E) E) : W (jG a b) l hp Q E := qS (qk h (fun t _ _ q => by cases t <;> exact q) fun _ _ _ e => e)
theorem W_cOr {a b : M Bool} (h : W a l hp (kI (pure true) b Q E) E) : W (cOr a b) l hp Q E := qS (qk h (fun t _ _ q => by cases t <;> exact q) fun _ _ _ e => e)
theorem yU {op : CmpOp} {a b : M V} (h : W a l hp (kB2 b (kq op) Q E) E) : W (qi op a b) l hp Q E := qS (qk h (fun _ _ _ q => qS q) fun _ _ _ e => e)
theorem zU {op : CmpOp} {x y : V} {t : Bool} (e : jq hp op x y = some t) (h : Q t l hp) : W (kq op x y) l hp Q E :=
 z9 t hp (fun lc _ => by unfold kq; rw [e]) h
end
section
variable {Q : V -> Nv -> Hp -> Prop}
theorem kD {i : Nat} {v : V} (e : l.lookup i = some v) (h : Q v l hp) : W (qD (nm i)) l hp Q E :=
 z9 v hp (fun lc hl => by unfold qD; rw [hl i v e]) h
theorem W_eAnd {a b : M V} (h : W a l hp (kAnd b Q E) E) : W (Ky a b) l hp Q E :=
 qS (qk h (fun _ _ _ q => qS (qk q (fun t _ _ q => by cases t <;> exact q) fun _ _ _ e => e)) fun _ _ _ e => e)
theorem W_eOr {a b : M V} (h : W a l hp (kOr b Q E) E) : W (eOr a b) l hp Q E :=
 qS (qk h (fun _ _ _ q => qS (qk q (fun t _ _ q => by cases t <;> exact q) fun _ _ _ e => e)) fun _ _ _ e => e)
theorem W_eNot {a : M V} (h : W a l hp (kB km (kBn Q) E) E) : W (eNot a) l hp Q E :=
 qS (qk h (fun _ _ _ q => qS (qk q (fun t _ _ q => qr q) fun _ _ _ e => e)) fun _ _ _ e => e)
theorem W_eIf {c : M Bool} {a b : M V} (h : W c l hp (kI a b Q E) E) : W (eIf c a b) l hp Q E := qS (qk h (fun t _ _ q => by cases t <;> exact q) fun _ _ _ e => e)
theorem W_eCmp {op : CmpOp} {a b : M V} (h : W a l hp (kB2 b (kq op) (kBo Q) E) E) : W (wF op a b) l hp Q E :=
 qS (qk h (fun _ _ _ q => qS (qk q (fun _ _ _ q => qS (qk q (fun _ _ _ q => qr q) fun _ _ _ e => e)) fun _ _ _ e => e)) fun _ _ _ e => e)
theorem W_eAttr {i : Nat} {e : M V} (h : W e l hp (kB (xk (nm i)) Q E) E) : W (qd (nm i) e) l hp Q E := qS h
theorem W_attrR {i j : Nat} {c : Cls} {fs : Nv} {v : V} (e : hp[j]? = some (.obj c (FL fs))) (hc : c ≠ .error) (hv : fs.lookup i = some v) (h : Q v l hp) : W (xk (nm i) (.ref j)) l hp Q E :=
 z9 v hp (fun lc _ => by
  unfold xk
  simp only [e]
  cases c <;> first | exact absurd rfl hc | simp only [jw, hv]) h
theorem X7 {i : Nat} {c : Cls} {fs : Nv} {v : V} (hc : c ≠ .error) (hv : fs.lookup i = some v) (h : Q v l hp) : W (xk (nm i) (.obj c (FL fs))) l hp Q E :=
 z9 v hp (fun lc _ => by
  unfold xk
  cases c <;> first | exact absurd rfl hc | simp only [jw, hv]) h
theorem KW {a b : M V} (h : W a l hp (kB2 b zS Q E) E) : W (qV a b) l hp Q E := qS (qk h (fun _ _ _ q => qS q) fun _ _ _ e => e)
theorem QQ {v : V} {k : Int} {s : St} (h : ∀ x, v ≠ .str x) : zS v (.int k) s = (match zl s.hp v with
  | some l => match (xf k l.length).bind (l[·]?) with | some w => if -(2 ^ 62) <= k /\ k < 2 ^ 62 then .ok w s else .stuck | none => .stuck
  | none => .stuck) := by cases v <;> first | exact absurd rfl (h _) | rfl
theorem Km {v : V} {x : Str} {s : St} : zS v (.str x) s = (match dictAt s.hp v with
  | some kv => match kv.lookup x with | some w => .ok w s | none => .stuck
  | none => .stuck) := rfl
theorem JT {hp : Hp} {v : V} {xs : List V} (e : zl hp v = some xs) : ∀ x, v ≠ .str x := fun x q => by subst q; simp [zl, qo] at e
theorem JH {x w : V} {xs : List V} {k : Nat} (e : zl hp x = some xs) (hk : xs[k]? = some w) (hz : k < 2 ^ 62) (h : Q w l hp) : W (zS x (.int (k : Int))) l hp Q E :=
 z9 w hp (fun lc _ => by
  have hlt := (List.getElem?_eq_some_iff.mp hk).1
  have e1 : xf (k : Int) xs.length = some k := by unfold xf; rw [if_pos (by walk_at "l"), if_pos (by walk_at "l")]; simp
  rw [QQ (JT e)]
  rw [show zl (St.mk lc hp).hp x = some xs from e]
  dsimp only
  rw [e1]
  dsimp only [Option.bind]
  rw [hk]
  dsimp only
  rw [if_pos ⟨by lia, by lia⟩]) h
theorem zZ {x w : V} {xs : List V} {k : Int} (e : zl hp x = some xs) (h0 : 0 <= k) (hk : xs[k.toNat]? = some w) (hz : k < 2 ^ 62) (h : Q w l hp) : W (zS x (.int k)) l hp Q E := by
 have e1 : k = (k.toNat : Int) := by lia
 rw [e1]
 exact JH e hk (by walk_at "l") h
theorem W_last {x w : V} {xs : List V} (e : zl hp x = some xs) (hk : xs.getLast? = some w) (h : Q w l hp) : W (zS x (.int (-1))) l hp Q E :=
 z9 w hp (fun lc _ => by
  rw [List.getLast?_eq_getElem?] at hk
  have hlt := (List.getElem?_eq_some_iff.mp hk).1
  have e1 : xf (-1) xs.length = some (xs.length - 1) := by
   unfold xf; rw [if_neg (by walk_at "l"), if_pos (by walk_at "l")]
   congr 1
   lia
  rw [QQ (JT e)]
  rw [show zl (St.mk lc hp).hp x = some xs from e]
  dsimp only
  rw [e1]
  dsimp only [Option.bind]
  rw [hk]
  dsimp only
  rw [if_pos ⟨by lia, by lia⟩]) h
theorem W_key {x w : V} {kv : Fs} {k : Str} (e : dictAt hp x = some kv) (hk : kv.lookup k = some w) (h : Q w l hp) : W (zS x (.str k)) l hp Q E :=
 z9 w hp (fun lc _ => by
  rw [Km, show dictAt (St.mk lc hp).hp x = some kv from e]
  dsimp only
  rw [hk]) h
theorem X6 {Q : List V -> Nv -> Hp -> Prop} (h : Q [] l hp) : W (qa []) l hp Q E := qr h
theorem wZ {m : M V} {r : List (M V)} {Q : List V -> Nv -> Hp -> Prop} (h : W m l hp (kA r Q E) E) : W (qa (m :: r)) l hp Q E :=
 qS (qk h (fun _ _ _ q => qS (qk q (fun _ _ _ q => qr q) fun _ _ _ e => e)) fun _ _ _ e => e)
theorem W_eTup {ms : List (M V)} (h : W (qa ms) l hp (kTup Q) E) : W (zF ms) l hp Q E :=
 qS (qk h (fun vs _ _ q => z9 _ _ (fun lc _ => by unfold pTup; rw [if_pos q.1]) q.2) fun _ _ _ e => e)
theorem W_eLst {ms : List (M V)} (h : W (qa ms) l hp (kLst Q) E) : W (q8 ms) l hp Q E :=
 qS (qk h (fun vs _ _ q => z9 _ _ (fun lc _ => by unfold pLst; rw [if_pos q.1]) q.2) fun _ _ _ e => e)
structure Upd (hp : Hp) (j : Nat) (c : jE) (hp' : Hp) : Prop where
 len : hp'.length = hp.length
 at_ : hp'[j]? = some c
 ne : ∀ i, i ≠ j -> hp'[i]? = hp[i]?
structure New (hp : Hp) (c : jE) (hp' : Hp) : Prop where
 len : hp'.length = hp.length + 1
 at_ : hp'[hp.length]? = some c
 old : ∀ i, i < hp.length -> hp'[i]? = hp[i]?
theorem Upd.set {j : Nat} {c c₀ : jE} (h : hp[j]? = some c₀) : Upd hp j c (hp.set j c) :=
 ⟨by simp, by rw [List.getElem?_set_self (List.getElem?_eq_some_iff.mp h).1], fun i hi => by rw [List.getElem?_set_ne (Ne.symm hi)]⟩
theorem New.app {c : jE} : New hp c (hp ++ [c]) := ⟨by simp, by simp, fun i hi => by rw [List.getElem?_append_left hi]⟩
theorem New.keep {c d : jE} {hp' : Hp} (x : New hp c hp') {i : Nat} (h : hp[i]? = some d) : hp'[i]? = some d := (x.old i (List.getElem?_eq_some_iff.mp h).1).trans h
theorem Upd.keep {j : Nat} {c d d0 : jE} {hp' : Hp} (x : Upd hp j c hp') {i : Nat} (h : hp[i]? = some d) (h0 : hp[j]? = some d0) (hd : d ≠ d0) : hp'[i]? = some d :=
 (x.ne i (fun q => hd (by rw [q, h0] at h; exact (Option.some.inj h).symm))).trans h
theorem W_eLstC {ms : List (M V)} (h : W (qa ms) l hp (fun vs l hp => vs.length <= zh /\ ∀ hp', New hp (.lst vs) hp' -> Q (.ref hp.length) l hp') E) : W (vY ms) l hp Q E :=
 qS (qk h (fun vs _ hp₁ q => z9 (.ref hp₁.length) (hp₁ ++ [.lst vs]) (fun lc _ => by unfold pLstC; rw [if_pos q.1]) (q.2 _ .app)) fun _ _ _ e => e)
theorem JI {ks : List Nat} {ms : List (M V)} (h : W (qa ms) l hp (fun vs l hp => (vs.length = ks.length /\ ks.Nodup) /\ ∀ hp', New hp (.dct (FL (ks.zip vs))) hp' -> Q (.ref hp.length) l hp') E) : W (eDct (ks.map nm) ms) l hp Q E := by
 refine qS (qk h (fun vs _ hp₁ q => z9 (.ref hp₁.length) (hp₁ ++ [.dct (FL (ks.zip vs))]) (fun lc _ => ?_) (q.2 _ .app)) fun _ _ _ e => e)
 obtain ⟨⟨q1, q2⟩, _⟩ := q
 have hz : ∀ (ks : List Nat) (vs : List V), (ks.map nm).zip vs = FL (ks.zip vs) := by
  intro ks
  induction ks with
  | nil => intro vs; rfl
  | cons k ks ih => intro vs; cases vs with
   | nil => rfl
   | cons v vs => show (nm k, v) :: (ks.map nm).zip vs = _; rw [ih]; rfl
 have hm : ((ks.map nm).zip vs).map (·.1) = ks.map nm := wa _ _ (by rw [List.length_map]; exact q1)
 have hn : (ks.map nm).Nodup := List.Pairwise.map nm (fun a b h => ZS h) q2
 unfold pDct
 rw [if_pos ⟨hm, hn⟩, hz]
theorem W_eBin {op : Operator} {a b : M V} (h : W a l hp (kB2 b (QR op) Q E) E) : W (zf op a b) l hp Q E := qS (qk h (fun _ _ _ q => qS q) fun _ _ _ e => e)
theorem W_add {x y : Int} (h : Q (.int (x + y)) l hp) : W (QR .Add (.int x) (.int y)) l hp Q E := z9 _ _ (fun lc _ => rfl) h
theorem W_sub {x y : Int} (h : Q (.int (x - y)) l hp) : W (QR .Sub (.int x) (.int y)) l hp Q E := z9 _ _ (fun lc _ => rfl) h
theorem Zj {x y : Int} (hy : y ≠ 0) (h : Q (.int (x.fmod y)) l hp) : W (QR .Mod (.int x) (.int y)) l hp Q E := z9 _ _ (fun lc _ => by show (if y ≠ 0 then _ else _) = _; rw [if_pos hy]) h
theorem jP {x y : V} {xs ys : List V} (e1 : qo hp x = some xs) (e2 : qo hp y = some ys) (hz : xs.length + ys.length <= zh) (h : Q (.lst (xs ++ ys)) l hp) : W (QR .Add x y) l hp Q E :=
 z9 _ _ (fun lc _ => by
  have n1 : kP x = none := by cases x <;> first | rfl | cases e1
  show on2 (kP x) (kP y) _ (on2 (qo hp x) (qo hp y) _ _) = _
  rw [n1, e1, e2]
  exact if_pos hz) h
theorem W_eNeg {a : M V} (h : W a l hp (kB pNeg Q E) E) : W (Kw a) l hp Q E := qS h
theorem W_pNeg {i : Int} (h : Q (.int (-i)) l hp) : W (pNeg (.int i)) l hp Q E := qr h
theorem X0 {v : V} {n : Nat} (e : yd hp v = some n) (hz : n <= 2 ^ 30) (h : Q (.int n) l hp) : W (wE v) l hp Q E := z9 _ _ (fun lc _ => by unfold wE; rw [show yd (St.mk lc hp).hp v = some n from e]; dsimp only; rw [if_pos hz]) h
theorem XH {v : V} {xs : List V} (e : zl hp v = some xs) (hz : xs.length <= zh) (h : Q (.lst xs) l hp) : W (ko v) l hp Q E := z9 _ _ (fun lc _ => by unfold ko; rw [show zl (St.mk lc hp).hp v = some xs from e]; dsimp only; rw [if_pos hz]) h
theorem W_listD {v : V} {kv : Fs} (e0 : zl hp v = none) (e : dictAt hp v = some kv) (hz : kv.length <= zh) (h : Q (.lst (kv.map fun p => .str p.1)) l hp) : W (ko v) l hp Q E := z9 _ _ (fun lc _ => by unfold ko; rw [show zl (St.mk lc hp).hp v = none from e0]; dsimp only; rw [show dictAt (St.mk lc hp).hp v = some kv from e]; dsimp only; rw [if_pos hz]) h
theorem W_pMax {a b : Int} (h : Q (.int (if b > a then b else a)) l hp) : W (Kl (.int a) (.int b)) l hp Q E := qr h
theorem W_pInt {a : Int} (h : Q (.int a) l hp) : W (pInt (.int a)) l hp Q E := qr h
theorem W_pAbs {a : Int} (h : Q (.int (if a < 0 then -a else a)) l hp) : W (pAbs (.int a)) l hp Q E := qr h
theorem W_from {k : Nat} {e : M V} (h : W e l hp (kB (Jg k) Q E) E) : W (Zb k e) l hp Q E := qS h
theorem wx {k : Nat} {v : V} {xs : List V} (e : qo hp v = some xs) (hz : xs.length <= zh) (h : Q (.lst (xs.drop k)) l hp) : W (Jg k v) l hp Q E := z9 _ _ (fun lc _ => by unfold Jg; rw [show qo (St.mk lc hp).hp v = some xs from e]; dsimp only; rw [if_pos hz]) h
theorem W_fromC {k : Nat} {e : M V} (h : W e l hp (kB (yJ k) Q E) E) : W (Kx k e) l hp Q E := qS h
theorem W_pFromC {k : Nat} {v : V} {xs : List V} (e : qo hp v = some xs) (hz : xs.length <= zh) (h : ∀ hp', New hp (.lst (xs.drop k)) hp' -> Q (.ref hp.length) l hp') : W (yJ k v) l hp Q E := z9 _ _ (fun lc _ => by unfold yJ; rw [show qo (St.mk lc hp).hp v = some xs from e]; dsimp only; rw [if_pos hz]) (h _ .app)
theorem W_upto {k : Nat} {e : M V} (h : W e l hp (kB (Jf k) Q E) E) : W (Xp k e) l hp Q E := qS h
theorem Xy {k : Nat} {v : V} {xs : List V} (e : wh hp v = some xs) (hz : xs.length <= zh) (h : Q (.lst (xs.take k)) l hp) : W (Jf k v) l hp Q E := z9 _ _ (fun lc _ => by unfold Jf; rw [show wh (St.mk lc hp).hp v = some xs from e]; dsimp only; rw [if_pos hz]) h
theorem W_eMeth {c : Cls} {o : M V} {ms : List (M V)} {g : List V -> M V} (h : W o l hp (kM c ms g Q E) E) : W (ql c o ms g) l hp Q E :=
 qS (qk h (fun _ _ _ q => qS (qk q (fun _ _ _ q => qS q) fun _ _ _ e => e)) fun _ _ _ e => e)
theorem W_isObj {c : Cls} {j : Nat} {fs : Fs} {Q : Unit -> Nv -> Hp -> Prop} (e : hp[j]? = some (.obj c fs)) (h : Q () l hp) : W (xO c (.ref j)) l hp Q E := z9 _ _ (fun lc _ => by unfold xO; simp [e]) h
theorem W_isVecT {fs : Fs} (h : Q (.bool true) l hp) : W (QP (.obj .vector fs)) l hp Q E := qr h
theorem W_isVecF {fs : Fs} (h : Q (.bool false) l hp) : W (QP (.obj .null fs)) l hp Q E := qr h
theorem W_eAppend {o e : M V} (h : W o l hp (kAp e Q E) E) : W (ze o e) l hp Q E :=
 qS (qk h (fun _ _ _ q => qS (qk q (fun _ _ _ q => qS q) fun _ _ _ e => e)) fun _ _ _ e => e)
theorem vd {j : Nat} {xs : List V} {Q : Unit -> Nv -> Hp -> Prop} (e : hp[j]? = some (.lst xs)) (h : Q () l hp) : W (xi (.ref j)) l hp Q E := z9 _ _ (fun lc _ => by unfold xi; simp [qo, e]) h
theorem zQ {j : Nat} {xs : List V} {v : V} (e : hp[j]? = some (.lst xs)) (hz : xs.length <= zh) (h : ∀ hp', Upd hp j (.lst (xs ++ [v])) hp' -> Q .none l hp') : W (kK (.ref j) v) l hp Q E :=
 z9 _ _ (fun lc _ => by unfold kK; simp only [j6, Zp, Option.bind_some, lstC, e]; rw [if_pos hz]) (h _ (.set e))
theorem W_ePop {o : M V} (h : W o l hp (kB pPop Q E) E) : W (Kv o) l hp Q E := qS h
theorem Qy {j : Nat} {xs : List V} {v : V} (e : hp[j]? = some (.lst (xs ++ [v]))) (hz : (xs ++ [v]).length <= zh) (h : ∀ hp', Upd hp j (.lst xs) hp' -> Q v l hp') : W (pPop (.ref j)) l hp Q E :=
 z9 _ _ (fun lc _ => by unfold pPop; simp only [j6, Zp, Option.bind_some, lstC, e]; rw [if_pos hz]; simp) (h _ (.set e))
end
section
variable {Q : Fl -> Nv -> Hp -> Prop}
theorem XF {i : Nat} {o e : M V} (h : W e l hp (kSA i o Q E) E) : W (wL (nm i) o e) l hp Q E :=
 qS (qk h (fun _ _ _ q => qS (qk q (fun _ _ _ q => qS (qk q (fun _ _ _ q => qr q) fun _ _ _ e => e)) fun _ _ _ e => e)) fun _ _ _ e => e)
theorem Qv {i j : Nat} {c : Cls} {fs : Nv} {v w : V} {Q : Unit -> Nv -> Hp -> Prop} (e : hp[j]? = some (.obj c (FL fs))) (hc : c ≠ .error) (hv : fs.lookup i = some w) (h : ∀ hp', Upd hp j (.obj c (FL (setN i v fs))) hp' -> Q () l hp') :
  W (vR (nm i) (.ref j) v) l hp Q E := z9 _ _ (fun lc _ => by
   unfold vR; simp only [e]
   rw [if_pos ⟨hc, by rw [jw, hv]; rfl⟩, XJ]) (h _ (.set e))
theorem XE {o i e : M V} (h : W e l hp (fun v l hp => W o l hp (fun ov l hp => W i l hp (fun iv l hp => W (jM ov iv v) l hp (fun _ l hp => Q .nxt l hp) E) E) E) E) : W (xd o i e) l hp Q E :=
 qS (qk h (fun _ _ _ q => qS (qk q (fun _ _ _ q => qS (qk q (fun _ _ _ q => qS (qk q (fun _ _ _ q => qr q) fun _ _ _ e => e)) fun _ _ _ e => e)) fun _ _ _ e => e)) fun _ _ _ e => e)
theorem Qu {j : Nat} {xs : List V} {k : Int} {v : V} {Q : Unit -> Nv -> Hp -> Prop} (e : hp[j]? = some (.lst xs)) (h0 : 0 <= k) (h1 : k < xs.length) (hz : xs.length <= zh) (h : ∀ hp', Upd hp j (.lst (xs.set k.toNat v)) hp' -> Q () l hp') :
  W (jM (.ref j) (.int k) v) l hp Q E := z9 _ _ (fun lc _ => by unfold jM; simp only [j6, Zp, Option.bind_some, lstC, e]; rw [if_pos ⟨h0, h1, hz⟩]) (h _ (.set e))
theorem vz {i j : Nat} {kv : Nv} {v : V} {Q : Unit -> Nv -> Hp -> Prop} (e : hp[j]? = some (.dct (FL kv))) (hz : kv.length <= zh) (h : ∀ hp', Upd hp j (.dct (FL (setN i v kv))) hp' -> Q () l hp') :
  W (jM (.ref j) (.str (nm i)) v) l hp Q E := z9 _ _ (fun lc _ => by unfold jM; simp only [zv, Zp, Option.bind_some, dctC, e]; rw [if_pos (by simpa [FL] using hz), XJ]) (h _ (.set e))
theorem W_sAug {op : Operator} {i : Nat} {e : M V} {a : V} (ha : l.lookup i = some a) (h : W e l hp (kB (Jj op a) (kL i Q) E) E) : W (sAug op (nm i) e) l hp Q E :=
 qS (kD ha (qS (qk h (fun _ _ _ q => qS (qk q (fun _ _ _ q => qS (vc (qr q))) fun _ _ _ e => e)) fun _ _ _ e => e)))
theorem W_augAdd {x y : Int} {Q : V -> Nv -> Hp -> Prop} (h : Q (.int (x + y)) l hp) : W (Jj .Add (.int x) (.int y)) l hp Q E := qr h
theorem W_augSub {x y : Int} {Q : V -> Nv -> Hp -> Prop} (h : Q (.int (x - y)) l hp) : W (Jj .Sub (.int x) (.int y)) l hp Q E := qr h
theorem W_sAugSub {op : Operator} {o i e : M V} (h : W o l hp (fun ov l hp => W i l hp (fun iv l hp => W (zS ov iv) l hp (fun a l hp => W e l hp (fun b l hp => W (Jj op a b) l hp (fun v l hp => W (jM ov iv v) l hp (fun _ l hp => Q .nxt l hp) E) E) E) E) E) E) : W (jQ op o i e) l hp Q E :=
 qS (qk h (fun _ _ _ q => qS (qk q (fun _ _ _ q => qS (qk q (fun _ _ _ q => qS (qk q (fun _ _ _ q => qS (qk q (fun _ _ _ q => qS (qk q (fun _ _ _ q => qr q) fun _ _ _ e => e)) fun _ _ _ e => e)) fun _ _ _ e => e)) fun _ _ _ e => e)) fun _ _ _ e => e)) fun _ _ _ e => e)
theorem KS {Q : Unit -> Nv -> Hp -> Prop} (h : Q () l hp) : W (xE [] []) l hp Q E := qr h
theorem JE {i : Nat} {xs : List Str} {v : V} {vs : List V} {Q : Unit -> Nv -> Hp -> Prop} (h : W (xE xs vs) ((i, v) :: l) hp Q E) : W (xE (nm i :: xs) (v :: vs)) l hp Q E := qS (vc h)
theorem W_sUnpack {xs : List Str} {e : M V} (h : W e l hp (kB (xh xs) (kN Q) E) E) : W (jy xs e) l hp Q E :=
 qS (qk h (fun _ _ _ q => qS (qk q (fun _ _ _ q => qr q) fun _ _ _ e => e)) fun _ _ _ e => e)
theorem zW {xs : List Str} {vs : List V} {Q : Unit -> Nv -> Hp -> Prop} (e : vs.length = xs.length) (h : W (xE xs vs) l hp Q E) : W (xh xs (.tup vs)) l hp Q E := by
 unfold xh; dsimp only; rw [if_pos e]; exact h
theorem XD {xs : List Str} {e : M V} (h : W e l hp (kB (wM xs) (kN Q) E) E) : W (QI xs e) l hp Q E :=
 qS (qk h (fun _ _ _ q => qS (qk q (fun _ _ _ q => qr q) fun _ _ _ e => e)) fun _ _ _ e => e)
theorem XG {xs : List Str} {vs : List V} {Q : Unit -> Nv -> Hp -> Prop} (e : vs.length = xs.length) (h : W (xE xs.reverse vs.reverse) l hp Q E) : W (wM xs (.tup vs)) l hp Q E := by
 unfold wM; dsimp only; rw [if_pos e]; exact h
theorem W_while {k : Nat} {c : M Bool} {b : M Fl} (h : W c l hp (fun t l hp => Zw t (b >>= fun f => match f with | .nxt => zP k c b | .cont => zP k c b | .brk => pure .nxt | .ret v => pure (.ret v)) (pure .nxt) l hp Q E) E) : W (zP (k + 1) c b) l hp Q E :=
 qS (qk h (fun t _ _ q => by cases t <;> exact q) fun _ _ _ e => e)
noncomputable def wN (k : Nat) (c : M Bool) (b : M Fl) (Q : Fl -> Nv -> Hp -> Prop) (E : V -> V -> Hp -> Prop) (f : Fl) (l : Nv) (hp : Hp) : Prop := match f with
 | .nxt => W (zP k c b) l hp Q E
 | .cont => W (zP k c b) l hp Q E
 | .brk => Q .nxt l hp
 | .ret v => Q (.ret v) l hp
theorem W_while_t {k : Nat} {c : M Bool} {b : M Fl} (h : W c l hp (fun t l hp => if t then W b l hp (wN k c b Q E) E else Q .nxt l hp) E) : W (zP (k + 1) c b) l hp Q E := by
 refine W_while (qk h (fun t l' hp' q => ?_) fun _ _ _ e => e)
 cases t with
 | false => exact qr (E := E) q
 | true =>
  refine qS (qk (E' := E) q (fun f l2 hp2 q2 => ?_) fun _ _ _ e => e)
  cases f with
  | nxt => exact q2
  | cont => exact q2
  | brk => exact qr q2
  | ret v => exact qr q2
theorem Qz {i : Nat} {e : M V} {b : M Fl} (h : W e l hp (kB (Jh (nm i) b) Q E) E) : W (ya (nm i) e b) l hp Q E := qS h
theorem kW {i : Nat} {b : M Fl} {k : Int} (h0 : 0 <= k) (h1 : k < 2 ^ 40) (h : W (jI (nm i) b (zo k)) l hp Q E) : W (Jh (nm i) b (.int k)) l hp Q E := by
 unfold Jh; dsimp only; rw [if_pos ⟨h0, h1⟩]; exact h
theorem W_forL {i : Nat} {e : M V} {b : M Fl} (h : W e l hp (kB (pForL (nm i) b) Q E) E) : W (sForL (nm i) e b) l hp Q E := qS h
theorem W_pForL {i : Nat} {b : M Fl} {xs : List V} (h : W (jI (nm i) b xs) l hp Q E) : W (pForL (nm i) b (.lst xs)) l hp Q E := h
theorem j4 {i : Nat} {b : M Fl} (h : Q .nxt l hp) : W (jI (nm i) b []) l hp Q E := qr h
noncomputable def XN (i : Nat) (b : M Fl) (r : List V) (Q : Fl -> Nv -> Hp -> Prop) (E : V -> V -> Hp -> Prop) (f : Fl) (l : Nv) (hp : Hp) : Prop := match f with
 | .nxt => W (jI (nm i) b r) l hp Q E
 | .cont => W (jI (nm i) b r) l hp Q E
 | .brk => Q .nxt l hp
 | .ret v => Q (.ret v) l hp
theorem kz {i : Nat} {b : M Fl} {v : V} {r : List V} (h : W b ((i, v) :: l) hp (XN i b r Q E) E) : W (jI (nm i) b (v :: r)) l hp Q E := by
 refine qS (vc (qS (qk h (fun f l2 hp2 q2 => ?_) fun _ _ _ e => e)))
 cases f with
 | nxt => exact q2
 | cont => exact q2
 | brk => exact qr q2
 | ret v => exact qr q2
end
end
theorem xF {i : Nat} (h : i < 204) : zu (.str (nm i)) = true := by
 have hl : nmT.length = 204 := by decide
 have hi : i < nmT.length := lt2 (sL h) (eR hl)
 have h2 := Ko (List.getElem_mem hi)
 simp only [nmOk, Bool.and_eq_true] at h2
 unfold nm
 rw [List.getElem?_eq_getElem hi]
 unfold zu
 rw [Bool.and_eq_true]
 exact ⟨h2.1.1.1, by simp [PyData.depth]⟩
section
variable {hp : Hp}
theorem xD {i j : Nat} (hi : i < 204) (hj : j < 204) : jq hp .Eq (.str (nm i)) (.str (nm j)) = some (i == j) := by
 simp only [jq]
 unfold peq
 simp only [wD, pd, xF hi, xF hj, Bool.and_self, if_true, PyData.eqv, QT]
theorem QO {i j : Nat} (hi : i < 204) (hj : j < 204) : jq hp .NotEq (.str (nm i)) (.str (nm j)) = some (!(i == j)) := by
 have := xD (hp := hp) hi hj
 simp only [jq] at this ⊢
 rw [this]; rfl
theorem pc_int {i j : Int} : jq hp .Eq (.int i) (.int j) = some (i == j) := by
 simp only [jq]
 unfold peq
 simp [wD, pd, zu, PyData.canLay0, PyData.depth, PyData.eqv]
theorem pc_lt {i j : Int} : jq hp .Lt (.int i) (.int j) = some (decide (i < j)) := rfl
theorem pc_le {i j : Int} : jq hp .LtE (.int i) (.int j) = some (decide (i <= j)) := rfl
theorem pc_gt {i j : Int} : jq hp .Gt (.int i) (.int j) = some (decide (j < i)) := rfl
theorem pc_ge {i j : Int} : jq hp .GtE (.int i) (.int j) = some (decide (j <= i)) := rfl
theorem wX {E : V -> V -> Hp -> Prop} {l : Nv} {Q : V -> Nv -> Hp -> Prop} {j : Nat} {xs : List V} (e : hp[j]? = some (.lst xs)) (hz : xs.length <= 2 ^ 30) (h : Q (.int xs.length) l hp) : W (wE (.ref j)) l hp Q E :=
 X0 (by simp [yd, Kc, zl, qo, e]) hz h
theorem Zv {α : Type} {E : V -> V -> Hp -> Prop} {l : Nv} {Q : α -> Nv -> Hp -> Prop} {p : Prop} [Decidable p] {a b : M α} (h1 : p -> W a l hp Q E) (h2 : ¬ p -> W b l hp Q E) : Zw (decide p) a b l hp Q E := by
 by_cases q : p
 ·rw [decide_eq_true q]; exact h1 q
 ·rw [decide_eq_false q]; exact h2 q
theorem jS {α : Type} {E : V -> V -> Hp -> Prop} {l : Nv} {Q : α -> Nv -> Hp -> Prop} {t : Bool} {a b : M α} (e : t = true) (h : W a l hp Q E) : Zw t a b l hp Q E := by subst e; exact h
theorem jT {α : Type} {E : V -> V -> Hp -> Prop} {l : Nv} {Q : α -> Nv -> Hp -> Prop} {t : Bool} {a b : M α} (e : t = false) (h : W b l hp Q E) : Zw t a b l hp Q E := by subst e; exact h
section
variable {E : V -> V -> Hp -> Prop} {l : Nv}
theorem v4 {Q : V -> Nv -> Hp -> Prop} {j k : Nat} {xs : List V} {w : V} (e : hp[j]? = some (.lst xs)) (hk : xs[k]? = some w) (hz : k < 2 ^ 62) (h : Q w l hp) : W (zS (.ref j) (.int (k : Int))) l hp Q E :=
 JH (by simp only [zl, qo, e]) hk hz h
theorem KU {Q : V -> Nv -> Hp -> Prop} {j : Nat} {k : Int} {xs : List V} {w : V} (e : hp[j]? = some (.lst xs)) (h0 : 0 <= k) (hk : xs[k.toNat]? = some w) (hz : k < 2 ^ 62) (h : Q w l hp) : W (zS (.ref j) (.int k)) l hp Q E :=
 zZ (by simp only [zl, qo, e]) h0 hk hz h
theorem X3 {Q : V -> Nv -> Hp -> Prop} {j : Nat} {xs : List V} {w : V} (e : hp[j]? = some (.lst xs)) (hk : xs.getLast? = some w) (h : Q w l hp) : W (zS (.ref j) (.int (-1))) l hp Q E :=
 W_last (by simp only [zl, qo, e]) hk h
theorem wY {Q : V -> Nv -> Hp -> Prop} {i j : Nat} {kv : Nv} {w : V} (e : hp[j]? = some (.dct (FL kv))) (hk : kv.lookup i = some w) (h : Q w l hp) : W (zS (.ref j) (.str (nm i))) l hp Q E :=
 W_key (kv := FL kv) (by simp only [dictAt, e]) (by rw [jw]; exact hk) h
theorem JG {Q : V -> Nv -> Hp -> Prop} {k : Nat} {xs : List V} {w : V} (hk : xs[k]? = some w) (hz : k < 2 ^ 62) (h : Q w l hp) : W (zS (.tup xs) (.int (k : Int))) l hp Q E := JH rfl hk hz h
theorem W_itemL {Q : V -> Nv -> Hp -> Prop} {k : Nat} {xs : List V} {w : V} (hk : xs[k]? = some w) (hz : k < 2 ^ 62) (h : Q w l hp) : W (zS (.lst xs) (.int (k : Int))) l hp Q E := JH rfl hk hz h
theorem KT {Q : V -> Nv -> Hp -> Prop} {xs : List V} {w : V} (h : Q w l hp) : W (zS (.tup (w :: xs)) (.int 0)) l hp Q E := JG (k := 0) rfl (by decide) h
theorem W_itemT1 {Q : V -> Nv -> Hp -> Prop} {xs : List V} {v w : V} (h : Q w l hp) : W (zS (.tup (v :: w :: xs)) (.int 1)) l hp Q E := JG (k := 1) rfl (by decide) h
theorem W_itemT2 {Q : V -> Nv -> Hp -> Prop} {xs : List V} {u v w : V} (h : Q w l hp) : W (zS (.tup (u :: v :: w :: xs)) (.int 2)) l hp Q E := JG (k := 2) rfl (by decide) h
theorem KV {Q : V -> Nv -> Hp -> Prop} {xs : List V} {w : V} (h : Q w l hp) : W (zS (.lst (w :: xs)) (.int 0)) l hp Q E := W_itemL (k := 0) rfl (by decide) h
theorem W_pFromCR {Q : V -> Nv -> Hp -> Prop} {j k : Nat} {xs : List V} (e : hp[j]? = some (.lst xs)) (hz : xs.length <= zh) (h : ∀ hp', New hp (.lst (xs.drop k)) hp' -> Q (.ref hp.length) l hp') : W (yJ k (.ref j)) l hp Q E :=
 W_pFromC (by simp only [qo, e]) hz h
theorem lA0 {α : Type} {l : List α} {x : α} {c : Nat} (h : l.length + (0 + 1) <= c) : (l ++ [x]).length <= c := by rw [List.length_append]; exact h
theorem lA1 {α : Type} {l : List α} {x : α} {a c : Nat} (h : l.length + (0 + 1) + a <= c) : (l ++ [x]).length + a <= c := by rw [List.length_append]; exact h
theorem zY : zh = 4194304 := by decide
theorem pL {α : Type} {l : List α} (h : Nat.ble l.length 4194304 = true) : l.length <= zh := zY ▸ Nat.le_of_ble_eq_true h
theorem pLe {a : Nat} (h : a <= 4194304) : a <= zh := zY ▸ h
noncomputable def whK (k : Nat) (c : M Bool) (b : M Fl) (t : Bool) (Q : Fl -> Nv -> Hp -> Prop) (E : V -> V -> Hp -> Prop) (l : Nv) (hp : Hp) : Prop := if t then W b l hp (wN k c b Q E) E else Q .nxt l hp
variable {Q : Fl -> Nv -> Hp -> Prop} {c : M Bool} {b : M Fl} {k : Nat}
noncomputable abbrev kWh (k : Nat) (c : M Bool) (b : M Fl) (Q : Fl -> Nv -> Hp -> Prop) (E : V -> V -> Hp -> Prop) : Bool -> Nv -> Hp -> Prop := fun t l hp => whK k c b t Q E l hp
theorem yS (h : W c l hp (kWh k c b Q E) E) : W (zP (k + 1) c b) l hp Q E := W_while_t h
theorem whK_t {t : Bool} (e : t = true) (h : W b l hp (wN k c b Q E) E) : whK k c b t Q E l hp := by subst e; exact h
theorem whK_f {t : Bool} (e : t = false) (h : Q .nxt l hp) : whK k c b t Q E l hp := by subst e; exact h
theorem whK_d {p : Prop} [Decidable p] (h1 : p -> W b l hp (wN k c b Q E) E) (h2 : ¬ p -> Q .nxt l hp) : whK k c b (decide p) Q E l hp := by
 by_cases q : p
 ·exact whK_t (decide_eq_true q) (h1 q)
 ·exact whK_f (decide_eq_false q) (h2 q)
theorem loopK_nxt (h : W (zP k c b) l hp Q E) : wN k c b Q E .nxt l hp := h
theorem loopK_ret {v : V} (h : Q (.ret v) l hp) : wN k c b Q E (.ret v) l hp := h
theorem loopK_brk (h : Q .nxt l hp) : wN k c b Q E .brk l hp := h
theorem vM {i : Nat} {r : List V} (h : W (jI (nm i) b r) l hp Q E) : XN i b r Q E .nxt l hp := h
theorem turnK_brk {i : Nat} {r : List V} (h : Q .nxt l hp) : XN i b r Q E .brk l hp := h
end
theorem pc_is {v : V} : jq hp .Is v .none = some (isNone v) := by cases v <;> rfl
theorem pc_isnot {v : V} : jq hp .IsNot v .none = some (!isNone v) := by cases v <;> rfl
end
inductive T where
 | name (s : Nat) | vec (k : Nat) (items : List V) | null | missing | call (items : List T) (tags : List V)
noncomputable abbrev vSym (s : V) : V := .obj .symbol (FL [(1, .str (nm 74)), (4, s), (3, .none)])
noncomputable abbrev vVec (k : V) (items : V) : V := .obj .vector (FL [(1, k), (2, items), (3, .none)])
noncomputable abbrev XM (items tags : V) : V := .obj .call (FL [(1, .str (nm 72)), (2, items), (5, tags), (3, .none), (6, .none)])
mutual
noncomputable def qg : T -> V
 | .name s => vSym (.str (nm s))
 | .vec k items => vVec (.str (nm k)) (.lst items)
 | .null => .obj .null (FL [(1, .str (nm 64)), (3, .none)])
 | .missing => .obj .missing (FL [(1, .str (nm 115)), (3, .none)])
 | .call items tags => XM (.lst (ju items)) (.lst tags)
noncomputable def ju : List T -> List V
 | [] => []
 | t :: r => qg t :: ju r
end
mutual
noncomputable def qp : T -> V
 | .name s => .tup [.str (nm 4), .str (nm s)]
 | .vec k items => .tup [.str (nm k), .lst items]
 | .null => .tup [.str (nm 64)]
 | .missing => .tup [.str (nm 115)]
 | .call items tags => .tup [.str (nm 139), .lst (zy items), .lst tags]
noncomputable def zy : List T -> List V
 | [] => []
 | t :: r => qp t :: zy r
end
inductive Tv where
 | op (o : Nat) | num (f : Int) | str (s : Nat) | id (s : Nat) | key (s : Nat) | eof
noncomputable def kOf : Tv -> Nat | .op _ => 98 | .num _ => 107 | .str _ => 109 | .id _ => 111 | .key _ => 60 | .eof => 100
noncomputable def vOf : Tv -> V | .op o => .str (nm o) | .num f => vVec (.str (nm 23)) (.lst [.tup [.int f, .int 1]]) | .str s => .str (nm s) | .id s => .str (nm s) | .key s => .str (nm s) | .eof => .str (nm 88)
theorem kOf_lt (t : Tv) : kOf t < 204 := by cases t <;> (simp only [kOf]; exact lt0)
structure Tk where
 tv : Tv
 at_ : Int
 nl : Bool
noncomputable abbrev jr (t : Tk) : V := .obj .token (FL [(1, .str (nm (kOf t.tv))), (7, vOf t.tv), (8, .int t.at_), (9, .bool t.nl)])
section
variable {hp : Hp} {E : V -> V -> Hp -> Prop} {l : Nv} {Q : Bool -> Nv -> Hp -> Prop}
theorem xR {i j : Nat} (hi : i < 204) (hj : j < 204) (h : Q (i == j) l hp) : W (kq .Eq (.str (nm i)) (.str (nm j))) l hp Q E := zU (xD hi hj) h
theorem JF {i j : Nat} (hi : i < 204) (hj : j < 204) (h : Q (!(i == j)) l hp) : W (kq .NotEq (.str (nm i)) (.str (nm j))) l hp Q E := zU (QO hi hj) h
theorem W_eqKof {t : Tv} {j : Nat} (hj : j < 204) (h : Q (kOf t == j) l hp) : W (kq .Eq (.str (nm (kOf t))) (.str (nm j))) l hp Q E := zU (xD (kOf_lt t) hj) h
theorem yT {i j : Nat} {p : Int} {b : Bool} (hi : i < 204) (hj : j < 204) (h : Q (i == j) l hp) : W (kq .Eq (vOf (Tk.mk (.op i) p b).tv) (.str (nm j))) l hp Q E := zU (xD hi hj) h
theorem W_neKof {t : Tv} {j : Nat} (hj : j < 204) (h : Q (!(kOf t == j)) l hp) : W (kq .NotEq (.str (nm (kOf t))) (.str (nm j))) l hp Q E := zU (QO (kOf_lt t) hj) h
theorem X4 {i j : Int} (h : Q (i == j) l hp) : W (kq .Eq (.int i) (.int j)) l hp Q E := zU pc_int h
theorem W_lt {i j : Int} (h : Q (decide (i < j)) l hp) : W (kq .Lt (.int i) (.int j)) l hp Q E := zU pc_lt h
theorem W_le {i j : Int} (h : Q (decide (i <= j)) l hp) : W (kq .LtE (.int i) (.int j)) l hp Q E := zU pc_le h
theorem W_gt {i j : Int} (h : Q (decide (j < i)) l hp) : W (kq .Gt (.int i) (.int j)) l hp Q E := zU pc_gt h
theorem W_ge {i j : Int} (h : Q (decide (j <= i)) l hp) : W (kq .GtE (.int i) (.int j)) l hp Q E := zU pc_ge h
theorem W_is {v : V} (h : Q (isNone v) l hp) : W (kq .Is v .none) l hp Q E := zU pc_is h
theorem W_isnot {v : V} (h : Q (!isNone v) l hp) : W (kq .IsNot v .none) l hp Q E := zU pc_isnot h
end
section
variable {n : Nat} {hp : Hp} {Q : V -> Hp -> Prop} {E : V -> V -> Hp -> Prop}
theorem k_cNull (h : Q (qg .null) hp) : Call (n + 1) .cNull [] hp Q E := zV (fun lc => by kernel_rfl) h
theorem k_cMissing (h : Q (qg .missing) hp) : Call (n + 1) .cMissing [] hp Q E := zV (fun lc => by kernel_rfl) h
theorem k_cVector {k i : V} (h : Q (vVec k i) hp) : Call (n + 1) .cVector [k, i] hp Q E := zV (fun lc => by kernel_rfl) h
theorem k_cSymbol {s : V} (h : Q (vSym s) hp) : Call (n + 1) .cSymbol [s] hp Q E := zV (fun lc => by kernel_rfl) h
theorem yt {i t : V} (h : Q (XM i t) hp) : Call (n + 1) .cCall [i, t] hp Q E := zV (fun lc => by kernel_rfl) h
theorem Jp {k v : Nat} {x p b : V} (h : Q (.obj .token (FL [(1, .str (nm k)), (7, x), (8, p), (9, b)])) hp) : Call (n + 1) .cToken [.str (nm k), x, p, b] hp Q E := zV (fun lc => by kernel_rfl) h
theorem k_cRow {t : V} (h : ∀ hp', New hp (.obj .row (FL [(13, t), (14, .int 0)])) hp' -> Q (.ref hp.length) hp') : Call (n + 1) .cTokenRow [t] hp Q E := zV (fun lc => by kernel_rfl) (h _ .app)
theorem k_cReader {t : V} (h : Q (.ref ((hp ++ [jE.lst []]) ++ [jE.lst [V.str (nm 200)]]).length) (((hp ++ [jE.lst []]) ++ [jE.lst [V.str (nm 200)]]) ++ [.obj .reader (FL [(10, t), (11, .ref hp.length), (12, .ref (hp ++ [jE.lst []]).length)])])) : Call (n + 1) .cExprReader [t] hp Q E := zV (fun lc => by kernel_rfl) h
theorem wP {s : V} (h : Q (vSym s) hp) : Call (n + 2) .symbol [s] hp Q E := zV (fun lc => by kernel_rfl) h
theorem k_missing (h : Q (qg .missing) hp) : Call (n + 2) .missing [] hp Q E := zV (fun lc => by kernel_rfl) h
theorem k_text {s : V} (h : Q (vVec (.str (nm 24)) (.lst [s])) hp) : Call (n + 2) .text [s] hp Q E := zV (fun lc => by kernel_rfl) h
theorem W_rep {l : Nv} {Q : V -> Nv -> Hp -> Prop} {x : V} {xs : List V} {k : Int} (e : qo hp x = some xs) (h0 : 0 <= k) (h1 : k < 2 ^ 22) (h2 : xs.length * k.toNat <= zh) (h : Q (.lst (List.replicate k.toNat xs).flatten) l hp) : W (QR .Mult x (.int k)) l hp Q E :=
 z9 _ _ (fun lc _ => by
  have n1 : kP x = none := by cases x <;> first | rfl | cases e
  unfold QR
  dsimp only
  rw [n1, e]
  exact if_pos ⟨h0, h1, h2⟩) h
theorem ku {s : V} {as : List V} (hz : as.length <= 9) (h : Q (XM (.lst (vSym s :: as)) (.lst (List.replicate (as.length + 1) .none))) hp) : Call (n + 2) .callOf [s, .lst as] hp Q E := by
 refine qh [4, 28] none (yB (run (n + 1))) rfl rfl ?_
 have hp1 : zh = 4194304 := by decide
 simp only [List.zip_cons_cons, List.zip_nil_left, List.zip_nil_right]
 unfold yB
 walk_at "w"
 refine qI (k_cSymbol ?_)
 walk_at "w"
 refine ⟨by simp [hp1], ?_⟩
 walk_at "w"
 refine XH (xs := as) rfl (by exact le2 hz (eR hp1)) ?_
 refine jP (xs := [vSym s]) (ys := as) rfl rfl (by simp; exact le2 hz (eR hp1)) ?_
 walk_at "w"
 refine ⟨by simp [hp1], ?_⟩
 walk_at "w"
 refine X0 (n := as.length + 1) (by simp [yd, Kc, zl, qo]) (by walk_at "l") ?_
 with_reducible refine W_rep (xs := [.none]) ?_ ?_ ?_ ?_ ?_
 ·rfl
 ·lia
 ·have : (2 : Int) ^ 22 = 4194304 := by decide
  lia
 ·rw [hp1]; simp; exact le1 hz
 walk_at "w"
 refine qI (yt ?_)
 walk_at "w"
 have e : (List.replicate ((((as.length + 1 : Nat)) : Int).toNat) [V.none]).flatten = List.replicate (as.length + 1) V.none := by
  have : (((as.length + 1 : Nat)) : Int).toNat = as.length + 1 := by lia
  rw [this]
  generalize as.length + 1 = k
  induction k with
  | zero => rfl
  | succ k ih => rw [List.replicate_succ, List.flatten_cons, ih, List.replicate_succ]; rfl
 rw [e]
 exact h
theorem vV {k i : V} (h : Q (vVec k i) hp) : Call (n + 1) .share [vVec k i] hp Q E := zV (fun lc => by kernel_rfl) h
theorem k_shareN (h : Q (qg .null) hp) : Call (n + 1) .share [qg .null] hp Q E := zV (fun lc => by kernel_rfl) h
end
noncomputable def zb : List Nat := [58, 125, 43, 44, 45, 46, 57, 47, 48, 49, 50, 38, 40, 39, 41, 36, 37, 51, 52, 53, 54, 148, 34, 149, 150]
noncomputable def opsOth : List Nat := [75, 114, 77, 78, 116, 121, 79, 80, 175, 194, 56]
noncomputable def zE : List Nat := zb ++ opsOth
noncomputable def lvT : List (Nat × Int) := [(58, 1), (125, 2), (43, 3), (44, 3), (45, 4), (46, 4), (57, 5), (47, 6), (48, 6), (49, 7), (50, 7), (38, 9), (40, 9), (39, 9), (41, 9), (36, 9), (37, 9), (51, 10), (52, 10), (53, 11), (54, 11), (148, 12), (34, 12), (149, 13), (150, 15)]
noncomputable def lvl (o : Nat) : Int := (lvT.lookup o).getD 0
noncomputable def plv (o : Nat) : Int := match o with
 | 51 => 14 | 52 => 14 | 56 => 8 | 57 => 6 | 58 => 2 | _ => 0
noncomputable def rlv (k : Int) : Int := if k = 2 \/ k = 3 \/ k = 15 then k else k + 1
theorem mem_bl {o : Nat} (h : o ∈ zE) {P : Nat -> Prop} (hP : ∀ o ∈ [58, 125, 43, 44, 45, 46, 57, 47, 48, 49, 50, 38, 40, 39, 41, 36, 37, 51, 52, 53, 54, 148, 34, 149, 150, 75, 114, 77, 78, 116, 121, 79, 80, 175, 194, 56], P o) : P o := hP o h
theorem bl_all (n : Nat) (lc : Fs) (hp : Hp) : ∀ o ∈ zE, run (n + 1) .binaryLevel [.str (nm o)] ⟨lc, hp⟩ = .ok (.int (lvl o)) ⟨lc, hp⟩ := List.map_inj_left.mp (by kernel_rfl)
theorem pl_all (n : Nat) (lc : Fs) (hp : Hp) : ∀ o ∈ zE, run (n + 1) .prefixLevel [.str (nm o)] ⟨lc, hp⟩ = .ok (.int (plv o)) ⟨lc, hp⟩ := List.map_inj_left.mp (by kernel_rfl)
theorem rl_all (n : Nat) (lc : Fs) (hp : Hp) : ∀ o ∈ zE, run (n + 1) .rightLevel [.str (nm o), .int (lvl o)] ⟨lc, hp⟩ = .ok (.int (rlv (lvl o))) ⟨lc, hp⟩ := List.map_inj_left.mp (by kernel_rfl)
theorem xP {o : Nat} (h : o ∈ zE) : o < 204 := by
 have : ∀ o ∈ zE, o < 204 := by decide
 exact this o h
section
variable {n : Nat} {hp : Hp} {Q : V -> Hp -> Prop} {E : V -> V -> Hp -> Prop}
theorem vK {o : Nat} (ho : o ∈ zE) (h : Q (.int (lvl o)) hp) : Call (n + 1) .binaryLevel [.str (nm o)] hp Q E := zV (fun lc => bl_all n lc hp o ho) h
theorem xG {o : Nat} (ho : o ∈ zE) (h : Q (.int (plv o)) hp) : Call (n + 1) .prefixLevel [.str (nm o)] hp Q E := zV (fun lc => pl_all n lc hp o ho) h
theorem kO {o : Nat} (ho : o ∈ zE) (h : Q (.int (rlv (lvl o))) hp) : Call (n + 1) .rightLevel [.str (nm o), .int (lvl o)] hp Q E := zV (fun lc => rl_all n lc hp o ho) h
end
structure RX where
 r : Nat
 q : Nat
 c : Nat
 w : Nat
 all : List Tk
structure qw (X : RX) (hp : Hp) (a : Nat) (ts : List Tk) (ctx : List V) : Prop where
 hr : hp[X.r]? = some (.obj .reader (FL [(10, .ref X.q), (11, .ref a), (12, .ref X.c)]))
 hq : ∃ (p : Nat) (al : List Tk), hp[X.q]? = some (.obj .row (FL [(13, .ref X.w), (14, .int (p : Int))])) /\ hp[a]? = some (.lst (al.map jr)) /\ ts = al ++ X.all.drop p /\ p <= X.all.length /\ al.length <= 2
 hc : hp[X.c]? = some (.lst ctx)
 hw : hp[X.w]? = some (.lst (X.all.map jr))
 ne : a ≠ X.c /\ a ≠ X.w /\ X.c ≠ X.w
 sz : X.all.length <= 2 ^ 20
structure zA (X : RX) (hp : Hp) (a : Nat) (hp' : Hp) (a' : Nat) : Prop where
 len : hp.length <= hp'.length
 fresh : a' = a \/ hp.length <= a'
 old : ∀ j, j < hp.length -> j ≠ a -> j ≠ X.r -> j ≠ X.q -> j ≠ X.c -> hp'[j]? = hp[j]?
theorem zA.refl {X hp a} : zA X hp a hp a := ⟨Nat.le_refl _, .inl rfl, fun _ _ _ _ _ _ => rfl⟩
theorem zA.trans {X hp a hp₁ a₁ hp₂ a₂} (x : zA X hp a hp₁ a₁) (y : zA X hp₁ a₁ hp₂ a₂) : zA X hp a hp₂ a₂ := by
 refine ⟨Nat.le_trans x.len y.len, ?_, fun j h1 h2 h3 h4 h5 => ?_⟩
 ·rcases y.fresh with e | e
  ·rw [e]; exact x.fresh
  ·exact .inr (Nat.le_trans x.len e)
 ·refine (y.old j (Nat.lt_of_lt_of_le h1 x.len) (fun e => ?_) h3 h4 h5).trans (x.old j h1 h2 h3 h4 h5)
  rcases x.fresh with q | q
  ·exact h2 (e.trans q)
  ·lia
theorem zA.upd {X hp a j c hp'} (u : Upd hp j c hp') (h : j = a \/ j = X.r \/ j = X.q \/ j = X.c) : zA X hp a hp' a :=
 ⟨Nat.le_of_eq u.len.symm, .inl rfl, fun i _ h1 h2 h3 h4 => u.ne i (by rintro rfl; rcases h with h | h | h | h <;> contradiction)⟩
theorem getElem?_map_tok {al : List Tk} {k : Nat} {t : Tk} (h : al[k]? = some t) : (al.map jr)[k]? = some (jr t) := by rw [List.getElem?_map, h]; rfl
section
variable {n : Nat} {hp : Hp} {Q : V -> Hp -> Prop} {E : V -> V -> Hp -> Prop} {X : RX} {a : Nat} {ts : List Tk} {ctx : List V}
set_option tactic.hygienic true in
theorem Jn {p : Nat} {t : Tk} (hq : hp[X.q]? = some (.obj .row (FL [(13, .ref X.w), (14, .int (p : Int))]))) (hw : hp[X.w]? = some (.lst (X.all.map jr))) (ht : X.all[p]? = some t) (hz : X.all.length <= 2 ^ 20)
  (h : ∀ hp', Upd hp X.q (.obj .row (FL [(13, .ref X.w), (14, .int ((p : Int) + 1))])) hp' -> Q (jr t) hp') : Call (n + 1) .nextToken [.ref X.q] hp Q E := by
 have hlt := (List.getElem?_eq_some_iff.mp ht).1
 refine qh [0] none (vC (run n)) rfl rfl ?_
 simp only [List.zip_cons_cons, List.zip_nil_left, List.zip_nil_right]
 unfold vC
 walk_at "w"
 refine wX hw (by rw [List.length_map]; lia) ?_
 walk_at "w"
 ·rename_i hh; rw [List.length_map] at hh; lia
 refine v4 hw (getElem?_map_tok ht) (by walk_at "l") ?_
 walk_at "w"
 refine Qv hq (by intro h; cases h) (by walk_at "look") fun hp' u => ?_
 walk_at "w"
 exact h hp' u
set_option tactic.hygienic true in
theorem k_peek {k : Nat} {t : Tk} (hk : k <= 1) (R : qw X hp a ts ctx) (ht : ts[k]? = some t) (h : ∀ hp', qw X hp' a ts ctx -> zA X hp a hp' a -> (∃ al : List Tk, hp'[a]? = some (.lst (al.map jr)) /\ k < al.length) -> Q (jr t) hp') : Call (n + 2) .peek [.ref X.r, .int (k : Int)] hp Q E := by
 refine qh [0, 96] (some (.int 0)) (Qr (run (n + 1))) rfl rfl ?_
 simp only [List.zip_cons_cons, List.zip_nil_left, List.zip_nil_right]
 unfold Qr
 walk_at "w"
 have loop : ∀ (m : Nat) (hp₁ : Hp) (k₀ : Nat), qw X hp₁ a ts ctx -> zA X hp a hp₁ a -> (∀ al : List Tk, hp₁[a]? = some (.lst (al.map jr)) -> k + 1 <= al.length + m) -> m < k₀ ->
   W (zP k₀ (qi .LtE ((qd (nm 11) (qD (nm 0))) >>= wE) (qD (nm 96))) (qF (qv (ze (qd (nm 11) (qD (nm 0))) (ql .row (qd (nm 10) (qD (nm 0))) [] (run (n + 1) .nextToken)))) qK)) [(0, .ref X.r), (96, .int (k : Int))] hp₁
    (xM (qF (qs (qV (qd (nm 11) (qD (nm 0))) (qD (nm 96)))) qK) (fun fl _ hp' => Q (flV fl) hp') E) E := by
  intro m
  induction m with
  | zero =>
   intro hp₁ k₀ R1 K₁ hm hk0
   obtain ⟨k₀, rfl⟩ := Nat.exists_eq_add_of_le' (by exact le1 (sL hk0) : 1 <= k₀)
   obtain ⟨p, al, hq, ha, hts, hple, hal⟩ := R1.hq
   have hm := hm al ha
   have hr := R1.hr
   refine yS ?_
   walk_at "w"
   refine wX ha (by rw [List.length_map]; lia) ?_
   walk_at "w"
   ·rename_i hh; rw [List.length_map] at hh; lia
   have hk' : al[k]? = some t := by
    rw [hts, List.getElem?_append_left (by exact lt1 hm)] at ht; exact ht
   refine v4 ha (getElem?_map_tok hk') (by walk_at "l") ?_
   walk_at "w"
   exact h hp₁ R1 K₁ ⟨al, ha, by exact lt1 hm⟩
  | succ m ih =>
   intro hp₁ k₀ R1 K₁ hm hk0
   obtain ⟨k₀, rfl⟩ := Nat.exists_eq_add_of_le' (by exact le1 (sL hk0) : 1 <= k₀)
   obtain ⟨p, al, hq, ha, hts, hple, hal⟩ := R1.hq
   have hm := hm al ha
   have hr := R1.hr
   refine yS ?_
   walk_at "w"
   refine wX ha (by rw [List.length_map]; lia) ?_
   walk_at "w"
   ·rename_i hh
    rw [List.length_map] at hh
    have hlt : p < X.all.length := by
     have := (List.getElem?_eq_some_iff.mp ht).1
     rw [hts, List.length_append, List.length_drop] at this
     lia
    have htp : X.all[p]? = some X.all[p] := List.getElem?_eq_getElem hlt
    refine qI (Jn hq R1.hw htp R1.sz fun hp₂ u => ?_)
    have ha2 : hp₂[a]? = some (.lst (al.map jr)) := u.keep ha hq (by intro q; cases q)
    have hr₂ := u.keep hr hq (by intro q; simp at q)
    refine zQ ha2 (pLe (by rw [List.length_map]; exact le1 hal)) fun hp3 u₃ => ?_
    walk_at "w"
    refine ih hp3 k₀ ⟨?_, ⟨p + 1, al ++ [X.all[p]], ?_, ?_, ?_, ?_, ?_⟩, ?_, ?_, R1.ne, R1.sz⟩ ?_ ?_ (by exact lt1 (sL hk0))
    ·exact u₃.keep hr₂ ha2 (by intro q; cases q)
    ·exact u₃.keep u.at_ ha2 (by intro q; cases q)
    ·rw [u₃.at_, List.map_append]; rfl
    ·rw [hts, List.append_assoc]
     congr 1
     rw [List.singleton_append, List.getElem_cons_drop]
    ·exact le1 (sL hlt)
    ·rw [List.length_append]; simp; lia
    ·rw [u₃.ne _ (fun q => R1.ne.1 q.symm)]
     exact u.keep R1.hc hq (by intro q; cases q)
    ·rw [u₃.ne _ (fun q => R1.ne.2.1 q.symm)]
     exact u.keep R1.hw hq (by intro q; cases q)
    ·exact K₁.trans ((zA.upd u (.inr (.inr (.inl rfl)))).trans (zA.upd u₃ (.inl rfl)))
    ·intro al' ha'
     rw [u₃.at_] at ha'
     simp only [Option.some.injEq, jE.lst.injEq] at ha'
     have := congrArg List.length ha'
     simp at this
     exact le2 hm (eL this)
   ·rename_i hh
    rw [List.length_map] at hh
    have hk' : al[k]? = some t := by
     rw [hts, List.getElem?_append_left (by walk_at "l")] at ht; exact ht
    refine v4 ha (getElem?_map_tok hk') (by walk_at "l") ?_
    walk_at "w"
    exact h hp₁ R1 K₁ ⟨al, ha, by lia⟩
 exact loop 2 hp wf R .refl (fun al _ => by exact le1 hk) (by decide)
end
theorem qw.keep1 {X : RX} {hp hp' : Hp} {a : Nat} {ts : List Tk} {ctx : List V} (_ : qw X hp a ts ctx) (k : zA X hp a hp' a) : hp.length <= hp'.length := k.len
noncomputable def ZW : Tv -> Nat -> Bool | .op o', o => o' == o | _, _ => false
noncomputable def Qe : Tv -> Nat -> Bool | .key o', o => o' == o | _, _ => false
noncomputable def Tv.ok : Tv -> Prop | .op o => o ∈ zE | .str s => s < 204 | .id s => s < 204 | .key s => s < 204 | _ => True
theorem vOf_nm {t : Tv} (h : t.ok) (hn : ∀ f, t ≠ .num f) : ∃ i, vOf t = .str (nm i) /\ i < 204 := by
 cases t with
 | op o => exact ⟨o, rfl, xP h⟩
 | num f => exact absurd rfl (hn f)
 | str s => exact ⟨s, rfl, h⟩
 | id s => exact ⟨s, rfl, h⟩
 | key s => exact ⟨s, rfl, h⟩
 | eof => exact ⟨88, rfl, by decide⟩
noncomputable def Jw : Tv -> V | .eof => .str (nm 101) | _ => .str (nm 102)
noncomputable def zr (ctx : List V) : Prop := ctx.getLast? = some (.str (nm 75)) \/ ctx.getLast? = some (.str (nm 77))
noncomputable def NlOk (t : Tk) (ctx : List V) : Prop := t.nl = true -> zr ctx
noncomputable def jJ (ctx : List V) : Prop := (zr ctx \/ ctx.getLast? = some (.str (nm 200))) /\ ctx.length <= 2 ^ 20
theorem pin_nm {hp : Hp} {c : Nat} (hc : c < 204) : jq hp .In (.str (nm c)) (.tup [.str (nm 75), .str (nm 77)]) = some (75 == c || 77 == c) := by
 simp only [jq]
 have e1 := xF hc
 have e3 : zu (.tuple [PyData.str (nm 75), .str (nm 77)]) = true := by
  have a1 := xF (i := 75) (by decide)
  have a2 := xF (i := 77) (by decide)
  simp only [zu, PyData.canLay0, PyData.canLayAll0, PyData.depth, PyData.depthAll, Bool.and_eq_true, decide_eq_true_eq] at a1 a2 ⊢
  exact ⟨⟨a1.1, a2.1, trivial⟩, by decide⟩
 unfold pin
 simp only [pd, wD, pds, Option.map_some, e1, e3, Bool.and_self, if_true, List.any_cons, List.any_nil, PyData.eqv, QT, Bool.or_false]
section
variable {n : Nat} {hp : Hp} {Q : V -> Hp -> Prop} {E : V -> V -> Hp -> Prop} {X : RX} {a : Nat} {t : Tk} {ts : List Tk} {ctx : List V}
theorem zd (hn : 2 <= n) (R : qw X hp a (t :: ts) ctx) (h : ∀ hp', qw X hp' a (t :: ts) ctx -> zA X hp a hp' a -> (∃ al : List Tk, hp'[a]? = some (.lst (al.map jr)) /\ 0 < al.length) -> Q (jr t) hp') : Call n .peek [.ref X.r] hp Q E := by
 obtain ⟨m, rfl⟩ := Nat.exists_eq_add_of_le' (by walk_at "l" : 2 <= n)
 refine Call_dflt [0, 96] (.int 0) (Qr (run (m + 1))) rfl rfl ?_
 exact k_peek (k := 0) (by decide) R rfl h
theorem jC (hn : 3 <= n) (R : qw X hp a (t :: ts) ctx) (h : ∀ hp' a', qw X hp' a' ts ctx -> zA X hp a hp' a' -> Q (jr t) hp') : Call n .take [.ref X.r] hp Q E := by
 obtain ⟨m, rfl⟩ := Nat.exists_eq_add_of_le' (by walk_at "l" : 3 <= n)
 refine qh [0] none (JA (run (m + 2))) rfl rfl ?_
 simp only [List.zip_cons_cons, List.zip_nil_left, List.zip_nil_right]
 unfold JA
 have hr := R.hr
 walk_at "w"
 refine qI (zd (by walk_at "l") R fun hp₁ R1 K₁ ⟨al', ha', hpos⟩ => ?_)
 have hr := R1.hr
 obtain ⟨p, al, hq, ha, hts, hple, hal⟩ := R1.hq
 have hal' : al'.length = al.length := by
  rw [ha] at ha'
  simp only [Option.some.injEq, jE.lst.injEq] at ha'
  have := congrArg List.length ha'
  simpa using this.symm
 obtain ⟨t0, al0, rfl⟩ : ∃ t0 al0, al = t0 :: al0 := by
  cases al with
  | nil => exfalso; rw [hal'] at hpos; simp at hpos
  | cons x r => exact ⟨x, r, rfl⟩
 rw [List.cons_append, List.cons.injEq] at hts
 obtain ⟨rfl, hts⟩ := hts
 walk_at "w"
 refine W_pFromCR ha (by rw [zY, List.length_map]; exact le1 hal) fun hp₂ N => ?_
 walk_at "w"
 refine Qv (N.keep hr) (by intro h; cases h) (by walk_at "look") fun hp3 u => ?_
 walk_at "w"
 have hrN := N.keep hr
 have hlr : X.r < hp₁.length := (List.getElem?_eq_some_iff.mp hr).1
 have hlc : X.c < hp₁.length := (List.getElem?_eq_some_iff.mp R1.hc).1
 have hlw : X.w < hp₁.length := (List.getElem?_eq_some_iff.mp R1.hw).1
 refine h hp3 hp₁.length ⟨?_, ⟨p, al0, ?_, ?_, hts, hple, ?_⟩, ?_, ?_, ⟨Nat.ne_of_gt hlc, Nat.ne_of_gt hlw, R1.ne.2.2⟩, R1.sz⟩ (K₁.trans ⟨?_, ?_, ?_⟩)
 ·exact u.at_
 ·exact u.keep (N.keep hq) hrN (by intro q; simp at q)
 ·exact u.keep N.at_ hrN (by intro q; cases q)
 ·simp only [List.length_cons] at hal; exact le1 hal
 ·exact u.keep (N.keep R1.hc) hrN (by intro q; cases q)
 ·exact u.keep (N.keep R1.hw) hrN (by intro q; cases q)
 ·rw [u.len, N.len]; exact le0
 ·exact .inr (Nat.le_refl _)
 ·intro j h1 h2 h3 h4 h5
  exact (u.ne j h3).trans (N.old j h1)
theorem kr {o : Nat} (hn : 3 <= n) (ho : o < 204) (hk : t.tv.ok) (R : qw X hp a (t :: ts) ctx) (h : ∀ hp', qw X hp' a (t :: ts) ctx -> zA X hp a hp' a -> Q (.bool (ZW t.tv o)) hp') : Call n .isOp [.ref X.r, .str (nm o)] hp Q E := by
 obtain ⟨m, rfl⟩ := Nat.exists_eq_add_of_le' (by walk_at "l" : 3 <= n)
 refine qh [0, 33] none (JC (run (m + 2))) rfl rfl ?_
 simp only [List.zip_cons_cons, List.zip_nil_left, List.zip_nil_right]
 unfold JC
 have hr := R.hr
 walk_at "w"
 refine qI (zd (by walk_at "l") R fun hp₁ R1 K₁ _ => ?_)
 walk_at "w"
 obtain ⟨tv, p, b⟩ := t
 refine zL (fun e => ?_) (fun e => ?_)
 ·have : ∃ o', tv = .op o' := by cases tv <;> first | exact ⟨_, rfl⟩ | (simp [kOf] at e)
  obtain ⟨o', rfl⟩ := this
  walk_at "w"
  refine zU (xD (xP hk) ho) ?_
  walk_at "w"
  exact h hp₁ R1 K₁
 ·walk_at "w"
  have := h hp₁ R1 K₁
  rw [show ZW tv o = false by cases tv <;> first | rfl | (simp [kOf] at e)] at this
  rw [e]
  exact this
end
section
variable {n : Nat} {hp : Hp} {Q : V -> Hp -> Prop} {E : V -> V -> Hp -> Prop} {X : RX} {a : Nat} {t : Tk} {ts : List Tk} {ctx : List V}
theorem Xi {o : Nat} (hn : 3 <= n) (ho : o < 204) (hk : t.tv.ok) (R : qw X hp a (t :: ts) ctx) (h : ∀ hp', qw X hp' a (t :: ts) ctx -> zA X hp a hp' a -> Q (.bool (Qe t.tv o)) hp') : Call n .isKey [.ref X.r, .str (nm o)] hp Q E := by
 obtain ⟨m, rfl⟩ := Nat.exists_eq_add_of_le' (by walk_at "l" : 3 <= n)
 refine qh [0, 99] none (yy (run (m + 2))) rfl rfl ?_
 simp only [List.zip_cons_cons, List.zip_nil_left, List.zip_nil_right]
 unfold yy
 have hr := R.hr
 walk_at "w"
 refine qI (zd (by walk_at "l") R fun hp₁ R1 K₁ _ => ?_)
 walk_at "w"
 obtain ⟨tv, p, b⟩ := t
 refine zL (fun e => ?_) (fun e => ?_)
 ·have : ∃ o', tv = .key o' := by cases tv <;> first | exact ⟨_, rfl⟩ | (simp [kOf] at e)
  obtain ⟨o', rfl⟩ := this
  walk_at "w"
  refine zU (xD hk ho) ?_
  walk_at "w"
  exact h hp₁ R1 K₁
 ·walk_at "w"
  have := h hp₁ R1 K₁
  rw [show Qe tv o = false by cases tv <;> first | rfl | (simp [kOf] at e)] at this
  rw [e]
  exact this
theorem k_fail (hn : 3 <= n) (R : qw X hp a (t :: ts) ctx) (h : ∀ hp', zA X hp a hp' a -> E (Jw t.tv) (.int t.at_) hp') : Call n .fail [.ref X.r] hp Q E := by
 obtain ⟨m, rfl⟩ := Nat.exists_eq_add_of_le' (by walk_at "l" : 3 <= n)
 refine qh [0] none (JD (run (m + 2))) rfl rfl ?_
 simp only [List.zip_cons_cons, List.zip_nil_left, List.zip_nil_right]
 unfold JD
 have hr := R.hr
 walk_at "w"
 refine qI (zd (by walk_at "l") R fun hp₁ R1 K₁ _ => ?_)
 walk_at "w"
 have h := h hp₁ K₁
 obtain ⟨tv, p, b⟩ := t
 refine zL (fun e => ?_) (fun e => ?_)
 ·walk_at "w"
  rw [show Jw tv = .str (nm 101) by cases tv <;> first | rfl | (simp [kOf] at e)] at h
  exact h
 ·walk_at "w"
  rw [show Jw tv = .str (nm 102) by cases tv <;> first | rfl | (simp [kOf] at e)] at h
  exact h
theorem jX {o : Nat} (hn : 5 <= n) (ho : o < 204) (hk : t.tv.ok) (hop : ZW t.tv o = true) (R : qw X hp a (t :: ts) ctx) (h : ∀ hp' a', qw X hp' a' ts ctx -> zA X hp a hp' a' -> Q (jr t) hp') : Call n .expectOp [.ref X.r, .str (nm o)] hp Q E := by
 obtain ⟨m, rfl⟩ := Nat.exists_eq_add_of_le' (by walk_at "l" : 5 <= n)
 refine qh [0, 33] none (vy (run (m + 4))) rfl rfl ?_
 simp only [List.zip_cons_cons, List.zip_nil_left, List.zip_nil_right]
 unfold vy
 have hr := R.hr
 walk_at "w"
 refine qI (kr (by walk_at "l") ho hk R fun hp₁ R1 K₁ => ?_)
 rw [hop]
 have hr := R1.hr
 walk_at "w"
 refine qI (jC (by walk_at "l") R1 fun hp₂ a₂ R2 K₂ => ?_)
 walk_at "w"
 exact h hp₂ a₂ R2 (K₁.trans K₂)
theorem wq (hn : 1 <= n) (hx : jJ ctx) (hl : NlOk t ctx) (R : qw X hp a ts ctx) (h : Q (.bool true) hp) : Call n .joins [.ref X.r, jr t] hp Q E := by
 obtain ⟨m, rfl⟩ := Nat.exists_eq_add_of_le' (by walk_at "l" : 1 <= n)
 refine qh [0, 97] none (yx (run m)) rfl rfl ?_
 simp only [List.zip_cons_cons, List.zip_nil_left, List.zip_nil_right]
 unfold yx
 have hr := R.hr
 walk_at "w"
 refine zL (fun e => ?_) (fun e => ?_)
 ·walk_at "w"
  rw [e]; exact h
 ·have e' : t.nl = true := by simpa using e
  have hb := hl e'
  walk_at "w"
  have fin : ∀ c, c < 204 -> (75 == c || 77 == c) = true -> ctx.getLast? = some (.str (nm c)) -> W (zS (.ref X.c) (.int (-1))) [(0, .ref X.r), (97, jr t)] hp (fun x l hp => W (zF [pure (.str (nm 75)), pure (.str (nm 77))]) l hp (fun y l hp => W (kq .In x y) l hp (fun t l hp => xM qK (fun fl _ hp' => Q (flV fl) hp') E (.ret (.bool t)) l hp) E) E) E := by
   intro c hc hcc hg
   refine X3 R.hc hg ?_
   walk_at "w"
   refine ⟨by walk_at "p", ?_⟩
   refine zU (pin_nm hc) ?_
   walk_at "w"
   rw [hcc]
   exact h
  rcases hb with hb | hb
  ·exact fin 75 (by decide) (by decide) hb
  ·exact fin 77 (by decide) (by decide) hb
theorem Qa (hn : 5 <= n) (hk : t.tv.ok) (hx : jJ ctx) (hl : NlOk t ctx) (R : qw X hp a (t :: ts) ctx) (h1 : (∃ o, t.tv = .op o /\ lvl o = 9) -> ∀ hp', zA X hp a hp' a -> E (.str (nm 102)) (.int t.at_) hp')
  (h2 : (¬ ∃ o, t.tv = .op o /\ lvl o = 9) -> ∀ hp', qw X hp' a (t :: ts) ctx -> zA X hp a hp' a -> Q .none hp') : Call n .noSecondComparison [.ref X.r] hp Q E := by
 obtain ⟨m, rfl⟩ := Nat.exists_eq_add_of_le' (by walk_at "l" : 5 <= n)
 refine qh [0] none (zj (run (m + 4))) rfl rfl ?_
 simp only [List.zip_cons_cons, List.zip_nil_left, List.zip_nil_right]
 unfold zj
 have hr := R.hr
 walk_at "w"
 refine qI (zd (by walk_at "l") R fun hp₁ R1 K₁ _ => ?_)
 have hr := R1.hr
 walk_at "w"
 obtain ⟨tv, p, b⟩ := t
 refine zL (fun e => ?_) (fun e => ?_)
 ·have : ∃ o', tv = .op o' := by cases tv <;> first | exact ⟨_, rfl⟩ | (simp [kOf] at e)
  obtain ⟨o', rfl⟩ := this
  walk_at "w"
  refine qI (wq (by walk_at "l") hx hl R1 ?_)
  walk_at "w"
  refine qI (vK hk ?_)
  walk_at "w"
  refine zL (fun e => ?_) (fun e => ?_)
  ·have e : lvl o' = 9 := by simpa using e
   walk_at "w"
   refine qI (k_fail (by walk_at "l") R1 fun hp₂ K₂ => ?_)
   exact h1 ⟨o', rfl, e⟩ hp₂ (K₁.trans K₂)
  ·have e : ¬ lvl o' = 9 := by simpa using e
   walk_at "w"
   exact h2 (fun ⟨o, q, q2⟩ => by cases q; exact e q2) hp₁ R1 K₁
 ·walk_at "w"
  exact h2 (fun ⟨o, q, _⟩ => by cases q; simp [kOf] at e) hp₁ R1 K₁
end
noncomputable def Q5 : List Nat := [202, 25, 203, 180, 189]
noncomputable def sig : List Nat := Q5 ++ zb ++ [56, 75, 77, 78, 79, 80]
noncomputable def words : List Nat := [75, 77, 78, 79, 80, 56] ++ zb
noncomputable def jZ (g : V) : Prop := g = .none \/ ∃ i, i < 204 /\ g = .str (nm i)
mutual
noncomputable def wft : T -> Prop
 | .name s => s ∈ sig
 | .vec k items => (k = 19 \/ k = 23 \/ k = 24) /\ (k = 24 -> items = [.str (nm 180)] \/ items = [.str (nm 189)]) /\ items.length <= 3 /\ ∃ ds, pds items = some ds /\ PyData.canLayAll0 ds = true /\ PyData.depthAll ds <= 3
 | .null => True
 | .missing => True
 | .call is gs => is ≠ [] /\ gs ≠ [] /\ wfts is /\ (∀ g ∈ gs, jZ g)
noncomputable def wfts : List T -> Prop
 | [] => True
 | t :: r => wft t /\ wfts r
end
mutual
noncomputable def tsz : T -> Nat
 | .call is gs => 1 + gs.length + j5 is
 | _ => 1
noncomputable def j5 : List T -> Nat
 | [] => 0
 | t :: r => 1 + tsz t + j5 r
end
mutual
noncomputable def tdp : T -> Nat
 | .call is _ => 1 + vj is
 | _ => 1
noncomputable def vj : List T -> Nat
 | [] => 0
 | t :: r => max (tdp t) (vj r)
end
theorem vk (t : T) : 1 <= tdp t := by cases t <;> first | exact Nat.le_refl _ | exact Nat.le_add_right _ _
theorem dC {is : List T} {gs : List V} {d : Nat} (h : vj is <= d) : tdp (.call is gs) <= d + 1 := Nat.add_comm d 1 ▸ Nat.add_le_add_left h 1
theorem dK {t : T} {r : List T} {d : Nat} (h : tdp t <= d) (k : vj r <= d) : vj (t :: r) <= d := Nat.max_le.mpr ⟨h, k⟩
theorem dN {d : Nat} : vj [] <= d := Nat.zero_le d
theorem dMl {a b c : Nat} (h : a <= b) : a <= max b c := Nat.le_trans h (Nat.le_max_left _ _)
theorem dMr {a b c : Nat} (h : a <= c) : a <= max b c := Nat.le_trans h (Nat.le_max_right _ _)
theorem dS {s : Nat} {v : T} {d : Nat} (h : tdp v <= d) : tdp (.name s) <= d := Nat.le_trans (vk v) h
theorem dL {a b : Nat} : a <= max a b := Nat.le_max_left a b
theorem dR {a b : Nat} : b <= max a b := Nat.le_max_right a b
theorem dMrC {is : List T} {gs : List V} {d b : Nat} (h : vj is <= d) : tdp (.call is gs) <= max b (d + 1) := dMr (dC h)
theorem dSl {s : Nat} {v : T} {c : Nat} : tdp (.name s) <= max (tdp v) c := dS dL
theorem dSr {s : Nat} {v : T} : tdp (.name s) <= tdp v := dS (Nat.le_refl _)
theorem xW : ∀ is : List T, is.length <= j5 is
 | [] => Nat.le_refl _
 | t :: r => by have := xW r; show r.length + 1 <= 1 + tsz t + j5 r; exact le1 this
noncomputable def ZT : T -> Bool
 | .name s => !decide (s ∈ words)
 | _ => true
noncomputable def yO : List T -> Bool
 | [] => false
 | h :: _ => ZT h
noncomputable def jf : T -> Bool
 | .call is _ => yO is
 | _ => false
noncomputable def jD (o : Nat) (l r : T) : Option T :=
 if o = 45 then some (.call [.name 43, r, l] [.none, .none, .none])
 else if o = 46 then some (.call [.name 44, r, l] [.none, .none, .none])
 else if o = 34 then match r with
  | .call (h :: is) (_ :: gs) => if jf r then some (.call (h :: l :: is) (.none :: .none :: gs)) else none
  | _ => none
 else some (.call [.name o, l, r] [.none, .none, .none])
theorem vT : ∀ ts : List T, ju ts = ts.map qg
 | [] => rfl
 | t :: r => by show qg t :: ju r = _; rw [vT r]; rfl
theorem vN : ∀ ts : List T, zy ts = ts.map qp
 | [] => rfl
 | t :: r => by show qp t :: zy r = _; rw [vN r]; rfl
theorem sn_all (n : Nat) (lc : Fs) (hp : Hp) : ∀ o ∈ Q5, run (n + 1) .binaryLevel [.str (nm o)] ⟨lc, hp⟩ = .ok (.int 0) ⟨lc, hp⟩ := List.map_inj_left.mp (by kernel_rfl)
theorem pin14 (hp : Hp) : ∀ s ∈ sig, jq hp .In (.str (nm s)) (.tup [.str (nm 75), .str (nm 76), .str (nm 77), .str (nm 78), .str (nm 79), .str (nm 80), .str (nm 56), .str (nm 81), .str (nm 82), .str (nm 83), .str (nm 84), .str (nm 85), .str (nm 86), .str (nm 87)]) = some (decide (s ∈ [75, 77, 78, 79, 80, 56])) := List.map_inj_left.mp (by kernel_rfl)
theorem sig_lt {s : Nat} (h : s ∈ sig) : s < 204 := by
 have : ∀ s ∈ sig, s < 204 := by decide
 exact this s h
theorem wk {s : Nat} (h : s ∈ sig) : (s ∈ words) ↔ (s ∈ [75, 77, 78, 79, 80, 56] \/ (s ∉ Q5 /\ lvl s ≠ 0)) := by
 have : ∀ s ∈ sig, (s ∈ words) ↔ (s ∈ [75, 77, 78, 79, 80, 56] \/ (s ∉ Q5 /\ lvl s ≠ 0)) := by decide
 exact this s h
theorem sig_lvl {s : Nat} (h : s ∈ sig) (h2 : s ∉ Q5) : s ∈ zE := by
 have : ∀ s ∈ sig, s ∉ Q5 -> s ∈ zE := by decide
 exact this s h h2
section
variable {n : Nat} {hp : Hp} {Q : V -> Hp -> Prop} {E : V -> V -> Hp -> Prop}
theorem k_levelS {s : Nat} (hs : s ∈ sig) (h : Q (.int (if s ∈ Q5 then 0 else lvl s)) hp) : Call (n + 1) .binaryLevel [.str (nm s)] hp Q E := by
 by_cases q : s ∈ Q5
 ·rw [if_pos q] at h; exact zV (fun lc => sn_all n lc hp s q) h
 ·rw [if_neg q] at h; exact vK (sig_lvl hs q) h
set_option tactic.hygienic true in
theorem k_isPipe {t : T} (hn : 3 <= n) (hw : wft t) (h : Q (.bool (jf t)) hp) : Call n .isPipeTarget [qg t] hp Q E := by
 obtain ⟨m, rfl⟩ := Nat.exists_eq_add_of_le' (by walk_at "l" : 3 <= n)
 refine qh [7] none (jm (run (m + 2))) rfl rfl ?_
 simp only [List.zip_cons_cons, List.zip_nil_left, List.zip_nil_right]
 unfold jm
 cases t with
 | name s =>
  simp only [qg]
  walk_at "w"
  exact h
 | vec k items =>
  simp only [qg]
  obtain ⟨hk, _⟩ := hw
  have hk2 : k < 204 /\ (!(k == 72)) = true := by rcases hk with rfl | rfl | rfl <;> decide
  walk_at "w"
  refine zU (QO hk2.1 (by decide)) ?_
  rw [hk2.2]
  walk_at "w"
  exact h
 | null =>
  simp only [qg]
  walk_at "w"
  exact h
 | missing =>
  simp only [qg]
  walk_at "w"
  exact h
 | call is gs =>
  obtain ⟨h1, h2, h3, _⟩ := hw
  cases is with
  | nil => exact absurd rfl h1
  | cons t r =>
   simp only [qg, ju]
   obtain ⟨ht, _⟩ := h3
   walk_at "w"
   cases t with
   | name s =>
    simp only [qg]
    walk_at "w"
    refine ⟨by walk_at "p", ?_⟩
    refine zU (pin14 hp s ht) ?_
    walk_at "w"
    ·rename_i q
     have e : jf (.call (.name s :: r) gs) = false := by
      simp only [jf, yO, ZT, decide_eq_true ((wk ht).mpr (.inl q)), Bool.not_true]
     rw [e] at h
     exact h
    ·rename_i q
     refine zU (xD (sig_lt ht) (by decide)) ?_
     have e88 : (s == 88) = false := by
      have : ∀ s ∈ sig, (s == 88) = false := by decide
      exact this s ht
     rw [e88]
     walk_at "w"
     refine qI (k_levelS ht ?_)
     walk_at "w"
     have e : jf (.call (.name s :: r) gs) = ((if s ∈ Q5 then 0 else lvl s : Int) == 0) := by
      simp only [jf, yO, ZT]
      by_cases q1 : s ∈ Q5
      ·rw [if_pos q1, decide_eq_false (fun z => ((wk ht).mp z).elim q fun z => z.1 q1)]; rfl
      ·rw [if_neg q1]
       by_cases q2 : lvl s = 0
       ·rw [q2, decide_eq_false (fun z => ((wk ht).mp z).elim q fun z => z.2 q2)]; rfl
       ·rw [decide_eq_true ((wk ht).mpr (.inr ⟨q1, q2⟩))]
        simpa using q2
     rw [e] at h
     exact h
   | vec k items =>
    simp only [qg]
    obtain ⟨hk, _⟩ := ht
    have hk2 : k < 204 /\ (!(k == 74)) = true := by rcases hk with rfl | rfl | rfl <;> decide
    walk_at "w"
    refine zU (QO hk2.1 (by decide)) ?_
    rw [hk2.2]
    walk_at "w"
    exact h
   | null => simp only [qg]; walk_at "w"; exact h
   | missing => simp only [qg]; walk_at "w"; exact h
   | call is2 gs2 => simp only [qg]; walk_at "w"; exact h
theorem Qc {o : Nat} {l r : T} {p : V} (hn : 4 <= n) (ho : o ∈ zb) (hr : wft r) (hz : tsz r <= 4000000) (h1 : ∀ t, jD o l r = some t -> Q (qg t) hp) (h2 : jD o l r = none -> E (.str (nm 94)) p hp) : Call n .joined [.str (nm o), qg l, qg r, p] hp Q E := by
 obtain ⟨m, rfl⟩ := Nat.exists_eq_add_of_le' (by walk_at "l" : 4 <= n)
 refine qh [33, 91, 90, 8] none (x8 (run (m + 3))) rfl rfl ?_
 have ho' : o < 204 := xP (List.mem_append_left _ ho)
 simp only [List.zip_cons_cons, List.zip_nil_left, List.zip_nil_right]
 unfold x8
 walk_at "w"
 refine zU (xD ho' (by decide)) ?_
 unfold jD at h1 h2
 refine zL (fun e => ?_) (fun e => ?_)
 ·have e : o = 45 := by simpa using e
  rw [if_pos e] at h1
  walk_at "w"
  refine ⟨by walk_at "p", ?_⟩
  walk_at "w"
  refine qI (ku (n := m + 1) (as := [qg r, qg l]) (Nat.le_of_ble_eq_true rfl) ?_)
  walk_at "w"
  exact h1 _ rfl
 have e : ¬ o = 45 := by simpa using e
 rw [if_neg e] at h1 h2
 walk_at "w"
 refine zU (xD ho' (by decide)) ?_
 refine zL (fun e => ?_) (fun e => ?_)
 ·have e : o = 46 := by simpa using e
  rw [if_pos e] at h1
  walk_at "w"
  refine ⟨by walk_at "p", ?_⟩
  walk_at "w"
  refine qI (ku (n := m + 1) (as := [qg r, qg l]) (Nat.le_of_ble_eq_true rfl) ?_)
  walk_at "w"
  exact h1 _ rfl
 have e : ¬ o = 46 := by simpa using e
 rw [if_neg e] at h1 h2
 walk_at "w"
 refine zU (xD ho' (by decide)) ?_
 refine zL (fun e => ?_) (fun e => ?_)
 ·have e : o = 34 := by simpa using e
  rw [if_pos e] at h1 h2
  walk_at "w"
  refine qI (k_isPipe (by walk_at "l") hr ?_)
  walk_at "w"
  refine zL (fun e => ?_) (fun e => ?_)
  ·have e : jf r = false := by simpa using e
   walk_at "w"
   refine h2 ?_
   cases r with
   | call is gs => cases is with
    | nil => rfl
    | cons x is => cases gs with
     | nil => rfl
     | cons g gs => dsimp only; rw [e]; rfl
   | _ => rfl
  ·have e : jf r = true := by simpa using e
   cases r with
   | call is gs =>
    obtain ⟨q1, q2, q3, q4⟩ := hr
    cases is with
    | nil => exact absurd rfl q1
    | cons x is =>
     cases gs with
     | nil => exact absurd rfl q2
     | cons g gs =>
      have h1 := h1 (.call (x :: l :: is) (.none :: .none :: gs)) (by dsimp only; rw [e]; rfl)
      have hl : (ju is).length = is.length := by rw [vT, List.length_map]
      have q5 : is.length <= 4000000 /\ gs.length <= 4000000 := by
       have := xW is
       have hz : 1 + (gs.length + 1) + (1 + tsz x + j5 is) <= 4000000 := hz
       exact ⟨le2 this hz, le1 hz⟩
      simp only [qg, ju] at h1 ⊢
      walk_at "w"
      refine ⟨by walk_at "p", ?_⟩
      walk_at "w"
      refine wx (xs := qg x :: ju is) rfl (by refine pLe ?_; simp only [List.length_cons]; exact le2 (eL hl) q5.1) ?_
      refine jP rfl rfl (by refine pLe ?_; simp only [List.length_cons, List.length_nil, List.drop_succ_cons, List.drop_zero]; exact le2 (eL hl) q5.1) ?_
      walk_at "w"
      refine ⟨by walk_at "p", ?_⟩
      walk_at "w"
      refine wx (xs := g :: gs) rfl (by refine pLe ?_; simp only [List.length_cons]; exact le1 q5.2) ?_
      refine jP rfl rfl (by refine pLe ?_; simp only [List.length_cons, List.length_nil, List.drop_succ_cons, List.drop_zero]; exact le1 q5.2) ?_
      walk_at "w"
      refine qI (yt ?_)
      walk_at "w"
      exact h1
   | _ => simp [jf, yO, ZT] at e
 have e : ¬ o = 34 := by simpa using e
 rw [if_neg e] at h1
 walk_at "w"
 refine ⟨by walk_at "p", ?_⟩
 walk_at "w"
 refine qI (ku (n := m + 1) (as := [qg l, qg r]) (Nat.le_of_ble_eq_true rfl) ?_)
 walk_at "w"
 exact h1 _ rfl
end
noncomputable abbrev Err := V × V
structure Seg where
 pre : List (Nat × Tk)
 ts : List Tk
 t : T
 b : Option Err
noncomputable abbrev q0 := List (Nat × Tk × Seg)
noncomputable abbrev Stk := List (Nat × Int × Int)
noncomputable def vS (b : Option Err) (e : Err) : Option Err := match b with | none => some e | b => b
noncomputable def orB (b c : Option Err) : Option Err := match b with | none => c | b => b
noncomputable def vn (p : Int) : Err := (.str (nm 94), .int p)
noncomputable def vi (p : Int) : Err := (.str (nm 102), .int p)
noncomputable def unT (p : Nat) (t : T) : T := .call [.name p, t] [.none, .none]
noncomputable def jp (op : Nat) (spot : Int) (D : List T) (b : Option Err) : List T × Option Err := match D with
 | [] => ([], b)
 | last :: D => if spot < 0 then (unT op last :: D, b) else match D with
  | [] => ([last], b)
  | first :: D => match jD op first last with
   | some t => (t :: D, b)
   | none => (last :: D, vS b (vn spot))
noncomputable def v9 (op : Nat) (spot : Int) : Bool := !decide (spot < 0) && lvl op == 9
noncomputable def qz (o : Nat) (spot : Int) : Stk -> List T -> Option Err -> Stk × List T × Option Err
 | [], D, b => ([], D, b)
 | (op, r, sp) :: S, D, b => if lvl o < r then
   qz o spot S (jp op sp D b).1 (if v9 op sp && lvl o == 9 then vS (jp op sp D b).2 (vi spot) else (jp op sp D b).2)
  else ((op, r, sp) :: S, D, b)
noncomputable def jK : Stk -> List T -> Option Err -> List T × Option Err
 | [], D, b => (D, b)
 | (op, _, sp) :: S, D, b => jK S (jp op sp D b).1 (jp op sp D b).2
noncomputable def zO : List (Nat × Tk) -> Stk -> Stk
 | [], S => S
 | (p, _) :: r, S => zO r ((p, plv p, -1) :: S)
noncomputable def ops : Stk -> List T -> Option Err -> q0 -> List T × Option Err
 | S, D, b, [] => jK S D b
 | S, D, b, (o, tk, seg) :: tail =>
  ops (zO seg.pre ((o, rlv (lvl o), tk.at_) :: (qz o tk.at_ S D b).1)) (seg.t :: (qz o tk.at_ S D b).2.1) (orB (qz o tk.at_ S D b).2.2 seg.b) tail
noncomputable def kG (S : Stk) (D : List T) (b : Option Err) (pre : List (Nat × Tk)) (seg : Seg) (tail : q0) : List T × Option Err := ops (zO pre S) (seg.t :: D) (orB b seg.b) tail
theorem JX {op sp D e} : (jp op sp D (some e)).2 = some e := by
 unfold jp
 split
 ·rfl
 ·split
  ·rfl
  ·split
   ·rfl
   ·split <;> rfl
theorem JW {o spot e} {S : Stk} : ∀ {D}, (qz o spot S D (some e)).2.2 = some e := by
 induction S with
 | nil => intro D; rfl
 | cons p S ih =>
  intro D
  obtain ⟨op, r, sp⟩ := p
  unfold qz
  split
  ·rw [JX]
   have : (if (v9 op sp && lvl o == 9) = true then vS (some e) (vi spot) else some e) = some e := by split <;> rfl
   rw [this]
   exact ih
  ·rfl
theorem Kh {e} {S : Stk} : ∀ {D}, (jK S D (some e)).2 = some e := by
 induction S with
 | nil => intro D; rfl
 | cons p S ih => intro D; unfold jK; rw [JX]; exact ih
theorem yq {e} {tail : q0} : ∀ {S D}, (ops S D (some e) tail).2 = some e := by
 induction tail with
 | nil => intro S D; exact Kh
 | cons p tail ih => intro S D; unfold ops; rw [JW]; exact ih
noncomputable abbrev v6 := Except Err (T × q0)
structure Rules (M1 : Nat -> Int -> List (Nat × Tk) -> Seg -> q0 -> v6 -> Prop) (M2 : Nat -> List (Nat × Tk) -> Seg -> q0 -> v6 -> Prop) (M3 : Nat -> Int -> T -> q0 -> v6 -> Prop) : Prop where
 e_err : ∀ {k : Nat} {level : Int} {pre : List (Nat × Tk)} {seg : Seg} {tail : q0} {e : Err}, M2 k pre seg tail (.error e) -> M1 (k + 1) level pre seg tail (.error e)
 e_ok : ∀ {k : Nat} {level : Int} {pre : List (Nat × Tk)} {seg : Seg} {tail : q0} {t : T} {tail' : q0} {out : v6}, M2 k pre seg tail (.ok (t, tail')) -> M3 k level t tail' out -> M1 (k + 1) level pre seg tail out
 o_bad : ∀ {k : Nat} {seg : Seg} {tail : q0} {e : Err}, seg.b = some e -> M2 k [] seg tail (.error e)
 o_one : ∀ {k : Nat} {seg : Seg} {tail : q0}, seg.b = none -> M2 k [] seg tail (.ok (seg.t, tail))
 o_perr : ∀ {k : Nat} {p : Nat} {tk : Tk} {pre : List (Nat × Tk)} {seg : Seg} {tail : q0} {e : Err}, M1 k (plv p) pre seg tail (.error e) -> M2 (k + 1) ((p, tk) :: pre) seg tail (.error e)
 o_pre : ∀ {k : Nat} {p : Nat} {tk : Tk} {pre : List (Nat × Tk)} {seg : Seg} {tail : q0} {t : T} {tail' : q0}, M1 k (plv p) pre seg tail (.ok (t, tail')) -> M2 (k + 1) ((p, tk) :: pre) seg tail (.ok (unT p t, tail'))
 l_nil : ∀ {k : Nat} {level : Int} {left : T}, M3 k level left [] (.ok (left, []))
 l_stop : ∀ {k : Nat} {level : Int} {left : T} {o : Nat} {tk : Tk} {seg : Seg} {tail : q0}, lvl o < level -> M3 k level left ((o, tk, seg) :: tail) (.ok (left, (o, tk, seg) :: tail))
 l_err : ∀ {k : Nat} {level : Int} {left : T} {o : Nat} {tk : Tk} {seg : Seg} {tail : q0} {e : Err}, ¬ lvl o < level -> M1 k (rlv (lvl o)) seg.pre seg tail (.error e) -> M3 k level left ((o, tk, seg) :: tail) (.error e)
 l_pipe : ∀ {k : Nat} {level : Int} {left : T} {o : Nat} {tk : Tk} {seg : Seg} {tail : q0} {r : T} {tail' : q0}, ¬ lvl o < level -> M1 k (rlv (lvl o)) seg.pre seg tail (.ok (r, tail')) -> jD o left r = none -> M3 k level left ((o, tk, seg) :: tail) (.error (vn tk.at_))
 l_cmp : ∀ {k : Nat} {level : Int} {left : T} {o : Nat} {tk : Tk} {seg : Seg} {tail : q0} {r : T} {t : T} {o₂ : Nat} {tk₂ : Tk} {seg2 : Seg} {tail2 : q0}, ¬ lvl o < level -> M1 k (rlv (lvl o)) seg.pre seg tail (.ok (r, (o₂, tk₂, seg2) :: tail2)) -> jD o left r = some t -> lvl o = 9 -> lvl o₂ = 9 -> M3 k level left ((o, tk, seg) :: tail) (.error (vi tk₂.at_))
 l_go : ∀ {k : Nat} {level : Int} {left : T} {o : Nat} {tk : Tk} {seg : Seg} {tail : q0} {r : T} {t : T} {tail' : q0} {out : v6}, ¬ lvl o < level -> M1 k (rlv (lvl o)) seg.pre seg tail (.ok (r, tail')) -> jD o left r = some t -> (∀ o₂ tk₂ seg2 tail2, tail' = (o₂, tk₂, seg2) :: tail2 -> lvl o = 9 -> lvl o₂ ≠ 9) -> M3 k level t tail' out -> M3 k level left ((o, tk, seg) :: tail) out
noncomputable def kF (k : Nat) (level : Int) (pre : List (Nat × Tk)) (seg : Seg) (tail : q0) (out : v6) : Prop := ∀ M1 M2 M3, Rules M1 M2 M3 -> M1 k level pre seg tail out
noncomputable def xS (k : Nat) (pre : List (Nat × Tk)) (seg : Seg) (tail : q0) (out : v6) : Prop := ∀ M1 M2 M3, Rules M1 M2 M3 -> M2 k pre seg tail out
noncomputable def jo (k : Nat) (level : Int) (left : T) (tail : q0) (out : v6) : Prop := ∀ M1 M2 M3, Rules M1 M2 M3 -> M3 k level left tail out
theorem kF.err {k : Nat} {level : Int} {pre : List (Nat × Tk)} {seg : Seg} {tail : q0} {e : Err} (h0 : xS k pre seg tail (.error e)) : kF (k + 1) level pre seg tail (.error e) := fun M1 M2 M3 R => R.e_err (h0 M1 M2 M3 R)
theorem kF.ok {k : Nat} {level : Int} {pre : List (Nat × Tk)} {seg : Seg} {tail : q0} {t : T} {tail' : q0} {out : v6} (h0 : xS k pre seg tail (.ok (t, tail'))) (h1 : jo k level t tail' out) : kF (k + 1) level pre seg tail out := fun M1 M2 M3 R => R.e_ok (h0 M1 M2 M3 R) (h1 M1 M2 M3 R)
theorem xS.bad {k : Nat} {seg : Seg} {tail : q0} {e : Err} (h0 : seg.b = some e) : xS k [] seg tail (.error e) := fun M1 M2 M3 R => R.o_bad h0
theorem xS.one {k : Nat} {seg : Seg} {tail : q0} (h0 : seg.b = none) : xS k [] seg tail (.ok (seg.t, tail)) := fun M1 M2 M3 R => R.o_one h0
theorem xS.perr {k : Nat} {p : Nat} {tk : Tk} {pre : List (Nat × Tk)} {seg : Seg} {tail : q0} {e : Err} (h0 : kF k (plv p) pre seg tail (.error e)) : xS (k + 1) ((p, tk) :: pre) seg tail (.error e) := fun M1 M2 M3 R => R.o_perr (h0 M1 M2 M3 R)
theorem xS.pre {k : Nat} {p : Nat} {tk : Tk} {pre : List (Nat × Tk)} {seg : Seg} {tail : q0} {t : T} {tail' : q0} (h0 : kF k (plv p) pre seg tail (.ok (t, tail'))) : xS (k + 1) ((p, tk) :: pre) seg tail (.ok (unT p t, tail')) := fun M1 M2 M3 R => R.o_pre (h0 M1 M2 M3 R)
theorem jo.nil {k : Nat} {level : Int} {left : T}  : jo k level left [] (.ok (left, [])) := fun M1 M2 M3 R => R.l_nil 
theorem jo.stop {k : Nat} {level : Int} {left : T} {o : Nat} {tk : Tk} {seg : Seg} {tail : q0} (h0 : lvl o < level) : jo k level left ((o, tk, seg) :: tail) (.ok (left, (o, tk, seg) :: tail)) := fun M1 M2 M3 R => R.l_stop h0
theorem jo.err {k : Nat} {level : Int} {left : T} {o : Nat} {tk : Tk} {seg : Seg} {tail : q0} {e : Err} (h0 : ¬ lvl o < level) (h1 : kF k (rlv (lvl o)) seg.pre seg tail (.error e)) : jo k level left ((o, tk, seg) :: tail) (.error e) := fun M1 M2 M3 R => R.l_err h0 (h1 M1 M2 M3 R)
theorem jo.pipe {k : Nat} {level : Int} {left : T} {o : Nat} {tk : Tk} {seg : Seg} {tail : q0} {r : T} {tail' : q0} (h0 : ¬ lvl o < level) (h1 : kF k (rlv (lvl o)) seg.pre seg tail (.ok (r, tail'))) (h2 : jD o left r = none) : jo k level left ((o, tk, seg) :: tail) (.error (vn tk.at_)) := fun M1 M2 M3 R => R.l_pipe h0 (h1 M1 M2 M3 R) h2
theorem jo.cmp {k : Nat} {level : Int} {left : T} {o : Nat} {tk : Tk} {seg : Seg} {tail : q0} {r : T} {t : T} {o₂ : Nat} {tk₂ : Tk} {seg2 : Seg} {tail2 : q0} (h0 : ¬ lvl o < level) (h1 : kF k (rlv (lvl o)) seg.pre seg tail (.ok (r, (o₂, tk₂, seg2) :: tail2))) (h2 : jD o left r = some t) (h3 : lvl o = 9) (h4 : lvl o₂ = 9) : jo k level left ((o, tk, seg) :: tail) (.error (vi tk₂.at_)) := fun M1 M2 M3 R => R.l_cmp h0 (h1 M1 M2 M3 R) h2 h3 h4
theorem jo.go {k : Nat} {level : Int} {left : T} {o : Nat} {tk : Tk} {seg : Seg} {tail : q0} {r : T} {t : T} {tail' : q0} {out : v6} (h0 : ¬ lvl o < level) (h1 : kF k (rlv (lvl o)) seg.pre seg tail (.ok (r, tail'))) (h2 : jD o left r = some t) (h3 : (∀ o₂ tk₂ seg2 tail2, tail' = (o₂, tk₂, seg2) :: tail2 -> lvl o = 9 -> lvl o₂ ≠ 9)) (h4 : jo k level t tail' out) : jo k level left ((o, tk, seg) :: tail) out := fun M1 M2 M3 R => R.l_go h0 (h1 M1 M2 M3 R) h2 h3 (h4 M1 M2 M3 R)
theorem kF.rec2 {M1 : Nat -> Int -> List (Nat × Tk) -> Seg -> q0 -> v6 -> Prop} {M2 : Nat -> List (Nat × Tk) -> Seg -> q0 -> v6 -> Prop} {M3 : Nat -> Int -> T -> q0 -> v6 -> Prop}
  (m0 : ∀ {k : Nat} {level : Int} {pre : List (Nat × Tk)} {seg : Seg} {tail : q0} {e : Err}, xS k pre seg tail (.error e) -> M2 k pre seg tail (.error e) -> M1 (k + 1) level pre seg tail (.error e))
  (m1 : ∀ {k : Nat} {level : Int} {pre : List (Nat × Tk)} {seg : Seg} {tail : q0} {t : T} {tail' : q0} {out : v6}, xS k pre seg tail (.ok (t, tail')) -> jo k level t tail' out -> M2 k pre seg tail (.ok (t, tail')) -> M3 k level t tail' out -> M1 (k + 1) level pre seg tail out)
  (m2 : ∀ {k : Nat} {seg : Seg} {tail : q0} {e : Err}, seg.b = some e -> M2 k [] seg tail (.error e))
  (m3 : ∀ {k : Nat} {seg : Seg} {tail : q0}, seg.b = none -> M2 k [] seg tail (.ok (seg.t, tail)))
  (m4 : ∀ {k : Nat} {p : Nat} {tk : Tk} {pre : List (Nat × Tk)} {seg : Seg} {tail : q0} {e : Err}, kF k (plv p) pre seg tail (.error e) -> M1 k (plv p) pre seg tail (.error e) -> M2 (k + 1) ((p, tk) :: pre) seg tail (.error e))
  (m5 : ∀ {k : Nat} {p : Nat} {tk : Tk} {pre : List (Nat × Tk)} {seg : Seg} {tail : q0} {t : T} {tail' : q0}, kF k (plv p) pre seg tail (.ok (t, tail')) -> M1 k (plv p) pre seg tail (.ok (t, tail')) -> M2 (k + 1) ((p, tk) :: pre) seg tail (.ok (unT p t, tail')))
  (m6 : ∀ {k : Nat} {level : Int} {left : T}, M3 k level left [] (.ok (left, [])))
  (m7 : ∀ {k : Nat} {level : Int} {left : T} {o : Nat} {tk : Tk} {seg : Seg} {tail : q0}, lvl o < level -> M3 k level left ((o, tk, seg) :: tail) (.ok (left, (o, tk, seg) :: tail)))
  (m8 : ∀ {k : Nat} {level : Int} {left : T} {o : Nat} {tk : Tk} {seg : Seg} {tail : q0} {e : Err}, ¬ lvl o < level -> kF k (rlv (lvl o)) seg.pre seg tail (.error e) -> M1 k (rlv (lvl o)) seg.pre seg tail (.error e) -> M3 k level left ((o, tk, seg) :: tail) (.error e))
  (m9 : ∀ {k : Nat} {level : Int} {left : T} {o : Nat} {tk : Tk} {seg : Seg} {tail : q0} {r : T} {tail' : q0}, ¬ lvl o < level -> kF k (rlv (lvl o)) seg.pre seg tail (.ok (r, tail')) -> jD o left r = none -> M1 k (rlv (lvl o)) seg.pre seg tail (.ok (r, tail')) -> M3 k level left ((o, tk, seg) :: tail) (.error (vn tk.at_)))
  (m10 : ∀ {k : Nat} {level : Int} {left : T} {o : Nat} {tk : Tk} {seg : Seg} {tail : q0} {r : T} {t : T} {o₂ : Nat} {tk₂ : Tk} {seg2 : Seg} {tail2 : q0}, ¬ lvl o < level -> kF k (rlv (lvl o)) seg.pre seg tail (.ok (r, (o₂, tk₂, seg2) :: tail2)) -> jD o left r = some t -> lvl o = 9 -> lvl o₂ = 9 -> M1 k (rlv (lvl o)) seg.pre seg tail (.ok (r, (o₂, tk₂, seg2) :: tail2)) -> M3 k level left ((o, tk, seg) :: tail) (.error (vi tk₂.at_)))
  (m11 : ∀ {k : Nat} {level : Int} {left : T} {o : Nat} {tk : Tk} {seg : Seg} {tail : q0} {r : T} {t : T} {tail' : q0} {out : v6}, ¬ lvl o < level -> kF k (rlv (lvl o)) seg.pre seg tail (.ok (r, tail')) -> jD o left r = some t -> (∀ o₂ tk₂ seg2 tail2, tail' = (o₂, tk₂, seg2) :: tail2 -> lvl o = 9 -> lvl o₂ ≠ 9) -> jo k level t tail' out -> M1 k (rlv (lvl o)) seg.pre seg tail (.ok (r, tail')) -> M3 k level t tail' out -> M3 k level left ((o, tk, seg) :: tail) out)
  {k : Nat} {level : Int} {pre : List (Nat × Tk)} {seg : Seg} {tail : q0} {out : v6} (x : kF k level pre seg tail out) : M1 k level pre seg tail out :=
 (x (fun k l p s t o => kF k l p s t o /\ M1 k l p s t o) (fun k p s t o => xS k p s t o /\ M2 k p s t o) (fun k l f t o => jo k l f t o /\ M3 k l f t o)
  ⟨fun h0 => ⟨.err h0.1, m0 h0.1 h0.2⟩,
  fun h0 h1 => ⟨.ok h0.1 h1.1, m1 h0.1 h1.1 h0.2 h1.2⟩,
  fun h0 => ⟨.bad h0, m2 h0 ⟩,
  fun h0 => ⟨.one h0, m3 h0 ⟩,
  fun h0 => ⟨.perr h0.1, m4 h0.1 h0.2⟩,
  fun h0 => ⟨.pre h0.1, m5 h0.1 h0.2⟩,
  ⟨.nil , m6  ⟩,
  fun h0 => ⟨.stop h0, m7 h0 ⟩,
  fun h0 h1 => ⟨.err h0 h1.1, m8 h0 h1.1 h1.2⟩,
  fun h0 h1 h2 => ⟨.pipe h0 h1.1 h2, m9 h0 h1.1 h2 h1.2⟩,
  fun h0 h1 h2 h3 h4 => ⟨.cmp h0 h1.1 h2 h3 h4, m10 h0 h1.1 h2 h3 h4 h1.2⟩,
  fun h0 h1 h2 h3 h4 => ⟨.go h0 h1.1 h2 h3 h4.1, m11 h0 h1.1 h2 h3 h4.1 h1.2 h4.2⟩⟩).2
noncomputable def Stop (level : Int) : q0 -> Prop
 | [] => True
 | (o, _, _) :: _ => lvl o < level
noncomputable def TopIs (level : Int) (tail : q0) : Stk -> Prop
 | [] => ∀ x ∈ tail, level <= lvl x.1
 | (_, r, _) :: _ => r = level
noncomputable def ky (o : Nat) (b : Option Err) : q0 -> Option Err
 | (o₂, tk₂, _) :: _ => if lvl o = 9 /\ lvl o₂ = 9 then vS b (vi tk₂.at_) else b
 | [] => b
theorem J0 {o : Nat} {e : Err} : ∀ tail, ky o (some e) tail = some e
 | [] => rfl
 | (o₂, tk₂, _) :: _ => by simp only [ky]; split <;> rfl
theorem K2 {o o₂ : Nat} {tk₂ : Tk} {seg : Seg} {r : q0} (h : lvl o = 9 /\ lvl o₂ = 9) : ky o none ((o₂, tk₂, seg) :: r) = some (vi tk₂.at_) := by simp only [ky]; rw [if_pos h]; rfl
theorem J1 {o o₂ : Nat} {tk₂ : Tk} {seg : Seg} {r : q0} (h : ¬ (lvl o = 9 /\ lvl o₂ = 9)) : ky o none ((o₂, tk₂, seg) :: r) = none := by simp only [ky]; rw [if_neg h]
theorem ops_pre {p : Nat} {r : Int} {S : Stk} {t : T} {D : List T} {b : Option Err} : ∀ {tail : q0}, Stop r tail -> ops ((p, r, -1) :: S) (t :: D) b tail = ops S (unT p t :: D) b tail
 | [], _ => by show jK _ _ _ = jK _ _ _; rw [jK]; rfl
 | (o, tk, seg) :: tail, h => by
  unfold ops
  have e : qz o tk.at_ ((p, r, -1) :: S) (t :: D) b = qz o tk.at_ S (unT p t :: D) b := by
   conv => lhs; unfold qz
   rw [if_pos (show lvl o < r from h)]
   rfl
  rw [e]
theorem ops_bin {o : Nat} {r sp : Int} {S : Stk} {l x : T} {D : List T} {b : Option Err} (hs : ¬ sp < 0) : ∀ {tail : q0}, Stop r tail -> ops ((o, r, sp) :: S) (x :: l :: D) b tail =
  (match jD o l x with
  | none => ops S (x :: D) (ky o (vS b (vn sp)) tail) tail
  | some t => ops S (t :: D) (ky o b tail) tail)
 | [], _ => by
  unfold ops
  conv => lhs; unfold jK
  unfold jp
  simp only [if_neg hs]
  cases jD o l x <;> rfl
 | (o₂, tk, seg) :: tail, h => by
  have e : qz o₂ tk.at_ ((o, r, sp) :: S) (x :: l :: D) b = qz o₂ tk.at_ S (jp o sp (x :: l :: D) b).1 (if v9 o sp && lvl o₂ == 9 then vS (jp o sp (x :: l :: D) b).2 (vi tk.at_) else (jp o sp (x :: l :: D) b).2) := by
   conv => lhs; unfold qz
   rw [if_pos (show lvl o₂ < r from h)]
  have ec : (v9 o sp && lvl o₂ == 9) = decide (lvl o = 9 /\ lvl o₂ = 9) := by
   unfold v9
   rw [decide_eq_false hs]
   by_cases q1 : lvl o = 9 <;> by_cases q2 : lvl o₂ = 9 <;> simp [q1, q2]
  conv => lhs; unfold ops
  rw [e, ec]
  unfold jp
  simp only [if_neg hs]
  cases hj : jD o l x with
  | none =>
   dsimp only; conv => rhs; unfold ops
   simp only [decide_eq_true_eq, ky]
  | some t =>
   dsimp only; conv => rhs; unfold ops
   simp only [decide_eq_true_eq, ky]
noncomputable def vp (tail : q0) : Nat := match tail with | [] => 0 | (_, _, seg) :: r => seg.pre.length + vp r
noncomputable def Sp (tail : q0) : Prop := ∀ x ∈ tail, ¬ x.2.1.at_ < 0
noncomputable def MOk (level : Int) (S : Stk) (D : List T) (m : List T × Option Err) (tail : q0) : v6 -> Prop
 | .ok (t, tail') => (∃ pr, tail = pr ++ tail') /\ Stop level tail' /\ m = ops S (t :: D) none tail'
 | .error e => m.2 = some e
theorem QY : ∀ a b : q0, vp (a ++ b) = vp a + vp b
 | [], b => by simp [vp]
 | (_, _, seg) :: r, b => by show seg.pre.length + vp (r ++ b) = seg.pre.length + vp r + vp b; rw [QY r b]; exact Nat.le_antisymm (le0) (le0)
theorem agree : ∀ (N : Nat),
  (∀ (k : Nat) level S D pre seg tail, 2 * pre.length + 2 * vp tail + tail.length <= N -> 2 * pre.length + 2 * vp tail + tail.length + 2 <= k -> TopIs level tail S -> Sp tail -> ∃ out, kF k level pre seg tail out /\ MOk level S D (kG S D none pre seg tail) tail out) /\
  (∀ (k : Nat) level S D left tail, 2 * vp tail + tail.length <= N -> 2 * vp tail + tail.length + 1 <= k -> TopIs level tail S -> Sp tail -> ∃ out, jo k level left tail out /\ MOk level S D (ops S (left :: D) none tail) tail out) := by
 intro N
 induction N using Nat.strongRecOn with
 | ind N ih =>
  have loop : ∀ (k : Nat) level S D left tail, 2 * vp tail + tail.length <= N -> 2 * vp tail + tail.length + 1 <= k -> TopIs level tail S -> Sp tail -> ∃ out, jo k level left tail out /\ MOk level S D (ops S (left :: D) none tail) tail out := by
   intro k level S D left tail hN hk hT hS
   cases tail with
   | nil => exact ⟨_, .nil, ⟨[], rfl⟩, trivial, rfl⟩
   | cons x tail =>
    obtain ⟨o, tk, seg⟩ := x
    by_cases q : lvl o < level
    ·exact ⟨_, .stop q, ⟨[], rfl⟩, q, rfl⟩
    ·have hsp : ¬ tk.at_ < 0 := hS _ (.head _)
     have hS' : Sp tail := fun x hx => hS x (.tail _ hx)
     have e1 : ops S (left :: D) none ((o, tk, seg) :: tail) = kG ((o, rlv (lvl o), tk.at_) :: S) (left :: D) none seg.pre seg tail := by
      have : qz o tk.at_ S (left :: D) none = (S, left :: D, none) := by
       cases S with
       | nil => rfl
       | cons y S =>
        obtain ⟨op, r, sp⟩ := y
        have hr : r = level := hT
        unfold qz
        rw [if_neg (by rw [hr]; exact q)]
      conv => lhs; unfold ops
      rw [this]
      rfl
     simp only [vp, List.length_cons] at hN hk
     obtain ⟨out, h1, h2⟩ := (ih _ (by exact lt1 hN)).1 k (rlv (lvl o)) ((o, rlv (lvl o), tk.at_) :: S) (left :: D) seg.pre seg tail (Nat.le_refl _) (by exact le1 hk) rfl hS'
     rw [<- e1] at h2
     cases out with
     | error e => exact ⟨_, .err q h1, h2⟩
     | ok p =>
      obtain ⟨r, tail'⟩ := p
      obtain ⟨⟨pr, rfl⟩, h3, h4⟩ := h2
      rw [ops_bin hsp h3] at h4
      cases hj : jD o left r with
      | none =>
       rw [hj] at h4
       refine ⟨_, .pipe q h1 hj, ?_⟩
       show (ops S (left :: D) none ((o, tk, seg) :: (pr ++ tail'))).2 = _
       rw [h4]
       dsimp only [vS]
       rw [J0]
       exact yq
      | some t =>
       rw [hj] at h4
       by_cases qc : ∃ o₂ tk₂ seg2 tail2, tail' = (o₂, tk₂, seg2) :: tail2 /\ lvl o = 9 /\ lvl o₂ = 9
       ·obtain ⟨o₂, tk₂, seg2, tail2, rfl, c1, c2⟩ := qc
        refine ⟨_, .cmp q h1 hj c1 c2, ?_⟩
        show (ops S (left :: D) none ((o, tk, seg) :: (pr ++ _))).2 = _
        rw [h4]
        dsimp only
        rw [K2 ⟨c1, c2⟩]
        exact yq
       ·have e2 : ky o none tail' = none := by
         cases tail' with
         | nil => rfl
         | cons y _ =>
          obtain ⟨o₂, tk₂, seg2⟩ := y
          exact J1 (fun c => qc ⟨o₂, tk₂, seg2, _, rfl, c.1, c.2⟩)
        dsimp only at h4
        rw [e2] at h4
        have np := QY pr tail'
        rw [List.length_append] at hN hk
        rw [np] at hN hk
        obtain ⟨out, g1, g2⟩ := (ih _ (by exact lt1 hN)).2 k level S D t tail' (Nat.le_refl _) (by exact le1 hk) (by
         cases S with
         | nil => exact fun x hx => hT x (.tail _ (List.mem_append_right _ hx))
         | cons y S => exact hT) (fun x hx => hS' x (List.mem_append_right _ hx))
        refine ⟨out, .go q h1 hj (fun o₂ tk₂ seg2 tail2 e c1 c2 => qc ⟨o₂, tk₂, seg2, tail2, e, c1, c2⟩) g1, ?_⟩
        rw [<- h4] at g2
        cases out with
        | error e => exact g2
        | ok p =>
         obtain ⟨t', tail''⟩ := p
         obtain ⟨⟨pr', rfl⟩, g3, g4⟩ := g2
         exact ⟨⟨(o, tk, seg) :: (pr ++ pr'), by simp⟩, g3, g4⟩
  refine ⟨fun k level S D pre seg tail hN hk hT hS => ?_, loop⟩
  obtain ⟨k, rfl⟩ := Nat.exists_eq_add_of_le' (by walk_at "l" : 1 <= k)
  have opn : ∃ out, xS k pre seg tail out /\ (match out with | .ok (t, tail') => (∃ pr, tail = pr ++ tail') /\ kG S D none pre seg tail = ops S (t :: D) none tail' | .error e => (kG S D none pre seg tail).2 = some e) := by
   cases pre with
   | nil =>
    cases hb : seg.b with
    | none => exact ⟨_, .one hb, ⟨[], rfl⟩, by unfold kG; rw [hb]; rfl⟩
    | some e => exact ⟨_, .bad hb, by unfold kG; rw [hb]; exact yq⟩
   | cons x pre =>
    obtain ⟨p, tk⟩ := x
    simp only [List.length_cons] at hN hk
    obtain ⟨k, rfl⟩ := Nat.exists_eq_add_of_le' (by exact le1 hk : 1 <= k)
    obtain ⟨out, h1, h2⟩ := (ih _ (by exact lt1 hN)).1 k (plv p) ((p, plv p, -1) :: S) D pre seg tail (Nat.le_refl _) (by exact le1 hk) rfl hS
    have e1 : kG S D none ((p, tk) :: pre) seg tail = kG ((p, plv p, -1) :: S) D none pre seg tail := rfl
    rw [e1]
    cases out with
    | error e => exact ⟨_, .perr h1, h2⟩
    | ok q =>
     obtain ⟨t, tail'⟩ := q
     obtain ⟨h3, h4, h5⟩ := h2
     exact ⟨_, .pre h1, h3, by rw [h5, ops_pre h4]⟩
  obtain ⟨out, h1, h2⟩ := opn
  cases out with
  | error e => exact ⟨_, .err h1, h2⟩
  | ok q =>
   obtain ⟨t, tail'⟩ := q
   obtain ⟨⟨pr, rfl⟩, h3⟩ := h2
   rw [QY, List.length_append] at hN hk
   obtain ⟨out, g1, g2⟩ := loop k level S D t tail' (by exact le1 hN) (by exact le1 hk) (by
    cases S with
    | nil => exact fun x hx => hT x (List.mem_append_right _ hx)
    | cons y S => exact hT) (fun x hx => hS x (List.mem_append_right _ hx))
   refine ⟨out, .ok h1 g1, ?_⟩
   rw [<- h3] at g2
   cases out with
   | error e => exact g2
   | ok p =>
    obtain ⟨t', tail''⟩ := p
    obtain ⟨⟨pr', rfl⟩, g3, g4⟩ := g2
    exact ⟨⟨pr ++ pr', by simp⟩, g3, g4⟩
set_option tactic.hygienic true in
theorem QC {o : Nat} {l r t : T} (ho : o ∈ zb) (hl : wft l) (hr : wft r) (h : jD o l r = some t) : wft t /\ tsz t <= tsz l + tsz r + 10 /\ tdp t <= max (tdp l) (tdp r) + 1 := by
 have tg : ∀ g ∈ [V.none, V.none, V.none], jZ g := by simp [jZ]
 have two : ∀ (s : Nat) (x y : T), s ∈ sig -> wft x -> wft y -> wft (.call [.name s, x, y] [.none, .none, .none]) := fun s x y hs hx hy => ⟨by simp, by simp, ⟨hs, hx, hy, trivial⟩, tg⟩
 have sz : ∀ (s : Nat) (x y : T), tsz (.call [.name s, x, y] [.none, .none, .none]) = tsz x + tsz y + 8 := fun s x y => by simp only [tsz, j5, List.length_cons, List.length_nil]; exact Nat.le_antisymm (le0) (le0)
 have dp : ∀ (s : Nat) (x y : T), tdp (.call [.name s, x, y] [.none, .none, .none]) <= max (tdp x) (tdp y) + 1 := fun s x y => by
  walk_at "dp"
 unfold jD at h
 split at h
 ·cases h; exact ⟨two 43 r l (by decide) hr hl, by rw [sz]; exact le0, by have := dp 43 r l; lia⟩
 ·split at h
  ·cases h; exact ⟨two 44 r l (by decide) hr hl, by rw [sz]; exact le0, by have := dp 44 r l; lia⟩
  ·split at h
   ·split at h
    ·rename_i h' is g gs
     split at h
     ·cases h
      obtain ⟨q1, q2, ⟨q3, q3'⟩, q4⟩ := hr
      refine ⟨⟨by simp, by simp, ⟨q3, hl, q3'⟩, fun x hx => ?_⟩, ?_, ?_⟩
      ·simp only [List.mem_cons] at hx
       rcases hx with rfl | rfl | hx
       ·exact .inl rfl
       ·exact .inl rfl
       ·exact q4 x (.tail _ hx)
      ·simp only [tsz, j5, List.length_cons]; exact le0
      ·have e := Nat.max_le.mp (show max (tdp h') (vj is) <= tdp (.call (h' :: is) (g :: gs)) from Nat.le_add_left _ _)
       exact dC (dK (dMr e.1) (dK (Nat.le_max_left _ _) (dMr e.2)))
     ·cases h
    ·cases h
   ·cases h
    have hs : o ∈ sig := by
     unfold sig
     exact List.mem_append_left _ (List.mem_append_right _ ho)
    exact ⟨two o l r hs hl hr, by rw [sz]; exact le0, dp o l r⟩
theorem wft_un {p : Nat} {t : T} (hp : p ∈ [51, 52, 56, 57, 58]) (ht : wft t) : wft (unT p t) /\ tsz (unT p t) <= tsz t + 10 /\ tdp (unT p t) <= tdp t + 1 := by
 have hs : p ∈ sig := by
  have : ∀ p ∈ [51, 52, 56, 57, 58], p ∈ sig := by decide
  exact this p hp
 have h1 : 1 <= tdp t := by cases t <;> simp [tdp]
 refine ⟨⟨by simp, by simp, ⟨hs, ht, trivial⟩, by simp [jZ]⟩, ?_, ?_⟩
 ·simp only [unT, tsz, j5, List.length_cons, List.length_nil]; exact le0
 ·unfold unT; walk_at "dp"
noncomputable def xJ (inb : Bool) (pre : List (Nat × Tk)) : Prop := ∀ x ∈ pre, x.2.tv = .op x.1 /\ x.1 ∈ [51, 52, 56, 57, 58] /\ (x.2.nl = true -> inb = true)
structure X8 (O : Seg -> Prop) (B : Nat) (inb : Bool) (s : Seg) : Prop where
 pre : xJ inb s.pre
 wf : s.b = none -> wft s.t /\ tdp s.t <= B
 opn : O s
noncomputable def vL (O : Seg -> Prop) (B : Nat) (inb : Bool) (tail : q0) : Prop := ∀ x ∈ tail, x.2.1.tv = .op x.1 /\ x.1 ∈ zb /\ (x.2.1.nl = true -> inb = true) /\ X8 O B inb x.2.2
noncomputable def szT : q0 -> Nat
 | [] => 0
 | (_, _, s) :: r => 10 + 10 * s.pre.length + tsz s.t + szT r
noncomputable def cnT : q0 -> Nat
 | [] => 0
 | (_, _, s) :: r => 1 + s.pre.length + cnT r
inductive Ms (O : Seg -> Prop) (B : Nat) (inb : Bool) (t : T) (tail' : q0) (Z D C : Nat) : Prop
 | mk (h1 : wft t) (h2 : vL O B inb tail') (h3 : tsz t + szT tail' <= Z) (h4 : tdp t + cnT tail' <= D) (h5 : cnT tail' <= C)
theorem meas {O : Seg -> Prop} {B : Nat} {inb : Bool} {k : Nat} {level : Int} {pre : List (Nat × Tk)} {seg : Seg} {tail : q0} {out : v6} (h : kF k level pre seg tail out) :
  xJ inb pre -> (seg.b = none -> wft seg.t /\ tdp seg.t <= B) -> vL O B inb tail -> ∀ t tail', out = .ok (t, tail') -> Ms O B inb t tail' (10 * pre.length + tsz seg.t + szT tail) (B + pre.length + cnT tail) (cnT tail) := by
 refine kF.rec2 (M1 := fun k level pre seg tail out => xJ inb pre -> (seg.b = none -> wft seg.t /\ tdp seg.t <= B) -> vL O B inb tail -> ∀ t tail', out = .ok (t, tail') -> Ms O B inb t tail' (10 * pre.length + tsz seg.t + szT tail) (B + pre.length + cnT tail) (cnT tail))
  (M2 := fun k pre seg tail out => xJ inb pre -> (seg.b = none -> wft seg.t /\ tdp seg.t <= B) -> vL O B inb tail -> ∀ t tail', out = .ok (t, tail') -> Ms O B inb t tail' (10 * pre.length + tsz seg.t + szT tail) (B + pre.length + cnT tail) (cnT tail))
  (M3 := fun k level left tail out => ∀ L, B <= L -> wft left -> tdp left <= L -> vL O B inb tail -> ∀ t tail', out = .ok (t, tail') -> Ms O B inb t tail' (tsz left + szT tail) (L + cnT tail) (cnT tail))
  ?_ ?_ ?_ ?_ ?_ ?_ ?_ ?_ ?_ ?_ ?_ ?_ h
 ·intro k level pre seg tail e _ _ _ _ _ t tail' q; cases q
 ·intro k level pre seg tail t tail' out _ _ ih1 ih2 hp hs ht t₂ tail2 q
  obtain ⟨a1, a2, a3, a4, a5⟩ := ih1 hp hs ht t tail' rfl
  obtain ⟨b1, b2, b3, b4, b5⟩ := ih2 (max B (tdp t)) (Nat.le_max_left _ _) a1 (Nat.le_max_right _ _) a2 t₂ tail2 q
  exact ⟨b1, b2, by exact le2 b3 a3, by lia, by exact le2 b5 a5⟩
 ·intro k seg tail e _ _ _ _ t tail' q; cases q
 ·intro k seg tail hb hp hs ht t tail' q
  cases q
  obtain ⟨a1, a2⟩ := hs hb
  exact ⟨a1, ht, by simp only [List.length_nil]; exact le0, by simp only [List.length_nil]; exact le1 a2, Nat.le_refl _⟩
 ·intro k p tk pre seg tail e _ _ _ _ _ t tail' q; cases q
 ·intro k p tk pre seg tail t tail' _ ih hp hs ht t₂ tail2 q
  cases q
  obtain ⟨a1, a2, a3, a4, a5⟩ := ih (fun x hx => hp x (.tail _ hx)) hs ht t _ rfl
  obtain ⟨c1, c2, c3⟩ := wft_un (p := p) (hp _ (.head _)).2.1 a1
  exact ⟨c1, a2, by simp only [List.length_cons]; exact le2 a3 c2, by simp only [List.length_cons]; exact le2 a4 c3, a5⟩
 ·intro k level left L hL hw hd ht t tail' q
  cases q
  exact ⟨hw, ht, Nat.le_refl _, by exact le1 hd, Nat.le_refl _⟩
 ·intro k level left o tk seg tail _ L hL hw hd ht t tail' q
  cases q
  exact ⟨hw, ht, Nat.le_refl _, by exact le1 hd, Nat.le_refl _⟩
 ·intro k level left o tk seg tail e _ _ _ L hL hw hd ht t tail' q; cases q
 ·intro k level left o tk seg tail r tail' _ _ _ _ L hL hw hd ht t tail' q; cases q
 ·intro k level left o tk seg tail r t o₂ tk₂ seg2 tail2 _ _ _ _ _ _ L hL hw hd ht t tail' q; cases q
 ·intro k level left o tk seg tail r t tail' out _ _ hj _ _ ih1 ih2 L hL hw hd ht t₂ tail2 q
  obtain ⟨_, ho, _, hs⟩ := ht _ (.head _)
  obtain ⟨a1, a2, a3, a4, a5⟩ := ih1 hs.pre hs.wf (fun x hx => ht x (.tail _ hx)) r tail' rfl
  obtain ⟨c1, c2, c3⟩ := QC ho hw a1 hj
  simp only [szT, cnT]
  have hz : tdp t <= L + seg.pre.length + cnT tail - cnT tail' + 1 := by lia
  obtain ⟨b1, b2, b3, b4, b5⟩ := ih2 (L + seg.pre.length + cnT tail - cnT tail' + 1) (by walk_at "l") c1 hz a2 t₂ tail2 q
  exact ⟨b1, b2, by exact le3 b3 c2 a3, by lia, by exact le2 b5 a5⟩
noncomputable def wR (c : Fn -> List V -> M V) : M Fl := (u109 c)
theorem wA (c : Fn -> List V -> M V) : jn c = qF (qy (nm 91) (ql .reader (qD (nm 0)) [] (c .operand))) (u110 c) := rfl
noncomputable def xC : List Nat := [75, 77, 78, 79, 80]
noncomputable def JJ (rest : List Tk) (ctx : List V) : Prop := ∃ hd tl o, rest = hd :: tl /\ hd.tv = .op o /\ o ∈ zE /\ o ∉ xC /\ NlOk hd ctx
noncomputable def yj (rest : List Tk) (ctx : List V) : Prop := ∃ hd tl o, rest = hd :: tl /\ hd.tv = .op o /\ o ∈ zE /\ o ∉ xC /\ lvl o = 0 /\ NlOk hd ctx
structure v7 (N L : Nat) (inb : Bool) (s : Seg) : Prop where
 rd : ∀ n X hp a rest ctx Q E, N <= n -> jJ ctx -> ctx.length <= L -> (inb = true -> zr ctx) -> JJ rest ctx -> qw X hp a (s.ts ++ rest) ctx ->
  (s.b = none -> ∀ hp' a', qw X hp' a' rest ctx -> zA X hp a hp' a' -> Q (qg s.t) hp') -> (∀ e, s.b = some e -> ∀ hp' a', zA X hp a hp' a' -> E e.1 e.2 hp') -> Call n .operand [.ref X.r] hp Q E
noncomputable def zB (s : Seg) : List Tk := s.pre.map (·.2) ++ s.ts
noncomputable def qe : q0 -> List Tk
 | [] => []
 | (_, tk, s) :: r => tk :: (zB s ++ qe r)
theorem vv {o : Nat} (h : o ∈ zb) : o ∈ zE /\ o ∉ xC /\ 1 <= lvl o /\ lvl o <= 15 := by
 have : ∀ o ∈ zb, o ∈ zE /\ o ∉ xC /\ 1 <= lvl o /\ lvl o <= 15 := by decide
 exact this o h
theorem XY {o : Nat} (h : o ∈ [51, 52, 56, 57, 58]) : o ∈ zE /\ 0 < plv o := by
 have : ∀ o ∈ [51, 52, 56, 57, 58], o ∈ zE /\ 0 < plv o := by decide
 exact this o h
theorem yg {O B inb} {tail : q0} {rest : List Tk} {ctx : List V} (ht : vL O B inb tail) (hi : inb = true -> zr ctx) (he : yj rest ctx) : JJ (qe tail ++ rest) ctx := by
 cases tail with
 | nil =>
  obtain ⟨hd, tl, o, h1, h2, h3, h4, _, h5⟩ := he
  exact ⟨hd, tl, o, h1, h2, h3, h4, h5⟩
 | cons x r =>
  obtain ⟨o, tk, s⟩ := x
  obtain ⟨h1, h2, h3, _⟩ := ht _ (.head _)
  obtain ⟨b1, b2, _⟩ := vv h2
  exact ⟨tk, zB s ++ qe r ++ rest, o, by simp [qe], h1, b1, b2, fun q => hi (h3 q)⟩
theorem ZY {O B inb} {tail : q0} {rest : List Tk} {ctx : List V} (ht : vL O B inb tail) (hi : inb = true -> zr ctx) (he : yj rest ctx) :
  ∃ hd tl o, qe tail ++ rest = hd :: tl /\ hd.tv = .op o /\ o ∈ zE /\ NlOk hd ctx /\ ((tail = [] /\ lvl o = 0) \/ ∃ s r, tail = (o, hd, s) :: r /\ tl = zB s ++ (qe r ++ rest) /\ 1 <= lvl o /\ o ∈ zb) := by
 cases tail with
 | nil =>
  obtain ⟨hd, tl, o, h1, h2, h3, h4, h6, h5⟩ := he
  exact ⟨hd, tl, o, h1, h2, h3, h5, .inl ⟨rfl, h6⟩⟩
 | cons x r =>
  obtain ⟨o, tk, s⟩ := x
  obtain ⟨h1, h2, h3, _⟩ := ht _ (.head _)
  obtain ⟨b1, b2, b3, _⟩ := vv h2
  exact ⟨tk, zB s ++ (qe r ++ rest), o, by simp [qe], h1, b1, fun q => hi (h3 q), .inr ⟨s, r, rfl, rfl, b3, h2⟩⟩
noncomputable abbrev RdP (N L B : Nat) (inb : Bool) := vL (v7 N L inb) B inb
set_option tactic.hygienic true in
theorem kb {N L B : Nat} {inb : Bool} {m f : Nat} {X : RX} {hp : Hp} {a : Nat} {rest : List Tk} {ctx : List V} {l : Nv} {level : Int} {left : V} {tail : q0} {Q : Fl -> Nv -> Hp -> Prop} {E : V -> V -> Hp -> Prop} (hm : 6 <= m + 1)
  (hx : jJ ctx) (hi : inb = true -> zr ctx) (he : yj rest ctx) (ht : RdP N L B inb tail) (l0 : l.lookup 0 = some (.ref X.r)) (l1 : l.lookup 59 = some (.int level)) (l2 : l.lookup 91 = some left) (R : qw X hp a (qe tail ++ rest) ctx)
  (h1 : (tail = [] \/ ∃ o tk s r, tail = (o, tk, s) :: r /\ lvl o < level) -> ∀ l' hp' a', qw X hp' a' (qe tail ++ rest) ctx -> zA X hp a hp' a' -> Q (.ret left) l' hp')
  (h2 : ∀ o tk s r, tail = (o, tk, s) :: r -> ¬ lvl o < level -> ∀ hp' a', qw X hp' a' (zB s ++ (qe r ++ rest)) ctx -> zA X hp a hp' a' ->
   W (qF (qy (nm 90) (ql .reader (qD (nm 0)) [(qa [(qd (nm 7) (qD (nm 97))), (qD (nm 103))] >>= run (m + 1) .rightLevel)] (run (m + 1) .expression))) (qF (qy (nm 91) (qa [(qd (nm 7) (qD (nm 97))), (qD (nm 91)), (qD (nm 90)), (qd (nm 8) (qD (nm 97)))] >>= run (m + 1) .joined)) (qF (sIf (qi .Eq (qD (nm 103)) (pure (.int 9))) (qF (qv (ql .reader (qD (nm 0)) [] (run (m + 1) .noSecondComparison))) qK) qK) qK)))
    ((103, .int (lvl o)) :: (103, .int 0) :: (97, jr tk) :: l) hp' (wN f (z8 (pure (.bool true))) (wR (run (m + 1))) Q E) E) :
  W (zP (f + 1) (z8 (pure (.bool true))) (wR (run (m + 1)))) l hp Q E := by
 obtain ⟨⟨tv, p, b⟩, tl, o, e1, e2, e3, e4, e5⟩ := ZY ht hi he
 subst e2
 rw [e1] at R
 have hr := R.hr
 refine yS ?_
 walk_at "w"
 unfold wR
 walk_at "w"
 refine qI (zd (by walk_at "l") R fun hp₁ R1 K₁ _ => ?_)
 have hr := R1.hr
 walk_at "w"
 refine qI (wq (t := ⟨.op o, p, b⟩) (by walk_at "l") hx e4 R1 ?_)
 walk_at "w"
 refine qI (vK (n := m) e3 ?_)
 walk_at "w"
 refine zL (fun q => ?_) (fun q => ?_)
 ·have q : lvl o = 0 := by simpa using q
  walk_at "w"
  refine h1 ?_ _ hp₁ a (by rw [e1]; exact R1) K₁
  rcases e5 with ⟨e5, _⟩ | ⟨s, r, e5, _, e7, _⟩
  ·exact .inl e5
  ·lia
 have q : ¬ lvl o = 0 := by simpa using q
 rcases e5 with ⟨_, e5⟩ | ⟨s, r, e5, e6, e7, e8⟩
 ·exact absurd e5 q
 walk_at "w"
 ·rename_i q2
  exact h1 (.inr ⟨o, _, s, r, e5, q2⟩) _ hp₁ a (by rw [e1]; exact R1) K₁
 ·rename_i q2
  refine qI (jC (by walk_at "l") R1 fun hp₂ a₂ R2 K₂ => ?_)
  refine qY ?_
  rw [e6] at R2
  exact h2 o _ s r e5 q2 hp₂ a₂ R2 (K₁.trans K₂)
set_option tactic.hygienic true in
theorem Jk {m : Nat} {X : RX} {hp : Hp} {a : Nat} {tk : Tk} {ts : List Tk} {ctx : List V} {p : Nat} {Q : V -> Hp -> Prop} {E : V -> V -> Hp -> Prop} (hm : 6 <= m + 2) (hx : jJ ctx) (e : tk.tv = .op p) (hp0 : p ∈ [51, 52, 56, 57, 58]) (R : qw X hp a (tk :: ts) ctx)
  (h : ∀ hp' a', qw X hp' a' ts ctx -> zA X hp a hp' a' -> Call (m + 2) .expression [.ref X.r, .int (plv p)] hp' (fun v hp'' => Q (XM (.lst [vSym (.str (nm p)), v]) (.lst [.none, .none])) hp'') E) : Call (m + 3) .operand [.ref X.r] hp Q E := by
 obtain ⟨tv, ap, b⟩ := tk
 subst e
 obtain ⟨h1, h2⟩ := XY hp0
 refine qh [0] none (kj (run (m + 2))) rfl rfl ?_
 simp only [List.zip_cons_cons, List.zip_nil_left, List.zip_nil_right]
 unfold kj
 have hr := R.hr
 walk_at "w"
 refine qI (zd (by walk_at "l") R fun hp₁ R1 K₁ _ => ?_)
 have hr := R1.hr
 walk_at "w"
 refine qI (xG (n := m + 1) h1 ?_)
 walk_at "w"
 ·refine qI (jC (by walk_at "l") R1 fun hp₂ a₂ R2 K₂ => ?_)
  have hr := R2.hr
  walk_at "w"
  refine qI ((h hp₂ a₂ R2 (K₁.trans K₂)).mono (fun v hp' q => ?_) fun _ _ _ q => q)
  walk_at "w"
  refine ⟨by walk_at "p", ?_⟩
  walk_at "w"
  refine qI (ku (n := m) (as := [v]) (by simp) ?_)
  walk_at "w"
  exact q
 ·rename_i q; exact absurd h2 q
theorem lvl_lt (o : Nat) : lvl o < 16 := by
 have k : ∀ l : List (Nat × Int), (∀ p ∈ l, p.2 < 16) -> (l.lookup o).getD 0 < 16 := by
  intro l
  induction l with
  | nil => intro _; exact (by decide : (0 : Int) < 16)
  | cons p r ih =>
   intro h
   rw [List.lookup_cons]
   cases o == p.1 with
   | true => exact h p (.head _)
   | false => exact ih fun q hq => h q (.tail _ hq)
 exact k lvT (by decide)
theorem measO {O : Seg -> Prop} {B : Nat} {inb : Bool} {k : Nat} {pre : List (Nat × Tk)} {seg : Seg} {tail tail' : q0} {t : T} (d : xS k pre seg tail (.ok (t, tail'))) (hp : xJ inb pre) (hs : seg.b = none -> wft seg.t /\ tdp seg.t <= B) (ht : vL O B inb tail) :
  Ms O B inb t tail' (10 * pre.length + tsz seg.t + szT tail) (B + pre.length + cnT tail) (cnT tail) := by
 have e : kF (k + 1) 16 pre seg tail (.ok (t, tail')) := .ok d (by
  cases tail' with
  | nil => exact .nil
  | cons x r => obtain ⟨o, tk, s⟩ := x; exact .stop (lvl_lt o))
 exact meas e hp hs ht t tail' rfl
theorem szT_cn : ∀ tail : q0, cnT tail <= szT tail
 | [] => Nat.le_refl _
 | (_, _, s) :: r => by have := szT_cn r; simp only [cnT, szT]; exact le1 this
theorem rd_all {N L B : Nat} {inb : Bool} (hN : 6 <= N) {k : Nat} {level : Int} {pre : List (Nat × Tk)} {seg : Seg} {tail : q0} {out : v6} (h : kF k level pre seg tail out) :
  ∀ n X hp a rest ctx Q E, k + N <= n -> jJ ctx -> ctx.length <= L -> (inb = true -> zr ctx) -> yj rest ctx -> xJ inb pre -> (seg.b = none -> wft seg.t /\ tdp seg.t <= B) -> v7 N L inb seg -> RdP N L B inb tail -> 10 * pre.length + tsz seg.t + szT tail <= 4000000 -> cnT tail <= 900000 ->
   qw X hp a (pre.map (·.2) ++ (seg.ts ++ (qe tail ++ rest))) ctx -> (∀ t tail', out = .ok (t, tail') -> ∀ hp' a', qw X hp' a' (qe tail' ++ rest) ctx -> zA X hp a hp' a' -> Q (qg t) hp') ->
   (∀ e, out = .error e -> ∀ hp' a', zA X hp a hp' a' -> E e.1 e.2 hp') -> Call n .expression [.ref X.r, .int level] hp Q E := by
 refine kF.rec2
  (M1 := fun k level pre seg tail out => ∀ n X hp a rest ctx Q E, k + N <= n -> jJ ctx -> ctx.length <= L -> (inb = true -> zr ctx) -> yj rest ctx -> xJ inb pre -> (seg.b = none -> wft seg.t /\ tdp seg.t <= B) -> v7 N L inb seg -> RdP N L B inb tail -> 10 * pre.length + tsz seg.t + szT tail <= 4000000 -> cnT tail <= 900000 ->
   qw X hp a (pre.map (·.2) ++ (seg.ts ++ (qe tail ++ rest))) ctx -> (∀ t tail', out = .ok (t, tail') -> ∀ hp' a', qw X hp' a' (qe tail' ++ rest) ctx -> zA X hp a hp' a' -> Q (qg t) hp') ->
   (∀ e, out = .error e -> ∀ hp' a', zA X hp a hp' a' -> E e.1 e.2 hp') -> Call n .expression [.ref X.r, .int level] hp Q E)
  (M2 := fun k pre seg tail out => ∀ n X hp a rest ctx Q E, k + N <= n -> jJ ctx -> ctx.length <= L -> (inb = true -> zr ctx) -> yj rest ctx -> xJ inb pre -> (seg.b = none -> wft seg.t /\ tdp seg.t <= B) -> v7 N L inb seg -> RdP N L B inb tail -> 10 * pre.length + tsz seg.t + szT tail <= 4000000 -> cnT tail <= 900000 ->
   qw X hp a (pre.map (·.2) ++ (seg.ts ++ (qe tail ++ rest))) ctx -> (∀ t tail', out = .ok (t, tail') -> ∀ hp' a', qw X hp' a' (qe tail' ++ rest) ctx -> zA X hp a hp' a' -> Q (qg t) hp') ->
   (∀ e, out = .error e -> ∀ hp' a', zA X hp a hp' a' -> E e.1 e.2 hp') -> Call n .operand [.ref X.r] hp Q E)
  (M3 := fun k level left tail out => ∀ m f X hp a rest ctx l (Q : Fl -> Nv -> Hp -> Prop) E, k + N <= m + 1 -> cnT tail < f -> jJ ctx -> ctx.length <= L -> (inb = true -> zr ctx) -> yj rest ctx -> wft left -> RdP N L B inb tail -> tsz left + szT tail <= 4000000 -> cnT tail <= 900000 ->
   l.lookup 0 = some (.ref X.r) -> l.lookup 59 = some (.int level) -> l.lookup 91 = some (qg left) -> qw X hp a (qe tail ++ rest) ctx ->
   (∀ t tail', out = .ok (t, tail') -> ∀ l' hp' a', qw X hp' a' (qe tail' ++ rest) ctx -> zA X hp a hp' a' -> Q (.ret (qg t)) l' hp') ->
   (∀ e, out = .error e -> ∀ hp' a', zA X hp a hp' a' -> E e.1 e.2 hp') -> W (zP f (z8 (pure (.bool true))) (wR (run (m + 1)))) l hp Q E)
  ?_ ?_ ?_ ?_ ?_ ?_ ?_ ?_ ?_ ?_ ?_ ?_ h
 ·-- err
  intro k level pre seg tail e _ ih n X hp a rest ctx Q E hn hx hL hi he hp0 hs hO ht hz hcz R hq hE
  obtain ⟨m, rfl⟩ := Nat.exists_eq_add_of_le' (by exact le1 hn : 1 <= n)
  refine qh [0, 59] (some (.int 0)) (jn (run m)) rfl rfl ?_
  simp only [List.zip_cons_cons, List.zip_nil_left, List.zip_nil_right]
  rw [wA]
  have hr := R.hr
  walk_at "w"
  refine qI (ih m X hp a rest ctx _ _ (by exact le1 hn) hx hL hi he hp0 hs hO ht hz hcz R (fun t tail' q => nomatch q) hE)
 ·-- ok
  intro k level pre seg tail t tail' out d1 d2 ih1 ih2 n X hp a rest ctx Q E hn hx hL hi he hp0 hs hO ht hz hcz R hq hE
  obtain ⟨m, rfl⟩ := Nat.exists_eq_add_of_le' (by exact le2 hN hn : 2 <= n)
  refine qh [0, 59] (some (.int 0)) (jn (run (m + 1))) rfl rfl ?_
  simp only [List.zip_cons_cons, List.zip_nil_left, List.zip_nil_right]
  rw [wA]
  have hr := R.hr
  walk_at "w"
  obtain ⟨a1, a2, a3, a4, a5⟩ := measO d1 hp0 hs ht
  refine qI (ih1 (m + 1) X hp a rest ctx _ _ (by exact le1 hn) hx hL hi he hp0 hs hO ht hz hcz R (fun t₂ tail2 q hp₁ a₁ R1 K₁ => ?_) (fun e q => nomatch q))
  cases q
  refine qY (zR ?_)
  refine ih2 m wf X hp₁ a₁ rest ctx _ _ E (by exact le1 hn) (by have : wf = 1000000 := rfl; exact lt3 a5 hcz (eR this)) hx hL hi he a1 a2 (by exact le2 a3 hz) (by exact le2 a5 hcz) (by walk_at "look") (by walk_at "look") (by walk_at "look") R1 (fun t₃ tail3 q l' hp' a' R' K => ?_) fun e q hp' a' K => hE e q hp' a' (K₁.trans K)
  exact hq t₃ tail3 q hp' a' R' (K₁.trans K)
 ·-- bad
  intro k seg tail e hb n X hp a rest ctx Q E hn hx hL hi he hp0 hs hO ht hz hcz R hq hE
  refine hO.rd n X hp a (qe tail ++ rest) ctx Q E (by exact le1 hn) hx hL hi (yg ht hi he) R (fun q => by rw [hb] at q; cases q) fun e' q hp' a' K => ?_
  rw [hb] at q; cases q
  exact hE e rfl hp' a' K
 ·-- one
  intro k seg tail hb n X hp a rest ctx Q E hn hx hL hi he hp0 hs hO ht hz hcz R hq hE
  refine hO.rd n X hp a (qe tail ++ rest) ctx Q E (by exact le1 hn) hx hL hi (yg ht hi he) R (fun _ hp' a' R' K => hq _ _ rfl hp' a' R' K) fun e' q => by rw [hb] at q; cases q
 ·-- perr
  intro k p tk pre seg tail e _ ih n X hp a rest ctx Q E hn hx hL hi he hp0 hs hO ht hz hcz R hq hE
  obtain ⟨m, rfl⟩ := Nat.exists_eq_add_of_le' (by exact le2 hN hn : 3 <= n)
  obtain ⟨b1, b2, _⟩ := hp0 _ (.head _)
  refine Jk (by exact le2 hN hn) hx b1 b2 R fun hp₁ a₁ R1 K₁ => ?_
  exact ih (m + 2) X hp₁ a₁ rest ctx _ _ (by exact le1 hn) hx hL hi he (fun x hx => hp0 x (.tail _ hx)) hs hO ht (by simp only [List.length_cons] at hz; exact le1 hz) hcz R1 (fun t tail' q => nomatch q) fun e' q hp' a' K => hE e' q hp' a' (K₁.trans K)
 ·-- pre
  intro k p tk pre seg tail t tail' _ ih n X hp a rest ctx Q E hn hx hL hi he hp0 hs hO ht hz hcz R hq hE
  obtain ⟨m, rfl⟩ := Nat.exists_eq_add_of_le' (by exact le2 hN hn : 3 <= n)
  obtain ⟨b1, b2, _⟩ := hp0 _ (.head _)
  refine Jk (by exact le2 hN hn) hx b1 b2 R fun hp₁ a₁ R1 K₁ => ?_
  refine ih (m + 2) X hp₁ a₁ rest ctx _ _ (by exact le1 hn) hx hL hi he (fun x hx => hp0 x (.tail _ hx)) hs hO ht (by simp only [List.length_cons] at hz; exact le1 hz) hcz R1 (fun t₂ tail2 q hp' a' R' K => ?_) fun e' q => nomatch q
  cases q
  exact hq (unT p t) _ rfl hp' a' R' (K₁.trans K)
 ·-- nil
  intro k level left m f X hp a rest ctx l Q E hn hf hx hL hi he hw ht hz hcz l0 l1 l2 R hq hE
  obtain ⟨f, rfl⟩ := Nat.exists_eq_add_of_le' (by exact le1 (sL hf) : 1 <= f)
  refine kb (by exact le2 hN hn) hx hi he ht l0 l1 l2 R (fun _ l' hp' a' R' K => hq _ _ rfl l' hp' a' R' K) fun o tk s r q => by cases q
 ·-- stop
  intro k level left o tk seg tail hlt m f X hp a rest ctx l Q E hn hf hx hL hi he hw ht hz hcz l0 l1 l2 R hq hE
  obtain ⟨f, rfl⟩ := Nat.exists_eq_add_of_le' (by exact le1 (sL hf) : 1 <= f)
  refine kb (by exact le2 hN hn) hx hi he ht l0 l1 l2 R (fun _ l' hp' a' R' K => hq _ _ rfl l' hp' a' R' K) fun o tk s r q q2 => by cases q; exact absurd hlt q2
 ·-- err in the right side
  intro k level left o tk seg tail e hlt d1 ih m f X hp a rest ctx l Q E hn hf hx hL hi he hw ht hz hcz l0 l1 l2 R hq hE
  obtain ⟨f, rfl⟩ := Nat.exists_eq_add_of_le' (by exact le1 (sL hf) : 1 <= f)
  refine kb (by exact le2 hN hn) hx hi he ht l0 l1 l2 R (fun q => ?_) fun o₁ tk₁ s₁ r₁ q q2 hp₁ a₁ R1 K₁ => ?_
  ·rcases q with q | ⟨_, _, _, _, q, q2⟩
   ·cases q
   ·cases q; exact absurd q2 hlt
  cases q
  have hr := R1.hr
  have hs := ht _ (.head _)
  obtain ⟨hs1, hs2, hs3, hs4⟩ := hs
  have ht' : RdP N L B inb tail := fun x hx => ht x (.tail _ hx)
  simp only [szT, cnT] at hz hf hcz
  unfold zB at R1
  rw [List.append_assoc] at R1
  obtain ⟨tv, ap, bn⟩ := tk
  dsimp only at hs1 hs2 hs3 hs4
  subst hs1
  walk_at "w"
  refine qI (kO (n := m) (vv hs2).1 ?_)
  walk_at "w"
  refine qI (ih (m + 1) X hp₁ a₁ rest ctx _ _ (by walk_at "l") hx hL hi he hs4.pre hs4.wf hs4.opn ht' (by exact le1 hz) (by exact le1 hcz) R1 (fun t tail' q => nomatch q) fun e' q hp' a' K => hE e' q hp' a' (K₁.trans K))
 ·-- a pipe into what is no call
  intro k level left o tk seg tail r tail' hlt d1 hj ih m f X hp a rest ctx l Q E hn hf hx hL hi he hw ht hz hcz l0 l1 l2 R hq hE
  obtain ⟨f, rfl⟩ := Nat.exists_eq_add_of_le' (by exact le1 (sL hf) : 1 <= f)
  refine kb (by exact le2 hN hn) hx hi he ht l0 l1 l2 R (fun q => ?_) fun o₁ tk₁ s₁ r₁ q q2 hp₁ a₁ R1 K₁ => ?_
  ·rcases q with q | ⟨_, _, _, _, q, q2⟩
   ·cases q
   ·cases q; exact absurd q2 hlt
  cases q
  have hr := R1.hr
  have hs := ht _ (.head _)
  obtain ⟨hs1, hs2, hs3, hs4⟩ := hs
  have ht' : RdP N L B inb tail := fun x hx => ht x (.tail _ hx)
  simp only [szT, cnT] at hz hf hcz
  unfold zB at R1
  rw [List.append_assoc] at R1
  obtain ⟨tv, ap, bn⟩ := tk
  dsimp only at hs1 hs2 hs3 hs4
  subst hs1
  walk_at "w"
  refine qI (kO (n := m) (vv hs2).1 ?_)
  walk_at "w"
  obtain ⟨c1, c2, c3, c4, c5⟩ := meas d1 hs4.pre hs4.wf ht' r tail' rfl
  refine qI (ih (m + 1) X hp₁ a₁ rest ctx _ _ (by walk_at "l") hx hL hi he hs4.pre hs4.wf hs4.opn ht' (by exact le1 hz) (by exact le1 hcz) R1 (fun t₂ tail2 q hp₂ a₂ R2 K₂ => ?_) fun e' q => nomatch q)
  cases q
  walk_at "w"
  refine qI (Qc (by exact le2 hN hn) hs2 c1 (by exact le2 c3 hz) (fun t q => by rw [hj] at q; cases q) fun _ => ?_)
  exact hE _ rfl hp₂ a₂ (K₁.trans K₂)
 ·-- a second comparison
  intro k level left o tk seg tail r t o₂ tk₂ seg2 tail2 hlt d1 hj q9 q92 ih m f X hp a rest ctx l Q E hn hf hx hL hi he hw ht hz hcz l0 l1 l2 R hq hE
  obtain ⟨f, rfl⟩ := Nat.exists_eq_add_of_le' (by exact le1 (sL hf) : 1 <= f)
  refine kb (by exact le2 hN hn) hx hi he ht l0 l1 l2 R (fun q => ?_) fun o₁ tk₁ s₁ r₁ q q2 hp₁ a₁ R1 K₁ => ?_
  ·rcases q with q | ⟨_, _, _, _, q, q2⟩
   ·cases q
   ·cases q; exact absurd q2 hlt
  cases q
  have hr := R1.hr
  have hs := ht _ (.head _)
  obtain ⟨hs1, hs2, hs3, hs4⟩ := hs
  have ht' : RdP N L B inb tail := fun x hx => ht x (.tail _ hx)
  simp only [szT, cnT] at hz hf hcz
  unfold zB at R1
  rw [List.append_assoc] at R1
  obtain ⟨tv, ap, bn⟩ := tk
  dsimp only at hs1 hs2 hs3 hs4
  subst hs1
  walk_at "w"
  refine qI (kO (n := m) (vv hs2).1 ?_)
  walk_at "w"
  obtain ⟨c1, c2, c3, c4, c5⟩ := meas d1 hs4.pre hs4.wf ht' r _ rfl
  refine qI (ih (m + 1) X hp₁ a₁ rest ctx _ _ (by walk_at "l") hx hL hi he hs4.pre hs4.wf hs4.opn ht' (by exact le1 hz) (by exact le1 hcz) R1 (fun t₃ tail3 q hp₂ a₂ R2 K₂ => ?_) fun e' q => nomatch q)
  cases q
  walk_at "w"
  refine qI (Qc (by exact le2 hN hn) hs2 c1 (by exact le2 c3 hz) (fun t q => ?_) fun q => by rw [hj] at q; cases q)
  walk_at "w"
  refine zL (fun _ => ?_) (fun q => by rw [q9] at q; simp at q)
  have hr := R2.hr
  walk_at "w"
  obtain ⟨g1, g2, g3, _⟩ := c2 _ (.head _)
  refine qI (Qa (t := tk₂) (ts := zB seg2 ++ (qe tail2 ++ rest)) (by exact le2 hN hn) (by rw [g1]; exact (vv g2).1) hx (fun z => hi (g3 z)) (by simpa [qe] using R2) (fun _ hp' K' => ?_) fun q => absurd ⟨o₂, g1, q92⟩ q)
  exact hE _ rfl hp' a₂ (K₁.trans (K₂.trans K'))
 ·-- on
  intro k level left o tk seg tail r t tail' out hlt d1 hj hno d2 ih ih2 m f X hp a rest ctx l Q E hn hf hx hL hi he hw ht hz hcz l0 l1 l2 R hq hE
  obtain ⟨f, rfl⟩ := Nat.exists_eq_add_of_le' (by exact le1 (sL hf) : 1 <= f)
  refine kb (by exact le2 hN hn) hx hi he ht l0 l1 l2 R (fun q => ?_) fun o₁ tk₁ s₁ r₁ q q2 hp₁ a₁ R1 K₁ => ?_
  ·rcases q with q | ⟨_, _, _, _, q, q2⟩
   ·cases q
   ·cases q; exact absurd q2 hlt
  cases q
  have hr := R1.hr
  have hs := ht _ (.head _)
  obtain ⟨hs1, hs2, hs3, hs4⟩ := hs
  have ht' : RdP N L B inb tail := fun x hx => ht x (.tail _ hx)
  simp only [szT, cnT] at hz hf hcz
  unfold zB at R1
  rw [List.append_assoc] at R1
  obtain ⟨tv, ap, bn⟩ := tk
  dsimp only at hs1 hs2 hs3 hs4
  subst hs1
  walk_at "w"
  refine qI (kO (n := m) (vv hs2).1 ?_)
  walk_at "w"
  obtain ⟨c1, c2, c3, c4, c5⟩ := meas d1 hs4.pre hs4.wf ht' r tail' rfl
  obtain ⟨j1, j2, j3⟩ := QC hs2 hw c1 hj
  refine qI (ih (m + 1) X hp₁ a₁ rest ctx _ _ (by walk_at "l") hx hL hi he hs4.pre hs4.wf hs4.opn ht' (by exact le1 hz) (by exact le1 hcz) R1 (fun t₃ tail3 q hp₂ a₂ R2 K₂ => ?_) fun e' q => nomatch q)
  cases q
  walk_at "w"
  refine qI (Qc (by exact le2 hN hn) hs2 c1 (by exact le2 c3 hz) (fun t₃ q => ?_) fun q => by rw [hj] at q; cases q)
  rw [hj] at q; cases q
  walk_at "w"
  have again : ∀ l₃ hp3 a₃, List.lookup 0 l₃ = some (.ref X.r) -> List.lookup 59 l₃ = some (.int level) -> List.lookup 91 l₃ = some (qg t) -> qw X hp3 a₃ (qe tail' ++ rest) ctx -> zA X hp a hp3 a₃ -> W (zP f (z8 (pure (.bool true))) (wR (run (m + 1)))) l₃ hp3 Q E := by
   intro l₃ hp3 a₃ w0 w1 w2 R3 K₃
   exact ih2 m f X hp3 a₃ rest ctx l₃ Q E (by walk_at "l") (by exact lt2 c5 (sL hf)) hx hL hi he j1 c2 (by exact le3 c3 hz j2) (by exact le2 c5 hcz) w0 w1 w2 R3 (fun t4 tail4 q l' hp' a' R' K => hq t4 tail4 q l' hp' a' R' (K₃.trans K)) fun e q hp' a' K => hE e q hp' a' (K₃.trans K)
  refine zL (fun q9 => ?_) (fun _ => ?_)
  ·have q9 : lvl o = 9 := by simpa using q9
   obtain ⟨hd, tl, o', f1, f2, f3, f4, f5⟩ := ZY c2 hi he
   have hr := R2.hr
   rw [f1] at R2
   walk_at "w"
   refine qI (Qa (t := hd) (ts := tl) (by exact le2 hN hn) (by rw [f2]; exact f3) hx f4 R2 (fun ⟨o₃, q1, q2⟩ => ?_) fun _ hp3 R3 K₃ => ?_)
   ·rw [f2] at q1; cases q1
    rcases f5 with ⟨_, f5⟩ | ⟨s, r', f5, _⟩
    ·rw [f5] at q2; cases q2
    ·exact absurd q2 (hno _ _ _ _ f5 q9)
   walk_at "w"
   exact again _ hp3 a₂ (by walk_at "look") (by walk_at "look") (by walk_at "look") (by rw [f1]; exact R3) (K₁.trans (K₂.trans K₃))
  ·walk_at "w"
   exact again _ hp₂ a₂ (by walk_at "look") (by walk_at "look") (by walk_at "look") R2 (K₁.trans K₂)
structure Q1 (N L : Nat) (inb : Bool) (level : Int) (ts : List Tk) (t : T) (b : Option Err) : Prop where
 rd : ∀ n X hp a rest ctx Q E, N <= n -> jJ ctx -> ctx.length <= L -> (inb = true -> zr ctx) -> yj rest ctx -> qw X hp a (ts ++ rest) ctx ->
  (b = none -> ∀ hp' a', qw X hp' a' rest ctx -> zA X hp a hp' a' -> Q (qg t) hp') -> (∀ e, b = some e -> ∀ hp' a', zA X hp a hp' a' -> E e.1 e.2 hp') -> Call n .expression [.ref X.r, .int level] hp Q E
structure kE (N L : Nat) (inb : Bool) (ts : List Tk) (t : T) (b : Option Err) : Prop where
 first : ∃ t0 tl, ts = t0 :: tl /\ t0.tv.ok /\ ∀ o, t0.tv = .op o -> plv o = 0
 rd : ∀ n X hp a rest ctx Q E, N <= n -> jJ ctx -> ctx.length <= L -> (inb = true -> zr ctx) -> qw X hp a (ts ++ rest) ctx ->
  (b = none -> ∀ hp' a', qw X hp' a' rest ctx -> zA X hp a hp' a' -> Q (qg t) hp') -> (∀ e, b = some e -> ∀ hp' a', zA X hp a hp' a' -> E e.1 e.2 hp') -> Call n .primary [.ref X.r] hp Q E
theorem row_rd {N L B : Nat} {inb : Bool} (hN : 6 <= N) {level : Int} {seg : Seg} {tail : q0} {t : T} {k : Nat} (hk : 2 * seg.pre.length + 2 * vp tail + tail.length + 2 <= k) (hlv : ∀ x ∈ tail, level <= lvl x.1) (hsp : Sp tail)
  (hs : X8 (v7 N L inb) B inb seg) (ht : RdP N L B inb tail) (hz : 10 * seg.pre.length + tsz seg.t + szT tail <= 4000000) (hcz : cnT tail <= 900000) (hm : (kG [] [] none seg.pre seg tail).1 = [t]) :
  Q1 (k + N) L inb level (zB seg ++ qe tail) t (kG [] [] none seg.pre seg tail).2 /\ ((kG [] [] none seg.pre seg tail).2 = none -> wft t /\ tdp t <= B + seg.pre.length + cnT tail) := by
 obtain ⟨out, d, mo⟩ := (agree (2 * seg.pre.length + 2 * vp tail + tail.length)).1 k level [] [] seg.pre seg tail (Nat.le_refl _) hk hlv hsp
 have key : (∃ t', out = .ok (t', []) /\ t' = t /\ (kG [] [] none seg.pre seg tail).2 = none) \/ ∃ e, out = .error e /\ (kG [] [] none seg.pre seg tail).2 = some e := by
  cases out with
  | error e => exact .inr ⟨e, rfl, mo⟩
  | ok p =>
   obtain ⟨t', tail'⟩ := p
   obtain ⟨⟨pr, hpr⟩, h2, h3⟩ := mo
   have : tail' = [] := by
    cases tail' with
    | nil => rfl
    | cons x r =>
     have := hlv x (by rw [hpr]; exact List.mem_append_right _ (.head _))
     have h2 : lvl x.1 < level := h2
     lia
   subst this
   refine .inl ⟨t', rfl, ?_, by rw [h3]; rfl⟩
   rw [h3] at hm
   have : [t'] = [t] := hm
   exact (List.cons.inj this).1
 refine ⟨⟨fun n X hp a rest ctx Q E hn hx hL hi he R hq hE => ?_⟩, fun hb => ?_⟩
 ·have R' : qw X hp a (seg.pre.map (·.2) ++ (seg.ts ++ (qe tail ++ rest))) ctx := by
   have : zB seg ++ qe tail ++ rest = seg.pre.map (·.2) ++ (seg.ts ++ (qe tail ++ rest)) := by unfold zB; simp only [List.append_assoc]
   rw [this] at R; exact R
  refine rd_all hN d n X hp a rest ctx Q E hn hx hL hi he hs.pre hs.wf hs.opn ht hz hcz R' (fun t₂ tail2 q hp' a' R' K => ?_) fun e q hp' a' K => ?_
  ·rcases key with ⟨t', q1, q2, q3⟩ | ⟨e, q1, _⟩
   ·rw [q1] at q; cases q
    subst q2
    exact hq q3 hp' a' R' K
   ·rw [q1] at q; cases q
  ·rcases key with ⟨t', q1, q2, q3⟩ | ⟨e', q1, q3⟩
   ·rw [q1] at q; cases q
   ·rw [q1] at q; cases q
    exact hE _ q3 hp' a' K
 ·rcases key with ⟨t', q1, q2, q3⟩ | ⟨e', q1, q3⟩
  ·subst q2
   obtain ⟨a1, _, _, a4, _⟩ := meas d hs.pre hs.wf ht t' [] q1
   exact ⟨a1, by simpa [cnT] using a4⟩
  ·rw [q3] at hb; cases hb
theorem qw.ctx {X : RX} {hp hp' : Hp} {a : Nat} {ts : List Tk} {ctx ctx' : List V} (R : qw X hp a ts ctx) (u : Upd hp X.c (.lst ctx') hp') : qw X hp' a ts ctx' /\ zA X hp a hp' a := by
 obtain ⟨p, al, hq, ha, h1, h2, h3⟩ := R.hq
 refine ⟨⟨u.keep R.hr R.hc (by intro q; cases q), ⟨p, al, u.keep hq R.hc (by intro q; cases q), (u.ne _ R.ne.1).trans ha, h1, h2, h3⟩, u.at_, (u.ne _ (Ne.symm R.ne.2.2)).trans R.hw, R.ne, R.sz⟩, .upd u (.inr (.inr (.inr rfl)))⟩
theorem Jy {ctx : List V} {c : Nat} (h : c = 75 \/ c = 77) : zr (ctx ++ [.str (nm c)]) := by
 unfold zr
 rw [List.getLast?_append]
 rcases h with rfl | rfl
 ·exact .inl rfl
 ·exact .inr rfl
section
variable {n : Nat} {hp : Hp} {Q : V -> Hp -> Prop} {E : V -> V -> Hp -> Prop} {X : RX} {a : Nat} {rest : List Tk} {ctx : List V}
theorem ye {N L : Nat} {ts : List Tk} {t : T} {b : Option Err} {tk0 tk1 : Tk} (hn : N + 6 <= n) (hx : jJ ctx) (hL : ctx.length <= L) (hLL : L + 1 <= 2 ^ 20) (H : Q1 N (L + 1) true 1 ts t b) (e0 : tk0.tv = .op 75) (e1 : tk1.tv = .op 114) (R : qw X hp a (tk0 :: (ts ++ (tk1 :: rest))) ctx)
  (hq : b = none -> ∀ hp' a', qw X hp' a' rest ctx -> zA X hp a hp' a' -> Q (qg (.call [.name 75, t] [.none, .none])) hp') (hE : ∀ e, b = some e -> ∀ hp' a', zA X hp a hp' a' -> E e.1 e.2 hp') : Call n .bracketed [.ref X.r] hp Q E := by
 obtain ⟨m, rfl⟩ := Nat.exists_eq_add_of_le' (by walk_at "l" : 6 <= n)
 refine qh [0] none (vG (run (m + 5))) rfl rfl ?_
 simp only [List.zip_cons_cons, List.zip_nil_left, List.zip_nil_right]
 unfold vG
 have hr := R.hr
 walk_at "w"
 refine qI (jX (by walk_at "l") (by decide) (by rw [e0]; show 75 ∈ zE; decide) (by rw [e0]; rfl) R fun hp₁ a₁ R1 K₁ => ?_)
 have hr := R1.hr
 have hc := R1.hc
 walk_at "w"
 have z20 : (2 : Nat) ^ 20 = 1048576 := by decide
 refine zQ hc (by refine pLe ?_; exact le3 hL hLL (eL z20)) fun hp₂ u₂ => ?_
 obtain ⟨R2, K₂⟩ := R1.ctx u₂
 have hr := R2.hr
 walk_at "w"
 have hb2 := Jy (ctx := ctx) (c := 75) (.inl rfl)
 refine qI (H.rd _ X hp₂ a₁ (tk1 :: rest) _ _ _ (by exact le1 hn) ⟨.inl hb2, by rw [List.length_append]; simp; exact le3 hL hLL (eL z20)⟩ (by rw [List.length_append]; simp; exact le1 hL) (fun _ => hb2) ⟨tk1, rest, 114, rfl, e1, by decide, by decide, by decide, fun _ => hb2⟩ R2 (fun hb hp3 a₃ R3 K₃ => ?_) fun e q hp' a' K => hE e q hp' a' (K₁.trans (K₂.trans K)))
 have hr := R3.hr
 walk_at "w"
 refine qI (jX (by walk_at "l") (by decide) (by rw [e1]; show 114 ∈ zE; decide) (by rw [e1]; rfl) R3 fun hp4 a₄ R4 K₄ => ?_)
 have hr := R4.hr
 walk_at "w"
 refine Qy R4.hc (by rw [zY, List.length_append]; simp; exact le3 hL hLL (eL z20)) fun hp5 u₅ => ?_
 obtain ⟨R5, K₅⟩ := R4.ctx u₅
 walk_at "w"
 refine ⟨by walk_at "p", ?_⟩
 walk_at "w"
 refine qI (ku (n := m + 3) (as := [qg t]) (by simp) ?_)
 walk_at "w"
 exact hq hb hp5 a₄ R5 (K₁.trans (K₂.trans (K₃.trans (K₄.trans K₅))))
theorem Xj {j : Nat} {n : Nat} : (j = 62 -> ∀ lc hp, run (n + 4) .constantOf [.str (nm j)] ⟨lc, hp⟩ = .ok (qg (.vec 19 [.int 1])) ⟨lc, hp⟩) /\ (j = 64 -> ∀ lc hp, run (n + 4) .constantOf [.str (nm j)] ⟨lc, hp⟩ = .ok (qg .null) ⟨lc, hp⟩) /\
  (j = 66 -> ∀ lc hp, run (n + 4) .constantOf [.str (nm j)] ⟨lc, hp⟩ = .ok (qg (.vec 19 [.none])) ⟨lc, hp⟩) /\ (j = 70 -> ∀ lc hp, run (n + 4) .constantOf [.str (nm j)] ⟨lc, hp⟩ = .ok (qg (.vec 23 [.tup [.int 1, .int 0]])) ⟨lc, hp⟩) /\
  (j = 173 -> ∀ lc hp, run (n + 4) .constantOf [.str (nm j)] ⟨lc, hp⟩ = .ok .none ⟨lc, hp⟩) /\ (j = 174 -> ∀ lc hp, run (n + 4) .constantOf [.str (nm j)] ⟨lc, hp⟩ = .ok .none ⟨lc, hp⟩) := by
 refine ⟨?_, ?_, ?_, ?_, ?_, ?_⟩ <;> (rintro rfl lc hp; kernel_rfl)
noncomputable def leafK (o : Nat) : Option T := if o = 62 then some (.vec 19 [.int 1]) else if o = 64 then some .null else if o = 66 then some (.vec 19 [.none]) else if o = 70 then some (.vec 23 [.tup [.int 1, .int 0]]) else none
theorem leafK_ {s : Nat} {x : T} (h : leafK s = some x) : (s = 62 /\ x = .vec 19 [.int 1]) \/ (s = 64 /\ x = .null) \/ (s = 66 /\ x = .vec 19 [.none]) \/ (s = 70 /\ x = .vec 23 [.tup [.int 1, .int 0]]) := by
 unfold leafK at h
 by_cases a : s = 62
 ·rw [if_pos a] at h; cases h; exact .inl ⟨a, rfl⟩
 ·rw [if_neg a] at h
  by_cases b : s = 64
  ·rw [if_pos b] at h; cases h; exact .inr (.inl ⟨b, rfl⟩)
  ·rw [if_neg b] at h
   by_cases c : s = 66
   ·rw [if_pos c] at h; cases h; exact .inr (.inr (.inl ⟨c, rfl⟩))
   ·rw [if_neg c] at h
    by_cases d : s = 70
    ·rw [if_pos d] at h; cases h; exact .inr (.inr (.inr ⟨d, rfl⟩))
    ·rw [if_neg d] at h; cases h
noncomputable def leaf : Tv -> Option T
 | .id s => some (.name s)
 | .num f => some (.vec 23 [.tup [.int f, .int 1]])
 | .str s => some (.vec 24 [.str (nm s)])
 | .key o => leafK o
 | _ => none
theorem k_leaf {t : Tk} {ts : List Tk} {x : T} (hn : 6 <= n) (hx : jJ ctx) (hk : t.tv.ok) (hl : leaf t.tv = some x) (R : qw X hp a (t :: ts) ctx) (hq : ∀ hp' a', qw X hp' a' ts ctx -> zA X hp a hp' a' -> Q (qg x) hp') : Call n .primary [.ref X.r] hp Q E := by
 obtain ⟨m, rfl⟩ := Nat.exists_eq_add_of_le' (by walk_at "l" : 6 <= n)
 refine qh [0] none (jd (run (m + 5))) rfl rfl ?_
 obtain ⟨tv, p, b⟩ := t
 simp only [List.zip_cons_cons, List.zip_nil_left, List.zip_nil_right]
 unfold jd
 have hr := R.hr
 walk_at "w"
 refine qI (zd (by walk_at "l") R fun hp₁ R1 K₁ _ => ?_)
 have hr := R1.hr
 cases tv with
 | op o => cases hl
 | eof => cases hl
 | num f =>
  cases hl
  walk_at "w"
  refine qI (jC (by walk_at "l") R1 fun hp₂ a₂ R2 K₂ => ?_)
  walk_at "w"
  refine qI (vV (n := m + 4) ?_)
  walk_at "w"
  exact hq hp₂ a₂ R2 (K₁.trans K₂)
 | str s =>
  cases hl
  walk_at "w"
  refine qI (jC (by walk_at "l") R1 fun hp₂ a₂ R2 K₂ => ?_)
  walk_at "w"
  refine qI (k_text (n := m + 3) ?_)
  walk_at "w"
  refine qI (vV (n := m + 4) ?_)
  walk_at "w"
  exact hq hp₂ a₂ R2 (K₁.trans K₂)
 | id s =>
  cases hl
  walk_at "w"
  refine qI (jC (by walk_at "l") R1 fun hp₂ a₂ R2 K₂ => ?_)
  walk_at "w"
  refine qI (wP (n := m + 3) ?_)
  walk_at "w"
  exact hq hp₂ a₂ R2 (K₁.trans K₂)
 | key s =>
  have hh := leafK_ (s := s) hl
  obtain ⟨c1, c2, c3, c4, _⟩ := @Xj s (m + 1)
  walk_at "w"
  rcases hh with ⟨rfl, rfl⟩ | ⟨rfl, rfl⟩ | ⟨rfl, rfl⟩ | ⟨rfl, rfl⟩
  ·refine qI (zV (fun lc => c1 rfl lc hp₁) ?_)
   walk_at "w"
   refine qI (jC (by walk_at "l") R1 fun hp₂ a₂ R2 K₂ => ?_)
   walk_at "w"
   refine qI (vV (n := m + 4) ?_)
   walk_at "w"
   exact hq hp₂ a₂ R2 (K₁.trans K₂)
  ·refine qI (zV (fun lc => c2 rfl lc hp₁) ?_)
   walk_at "w"
   refine qI (jC (by walk_at "l") R1 fun hp₂ a₂ R2 K₂ => ?_)
   walk_at "w"
   refine qI (k_shareN (n := m + 4) ?_)
   walk_at "w"
   exact hq hp₂ a₂ R2 (K₁.trans K₂)
  ·refine qI (zV (fun lc => c3 rfl lc hp₁) ?_)
   walk_at "w"
   refine qI (jC (by walk_at "l") R1 fun hp₂ a₂ R2 K₂ => ?_)
   walk_at "w"
   refine qI (vV (n := m + 4) ?_)
   walk_at "w"
   exact hq hp₂ a₂ R2 (K₁.trans K₂)
  ·refine qI (zV (fun lc => c4 rfl lc hp₁) ?_)
   walk_at "w"
   refine qI (jC (by walk_at "l") R1 fun hp₂ a₂ R2 K₂ => ?_)
   walk_at "w"
   refine qI (vV (n := m + 4) ?_)
   walk_at "w"
   exact hq hp₂ a₂ R2 (K₁.trans K₂)
noncomputable def isBad : Tv -> Bool | .key o => o == 173 || o == 174 | .op o => o == 175 | .eof => true | _ => false
theorem k_badTok {t : Tk} {ts : List Tk} (hn : 6 <= n) (hk : t.tv.ok) (hl : isBad t.tv = true) (R : qw X hp a (t :: ts) ctx) (hE : ∀ hp', zA X hp a hp' a -> E (Jw t.tv) (.int t.at_) hp') : Call n .primary [.ref X.r] hp Q E := by
 obtain ⟨m, rfl⟩ := Nat.exists_eq_add_of_le' (by walk_at "l" : 6 <= n)
 refine qh [0] none (jd (run (m + 5))) rfl rfl ?_
 obtain ⟨tv, p, b⟩ := t
 simp only [List.zip_cons_cons, List.zip_nil_left, List.zip_nil_right]
 unfold jd
 have hr := R.hr
 walk_at "w"
 refine qI (zd (by walk_at "l") R fun hp₁ R1 K₁ _ => ?_)
 have hr := R1.hr
 have fin : ZW tv 75 = false -> ∀ l, List.lookup 0 l = some (.ref X.r) -> List.lookup 97 l = some (jr ⟨tv, p, b⟩) -> W (run (m + 5) .isOp [.ref X.r, .str (nm 75)]) l hp₁ (fun v l hp => W (km v) l hp (fun t l hp => Zw t (qF (qs (ql .reader (qD (nm 0)) [] (run (m + 5) .bracketed))) qK) qK l hp
   (xM (qF (qs (ql .reader (qD (nm 0)) [qD (nm 97)] (run (m + 5) .construct))) qK) (fun fl _ hp' => Q (flV fl) hp') E) E) E) E := by
  intro hb l l0 l1
  refine qI (kr (by walk_at "l") (by decide) hk R1 fun hp₂ R2 K₂ => ?_)
  rw [hb]
  have hr := R2.hr
  walk_at "w"
  refine qI (qh (n := m + 4) [0, 97] none (vF (run (m + 4))) rfl rfl ?_)
  simp only [List.zip_cons_cons, List.zip_nil_left, List.zip_nil_right]
  unfold vF
  walk_at "w"
  refine qI (k_fail (by walk_at "l") R2 fun hp3 K₃ => ?_)
  exact hE hp3 (K₁.trans (K₂.trans K₃))
 cases tv with
 | num f => cases hl
 | str s => cases hl
 | id s => cases hl
 | eof =>
  walk_at "w"
  refine fin rfl _ ?_ ?_ <;> walk_at "look"
 | op o =>
  have ho : o = 175 := eq_of_beq (a := o) hl
  subst ho
  walk_at "w"
  refine fin rfl _ ?_ ?_ <;> walk_at "look"
 | key s =>
  have ho : s = 173 \/ s = 174 := ((Bool.or_eq_true (s == 173) (s == 174)).mp hl).imp eq_of_beq eq_of_beq
  obtain ⟨_, _, _, _, c5, c6⟩ := @Xj s (m + 1)
  walk_at "w"
  rcases ho with rfl | rfl
  ·refine qI (zV (fun lc => c5 rfl lc hp₁) ?_)
   walk_at "w"
   refine fin rfl _ ?_ ?_ <;> walk_at "look"
  ·refine qI (zV (fun lc => c6 rfl lc hp₁) ?_)
   walk_at "w"
   refine fin rfl _ ?_ ?_ <;> walk_at "look"
theorem k_primBr {t : Tk} {ts : List Tk} (hn : 6 <= n + 1) (hk : t.tv = .op 75) (R : qw X hp a (t :: ts) ctx) (h : ∀ hp', qw X hp' a (t :: ts) ctx -> zA X hp a hp' a -> Call n .bracketed [.ref X.r] hp' Q E) : Call (n + 1) .primary [.ref X.r] hp Q E := by
 obtain ⟨m, rfl⟩ := Nat.exists_eq_add_of_le' (by exact le1 hn : 5 <= n)
 refine qh [0] none (jd (run (m + 5))) rfl rfl ?_
 obtain ⟨tv, p, b⟩ := t
 dsimp only at hk
 subst hk
 simp only [List.zip_cons_cons, List.zip_nil_left, List.zip_nil_right]
 unfold jd
 have hr := R.hr
 walk_at "w"
 refine qI (zd (by walk_at "l") R fun hp₁ R1 K₁ _ => ?_)
 have hr := R1.hr
 walk_at "w"
 refine qI (kr (o := 75) (by walk_at "l") (by decide) (by show 75 ∈ zE; decide) R1 fun hp₂ R2 K₂ => ?_)
 have hr := R2.hr
 walk_at "w"
 refine qI ((h hp₂ R2 (K₁.trans K₂)).mono (fun v hp' q => ?_) fun _ _ _ q => q)
 walk_at "w"
 exact q
end
noncomputable def named : Tv -> Bool | .id _ => true | .str _ => true | .key s => s == 64 | _ => false
section
variable {n : Nat} {hp : Hp} {Q : V -> Hp -> Prop} {E : V -> V -> Hp -> Prop} {X : RX} {a : Nat} {t : Tk} {ts rest : List Tk} {ctx : List V}
theorem xm {t1 : Tk} (hn : 2 <= n) (R : qw X hp a (t :: t1 :: ts) ctx) (h : ∀ hp', qw X hp' a (t :: t1 :: ts) ctx -> zA X hp a hp' a -> Q (jr t1) hp') : Call n .peek [.ref X.r, .int 1] hp Q E := by
 obtain ⟨m, rfl⟩ := Nat.exists_eq_add_of_le' (by walk_at "l" : 2 <= n)
 exact k_peek (k := 1) (by decide) R rfl fun hp' R' K _ => h hp' R' K
theorem ZV (hn : 5 <= n) (hk : t.tv.ok) (h1 : named t.tv = true -> ∃ t1 tl, ts = t1 :: tl /\ t1.tv.ok /\ t1.tv ≠ .op 125) (R : qw X hp a (t :: ts) ctx) (h : ∀ hp', qw X hp' a (t :: ts) ctx -> zA X hp a hp' a -> Q .none hp') : Call n .argumentTag [.ref X.r] hp Q E := by
 obtain ⟨m, rfl⟩ := Nat.exists_eq_add_of_le' (by walk_at "l" : 5 <= n)
 refine qh [0] none (zx (run (m + 4))) rfl rfl ?_
 obtain ⟨tv, p, b⟩ := t
 simp only [List.zip_cons_cons, List.zip_nil_left, List.zip_nil_right]
 unfold zx
 have hr := R.hr
 walk_at "w"
 refine qI (zd (by walk_at "l") R fun hp₁ R1 K₁ _ => ?_)
 have hr := R1.hr
 have beh : ∀ hp₂ t1 tl l, ts = t1 :: tl -> t1.tv.ok -> t1.tv ≠ .op 125 -> qw X hp₂ a (⟨tv, p, b⟩ :: ts) ctx -> zA X hp a hp₂ a -> W (qF (sIf (cOr (qi .NotEq (qd (nm 1) (qD (nm 124))) (pure (.str (nm 98)))) (cOr (qi .NotEq (qd (nm 7) (qD (nm 124))) (pure (.str (nm 125)))) (pure false))) (qF (qs (pure .none)) qK) qK) (qF (qv (ql .reader (qD (nm 0)) [] (run (m + 4) .take))) (qF (qv (ql .reader (qD (nm 0)) [] (run (m + 4) .take))) (qF (qs (qd (nm 7) (qD (nm 97)))) qK)))) ((124, jr t1) :: l) hp₂ (fun fl _ hp' => Q (flV fl) hp') E := by
  intro hp₂ t1 tl l hts hk1 hne R2 K₂
  walk_at "w"
  obtain ⟨tv1, p1, b1⟩ := t1
  refine zL (fun e => ?_) (fun e => ?_)
  ·walk_at "w"
   exact h hp₂ R2 K₂
  ·have : ∃ o', tv1 = .op o' := by cases tv1 <;> first | exact ⟨_, rfl⟩ | (simp [kOf] at e)
   obtain ⟨o', rfl⟩ := this
   walk_at "w"
   refine zU (QO (xP hk1) (by decide)) ?_
   have : (!(o' == 125)) = true := by
    have : o' ≠ 125 := fun q => hne (by rw [q])
    simpa using this
   rw [this]
   walk_at "w"
   exact h hp₂ R2 K₂
 have oth : Qe tv 64 = named tv -> ∀ l, List.lookup 0 l = some (.ref X.r) -> W (run (m + 4) .isKey [.ref X.r, .str (nm 64)]) l hp₁ (fun v l hp => xM (qF (sIf (KC (z8 (qD (nm 123)))) (qF (qs (pure .none)) qK) qK) (qF (qy (nm 124) (ql .reader (qD (nm 0)) [(pure (.int 1))] (run (m + 4) .peek))) (qF (sIf (cOr (qi .NotEq (qd (nm 1) (qD (nm 124))) (pure (.str (nm 98)))) (cOr (qi .NotEq (qd (nm 7) (qD (nm 124))) (pure (.str (nm 125)))) (pure false))) (qF (qs (pure .none)) qK) qK) (qF (qv (ql .reader (qD (nm 0)) [] (run (m + 4) .take))) (qF (qv (ql .reader (qD (nm 0)) [] (run (m + 4) .take))) (qF (qs (qd (nm 7) (qD (nm 97)))) qK)))))) (fun fl _ hp' => Q (flV fl) hp') E .nxt ((123, v) :: l) hp) E := by
  intro hb l l0
  refine qI (Xi (by walk_at "l") (by decide) hk R1 fun hp₂ R2 K₂ => ?_)
  have hr := R2.hr
  walk_at "w"
  refine zL (fun e => ?_) (fun e => ?_)
  ·walk_at "w"
   exact h hp₂ R2 (K₁.trans K₂)
  ·have e : named tv = true := by
    have e : Qe tv 64 = true := by simpa using e
    rw [<- hb]; exact e
   obtain ⟨t1, tl, rfl, q1, q2⟩ := h1 e
   walk_at "w"
   refine qI (xm (by walk_at "l") R2 fun hp3 R3 K₃ => qY ?_)
   exact beh hp3 t1 tl _ rfl q1 q2 R3 (K₁.trans (K₂.trans K₃))
 have nam : named tv = true -> ∀ l, List.lookup 0 l = some (.ref X.r) -> ∀ Q' : V -> Nv -> Hp -> Prop, (∀ t1 hp₂, ts = t1 :: ts.tail -> t1.tv.ok -> t1.tv ≠ .op 125 -> qw X hp₂ a (⟨tv, p, b⟩ :: ts) ctx -> zA X hp a hp₂ a -> Q' (jr t1) l hp₂) -> W (run (m + 4) .peek [.ref X.r, .int 1]) l hp₁ Q' E := by
  intro e l l0 Q' hQ'
  obtain ⟨t1, tl, rfl, q1, q2⟩ := h1 e
  exact qI (xm (by walk_at "l") R1 fun hp3 R3 K₃ => hQ' t1 hp3 rfl q1 q2 R3 (K₁.trans K₃))
 cases tv with
 | id s =>
  walk_at "w"
  exact nam rfl _ (by walk_at "look") _ fun t1 hp₂ e q1 q2 R2 K₂ => qY (beh hp₂ t1 _ _ e q1 q2 R2 K₂)
 | str s =>
  walk_at "w"
  exact nam rfl _ (by walk_at "look") _ fun t1 hp₂ e q1 q2 R2 K₂ => qY (beh hp₂ t1 _ _ e q1 q2 R2 K₂)
 | key s =>
  walk_at "w"
  exact oth rfl _ (by walk_at "look")
 | op o => walk_at "w"; exact oth rfl _ (by walk_at "look")
 | num f => walk_at "w"; exact oth rfl _ (by walk_at "look")
 | eof => walk_at "w"; exact oth rfl _ (by walk_at "look")
theorem k_argTag1 {t1 : Tk} {s : Nat} (hn : 5 <= n) (hk : t.tv.ok) (hnm : named t.tv = true) (hv : vOf t.tv = .str (nm s)) (e1 : t1.tv = .op 125) (R : qw X hp a (t :: t1 :: ts) ctx) (h : ∀ hp' a', qw X hp' a' ts ctx -> zA X hp a hp' a' -> Q (.str (nm s)) hp') : Call n .argumentTag [.ref X.r] hp Q E := by
 obtain ⟨m, rfl⟩ := Nat.exists_eq_add_of_le' (by walk_at "l" : 5 <= n)
 refine qh [0] none (zx (run (m + 4))) rfl rfl ?_
 obtain ⟨tv, p, b⟩ := t
 obtain ⟨tv1, p1, b1⟩ := t1
 dsimp only at e1
 subst e1
 simp only [List.zip_cons_cons, List.zip_nil_left, List.zip_nil_right]
 unfold zx
 have hr := R.hr
 walk_at "w"
 refine qI (zd (by walk_at "l") R fun hp₁ R1 K₁ _ => ?_)
 have hr := R1.hr
 have beh : ∀ hp₂ l, qw X hp₂ a (⟨tv, p, b⟩ :: ⟨.op 125, p1, b1⟩ :: ts) ctx -> zA X hp a hp₂ a -> List.lookup 0 l = some (.ref X.r) -> List.lookup 97 l = some (jr ⟨tv, p, b⟩) -> W (qF (sIf (cOr (qi .NotEq (qd (nm 1) (qD (nm 124))) (pure (.str (nm 98)))) (cOr (qi .NotEq (qd (nm 7) (qD (nm 124))) (pure (.str (nm 125)))) (pure false))) (qF (qs (pure .none)) qK) qK) (qF (qv (ql .reader (qD (nm 0)) [] (run (m + 4) .take))) (qF (qv (ql .reader (qD (nm 0)) [] (run (m + 4) .take))) (qF (qs (qd (nm 7) (qD (nm 97)))) qK)))) ((124, jr ⟨.op 125, p1, b1⟩) :: l) hp₂ (fun fl _ hp' => Q (flV fl) hp') E := by
  intro hp₂ l R3 K₃ l0 l1
  have hr := R3.hr
  walk_at "w"
  refine JF (i := 125) (j := 125) (by decide) (by decide) ?_
  walk_at "w"
  refine qI (jC (by walk_at "l") R3 fun hp4 a₄ R4 K₄ => ?_)
  have hr := R4.hr
  walk_at "w"
  refine qI (jC (by walk_at "l") R4 fun hp5 a₅ R5 K₅ => ?_)
  walk_at "w"
  have := h hp5 a₅ R5 (K₃.trans (K₄.trans K₅))
  rw [<- hv] at this
  exact this
 cases tv with
 | op o => cases hnm
 | num f => cases hnm
 | eof => cases hnm
 | id s' =>
  walk_at "w"
  refine qI (xm (by walk_at "l") R1 fun hp3 R3 K₃ => qY ?_)
  refine beh hp3 _ R3 (K₁.trans K₃) ?_ ?_ <;> walk_at "look"
 | str s' =>
  walk_at "w"
  refine qI (xm (by walk_at "l") R1 fun hp3 R3 K₃ => qY ?_)
  refine beh hp3 _ R3 (K₁.trans K₃) ?_ ?_ <;> walk_at "look"
 | key s' =>
  walk_at "w"
  refine qI (Xi (by walk_at "l") (by decide) hk R1 fun hp₂ R2 K₂ => ?_)
  have hr := R2.hr
  have e : Qe (.key s') 64 = true := hnm
  dsimp only
  rw [e]
  walk_at "w"
  refine qI (xm (by walk_at "l") R2 fun hp3 R3 K₃ => qY ?_)
  refine beh hp3 _ R3 (K₁.trans (K₂.trans K₃)) ?_ ?_ <;> walk_at "look"
end
noncomputable def yC (c : Fn -> List V -> M V) : M Fl := (u178 c)
theorem Qs (c : Fn -> List V -> M V) : vH c = (u186 c) := rfl
structure Arg where
 tg : Option (Tk × Tk × Nat)
 row : Option (List Tk × T × Option Err)
noncomputable def rowT (xr : Option (List Tk × T × Option Err)) : List Tk := match xr with | some (ts, _) => ts | none => []
noncomputable def Arg.toks (x : Arg) : List Tk := (match x.tg with | some (t, e, _) => [t, e] | none => []) ++ rowT x.row
noncomputable def Arg.tag (x : Arg) : V := match x.tg with | some (_, _, s) => .str (nm s) | none => .none
noncomputable def Arg.tree (x : Arg) : T := match x.row with | some (_, t, _) => t | none => .missing
noncomputable def Arg.err (x : Arg) : Option Err := match x.row with | some (_, _, b) => b | none => none
noncomputable def kY (ts : List Tk) : Prop := ∃ t0 tl, ts = t0 :: tl /\ t0.tv.ok /\ (∀ o, t0.tv = .op o -> o ∉ [121, 114, 116]) /\ (named t0.tv = true -> ∀ t1 tl', tl = t1 :: tl' -> t1.tv.ok /\ t1.tv ≠ .op 125)
structure vI (N L : Nat) (x : Arg) : Prop where
 tg : ∀ t e s, x.tg = some (t, e, s) -> t.tv.ok /\ named t.tv = true /\ vOf t.tv = .str (nm s) /\ e.tv = .op 125
 row : ∀ ts t b, x.row = some (ts, t, b) -> Q1 N L true 3 ts t b /\ kY ts
noncomputable def qj : List (Tk × Arg) -> List Tk
 | [] => []
 | (c, x) :: r => c :: (x.toks ++ qj r)
noncomputable def q7 : List Arg -> Option Err
 | [] => none
 | x :: r => orB x.err (q7 r)
theorem qw.other {X : RX} {hp hp' : Hp} {a i : Nat} {c : jE} {ts : List Tk} {ctx : List V} (R : qw X hp a ts ctx) (u : Upd hp i c hp') (h : i ≠ a /\ i ≠ X.r /\ i ≠ X.q /\ i ≠ X.c /\ i ≠ X.w) : qw X hp' a ts ctx := by
 obtain ⟨p, al, hq, ha, h1, h2, h3⟩ := R.hq
 obtain ⟨n1, n2, n3, n4, n5⟩ := h
 exact ⟨(u.ne _ (Ne.symm n2)).trans R.hr, ⟨p, al, (u.ne _ (Ne.symm n3)).trans hq, (u.ne _ (Ne.symm n1)).trans ha, h1, h2, h3⟩, (u.ne _ (Ne.symm n4)).trans R.hc, (u.ne _ (Ne.symm n5)).trans R.hw, R.ne, R.sz⟩
theorem qw.lts {X : RX} {hp : Hp} {a : Nat} {ts : List Tk} {ctx : List V} (R : qw X hp a ts ctx) : a < hp.length /\ X.r < hp.length /\ X.q < hp.length /\ X.c < hp.length /\ X.w < hp.length := by
 obtain ⟨p, al, hq, ha, _⟩ := R.hq
 have g : ∀ (j : Nat) d, hp[j]? = some d -> j < hp.length := fun j d e => (List.getElem?_eq_some_iff.mp e).1
 exact ⟨g _ _ ha, g _ _ R.hr, g _ _ hq, g _ _ R.hc, g _ _ R.hw⟩
theorem qw.new {X : RX} {hp hp' : Hp} {a : Nat} {c : jE} {ts : List Tk} {ctx : List V} (R : qw X hp a ts ctx) (u : New hp c hp') : qw X hp' a ts ctx := by
 obtain ⟨p, al, hq, ha, h1, h2, h3⟩ := R.hq
 exact ⟨u.keep R.hr, ⟨p, al, u.keep hq, u.keep ha, h1, h2, h3⟩, u.keep R.hc, u.keep R.hw, R.ne, R.sz⟩
theorem zA.new {X hp a hp₁ a₁ c hp₂} (K : zA X hp a hp₁ a₁) (u : New hp₁ c hp₂) : zA X hp a hp₂ a₁ :=
 ⟨by rw [u.len]; have := K.len; exact le1 this, K.fresh, fun j h1 h2 h3 h4 h5 => (u.old j (Nat.lt_of_lt_of_le h1 K.len)).trans (K.old j h1 h2 h3 h4 h5)⟩
theorem zA.mine {X hp a hp₁ a₁ i c hp₂} (K : zA X hp a hp₁ a₁) (hi : hp.length <= i) (u : Upd hp₁ i c hp₂) : zA X hp a hp₂ a₁ :=
 ⟨by rw [u.len]; exact K.len, K.fresh, fun j h1 h2 h3 h4 h5 => (u.ne j (Nat.ne_of_lt (Nat.lt_of_lt_of_le h1 hi))).trans (K.old j h1 h2 h3 h4 h5)⟩
structure Loc (X : RX) (hp : Hp) (a i : Nat) (c : jE) : Prop where
 at_ : hp[i]? = some c
 ne : i ≠ a /\ i ≠ X.r /\ i ≠ X.q /\ i ≠ X.c /\ i ≠ X.w
theorem Loc.keep {X hp a i c hp' a'} (x : Loc X hp a i c) (K : zA X hp a hp' a') : Loc X hp' a' i c := by
 have hl : i < hp.length := (List.getElem?_eq_some_iff.mp x.at_).1
 obtain ⟨n1, n2, n3, n4, n5⟩ := x.ne
 refine ⟨(K.old i hl n1 n2 n3 n4).trans x.at_, ?_, n2, n3, n4, n5⟩
 rcases K.fresh with q | q
 ·rw [q]; exact n1
 ·exact Nat.ne_of_lt (lt2 (sL hl) q)
theorem Loc.upd {X hp a i c hp' c'} (x : Loc X hp a i c) (u : Upd hp i c' hp') : Loc X hp' a i c' := ⟨u.at_, x.ne⟩
theorem Loc.other {X hp a i c hp' j c'} (x : Loc X hp a i c) (u : Upd hp j c' hp') (h : i ≠ j) : Loc X hp' a i c := ⟨(u.ne _ h).trans x.at_, x.ne⟩
theorem Loc.fresh {X hp a ts ctx c hp'} (R : qw X hp a ts ctx) (u : New hp c hp') : Loc X hp' a hp.length c := by
 obtain ⟨h1, h2, h3, h4, h5⟩ := R.lts
 exact ⟨u.at_, by exact Nat.ne_of_gt (lt1 (sL h1)), by exact Nat.ne_of_gt (lt1 (sL h2)), by exact Nat.ne_of_gt (lt1 (sL h3)), by exact Nat.ne_of_gt (lt1 (sL h4)), by exact Nat.ne_of_gt (lt1 (sL h5))⟩
theorem Loc.new {X hp a i c d hp'} (x : Loc X hp a i c) (u : New hp d hp') : Loc X hp' a i c := ⟨u.keep x.at_, x.ne⟩
section
variable {n : Nat} {hp : Hp} {Q : V -> Hp -> Prop} {E : V -> V -> Hp -> Prop} {X : RX} {a : Nat} {rest : List Tk} {ctx : List V}
theorem wQ {t : Tk} {o o' : Nat} (h : t.tv = .op o) : ZW t.tv o' = (o == o') := by rw [h]; rfl
theorem Zg {N L m cl : Nat} {hp₀ : Hp} {a₀ i g : Nat} {Q : Fl -> Nv -> Hp -> Prop} {sp : Tk} {tl : List Tk} {o : Nat} {x : Arg} {f : Nat} {l : Nv} {its tgs : List V} (hm : N <= m) (hx : jJ ctx) (hL : ctx.length <= L) (hbr : zr ctx) (hcl : cl = 114 \/ cl = 116) (hi : hp₀.length <= i) (hg : hp₀.length <= g) (hig : i ≠ g)
  (hxo : vI N L x) (hsp : sp.tv = .op o) (ho : o = 121 \/ o = cl) (hz1 : its.length <= 100) (hz2 : tgs.length <= 100) (l0 : l.lookup 0 = some (.ref X.r)) (l1 : l.lookup 120 = some (.str (nm cl))) (l2 : l.lookup 2 = some (.ref i)) (l3 : l.lookup 5 = some (.ref g)) (l4 : l.lookup 118 = some (.bool true))
  (R : qw X hp a (x.toks ++ (sp :: tl)) ctx) (K : zA X hp₀ a₀ hp a) (Li : Loc X hp a i (.lst its)) (Lg : Loc X hp a g (.lst tgs))
  (hq : x.err = none -> ∀ l' hp' a', l'.lookup 0 = some (.ref X.r) -> l'.lookup 120 = some (.str (nm cl)) -> l'.lookup 2 = some (.ref i) -> l'.lookup 5 = some (.ref g) -> qw X hp' a' (sp :: tl) ctx -> zA X hp₀ a₀ hp' a' -> Loc X hp' a' i (.lst (its ++ [qg x.tree])) -> Loc X hp' a' g (.lst (tgs ++ [x.tag])) ->
   W (qF (qy (nm 118) (ql .reader (qD (nm 0)) [(pure (.str (nm 121)))] (run (m + 6) .isOp))) (qF (sIf (z8 (qD (nm 118))) (qF (qv (ql .reader (qD (nm 0)) [] (run (m + 6) .take))) qK) qK) qK)) l' hp' (wN f (z8 (qD (nm 118))) (yC (run (m + 6))) Q E) E)
  (hE : ∀ e, x.err = some e -> ∀ hp' a', zA X hp₀ a₀ hp' a' -> E e.1 e.2 hp') : W (zP (f + 1) (z8 (qD (nm 118))) (yC (run (m + 6)))) l hp Q E := by
 have hoA : o ∈ zE /\ o ∉ xC /\ lvl o = 0 /\ o ≠ 125 /\ o < 204 := by
  rcases ho with rfl | rfl
  ·decide
  ·rcases hcl with rfl | rfl <;> decide
 have hcl2 : cl < 204 := by rcases hcl with rfl | rfl <;> decide
 have spok : sp.tv.ok := by rw [hsp]; exact hoA.1
 obtain ⟨xt, xr⟩ := x
 have hr := R.hr
 have tagstep : ∀ (Q' : V -> Hp -> Prop), (∀ hp' a', qw X hp' a' (rowT xr ++ sp :: tl) ctx -> zA X hp a hp' a' -> Q' (Arg.tag ⟨xt, xr⟩) hp') -> Call (m + 6) .argumentTag [.ref X.r] hp Q' E := by
  intro Q' hQ'
  cases xt with
  | some z =>
   obtain ⟨t, e, s⟩ := z
   obtain ⟨q1, q2, q3, q4⟩ := hxo.tg t e s rfl
   exact k_argTag1 (by walk_at "l") q1 q2 q3 q4 (by simpa [Arg.toks] using R) hQ'
  | none =>
   cases xr with
   | none =>
    have R : qw X hp a (sp :: tl) ctx := by simpa [Arg.toks, rowT] using R
    exact ZV (by walk_at "l") spok (by rw [hsp]; intro q; cases q) R fun hp' R' K' => hQ' hp' a R' K'
   | some z =>
    obtain ⟨ts, t, b⟩ := z
    obtain ⟨_, t0, tl0, rfl, f1, f2, f3⟩ := hxo.row ts t b rfl
    have R : qw X hp a (t0 :: (tl0 ++ sp :: tl)) ctx := by simpa [Arg.toks, rowT] using R
    refine ZV (by walk_at "l") f1 (fun q => ?_) R fun hp' R' K' => hQ' hp' a R' K'
    cases tl0 with
    | nil => exact ⟨sp, tl, rfl, spok, by rw [hsp]; intro q; cases q; exact hoA.2.2.2.1 rfl⟩
    | cons t1 tl1 => exact ⟨t1, tl1 ++ sp :: tl, rfl, f3 q t1 tl1 rfl⟩
 refine yS ?_
 walk_at "w"
 unfold yC
 walk_at "w"
 refine qI (tagstep _ fun hp₁ a₁ R1 K₁ => ?_)
 have Lg1 := Lg.keep K₁
 have Li1 := Li.keep K₁
 have hgat := Lg1.at_
 walk_at "w"
 refine zQ hgat (by refine pLe ?_; exact le1 hz2) fun hp₂ u₂ => ?_
 have R2 := R1.other u₂ Lg1.ne
 have Lg2 := Lg1.upd u₂
 have Li2 := Li1.other u₂ hig
 have K₂ := (K.trans K₁).mine hg u₂
 have hr := R2.hr
 walk_at "w"
 cases xr with
 | none =>
  have R2 : qw X hp₂ a₁ (sp :: tl) ctx := R2
  have fin : ∀ hp3, qw X hp3 a₁ (sp :: tl) ctx -> zA X hp₂ a₁ hp3 a₁ -> ∀ l₃, List.lookup 0 l₃ = some (.ref X.r) -> List.lookup 120 l₃ = some (.str (nm cl)) -> List.lookup 2 l₃ = some (.ref i) -> List.lookup 5 l₃ = some (.ref g) ->
    W (qF (qv (ze (qD (nm 2)) (run (m + 6) .missing []))) qK) l₃ hp3 (xM (qF (qy (nm 118) (ql .reader (qD (nm 0)) [(pure (.str (nm 121)))] (run (m + 6) .isOp))) (qF (sIf (z8 (qD (nm 118))) (qF (qv (ql .reader (qD (nm 0)) [] (run (m + 6) .take))) qK) qK) qK)) (wN f (z8 (qD (nm 118))) (yC (run (m + 6))) Q E) E) E := by
   intro hp3 R3 K₃ l₃ w0 w1 w2 w3
   have Li3 := Li2.keep K₃
   have Lg3 := Lg2.keep K₃
   have hiat := Li3.at_
   walk_at "w"
   refine qI (k_missing (n := m + 4) ?_)
   refine zQ hiat (by refine pLe ?_; exact le1 hz1) fun hp4 u₄ => ?_
   refine qY (zz (qY ?_))
   exact hq rfl l₃ hp4 a₁ w0 w1 w2 w3 (R3.other u₄ Li3.ne) ((K₂.trans K₃).mine hi u₄) (Li3.upd u₄) (Lg3.other u₄ (Ne.symm hig))
  refine qI (kr (by walk_at "l") (by decide) spok R2 fun hp3 R3 K₃ => ?_)
  have hr := R3.hr
  rw [wQ hsp]
  rcases ho with rfl | rfl
  ·refine Qx (yN (qr (yN ?_)))
   refine fin hp3 R3 K₃ _ ?_ ?_ ?_ ?_ <;> walk_at "look"
  ·have e121 : (o == 121) = false := by rcases hcl with rfl | rfl <;> rfl
   rw [e121]
   walk_at "w"
   refine qI (kr (by walk_at "l") hcl2 spok R3 fun hp4 R4 K₄ => ?_)
   rw [wQ hsp, beq_self_eq_true]
   refine Qx (yN (qr (yN ?_)))
   refine fin hp4 R4 (K₃.trans K₄) _ ?_ ?_ ?_ ?_ <;> walk_at "look"
 | some z =>
  obtain ⟨ts, t, b⟩ := z
  obtain ⟨HR, t0, tl0, rfl, f1, f2, f3⟩ := hxo.row ts t b rfl
  have R2 : qw X hp₂ a₁ (t0 :: (tl0 ++ sp :: tl)) ctx := R2
  have no : ∀ o', o' ∈ [121, 114, 116] -> ZW t0.tv o' = false := by
   intro o' ho'
   cases hv : t0.tv with
   | op o'' =>
    have := f2 o'' hv
    show (o'' == o') = false
    have : o'' ≠ o' := fun q => this (q ▸ ho')
    simpa using this
   | _ => rfl
  refine qI (kr (by walk_at "l") (by decide) f1 R2 fun hp3 R3 K₃ => ?_)
  have hr := R3.hr
  rw [no 121 (by decide)]
  walk_at "w"
  refine qI (kr (by walk_at "l") hcl2 f1 R3 fun hp4 R4 K₄ => ?_)
  have hr := R4.hr
  rw [no cl (by rcases hcl with rfl | rfl <;> decide)]
  have Li4 := (Li2.keep K₃).keep K₄
  have Lg4 := (Lg2.keep K₃).keep K₄
  have hiat := Li4.at_
  walk_at "w"
  refine qI (HR.rd _ X hp4 a₁ (sp :: tl) ctx _ _ (by exact le1 hm) hx hL (fun _ => hbr) ⟨sp, tl, o, rfl, hsp, hoA.1, hoA.2.1, hoA.2.2.1, fun _ => hbr⟩ R4 (fun hb hp5 a₅ R5 K₅ => ?_) fun e q hp' a' K' => hE e q hp' a' (K₂.trans (K₃.trans (K₄.trans K'))))
  have Li5 := Li4.keep K₅
  have Lg5 := Lg4.keep K₅
  refine zQ Li5.at_ (by refine pLe ?_; exact le1 hz1) fun hp6 u₆ => ?_
  walk_at "w1"
  walk_at "w1"
  walk_at "w1"
  refine hq hb _ hp6 a₅ ?_ ?_ ?_ ?_ (R5.other u₆ Li5.ne) ((K₂.trans (K₃.trans (K₄.trans K₅))).mine hi u₆) (Li5.upd u₆) (Lg5.other u₆ (Ne.symm hig)) <;> walk_at "look"
theorem args_loop {N L m cl : Nat} {clt : Tk} {hp₀ : Hp} {a₀ i g : Nat} {Q : Fl -> Nv -> Hp -> Prop} (hm : N <= m) (hx : jJ ctx) (hL : ctx.length <= L) (hbr : zr ctx) (hcl : cl = 114 \/ cl = 116) (hclt : clt.tv = .op cl) (hi : hp₀.length <= i) (hg : hp₀.length <= g) (hig : i ≠ g) :
  ∀ (r : List (Tk × Arg)) (x : Arg) (f : Nat) (hp : Hp) (a : Nat) (l : Nv) (its tgs : List V), r.length + 1 < f -> its.length + r.length <= 100 -> tgs.length + r.length <= 100 -> vI N L x -> (∀ y ∈ r, y.1.tv = .op 121 /\ vI N L y.2) -> l.lookup 0 = some (.ref X.r) -> l.lookup 120 = some (.str (nm cl)) -> l.lookup 2 = some (.ref i) -> l.lookup 5 = some (.ref g) -> l.lookup 118 = some (.bool true) ->
   qw X hp a (x.toks ++ (qj r ++ (clt :: rest))) ctx -> zA X hp₀ a₀ hp a -> Loc X hp a i (.lst its) -> Loc X hp a g (.lst tgs) ->
   (q7 (x :: r.map (·.2)) = none -> ∀ l' hp' a', l'.lookup 0 = some (.ref X.r) -> l'.lookup 120 = some (.str (nm cl)) -> l'.lookup 2 = some (.ref i) -> l'.lookup 5 = some (.ref g) -> qw X hp' a' (clt :: rest) ctx -> zA X hp₀ a₀ hp' a' -> Loc X hp' a' i (.lst (its ++ (x :: r.map (·.2)).map fun y => qg y.tree)) -> Loc X hp' a' g (.lst (tgs ++ (x :: r.map (·.2)).map Arg.tag)) -> Q .nxt l' hp') ->
   (∀ e, q7 (x :: r.map (·.2)) = some e -> ∀ hp' a', zA X hp₀ a₀ hp' a' -> E e.1 e.2 hp') -> W (zP f (z8 (qD (nm 118))) (yC (run (m + 6)))) l hp Q E := by
 intro r
 induction r with
 | nil =>
  intro x f hp a l its tgs hf hz1 hz2 hxo hro l0 l1 l2 l3 l4 R K Li Lg hq hE
  obtain ⟨f, rfl⟩ := Nat.exists_eq_add_of_le' (by exact le1 (sL hf) : 2 <= f)
  refine Zg hm hx hL hbr hcl hi hg hig hxo (sp := clt) (tl := rest) hclt (.inr rfl) (by simpa using hz1) (by simpa using hz2) l0 l1 l2 l3 l4 R K Li Lg (fun hb l' hp' a' w0 w1 w2 w3 R' K' Li' Lg' => ?_) fun e he hp' a' K' => hE e (by simp only [List.map_nil, q7]; rw [he]; rfl) hp' a' K'
  have R' : qw X hp' a' (clt :: rest) ctx := R'
  have hr := R'.hr
  walk_at "w"
  refine qI (kr (by walk_at "l") (by decide) (by rw [hclt]; show cl ∈ zE; rcases hcl with rfl | rfl <;> decide) R' fun hp₁ R1 K₁ => ?_)
  rw [wQ hclt, show (cl == 121) = false by rcases hcl with rfl | rfl <;> rfl]
  walk_at "w"
  refine yS ?_
  walk_at "w"
  refine hq (by simp only [List.map_nil, q7]; rw [hb]; rfl) _ hp₁ a' ?_ ?_ ?_ ?_ R1 (K'.trans K₁) (Li'.keep K₁) (Lg'.keep K₁) <;> walk_at "look"
 | cons y r ih =>
  intro x f hp a l its tgs hf hz1 hz2 hxo hro l0 l1 l2 l3 l4 R K Li Lg hq hE
  obtain ⟨c, x'⟩ := y
  obtain ⟨f, rfl⟩ := Nat.exists_eq_add_of_le' (by exact le1 (sL hf) : 1 <= f)
  obtain ⟨hc, hx'⟩ := hro _ (.head _)
  simp only [List.length_cons] at hf hz1 hz2
  have fe : ∀ b, x.err = none -> q7 (x :: (((c, x') :: r).map (·.2))) = b -> q7 (x' :: r.map (·.2)) = b := fun b h1 h2 => by
   simp only [List.map_cons] at h2
   unfold q7 at h2
   rw [h1] at h2
   exact h2
  refine Zg hm hx hL hbr hcl hi hg hig hxo (sp := c) (tl := x'.toks ++ (qj r ++ (clt :: rest))) hc (.inl rfl) (by exact le1 hz1) (by exact le1 hz2) l0 l1 l2 l3 l4 (by simpa [qj] using R) K Li Lg (fun hb l' hp' a' w0 w1 w2 w3 R' K' Li' Lg' => ?_) fun e he hp' a' K' => hE e (by unfold q7; rw [he]; rfl) hp' a' K'
  have R' : qw X hp' a' (c :: (x'.toks ++ (qj r ++ (clt :: rest)))) ctx := by simpa [qj] using R'
  have hr := R'.hr
  walk_at "w"
  refine qI (kr (by walk_at "l") (by decide) (by rw [hc]; show 121 ∈ zE; decide) R' fun hp₁ R1 K₁ => ?_)
  have hr := R1.hr
  rw [wQ hc, show ((121 : Nat) == 121) = true from rfl]
  walk_at "w"
  refine qI (jC (by walk_at "l") R1 fun hp₂ a₂ R2 K₂ => ?_)
  walk_at "w"
  refine ih x' f hp₂ a₂ _ (its ++ [qg x.tree]) (tgs ++ [x.tag]) (by exact lt1 (sL hf)) (by rw [List.length_append]; simp; exact le1 hz1) (by rw [List.length_append]; simp; exact le1 hz2) hx' (fun z hz => hro z (.tail _ hz)) ?_ ?_ ?_ ?_ ?_ R2 (K'.trans (K₁.trans K₂)) ((Li'.keep K₁).keep K₂) ((Lg'.keep K₁).keep K₂) (fun q l₃ hp3 a₃ v0 v1 v2 v3 R3 K₃ Li3 Lg3 => ?_) fun e q hp3 a₃ K₃ => hE e ?_ hp3 a₃ K₃
  ·walk_at "look"
  ·walk_at "look"
  ·walk_at "look"
  ·walk_at "look"
  ·walk_at "look"
  ·refine hq ?_ l₃ hp3 a₃ v0 v1 v2 v3 R3 K₃ (by simpa using Li3) (by simpa using Lg3)
   simp only [List.map_cons]
   unfold q7
   rw [hb]
   exact q
  ·simp only [List.map_cons]
   unfold q7
   rw [hb]
   exact q
end
section
variable {n : Nat} {hp : Hp} {Q : V -> Hp -> Prop} {E : V -> V -> Hp -> Prop} {X : RX} {a : Nat} {rest : List Tk} {ctx : List V}
theorem yf {N L cl cx : Nat} {x : Arg} {r : List (Tk × Arg)} {clt : Tk} (hn : N + 8 <= n) (hx : jJ ctx) (hL : ctx.length <= L) (hLL : L + 1 <= 2 ^ 20) (hcl : (cl = 114 /\ cx = 75) \/ (cl = 116 /\ cx = 77)) (hclt : clt.tv = .op cl) (hr9 : r.length <= 90) (hxo : vI N (L + 1) x) (hro : ∀ y ∈ r, y.1.tv = .op 121 /\ vI N (L + 1) y.2)
  (R : qw X hp a (x.toks ++ (qj r ++ (clt :: rest))) ctx)
  (hq : q7 (x :: r.map (·.2)) = none -> ∀ hp' a' i g, qw X hp' a' (clt :: rest) ctx -> zA X hp a hp' a' -> Loc X hp' a' i (.lst ((x :: r.map (·.2)).map fun y => qg y.tree)) -> Loc X hp' a' g (.lst ((x :: r.map (·.2)).map Arg.tag)) -> Q (.tup [.ref i, .ref g]) hp')
  (hE : ∀ e, q7 (x :: r.map (·.2)) = some e -> ∀ hp' a', zA X hp a hp' a' -> E e.1 e.2 hp') : Call n .arguments [.ref X.r, .str (nm cl), .str (nm cx)] hp Q E := by
 obtain ⟨m, rfl⟩ := Nat.exists_eq_add_of_le' (by walk_at "l" : 8 <= n)
 refine qh [0, 120, 117] none (vH (run (m + 7))) rfl rfl ?_
 simp only [List.zip_cons_cons, List.zip_nil_left, List.zip_nil_right]
 rw [Qs]
 have hr := R.hr
 have hc := R.hc
 have z20 : (2 : Nat) ^ 20 = 1048576 := by decide
 have hcl' : cl = 114 \/ cl = 116 := hcl.imp (·.1) (·.1)
 walk_at "w"
 refine zQ hc (by refine pLe ?_; exact le3 hL hLL (eL z20)) fun hp₁ u₁ => ?_
 obtain ⟨R1, K₁⟩ := R.ctx u₁
 have hb1 : zr (ctx ++ [.str (nm cx)]) := Jy (by rcases hcl with ⟨_, h⟩ | ⟨_, h⟩; exact .inl h; exact .inr h)
 walk_at "w"
 refine ⟨by walk_at "p", fun hp₂ u₂ => ?_⟩
 have R2 := R1.new u₂
 have Li2 := Loc.fresh R1 u₂
 walk_at "w"
 refine ⟨by walk_at "p", fun hp3 u₃ => ?_⟩
 have R3 := R2.new u₃
 have Li3 := Li2.new u₃
 have Lg3 := Loc.fresh R2 u₃
 have K₃ := (K₁.new u₂).new u₃
 have hk1 := K₁.len
 walk_at "w"
 refine args_loop (N := N) (L := L + 1) (m := m + 1) (hp₀ := hp) (a₀ := a) (i := hp₁.length) (g := hp₂.length) (clt := clt) (cl := cl) (rest := rest) (by exact le1 hn) ⟨.inl hb1, by rw [List.length_append]; simp; exact le3 hL hLL (eL z20)⟩ (by rw [List.length_append]; simp; exact le1 hL) hb1 hcl' hclt hk1 (by rw [u₂.len]; exact le1 hk1) (by rw [u₂.len]; exact Nat.ne_of_lt (lt0)) r x wf hp3 a _ [] [] (by have : wf = 1000000 := rfl; exact lt2 hr9 (eR this)) (by simp; exact le1 hr9) (by simp; exact le1 hr9) hxo hro (by walk_at "look") (by walk_at "look") (by walk_at "look") (by walk_at "look") (by walk_at "look") R3 K₃ Li3 Lg3 (fun hb l' hp4 a₄ w0 w1 w2 w3 R4 K₄ Li4 Lg4 => ?_) hE
 have hr := R4.hr
 walk_at "w"
 refine qI (kr (by walk_at "l") (by rcases hcl' with rfl | rfl <;> decide) (by rw [hclt]; show cl ∈ zE; rcases hcl' with rfl | rfl <;> decide) R4 fun hp5 R5 K₅ => ?_)
 have hr := R5.hr
 rw [wQ hclt, beq_self_eq_true]
 walk_at "w"
 refine Qy R5.hc (by rw [zY, List.length_append]; simp; exact le3 hL hLL (eL z20)) fun hp6 u₆ => ?_
 obtain ⟨R6, K₆⟩ := R5.ctx u₆
 walk_at "w"
 refine ⟨by walk_at "p", ?_⟩
 exact hq hb hp6 a₄ hp₁.length hp₂.length R6 (K₄.trans (K₅.trans K₆)) ((Li4.keep K₅).keep K₆) ((Lg4.keep K₅).keep K₆)
end
noncomputable def wO : T -> Nat | .name _ => 74 | .vec k _ => k | .null => 64 | .missing => 115 | .call _ _ => 72
noncomputable def jb : T -> Bool | .missing => true | _ => false
theorem yL {t : T} (h : wft t) : wO t < 204 /\ (wO t == 115) = jb t := by
 cases t with
 | vec k items => obtain ⟨hk, _⟩ := h; rcases hk with rfl | rfl | rfl <;> exact ⟨by simp only [wO]; exact lt0, rfl⟩
 | _ => exact ⟨by simp only [wO]; exact lt0, rfl⟩
theorem W_kind {t : T} {l : Nv} {hp : Hp} {Q : V -> Nv -> Hp -> Prop} {E : V -> V -> Hp -> Prop} (h : Q (.str (nm (wO t))) l hp) : W (xk (nm 1) (qg t)) l hp Q E := by
 cases t <;> (simp only [qg]; exact X7 (by intro q; cases q) rfl h)
noncomputable def strH : List V -> Option Str
 | .str x :: _ => some x
 | _ => none
noncomputable def nameV (is : List V) : T := match strH is with
 | some x => .name (if x = nm 180 then 180 else 189)
 | none => .vec 24 is
noncomputable def jv : T -> T
 | .vec k is => if k = 24 then nameV is else .vec k is
 | t => t
theorem QX : jv (.vec 24 [.str (nm 180)]) = .name 180 := by show T.name (if nm 180 = nm 180 then 180 else 189) = _; rw [if_pos rfl]
theorem QW : jv (.vec 24 [.str (nm 189)]) = .name 189 := by show T.name (if nm 189 = nm 180 then 180 else 189) = _; rw [if_neg (ZS (by decide))]
noncomputable def vJ (xs : List Arg) : Bool := match xs with | [x] => jb x.tree && isNone x.tag | _ => false
noncomputable def vZ (v : T) (xs : List Arg) : T := if vJ xs then .call [jv v] [.none] else .call (jv v :: xs.map Arg.tree) (.none :: xs.map Arg.tag)
theorem QS (xs : List Arg) : ju (xs.map Arg.tree) = xs.map fun y => qg y.tree := by rw [vT, List.map_map]; rfl
section
variable {n : Nat} {hp : Hp} {Q : V -> Hp -> Prop} {E : V -> V -> Hp -> Prop} {X : RX} {a : Nat} {rest : List Tk} {ctx : List V}
theorem J2 {m : Nat} {v : T} {is : List T} {gs : List V} {hp : Hp} {l : Nv} {iv gv : V} (hv : wft v) (hi : qo hp iv = some (ju is)) (hg : qo hp gv = some gs) (hz1 : is.length <= 200) (hz2 : gs.length <= 200) (l0 : l.lookup 7 = some (qg v)) (l1 : l.lookup 2 = some iv) (l2 : l.lookup 5 = some gv) (hq : Q (qg (.call (jv v :: is) (.none :: gs))) hp) :
  W (qF (sIf (jG (qi .Eq (qd (nm 1) (qD (nm 7))) (pure (.str (nm 24)))) (jG (qi .IsNot (qV (qd (nm 2) (qD (nm 7))) (pure (.int 0))) (pure .none)) (pure true))) (qF (qy (nm 7) (qa [(qV (qd (nm 2) (qD (nm 7))) (pure (.int 0)))] >>= run (m + 2) .symbol)) qK) qK) (qF (qs (qa [(zf .Add (q8 [(qD (nm 7))]) (qD (nm 2))), (zf .Add (q8 [(pure .none)]) (qD (nm 5)))] >>= run (m + 2) .cCall)) qK)) l hp (fun fl _ hp' => Q (flV fl) hp') E := by
 have hl : (ju is).length = is.length := by rw [vT, List.length_map]
 have fin : ∀ l, l.lookup 7 = some (qg (jv v)) -> l.lookup 2 = some iv -> l.lookup 5 = some gv -> W (qF (qs (qa [(zf .Add (q8 [(qD (nm 7))]) (qD (nm 2))), (zf .Add (q8 [(pure .none)]) (qD (nm 5)))] >>= run (m + 2) .cCall)) qK) l hp (fun fl _ hp' => Q (flV fl) hp') E := by
  intro l w0 w1 w2
  walk_at "w"
  refine ⟨by walk_at "p", ?_⟩
  walk_at "w"
  refine jP rfl hi (by refine pLe ?_; simp only [List.length_cons, List.length_nil]; exact le2 (eL hl) hz1) ?_
  walk_at "w"
  refine ⟨by walk_at "p", ?_⟩
  walk_at "w"
  refine jP rfl hg (by refine pLe ?_; simp only [List.length_cons, List.length_nil]; exact le1 hz2) ?_
  walk_at "w"
  refine qI (yt (n := m + 1) ?_)
  walk_at "w"
  exact hq
 walk_at "w"
 refine W_kind ?_
 walk_at "w"
 refine xR (yL hv).1 (by decide) ?_
 refine zL (fun e => ?_) (fun e => ?_)
 ·obtain ⟨items, rfl⟩ : ∃ items, v = .vec 24 items := by
   cases v with
   | vec k items =>
    have : k = 24 := by simpa [wO] using e
    exact ⟨items, by rw [this]⟩
   | _ => simp [wO] at e
  rcases hv.2.1 rfl with rfl | rfl
  ·rw [QX] at fin
   simp only [qg] at l0 fin
   walk_at "w"
   refine qI (wP (n := m) ?_)
   walk_at "w1"
   walk_at "w1"
   walk_at "w1"
   refine fin _ zK ?_ ?_ <;> walk_at "look"
  ·rw [QW] at fin
   simp only [qg] at l0 fin
   walk_at "w"
   refine qI (wP (n := m) ?_)
   walk_at "w1"
   walk_at "w1"
   walk_at "w1"
   refine fin _ zK ?_ ?_ <;> walk_at "look"
 ·walk_at "w1"
  walk_at "w1"
  walk_at "w1"
  walk_at "w1"
  refine fin l ?_ l1 l2
  rw [l0]
  congr 1
  cases v with
  | vec k items =>
   have : k ≠ 24 := by simpa [wO] using e
   exact congrArg qg (Eq.symm (if_neg this : jv (.vec k items) = .vec k items))
  | _ => rfl
theorem k_callOn {N L : Nat} {x : Arg} {r : List (Tk × Arg)} {tk0 clt : Tk} {v : T} (hn : N + 10 <= n) (hx : jJ ctx) (hL : ctx.length <= L) (hLL : L + 1 <= 2 ^ 20) (h0 : tk0.tv = .op 75) (hclt : clt.tv = .op 114) (hr9 : r.length <= 90) (hxo : vI N (L + 1) x) (hro : ∀ y ∈ r, y.1.tv = .op 121 /\ vI N (L + 1) y.2) (hv : wft v)
  (hwf : q7 (x :: r.map (·.2)) = none -> ∀ y ∈ x :: r.map (·.2), wft y.tree)
  (R : qw X hp a (tk0 :: (x.toks ++ (qj r ++ (clt :: rest)))) ctx)
  (hq : q7 (x :: r.map (·.2)) = none -> ∀ hp' a', qw X hp' a' rest ctx -> zA X hp a hp' a' -> Q (qg (vZ v (x :: r.map (·.2)))) hp')
  (hE : ∀ e, q7 (x :: r.map (·.2)) = some e -> ∀ hp' a', zA X hp a hp' a' -> E e.1 e.2 hp') : Call n .callOn [.ref X.r, qg v] hp Q E := by
 obtain ⟨m, rfl⟩ := Nat.exists_eq_add_of_le' (by walk_at "l" : 10 <= n)
 refine qh [0, 7] none (yA (run (m + 9))) rfl rfl ?_
 simp only [List.zip_cons_cons, List.zip_nil_left, List.zip_nil_right]
 unfold yA
 have hr := R.hr
 walk_at "w"
 refine qI (jX (by walk_at "l") (by decide) (by rw [h0]; show 75 ∈ zE; decide) (by rw [h0]; rfl) R fun hp₁ a₁ R1 K₁ => ?_)
 have hr := R1.hr
 walk_at "w"
 refine qI (yf (N := N) (by exact le1 hn) hx hL hLL (.inl ⟨rfl, rfl⟩) hclt hr9 hxo hro R1 (fun hb hp₂ a₂ i g R2 K₂ Li Lg => ?_) fun e q hp' a' K' => hE e q hp' a' (K₁.trans K'))
 refine zW rfl ?_
 have hr := R2.hr
 walk_at "w"
 refine qI (jX (by walk_at "l") (by decide) (by rw [hclt]; show 114 ∈ zE; decide) (by rw [hclt]; rfl) R2 fun hp3 a₃ R3 K₃ => ?_)
 have Li3 := Li.keep K₃
 have Lg3 := Lg.keep K₃
 have hi := Li3.at_
 have hg := Lg3.at_
 have hlen : (x :: r.map (·.2)).length <= 100 := by simp; exact le1 hr9
 generalize hxs : x :: r.map (·.2) = xs at *
 have fin : vJ xs = false -> ∀ l, l.lookup 7 = some (qg v) -> l.lookup 2 = some (.ref i) -> l.lookup 5 = some (.ref g) -> W (qF (sIf (jG (qi .Eq (qd (nm 1) (qD (nm 7))) (pure (.str (nm 24)))) (jG (qi .IsNot (qV (qd (nm 2) (qD (nm 7))) (pure (.int 0))) (pure .none)) (pure true))) (qF (qy (nm 7) (qa [(qV (qd (nm 2) (qD (nm 7))) (pure (.int 0)))] >>= run (m + 9) .symbol)) qK) qK) (qF (qs (qa [(zf .Add (q8 [(qD (nm 7))]) (qD (nm 2))), (zf .Add (q8 [(pure .none)]) (qD (nm 5)))] >>= run (m + 9) .cCall)) qK)) l hp3 (fun fl _ hp' => Q (flV fl) hp') E := by
  intro hno l w0 w1 w2
  refine J2 (m := m + 7) (is := xs.map Arg.tree) (gs := xs.map Arg.tag) hv (by simp only [qo, hi]; rw [QS]) (by simp only [qo, hg]) (by rw [List.length_map]; exact le1 hlen) (by rw [List.length_map]; exact le1 hlen) w0 w1 w2 ?_
  have := hq hb hp3 a₃ R3 (K₁.trans (K₂.trans K₃))
  unfold vZ at this
  rw [hno] at this
  exact this
 walk_at "w"
 refine wX hi (by rw [List.length_map]; lia) ?_
 walk_at "w"
 refine zL (fun e => ?_) (fun e => ?_)
 ·-- one argument
  have e : ((xs.map fun y => qg y.tree).length : Int) = 1 := by simpa using e
  obtain ⟨y, rfl⟩ : ∃ y, xs = [y] := by
   cases xs with
   | nil => simp at e
   | cons y r' => cases r' with
    | nil => exact ⟨y, rfl⟩
    | cons z r'' => simp at e; lia
  have hwy := hwf hb y (.head _)
  walk_at "w"
  refine KU (k := 0) (w := qg y.tree) hi (by decide) rfl (by decide) ?_
  refine W_kind ?_
  walk_at "w"
  refine xR (yL hwy).1 (by decide) ?_
  rw [(yL hwy).2]
  refine zL (fun e1 => ?_) (fun e1 => ?_)
  ·walk_at "w"
   refine KU (k := 0) (w := y.tag) hg (by decide) rfl (by decide) ?_
   walk_at "w"
   refine zL (fun e2 => ?_) (fun e2 => ?_)
   ·have hno : vJ [y] = true := by unfold vJ; dsimp only; rw [e1, e2]; rfl
    walk_at "w"
    refine ⟨by walk_at "p", ?_⟩
    walk_at "w1"
    walk_at "w1"
    walk_at "w1"
    walk_at "w1"
    walk_at "w1"
    refine ⟨by walk_at "p", ?_⟩
    walk_at "w1"
    walk_at "w1"
    walk_at "w1"
    refine J2 (m := m + 7) (v := v) (is := []) (gs := []) (iv := .lst []) (gv := .lst []) hv rfl rfl (by simp) (by simp) ?_ ?_ ?_ ?_
    ·walk_at "look"
    ·walk_at "look"
    ·walk_at "look"
    have := hq hb hp3 a₃ R3 (K₁.trans (K₂.trans K₃))
    unfold vZ at this
    rw [hno] at this
    exact this
   ·walk_at "w1"
    walk_at "w1"
    walk_at "w1"
    walk_at "w1"
    refine fin (by unfold vJ; dsimp only; rw [e2, Bool.and_false]) _ ?_ ?_ ?_ <;> walk_at "look"
  ·walk_at "w1"
   walk_at "w1"
   walk_at "w1"
   walk_at "w1"
   refine fin (by unfold vJ; dsimp only; rw [e1]; rfl) _ ?_ ?_ ?_ <;> walk_at "look"
 ·walk_at "w1"
  walk_at "w1"
  walk_at "w1"
  walk_at "w1"
  refine fin ?_ _ ?_ ?_ ?_
  ·have e : ¬ ((xs.map fun y => qg y.tree).length : Int) = 1 := by simpa using e
   unfold vJ
   split
   ·simp at e
   ·rfl
  all_goals walk_at "look"
end
noncomputable def kQ (c : Fn -> List V -> M V) : M Fl := (u151 c)
theorem ZG (c : Fn -> List V -> M V) : vx c = qF (zP wf (z8 (pure (.bool true))) (u151 c)) qK := rfl
noncomputable def ym (o : Nat) (v : T) (xs : List Arg) : T := .call (.name o :: v :: xs.map Arg.tree) (.none :: .none :: xs.map Arg.tag)
section
variable {n : Nat} {hp : Hp} {Q : V -> Hp -> Prop} {E : V -> V -> Hp -> Prop} {X : RX} {a : Nat} {rest : List Tk} {ctx : List V}
theorem k_indexOn {N L o : Nat} {x : Arg} {r : List (Tk × Arg)} {tk0 clt : Tk} {cls2 : List Tk} {v : T} (hn : N + 10 <= n) (hx : jJ ctx) (hL : ctx.length <= L) (hLL : L + 1 <= 2 ^ 20) (h0 : tk0.tv = .op o) (ho : (o = 77 /\ cls2 = []) \/ (o = 78 /\ ∃ c2, cls2 = [c2] /\ c2.tv = .op 116)) (hclt : clt.tv = .op 116) (hr9 : r.length <= 90) (hxo : vI N (L + 1) x) (hro : ∀ y ∈ r, y.1.tv = .op 121 /\ vI N (L + 1) y.2)
  (R : qw X hp a (tk0 :: (x.toks ++ (qj r ++ (clt :: (cls2 ++ rest))))) ctx)
  (hq : q7 (x :: r.map (·.2)) = none -> ∀ hp' a', qw X hp' a' rest ctx -> zA X hp a hp' a' -> Q (qg (ym o v (x :: r.map (·.2)))) hp')
  (hE : ∀ e, q7 (x :: r.map (·.2)) = some e -> ∀ hp' a', zA X hp a hp' a' -> E e.1 e.2 hp') : Call n .indexOn [.ref X.r, qg v, .str (nm o)] hp Q E := by
 obtain ⟨m, rfl⟩ := Nat.exists_eq_add_of_le' (by walk_at "l" : 10 <= n)
 refine qh [0, 7, 33] none (ww (run (m + 9))) rfl rfl ?_
 simp only [List.zip_cons_cons, List.zip_nil_left, List.zip_nil_right]
 unfold ww
 have hr := R.hr
 have ho1 : o ∈ zE /\ o < 204 := by rcases ho with ⟨rfl, _⟩ | ⟨rfl, _⟩ <;> decide
 walk_at "w"
 refine qI (jX (by walk_at "l") ho1.2 (by rw [h0]; exact ho1.1) (by rw [h0]; show (o == o) = true; simp) R fun hp₁ a₁ R1 K₁ => ?_)
 have hr := R1.hr
 walk_at "w"
 refine qI (yf (N := N) (by exact le1 hn) hx hL hLL (.inr ⟨rfl, rfl⟩) hclt hr9 hxo hro R1 (fun hb hp₂ a₂ i g R2 K₂ Li Lg => ?_) fun e q hp' a' K' => hE e q hp' a' (K₁.trans K'))
 refine zW rfl ?_
 have hr := R2.hr
 walk_at "w"
 refine qI (jX (by walk_at "l") (by decide) (by rw [hclt]; show 116 ∈ zE; decide) (by rw [hclt]; rfl) R2 fun hp3 a₃ R3 K₃ => ?_)
 have hlen : (x :: r.map (·.2)).length <= 100 := by simp; exact le1 hr9
 generalize hxs : x :: r.map (·.2) = xs at *
 have fin : ∀ hp4 a₄ l, qw X hp4 a₄ rest ctx -> zA X hp3 a₃ hp4 a₄ -> l.lookup 33 = some (.str (nm o)) -> l.lookup 7 = some (qg v) -> l.lookup 2 = some (.ref i) -> l.lookup 5 = some (.ref g) -> W (qF (qs (qa [(zf .Add (q8 [(qa [(qD (nm 33))] >>= run (m + 9) .symbol), (qD (nm 7))]) (qD (nm 2))), (zf .Add (q8 [(pure .none), (pure .none)]) (qD (nm 5)))] >>= run (m + 9) .cCall)) qK) l hp4 (fun fl _ hp' => Q (flV fl) hp') E := by
  intro hp4 a₄ l R4 K₄ w0 w1 w2 w3
  have hi := ((Li.keep K₃).keep K₄).at_
  have hg := ((Lg.keep K₃).keep K₄).at_
  walk_at "w"
  refine qI (wP (n := m + 7) ?_)
  walk_at "w"
  refine ⟨by walk_at "p", ?_⟩
  walk_at "w"
  refine jP (ys := xs.map fun y => qg y.tree) rfl (by simp only [qo, hi]) (by refine pLe ?_; simp only [List.length_cons, List.length_nil, List.length_map]; exact le1 hlen) ?_
  walk_at "w"
  refine ⟨by walk_at "p", ?_⟩
  walk_at "w"
  refine jP (ys := xs.map Arg.tag) rfl (by simp only [qo, hg]) (by refine pLe ?_; simp only [List.length_cons, List.length_nil, List.length_map]; exact le1 hlen) ?_
  walk_at "w"
  refine qI (yt (n := m + 8) ?_)
  walk_at "w"
  have := hq hb hp4 a₄ R4 (K₁.trans (K₂.trans (K₃.trans K₄)))
  unfold ym at this
  simp only [qg, ju, QS] at this
  exact this
 walk_at "w"
 refine xR ho1.2 (by decide) ?_
 rcases ho with ⟨rfl, rfl⟩ | ⟨rfl, c2, rfl, hc2⟩
 ·refine jT rfl (zz (qY ?_))
  refine fin hp3 a₃ _ R3 .refl ?_ ?_ ?_ ?_ <;> walk_at "look"
 ·refine jS rfl ?_
  have hr := R3.hr
  walk_at "w"
  refine qI (jX (by walk_at "l") (by decide) (by rw [hc2]; show 116 ∈ zE; decide) (by rw [hc2]; rfl) R3 fun hp4 a₄ R4 K₄ => ?_)
  refine qY (zz (qY ?_))
  refine fin hp4 a₄ _ R4 K₄ ?_ ?_ ?_ ?_ <;> walk_at "look"
structure Q3 (N L : Nat) (ts : List Tk) (t : T) (b : Option Err) : Prop where
 rd : ∀ n X hp a rest ctx Q E, N <= n -> jJ ctx -> ctx.length <= L -> qw X hp a (ts ++ rest) ctx -> (b = none -> ∀ hp' a', qw X hp' a' rest ctx -> zA X hp a hp' a' -> Q (qg t) hp') -> (∀ e, b = some e -> ∀ hp' a', zA X hp a hp' a' -> E e.1 e.2 hp') -> Call n .member [.ref X.r] hp Q E
theorem mem_id {L s : Nat} {t : Tk} (h : t.tv = .id s) : Q3 6 L [t] (.name s) none := by
 refine ⟨fun n X hp a rest ctx Q E hn hx hL R hq hE => ?_⟩
 obtain ⟨m, rfl⟩ := Nat.exists_eq_add_of_le' (by walk_at "l" : 6 <= n)
 refine qh [0] none (j8 (run (m + 5))) rfl rfl ?_
 obtain ⟨tv, p, b⟩ := t
 dsimp only at h
 subst h
 simp only [List.zip_cons_cons, List.zip_nil_left, List.zip_nil_right]
 unfold j8
 have hr := R.hr
 walk_at "w"
 refine qI (zd (by walk_at "l") R fun hp₁ R1 K₁ _ => ?_)
 have hr := R1.hr
 walk_at "w"
 refine qI (jC (by walk_at "l") R1 fun hp₂ a₂ R2 K₂ => ?_)
 walk_at "w"
 refine qI (wP (n := m + 3) ?_)
 walk_at "w"
 exact hq rfl hp₂ a₂ R2 (K₁.trans K₂)
theorem Xg {L s : Nat} {t : Tk} (h : t.tv = .str s) : Q3 6 L [t] (.vec 24 [.str (nm s)]) none := by
 refine ⟨fun n X hp a rest ctx Q E hn hx hL R hq hE => ?_⟩
 obtain ⟨m, rfl⟩ := Nat.exists_eq_add_of_le' (by walk_at "l" : 6 <= n)
 refine qh [0] none (j8 (run (m + 5))) rfl rfl ?_
 obtain ⟨tv, p, b⟩ := t
 dsimp only at h
 subst h
 simp only [List.zip_cons_cons, List.zip_nil_left, List.zip_nil_right]
 unfold j8
 have hr := R.hr
 walk_at "w"
 refine qI (zd (by walk_at "l") R fun hp₁ R1 K₁ _ => ?_)
 have hr := R1.hr
 walk_at "w"
 refine qI (jC (by walk_at "l") R1 fun hp₂ a₂ R2 K₂ => ?_)
 walk_at "w"
 refine qI (k_text (n := m + 3) ?_)
 walk_at "w"
 refine qI (vV (n := m + 4) ?_)
 walk_at "w"
 exact hq rfl hp₂ a₂ R2 (K₁.trans K₂)
theorem mem_br {N L : Nat} {ts : List Tk} {t : T} {b : Option Err} {tk0 tk1 : Tk} (hLL : L + 1 <= 2 ^ 20) (H : Q1 N (L + 1) true 1 ts t b) (e0 : tk0.tv = .op 75) (e1 : tk1.tv = .op 114) : Q3 (N + 7) L (tk0 :: (ts ++ [tk1])) (.call [.name 75, t] [.none, .none]) b := by
 refine ⟨fun n X hp a rest ctx Q E hn hx hL R hq hE => ?_⟩
 obtain ⟨m, rfl⟩ := Nat.exists_eq_add_of_le' (by walk_at "l" : 7 <= n)
 refine qh [0] none (j8 (run (m + 6))) rfl rfl ?_
 have R : qw X hp a (tk0 :: (ts ++ (tk1 :: rest))) ctx := by simpa using R
 obtain ⟨tv, p, bb⟩ := tk0
 dsimp only at e0
 subst e0
 simp only [List.zip_cons_cons, List.zip_nil_left, List.zip_nil_right]
 unfold j8
 have hr := R.hr
 walk_at "w"
 refine qI (zd (by walk_at "l") R fun hp₁ R1 K₁ _ => ?_)
 have hr := R1.hr
 walk_at "w"
 refine qI (ye (N := N) (by exact le1 hn) hx hL hLL H rfl e1 R1 (fun hb hp₂ a₂ R2 K₂ => ?_) fun e q hp' a' K' => hE e q hp' a' (K₁.trans K'))
 walk_at "w"
 exact hq hb hp₂ a₂ R2 (K₁.trans K₂)
end
structure v5 (N L : Nat) (inb : Bool) (ts : List Tk) (F : T -> T) (b : Option Err) : Prop where
 first : ∃ t0 tl o, ts = t0 :: tl /\ t0.tv = .op o /\ o ∈ xC /\ (t0.nl = true -> inb = true)
 wf : b = none -> ∀ v, wft v -> wft (F v)
 rd : ∀ m f X hp a rest ctx l v (Q : Fl -> Nv -> Hp -> Prop) E, N <= m -> jJ ctx -> ctx.length <= L -> (inb = true -> zr ctx) -> wft v -> l.lookup 0 = some (.ref X.r) -> l.lookup 7 = some (qg v) -> qw X hp a (ts ++ rest) ctx ->
  (b = none -> ∀ l' hp' a', l'.lookup 0 = some (.ref X.r) -> l'.lookup 7 = some (qg (F v)) -> qw X hp' a' rest ctx -> zA X hp a hp' a' -> W (zP f (z8 (pure (.bool true))) (kQ (run m))) l' hp' Q E) ->
  (∀ e, b = some e -> ∀ hp' a', zA X hp a hp' a' -> E e.1 e.2 hp') -> W (zP (f + 1) (z8 (pure (.bool true))) (kQ (run m))) l hp Q E
theorem post_call {N L : Nat} {inb : Bool} {x : Arg} {r : List (Tk × Arg)} {tk0 clt : Tk} (hLL : L + 1 <= 2 ^ 20) (h0 : tk0.tv = .op 75) (hnl : tk0.nl = true -> inb = true) (hclt : clt.tv = .op 114) (hr9 : r.length <= 90) (hxo : vI N (L + 1) x) (hro : ∀ y ∈ r, y.1.tv = .op 121 /\ vI N (L + 1) y.2)
  (hwf : q7 (x :: r.map (·.2)) = none -> ∀ y ∈ x :: r.map (·.2), wft y.tree) (hcf : q7 (x :: r.map (·.2)) = none -> ∀ v, wft v -> wft (vZ v (x :: r.map (·.2)))) : v5 (N + 10) L inb (tk0 :: (x.toks ++ (qj r ++ [clt]))) (fun v => vZ v (x :: r.map (·.2))) (q7 (x :: r.map (·.2))) := by
 refine ⟨⟨tk0, _, 75, rfl, h0, by decide, hnl⟩, hcf, fun m f X hp a rest ctx l v Q E hm hx hL hi hv l0 l7 R hq hE => ?_⟩
 have R : qw X hp a (tk0 :: (x.toks ++ (qj r ++ (clt :: rest)))) ctx := by simpa using R
 obtain ⟨tv, p, b⟩ := tk0
 dsimp only at h0
 subst h0
 have hr := R.hr
 refine yS ?_
 walk_at "w"
 unfold kQ
 walk_at "w"
 refine qI (zd (by walk_at "l") R fun hp₁ R1 K₁ _ => ?_)
 have hr := R1.hr
 walk_at "w"
 refine qI (wq (t := ⟨.op 75, p, b⟩) (by walk_at "l") hx (fun q => hi (hnl q)) R1 ?_)
 walk_at "w"
 refine qI (k_callOn (N := N) (by walk_at "l") hx hL hLL rfl hclt hr9 hxo hro hv hwf R1 (fun hb hp₂ a₂ R2 K₂ => ?_) fun e q hp' a' K' => hE e q hp' a' (K₁.trans K'))
 walk_at "w"
 refine hq hb _ hp₂ a₂ ?_ ?_ R2 (K₁.trans K₂) <;> walk_at "look"
theorem QM {N L o : Nat} {inb : Bool} {x : Arg} {r : List (Tk × Arg)} {tk0 clt : Tk} {cls2 : List Tk} (hLL : L + 1 <= 2 ^ 20) (h0 : tk0.tv = .op o) (ho : (o = 77 /\ cls2 = []) \/ (o = 78 /\ ∃ c2, cls2 = [c2] /\ c2.tv = .op 116)) (hnl : tk0.nl = true -> inb = true) (hclt : clt.tv = .op 116) (hr9 : r.length <= 90) (hxo : vI N (L + 1) x) (hro : ∀ y ∈ r, y.1.tv = .op 121 /\ vI N (L + 1) y.2)
  (hcf : q7 (x :: r.map (·.2)) = none -> ∀ v, wft v -> wft (ym o v (x :: r.map (·.2)))) : v5 (N + 10) L inb (tk0 :: (x.toks ++ (qj r ++ (clt :: cls2)))) (fun v => ym o v (x :: r.map (·.2))) (q7 (x :: r.map (·.2))) := by
 refine ⟨⟨tk0, _, o, rfl, h0, by rcases ho with ⟨rfl, _⟩ | ⟨rfl, _⟩ <;> decide, hnl⟩, hcf, fun m f X hp a rest ctx l v Q E hm hx hL hi hv l0 l7 R hq hE => ?_⟩
 have R : qw X hp a (tk0 :: (x.toks ++ (qj r ++ (clt :: (cls2 ++ rest))))) ctx := by simpa using R
 obtain ⟨tv, p, b⟩ := tk0
 dsimp only at h0
 subst h0
 have hr := R.hr
 refine yS ?_
 walk_at "w"
 unfold kQ
 walk_at "w"
 refine qI (zd (by walk_at "l") R fun hp₁ R1 K₁ _ => ?_)
 have hr := R1.hr
 walk_at "w"
 refine qI (wq (t := ⟨.op o, p, b⟩) (by walk_at "l") hx (fun q => hi (hnl q)) R1 ?_)
 have go : ∀ l₁, l₁.lookup 0 = some (.ref X.r) -> l₁.lookup 7 = some (qg v) -> l₁.lookup 97 = some (jr ⟨.op o, p, b⟩) -> W (run m .indexOn [.ref X.r, qg v, .str (nm o)]) l₁ hp₁ (fun w l hp => xM qK (xM qK (xM qK (wN f (z8 (pure (.bool true))) (kQ (run m)) Q E) E) E) E .nxt ((7, w) :: l) hp) E := by
  intro l₁ w0 w7 w97
  refine qI (k_indexOn (N := N) (by walk_at "l") hx hL hLL rfl ho hclt hr9 hxo hro R1 (fun hb hp₂ a₂ R2 K₂ => ?_) fun e q hp' a' K' => hE e q hp' a' (K₁.trans K'))
  walk_at "w"
  refine hq hb _ hp₂ a₂ ?_ ?_ R2 (K₁.trans K₂) <;> walk_at "look"
 rcases ho with ⟨rfl, _⟩ | ⟨rfl, _⟩
 ·walk_at "w"
  refine go _ ?_ ?_ ?_ <;> walk_at "look"
 ·walk_at "w"
  refine go _ ?_ ?_ ?_ <;> walk_at "look"
theorem vQ {N L o : Nat} {inb : Bool} {ts : List Tk} {t : T} {b : Option Err} {tk0 : Tk} (h6 : 6 <= N) (h0 : tk0.tv = .op o) (ho : o = 79 \/ o = 80) (hnl : tk0.nl = true -> inb = true) (H : Q3 N L ts t b) (hwt : b = none -> wft t) : v5 N L inb (tk0 :: ts) (fun v => .call [.name o, v, t] [.none, .none, .none]) b := by
 have hsig : o ∈ sig := by rcases ho with rfl | rfl <;> decide
 refine ⟨⟨tk0, _, o, rfl, h0, by rcases ho with rfl | rfl <;> decide, hnl⟩, fun hb v hv => ⟨by simp, by simp, ⟨hsig, hv, hwt hb, trivial⟩, by simp [jZ]⟩, fun m f X hp a rest ctx l v Q E hm hx hL hi hv l0 l7 R hq hE => ?_⟩
 obtain ⟨m, rfl⟩ := Nat.exists_eq_add_of_le' (by exact le2 h6 hm : 2 <= m)
 have R : qw X hp a (tk0 :: (ts ++ rest)) ctx := R
 obtain ⟨tv, p, bb⟩ := tk0
 dsimp only at h0
 subst h0
 have hr := R.hr
 refine yS ?_
 walk_at "w"
 unfold kQ
 walk_at "w"
 refine qI (zd (by walk_at "l") R fun hp₁ R1 K₁ _ => ?_)
 have hr := R1.hr
 walk_at "w"
 refine qI (wq (t := ⟨.op o, p, bb⟩) (by walk_at "l") hx (fun q => hi (hnl q)) R1 ?_)
 rcases ho with rfl | rfl
 ·walk_at "w"
  refine qI (jC (by exact le2 h6 hm) R1 fun hp₂ a₂ R2 K₂ => ?_)
  have hr := R2.hr
  walk_at "w"
  refine qI (H.rd _ X hp₂ a₂ rest ctx _ _ (by walk_at "l") hx hL R2 (fun hb hp3 a₃ R3 K₃ => ?_) fun e q hp' a' K' => hE e q hp' a' (K₁.trans (K₂.trans K')))
  walk_at "w"
  refine ⟨by walk_at "p", ?_⟩
  walk_at "w"
  refine qI (ku (n := m) (as := [qg v, qg t]) (by simp) ?_)
  walk_at "w"
  refine hq hb _ hp3 a₃ ?_ ?_ R3 (K₁.trans (K₂.trans K₃))
  ·walk_at "look"
  ·exact zK
 ·walk_at "w"
  refine qI (jC (by exact le2 h6 hm) R1 fun hp₂ a₂ R2 K₂ => ?_)
  have hr := R2.hr
  walk_at "w"
  refine qI (H.rd _ X hp₂ a₂ rest ctx _ _ (by walk_at "l") hx hL R2 (fun hb hp3 a₃ R3 K₃ => ?_) fun e q hp' a' K' => hE e q hp' a' (K₁.trans (K₂.trans K')))
  walk_at "w"
  refine ⟨by walk_at "p", ?_⟩
  walk_at "w"
  refine qI (ku (n := m) (as := [qg v, qg t]) (by simp) ?_)
  walk_at "w"
  refine hq hb _ hp3 a₃ ?_ ?_ R3 (K₁.trans (K₂.trans K₃))
  ·walk_at "look"
  ·exact zK
theorem fol_end {m f : Nat} {X : RX} {hp : Hp} {a : Nat} {rest : List Tk} {ctx : List V} {l : Nv} {v : V} {Q : Fl -> Nv -> Hp -> Prop} {E : V -> V -> Hp -> Prop} (hm : 6 <= m) (hx : jJ ctx) (hf : JJ rest ctx) (l0 : l.lookup 0 = some (.ref X.r)) (l7 : l.lookup 7 = some v) (R : qw X hp a rest ctx)
  (hq : ∀ l' hp', qw X hp' a rest ctx -> zA X hp a hp' a -> Q (.ret v) l' hp') : W (zP (f + 1) (z8 (pure (.bool true))) (kQ (run m))) l hp Q E := by
 obtain ⟨⟨tv, p, b⟩, tl, o, rfl, h1, h2, h3, h4⟩ := hf
 dsimp only at h1
 subst h1
 have hr := R.hr
 have ho := xP h2
 have hne : ∀ j ∈ xC, (o == j) = false := fun j hj => by
  have : o ≠ j := fun q => h3 (q ▸ hj)
  simpa using this
 refine yS ?_
 walk_at "w"
 unfold kQ
 walk_at "w"
 refine qI (zd (by walk_at "l") R fun hp₁ R1 K₁ _ => ?_)
 have hr := R1.hr
 walk_at "w"
 refine qI (wq (t := ⟨.op o, p, b⟩) (by walk_at "l") hx h4 R1 ?_)
 walk_at "w"
 refine yT ho (by decide) ?_
 rw [hne 75 (by decide)]
 walk_at "w"
 refine yT ho (by decide) ?_
 rw [hne 77 (by decide)]
 walk_at "w"
 refine yT ho (by decide) ?_
 rw [hne 78 (by decide)]
 walk_at "w"
 refine yT ho (by decide) ?_
 rw [hne 79 (by decide)]
 walk_at "w"
 refine yT ho (by decide) ?_
 rw [hne 80 (by decide)]
 walk_at "w"
 exact hq _ hp₁ R1 K₁
inductive wB (N L : Nat) (inb : Bool) : List Tk -> (T -> T) -> Option Err -> Prop
 | nil : wB N L inb [] (fun v => v) none
 | cons {ts F b ts' F' b'} : v5 N L inb ts F b -> wB N L inb ts' F' b' -> wB N L inb (ts ++ ts') (fun v => F' (F v)) (orB b b')
theorem wB.wf {N L inb ts F b} (h : wB N L inb ts F b) : b = none -> ∀ v, wft v -> wft (F v) := by
 induction h with
 | nil => exact fun _ v hv => hv
 | @cons ts F b ts' F' b' h1 _ ih =>
  intro hb v hv
  cases b with
  | none => exact ih hb _ (h1.wf rfl v hv)
  | some e => cases hb
theorem posts_run {N L : Nat} {inb : Bool} (hN : 6 <= N) {ts : List Tk} {F : T -> T} {b : Option Err} (h : wB N L inb ts F b) : ∀ m f X hp a rest ctx l v (Q : Fl -> Nv -> Hp -> Prop) E, N <= m -> ts.length < f -> jJ ctx -> ctx.length <= L -> (inb = true -> zr ctx) -> JJ rest ctx -> wft v -> l.lookup 0 = some (.ref X.r) -> l.lookup 7 = some (qg v) -> qw X hp a (ts ++ rest) ctx ->
  (b = none -> ∀ l' hp' a', qw X hp' a' rest ctx -> zA X hp a hp' a' -> Q (.ret (qg (F v))) l' hp') -> (∀ e, b = some e -> ∀ hp' a', zA X hp a hp' a' -> E e.1 e.2 hp') -> W (zP f (z8 (pure (.bool true))) (kQ (run m))) l hp Q E := by
 induction h with
 | nil =>
  intro m f X hp a rest ctx l v Q E hm hf hx hL hi hfo hv l0 l7 R hq hE
  obtain ⟨f, rfl⟩ := Nat.exists_eq_add_of_le' (by exact le1 (sL hf) : 1 <= f)
  exact fol_end (by exact le2 hN hm) hx hfo l0 l7 R fun l' hp' R' K => hq rfl l' hp' a R' K
 | @cons ts F b ts' F' b' h1 h2 ih =>
  intro m f X hp a rest ctx l v Q E hm hf hx hL hi hfo hv l0 l7 R hq hE
  obtain ⟨f, rfl⟩ := Nat.exists_eq_add_of_le' (by exact le1 (sL hf) : 1 <= f)
  obtain ⟨t0, tl, o, e1, _⟩ := h1.first
  rw [List.length_append] at hf
  have hpos : 1 <= ts.length := by rw [e1]; simp
  rw [List.append_assoc] at R
  refine h1.rd m f X hp a (ts' ++ rest) ctx l v Q E hm hx hL hi hv l0 l7 R (fun hb l' hp' a' w0 w7 R' K' => ?_) fun e he hp' a' K' => hE e (by rw [he]; rfl) hp' a' K'
  subst hb
  exact ih m f X hp' a' rest ctx l' (F v) Q E hm (by exact lt2 (sL hf) hpos) hx hL hi hfo (h1.wf rfl v hv) w0 w7 R' (fun hb' l₂ hp₂ a₂ R2 K₂ => hq hb' l₂ hp₂ a₂ R2 (K'.trans K₂)) fun e he hp₂ a₂ K₂ => hE e he hp₂ a₂ (K'.trans K₂)
theorem Xb {N L : Nat} {inb : Bool} (hN : 6 <= N) {ts ts' : List Tk} {t : T} {b b' : Option Err} {F : T -> T} (H : kE N L inb ts t b) (hwt : b = none -> wft t) (P : wB N L inb ts' F b') (hz : ts'.length <= 900000) (pre : List (Nat × Tk)) :
  v7 (N + 2) L inb ⟨pre, ts ++ ts', F t, orB b b'⟩ := by
 refine ⟨fun n X hp a rest ctx Q E hn hx hL hi hfo R hq hE => ?_⟩
 obtain ⟨m, rfl⟩ := Nat.exists_eq_add_of_le' (by walk_at "l" : 2 <= n)
 obtain ⟨t0, tl, rfl, k1, k2⟩ := H.first
 refine qh [0] none (kj (run (m + 1))) rfl rfl ?_
 have R : qw X hp a (t0 :: tl ++ (ts' ++ rest)) ctx := by simpa using R
 simp only [List.zip_cons_cons, List.zip_nil_left, List.zip_nil_right]
 unfold kj
 have hr := R.hr
 walk_at "w"
 refine qI (zd (by exact le2 hN hn) R fun hp₁ R1 K₁ _ => ?_)
 have fin : ∀ l, l.lookup 0 = some (.ref X.r) -> W (qF (qs (ql .reader (qD (nm 0)) [(ql .reader (qD (nm 0)) [] (run (m + 1) .primary))] (run (m + 1) .followed))) qK) l hp₁ (fun fl _ hp' => Q (flV fl) hp') E := by
  intro l l0
  have hr := R1.hr
  walk_at "w"
  refine qI (H.rd _ X hp₁ a (ts' ++ rest) ctx _ _ (by exact le1 hn) hx hL hi R1 (fun hb hp₂ a₂ R2 K₂ => ?_) fun e he hp' a' K' => hE e (by show orB b b' = _; rw [he]; rfl) hp' a' (K₁.trans K'))
  subst hb
  walk_at "w"
  refine qI (qh [0, 7] none (vx (run m)) rfl rfl ?_)
  simp only [List.zip_cons_cons, List.zip_nil_left, List.zip_nil_right]
  rw [ZG]
  refine zR ?_
  refine posts_run hN P m wf X hp₂ a₂ rest ctx _ t _ E (by exact le1 hn) (by have : wf = 1000000 := rfl; exact lt2 hz (eR this)) hx hL hi hfo (hwt rfl) (by walk_at "look") (by walk_at "look") R2 (fun hb' l' hp' a' R' K' => ?_) fun e he hp' a' K' => hE e he hp' a' (K₁.trans (K₂.trans K'))
  walk_at "w"
  exact hq hb' hp' a' R' (K₁.trans (K₂.trans K'))
 obtain ⟨tv, p, bb⟩ := t0
 refine qY (zR (Zi (yU ?_)))
 walk_at "w1"
 walk_at "w1"
 walk_at "w1"
 walk_at "w1"
 walk_at "w1"
 refine zL (fun e => ?_) (fun e => ?_)
 ·have : ∃ o', tv = .op o' := by cases tv <;> first | exact ⟨_, rfl⟩ | (simp [kOf] at e)
  obtain ⟨o', rfl⟩ := this
  walk_at "w"
  refine qI (xG (n := m) k1 ?_)
  rw [k2 o' rfl]
  walk_at "w1"
  walk_at "w1"
  walk_at "w1"
  walk_at "w1"
  walk_at "w1"
  walk_at "w1"
  walk_at "w1"
  refine jT rfl (zz (qY (zz (qY ?_))))
  refine fin _ ?_
  walk_at "look"
 ·refine zz (qY ?_)
  refine fin _ ?_
  walk_at "look"
theorem leaf_wf {t : Tv} {x : T} (hk : t.ok) (h : leaf t = some x) (hid : ∀ s, t = .id s -> s ∈ sig) (hst : ∀ s, t = .str s -> s = 180) : wft x /\ tdp x = 1 /\ tsz x = 1 := by
 cases t with
 | op o => cases h
 | eof => cases h
 | id s => cases h; exact ⟨hid s rfl, rfl, rfl⟩
 | num f => cases h; exact ⟨⟨.inr (.inl rfl), (by intro q; cases q), by simp, _, rfl, rfl, Nat.le_of_ble_eq_true rfl⟩, rfl, rfl⟩
 | str s =>
  cases h
  have := hst s rfl
  subst this
  exact ⟨⟨.inr (.inr rfl), fun _ => .inl rfl, by simp, _, rfl, by have := xF (i := 180) (by decide); simp only [zu, Bool.and_eq_true] at this; simp only [PyData.canLayAll0, this.1, Bool.and_self], by decide⟩, rfl, rfl⟩
 | key s =>
  rcases leafK_ (s := s) h with ⟨rfl, rfl⟩ | ⟨rfl, rfl⟩ | ⟨rfl, rfl⟩ | ⟨rfl, rfl⟩
  all_goals first
   | exact ⟨⟨.inl rfl, (by intro q; cases q), by simp, _, rfl, rfl, by decide⟩, rfl, rfl⟩
   | exact ⟨⟨.inr (.inl rfl), (by intro q; cases q), by simp, _, rfl, rfl, by decide⟩, rfl, rfl⟩
   | exact ⟨trivial, rfl, rfl⟩
theorem prim_leaf {L : Nat} {inb : Bool} {t0 : Tk} {x : T} (hk : t0.tv.ok) (h : leaf t0.tv = some x) : kE 6 L inb [t0] x none := by
 refine ⟨⟨t0, [], rfl, hk, fun o q => by rw [q] at h; cases h⟩, fun n X hp a rest ctx Q E hn hx hL hi R hq hE => ?_⟩
 exact k_leaf hn hx hk h R fun hp' a' R' K => hq rfl hp' a' R' K
theorem prim_bad {L : Nat} {inb : Bool} {t0 : Tk} (hk : t0.tv.ok) (h : isBad t0.tv = true) : kE 6 L inb [t0] .null (some (Jw t0.tv, .int t0.at_)) := by
 refine ⟨⟨t0, [], rfl, hk, fun o q => ?_⟩, fun n X hp a rest ctx Q E hn hx hL hi R hq hE => ?_⟩
 ·rw [q] at h
  have : o = 175 := eq_of_beq (a := o) h
  subst this; rfl
 ·exact k_badTok hn hk h R fun hp' K => hE _ rfl hp' a K
theorem prim_br {N L : Nat} {inb : Bool} {ts : List Tk} {t : T} {b : Option Err} {tk0 tk1 : Tk} (hLL : L + 1 <= 2 ^ 20) (H : Q1 N (L + 1) true 1 ts t b) (e0 : tk0.tv = .op 75) (e1 : tk1.tv = .op 114) : kE (N + 7) L inb (tk0 :: (ts ++ [tk1])) (.call [.name 75, t] [.none, .none]) b := by
 refine ⟨⟨tk0, _, rfl, by rw [e0]; show 75 ∈ zE; decide, fun o q => by rw [e0] at q; cases q; rfl⟩, fun n X hp a rest ctx Q E hn hx hL hi R hq hE => ?_⟩
 obtain ⟨m, rfl⟩ := Nat.exists_eq_add_of_le' (by walk_at "l" : 1 <= n)
 have R : qw X hp a (tk0 :: (ts ++ (tk1 :: rest))) ctx := by simpa using R
 refine k_primBr (by walk_at "l") e0 R fun hp₁ R1 K₁ => ?_
 exact ye (N := N) (by exact le1 hn) hx hL hLL H e0 e1 R1 (fun hb hp₂ a₂ R2 K₂ => hq hb hp₂ a₂ R2 (K₁.trans K₂)) fun e q hp' a' K' => hE e q hp' a' (K₁.trans K')
section
variable {hp : Hp} {E : V -> V -> Hp -> Prop} {l : Nv}
theorem W_itemR0 {Q : V -> Nv -> Hp -> Prop} {j : Nat} {xs : List V} {w : V} (e : hp[j]? = some (.lst (w :: xs))) (h : Q w l hp) : W (zS (.ref j) (.int 0)) l hp Q E := v4 (k := 0) e rfl (by decide) h
theorem W_itemR1 {Q : V -> Nv -> Hp -> Prop} {j : Nat} {xs : List V} {v w : V} (e : hp[j]? = some (.lst (v :: w :: xs))) (h : Q w l hp) : W (zS (.ref j) (.int 1)) l hp Q E := v4 (k := 1) e rfl (by decide) h
theorem W_itemR2 {Q : V -> Nv -> Hp -> Prop} {j : Nat} {xs : List V} {u v w : V} (e : hp[j]? = some (.lst (u :: v :: w :: xs))) (h : Q w l hp) : W (zS (.ref j) (.int 2)) l hp Q E := v4 (k := 2) e rfl (by decide) h
end
structure GX where
 pc : Nat
 fc : Nat
 wc : Nat
 tc : Nat
 figs : List Int
 wf : List Int
noncomputable def XC : Option Err -> V | none => .none | some (k, p) => .tup [k, p]
structure GS where
 k : Nat
 mix : Int
 inner : Nat
 bad : Option Err
 room : Int
noncomputable def ErrOk (e : Err) : Prop := ∃ i p, i < 204 /\ e = (.str (nm i), .int p)
structure GAt (G : GX) (hp : Hp) (s : GS) (toks : List Tk) : Prop where
 pool : hp[G.pc]? = some (.lst [.ref G.fc, .int (s.k : Int), .int s.mix])
 figs : hp[G.fc]? = some (.lst (G.figs.map .int))
 world : hp[G.wc]? = some (.dct (FL [(13, .ref G.tc), (145, .int (s.inner : Int)), (151, XC s.bad), (172, .int s.room), (127, .lst (G.wf.map .int))]))
 toks : hp[G.tc]? = some (.lst (toks.map jr))
 ne : G.pc ≠ G.fc /\ G.pc ≠ G.tc /\ G.fc ≠ G.tc
 sz : G.figs.length <= 2 ^ 20 /\ 0 < G.wf.length /\ G.wf.length <= 100
 eok : ∀ e, s.bad = some e -> ErrOk e
structure qx (G : GX) (hp hp' : Hp) : Prop where
 len : hp.length <= hp'.length
 old : ∀ j, j < hp.length -> j ≠ G.pc -> j ≠ G.wc -> j ≠ G.tc -> hp'[j]? = hp[j]?
theorem qx.refl {G hp} : qx G hp hp := ⟨Nat.le_refl _, fun _ _ _ _ _ => rfl⟩
theorem qx.trans {G hp hp₁ hp₂} (x : qx G hp hp₁) (y : qx G hp₁ hp₂) : qx G hp hp₂ :=
 ⟨Nat.le_trans x.len y.len, fun j h1 h2 h3 h4 => (y.old j (Nat.lt_of_lt_of_le h1 x.len) h2 h3 h4).trans (x.old j h1 h2 h3 h4)⟩
theorem qx.upd {G hp j c hp'} (u : Upd hp j c hp') (h : j = G.pc \/ j = G.wc \/ j = G.tc) : qx G hp hp' :=
 ⟨Nat.le_of_eq u.len.symm, fun i _ h1 h2 h3 => u.ne i (by rintro rfl; rcases h with h | h | h <;> contradiction)⟩
theorem qx.new {G hp c hp'} (u : New hp c hp') : qx G hp hp' := ⟨by rw [u.len]; exact le0, fun i h _ _ _ => u.old i h⟩
theorem GAt.pool' {G hp s toks j c hp'} (g : GAt G hp s toks) (u : Upd hp G.pc (.lst [.ref G.fc, .int (j : Nat), .int c]) hp') : GAt G hp' { s with k := j, mix := c } toks :=
 ⟨u.at_, (u.ne _ (Ne.symm g.ne.1)).trans g.figs, u.keep g.world g.pool (by intro q; cases q), (u.ne _ (Ne.symm g.ne.2.1)).trans g.toks, g.ne, g.sz, g.eok⟩
theorem GAt.new {G hp s toks c hp'} (g : GAt G hp s toks) (u : New hp c hp') : GAt G hp' s toks := ⟨u.keep g.pool, u.keep g.figs, u.keep g.world, u.keep g.toks, g.ne, g.sz, g.eok⟩
section
variable {n : Nat} {hp : Hp} {Q : V -> Hp -> Prop} {E : V -> V -> Hp -> Prop} {G : GX} {s : GS} {toks : List Tk}
theorem W_mulR {l : Nv} {Q : V -> Nv -> Hp -> Prop} {x y : Int} (hy : Builtin.Int.intBits y <= 64) (h : Q (.int (x * y)) l hp) : W (QR .Mult (.int x) (.int y)) l hp Q E :=
 z9 _ _ (fun lc _ => by show (if Builtin.Int.intBits x <= 64 \/ Builtin.Int.intBits y <= 64 then _ else _) = _; rw [if_pos (.inr hy)]) h
set_option tactic.hygienic true in
theorem zt {b : Int} (hn : 1 <= n) (hb : 0 < b) (g : GAt G hp s toks) (h : ∀ v k m hp', 0 <= v -> v < b -> GAt G hp' { s with k := k, mix := m } toks -> qx G hp hp' -> Q (.int v) hp') : Call n .lawPick [.ref G.pc, .int b] hp Q E := by
 obtain ⟨m, rfl⟩ := Nat.exists_eq_add_of_le' (by walk_at "l" : 1 <= n)
 refine qh [136, 138] none (wu (run m)) rfl rfl ?_
 simp only [List.zip_cons_cons, List.zip_nil_left, List.zip_nil_right]
 unfold wu
 have hpool := g.pool
 have hfigs := g.figs
 have z20 : (2 : Nat) ^ 20 = 1048576 := by decide
 have hsz := g.sz.1
 walk_at "g"
 refine wX hfigs (by rw [List.length_map]; lia) ?_
 walk_at "g"
 ·rename_i q
  rw [List.length_map] at q
  have hlt : s.k < G.figs.length := by lia
  refine v4 hfigs (k := s.k) (w := .int G.figs[s.k]) (by rw [List.getElem?_map, List.getElem?_eq_getElem hlt]; rfl) (by walk_at "l") ?_
  walk_at "g"
  refine Qu hpool (by decide) (by simp) (by walk_at "p") fun hp₁ u₁ => ?_
  walk_at "g"
  have g1 := g.pool' (j := s.k + 1) (c := s.mix) (by simpa using u₁)
  refine Zj (by walk_at "l") ?_
  walk_at "g"
  exact h _ _ _ hp₁ (Int.fmod_nonneg_of_pos _ hb) (Int.fmod_lt_of_pos _ hb) g1 (.upd u₁ (.inl rfl))
 ·walk_at "g"
  refine wX hfigs (by rw [List.length_map]; lia) ?_
  walk_at "g"
  ·refine Zj (by walk_at "l") ?_
   walk_at "g"
   exact h _ s.k s.mix hp (Int.fmod_nonneg_of_pos _ hb) (Int.fmod_lt_of_pos _ hb) g .refl
  ·refine W_mulR (by decide) ?_
   walk_at "g"
   refine Zj (by decide) ?_
   walk_at "g"
   refine Qu hpool (by decide) (by simp) (by walk_at "p") fun hp₁ u₁ => ?_
   have hp1 := u₁.at_
   simp only [Int.reduceToNat, List.set_cons_succ, List.set_cons_zero] at hp1
   have g1 := g.pool' (j := s.k) (c := (s.mix * 37 + 11).fmod 1009) (by simpa using u₁)
   have hpool := g1.pool
   walk_at "g"
   refine Zj (by walk_at "l") ?_
   walk_at "g"
   exact h _ _ _ hp₁ (Int.fmod_nonneg_of_pos _ hb) (Int.fmod_lt_of_pos _ hb) g1 (.upd u₁ (.inl rfl))
theorem W_mulL {l : Nv} {Q : V -> Nv -> Hp -> Prop} {x y : Int} (hx : Builtin.Int.intBits x <= 64) (h : Q (.int (x * y)) l hp) : W (QR .Mult (.int x) (.int y)) l hp Q E :=
 z9 _ _ (fun lc _ => by show (if Builtin.Int.intBits x <= 64 \/ Builtin.Int.intBits y <= 64 then _ else _) = _; rw [if_pos (.inl hx)]) h
theorem GAt.put {t : Tk} {hp' : Hp} (g : GAt G hp s toks) (u : Upd hp G.tc (.lst (toks.map jr ++ [jr t])) hp') : GAt G hp' s (toks ++ [t]) :=
 ⟨(u.ne _ g.ne.2.1).trans g.pool, (u.ne _ g.ne.2.2).trans g.figs, u.keep g.world g.toks (by intro q; cases q), by rw [u.at_, List.map_append]; rfl, g.ne, g.sz, g.eok⟩
set_option tactic.hygienic true in
theorem zc {tv : Tv} (hn : 2 <= n) (hz : toks.length <= 1000000) (g : GAt G hp s toks) (h : ∀ nl k m hp', (nl = true -> 0 < s.inner) -> GAt G hp' { s with k := k, mix := m } (toks ++ [⟨tv, 10 * toks.length, nl⟩]) -> qx G hp hp' -> Q (.int (10 * toks.length)) hp') : Call n .lawPut [.ref G.pc, .ref G.wc, .str (nm (kOf tv)), vOf tv] hp Q E := by
 obtain ⟨m, rfl⟩ := Nat.exists_eq_add_of_le' (by walk_at "l" : 2 <= n)
 refine qh [136, 143, 1, 7] none (x5 (run (m + 1))) rfl rfl ?_
 simp only [List.zip_cons_cons, List.zip_nil_left, List.zip_nil_right]
 unfold x5
 have hw := g.world
 have fin : ∀ nl k mm hp₁ l, (nl = true -> 0 < s.inner) -> GAt G hp₁ { s with k := k, mix := mm } toks -> qx G hp hp₁ -> l.lookup 143 = some (.ref G.wc) -> l.lookup 1 = some (.str (nm (kOf tv))) -> l.lookup 7 = some (vOf tv) -> l.lookup 144 = some (.int (10 * toks.length)) -> l.lookup 9 = some (.bool nl) ->
   W (qF (qv (ze (qV (qD (nm 143)) (pure (.str (nm 13)))) (qa [(qD (nm 1)), (qD (nm 7)), (qD (nm 144)), (qD (nm 9))] >>= run (m + 1) .cToken))) (qF (qs (qD (nm 144))) qK)) l hp₁ (fun fl _ hp' => Q (flV fl) hp') E := by
  intro nl k mm hp₁ l hnl g1 K1 w1 w2 w3 w4 w5
  have hw := g1.world
  have ht := g1.toks
  walk_at "g"
  refine qI (Jp (n := m) (k := kOf tv) (v := 0) ?_)
  refine zQ ht (by rw [zY, List.length_map]; exact le1 hz) fun hp₂ u₂ => ?_
  walk_at "g"
  exact h nl k mm hp₂ hnl (g1.put (t := ⟨tv, 10 * toks.length, nl⟩) u₂) (K1.trans (.upd u₂ (.inr (.inr rfl))))
 walk_at "g"
 refine wX g.toks (by rw [List.length_map]; lia) ?_
 rw [List.length_map]
 refine W_mulL (by decide) ?_
 walk_at "g"
 ·rename_i q
  refine qI (zt (by walk_at "l") (by decide) g fun v k mm hp₁ _ _ g1 K1 => ?_)
  refine qr (X4 (qY ?_))
  refine fin (v == 3) k mm hp₁ _ (fun _ => by lia) g1 K1 ?_ ?_ ?_ ?_ ?_ <;> walk_at "look"
 ·rename_i q
  have ht := g.toks
  walk_at "g"
  refine qI (Jp (n := m) (k := kOf tv) (v := 0) ?_)
  refine zQ ht (by rw [zY, List.length_map]; exact le1 hz) fun hp₂ u₂ => ?_
  walk_at "g"
  exact h _ s.k s.mix hp₂ (fun z => by simp at z; exact lt1 (sL z)) (g.put (t := ⟨tv, 10 * toks.length, decide (0 < (s.inner : Int))⟩) u₂) (.upd u₂ (.inr (.inr rfl)))
theorem GAt.badSet {b : Option Err} {hp' : Hp} (g : GAt G hp s toks) (hb : ∀ e, b = some e -> ErrOk e) (u : Upd hp G.wc (.dct (FL [(13, .ref G.tc), (145, .int (s.inner : Int)), (151, XC b), (172, .int s.room), (127, .lst (G.wf.map .int))])) hp') : GAt G hp' { s with bad := b } toks :=
 ⟨u.keep g.pool g.world (by intro q; cases q), u.keep g.figs g.world (by intro q; cases q), u.at_, u.keep g.toks g.world (by intro q; cases q), g.ne, g.sz, hb⟩
theorem Qd {i : Nat} {p : Int} (hn : 1 <= n) (g : GAt G hp s toks) (h : ∀ hp', GAt G hp' { s with bad := vS s.bad (.str (nm i), .int p) } toks -> qx G hp hp' -> Q .none hp') (hi : i < 204 := by decide) : Call n .lawBad [.ref G.wc, .str (nm i), .int p] hp Q E := by
 obtain ⟨m, rfl⟩ := Nat.exists_eq_add_of_le' (by walk_at "l" : 1 <= n)
 refine qh [143, 1, 144] none (x6 (run m)) rfl rfl ?_
 simp only [List.zip_cons_cons, List.zip_nil_left, List.zip_nil_right]
 unfold x6
 have hw := g.world
 obtain ⟨k, mix, inner, bad, room⟩ := s
 walk_at "g"
 cases bad with
 | none =>
  refine jS rfl ?_
  walk_at "g"
  refine ⟨by walk_at "p", ?_⟩
  walk_at "g"
  refine vz hw (by walk_at "p") fun hp₁ u₁ => ?_
  walk_at "g"
  exact h hp₁ (g.badSet (b := some (.str (nm i), .int p)) (fun e q => by cases q; exact ⟨i, p, hi, rfl⟩) u₁) (.upd u₁ (.inr (.inl rfl)))
 | some e =>
  refine jT rfl ?_
  walk_at "g"
  exact h hp g .refl
end
noncomputable def addN : Nv -> Nv -> Nv
 | kv, [] => kv
 | kv, (x, v) :: r => addN (setN x v kv) r
theorem KN : ∀ (more kv : Nv), Zh (FL kv) (FL more) = FL (addN kv more)
 | [], kv => rfl
 | (x, v) :: r, kv => by
  show Zh (zT (nm x) v (FL kv)) (FL r) = _
  rw [XJ, KN r]; rfl
noncomputable def jR : Nv := zb.map fun o => (o, V.int (lvl o))
structure Grow (hp hp' : Hp) : Prop where
 len : hp.length <= hp'.length
 old : ∀ j, j < hp.length -> hp'[j]? = hp[j]?
theorem Grow.keep {hp hp' : Hp} (g : Grow hp hp') {i : Nat} {c : jE} (h : hp[i]? = some c) : hp'[i]? = some c := (g.old i (List.getElem?_eq_some_iff.mp h).1).trans h
theorem GAt.grow {G hp s toks hp'} (g : GAt G hp s toks) (u : Grow hp hp') : GAt G hp' s toks := ⟨u.keep g.pool, u.keep g.figs, u.keep g.world, u.keep g.toks, g.ne, g.sz, g.eok⟩
theorem qx.grow {G hp hp'} (u : Grow hp hp') : qx G hp hp' := ⟨u.len, fun j h _ _ _ => u.old j h⟩
section
variable {n : Nat} {hp : Hp} {Q : V -> Hp -> Prop} {E : V -> V -> Hp -> Prop} {G : GX} {s : GS} {toks : List Tk}
theorem W_eUpdate {l : Nv} {Q : V -> Nv -> Hp -> Prop} {o e : M V} (h : W o l hp (fun v l hp => W (xj v) l hp (fun _ l hp => W e l hp (fun w l hp => W (wn v w) l hp Q E) E) E) E) : W (Zz o e) l hp Q E :=
 qS (qk h (fun _ _ _ q => qS (qk q (fun _ _ _ q => qS q) fun _ _ _ e => e)) fun _ _ _ e => e)
theorem W_isDict {l : Nv} {Q : Unit -> Nv -> Hp -> Prop} {j : Nat} {kv : Fs} (e : hp[j]? = some (.dct kv)) (h : Q () l hp) : W (xj (.ref j)) l hp Q E := z9 _ _ (fun lc _ => by unfold xj; simp [zv, Zp, dctC, e]) h
theorem W_pUpdate {l : Nv} {Q : V -> Nv -> Hp -> Prop} {i j : Nat} {kv more : Nv} (e1 : hp[j]? = some (.dct (FL kv))) (e2 : hp[i]? = some (.dct (FL more))) (hij : i ≠ j) (hz : kv.length + more.length <= zh) (h : ∀ hp', Upd hp j (.dct (FL (addN kv more))) hp' -> Q .none l hp') : W (wn (.ref j) (.ref i)) l hp Q E :=
 z9 _ _ (fun lc _ => by
  unfold wn
  simp only [zv, Zp, Option.bind_some, dctC, e1, e2]
  rw [if_pos ⟨hij, by simpa [FL] using hz⟩, KN]) (h _ (.set e1))
theorem Qb (hn : 1 <= n) (h : ∀ hp' j, Grow hp hp' -> hp.length <= j -> hp'[j]? = some (.dct (FL jR)) -> Q (.ref j) hp') : Call n .lawLevels [] hp Q E := by
 obtain ⟨m, rfl⟩ := Nat.exists_eq_add_of_le' (by walk_at "l" : 1 <= n)
 refine qh [] none (vD (run m)) rfl rfl ?_
 unfold vD
 refine zR (Qw (JI (ks := [58, 125, 43, 44, 45, 46, 57, 47, 48, 49, 50]) ?_))
 walk_at "g"
 refine ⟨⟨rfl, by decide⟩, fun hp₁ u₁ => ?_⟩
 have h1 := u₁.at_
 refine qY (zR (Xx (W_eUpdate ?_)))
 walk_at "g"
 refine W_isDict h1 ?_
 refine JI (ks := [38, 40, 39, 41, 36, 37, 51, 52, 53, 54, 148, 34, 149, 150]) ?_
 walk_at "g"
 refine ⟨⟨rfl, by decide⟩, fun hp₂ u₂ => ?_⟩
 refine W_pUpdate (u₂.keep h1) u₂.at_ (by rw [u₁.len]; exact Nat.ne_of_gt (lt0)) (by walk_at "p") fun hp3 u₃ => ?_
 walk_at "g"
 refine h hp3 hp.length ⟨by rw [u₃.len, u₂.len, u₁.len]; exact le0, fun j hj => (u₃.ne j (Nat.ne_of_lt hj)).trans ((u₂.old j (by rw [u₁.len]; exact lt1 (sL hj))).trans (u₁.old j hj))⟩ (Nat.le_refl _) ?_
 rw [u₃.at_]
 rfl
end
noncomputable abbrev nms (js : List Nat) : List V := js.map fun j => V.str (nm j)
theorem Xa : ∀ js : List Nat, pds (nms js) = some (js.map fun j => PyData.str (nm j))
 | [] => rfl
 | j :: r => by
  show pds (V.str (nm j) :: nms r) = _
  simp only [pds, pd, Xa r]; rfl
theorem lay_nms (js : List Nat) (h : ∀ j ∈ js, j < 204) : PyData.canLayAll0 (js.map fun j => PyData.str (nm j)) = true /\ PyData.depthAll (js.map fun j => PyData.str (nm j)) <= 1 := by
 induction js with
 | nil => exact ⟨rfl, Nat.zero_le _⟩
 | cons j r ih =>
  have k := ih fun x hx => h x (.tail _ hx)
  have := xF (h j (.head _))
  simp only [zu, Bool.and_eq_true] at this
  exact ⟨by simp only [List.map_cons, PyData.canLayAll0, this.1, k.1, Bool.and_self], Nat.max_le.mpr ⟨Nat.zero_le _, k.2⟩⟩
theorem pin_nms {hp : Hp} {i : Nat} (hi : i < 204) (js : List Nat) (hj : ∀ j ∈ js, j < 204) : jq hp .In (.str (nm i)) (.lst (nms js)) = some (decide (i ∈ js)) := by
 obtain ⟨h1, h2⟩ := lay_nms js hj
 have e1 := xF hi
 have e2 : zu (.list (js.map fun j => PyData.str (nm j))) = true := by
  unfold zu
  rw [Bool.and_eq_true]
  exact ⟨h1, decide_eq_true (by simp only [PyData.depth]; exact le1 h2)⟩
 simp only [jq]
 unfold pin
 simp only [pd, wD, Xa, Option.map_some, e1, e2, Bool.and_self, if_true]
 congr 1
 rw [List.any_map]
 have : (js.any ((fun y => PyData.eqv y (PyData.str (nm i))) ∘ fun j => PyData.str (nm j))) = js.any fun j => j == i := by
  congr 1
  funext j
  simp only [Function.comp, PyData.eqv, QT]
 rw [this]
 by_cases q : i ∈ js
 ·rw [decide_eq_true q, List.any_eq_true]; exact ⟨i, q, by simp⟩
 ·rw [decide_eq_false q, Bool.eq_false_iff]
  intro z
  rw [List.any_eq_true] at z
  obtain ⟨x, hx, e⟩ := z
  exact q ((by simpa using e : x = i) ▸ hx)
theorem wy {hp : Hp} {E : V -> V -> Hp -> Prop} {l : Nv} {Q : Bool -> Nv -> Hp -> Prop} {i : Nat} (js : List Nat) (hi : i < 204) (hj : ∀ j ∈ js, j < 204) (h : Q (decide (i ∈ js)) l hp) : W (kq .In (.str (nm i)) (.lst (nms js))) l hp Q E := zU (pin_nms hi js hj) h
noncomputable def j9 : T -> Nat | .name _ => 4 | .vec k _ => k | .null => 64 | .missing => 115 | .call _ _ => 139
theorem yP {t : T} (h : wft t) : j9 t < 204 := by
 cases t with
 | vec k items => obtain ⟨hk, _⟩ := h; rcases hk with rfl | rfl | rfl <;> simp only [j9] <;> exact lt0
 | _ => simp only [j9]; exact lt0
theorem Qh {s : Nat} (h : wft (.name s)) : s < 204 := by
 have h : s ∈ sig := h
 exact (by decide : ∀ x ∈ sig, x < 204) s h
theorem XI {t : T} {l : Nv} {hp : Hp} {Q : V -> Nv -> Hp -> Prop} {E : V -> V -> Hp -> Prop} (h : Q (.str (nm (j9 t))) l hp) : W (zS (qp t) (.int 0)) l hp Q E := by
 cases t <;> (simp only [qp]; exact KT h)
section
variable {n : Nat} {hp : Hp} {Q : V -> Hp -> Prop} {E : V -> V -> Hp -> Prop} {G : GX} {s : GS} {toks : List Tk}
theorem tup_two (o : Nat) (l r : T) : qp (.call [.name o, l, r] [.none, .none, .none]) = .tup [.str (nm 139), .lst [.tup [.str (nm 4), .str (nm o)], qp l, qp r], .lst [.none, .none, .none]] := rfl
theorem Jo {o : Nat} {l r : T} {p : Int} (hn : 4 <= n) (ho : o ∈ zb) (hl : wft l) (hr : wft r) (hz : tsz r <= 4000000) (g : GAt G hp s toks)
  (h1 : ∀ t, jD o l r = some t -> ∀ hp', GAt G hp' s toks -> qx G hp hp' -> Q (qp t) hp') (h2 : jD o l r = none -> ∀ hp', GAt G hp' { s with bad := vS s.bad (vn p) } toks -> qx G hp hp' -> Q (qp r) hp') : Call n .lawJoined [.ref G.wc, .str (nm o), qp l, qp r, .int p] hp Q E := by
 obtain ⟨m, rfl⟩ := Nat.exists_eq_add_of_le' (by walk_at "l" : 4 <= n)
 refine qh [143, 98, 153, 152, 144] none (vE (run (m + 3))) rfl rfl ?_
 have ho' : o < 204 := xP (List.mem_append_left _ ho)
 simp only [List.zip_cons_cons, List.zip_nil_left, List.zip_nil_right]
 unfold vE
 unfold jD at h1 h2
 walk_at "g"
 refine ⟨by walk_at "p", ?_⟩
 refine wy [45, 46] ho' (by decide) ?_
 refine Zv (fun e => ?_) (fun e => ?_)
 ·walk_at "g"
  refine xR ho' (by decide) ?_
  refine zL (fun q => ?_) (fun q => ?_)
  ·have q : o = 45 := by simpa using q
   rw [if_pos q] at h1
   walk_at "g"
   refine ⟨by walk_at "p", ?_⟩
   walk_at "g"
   refine ⟨by walk_at "p", ?_⟩
   walk_at "g"
   refine ⟨by walk_at "p", ?_⟩
   walk_at "g"
   refine ⟨by walk_at "p", ?_⟩
   exact h1 _ rfl hp g .refl
  ·have q : ¬ o = 45 := by simpa using q
   have q2 : o = 46 := by simpa [q] using e
   rw [if_neg q, if_pos q2] at h1
   walk_at "g"
   refine ⟨by walk_at "p", ?_⟩
   walk_at "g"
   refine ⟨by walk_at "p", ?_⟩
   walk_at "g"
   refine ⟨by walk_at "p", ?_⟩
   walk_at "g"
   refine ⟨by walk_at "p", ?_⟩
   exact h1 _ rfl hp g .refl
 have n45 : ¬ o = 45 := fun q => e (by simp [q])
 have n46 : ¬ o = 46 := fun q => e (by simp [q])
 rw [if_neg n45, if_neg n46] at h1 h2
 walk_at "g"
 refine JF ho' (by decide) ?_
 refine zL (fun q => ?_) (fun q => ?_)
 ·have q : ¬ o = 34 := by simpa using q
  rw [if_neg q] at h1
  walk_at "g"
  refine ⟨by walk_at "p", ?_⟩
  walk_at "g"
  refine ⟨by walk_at "p", ?_⟩
  walk_at "g"
  refine ⟨by walk_at "p", ?_⟩
  walk_at "g"
  refine ⟨by walk_at "p", ?_⟩
  exact h1 _ rfl hp g .refl
 have q : o = 34 := by simpa using q
 rw [if_pos q] at h1 h2
 walk_at "g"
 refine ⟨by walk_at "p", ?_⟩
 walk_at "g"
 refine qI (Qb (by walk_at "l") fun hp₁ j u₁ _ hj => ?_)
 have g₁ := g.grow u₁
 have K₁ : qx G hp hp₁ := .grow u₁
 refine W_listD (kv := FL jR) (by simp only [zl, qo, hj]) (by simp only [dictAt, hj]) (by refine pLe ?_; decide) ?_
 refine jP (xs := nms [75, 77, 78, 79, 80, 56]) (ys := nms zb) rfl rfl (by refine pLe ?_; decide) ?_
 have ew : nms [75, 77, 78, 79, 80, 56] ++ nms zb = nms words := rfl
 rw [ew]
 walk_at "g"
 refine XI ?_
 walk_at "g"
 refine JF (yP hr) (by decide) ?_
 refine zL (fun q => ?_) (fun q => ?_)
 ·walk_at "g"
  refine qI (Qd (by walk_at "l") g₁ fun hp₂ g₂ K₂ => ?_)
  walk_at "g"
  refine h2 ?_ hp₂ g₂ (K₁.trans K₂)
  cases r with
  | call is gs => simp [j9] at q
  | _ => rfl
 ·cases r with
  | call is gs =>
   obtain ⟨q1, q2, q3, q4⟩ := hr
   cases is with
   | nil => exact absurd rfl q1
   | cons x is =>
    cases gs with
    | nil => exact absurd rfl q2
    | cons y gs =>
     simp only [qp, zy]
     walk_at "g"
     refine XI ?_
     walk_at "g"
     have bad : jf (.call (x :: is) (y :: gs)) = false -> ∀ hp₂, GAt G hp₂ { s with bad := vS s.bad (vn p) } toks -> qx G hp₁ hp₂ -> Q (.tup [.str (nm 139), .lst (qp x :: zy is), .lst (y :: gs)]) hp₂ := by
      intro e hp₂ g₂ K₂
      exact h2 (by dsimp only; rw [e]; rfl) hp₂ g₂ (K₁.trans K₂)
     have good : jf (.call (x :: is) (y :: gs)) = true -> Q (qp (.call (x :: l :: is) (.none :: .none :: gs))) hp₁ := by
      intro e
      exact h1 _ (by dsimp only; rw [e]; rfl) hp₁ g₁ K₁
     simp only [qp, zy] at good
     have hx : wft x := q3.1
     have hlen : (zy is).length = is.length := by rw [vN, List.length_map]
     have q5 : is.length <= 4000000 /\ gs.length <= 4000000 := by
      have := xW is
      have hz : 1 + (gs.length + 1) + (1 + tsz x + j5 is) <= 4000000 := hz
      exact ⟨le2 this hz, le1 hz⟩
     refine xR (yP hx) (by decide) ?_
     by_cases hn4 : ∃ sn, x = .name sn
     ·obtain ⟨sn, rfl⟩ := hn4
      refine jS rfl ?_
      simp only [qp] at bad good ⊢
      walk_at "g"
      refine wy words (Qh hx) (by decide) ?_
      refine Zv (fun q => ?_) (fun q => ?_)
      ·walk_at "g"
       refine qI (Qd (by walk_at "l") g₁ fun hp₂ g₂ K₂ => ?_)
       walk_at "g"
       exact bad (by simp only [jf, yO, ZT, decide_eq_true q, Bool.not_true]) hp₂ g₂ K₂
      walk_at "g"
      refine ⟨by walk_at "p", ?_⟩
      walk_at "g"
      refine wx (xs := _ :: zy is) rfl (by refine pLe ?_; simp only [List.length_cons]; exact le2 (eL hlen) q5.1) ?_
      refine jP rfl rfl (by refine pLe ?_; simp only [List.length_cons, List.length_nil, List.drop_succ_cons, List.drop_zero]; exact le2 (eL hlen) q5.1) ?_
      walk_at "g"
      refine ⟨by walk_at "p", ?_⟩
      walk_at "g"
      refine wx (xs := y :: gs) rfl (by refine pLe ?_; simp only [List.length_cons]; exact le1 q5.2) ?_
      refine jP rfl rfl (by refine pLe ?_; simp only [List.length_cons, List.length_nil, List.drop_succ_cons, List.drop_zero]; exact le1 q5.2) ?_
      walk_at "g"
      refine ⟨by walk_at "p", ?_⟩
      walk_at "g"
      exact good (by simp only [jf, yO, ZT, decide_eq_false q, Bool.not_false])
     ·have e4 : (j9 x == 4) = false := by
       cases x with
       | name sn => exact absurd ⟨sn, rfl⟩ hn4
       | vec k items => obtain ⟨hk, _⟩ := hx; simp only [j9]; rcases hk with rfl | rfl | rfl <;> rfl
       | _ => rfl
      have e5 : jf (.call (x :: is) (y :: gs)) = true := by
       cases x with
       | name sn => exact absurd ⟨sn, rfl⟩ hn4
       | _ => rfl
      refine jT e4 ?_
      walk_at "g"
      refine ⟨by walk_at "p", ?_⟩
      walk_at "g"
      refine wx (xs := _ :: zy is) rfl (by refine pLe ?_; simp only [List.length_cons]; exact le2 (eL hlen) q5.1) ?_
      refine jP rfl rfl (by refine pLe ?_; simp only [List.length_cons, List.length_nil, List.drop_succ_cons, List.drop_zero]; exact le2 (eL hlen) q5.1) ?_
      walk_at "g"
      refine ⟨by walk_at "p", ?_⟩
      walk_at "g"
      refine wx (xs := y :: gs) rfl (by refine pLe ?_; simp only [List.length_cons]; exact le1 q5.2) ?_
      refine jP rfl rfl (by refine pLe ?_; simp only [List.length_cons, List.length_nil, List.drop_succ_cons, List.drop_zero]; exact le1 q5.2) ?_
      walk_at "g"
      refine ⟨by walk_at "p", ?_⟩
      walk_at "g"
      exact good e5
  | vec k items => simp [j9] at q; obtain ⟨hk, _⟩ := hr; lia
  | _ => simp [j9] at q
end
noncomputable def yk : Stk -> List T -> Option Err -> q0 -> Stk × List T × Option Err
 | S, D, b, [] => (S, D, b)
 | S, D, b, (o, tk, seg) :: tail => yk (zO seg.pre ((o, rlv (lvl o), tk.at_) :: (qz o tk.at_ S D b).1)) (seg.t :: (qz o tk.at_ S D b).2.1) (orB (qz o tk.at_ S D b).2.2 seg.b) tail
theorem ops_runT {tail : q0} : ∀ {S D b}, ops S D b tail = jK (yk S D b tail).1 (yk S D b tail).2.1 (yk S D b tail).2.2 := by
 induction tail with
 | nil => intro S D b; rfl
 | cons p tail ih => intro S D b; unfold ops yk; exact ih
theorem JY (op sp D b b') : (jp op sp D b).1 = (jp op sp D b').1 := by
 unfold jp
 split
 ·rfl
 ·split
  ·rfl
  ·split
   ·rfl
   ·split <;> rfl
theorem yb (o spot) (S : Stk) : ∀ (D b b'), (qz o spot S D b).1 = (qz o spot S D b').1 /\ (qz o spot S D b).2.1 = (qz o spot S D b').2.1 := by
 induction S with
 | nil => intro D b b'; exact ⟨rfl, rfl⟩
 | cons p S ih =>
  intro D b b'
  obtain ⟨op, r, sp⟩ := p
  unfold qz
  split
  ·rw [JY op sp D b b']
   exact ih _ _ _
  ·exact ⟨rfl, rfl⟩
theorem Ki (S : Stk) : ∀ (D b b'), (jK S D b).1 = (jK S D b').1 := by
 induction S with
 | nil => intro D b b'; rfl
 | cons p S ih =>
  intro D b b'
  unfold jK
  rw [JY p.1 p.2.2 D b b']
  exact ih _ _ _
theorem ops_any (tail : q0) : ∀ (S D b b'), (ops S D b tail).1 = (ops S D b' tail).1 := by
 induction tail with
 | nil => intro S D b b'; exact Ki S D b b'
 | cons p tail ih =>
  intro S D b b'
  unfold ops
  rw [(yb p.1 p.2.1.at_ S D b b').1, (yb p.1 p.2.1.at_ S D b b').2]
  exact ih _ _ _ _
theorem shift_orB {pre seg tail} {b : Option Err} : (ops (zO pre []) [seg.t] (orB b seg.b) tail).1 = (kG [] [] none pre seg tail).1 /\ (ops (zO pre []) [seg.t] (orB b seg.b) tail).2 = orB b (kG [] [] none pre seg tail).2 := by
 refine ⟨ops_any _ _ _ _ _, ?_⟩
 cases b with
 | none => rfl
 | some e => exact yq
noncomputable def Zs : List Nat := [51, 52, 56, 57, 58]
noncomputable def nb : Stk -> Nat
 | [] => 0
 | (_, _, sp) :: r => (if sp < 0 then 0 else 1) + nb r
noncomputable def szD : List T -> Nat
 | [] => 0
 | t :: r => tsz t + szD r
structure je (S : Stk) (D : List T) (Z B c : Nat) : Prop where
 ops : ∀ x ∈ S, (x.2.2 < 0 -> x.1 ∈ Zs) /\ (¬ x.2.2 < 0 -> x.1 ∈ zb)
 wf : ∀ t ∈ D, wft t
 sz : szD D + 10 * S.length <= Z
 dp : ∀ t ∈ D, tdp t + S.length <= B + c
 sl : S.length <= c
theorem tsz_pos (t : T) : 1 <= tsz t := by cases t <;> simp only [tsz] <;> exact le0
theorem XP : ∀ D : List T, D.length <= szD D
 | [] => Nat.le_refl _
 | t :: r => by have := XP r; have := tsz_pos t; simp only [szD, List.length_cons]; lia
theorem je.len {S D Z B c} (h : je S D Z B c) : S.length <= Z /\ D.length <= Z := by
 have := h.sz
 have := XP D
 exact ⟨by lia, by lia⟩
theorem tsz_un (p t) : tsz (unT p t) = tsz t + 6 := by simp only [unT, tsz, j5, List.length_cons, List.length_nil]; exact Nat.le_antisymm (le0) (le0)
theorem je.red {op r sp S D Z B c} {b : Option Err} (h : je ((op, r, sp) :: S) D Z B c) (hc : D.length = nb ((op, r, sp) :: S) + 1) : je S (jp op sp D b).1 Z B c /\ (jp op sp D b).1.length = nb S + 1 := by
 have h0 := h.sz
 have h1 := h.dp
 have h2 := h.sl
 have ho : (sp < 0 -> op ∈ Zs) /\ (¬ sp < 0 -> op ∈ zb) := h.ops _ (.head _)
 simp only [nb] at hc
 simp only [List.length_cons] at h0 h1 h2
 unfold jp
 cases D with
 | nil => simp at hc
 | cons last D =>
  simp only [szD] at h0
  have w1 := h.wf _ (.head _)
  have d1 := h1 _ (.head _)
  dsimp only
  by_cases hs : sp < 0
  ·rw [if_pos hs] at hc ⊢
   have := wft_un (ho.1 hs) w1
   refine ⟨⟨fun x hx => h.ops x (.tail _ hx), fun t ht => ?_, ?_, fun t ht => ?_, by exact le1 h2⟩, ?_⟩
   ·rcases List.mem_cons.mp ht with rfl | ht
    ·exact this.1
    ·exact h.wf _ (.tail _ ht)
   ·simp only [szD]; exact le2 h0 this.2.1
   ·rcases List.mem_cons.mp ht with rfl | ht
    ·exact le2 d1 this.2.2
    ·have := h1 _ (.tail _ ht); exact le1 this
   ·simp only [List.length_cons] at hc ⊢; exact Nat.le_antisymm (le1 (eL hc)) (le1 (eR hc))
  ·rw [if_neg hs] at hc ⊢
   cases D with
   | nil => simp at hc
   | cons first D =>
    have w2 := h.wf _ (.tail _ (.head _))
    have d2 := h1 _ (.tail _ (.head _))
    simp only [szD] at h0
    simp only [List.length_cons] at hc
    dsimp only
    cases hj : jD op first last with
    | none =>
     refine ⟨⟨fun x hx => h.ops x (.tail _ hx), fun t ht => ?_, ?_, fun t ht => ?_, by exact le1 h2⟩, ?_⟩
     ·rcases List.mem_cons.mp ht with rfl | ht
      ·exact w1
      ·exact h.wf _ (.tail _ (.tail _ ht))
     ·simp only [szD]; exact le1 h0
     ·rcases List.mem_cons.mp ht with rfl | ht
      ·exact le1 d1
      ·have := h1 _ (.tail _ (.tail _ ht)); exact le1 this
     ·simp only [List.length_cons]; exact Nat.le_antisymm (le1 (eL hc)) (le1 (eR hc))
    | some t' =>
     have := QC (ho.2 hs) w2 w1 hj
     refine ⟨⟨fun x hx => h.ops x (.tail _ hx), fun t ht => ?_, ?_, fun t ht => ?_, by exact le1 h2⟩, ?_⟩
     ·rcases List.mem_cons.mp ht with rfl | ht
      ·exact this.1
      ·exact h.wf _ (.tail _ (.tail _ ht))
     ·simp only [szD]; exact le2 h0 this.2.1
     ·rcases List.mem_cons.mp ht with rfl | ht
      ·lia
      ·have := h1 _ (.tail _ (.tail _ ht)); exact le1 this
     ·simp only [List.length_cons]; exact Nat.le_antisymm (le1 (eL hc)) (le1 (eR hc))
noncomputable abbrev stkV (x : Nat × Int × Int) : V := .tup [.str (nm x.1), .int x.2.1, .int x.2.2]
noncomputable def Zn (S : Stk) : List V := (S.map stkV).reverse
noncomputable def dnL (D : List T) : List V := (D.map qp).reverse
theorem wg (x S) : Zn (x :: S) = Zn S ++ [stkV x] := by simp [Zn]
theorem wT (x S) : dnL (x :: S) = dnL S ++ [qp x] := by simp [dnL]
theorem QG (S) : (Zn S).length = S.length := by simp [Zn]
theorem xv (S) : (dnL S).length = S.length := by simp [dnL]
structure Wk (G : GX) (hp : Hp) (wj dj : Nat) (S : Stk) (D : List T) : Prop where
 w : hp[wj]? = some (.lst (Zn S))
 d : hp[dj]? = some (.lst (dnL D))
 ne : wj ≠ dj
 nw : wj ≠ G.pc /\ wj ≠ G.fc /\ wj ≠ G.wc /\ wj ≠ G.tc
 nd : dj ≠ G.pc /\ dj ≠ G.fc /\ dj ≠ G.wc /\ dj ≠ G.tc
theorem Wk.keep {G hp wj dj S D hp'} (w : Wk G hp wj dj S D) (K : qx G hp hp') : Wk G hp' wj dj S D :=
 ⟨(K.old _ (List.getElem?_eq_some_iff.mp w.w).1 w.nw.1 w.nw.2.2.1 w.nw.2.2.2).trans w.w, (K.old _ (List.getElem?_eq_some_iff.mp w.d).1 w.nd.1 w.nd.2.2.1 w.nd.2.2.2).trans w.d, w.ne, w.nw, w.nd⟩
theorem GAt.other {G hp s toks j c hp'} (g : GAt G hp s toks) (u : Upd hp j c hp') (h : j ≠ G.pc /\ j ≠ G.fc /\ j ≠ G.wc /\ j ≠ G.tc) : GAt G hp' s toks :=
 ⟨(u.ne _ (Ne.symm h.1)).trans g.pool, (u.ne _ (Ne.symm h.2.1)).trans g.figs, (u.ne _ (Ne.symm h.2.2.1)).trans g.world, (u.ne _ (Ne.symm h.2.2.2)).trans g.toks, g.ne, g.sz, g.eok⟩
theorem Wk.updW {G hp wj dj S D S' hp'} (w : Wk G hp wj dj S D) (u : Upd hp wj (.lst (Zn S')) hp') : Wk G hp' wj dj S' D := ⟨u.at_, (u.ne _ (Ne.symm w.ne)).trans w.d, w.ne, w.nw, w.nd⟩
theorem Wk.updD {G hp wj dj S D D' hp'} (w : Wk G hp wj dj S D) (u : Upd hp dj (.lst (dnL D')) hp') : Wk G hp' wj dj S D' := ⟨(u.ne _ w.ne).trans w.w, u.at_, w.ne, w.nw, w.nd⟩
theorem qx.mine {G hp₀ hp j c hp'} (K : qx G hp₀ hp) (hj : hp₀.length <= j) (u : Upd hp j c hp') : qx G hp₀ hp' :=
 ⟨by rw [u.len]; exact K.len, fun i h1 h2 h3 h4 => (u.ne i (Nat.ne_of_lt (Nat.lt_of_lt_of_le h1 hj))).trans (K.old i h1 h2 h3 h4)⟩
theorem look_map {o : Nat} {f : Nat -> V} {l : List Nat} (h : o ∈ l) : (l.map fun o => (o, f o)).lookup o = some (f o) := by
 induction l with
 | nil => cases h
 | cons x r ih =>
  rw [List.map_cons, List.lookup_cons]
  by_cases q : o = x
  ·subst q; rw [beq_self_eq_true]
  ·have : (o == x) = false := by simpa using q
   rw [this]
   exact ih ((List.mem_cons.mp h).resolve_left q)
theorem vU {o : Nat} (h : o ∈ zb) : jR.lookup o = some (.int (lvl o)) := look_map h
theorem bin_lt {o : Nat} (h : o ∈ zb) : o < 204 := xP (List.mem_append_left _ h)
theorem XX {o : Nat} (h : o ∈ Zs) : o < 204 := (by decide : ∀ o ∈ Zs, o < 204) o h
section
variable {n : Nat} {hp : Hp} {Q : V -> Hp -> Prop} {E : V -> V -> Hp -> Prop} {G : GX} {s : GS} {toks : List Tk}
set_option tactic.hygienic true in
theorem xn {hp₀ : Hp} {wj dj op : Nat} {r sp : Int} {S : Stk} {D : List T} {Z B c : Nat} (hn : 6 <= n) (m : je ((op, r, sp) :: S) D Z B c) (hc : D.length = nb ((op, r, sp) :: S) + 1) (hZ : Z <= 4000000) (g : GAt G hp s toks) (w : Wk G hp wj dj ((op, r, sp) :: S) D) (K : qx G hp₀ hp) (hw : hp₀.length <= wj) (hd : hp₀.length <= dj)
  (h : ∀ hp', GAt G hp' { s with bad := (jp op sp D s.bad).2 } toks -> Wk G hp' wj dj S (jp op sp D s.bad).1 -> qx G hp₀ hp' -> Q (.bool (v9 op sp)) hp') : Call n .lawReduced [.ref G.wc, .ref wj, .ref dj] hp Q E := by
 obtain ⟨k, rfl⟩ := Nat.exists_eq_add_of_le' (by walk_at "l" : 6 <= n)
 refine qh [143, 157, 159] none (kS (run (k + 5))) rfl rfl ?_
 simp only [List.zip_cons_cons, List.zip_nil_left, List.zip_nil_right]
 unfold kS
 have ho : (sp < 0 -> op ∈ Zs) /\ (¬ sp < 0 -> op ∈ zb) := m.ops _ (.head _)
 have msz := m.sz
 obtain ⟨hS, hD⟩ := m.len
 simp only [List.length_cons] at hS
 have hw0 := w.w
 rw [wg] at hw0
 simp only [nb] at hc
 walk_at "g"
 refine Qy hw0 (by rw [zY, List.length_append, QG]; simp; exact le2 hS hZ) fun hp₁ u₁ => ?_
 have g₁ := g.other u₁ w.nw
 have w₁ := w.updW u₁
 have K₁ := K.mine hw u₁
 refine zW rfl ?_
 walk_at "g"
 cases D with
 | nil => simp at hc
 | cons last D =>
  have hd0 := w₁.d
  rw [wT] at hd0
  have wl := m.wf _ (.head _)
  simp only [List.length_cons] at hD hc msz
  simp only [szD] at msz
  refine Qy hd0 (by rw [zY, List.length_append, xv]; simp; exact le2 hD hZ) fun hp₂ u₂ => ?_
  have g₂ := g₁.other u₂ w₁.nd
  have w₂ : Wk G hp₂ wj dj S D := w₁.updD u₂
  have K₂ := K₁.mine hd u₂
  have hd2 := w₂.d
  have hw2 := w₂.w
  walk_at "g"
  ·rename_i q
   have e : jp op sp (last :: D) s.bad = (unT op last :: D, s.bad) := by unfold jp; dsimp only; rw [if_pos q]
   have ec : v9 op sp = false := by unfold v9; rw [decide_eq_true q]; rfl
   rw [e, ec] at h
   walk_at "g"
   refine ⟨by walk_at "p", ?_⟩
   walk_at "g"
   refine ⟨by walk_at "p", ?_⟩
   walk_at "g"
   refine ⟨by walk_at "p", ?_⟩
   walk_at "g"
   refine ⟨by walk_at "p", ?_⟩
   refine zQ hd2 (by rw [zY, xv]; exact le2 hD hZ) fun hp3 u₃ => ?_
   walk_at "g"
   exact h hp3 (g₂.other u₃ w₂.nd) (w₂.updD (D' := unT op last :: D) (by rw [wT]; exact u₃)) (K₂.mine hd u₃)
  ·rename_i q
   have ec : v9 op sp = (lvl op == 9) := by unfold v9; rw [decide_eq_false q]; rfl
   rw [ec] at h
   rw [if_neg q] at hc
   have hob := ho.2 q
   cases D with
   | nil => simp at hc
   | cons first D =>
    have wf := m.wf _ (.tail _ (.head _))
    simp only [szD] at msz
    simp only [List.length_cons] at hD
    rw [wT] at hd2
    walk_at "g"
    refine Qy hd2 (by rw [zY, List.length_append, xv]; simp; exact le2 hD hZ) fun hp3 u₃ => ?_
    have g₃ := g₂.other u₃ w₂.nd
    have w₃ : Wk G hp3 wj dj S D := w₂.updD u₃
    have K₃ := K₂.mine hd u₃
    walk_at "g"
    have fin : ∀ (t : T) (b : Option Err) hp4, GAt G hp4 { s with bad := b } toks -> qx G hp3 hp4 -> (jp op sp (last :: first :: D) s.bad) = (t :: D, b) -> ∀ l : Nv, l.lookup 98 = some (.str (nm op)) ->
      W (kK (.ref dj) (qp t)) l hp4 (fun _ l hp => xM (qF (qs (wF .Eq (qV (run (k + 5) .lawLevels []) (qD (nm 98))) (pure (.int 9)))) qK) (fun fl _ hp' => Q (flV fl) hp') E .nxt l hp) E := by
     intro t b hp4 g₄ K₄ e l l98
     have w₄ := w₃.keep K₄
     refine zQ w₄.d (by rw [zY, xv]; exact le2 hD hZ) fun hp5 u₅ => ?_
     have g₅ := g₄.other u₅ w₄.nd
     have w₅ := w₄.updD (D' := t :: D) (by rw [wT]; exact u₅)
     have K₅ := (K₃.trans K₄).mine hd u₅
     walk_at "g"
     refine qI (Qb (by walk_at "l") fun hp6 j u₆ _ hj => ?_)
     refine kD l98 ?_
     refine wY hj (vU hob) ?_
     walk_at "g"
     rw [e] at h
     exact h hp6 (g₅.grow u₆) (w₅.keep (.grow u₆)) (K₅.trans (.grow u₆))
    refine qI (Jo (l := first) (r := last) (by walk_at "l") hob wf wl (by exact le2 msz hZ) g₃ (fun t ht hp4 g₄ K₄ => ?_) fun ht hp4 g₄ K₄ => ?_)
    ·refine qk (fin t s.bad hp4 g₄ K₄ ?_ _ (by walk_at "look")) (fun _ _ _ x => x) fun _ _ _ x => x
     unfold jp; dsimp only; rw [if_neg q, ht]
    ·refine qk (fin last _ hp4 g₄ K₄ ?_ _ (by walk_at "look")) (fun _ _ _ x => x) fun _ _ _ x => x
     unfold jp; dsimp only; rw [if_neg q, ht]
end
noncomputable def Sub (l' l : Nv) : Prop := ∀ i v, l'.lookup i = some v -> l.lookup i = some v
theorem Sub.refl {l : Nv} : Sub l l := fun _ _ e => e
theorem Sub.cons {k : Nat} {w : V} {l' l : Nv} (hk : l'.lookup k = none) (h : Sub l' l) : Sub l' ((k, w) :: l) := fun i v e => by
 refine ja ?_ (h i v e)
 by_cases q : i = k
 ·subst q; rw [hk] at e; cases e
 ·simpa using q
theorem pds_stk (S : Stk) (h : ∀ x ∈ S, x.1 < 204) : ∃ ds, pds (S.map stkV) = some ds /\ PyData.canLayAll0 ds = true /\ PyData.depthAll ds <= 2 /\ ds.length = S.length := by
 induction S with
 | nil => exact ⟨[], rfl, rfl, Nat.zero_le _, rfl⟩
 | cons x S ih =>
  obtain ⟨ds, h1, h2, h3, h4⟩ := ih fun y hy => h y (.tail _ hy)
  have hx := xF (h x (.head _))
  simp only [zu, PyData.canLay0, Bool.and_eq_true] at hx
  refine ⟨.tuple [.str (nm x.1), .int x.2.1, .int x.2.2] :: ds, ?_, ?_, Nat.max_le.mpr ⟨Nat.le_of_ble_eq_true rfl, h3⟩, congrArg (· + 1) h4⟩
  ·simp only [List.map_cons, pds, pd, h1, Option.map_some]
  ·simp only [PyData.canLayAll0, PyData.canLay0, hx.1, h2, Bool.and_self]
section
variable {hp : Hp} {E : V -> V -> Hp -> Prop} {l : Nv}
theorem yz {Q : Bool -> Nv -> Hp -> Prop} {j : Nat} {S : Stk} (e : hp[j]? = some (.lst (Zn S))) (hS : ∀ x ∈ S, x.1 < 204) (h : Q (decide (S ≠ [])) l hp) : W (kq .NotEq (.ref j) (.lst [])) l hp Q E := by
 refine zU (t := decide (S ≠ [])) ?_ h
 obtain ⟨ds, h1, h2, h3, h4⟩ := pds_stk S.reverse fun x hx => hS x (List.mem_reverse.mp hx)
 rw [List.map_reverse] at h1
 have h1 : pds (Zn S) = some ds := h1
 simp only [jq]
 unfold peq
 simp only [wD, e, h1, pd, pds, Option.map_some]
 have a1 : zu (.list ds) = true := by
  unfold zu
  rw [Bool.and_eq_true]
  exact ⟨h2, decide_eq_true (by simp only [PyData.depth]; exact le1 h3)⟩
 have a2 : zu (.list []) = true := by decide
 rw [a1, a2]
 simp only [Bool.and_self, if_true, Option.map_some, PyData.eqv]
 congr 1
 rw [List.length_reverse] at h4
 cases ds with
 | nil => cases S with
  | nil => rfl
  | cons x S => simp at h4
 | cons d ds => cases S with
  | nil => simp at h4
  | cons x S => simp [PyData.eqvAll]
end
theorem je.lts {S D Z B c} (h : je S D Z B c) : ∀ x ∈ S, x.1 < 204 := fun x hx => by
 have := h.ops x hx
 by_cases q : x.2.2 < 0
 ·exact XX (this.1 q)
 ·exact bin_lt (this.2 q)
theorem JV {o : Nat} {spot : Int} {Z B c : Nat} (S : Stk) : ∀ (D : List T) (b : Option Err), je S D Z B c -> D.length = nb S + 1 -> je (qz o spot S D b).1 (qz o spot S D b).2.1 Z B c /\ (qz o spot S D b).2.1.length = nb (qz o spot S D b).1 + 1 := by
 induction S with
 | nil => intro D b h hc; exact ⟨h, hc⟩
 | cons p S ih =>
  intro D b h hc
  obtain ⟨op, r, sp⟩ := p
  unfold qz
  split
  ·have k := h.red (b := b) hc
   exact ih _ _ k.1 k.2
  ·exact ⟨h, hc⟩
theorem Kg {Z B c : Nat} (S : Stk) : ∀ (D : List T) (b : Option Err), je S D Z B c -> D.length = nb S + 1 -> ∃ t, (jK S D b).1 = [t] /\ wft t /\ tsz t <= Z /\ tdp t <= B + c := by
 induction S with
 | nil =>
  intro D b h hc
  cases D with
  | nil => cases hc
  | cons t D =>
   cases D with
   | nil =>
    have := h.sz
    simp only [szD] at this
    have h2 := h.dp _ (.head _)
    exact ⟨t, rfl, h.wf _ (.head _), by exact le1 this, by exact le1 h2⟩
   | cons x D => cases hc
 | cons p S ih =>
  intro D b h hc
  obtain ⟨op, r, sp⟩ := p
  unfold jK
  have k := h.red (b := b) hc
  exact ih _ _ k.1 k.2
theorem nb_pre : ∀ (pre : List (Nat × Tk)) (S : Stk), nb (zO pre S) = nb S
 | [], _ => rfl
 | (p, _) :: r, S => by unfold zO; rw [nb_pre r]; simp [nb]
theorem Jc : ∀ (pre : List (Nat × Tk)) (p tk) (S : Stk), zO (pre ++ [(p, tk)]) S = (p, plv p, -1) :: zO pre S
 | [], _, _, _ => rfl
 | (q, _) :: r, p, tk, S => Jc r p tk _
theorem je.pre {D : List T} {B : Nat} (pre : List (Nat × Tk)) : ∀ (S : Stk) (Z c : Nat), (∀ x ∈ pre, x.1 ∈ Zs) -> je S D Z B c -> je (zO pre S) D (Z + 10 * pre.length) B (c + pre.length) := by
 induction pre with
 | nil => intro S Z c _ h; exact h
 | cons x r ih =>
  intro S Z c hp h
  obtain ⟨p, tk⟩ := x
  unfold zO
  have h1 : je ((p, plv p, -1) :: S) D (Z + 10) B (c + 1) := ⟨fun x hx => by
   rcases List.mem_cons.mp hx with rfl | hx
   ·exact ⟨fun _ => hp _ (.head _), fun q => absurd (show (-1 : Int) < 0 by decide) q⟩
   ·exact h.ops x hx, h.wf, by have := h.sz; simp only [List.length_cons]; exact le1 this, fun t ht => by have := h.dp t ht; simp only [List.length_cons]; exact le1 this, by have := h.sl; simp only [List.length_cons]; exact le1 this⟩
  have := ih _ (Z + 10) (c + 1) (fun x hx => hp x (.tail _ hx)) h1
  have e : Z + 10 * ((p, tk) :: r).length = Z + 10 + 10 * r.length := by simp only [List.length_cons]; exact Nat.le_antisymm (le0) (le0)
  have e2 : c + ((p, tk) :: r).length = c + 1 + r.length := by simp only [List.length_cons]; exact Nat.le_antisymm (le0) (le0)
  rw [e, e2]; exact this
theorem je.opd {S D Z B c t} (h : je S D Z B c) (ht : wft t) (hd : tdp t <= B) : je S (t :: D) (Z + tsz t) B c :=
 ⟨h.ops, fun x hx => by rcases List.mem_cons.mp hx with rfl | hx; exact ht; exact h.wf x hx, by have := h.sz; simp only [szD]; exact le1 this, fun x hx => by
  rcases List.mem_cons.mp hx with rfl | hx
  ·have := h.sl; exact le2 this hd
  ·exact h.dp x hx, h.sl⟩
theorem je.bin {S D Z B c o r sp} (h : je S D Z B c) (ho : o ∈ zb) (hs : ¬ sp < 0) : je ((o, r, sp) :: S) D (Z + 10) B (c + 1) :=
 ⟨fun x hx => by
  rcases List.mem_cons.mp hx with rfl | hx
  ·exact ⟨fun q => absurd q hs, fun _ => ho⟩
  ·exact h.ops x hx, h.wf, by have := h.sz; simp only [List.length_cons]; exact le1 this, fun t ht => by have := h.dp t ht; simp only [List.length_cons]; exact le1 this, by have := h.sl; simp only [List.length_cons]; exact le1 this⟩
theorem je.mono {S D Z Z' B c c'} (h : je S D Z B c) (hz : Z <= Z') (hc : c <= c') : je S D Z' B c' := ⟨h.ops, h.wf, Nat.le_trans h.sz hz, fun t ht => by have := h.dp t ht; exact le2 this hc, Nat.le_trans h.sl hc⟩
noncomputable def Zq (c : Fn -> List V -> M V) : M Bool := (jG (qi .NotEq (qD (nm 157)) (q8 [])) (jG (qi .Lt (qV (qD (nm 162)) (qD (nm 98))) (qV (qV (qD (nm 157)) (Kw (pure (.int 1)))) (pure (.int 1)))) (pure true)))
noncomputable def XU (c : Fn -> List V -> M V) : M Fl := (u257 c)
noncomputable def Xw (c : Fn -> List V -> M V) : M Fl := (u265 c)
noncomputable def XZ (c : Fn -> List V -> M V) : M Fl := (u255 c)
noncomputable def opBody (c : Fn -> List V -> M V) : M Fl := (u261 c)
noncomputable def Zo (c : Fn -> List V -> M V) : M Fl := (u264 c)
theorem KK (c : Fn -> List V -> M V) : xz c = (u273 c) := rfl
section
variable {n : Nat} {E : V -> V -> Hp -> Prop} {G : GX} {toks : List Tk}
set_option tactic.hygienic true in
theorem w_redLoop {hp₀ : Hp} {wj dj lj o : Nat} {spot : Int} {Z B c : Nat} {Q : Fl -> Nv -> Hp -> Prop} (hn : 6 <= n) (ho : o ∈ zb) (hZ : Z <= 4000000) (hw : hp₀.length <= wj) (hd : hp₀.length <= dj) (hj : hp₀[lj]? = some (.dct (FL jR))) (nj : lj ≠ G.pc /\ lj ≠ G.wc /\ lj ≠ G.tc) :
  ∀ (S : Stk) (D : List T) (f : Nat) (hp : Hp) (s : GS) (l : Nv), S.length < f -> je S D Z B c -> D.length = nb S + 1 -> l.lookup 143 = some (.ref G.wc) -> l.lookup 157 = some (.ref wj) -> l.lookup 159 = some (.ref dj) -> l.lookup 162 = some (.ref lj) -> l.lookup 98 = some (.str (nm o)) -> l.lookup 144 = some (.int spot) ->
   GAt G hp s toks -> Wk G hp wj dj S D -> qx G hp₀ hp ->
   (∀ hp', GAt G hp' { s with bad := (qz o spot S D s.bad).2.2 } toks -> Wk G hp' wj dj (qz o spot S D s.bad).1 (qz o spot S D s.bad).2.1 -> qx G hp₀ hp' -> Q .nxt l hp') ->
   W (zP f (Zq (run n)) (XU (run n))) l hp Q E := by
 intro S
 induction S with
 | nil =>
  intro D f hp s l hf m hc l143 l157 l159 l162 l98 l144 g w K hq
  obtain ⟨f, rfl⟩ := Nat.exists_eq_add_of_le' (by exact le1 (sL hf) : 1 <= f)
  refine yS ?_
  unfold Zq
  walk_at "g"
  refine ⟨by walk_at "p", ?_⟩
  refine yz w.w m.lts ?_
  walk_at "g"
  exact hq hp g w K
 | cons x S ih =>
  obtain ⟨op, r, sp⟩ := x
  intro D f hp s l hf m hc l143 l157 l159 l162 l98 l144 g w K hq
  obtain ⟨f, rfl⟩ := Nat.exists_eq_add_of_le' (by exact le1 (sL hf) : 1 <= f)
  have hlj : ∀ hp', qx G hp₀ hp' -> hp'[lj]? = some (.dct (FL jR)) := fun hp' K => (K.old _ (List.getElem?_eq_some_iff.mp hj).1 nj.1 nj.2.1 nj.2.2).trans hj
  have hl1 := hlj hp K
  refine yS ?_
  unfold Zq
  walk_at "g"
  refine ⟨by walk_at "p", ?_⟩
  refine yz w.w m.lts ?_
  refine jS (by simp) ?_
  walk_at "g"
  refine wY hl1 (vU ho) ?_
  walk_at "g"
  refine X3 w.w (by rw [wg]; exact List.getLast?_concat) ?_
  walk_at "g"
  ·rename_i q
   obtain ⟨m1, c1⟩ := m.red (b := s.bad) hc
   unfold XU
   walk_at "g"
   have e1 : ∀ b, qz o spot ((op, r, sp) :: S) D b = qz o spot S (jp op sp D b).1 (if v9 op sp && lvl o == 9 then vS (jp op sp D b).2 (vi spot) else (jp op sp D b).2) := by
    intro b; conv => lhs; unfold qz
    rw [if_pos q]
   rw [e1] at hq
   refine qI (xn hn m hc hZ g w K hw hd fun hp₁ g₁ w₁ K₁ => ?_)
   have hl2 := hlj hp₁ K₁
   walk_at "g"
   cases hcm : v9 op sp with
   | false =>
    rw [hcm] at hq
    refine jT rfl ?_
    walk_at "g"
    exact ih _ f hp₁ _ l (by simp only [List.length_cons] at hf; exact lt1 (sL hf)) m1 c1 l143 l157 l159 l162 l98 l144 g₁ w₁ K₁ hq
   | true =>
    rw [hcm] at hq
    refine jS rfl ?_
    walk_at "g"
    refine wY hl2 (vU ho) ?_
    walk_at "g"
    refine zL (fun q9 => ?_) fun q9 => ?_
    ·rw [q9] at hq
     walk_at "g"
     refine qI (Qd (by walk_at "l") g₁ fun hp₂ g₂ K₂ => ?_)
     walk_at "g"
     exact ih _ f hp₂ _ l (by simp only [List.length_cons] at hf; exact lt1 (sL hf)) m1 c1 l143 l157 l159 l162 l98 l144 g₂ (w₁.keep K₂) (K₁.trans K₂) hq
    ·rw [q9] at hq
     walk_at "g"
     exact ih _ f hp₁ _ l (by simp only [List.length_cons] at hf; exact lt1 (sL hf)) m1 c1 l143 l157 l159 l162 l98 l144 g₁ w₁ K₁ hq
  ·rename_i q
   have e1 : ∀ b, qz o spot ((op, r, sp) :: S) D b = ((op, r, sp) :: S, D, b) := by
    intro b; conv => lhs; unfold qz
    rw [if_neg q]
   rw [e1] at hq
   exact hq hp g w K
theorem w_redAll {hp₀ : Hp} {wj dj : Nat} {Z B c : Nat} {Q : Fl -> Nv -> Hp -> Prop} (hn : 6 <= n) (hZ : Z <= 4000000) (hw : hp₀.length <= wj) (hd : hp₀.length <= dj) :
  ∀ (S : Stk) (D : List T) (f : Nat) (hp : Hp) (s : GS) (l : Nv), S.length < f -> je S D Z B c -> D.length = nb S + 1 -> l.lookup 143 = some (.ref G.wc) -> l.lookup 157 = some (.ref wj) -> l.lookup 159 = some (.ref dj) ->
   GAt G hp s toks -> Wk G hp wj dj S D -> qx G hp₀ hp ->
   (∀ hp', GAt G hp' { s with bad := (jK S D s.bad).2 } toks -> Wk G hp' wj dj [] (jK S D s.bad).1 -> qx G hp₀ hp' -> Q .nxt l hp') ->
   W (zP f (qi .NotEq (qD (nm 157)) (q8 [])) (Xw (run n))) l hp Q E := by
 intro S
 induction S with
 | nil =>
  intro D f hp s l hf m hc l143 l157 l159 g w K hq
  obtain ⟨f, rfl⟩ := Nat.exists_eq_add_of_le' (by exact le1 (sL hf) : 1 <= f)
  refine yS ?_
  walk_at "g"
  refine ⟨by walk_at "p", ?_⟩
  refine yz w.w m.lts ?_
  refine whK_f (by simp) ?_
  exact hq hp g w K
 | cons x S ih =>
  obtain ⟨op, r, sp⟩ := x
  intro D f hp s l hf m hc l143 l157 l159 g w K hq
  obtain ⟨f, rfl⟩ := Nat.exists_eq_add_of_le' (by exact le1 (sL hf) : 1 <= f)
  refine yS ?_
  walk_at "g"
  refine ⟨by walk_at "p", ?_⟩
  refine yz w.w m.lts ?_
  refine whK_t (by simp) ?_
  obtain ⟨m1, c1⟩ := m.red (b := s.bad) hc
  unfold Xw
  walk_at "g"
  refine qI (xn hn m hc hZ g w K hw hd fun hp₁ g₁ w₁ K₁ => ?_)
  walk_at "g"
  exact ih _ f hp₁ _ l (by simp only [List.length_cons] at hf; exact lt1 (sL hf)) m1 c1 l143 l157 l159 g₁ w₁ K₁ hq
end
noncomputable abbrev inB (s : GS) : Bool := decide (0 < s.inner)
noncomputable def Q2 (NG d TB DB NB : Nat) : Prop := ∀ (n : Nat) (hp : Hp) (G : GX) (s : GS) (toks : List Tk) (Q : V -> Hp -> Prop) (E : V -> V -> Hp -> Prop), NG <= n -> GAt G hp s toks -> toks.length + TB <= 1000000 ->
  (∀ hp' s' ts t b, s'.inner = s.inner -> s'.bad = orB s.bad b -> GAt G hp' s' (toks ++ ts) -> qx G hp hp' -> wft t -> tdp t <= DB -> tsz t <= 10 * ts.length -> ts.length <= TB -> (∀ pre, v7 NB (d + 1) (inB s) ⟨pre, ts, t, b⟩) -> kY ts -> Q (qp t) hp') ->
  Call n .lawOperand [.ref G.pc, .ref G.wc, .int d] hp Q E
theorem Xe {js : List Nat} {v : Int} (h0 : 0 <= v) (h1 : v < js.length) : ∃ j, j ∈ js /\ (nms js)[v.toNat]? = some (.str (nm j)) := by
 have h : v.toNat < js.length := by lia
 exact ⟨js[v.toNat], List.getElem_mem h, by rw [List.getElem?_map, List.getElem?_eq_getElem h]; rfl⟩
theorem pin_lv {hp : Hp} {k : Int} : jq hp .In (.int k) (.lst [.int 2, .int 3, .int 15]) = some (decide (k = 2 \/ k = 3 \/ k = 15)) := by
 simp only [jq]
 unfold pin
 have e1 : zu (.int k) = true := rfl
 have e2 : zu (.list [.int 2, .int 3, .int 15]) = true := by decide
 simp only [pd, wD, pds, Option.map_some, e1, e2, Bool.and_self, if_true, List.any_cons, List.any_nil, PyData.eqv, Bool.or_false]
 congr 1
 rw [Bool.eq_iff_iff]
 simp only [Bool.or_eq_true, beq_iff_eq, decide_eq_true_eq]
 lia
theorem first_row {O : Seg -> Prop} {B : Nat} {inb : Bool} {seg : Seg} {tail : q0} (h : kY seg.ts) (hp : xJ inb seg.pre) (ht : vL O B inb tail) (h3 : ∀ x ∈ tail, 3 <= lvl x.1) : kY (zB seg ++ qe tail) := by
 obtain ⟨pre, ts, t, b⟩ := seg
 dsimp only at h hp
 unfold zB
 dsimp only
 cases pre with
 | nil =>
  obtain ⟨t0, tl, rfl, h1, h2, h4⟩ := h
  refine ⟨t0, tl ++ qe tail, rfl, h1, h2, fun hn t1 tl' e => ?_⟩
  cases tl with
  | cons y tl => cases e; exact h4 hn _ _ rfl
  | nil =>
   cases tail with
   | nil => cases e
   | cons x tail =>
    obtain ⟨o, tk, sg⟩ := x
    cases e
    obtain ⟨a1, a2, _⟩ := ht _ (.head _)
    have a3 := h3 _ (.head _)
    dsimp only at a1 a2 a3
    rw [a1]
    refine ⟨List.mem_append_left _ a2, fun q => ?_⟩
    cases q
    exact absurd a3 (by decide)
 | cons x pre =>
  obtain ⟨p, tk⟩ := x
  obtain ⟨a1, a2, _⟩ := hp _ (.head _)
  dsimp only at a1 a2
  refine ⟨tk, _, rfl, by rw [a1]; exact (XY a2).1, fun o q => ?_, fun q => ?_⟩
  ·rw [a1] at q; cases q
   exact (by decide : ∀ p ∈ [51, 52, 56, 57, 58], p ∉ [121, 114, 116]) _ a2
  ·rw [a1] at q; cases q
section
variable {n : Nat} {E : V -> V -> Hp -> Prop} {G : GX}
theorem w_pres {hp₀ : Hp} {wj dj : Nat} {D : List T} {l : Nv} {Q : Fl -> Nv -> Hp -> Prop} (hn : 2 <= n) (hw : hp₀.length <= wj) (l136 : l.lookup 136 = some (.ref G.pc)) (l143 : l.lookup 143 = some (.ref G.wc)) (l157 : l.lookup 157 = some (.ref wj)) (l166 : l.lookup 166 = none) (l169 : l.lookup 169 = none) :
  ∀ (xs : List V) (hp : Hp) (s : GS) (toks : List Tk) (S : Stk), toks.length + xs.length <= 1000000 -> S.length + xs.length <= 4000000 -> GAt G hp s toks -> Wk G hp wj dj S D -> qx G hp₀ hp ->
   (∀ pre hp' s', pre.length = xs.length -> xJ (inB s) pre -> s'.inner = s.inner -> s'.bad = s.bad -> GAt G hp' s' (toks ++ pre.map (·.2)) -> Wk G hp' wj dj (zO pre S) D -> qx G hp₀ hp' -> Q .nxt l hp') ->
   W (jI (nm 169) (XZ (run n)) xs) l hp Q E := by
 intro xs
 induction xs with
 | nil =>
  intro hp s toks S hz hS g w K hq
  refine j4 (hq [] hp s rfl (fun x hx => nomatch hx) rfl rfl ?_ w K)
  simpa using g
 | cons v xs ih =>
  intro hp s toks S hz hS g w K hq
  simp only [List.length_cons] at hz hS
  refine kz ?_
  unfold XZ
  walk_at "g"
  refine ⟨by walk_at "p", ?_⟩
  walk_at "g"
  walk_at "g"
  refine qI (zt (by walk_at "l") (by decide) g fun v' k mm hp₁ v0 v1 g₁ K₁ => ?_)
  obtain ⟨p, hpm, hget⟩ := Xe (js := Zs) v0 v1
  refine zZ (xs := nms Zs) rfl v0 hget (by walk_at "l") ?_
  have hpl := XX hpm
  walk_at "g"
  walk_at "g"
  walk_at "g"
  refine qI (zc (tv := .op p) hn (by exact le1 hz) g₁ fun nl k2 mm2 hp₂ hnl g₂ K₂ => ?_)
  walk_at "g"
  have w₂ := (w.keep K₁).keep K₂
  refine vd w₂.w ?_
  walk_at "g"
  refine JI (ks := [51, 52, 56, 57, 58]) ?_
  walk_at "g"
  refine ⟨⟨rfl, by decide⟩, fun hp3 u₃ => ?_⟩
  walk_at "g"
  refine wY (w := .int (plv p)) u₃.at_ ?_ ?_
  ·have hpm := hpm
   unfold Zs at hpm
   simp only [List.mem_cons, List.not_mem_nil, or_false] at hpm
   rcases hpm with rfl | rfl | rfl | rfl | rfl <;> rfl
  walk_at "g"
  refine ⟨by walk_at "p", ?_⟩
  have g₃ := g₂.new u₃
  have K₃ : qx G hp₂ hp3 := .new u₃
  have w₃ := w₂.keep K₃
  refine zQ w₃.w (by rw [zY, QG]; exact le1 hS) fun hp4 u₄ => ?_
  walk_at "g"
  refine ve (Sub.cons l166 (Sub.cons l169 .refl)) ?_
  have w₄ := w₃.updW (S' := (p, plv p, -1) :: S) (by rw [wg]; exact u₄)
  refine ih hp4 _ (toks ++ [⟨.op p, 10 * toks.length, nl⟩]) _ (by rw [List.length_append]; simp; exact le1 hz) (by simp only [List.length_cons]; exact le1 hS) (g₃.other u₄ w₃.nw) w₄ ((K.trans (K₁.trans (K₂.trans K₃))).mine hw u₄) fun pre hp' s' e1 e2 e3 e4 g' w' K' => ?_
  refine hq ((p, ⟨.op p, 10 * toks.length, nl⟩) :: pre) hp' s' (by simp only [List.length_cons]; exact Nat.le_antisymm (le1 (eL e1)) (le1 (eR e1))) (fun x hx => ?_) e3 e4 ?_ w' K'
  ·rcases List.mem_cons.mp hx with rfl | hx
   ·exact ⟨rfl, hpm, fun q => decide_eq_true (hnl q)⟩
   ·exact e2 x hx
  ·simpa using g'
noncomputable abbrev rowL (G : GX) (d : Nat) (least : Int) (lj : Nat) (opsl : List Nat) (wj dj : Nat) (count : Int) : Nv := [(165, .int count), (159, .ref dj), (157, .ref wj), (163, .lst (nms opsl)), (162, .ref lj), (136, .ref G.pc), (143, .ref G.wc), (164, .int d), (158, .int least)]
set_option tactic.hygienic true in
theorem w_row {hp₀ : Hp} {NG d TB DB NB : Nat} {least : Int} {opsl : List Nat} {lj wj dj count : Nat} {Q : Fl -> Nv -> Hp -> Prop} (H : Q2 NG d TB DB NB) (hn : NG <= n) (h6 : 6 <= n) (hw : hp₀.length <= wj) (hd : hp₀.length <= dj) (hj : hp₀[lj]? = some (.dct (FL jR))) (nj : lj ≠ G.pc /\ lj ≠ G.wc /\ lj ≠ G.tc)
  (hops : ∀ o ∈ opsl, o ∈ zb /\ least <= lvl o) (ho0 : 0 < opsl.length) (ho1 : opsl.length <= 100) :
  ∀ (r i : Nat) (hp : Hp) (s : GS) (toks : List Tk) (S : Stk) (D : List T) (Z c : Nat), 1 <= r -> i + r = count + 1 -> toks.length + r * (TB + 3) <= 1000000 -> Z + 10 * (r * (TB + 3)) <= 4000000 -> je S D Z DB c -> D.length = nb S -> GAt G hp s toks -> Wk G hp wj dj S D -> qx G hp₀ hp ->
   (∀ seg tail hp' s', tail.length + 1 = r -> X8 (v7 NB (d + 1) (inB s)) DB (inB s) seg -> seg.pre.length <= 2 -> (∀ x ∈ tail, x.2.2.pre.length <= 2) -> RdP NB (d + 1) DB (inB s) tail -> (∀ x ∈ tail, least <= lvl x.1) -> Sp tail -> s'.inner = s.inner ->
    GAt G hp' s' (toks ++ (zB seg ++ qe tail)) -> s'.bad = (yk (zO seg.pre S) (seg.t :: D) (orB s.bad seg.b) tail).2.2 -> Wk G hp' wj dj (yk (zO seg.pre S) (seg.t :: D) (orB s.bad seg.b) tail).1 (yk (zO seg.pre S) (seg.t :: D) (orB s.bad seg.b) tail).2.1 ->
    je (yk (zO seg.pre S) (seg.t :: D) (orB s.bad seg.b) tail).1 (yk (zO seg.pre S) (seg.t :: D) (orB s.bad seg.b) tail).2.1 (Z + 10 * (zB seg ++ qe tail).length) DB (c + 3 * tail.length + 2) -> (yk (zO seg.pre S) (seg.t :: D) (orB s.bad seg.b) tail).2.1.length = nb (yk (zO seg.pre S) (seg.t :: D) (orB s.bad seg.b) tail).1 + 1 ->
    qx G hp₀ hp' -> 10 * seg.pre.length + tsz seg.t + szT tail <= 10 * (zB seg ++ qe tail).length -> (zB seg ++ qe tail).length <= r * (TB + 3) -> kY seg.ts -> Q .nxt (rowL G d least lj opsl wj dj count) hp') ->
   W (jI (nm 134) (Zo (run n)) ((List.range' i r).map fun k => V.int (Int.ofNat k))) (rowL G d least lj opsl wj dj count) hp Q E := by
 intro r
 induction r with
 | zero => intro i hp s toks S D Z c h1; lia
 | succ r ih =>
  intro i hp s toks S D Z c _ hir hz hZ m hc g w K hq
  have er : (r + 1) * (TB + 3) = r * (TB + 3) + (TB + 3) := Nat.succ_mul _ _
  rw [er] at hz hZ
  obtain ⟨hS, hD⟩ := m.len
  refine kz ?_
  unfold Zo
  walk_at "g"
  refine qI (zt (by walk_at "l") (by decide) g fun v k mm hp₁ v0 v1 g₁ K₁ => ?_)
  walk_at "g"
  have hk : 0 <= (if v - 3 > 0 then v - 3 else 0) /\ (if v - 3 > 0 then v - 3 else 0) <= 2 := by split <;> lia
  generalize (if v - 3 > 0 then v - 3 else 0) = kk at hk
  refine kW hk.1 (by walk_at "l") ?_
  have hxs : (zo kk).length <= 2 := by unfold zo; rw [List.length_map, List.length_range]; lia
  generalize zo kk = xs at hxs
  refine w_pres (G := G) (by walk_at "l") hw (by walk_at "look") (by walk_at "look") (by walk_at "look") rfl rfl xs hp₁ _ toks S (by exact le2 hxs hz) (by exact le3 hxs hS hZ) g₁ (w.keep K₁) (K.trans K₁) fun pre hp₂ s2 e1 e2 e3 e4 g₂ w₂ K₂ => ?_
  walk_at "g"
  refine vd w₂.d ?_
  walk_at "g"
  refine qI (H n hp₂ G s2 _ _ _ hn g₂ (by rw [List.length_append, List.length_map]; exact le3 hz (eL e1) hxs) fun hp3 s3 ts t b f1 f2 g₃ K₃ wt hdp hsz htl hrd hfst => ?_)
  have w₃ := w₂.keep K₃
  refine zQ w₃.d (by rw [zY, xv]; exact le2 hD hZ) fun hp4 u₄ => ?_
  have w₄ := w₃.updD (D' := t :: D) (by rw [wT]; exact u₄)
  have g₄ := g₃.other u₄ w₃.nd
  have K₄ := (K₂.trans K₃).mine hd u₄
  have ei : inB s2 = inB s := by unfold inB; rw [e3]
  have mp : je (zO pre S) D (Z + 10 * pre.length) DB (c + pre.length) := je.pre pre S Z c (fun x hx => (e2 x hx).2.1) m
  have m4 := mp.opd wt hdp
  have c4 : (t :: D).length = nb (zO pre S) + 1 := by rw [nb_pre]; simp only [List.length_cons]; exact Nat.le_antisymm (le1 (eL hc)) (le1 (eR hc))
  have hsg : X8 (v7 NB (d + 1) (inB s)) DB (inB s) ⟨pre, ts, t, b⟩ := ⟨e2, fun _ => ⟨wt, hdp⟩, by have := hrd pre; rw [ei] at this; exact this⟩
  have eb : s3.bad = orB s.bad b := by rw [f2, e4]
  walk_at "g"
  ·rename_i q
   have hr : 1 <= r := by simp at q; exact le2 (sL q) (eR hir)
   refine X0 (n := opsl.length) (by simp [yd, Kc, zl, qo]) (by walk_at "l") ?_
   walk_at "g"
   refine qI (zt (by walk_at "l") (by walk_at "l") g₄ fun v' k' mm' hp5 v0' v1' g₅ K₅ => ?_)
   obtain ⟨o, hom, hget⟩ := Xe (js := opsl) v0' v1'
   refine zZ (xs := nms opsl) rfl v0' hget (by walk_at "l") ?_
   obtain ⟨hob, hlv⟩ := hops o hom
   walk_at "g"
   have etl : (toks ++ List.map (fun x => x.2) pre ++ ts).length = toks.length + pre.length + ts.length := by simp only [List.length_append, List.length_map]
   refine qI (zc (tv := .op o) (by walk_at "l") (by exact le5 (eL etl) htl (eL e1) hxs hz) g₅ fun nl k2 mm2 hp6 hnl g6 K₆ => ?_)
   generalize htk : (⟨.op o, 10 * (toks ++ List.map (fun x => x.2) pre ++ ts).length, nl⟩ : Tk) = tk at g6
   have htk1 : tk.tv = .op o := by rw [<- htk]
   have htk2 : tk.at_ = 10 * (toks ++ List.map (fun x => x.2) pre ++ ts).length := by rw [<- htk]
   have htk3 : tk.nl = nl := by rw [<- htk]
   rw [<- htk2]
   have htk4 : ¬ tk.at_ < 0 := by lia
   have w₆ := (w₄.keep K₅).keep K₆
   have K6 := K₄.trans (K₅.trans K₆)
   walk_at "g"
   refine w_redLoop (n := n) h6 hob (Z := Z + 10 * pre.length + tsz t) (by exact le5 hsz (Nat.mul_le_mul_left 10 htl) hZ (Nat.mul_le_mul_left 10 (eL e1)) (Nat.mul_le_mul_left 10 hxs)) hw hd hj nj (zO pre S) (t :: D) wf hp6 _ _ (by have := m4.len.1; have : wf = 1000000 := rfl; have := m4.sz; lia) m4 c4 (by walk_at "look") (by walk_at "look") (by walk_at "look") (by walk_at "look") (by walk_at "look") (by walk_at "look") g6 w₆ K6 fun hp7 g7 w₇ K₇ => ?_
   obtain ⟨m7, c7⟩ := JV (o := o) (spot := tk.at_) (zO pre S) (t :: D) s3.bad m4 c4
   dsimp only at g7 w₇
   have hl7 := (K₇.old _ (List.getElem?_eq_some_iff.mp hj).1 nj.1 nj.2.1 nj.2.2).trans hj
   walk_at "g"
   refine vd w₇.w ?_
   walk_at "g"
   refine wY hl7 (vU hob) ?_
   walk_at "g"
   refine ⟨by walk_at "p", ?_⟩
   refine zU pin_lv ?_
   have fin : ∀ l : Nv, Sub (rowL G d least lj opsl wj dj count) l -> W (kK (.ref wj) (.tup [.str (nm o), .int (rlv (lvl o)), .int tk.at_])) l hp7 (fun _ l hp => XN 134 (Zo (run n)) ((List.range' (i + 1) r).map fun k => V.int (Int.ofNat k)) Q E .nxt l hp) E := by
    intro l hl
    refine zQ w₇.w (by rw [zY, QG]; have := m7.len.1; exact le6 this hsz (Nat.mul_le_mul_left 10 htl) (Nat.mul_le_mul_left 10 (eL e1)) (Nat.mul_le_mul_left 10 hxs) hZ) fun hp8 u₈ => ?_
    have w₈ := w₇.updW (S' := (o, rlv (lvl o), tk.at_) :: (qz o tk.at_ (zO pre S) (t :: D) s3.bad).1) (by rw [wg]; exact u₈)
    refine vM (ve hl ?_)
    have m8 := (m7.bin (r := rlv (lvl o)) hob htk4)
    refine ih (i + 1) hp8 _ _ _ _ (Z + 10 * pre.length + tsz t + 10) (c + pre.length + 1) hr (by exact Nat.le_antisymm (le1 (eL hir)) (le1 (eR hir))) (by simp only [List.length_append, List.length_map, List.length_cons, List.length_nil]; exact le4 hz htl (eL e1) hxs) (by exact le5 hZ hsz (Nat.mul_le_mul_left 10 htl) (Nat.mul_le_mul_left 10 (eL e1)) (Nat.mul_le_mul_left 10 hxs)) m8 (by simp only [nb, if_neg htk4]; exact Nat.le_antisymm (le1 (eL c7)) (le1 (eR c7))) (g7.other u₈ w₇.nw) w₈ (K₇.mine hw u₈) fun seg tail hp' s' a1 a2 a3 a4 a5 a6 a7 a8 a9 a10 a11 a12 a13 a14 a15 a16 a17 => ?_
    have hin : s3.inner = s.inner := by rw [f1, e3]
    have ei3 : ∀ (k : Nat) (mm : Int) (bad : Option Err), inB { k := k, mix := mm, inner := s3.inner, bad := bad, room := s3.room } = inB s := fun _ _ _ => by unfold inB; dsimp only; rw [hin]
    dsimp only at a2 a5 a8 a10 a11 a12 a13
    rw [ei3] at a2 a5
    rw [eb] at a10 a11 a12 a13
    refine hq ⟨pre, ts, t, b⟩ ((o, tk, seg) :: tail) hp' s' (by simp only [List.length_cons]; exact Nat.le_antisymm (le1 (eL a1)) (le1 (eR a1))) hsg (by dsimp only; exact le2 (eL e1) hxs) ?_ ?_ ?_ ?_ (by rw [a8, hin]) ?_ a10 a11 ?_ a13 a14 ?_ ?_ hfst
    ·intro x hx
     rcases List.mem_cons.mp hx with rfl | hx
     ·exact a3
     ·exact a4 x hx
    ·intro x hx
     rcases List.mem_cons.mp hx with rfl | hx
     ·exact ⟨htk1, hob, fun q => by rw [htk3] at q; have := hnl q; rw [hin] at this; exact decide_eq_true this, a2⟩
     ·exact a5 x hx
    ·intro x hx
     rcases List.mem_cons.mp hx with rfl | hx
     ·exact hlv
     ·exact a6 x hx
    ·intro x hx
     rcases List.mem_cons.mp hx with rfl | hx
     ·exact htk4
     ·exact a7 x hx
    ·have e : toks ++ List.map (fun x => x.2) pre ++ ts ++ [tk] ++ (zB seg ++ qe tail) = toks ++ (zB ⟨pre, ts, t, b⟩ ++ qe ((o, tk, seg) :: tail)) := by
      simp only [zB, qe, List.append_assoc, List.cons_append, List.nil_append]
     rw [e] at a9; exact a9
    ·refine a12.mono ?_ (by simp only [List.length_cons]; exact le2 (eL e1) hxs)
     simp only [zB, qe, List.length_append, List.length_map, List.length_cons] at *
     exact le1 hsz
    ·simp only [zB, qe, List.length_append, List.length_map, List.length_cons, szT] at *
     exact le2 a15 hsz
    ·rw [er]
     simp only [zB, qe, List.length_append, List.length_map, List.length_cons] at *
     exact le4 a16 htl (eL e1) hxs
   refine Zv (fun q3 => ?_) (fun q3 => ?_)
   ·walk_at "g"
    refine wY hl7 (vU hob) ?_
    walk_at "g"
    refine ⟨by walk_at "p", ?_⟩
    have := fin
    unfold rlv at this
    rw [if_pos q3] at this
    refine qk (this _ (by repeat (first | exact Sub.refl | refine Sub.cons rfl ?_))) (fun _ l' hp' x => ?_) fun _ _ _ x => x
    walk_at "g"
    exact x
   ·walk_at "g"
    refine wY hl7 (vU hob) ?_
    walk_at "g"
    refine ⟨by walk_at "p", ?_⟩
    have := fin
    unfold rlv at this
    rw [if_neg q3] at this
    refine qk (this _ (by repeat (first | exact Sub.refl | refine Sub.cons rfl ?_))) (fun _ l' hp' x => ?_) fun _ _ _ x => x
    walk_at "g"
    exact x
  ·rename_i q
   have hr : r = 0 := by simp at q; exact Nat.le_antisymm (le2 (eL hir) q) (le0)
   subst hr
   refine vM (ve (l' := rowL G d least lj opsl wj dj count) (by repeat (first | exact Sub.refl | refine Sub.cons rfl ?_)) ?_)
   refine j4 ?_
   have e : toks ++ List.map (fun x => x.2) pre ++ ts = toks ++ (zB ⟨pre, ts, t, b⟩ ++ qe []) := by simp only [zB, qe, List.append_assoc, List.append_nil]
   rw [e] at g₄
   refine hq ⟨pre, ts, t, b⟩ [] hp4 s3 rfl hsg (by dsimp only; exact le2 (eL e1) hxs) (fun x hx => nomatch hx) (fun x hx => nomatch hx) (fun x hx => nomatch hx) (fun x hx => nomatch hx) (by rw [f1, e3]) g₄ eb w₄ ?_ c4 K₄ ?_ ?_ hfst
   ·refine m4.mono ?_ (by simp only [List.length_nil]; exact le2 (eL e1) hxs)
    simp only [zB, qe, List.length_append, List.length_map, List.length_nil]
    exact le1 hsz
   ·simp only [zB, qe, List.length_append, List.length_map, List.length_nil, szT]
    exact le1 hsz
   ·simp only [zB, qe, List.length_append, List.length_map, List.length_nil]
    exact le4 htl (eR er) (eL e1) hxs
end
noncomputable def jU (NG d TR DR NR : Nat) : Prop := ∀ (n : Nat) (hp : Hp) (G : GX) (s : GS) (toks : List Tk) (level : Int) (Q : V -> Hp -> Prop) (E : V -> V -> Hp -> Prop), NG <= n -> level = 1 \/ level = 3 -> GAt G hp s toks -> toks.length + TR <= 1000000 ->
  (∀ hp' s' ts t b, s'.inner = s.inner -> s'.bad = orB s.bad b -> GAt G hp' s' (toks ++ ts) -> qx G hp hp' -> wft t -> tdp t <= DR -> tsz t <= 10 * ts.length -> ts.length <= TR -> Q1 NR (d + 1) (inB s) level ts t b -> (level = 3 -> kY ts) -> Q (qp t) hp') ->
  Call n .lawRow [.ref G.pc, .ref G.wc, .int d, .int level] hp Q E
theorem Jz : ∀ tail : q0, (∀ x ∈ tail, x.2.2.pre.length <= 2) -> vp tail <= 2 * tail.length /\ cnT tail <= 3 * tail.length
 | [], _ => ⟨Nat.le_refl _, Nat.le_refl _⟩
 | (o, tk, seg) :: r, h => by
  obtain ⟨h1, h2⟩ := Jz r fun x hx => h x (.tail _ hx)
  have h3 : seg.pre.length <= 2 := h _ (.head _)
  simp only [vp, cnT, List.length_cons]
  exact ⟨le2 h1 h3, le2 h2 h3⟩
section
variable {hp : Hp} {E : V -> V -> Hp -> Prop} {l : Nv}
theorem Q0 {Q : V -> Nv -> Hp -> Prop} {c : M Bool} {a b : Int} (h : W c l hp (fun t l hp => Q (.int (if t then a else b)) l hp) E) : W (eIf c (pure (.int a)) (pure (.int b))) l hp Q E :=
 W_eIf (qk h (fun t _ _ q => by cases t; exact Zu (qr q); exact yN (qr q)) fun _ _ _ e => e)
theorem W_sOps {Q : Fl -> Nv -> Hp -> Prop} {y lv le j : Nat} {kv : Nv} {m : Int} {xs : List V} (l1 : l.lookup lv = some (.ref j)) (l2 : l.lookup le = some (.int m)) (e : hp[j]? = some (.dct (FL kv))) (h1 : (FL kv).all (fun p => Qg p.2) = true) (h2 : kv.length <= zh) (h3 : ((FL kv).map (·.1)).Nodup)
  (h4 : ((FL kv).filter fun p => kw m p.2).map (fun p => V.str p.1) = xs) (h : Q .nxt ((y, .lst xs) :: l) hp) : W (sOps (nm y) (nm lv) (nm le)) l hp Q E := by
 unfold sOps
 refine qS (kD l1 (qS (kD l2 (qS ⟨fun lc hl => ?_⟩))))
 have : pOps (nm y) (.ref j) (.int m) ⟨lc, hp⟩ = xL (nm y) (.lst xs) ⟨lc, hp⟩ := by
  unfold pOps
  simp only [dictAt, e]
  rw [if_pos ⟨h1, by rw [show (FL kv).length = kv.length from List.length_map _]; exact h2, h3⟩, h4]
 rw [this]
 exact (vc (E := E) (Q := fun _ l hp => W (pure .nxt) l hp Q E) (qr h)).go lc hl
end
theorem lv_int : (FL jR).all (fun p => Qg p.2) = true := rfl
theorem lv_nodup : ((FL jR).map (·.1)).Nodup := by
 have e : (FL jR).map (·.1) = zb.map nm := by simp only [FL, jR, List.map_map]; rfl
 rw [e]
 exact List.Pairwise.map nm (fun a b h => ZS h) (by decide : zb.Nodup)
noncomputable def xl (level : Int) : List Nat := if level = 1 then zb else zb.drop 2
theorem ops_from {level : Int} (h : level = 1 \/ level = 3) : ((FL jR).filter fun p => kw level p.2).map (fun p => V.str p.1) = nms (xl level) /\ (∀ o ∈ xl level, o ∈ zb /\ level <= lvl o) /\ 0 < (xl level).length /\ (xl level).length <= 100 := by
 rcases h with rfl | rfl
 ·exact ⟨rfl, by decide, by decide, by decide⟩
 ·exact ⟨rfl, by decide, by decide, by decide⟩
theorem JU {NG d TB DB NB C : Nat} (hC : C = if d = 0 then 4 else 2) (h6 : 6 <= NB) (hNG : 6 <= NG) (hz : 10 * ((C + 1) * (TB + 3)) <= 4000000) (H : Q2 NG d TB DB NB) : jU (NG + 1) d ((C + 1) * (TB + 3)) (DB + 2 + 3 * C) (5 * C + 6 + NB) := by
 refine fun n hp G s toks level Q E hn hl g ht hq => ?_
 obtain ⟨m, rfl⟩ := Nat.exists_eq_add_of_le' (by walk_at "l" : 1 <= n)
 obtain ⟨o1, o2, o3, o4⟩ := ops_from hl
 refine qh [136, 143, 164, 158] none (xz (run m)) rfl rfl ?_
 simp only [List.zip_cons_cons, List.zip_nil_left, List.zip_nil_right]
 rw [KK]
 walk_at "g"
 refine qI (Qb (by exact le2 hNG hn) fun hp₁ j u₁ hj0 hj => ?_)
 walk_at "g"
 refine W_sOps (kv := jR) (by walk_at "look") (by walk_at "look") hj lv_int (by refine pLe ?_; decide) lv_nodup o1 ?_
 have g₁ := g.grow u₁
 have lt : ∀ (i : Nat) (c : jE), hp[i]? = some c -> i < hp.length := fun i c e => (List.getElem?_eq_some_iff.mp e).1
 have b1 := lt _ _ g.pool
 have b2 := lt _ _ g.figs
 have b3 := lt _ _ g.world
 have b4 := lt _ _ g.toks
 have b5 := u₁.len
 walk_at "g"
 refine ⟨by walk_at "p", fun hp₂ u₂ => ?_⟩
 walk_at "g"
 refine ⟨by walk_at "p", fun hp3 u₃ => ?_⟩
 have b6 := u₂.len
 have g₃ := (g₁.new u₂).new u₃
 have K₃ : qx G hp₁ hp3 := (qx.new u₂).trans (.new u₃)
 have w₃ : Wk G hp3 hp₁.length hp₂.length [] [] := ⟨u₃.keep u₂.at_, u₃.at_, by exact Nat.ne_of_lt (lt1 (eR b6)), by exact ⟨Nat.ne_of_gt (lt2 (sL b1) b5), ⟨Nat.ne_of_gt (lt2 (sL b2) b5), ⟨Nat.ne_of_gt (lt2 (sL b3) b5), Nat.ne_of_gt (lt2 (sL b4) b5)⟩⟩⟩, by exact ⟨Nat.ne_of_gt (lt3 (sL b1) b5 (eR b6)), ⟨Nat.ne_of_gt (lt3 (sL b2) b5 (eR b6)), ⟨Nat.ne_of_gt (lt3 (sL b3) b5 (eR b6)), Nat.ne_of_gt (lt3 (sL b4) b5 (eR b6))⟩⟩⟩⟩
 refine qY (zR (Qw (qS (wZ (kD (by walk_at "look") (wZ (Q0 ?_)))))))
 walk_at "g"
 refine qI (zt (b := if ((d : Int) == 0) = true then 5 else 3) (by exact le2 hNG hn) (by split <;> decide) g₃ fun v k mm hp4 v0 v1 g₄ K₄ => ?_)
 have v2 : v <= C := by
  by_cases q : d = 0
  ·subst q
   have : ((((0 : Nat)) : Int) == 0) = true := rfl
   rw [if_pos this] at v1
   rw [if_pos rfl] at hC
   lia
  ·have : ¬ ((d : Int) == 0) = true := by simpa using q
   rw [if_neg this] at v1
   rw [if_neg q] at hC
   lia
 have hCC : C <= 4 := by rw [hC]; split <;> decide
 obtain ⟨c, rfl⟩ : ∃ c : Nat, v = c := ⟨v.toNat, by lia⟩
 walk_at "g"
 refine kW (by walk_at "l") (by walk_at "l") ?_
 have er : zo ((c : Int) + 1) = (List.range' 0 (c + 1)).map fun k => V.int (Int.ofNat k) := by
  unfold zo
  rw [show ((c : Int) + 1).toNat = c + 1 by lia, List.range_eq_range']
 rw [er]
 have hmul : (c + 1) * (TB + 3) <= (C + 1) * (TB + 3) := Nat.mul_le_mul_right _ (by walk_at "l")
 refine w_row (n := m) (hp₀ := hp₁) (NG := NG) (d := d) (TB := TB) (DB := DB) (NB := NB) (least := level) (opsl := xl level) (lj := j) (wj := hp₁.length) (dj := hp₂.length) (count := c) H (by exact le1 hn) (by exact le2 hNG hn) (Nat.le_refl _) (by exact le1 (eR b6)) hj (by exact ⟨Nat.ne_of_gt (lt2 (sL b1) hj0), ⟨Nat.ne_of_gt (lt2 (sL b3) hj0), Nat.ne_of_gt (lt2 (sL b4) hj0)⟩⟩) o2 o3 o4 (c + 1) 0 hp4 _ toks [] [] 0 0 (by walk_at "l") (by exact Nat.le_antisymm (le0) (le0)) (by exact le2 hmul ht) (by exact le2 (Nat.mul_le_mul_left 10 hmul) hz) ⟨fun x hx => (nomatch hx), fun x hx => (nomatch hx), Nat.le_refl _, fun x hx => (nomatch hx), Nat.le_refl _⟩ rfl g₄ (w₃.keep K₄) (K₃.trans K₄) fun seg tail hp5 s5 a1 a2 a3 a4 a5 a6 a7 a8 g₅ a10 w₅ m₅ c₅ K₅ a15 a16 a17 => ?_
 dsimp only at a2 a5 a8 a10 g₅ w₅ m₅ c₅
 have ei : inB { k := k, mix := mm, inner := s.inner, bad := s.bad, room := s.room } = inB s := rfl
 rw [ei] at a2 a5
 walk_at "g"
 have hZ5 : 0 + 10 * (zB seg ++ qe tail).length <= 4000000 := by exact le3 (Nat.mul_le_mul_left 10 a16) (Nat.mul_le_mul_left 10 hmul) hz
 refine w_redAll (n := m) (hp₀ := hp₁) (by exact le2 hNG hn) hZ5 (Nat.le_refl _) (by exact le1 (eR b6)) _ _ wf hp5 s5 _ (by have := m₅.sz; have : wf = 1000000 := rfl; lia) m₅ c₅ (by walk_at "look") (by walk_at "look") (by walk_at "look") g₅ w₅ K₅ fun hp6 g6 w₆ K₆ => ?_
 obtain ⟨t, f1, f2, f3, f4⟩ := Kg _ _ s5.bad m₅ c₅
 rw [f1] at w₆
 have hd6 : hp6[hp₂.length]? = some (.lst [qp t]) := w₆.d
 walk_at "g"
 rw [a10, <- ops_runT] at f1 g6
 obtain ⟨e1, e2⟩ := shift_orB (pre := seg.pre) (seg := seg) (tail := tail) (b := s.bad)
 rw [e2] at g6
 rw [e1] at f1
 obtain ⟨n1, n2⟩ := Jz tail a4
 obtain ⟨r1, r2⟩ := row_rd (N := NB) (L := d + 1) (B := DB) (inb := inB s) h6 (level := level) (seg := seg) (tail := tail) (t := t) (k := 5 * C + 6) (by walk_at "l") a6 a7 a2 a5 (by exact le2 a15 hZ5) (by walk_at "l") f1
 exact hq hp6 { s5 with bad := orB s.bad (kG [] [] none seg.pre seg tail).2 } _ t _ a8 rfl g6 ((qx.grow u₁).trans K₆) f2 (by walk_at "l") (by exact le1 f3) (by exact le2 a16 hmul) r1 fun h3 => first_row a17 a2.pre a5 (by subst h3; exact a6)
theorem jg (b : Option Err) : orB b none = b := by cases b <;> rfl
theorem wo (a b c : Option Err) : orB (orB a b) c = orB a (orB b c) := by cases a <;> rfl
section
variable {n : Nat} {hp : Hp} {E : V -> V -> Hp -> Prop} {G : GX} {s : GS} {toks : List Tk}
theorem GAt.innerSet {k : Nat} {hp' : Hp} (g : GAt G hp s toks) (u : Upd hp G.wc (.dct (FL [(13, .ref G.tc), (145, .int (k : Int)), (151, XC s.bad), (172, .int s.room), (127, .lst (G.wf.map .int))])) hp') : GAt G hp' { s with inner := k } toks :=
 ⟨u.keep g.pool g.world (by intro q; cases q), u.keep g.figs g.world (by intro q; cases q), u.at_, u.keep g.toks g.world (by intro q; cases q), g.ne, g.sz, g.eok⟩
theorem GAt.roomSet {k : Int} {hp' : Hp} (g : GAt G hp s toks) (u : Upd hp G.wc (.dct (FL [(13, .ref G.tc), (145, .int (s.inner : Int)), (151, XC s.bad), (172, .int k), (127, .lst (G.wf.map .int))])) hp') : GAt G hp' { s with room := k } toks :=
 ⟨u.keep g.pool g.world (by intro q; cases q), u.keep g.figs g.world (by intro q; cases q), u.at_, u.keep g.toks g.world (by intro q; cases q), g.ne, g.sz, g.eok⟩
theorem QD {l : Nv} {Q : Fl -> Nv -> Hp -> Prop} (l143 : l.lookup 143 = some (.ref G.wc)) (g : GAt G hp s toks) (h : ∀ hp', GAt G hp' { s with inner := s.inner + 1 } toks -> qx G hp hp' -> Q .nxt l hp') : W (jQ .Add (qD (nm 143)) (pure (.str (nm 145))) (pure (.int 1))) l hp Q E := by
 have hw := g.world
 walk_at "g"
 refine vz hw (by walk_at "p") fun hp₁ u₁ => ?_
 exact h hp₁ (g.innerSet (k := s.inner + 1) u₁) (.upd u₁ (.inr (.inl rfl)))
theorem vh {l : Nv} {Q : Fl -> Nv -> Hp -> Prop} (l143 : l.lookup 143 = some (.ref G.wc)) (hi : 0 < s.inner) (g : GAt G hp s toks) (h : ∀ hp', GAt G hp' { s with inner := s.inner - 1 } toks -> qx G hp hp' -> Q .nxt l hp') : W (jQ .Sub (qD (nm 143)) (pure (.str (nm 145))) (pure (.int 1))) l hp Q E := by
 have hw := g.world
 walk_at "g"
 have e : (s.inner : Int) - 1 = ((s.inner - 1 : Nat) : Int) := by lia
 rw [e]
 refine vz hw (by walk_at "p") fun hp₁ u₁ => ?_
 exact h hp₁ (g.innerSet (k := s.inner - 1) u₁) (.upd u₁ (.inr (.inl rfl)))
theorem w_roomSub {l : Nv} {Q : Fl -> Nv -> Hp -> Prop} (l143 : l.lookup 143 = some (.ref G.wc)) (g : GAt G hp s toks) (h : ∀ hp', GAt G hp' { s with room := s.room - 1 } toks -> qx G hp hp' -> Q .nxt l hp') : W (jQ .Sub (qD (nm 143)) (pure (.str (nm 172))) (pure (.int 1))) l hp Q E := by
 have hw := g.world
 walk_at "g"
 refine vz hw (by walk_at "p") fun hp₁ u₁ => ?_
 exact h hp₁ (g.roomSet (k := s.room - 1) u₁) (.upd u₁ (.inr (.inl rfl)))
theorem w_deep {l : Nv} {d : Nat} {Q : Bool -> Nv -> Hp -> Prop} (l143 : l.lookup 143 = some (.ref G.wc)) (l164 : l.lookup 164 = some (.int d)) (g : GAt G hp s toks) (h : ∀ t, (t = true -> d < 3) -> Q t l hp) :
  W (jG (qi .Lt (qD (nm 164)) (pure (.int 3))) (jG (qi .Gt (qV (qD (nm 143)) (pure (.str (nm 172)))) (pure (.int 0))) (pure true))) l hp Q E := by
 have hw := g.world
 walk_at "g"
 ·exact h true (fun _ => by lia)
 ·exact h false (fun q => nomatch q)
 ·exact h false (fun q => nomatch q)
end
noncomputable def yW (NG d TR DR NR : Nat) : Prop := ∀ (n : Nat) (hp : Hp) (G : GX) (s : GS) (toks : List Tk) (Q : V -> Hp -> Prop) (E : V -> V -> Hp -> Prop), NG <= n -> GAt G hp s toks -> toks.length + (TR + 2) <= 1000000 ->
  (∀ hp' s' tk0 tk1 ts t b, tk0.tv = .op 75 -> (tk0.nl = true -> inB s = true) -> tk1.tv = .op 114 -> s'.inner = s.inner -> s'.bad = orB s.bad b -> GAt G hp' s' (toks ++ (tk0 :: (ts ++ [tk1]))) -> qx G hp hp' -> wft t -> tdp t <= DR -> tsz t <= 10 * ts.length -> ts.length <= TR -> Q1 NR (d + 2) true 1 ts t b -> Q (qp (.call [.name 75, t] [.none, .none])) hp') ->
  Call n .lawBracketed [.ref G.pc, .ref G.wc, .int d] hp Q E
theorem br_spec {NG d TR DR NR : Nat} (h2 : 2 <= NG) (H : jU NG (d + 1) TR DR NR) : yW (NG + 1) d TR DR NR := by
 refine fun n hp G s toks Q E hn g ht hq => ?_
 obtain ⟨m, rfl⟩ := Nat.exists_eq_add_of_le' (by walk_at "l" : 1 <= n)
 refine qh [136, 143, 164] none (ji (run m)) rfl rfl ?_
 simp only [List.zip_cons_cons, List.zip_nil_left, List.zip_nil_right]
 unfold ji
 walk_at "g"
 refine qI (zc (tv := .op 75) (by exact le2 h2 hn) (by exact le1 ht) g fun nl k mm hp₁ hnl g₁ K₁ => ?_)
 refine qY (zR (QD (by walk_at "look") g₁ fun hp₂ g₂ K₂ => ?_))
 walk_at "g"
 have ed : ((d : Int) + 1) = ((d + 1 : Nat) : Int) := rfl
 rw [ed]
 refine qI (H m hp₂ G _ _ 1 _ _ (by exact le1 hn) (.inl rfl) g₂ (by refine lA1 ?_; exact le1 ht) fun hp3 s3 ts t b e1 e2 g₃ K₃ wt hdp hsz htl hrd _ => ?_)
 dsimp only at e1 e2
 walk_at "g"
 refine qI (zc (tv := .op 114) (by exact le2 h2 hn) (by simp only [List.length_append, List.length_cons, List.length_nil]; exact le2 htl ht) g₃ fun nl' k' mm' hp4 hnl' g₄ K₄ => ?_)
 refine qY (zR (vh (by walk_at "look") (by dsimp only; exact lt1 (eR e1)) g₄ fun hp5 g₅ K₅ => ?_))
 walk_at "g"
 refine ⟨by walk_at "p", ?_⟩
 walk_at "g"
 refine ⟨by walk_at "p", ?_⟩
 walk_at "g"
 refine ⟨by walk_at "p", ?_⟩
 walk_at "g"
 refine ⟨by walk_at "p", ?_⟩
 have ei : inB { k := k, mix := mm, inner := s.inner + 1, bad := s.bad, room := s.room } = true := by unfold inB; simp
 rw [ei] at hrd
 refine hq hp5 { k := k', mix := mm', inner := s3.inner - 1, bad := s3.bad, room := s3.room } (⟨.op 75, 10 * toks.length, nl⟩ : Tk) (⟨.op 114, 10 * (toks ++ [(⟨.op 75, 10 * toks.length, nl⟩ : Tk)] ++ ts).length, nl'⟩ : Tk) ts t b rfl (fun q => decide_eq_true (hnl q)) rfl (by dsimp only; lia) e2 ?_ (K₁.trans (K₂.trans (K₃.trans (K₄.trans K₅)))) wt hdp hsz htl hrd
 simpa only [List.append_assoc, List.cons_append, List.nil_append] using g₅
noncomputable def yD (NG d TP DP NP : Nat) : Prop := ∀ (n : Nat) (hp : Hp) (G : GX) (s : GS) (toks : List Tk) (Q : V -> Hp -> Prop) (E : V -> V -> Hp -> Prop), NG <= n -> GAt G hp s toks -> toks.length + TP <= 1000000 ->
  (∀ hp' s' ts t b, s'.inner = s.inner -> s'.bad = orB s.bad b -> GAt G hp' s' (toks ++ ts) -> qx G hp hp' -> wft t -> tdp t <= DP -> tsz t <= 10 * ts.length -> ts.length <= TP -> kE NP (d + 1) (inB s) ts t b -> kY ts -> Q (qp t) hp') ->
  Call n .lawPrimary [.ref G.pc, .ref G.wc, .int d] hp Q E
theorem kE.mono {N N' L inb ts t b} (h : kE N L inb ts t b) (hN : N <= N') : kE N' L inb ts t b := ⟨h.first, fun n X hp a rest ctx Q E hn => h.rd n X hp a rest ctx Q E (by exact le2 hN hn)⟩
theorem abf_get {v : Int} (h0 : 0 <= v) (h1 : v < 3) : ∃ j, j ∈ [202, 25, 203] /\ ∀ st, zS (.str (nm 179)) (.int v) st = .ok (.str (nm j)) st := by
 have : v = 0 \/ v = 1 \/ v = 2 := by lia
 rcases this with rfl | rfl | rfl
 ·exact ⟨202, by decide, fun st => by kernel_rfl⟩
 ·exact ⟨25, by decide, fun st => by kernel_rfl⟩
 ·exact ⟨203, by decide, fun st => by kernel_rfl⟩
theorem ZQ {NG d TR DR NR TP DP NP : Nat} (hd4 : d <= 3) (h3 : 3 <= NG) (hN : 6 <= NP) (hD : 1 <= DP) (hT : 1 <= TP) (hlow : d < 3 -> NR + 7 <= NP /\ DR + 1 <= DP /\ TR + 2 <= TP) (H : d < 3 -> yW NG d TR DR NR) : yD (NG + 1) d TP DP NP := by
 refine fun n hp G s toks Q E hn g ht hq => ?_
 obtain ⟨m, rfl⟩ := Nat.exists_eq_add_of_le' (by walk_at "l" : 1 <= n)
 have leafFin : ∀ (tv : Tv) (x : T) (hp' : Hp) (s' : GS) (nl : Bool), tv.ok -> leaf tv = some x -> (∀ s, tv = .id s -> s ∈ sig) -> (∀ s, tv = .str s -> s = 180) -> GAt G hp' s' (toks ++ [⟨tv, 10 * toks.length, nl⟩]) -> s'.inner = s.inner -> s'.bad = s.bad -> qx G hp hp' -> Q (qp x) hp' := by
  intro tv x hp' s' nl hok hlf hid hst g' e1 e2 K'
  obtain ⟨a1, a2, a3⟩ := leaf_wf hok hlf hid hst
  refine hq hp' s' [⟨tv, 10 * toks.length, nl⟩] x none e1 (by rw [jg]; exact e2) g' K' a1 (by exact le2 (eL a2) hD) (by simp only [List.length_cons, List.length_nil]; exact le1 (eL a3)) (by simp only [List.length_cons, List.length_nil]; exact le1 hT) ((prim_leaf hok hlf).mono hN) ⟨_, [], rfl, hok, fun o q => ?_, fun _ t1 tl' q => nomatch q⟩
  have q : tv = .op o := q
  rw [q] at hlf; cases hlf
 refine qh [136, 143, 164] none (kT (run m)) rfl rfl ?_
 simp only [List.zip_cons_cons, List.zip_nil_left, List.zip_nil_right]
 unfold kT
 refine zR (Qw (qS (wZ (kD (by walk_at "look") (wZ (Q0 (w_deep (by walk_at "look") (by walk_at "look") g fun t hdp => ?_)))))))
 walk_at "g"
 refine qI (zt (b := if t = true then 8 else 7) (by exact le2 h3 hn) (by split <;> decide) g fun v k mm hp₁ v0 v1 g₁ K₁ => ?_)
 walk_at "g"
 ·-- a name
  refine qI (zt (by exact le2 h3 hn) (by decide) g₁ fun v' k' mm' hp₂ v0' v1' g₂ K₂ => ?_)
  obtain ⟨j, hj, hget⟩ := abf_get v0' v1'
  refine z9 _ hp₂ (fun lc _ => hget _) ?_
  walk_at "g"
  refine qI (zc (tv := .id j) (by exact le2 h3 hn) (by exact le1 ht) g₂ fun nl k3 m3 hp3 hnl g₃ K₃ => ?_)
  walk_at "g"
  refine ⟨by walk_at "p", ?_⟩
  have hsg := (by decide : ∀ j ∈ [202, 25, 203], j ∈ sig /\ j < 204) j hj
  exact leafFin (.id j) (.name j) hp3 _ nl hsg.2 rfl (fun s q => by cases q; exact hsg.1) (fun s q => nomatch q) g₃ rfl rfl (K₁.trans (K₂.trans K₃))
 ·-- a number
  have hw := g₁.world
  walk_at "g"
  refine X0 (n := G.wf.length) (by simp [yd, Kc, zl, qo]) (by have := g.sz.2.2; lia) ?_
  walk_at "g"
  refine qI (zt (by exact le2 h3 hn) (by have := g.sz.2.1; lia) g₁ fun v' k' mm' hp₂ v0' v1' g₂ K₂ => ?_)
  have hlt : v'.toNat < G.wf.length := by lia
  refine zZ (xs := G.wf.map .int) (w := .int G.wf[v'.toNat]) rfl v0' (by rw [List.getElem?_map, List.getElem?_eq_getElem hlt]; rfl) (by have := g.sz.2.2; lia) ?_
  generalize G.wf[v'.toNat] = fg
  walk_at "g"
  refine ⟨by walk_at "p", ?_⟩
  walk_at "g"
  refine ⟨by walk_at "p", ?_⟩
  walk_at "g"
  obtain ⟨m, rfl⟩ := Nat.exists_eq_add_of_le' (by exact le2 h3 hn : 1 <= m)
  refine qI (k_cVector ?_)
  walk_at "g"
  refine qI (zc (tv := .num fg) (by exact le2 h3 hn) (by exact le1 ht) g₂ fun nl k3 m3 hp3 hnl g₃ K₃ => ?_)
  walk_at "g"
  refine ⟨by walk_at "p", ?_⟩
  walk_at "g"
  refine ⟨by walk_at "p", ?_⟩
  walk_at "g"
  refine ⟨by walk_at "p", ?_⟩
  exact leafFin (.num fg) (.vec 23 [.tup [.int fg, .int 1]]) hp3 _ nl trivial rfl (fun s q => nomatch q) (fun s q => nomatch q) g₃ rfl rfl (K₁.trans (K₂.trans K₃))
 ·refine zL (fun q5 => ?_) fun q5 => ?_
  ·-- a string
   walk_at "g"
   refine qI (zc (tv := .str 180) (by exact le2 h3 hn) (by exact le1 ht) g₁ fun nl k3 m3 hp3 hnl g₃ K₃ => ?_)
   walk_at "g"
   refine ⟨by walk_at "p", ?_⟩
   walk_at "g"
   refine ⟨by walk_at "p", ?_⟩
   exact leafFin (.str 180) (.vec 24 [.str (nm 180)]) hp3 _ nl (by show 180 < 204; decide) rfl (fun s q => nomatch q) (fun s q => by cases q; rfl) g₃ rfl rfl (K₁.trans K₃)
  ·walk_at "g"
   refine zL (fun q6 => ?_) fun q6 => ?_
   ·-- a word
    walk_at "gz"
    refine qI (zt (by exact le2 h3 hn) (by decide) g₁ fun v' k' mm' hp₂ v0' v1' g₂ K₂ => ?_)
    have hv : v' = 0 \/ v' = 1 \/ v' = 2 \/ v' = 3 := by lia
    rcases hv with rfl | rfl | rfl | rfl
    ·refine zZ rfl (by decide) rfl (by decide) ?_
     refine zW rfl ?_
     walk_at "g"
     refine qI (zc (tv := .key 62) (by exact le2 h3 hn) (by exact le1 ht) g₂ fun nl k3 m3 hp3 hnl g₃ K₃ => ?_)
     walk_at "g"
     exact leafFin (.key 62) (.vec 19 [.int 1]) hp3 _ nl (by show 62 < 204; decide) rfl (fun s q => nomatch q) (fun s q => nomatch q) g₃ rfl rfl (K₁.trans (K₂.trans K₃))
    ·refine zZ rfl (by decide) rfl (by decide) ?_
     refine zW rfl ?_
     walk_at "g"
     refine qI (zc (tv := .key 64) (by exact le2 h3 hn) (by exact le1 ht) g₂ fun nl k3 m3 hp3 hnl g₃ K₃ => ?_)
     walk_at "g"
     exact leafFin (.key 64) (.null) hp3 _ nl (by show 64 < 204; decide) rfl (fun s q => nomatch q) (fun s q => nomatch q) g₃ rfl rfl (K₁.trans (K₂.trans K₃))
    ·refine zZ rfl (by decide) rfl (by decide) ?_
     refine zW rfl ?_
     walk_at "g"
     refine qI (zc (tv := .key 66) (by exact le2 h3 hn) (by exact le1 ht) g₂ fun nl k3 m3 hp3 hnl g₃ K₃ => ?_)
     walk_at "g"
     exact leafFin (.key 66) (.vec 19 [.none]) hp3 _ nl (by show 66 < 204; decide) rfl (fun s q => nomatch q) (fun s q => nomatch q) g₃ rfl rfl (K₁.trans (K₂.trans K₃))
    ·refine zZ rfl (by decide) rfl (by decide) ?_
     refine zW rfl ?_
     walk_at "g"
     refine qI (zc (tv := .key 70) (by exact le2 h3 hn) (by exact le1 ht) g₂ fun nl k3 m3 hp3 hnl g₃ K₃ => ?_)
     walk_at "g"
     exact leafFin (.key 70) (.vec 23 [.tup [.int 1, .int 0]]) hp3 _ nl (by show 70 < 204; decide) rfl (fun s q => nomatch q) (fun s q => nomatch q) g₃ rfl rfl (K₁.trans (K₂.trans K₃))
   ·-- brackets
    walk_at "g"
    have hd3 : d < 3 := by
     cases t with
     | true => exact hdp rfl
     | false =>
      have : ¬ ((false : Bool) = true) := by decide
      rw [if_neg this] at v1
      have q5 : ¬ v = 5 := by simpa using q5
      have q6 : ¬ v = 6 := by simpa using q6
      lia
    obtain ⟨l1, l2, l3⟩ := hlow hd3
    refine qI (H hd3 m hp₁ G _ toks _ _ (by exact le1 hn) g₁ (by exact le2 l3 ht) fun hp₂ s2 tk0 tk1 ts t' b c0 cn c1 e1 e2 g₂ K₂ wt hdp' hsz htl hrd => ?_)
    walk_at "g"
    refine hq hp₂ s2 _ _ b e1 e2 g₂ (K₁.trans K₂) ⟨by simp, by simp, ⟨(show 75 ∈ sig by decide), wt, trivial⟩, by simp [jZ]⟩ ?_ ?_ ?_ ((prim_br (by walk_at "l") hrd c0 c1).mono l1) ?_
    ·have h1 : 1 <= tdp t' := by cases t' <;> simp [tdp]
     walk_at "dp"
    ·simp only [tsz, j5, List.length_cons, List.length_append, List.length_nil]; exact le1 hsz
    ·simp only [List.length_cons, List.length_append, List.length_nil]; exact le2 htl l3
    ·refine ⟨tk0, _, rfl, by rw [c0]; show 75 ∈ zE; decide, fun o q => ?_, fun q => ?_⟩
     ·rw [c0] at q; cases q; decide
     ·rw [c0] at q; cases q
structure jH (NR L DR : Nat) (x : Arg) : Prop where
 ok : vI NR L x
 wf : wft x.tree
 dp : tdp x.tree <= DR
 tag : jZ x.tag
noncomputable def szA : List Arg -> Nat
 | [] => 0
 | x :: r => tsz x.tree + szA r
structure Two (G : GX) (hp : Hp) (i j : Nat) (A B : List V) : Prop where
 ci : hp[i]? = some (.lst A)
 cj : hp[j]? = some (.lst B)
 ne : i ≠ j
 ni : i ≠ G.pc /\ i ≠ G.fc /\ i ≠ G.wc /\ i ≠ G.tc
 nj : j ≠ G.pc /\ j ≠ G.fc /\ j ≠ G.wc /\ j ≠ G.tc
theorem Two.keep {G hp i j A B hp'} (w : Two G hp i j A B) (K : qx G hp hp') : Two G hp' i j A B :=
 ⟨(K.old _ (List.getElem?_eq_some_iff.mp w.ci).1 w.ni.1 w.ni.2.2.1 w.ni.2.2.2).trans w.ci, (K.old _ (List.getElem?_eq_some_iff.mp w.cj).1 w.nj.1 w.nj.2.2.1 w.nj.2.2.2).trans w.cj, w.ne, w.ni, w.nj⟩
theorem Two.updI {G hp i j A B A' hp'} (w : Two G hp i j A B) (u : Upd hp i (.lst A') hp') : Two G hp' i j A' B := ⟨u.at_, (u.ne _ (Ne.symm w.ne)).trans w.cj, w.ne, w.ni, w.nj⟩
theorem Two.updJ {G hp i j A B B' hp'} (w : Two G hp i j A B) (u : Upd hp j (.lst B') hp') : Two G hp' i j A B' := ⟨(u.ne _ w.ne).trans w.ci, u.at_, w.ne, w.ni, w.nj⟩
noncomputable def XT (c : Fn -> List V -> M V) : M Fl := (u311 c)
noncomputable def Xv (c : Fn -> List V -> M V) : M Fl := (u313 c)
noncomputable def KM (c : Fn -> List V -> M V) : M Fl := (u314 c)
theorem x7 (c : Fn -> List V -> M V) : jj c = (u317 c) := rfl
noncomputable def tgT (tg : Option (Tk × Tk × Nat)) : List Tk := match tg with | some (t, e, _) => [t, e] | none => []
noncomputable def tgV (tg : Option (Tk × Tk × Nat)) : V := match tg with | some (_, _, s) => .str (nm s) | none => .none
theorem xX (tg row) : Arg.toks ⟨tg, row⟩ = tgT tg ++ rowT row := rfl
theorem tag_eq (tg row) : Arg.tag ⟨tg, row⟩ = tgV tg := rfl
section
variable {n : Nat} {E : V -> V -> Hp -> Prop} {G : GX}
noncomputable abbrev argL (G : GX) (d ij gj : Nat) : Nv := [(5, .ref gj), (2, .ref ij), (136, .ref G.pc), (143, .ref G.wc), (164, .int d)]
theorem we {hp₀ hp : Hp} {NG d TR DR NR ij gj : Nat} {its tgs : List V} {s s0 : GS} {toks : List Tk} {l l₀ : Nv} {tg : Option (Tk × Tk × Nat)} {Q : Fl -> Nv -> Hp -> Prop} (H : jU NG (d + 1) TR DR NR) (hDR : 1 <= DR) (hn : NG <= n) (h2 : 2 <= n) (hi : hp₀.length <= ij) (hg : hp₀.length <= gj) (l5 : l₀.lookup 5 = some (.ref gj)) (l2 : l₀.lookup 2 = some (.ref ij)) (l136 : l₀.lookup 136 = some (.ref G.pc)) (l143 : l₀.lookup 143 = some (.ref G.wc)) (l164 : l₀.lookup 164 = some (.int d))
  (hs : Sub l₀ l) (l119 : l.lookup 119 = some (tgV tg)) (w : Two G hp ij gj its tgs) (z1 : its.length <= 100) (z2 : tgs.length <= 100) (g : GAt G hp s (toks ++ tgT tg)) (hin : 0 < s.inner) (e1 : s.inner = s0.inner) (e2 : s.bad = s0.bad) (hz : (toks ++ tgT tg).length + TR <= 1000000) (K : qx G hp₀ hp)
  (htg : ∀ t e sx, tg = some (t, e, sx) -> t.tv.ok /\ named t.tv = true /\ vOf t.tv = .str (nm sx) /\ e.tv = .op 125) (htg2 : jZ (tgV tg))
  (hq : ∀ x hp' s', jH NR (d + 2) DR x -> tsz x.tree <= 10 * x.toks.length + 1 -> x.toks.length <= TR + 2 -> s'.inner = s0.inner -> s'.bad = orB s0.bad x.err -> GAt G hp' s' (toks ++ x.toks) -> Two G hp' ij gj (its ++ [qp x.tree]) (tgs ++ [x.tag]) -> qx G hp₀ hp' -> Q .nxt l hp') :
  W (XT (run n)) l hp Q E := by
 have m5 := hs _ _ l5
 have m2 := hs _ _ l2
 have m136 := hs _ _ l136
 have m143 := hs _ _ l143
 have m164 := hs _ _ l164
 have htl : (tgT tg).length <= 2 := by
  unfold tgT; split <;> simp
 unfold XT
 walk_at "g"
 refine vd w.cj ?_
 walk_at "g"
 refine zQ w.cj (by refine pLe ?_; exact le1 z2) fun hp₁ u₁ => ?_
 have w₁ := w.updJ u₁
 have g₁ := g.other u₁ w.nj
 have K₁ := K.mine hg u₁
 walk_at "g"
 refine vd w₁.ci ?_
 walk_at "g"
 refine qI (zt (by walk_at "l") (by decide) g₁ fun v k mm hp₂ v0 v1 g₂ K₂ => ?_)
 have w₂ := w₁.keep K₂
 walk_at "g"
 refine zL (fun q => ?_) fun q => ?_
 ·-- none
  walk_at "gz"
  refine zQ w₂.ci (by refine pLe ?_; exact le1 z1) fun hp3 u₃ => ?_
  walk_at "g"
  refine hq ⟨tg, none⟩ hp3 { k := k, mix := mm, inner := s.inner, bad := s.bad, room := s.room } ⟨⟨htg, fun ts t b q => nomatch q⟩, trivial, hDR, htg2⟩ ?_ ?_ e1 (by show s.bad = orB s0.bad none; rw [jg]; exact e2) ?_ (w₂.updI u₃) ((K₁.trans K₂).mine hi u₃)
  ·show 1 <= _; exact le0
  ·rw [xX, List.length_append]; show (tgT tg).length + 0 <= _; exact le1 htl
  ·have := g₂.other u₃ w₂.ni
   rw [xX]
   show GAt G hp3 _ (toks ++ (tgT tg ++ []))
   rw [List.append_nil]; exact this
 ·walk_at "g"
  have ed : ((d : Int) + 1) = ((d + 1 : Nat) : Int) := rfl
  rw [ed]
  refine qI (H n hp₂ G _ _ 3 _ _ hn (.inr rfl) g₂ (by walk_at "l") fun hp3 s3 ts t b f1 f2 g₃ K₃ wt hdp hsz htl3 hrd hfst => ?_)
  have w₃ := w₂.keep K₃
  refine zQ w₃.ci (by refine pLe ?_; exact le1 z1) fun hp4 u₄ => ?_
  walk_at "g"
  have ei : inB { k := k, mix := mm, inner := s.inner, bad := s.bad, room := s.room } = true := decide_eq_true hin
  rw [ei] at hrd
  refine hq ⟨tg, some (ts, t, b)⟩ hp4 s3 ⟨⟨htg, fun ts' t' b' q => by cases q; exact ⟨hrd, hfst rfl⟩⟩, wt, hdp, htg2⟩ ?_ ?_ (by rw [f1]; exact e1) (by rw [f2]; show orB s.bad b = orB s0.bad b; rw [e2]) ?_ (w₃.updI u₄) ((K₁.trans (K₂.trans K₃)).mine hi u₄)
  ·rw [xX, List.length_append]; show tsz t <= 10 * ((tgT tg).length + ts.length) + 1; exact le1 hsz
  ·rw [xX, List.length_append]; show (tgT tg).length + ts.length <= _; exact le2 htl3 htl
  ·have := g₃.other u₄ w₃.ni
   rw [xX]
   show GAt G hp4 _ (toks ++ (tgT tg ++ ts))
   rw [<- List.append_assoc]; exact this
theorem ZK {hp₀ hp : Hp} {NG d TR DR NR ij gj : Nat} {its tgs : List V} {s : GS} {toks : List Tk} {l l₀ : Nv} {Q : Fl -> Nv -> Hp -> Prop} (H : jU NG (d + 1) TR DR NR) (hDR : 1 <= DR) (hn : NG <= n) (h2 : 2 <= n) (hi : hp₀.length <= ij) (hg : hp₀.length <= gj) (l5 : l₀.lookup 5 = some (.ref gj)) (l2 : l₀.lookup 2 = some (.ref ij)) (l136 : l₀.lookup 136 = some (.ref G.pc)) (l143 : l₀.lookup 143 = some (.ref G.wc)) (l164 : l₀.lookup 164 = some (.int d)) (l1 : l₀.lookup 1 = none) (l119 : l₀.lookup 119 = none)
  (hs : Sub l₀ l) (w : Two G hp ij gj its tgs) (z1 : its.length <= 100) (z2 : tgs.length <= 100) (g : GAt G hp s toks) (hin : 0 < s.inner) (hz : toks.length + (TR + 2) <= 1000000) (K : qx G hp₀ hp)
  (hq : ∀ x hp' s' l', Sub l₀ l' -> jH NR (d + 2) DR x -> tsz x.tree <= 10 * x.toks.length + 1 -> x.toks.length <= TR + 2 -> s'.inner = s.inner -> s'.bad = orB s.bad x.err -> GAt G hp' s' (toks ++ x.toks) -> Two G hp' ij gj (its ++ [qp x.tree]) (tgs ++ [x.tag]) -> qx G hp₀ hp' -> Q .nxt l' hp') :
  W (Xv (run n)) l hp Q E := by
 have m136 := hs _ _ l136
 have m143 := hs _ _ l143
 unfold Xv
 walk_at "g"
 refine qI (zt (by walk_at "l") (by decide) g fun v k mm hp₁ v0 v1 g₁ K₁ => ?_)
 walk_at "g"
 have w₁ := w.keep K₁
 refine zL (fun q => ?_) fun q => ?_
 ·walk_at "gz"
  refine qI (zt (by walk_at "l") (by decide) g₁ fun v' k' mm' hp₂ v0' v1' g₂ K₂ => ?_)
  have w₂ := w₁.keep K₂
  have hv : v' = 0 \/ v' = 1 \/ v' = 2 := by lia
  rcases hv with rfl | rfl | rfl
  ·refine zZ rfl (by decide) rfl (by decide) ?_
   refine zW rfl ?_
   walk_at "g"
   refine qI (zc (tv := .id 183) h2 (by exact le1 hz) g₂ fun nl k3 m3 hp3 hnl g₃ K₃ => ?_)
   walk_at "g"
   generalize htk : (⟨.id 183, 10 * toks.length, nl⟩ : Tk) = tk at g₃
   have htk1 : tk.tv = .id 183 := by rw [<- htk]
   refine qI (zc (tv := .op 125) h2 (by refine lA0 ?_; exact le1 hz) g₃ fun nl4 k4 m4 hp4 hnl4 g₄ K₄ => ?_)
   refine qY (zz (qY ?_))
   generalize htk' : (⟨.op 125, 10 * (toks ++ [tk]).length, nl4⟩ : Tk) = tk' at g₄
   have htk2 : tk'.tv = .op 125 := by rw [<- htk']
   refine we (l₀ := l₀) (s0 := s) (s := { k := k4, mix := m4, inner := s.inner, bad := s.bad, room := s.room }) (tg := some (tk, tk', 183)) (toks := toks) H hDR hn h2 hi hg l5 l2 l136 l143 l164 (Sub.cons l119 (Sub.cons l1 (Sub.cons l119 hs))) zK ((w₂.keep K₃).keep K₄) z1 z2 (by show GAt G hp4 _ (toks ++ ([tk] ++ [tk'])); rw [<- List.append_assoc]; exact g₄) hin rfl rfl (by show (toks ++ [tk, tk']).length + TR <= _; rw [List.length_append]; simp only [List.length_cons, List.length_nil]; exact le1 hz) (K.trans (K₁.trans (K₂.trans (K₃.trans K₄)))) (fun t e sx q => ?_) (.inr ⟨183, by decide, rfl⟩) fun x hp' s' a1 a2 a3 a4 a5 a6 a7 a8 => hq x hp' s' _ (Sub.cons l119 (Sub.cons l1 (Sub.cons l119 hs))) a1 a2 a3 a4 a5 a6 a7 a8
   cases q
   rw [htk1]
   exact ⟨by show 183 < 204; decide, rfl, rfl, htk2⟩
  ·refine zZ rfl (by decide) rfl (by decide) ?_
   refine zW rfl ?_
   walk_at "g"
   refine qI (zc (tv := .str 184) h2 (by exact le1 hz) g₂ fun nl k3 m3 hp3 hnl g₃ K₃ => ?_)
   walk_at "g"
   generalize htk : (⟨.str 184, 10 * toks.length, nl⟩ : Tk) = tk at g₃
   have htk1 : tk.tv = .str 184 := by rw [<- htk]
   refine qI (zc (tv := .op 125) h2 (by refine lA0 ?_; exact le1 hz) g₃ fun nl4 k4 m4 hp4 hnl4 g₄ K₄ => ?_)
   refine qY (zz (qY ?_))
   generalize htk' : (⟨.op 125, 10 * (toks ++ [tk]).length, nl4⟩ : Tk) = tk' at g₄
   have htk2 : tk'.tv = .op 125 := by rw [<- htk']
   refine we (l₀ := l₀) (s0 := s) (s := { k := k4, mix := m4, inner := s.inner, bad := s.bad, room := s.room }) (tg := some (tk, tk', 184)) (toks := toks) H hDR hn h2 hi hg l5 l2 l136 l143 l164 (Sub.cons l119 (Sub.cons l1 (Sub.cons l119 hs))) zK ((w₂.keep K₃).keep K₄) z1 z2 (by show GAt G hp4 _ (toks ++ ([tk] ++ [tk'])); rw [<- List.append_assoc]; exact g₄) hin rfl rfl (by show (toks ++ [tk, tk']).length + TR <= _; rw [List.length_append]; simp only [List.length_cons, List.length_nil]; exact le1 hz) (K.trans (K₁.trans (K₂.trans (K₃.trans K₄)))) (fun t e sx q => ?_) (.inr ⟨184, by decide, rfl⟩) fun x hp' s' a1 a2 a3 a4 a5 a6 a7 a8 => hq x hp' s' _ (Sub.cons l119 (Sub.cons l1 (Sub.cons l119 hs))) a1 a2 a3 a4 a5 a6 a7 a8
   cases q
   rw [htk1]
   exact ⟨by show 184 < 204; decide, rfl, rfl, htk2⟩
  ·refine zZ rfl (by decide) rfl (by decide) ?_
   refine zW rfl ?_
   walk_at "g"
   refine qI (zc (tv := .key 64) h2 (by exact le1 hz) g₂ fun nl k3 m3 hp3 hnl g₃ K₃ => ?_)
   walk_at "g"
   generalize htk : (⟨.key 64, 10 * toks.length, nl⟩ : Tk) = tk at g₃
   have htk1 : tk.tv = .key 64 := by rw [<- htk]
   refine qI (zc (tv := .op 125) h2 (by refine lA0 ?_; exact le1 hz) g₃ fun nl4 k4 m4 hp4 hnl4 g₄ K₄ => ?_)
   refine qY (zz (qY ?_))
   generalize htk' : (⟨.op 125, 10 * (toks ++ [tk]).length, nl4⟩ : Tk) = tk' at g₄
   have htk2 : tk'.tv = .op 125 := by rw [<- htk']
   refine we (l₀ := l₀) (s0 := s) (s := { k := k4, mix := m4, inner := s.inner, bad := s.bad, room := s.room }) (tg := some (tk, tk', 64)) (toks := toks) H hDR hn h2 hi hg l5 l2 l136 l143 l164 (Sub.cons l119 (Sub.cons l1 (Sub.cons l119 hs))) zK ((w₂.keep K₃).keep K₄) z1 z2 (by show GAt G hp4 _ (toks ++ ([tk] ++ [tk'])); rw [<- List.append_assoc]; exact g₄) hin rfl rfl (by show (toks ++ [tk, tk']).length + TR <= _; rw [List.length_append]; simp only [List.length_cons, List.length_nil]; exact le1 hz) (K.trans (K₁.trans (K₂.trans (K₃.trans K₄)))) (fun t e sx q => ?_) (.inr ⟨64, by decide, rfl⟩) fun x hp' s' a1 a2 a3 a4 a5 a6 a7 a8 => hq x hp' s' _ (Sub.cons l119 (Sub.cons l1 (Sub.cons l119 hs))) a1 a2 a3 a4 a5 a6 a7 a8
   cases q
   rw [htk1]
   exact ⟨by show 64 < 204; decide, rfl, rfl, htk2⟩
 ·refine zz (qY ?_)
  refine we (l₀ := l₀) (s0 := s) (s := { k := k, mix := mm, inner := s.inner, bad := s.bad, room := s.room }) (tg := none) (toks := toks) H hDR hn h2 hi hg l5 l2 l136 l143 l164 (Sub.cons l119 hs) zK w₁ z1 z2 (by show GAt G hp₁ _ (toks ++ []); rw [List.append_nil]; exact g₁) hin rfl rfl (by show (toks ++ []).length + TR <= _; rw [List.append_nil]; exact le1 hz) (K.trans K₁) (fun t e sx q => nomatch q) (.inl rfl) fun x hp' s' a1 a2 a3 a4 a5 a6 a7 a8 => hq x hp' s' _ (Sub.cons l119 hs) a1 a2 a3 a4 a5 a6 a7 a8
set_option tactic.hygienic true in
theorem w_args {hp₀ : Hp} {NG d TR DR NR ij gj : Nat} {Q : Fl -> Nv -> Hp -> Prop} (H : jU NG (d + 1) TR DR NR) (hDR : 1 <= DR) (hn : NG <= n) (h2 : 2 <= n) (hi : hp₀.length <= ij) (hg : hp₀.length <= gj) :
  ∀ (r i : Nat) (hp : Hp) (s : GS) (toks : List Tk) (its tgs : List V), 1 <= i -> toks.length + r * (TR + 3) <= 1000000 -> its.length + r <= 100 -> tgs.length + r <= 100 -> GAt G hp s toks -> 0 < s.inner -> Two G hp ij gj its tgs -> qx G hp₀ hp ->
   (∀ (xs : List (Tk × Arg)) hp' s', xs.length = r -> (∀ y ∈ xs, y.1.tv = .op 121 /\ jH NR (d + 2) DR y.2) -> szA (xs.map (·.2)) <= 10 * (qj xs).length -> (qj xs).length <= r * (TR + 3) -> s'.inner = s.inner -> s'.bad = orB s.bad (q7 (xs.map (·.2))) -> GAt G hp' s' (toks ++ qj xs) ->
    Two G hp' ij gj (its ++ (xs.map (·.2)).map fun y => qp y.tree) (tgs ++ (xs.map (·.2)).map Arg.tag) -> qx G hp₀ hp' -> Q .nxt (argL G d ij gj) hp') ->
   W (jI (nm 134) (KM (run n)) ((List.range' i r).map fun k => V.int (Int.ofNat k))) (argL G d ij gj) hp Q E := by
 intro r
 induction r with
 | zero =>
  intro i hp s toks its tgs h1 hz z1 z2 g hin w K hq
  refine j4 (hq [] hp s rfl (fun y hy => nomatch hy) (Nat.le_refl _) (Nat.zero_le _) rfl (by show s.bad = orB s.bad none; rw [jg]) ?_ ?_ K)
  ·show GAt G hp s (toks ++ []); rw [List.append_nil]; exact g
  ·simpa using w
 | succ r ih =>
  intro i hp s toks its tgs h1 hz z1 z2 g hin w K hq
  have er : (r + 1) * (TR + 3) = r * (TR + 3) + (TR + 3) := Nat.succ_mul _ _
  rw [er] at hz
  refine kz ?_
  unfold KM
  walk_at "g"
  ·refine qI (zc (tv := .op 121) h2 (by exact le1 hz) g fun nl k mm hp₁ hnl g₁ K₁ => ?_)
   refine qY (zz (qY ?_))
   generalize htk : (⟨.op 121, 10 * toks.length, nl⟩ : Tk) = tk at g₁
   have htk1 : tk.tv = .op 121 := by rw [<- htk]
   refine ZK (l₀ := argL G d ij gj) (s := { k := k, mix := mm, inner := s.inner, bad := s.bad, room := s.room }) (toks := toks ++ [tk]) H hDR hn h2 hi hg rfl rfl rfl rfl rfl rfl rfl (Sub.cons rfl .refl) (w.keep K₁) (by exact le1 z1) (by exact le1 z2) g₁ hin (by refine lA1 ?_; exact le1 hz) (K.trans K₁) fun x hp₂ s2 l₂ hl a1 a2 a3 a4 a5 a6 a7 a8 => ?_
   dsimp only at a4 a5
   refine vM (ve hl ?_)
   refine ih (i + 1) hp₂ s2 (toks ++ [tk] ++ x.toks) _ _ (by walk_at "l") (by simp only [List.length_append, List.length_cons, List.length_nil]; exact le2 hz a3) (by refine lA1 ?_; exact le1 z1) (by refine lA1 ?_; exact le1 z2) a6 (by exact lt2 (sL hin) (eR a4)) a7 a8 fun xs hp' s' b1 b2 b3 b4 b5 b6 b7 b8 b9 => ?_
   refine hq ((tk, x) :: xs) hp' s' (by simp only [List.length_cons]; exact Nat.le_antisymm (le1 (eL b1)) (le1 (eR b1))) (fun y hy => ?_) ?_ ?_ (by exact Nat.le_antisymm (le2 (eL b5) (eL a4)) (le2 (eR a4) (eR b5))) ?_ ?_ ?_ b9
   ·rcases List.mem_cons.mp hy with rfl | hy
    ·exact ⟨htk1, a1⟩
    ·exact b2 y hy
   ·simp only [List.map_cons, szA, qj, List.length_cons, List.length_append]; exact le2 b3 a2
   ·rw [er]; simp only [qj, List.length_cons, List.length_append]; exact le2 b4 a3
   ·rw [b6, a5, wo]; rfl
   ·have e : toks ++ [tk] ++ x.toks ++ qj xs = toks ++ qj ((tk, x) :: xs) := by simp only [qj, List.append_assoc, List.cons_append, List.nil_append]
    rw [e] at b7; exact b7
   ·simpa only [List.map_cons, List.append_assoc, List.cons_append, List.nil_append] using b8
  ·rename_i q
   exact absurd (show (0 : Int) < Int.ofNat i by simp; exact lt1 h1) q
end
noncomputable def k7 (NG d TR DR NR : Nat) : Prop := ∀ (n : Nat) (hp : Hp) (G : GX) (s : GS) (toks : List Tk) (Q : V -> Hp -> Prop) (E : V -> V -> Hp -> Prop), NG <= n -> GAt G hp s toks -> 0 < s.inner -> toks.length + 3 * (TR + 3) <= 1000000 ->
  (∀ (x : Arg) (xs : List (Tk × Arg)) i j hp' s', xs.length <= 2 -> jH NR (d + 2) DR x -> (∀ y ∈ xs, y.1.tv = .op 121 /\ jH NR (d + 2) DR y.2) -> szA (x :: xs.map (·.2)) <= 10 * (x.toks ++ qj xs).length + 1 -> (x.toks ++ qj xs).length <= 3 * (TR + 3) -> s'.inner = s.inner -> s'.bad = orB s.bad (q7 (x :: xs.map (·.2))) -> GAt G hp' s' (toks ++ (x.toks ++ qj xs)) ->
   Two G hp' i j ((x :: xs.map (·.2)).map fun y => qp y.tree) ((x :: xs.map (·.2)).map Arg.tag) -> hp.length <= i -> hp.length <= j -> qx G hp hp' -> Q (.tup [.ref i, .ref j]) hp') ->
  Call n .lawArguments [.ref G.pc, .ref G.wc, .int d] hp Q E
theorem args_spec {NG d TR DR NR : Nat} (h2 : 2 <= NG) (hDR : 1 <= DR) (H : jU NG (d + 1) TR DR NR) : k7 (NG + 1) d TR DR NR := by
 refine fun n hp G s toks Q E hn g hin ht hq => ?_
 obtain ⟨m, rfl⟩ := Nat.exists_eq_add_of_le' (by walk_at "l" : 1 <= n)
 refine qh [136, 143, 164] none (jj (run m)) rfl rfl ?_
 simp only [List.zip_cons_cons, List.zip_nil_left, List.zip_nil_right]
 rw [x7]
 have lt : ∀ (i : Nat) (c : jE), hp[i]? = some c -> i < hp.length := fun i c e => (List.getElem?_eq_some_iff.mp e).1
 have b1 := lt _ _ g.pool
 have b2 := lt _ _ g.figs
 have b3 := lt _ _ g.world
 have b4 := lt _ _ g.toks
 walk_at "g"
 refine ⟨by walk_at "p", fun hp₁ u₁ => ?_⟩
 walk_at "g"
 refine ⟨by walk_at "p", fun hp₂ u₂ => ?_⟩
 have b5 := u₁.len
 have g₂ := (g.new u₁).new u₂
 have K₂ : qx G hp hp₂ := (qx.new u₁).trans (.new u₂)
 have w₂ : Two G hp₂ hp.length hp₁.length [] [] := ⟨u₂.keep u₁.at_, u₂.at_, by exact Nat.ne_of_lt (lt1 (eR b5)), by exact ⟨Nat.ne_of_gt (lt1 (sL b1)), ⟨Nat.ne_of_gt (lt1 (sL b2)), ⟨Nat.ne_of_gt (lt1 (sL b3)), Nat.ne_of_gt (lt1 (sL b4))⟩⟩⟩, by exact ⟨Nat.ne_of_gt (lt2 (sL b1) (eR b5)), ⟨Nat.ne_of_gt (lt2 (sL b2) (eR b5)), ⟨Nat.ne_of_gt (lt2 (sL b3) (eR b5)), Nat.ne_of_gt (lt2 (sL b4) (eR b5))⟩⟩⟩⟩
 walk_at "g"
 refine qI (zt (by exact le2 h2 hn) (by decide) g₂ fun v k mm hp3 v0 v1 g₃ K₃ => ?_)
 obtain ⟨c, rfl⟩ : ∃ c : Nat, v = c := ⟨v.toNat, by lia⟩
 walk_at "g"
 refine kW (by walk_at "l") (by walk_at "l") ?_
 have er : zo (1 + (c : Int)) = (List.range' 0 (c + 1)).map fun k => V.int (Int.ofNat k) := by
  unfold zo
  rw [show (1 + (c : Int)).toNat = c + 1 by lia, List.range_eq_range']
 rw [er]
 refine kz ?_
 refine zR (Zi (yU (kD zK (qr (W_gt (jT rfl (zz (qY ?_))))))))
 have hmul : c * (TR + 3) <= 2 * (TR + 3) := Nat.mul_le_mul_right _ (by walk_at "l")
 refine ZK (n := m) (hp₀ := hp) (l₀ := argL G d hp.length hp₁.length) (s := { k := k, mix := mm, inner := s.inner, bad := s.bad, room := s.room }) (toks := toks) H hDR (by exact le1 hn) (by exact le2 h2 hn) (Nat.le_refl _) (by exact le1 (eR b5)) rfl rfl rfl rfl rfl rfl rfl (Sub.cons rfl .refl) (w₂.keep K₃) (by simp) (by simp) g₃ hin (by exact le1 ht) (K₂.trans K₃) fun x hp4 s4 l₄ hl a1 a2 a3 a4 a5 a6 a7 a8 => ?_
 dsimp only at a4 a5
 refine vM (ve hl ?_)
 refine w_args (n := m) (hp₀ := hp) H hDR (by exact le1 hn) (by exact le2 h2 hn) (Nat.le_refl _) (by exact le1 (eR b5)) c 1 hp4 s4 (toks ++ x.toks) _ _ (Nat.le_refl _) (by rw [List.length_append]; exact le3 hmul ht a3) (by simp only [List.length_append, List.length_cons, List.length_nil]; lia) (by simp only [List.length_append, List.length_cons, List.length_nil]; lia) a6 (by exact lt2 (sL hin) (eR a4)) a7 a8 fun xs hp' s' c1 c2 c3 c4 c5 c6 c7 c8 c9 => ?_
 walk_at "gz"
 refine hq x xs hp.length hp₁.length hp' s' (by walk_at "l") a1 c2 ?_ ?_ (by exact Nat.le_antisymm (le2 (eL c5) (eL a4)) (le2 (eR a4) (eR c5))) ?_ ?_ ?_ (Nat.le_refl _) (by exact le1 (eR b5)) c9
 ·simp only [szA, List.length_append]; exact le2 c3 a2
 ·simp only [List.length_append]; exact le3 c4 hmul a3
 ·rw [c6, a5, wo]; rfl
 ·rw [List.append_assoc] at c7; exact c7
 ·simpa only [List.map_cons, List.nil_append, List.cons_append] using c8
theorem jB {i : Nat} (h : i < 204) : PyData.strOk (nm i) = true := by
 have := xF h
 simp only [zu, PyData.canLay0, Bool.and_eq_true] at this
 exact this.1
theorem QN (gs : List V) (h : ∀ g ∈ gs, jZ g) : ∃ ds, pds gs = some ds /\ PyData.canLayAll0 ds = true /\ PyData.depthAll ds <= 0 /\ ds.length = gs.length := by
 induction gs with
 | nil => exact ⟨[], rfl, rfl, Nat.le_refl _, rfl⟩
 | cons g r ih =>
  obtain ⟨ds, h1, h2, h3, h4⟩ := ih fun y hy => h y (.tail _ hy)
  rcases h g (.head _) with rfl | ⟨i, hi, rfl⟩
  ·exact ⟨.none :: ds, by simp only [pds, pd, h1], by simp only [PyData.canLayAll0, PyData.canLay0, h2, Bool.and_self], Nat.max_le.mpr ⟨Nat.le_refl _, h3⟩, congrArg (· + 1) h4⟩
  ·exact ⟨.str (nm i) :: ds, by simp only [pds, pd, h1], by simp only [PyData.canLayAll0, PyData.canLay0, h2, jB hi, Bool.and_self], Nat.max_le.mpr ⟨Nat.le_refl _, h3⟩, congrArg (· + 1) h4⟩
mutual
theorem pd_tup : ∀ t : T, wft t -> ∃ d, pd (qp t) = some d /\ PyData.canLay0 d = true /\ PyData.depth d <= 3 * tdp t + 3
 | .name s, h => by
  refine ⟨.tuple [.str (nm 4), .str (nm s)], by simp only [qp, pd, pds, Option.map_some], ?_, by simp only [PyData.depth, PyData.depthAll]; lia⟩
  simp only [PyData.canLay0, PyData.canLayAll0, jB (show 4 < 204 by decide), jB (Qh h), Bool.and_self]
 | .vec k items, h => by
  obtain ⟨hk, _, _, ds, h1, h2, h3⟩ := h
  have hk2 : k < 204 := by lia
  refine ⟨.tuple [.str (nm k), .list ds], by simp only [qp, pd, pds, h1, Option.map_some], ?_, by simp only [PyData.depth, PyData.depthAll, tdp]; lia⟩
  simp only [PyData.canLay0, PyData.canLayAll0, jB hk2, h2, Bool.and_self]
 | .null, _ => by
  refine ⟨.tuple [.str (nm 64)], by simp only [qp, pd, pds, Option.map_some], ?_, by simp only [PyData.depth, PyData.depthAll]; lia⟩
  simp only [PyData.canLay0, PyData.canLayAll0, jB (show 64 < 204 by decide), Bool.and_self]
 | .missing, _ => by
  refine ⟨.tuple [.str (nm 115)], by simp only [qp, pd, pds, Option.map_some], ?_, by simp only [PyData.depth, PyData.depthAll]; lia⟩
  simp only [PyData.canLay0, PyData.canLayAll0, jB (show 115 < 204 by decide), Bool.and_self]
 | .call is gs, h => by
  obtain ⟨_, _, h1, h2⟩ := h
  obtain ⟨ds, a1, a2, a3, _⟩ := yp is h1
  obtain ⟨es, b1, b2, b3, _⟩ := QN gs h2
  refine ⟨.tuple [.str (nm 139), .list ds, .list es], by simp only [qp, pd, pds, a1, b1, Option.map_some], ?_, by simp only [PyData.depth, PyData.depthAll, tdp]; lia⟩
  simp only [PyData.canLay0, PyData.canLayAll0, jB (show 139 < 204 by decide), a2, b2, Bool.and_self]
theorem yp : ∀ ts : List T, wfts ts -> ∃ ds, pds (zy ts) = some ds /\ PyData.canLayAll0 ds = true /\ PyData.depthAll ds <= 3 * vj ts + 3 /\ ds.length = ts.length
 | [], _ => ⟨[], rfl, rfl, Nat.zero_le _, rfl⟩
 | t :: r, h => by
  obtain ⟨d, a1, a2, a3⟩ := pd_tup t h.1
  obtain ⟨ds, b1, b2, b3, b4⟩ := yp r h.2
  refine ⟨d :: ds, by simp only [zy, pds, a1, b1], by simp only [PyData.canLayAll0, a2, b2, Bool.and_self], by simp only [PyData.depthAll, vj]; lia, by simp [b4]⟩
end
theorem QB : ∀ {ts : List T}, (∀ t ∈ ts, wft t) -> wfts ts
 | [], _ => trivial
 | t :: r, h => ⟨h t (.head _), QB fun x hx => h x (.tail _ hx)⟩
theorem QF {B : Nat} : ∀ {ts : List T}, (∀ t ∈ ts, tdp t <= B) -> vj ts <= B
 | [], _ => Nat.zero_le _
 | t :: r, h => by have := h t (.head _); have := QF (ts := r) fun x hx => h x (.tail _ hx); simp only [vj]; lia
theorem yG : ∀ xs : List Arg, j5 (xs.map Arg.tree) = xs.length + szA xs
 | [] => rfl
 | x :: r => by have := yG r; simp only [List.map_cons, j5, szA, List.length_cons]; exact Nat.le_antisymm (le1 (eL this)) (le1 (eR this))
theorem yF (xs : List Arg) : zy (xs.map Arg.tree) = xs.map fun y => qp y.tree := by rw [vN, List.map_map]; rfl
noncomputable def zk : List Arg -> Bool | [x] => jb x.tree | _ => false
noncomputable def vo : List V -> Bool | [g] => isNone g | _ => false
theorem yK : ∀ ys : List Arg, vJ ys = (zk ys && vo (ys.map Arg.tag))
 | [] => rfl
 | [_] => rfl
 | _ :: _ :: _ => rfl
theorem pc_items {hp : Hp} {i : Nat} {xs : List Arg} {D : Nat} (e : hp[i]? = some (.lst (xs.map fun y => qp y.tree))) (hw : ∀ y ∈ xs, wft y.tree) (hD : ∀ y ∈ xs, tdp y.tree <= D) (hz : D <= 500) :
  jq hp .Eq (.ref i) (.lst [.tup [.str (nm 115)]]) = some (zk xs) := by
 rw [<- yF] at e
 have w : wfts (xs.map Arg.tree) := QB fun t ht => by obtain ⟨y, hy, rfl⟩ := List.mem_map.mp ht; exact hw y hy
 have dd : vj (xs.map Arg.tree) <= D := QF fun t ht => by obtain ⟨y, hy, rfl⟩ := List.mem_map.mp ht; exact hD y hy
 obtain ⟨ds, h1, h2, h3, h4⟩ := yp _ w
 have a1 : zu (.list ds) = true := by
  unfold zu
  rw [Bool.and_eq_true]
  exact ⟨h2, decide_eq_true (by simp only [PyData.depth]; exact le3 h3 (Nat.mul_le_mul_left 3 dd) (Nat.mul_le_mul_left 3 hz))⟩
 have a2 : zu (.list [.tuple [.str (nm 115)]]) = true := by
  unfold zu
  rw [Bool.and_eq_true]
  exact ⟨by simp only [PyData.canLay0, PyData.canLayAll0, jB (show 115 < 204 by decide), Bool.and_self], by decide⟩
 simp only [jq]
 unfold peq
 simp only [wD, e, h1, pd, pds, Option.map_some, a1, a2, Bool.and_self, if_true, PyData.eqv]
 congr 1
 match xs, h1, h4, hw with
 | [], h1, h4, _ => cases ds with
  | nil => rfl
  | cons d ds => simp at h4
 | [x], h1, h4, hw =>
  simp only [List.map_cons, List.map_nil, zy, pds] at h1
  cases hx : pd (qp x.tree) with
  | none => rw [hx] at h1; cases h1
  | some d =>
   rw [hx] at h1
   cases h1
   simp only [PyData.eqvAll, Bool.and_true]
   have hwx := hw x (.head _)
   cases ht : x.tree with
   | name s => rw [ht] at hx; simp only [qp, pd, pds, Option.map_some, Option.some.injEq] at hx; rw [<- hx]; simp [PyData.eqv, PyData.eqvAll, zk, ht, jb]
   | vec k items =>
    rw [ht] at hx hwx
    obtain ⟨_, _, _, es, q1, _⟩ := hwx
    simp only [qp, pd, pds, q1, Option.map_some, Option.some.injEq] at hx; rw [<- hx]; simp [PyData.eqv, PyData.eqvAll, zk, ht, jb]
   | null => rw [ht] at hx; simp only [qp, pd, pds, Option.map_some, Option.some.injEq] at hx; rw [<- hx]; simp [PyData.eqv, PyData.eqvAll, zk, ht, jb, QT]
   | missing => rw [ht] at hx; simp only [qp, pd, pds, Option.map_some, Option.some.injEq] at hx; rw [<- hx]; simp [PyData.eqv, PyData.eqvAll, zk, ht, jb]
   | call is gs =>
    rw [ht] at hx hwx
    obtain ⟨_, _, q1, q2⟩ := hwx
    obtain ⟨es, r1, _⟩ := yp is q1
    obtain ⟨fs, r2, _⟩ := QN gs q2
    simp only [qp, pd, pds, r1, r2, Option.map_some, Option.some.injEq] at hx; rw [<- hx]; simp [PyData.eqv, PyData.eqvAll, zk, ht, jb]
 | x :: y :: r, h1, h4, _ => cases ds with
  | nil => simp at h4
  | cons d ds => cases ds with
   | nil => simp at h4
   | cons d' ds => simp [PyData.eqvAll, zk, vo]
theorem pc_tags {hp : Hp} {i : Nat} {gs : List V} (e : hp[i]? = some (.lst gs)) (hg : ∀ g ∈ gs, jZ g) : jq hp .Eq (.ref i) (.lst [.none]) = some (vo gs) := by
 obtain ⟨ds, h1, h2, h3, h4⟩ := QN gs hg
 have a1 : zu (.list ds) = true := by
  unfold zu
  rw [Bool.and_eq_true]
  exact ⟨h2, decide_eq_true (by simp only [PyData.depth]; exact le1 h3)⟩
 have a2 : zu (.list [.none]) = true := by decide
 simp only [jq]
 unfold peq
 simp only [wD, e, h1, pd, pds, Option.map_some, a1, a2, Bool.and_self, if_true, PyData.eqv]
 congr 1
 match gs, h1, h4, hg with
 | [], h1, h4, _ => cases ds with
  | nil => rfl
  | cons d ds => simp at h4
 | [g], h1, h4, hg =>
  rcases hg g (.head _) with rfl | ⟨j, hj, rfl⟩
  ·simp only [pds, pd] at h1; cases h1; simp [PyData.eqvAll, PyData.eqv, vo, isNone]
  ·simp only [pds, pd] at h1; cases h1; simp [PyData.eqvAll, PyData.eqv, vo, isNone]
 | x :: y :: r, h1, h4, _ => cases ds with
  | nil => simp at h4
  | cons d ds => cases ds with
   | nil => simp at h4
   | cons d' ds => simp [PyData.eqvAll, zk, vo]
theorem nameOf_ok {v : T} (h : wft v) : wft (jv v) /\ tdp (jv v) <= tdp v /\ tsz (jv v) <= tsz v := by
 cases v with
 | vec k items =>
  by_cases q : k = 24
  ·subst q
   rcases h.2.1 rfl with rfl | rfl
   ·rw [QX]; exact ⟨(show 180 ∈ sig by decide), Nat.le_refl _, Nat.le_refl _⟩
   ·rw [QW]; exact ⟨(show 189 ∈ sig by decide), Nat.le_refl _, Nat.le_refl _⟩
  ·have : jv (.vec k items) = .vec k items := by
    exact if_neg q
   rw [this]; exact ⟨h, Nat.le_refl _, Nat.le_refl _⟩
 | _ => exact ⟨h, Nat.le_refl _, Nat.le_refl _⟩
section
variable {NR L DR : Nat} {xs : List Arg}
theorem Xu (h : ∀ y ∈ xs, jH NR L DR y) : wfts (xs.map Arg.tree) /\ (∀ g ∈ xs.map Arg.tag, jZ g) /\ vj (xs.map Arg.tree) <= DR :=
 ⟨QB fun t ht => by obtain ⟨y, hy, rfl⟩ := List.mem_map.mp ht; exact (h y hy).wf, fun g hg => by obtain ⟨y, hy, rfl⟩ := List.mem_map.mp hg; exact (h y hy).tag, QF fun t ht => by obtain ⟨y, hy, rfl⟩ := List.mem_map.mp ht; exact (h y hy).dp⟩
theorem J3 (h : ∀ y ∈ xs, jH NR L DR y) {v : T} (hv : wft v) : wft (vZ v xs) /\ tdp (vZ v xs) <= max (tdp v) DR + 1 /\ tsz (vZ v xs) <= tsz v + 3 + 2 * xs.length + szA xs := by
 obtain ⟨a1, a2, a3⟩ := Xu h
 obtain ⟨b1, b2, b3⟩ := nameOf_ok hv
 unfold vZ
 split
 ·refine ⟨⟨by simp, by simp, ⟨b1, trivial⟩, by simp [jZ]⟩, by walk_at "dp", by simp only [tsz, j5, List.length_cons, List.length_nil]; exact le1 b3⟩
 ·refine ⟨⟨by simp, by simp, ⟨b1, a1⟩, fun g hg => ?_⟩, by walk_at "dp", by simp only [tsz, j5, List.length_cons, List.length_map, yG]; exact le1 b3⟩
  rcases List.mem_cons.mp hg with rfl | hg
  ·exact .inl rfl
  ·exact a2 g hg
theorem yv (h : ∀ y ∈ xs, jH NR L DR y) {o : Nat} (ho : o ∈ sig) {v : T} (hv : wft v) : wft (ym o v xs) /\ tdp (ym o v xs) <= max (tdp v) DR + 1 /\ tsz (ym o v xs) <= tsz v + 6 + 2 * xs.length + szA xs := by
 obtain ⟨a1, a2, a3⟩ := Xu h
 have hp := vk v
 unfold ym
 refine ⟨⟨by simp, by simp, ⟨ho, hv, a1⟩, fun g hg => ?_⟩, by walk_at "dp", by simp only [tsz, j5, List.length_cons, List.length_map, yG]; exact le0⟩
 rcases List.mem_cons.mp hg with rfl | hg
 ·exact .inl rfl
 ·rcases List.mem_cons.mp hg with rfl | hg
  ·exact .inl rfl
  ·exact a2 g hg
end
theorem v5.mono {N N' L inb ts F b} (h : v5 N L inb ts F b) (hN : N <= N') : v5 N' L inb ts F b := ⟨h.first, h.wf, fun m f X hp a rest ctx l v Q E hm => h.rd m f X hp a rest ctx l v Q E (by exact le2 hN hm)⟩
theorem Q3.mono {N N' L ts t b} (h : Q3 N L ts t b) (hN : N <= N') : Q3 N' L ts t b := ⟨fun n X hp a rest ctx Q E hn => h.rd n X hp a rest ctx Q E (by exact le2 hN hn)⟩
noncomputable def y7 (NG d TF D0 NP : Nat) : Prop := ∀ (n : Nat) (hp : Hp) (G : GX) (s : GS) (toks : List Tk) (v : T) (Q : V -> Hp -> Prop) (E : V -> V -> Hp -> Prop), NG <= n -> GAt G hp s toks -> wft v -> toks.length + TF <= 1000000 ->
  (∀ hp' s' ts F b, s'.inner = s.inner -> s'.bad = orB s.bad b -> GAt G hp' s' (toks ++ ts) -> qx G hp hp' -> v5 NP (d + 1) (inB s) ts F b -> wft (F v) -> tdp (F v) <= max (tdp v) D0 + 1 -> tsz (F v) <= tsz v + 10 * ts.length -> ts.length <= TF -> Q (qp (F v)) hp') ->
  Call n .lawFollowed [.ref G.pc, .ref G.wc, .int d, qp v] hp Q E
section
variable {n : Nat} {E : V -> V -> Hp -> Prop} {G : GX}
theorem XO {hp : Hp} {v : T} {is : List T} {gs : List V} {l : Nv} {iv gv : V} {Q : V -> Hp -> Prop} (hv : wft v) (hi : qo hp iv = some (zy is)) (hg : qo hp gv = some gs) (hz1 : is.length <= 200) (hz2 : gs.length <= 200) (l177 : l.lookup 177 = some (qp v)) (l2 : l.lookup 2 = some iv) (l5 : l.lookup 5 = some gv) (hq : Q (qp (.call (jv v :: is) (.none :: gs))) hp) :
  W (qF (sIf (qi .Eq (qV (qD (nm 177)) (pure (.int 0))) (pure (.str (nm 24)))) (qF (qy (nm 177) (zF [(pure (.str (nm 4))), (qV (qV (qD (nm 177)) (pure (.int 1))) (pure (.int 0)))])) qK) qK) (qF (qs (zF [(pure (.str (nm 139))), (zf .Add (q8 [(qD (nm 177))]) (qD (nm 2))), (zf .Add (q8 [(pure .none)]) (qD (nm 5)))])) qK)) l hp (fun fl _ hp' => Q (flV fl) hp') E := by
 have hl : (zy is).length = is.length := by rw [vN, List.length_map]
 walk_at "g"
 refine XI ?_
 walk_at "g"
 refine xR (yP hv) (by decide) ?_
 refine zL (fun e => ?_) (fun e => ?_)
 ·obtain ⟨items, rfl⟩ : ∃ items, v = .vec 24 items := by
   cases v with
   | vec k items =>
    have : k = 24 := by simpa [j9] using e
    exact ⟨items, by rw [this]⟩
   | _ => simp [j9] at e
  rcases hv.2.1 rfl with rfl | rfl
  ·rw [QX] at hq
   simp only [qp] at l177
   walk_at "gz"
   refine jP rfl hi (by refine pLe ?_; simp only [List.length_cons, List.length_nil]; exact le2 (eL hl) hz1) ?_
   walk_at "gz"
   refine jP rfl hg (by refine pLe ?_; simp only [List.length_cons, List.length_nil]; exact le1 hz2) ?_
   walk_at "gz"
   exact hq
  ·rw [QW] at hq
   simp only [qp] at l177
   walk_at "gz"
   refine jP rfl hi (by refine pLe ?_; simp only [List.length_cons, List.length_nil]; exact le2 (eL hl) hz1) ?_
   walk_at "gz"
   refine jP rfl hg (by refine pLe ?_; simp only [List.length_cons, List.length_nil]; exact le1 hz2) ?_
   walk_at "gz"
   exact hq
 ·have en : jv v = v := by
   cases v with
   | vec k items =>
    have : k ≠ 24 := by simpa [j9] using e
    exact if_neg this
   | _ => rfl
  rw [en] at hq
  walk_at "gz"
  refine jP rfl hi (by refine pLe ?_; simp only [List.length_cons, List.length_nil]; exact le2 (eL hl) hz1) ?_
  walk_at "gz"
  refine jP rfl hg (by refine pLe ?_; simp only [List.length_cons, List.length_nil]; exact le1 hz2) ?_
  walk_at "gz"
  exact hq
theorem xK {NG d TR DR NR o : Nat} {hp : Hp} {s : GS} {toks : List Tk} {l : Nv} {rest : M Fl} {Q : Fl -> Nv -> Hp -> Prop} (H : k7 NG d TR DR NR) (hn : NG <= n) (h2 : 2 <= n) (l136 : l.lookup 136 = some (.ref G.pc)) (l143 : l.lookup 143 = some (.ref G.wc)) (l164 : l.lookup 164 = some (.int d)) (l190 : l.lookup 190 = some (.str (nm o))) (g : GAt G hp s toks) (hz : toks.length + (3 * (TR + 3) + 3) <= 1000000)
  (hq : ∀ (tk0 : Tk) (x : Arg) (xs : List (Tk × Arg)) i j hp' s', tk0.tv = .op o -> (tk0.nl = true -> inB s = true) -> xs.length <= 2 -> jH NR (d + 2) DR x -> (∀ y ∈ xs, y.1.tv = .op 121 /\ jH NR (d + 2) DR y.2) -> szA (x :: xs.map (·.2)) <= 10 * (x.toks ++ qj xs).length + 1 -> (x.toks ++ qj xs).length <= 3 * (TR + 3) -> s'.inner = s.inner + 1 -> s'.bad = orB s.bad (q7 (x :: xs.map (·.2))) -> GAt G hp' s' (toks ++ (tk0 :: (x.toks ++ qj xs))) ->
   Two G hp' i j ((x :: xs.map (·.2)).map fun y => qp y.tree) ((x :: xs.map (·.2)).map Arg.tag) -> hp.length <= i -> hp.length <= j -> qx G hp hp' -> W rest ((5, .ref j) :: (2, .ref i) :: l) hp' Q E) :
  W (qF (qv (qa [(qD (nm 136)), (qD (nm 143)), (pure (.str (nm 98))), (qD (nm 190))] >>= run n .lawPut)) (qF (jQ .Add (qD (nm 143)) (pure (.str (nm 145))) (pure (.int 1))) (qF (jy [(nm 2), (nm 5)] (qa [(qD (nm 136)), (qD (nm 143)), (qD (nm 164))] >>= run n .lawArguments)) rest))) l hp Q E := by
 walk_at "g"
 refine qI (zc (tv := .op o) h2 (by exact le1 hz) g fun nl k mm hp₁ hnl g₁ K₁ => ?_)
 generalize htk : (⟨.op o, 10 * toks.length, nl⟩ : Tk) = tk at g₁
 have htk1 : tk.tv = .op o := by rw [<- htk]
 have htk3 : tk.nl = nl := by rw [<- htk]
 refine qY (zR (QD l143 g₁ fun hp₂ g₂ K₂ => ?_))
 walk_at "g"
 have b1 := K₁.len
 have b2 := K₂.len
 refine qI (H n hp₂ G { k := k, mix := mm, inner := s.inner + 1, bad := s.bad, room := s.room } (toks ++ [tk]) _ _ hn g₂ (by dsimp only; exact lt0) (by refine lA1 ?_; exact le1 hz) fun x xs i j hp3 s3 a1 a2 a3 a4 a5 a6 a7 g₃ w₃ a8 a9 K₃ => ?_)
 refine zW rfl ?_
 walk_at "g"
 dsimp only at a6 a7
 refine hq tk x xs i j hp3 s3 htk1 (fun q => by rw [htk3] at q; exact decide_eq_true (hnl q)) a1 a2 a3 a4 a5 a6 a7 ?_ w₃ (by exact le3 b1 b2 a8) (by exact le3 b1 b2 a9) (K₁.trans (K₂.trans K₃))
 have e : toks ++ [tk] ++ (x.toks ++ qj xs) = toks ++ (tk :: (x.toks ++ qj xs)) := by simp only [List.append_assoc, List.cons_append, List.nil_append]
 rw [e] at g₃; exact g₃
end
theorem Xl {E : V -> V -> Hp -> Prop} {hp : Hp} {o : Nat} {v : V} {is gs : List V} {l : Nv} {iv gv : V} {Qf : Fl -> Nv -> Hp -> Prop} (hi : qo hp iv = some is) (hg : qo hp gv = some gs) (hz1 : is.length <= 200) (hz2 : gs.length <= 200) (l177 : l.lookup 177 = some v) (l190 : l.lookup 190 = some (.str (nm o))) (l2 : l.lookup 2 = some iv) (l5 : l.lookup 5 = some gv) (hq : Qf (.ret (.tup [.str (nm 139), .lst ([.tup [.str (nm 4), .str (nm o)], v] ++ is), .lst ([.none, .none] ++ gs)])) l hp) :
  W (qF (qs (zF [(pure (.str (nm 139))), (zf .Add (q8 [(zF [(pure (.str (nm 4))), (qD (nm 190))]), (qD (nm 177))]) (qD (nm 2))), (zf .Add (q8 [(pure .none), (pure .none)]) (qD (nm 5)))])) qK) l hp Qf E := by
 walk_at "gz"
 refine jP rfl hi (by refine pLe ?_; simp only [List.length_cons, List.length_nil]; exact le1 hz1) ?_
 walk_at "gz"
 refine jP rfl hg (by refine pLe ?_; simp only [List.length_cons, List.length_nil]; exact le1 hz2) ?_
 walk_at "gz"
 exact hq
theorem Xk (o : Nat) (v : T) (ys : List Arg) : qp (ym o v ys) = .tup [.str (nm 139), .lst ([.tup [.str (nm 4), .str (nm o)], qp v] ++ ys.map fun y => qp y.tree), .lst ([.none, .none] ++ ys.map Arg.tag)] := by
 unfold ym
 simp only [qp, zy, yF]
 rfl
theorem wf_m : wft (.vec 24 [.str (nm 189)]) := ⟨.inr (.inr rfl), fun _ => .inr rfl, by simp, _, rfl, by simp only [PyData.canLayAll0, PyData.canLay0, jB (show 189 < 204 by decide), Bool.and_self], by decide⟩
noncomputable def FolQ (G : GX) (hp : Hp) (s : GS) (toks : List Tk) (d TF D0 NP : Nat) (v : T) (Q : V -> Hp -> Prop) : Prop :=
 ∀ hp' s' ts F b, s'.inner = s.inner -> s'.bad = orB s.bad b -> GAt G hp' s' (toks ++ ts) -> qx G hp hp' -> v5 NP (d + 1) (inB s) ts F b -> wft (F v) -> tdp (F v) <= max (tdp v) D0 + 1 -> tsz (F v) <= tsz v + 10 * ts.length -> ts.length <= TF -> Q (qp (F v)) hp'
noncomputable abbrev Q9 (G : GX) (d : Nat) (v : T) (kd : Int) : Nv := [(1, .int kd), (136, .ref G.pc), (143, .ref G.wc), (164, .int d), (177, qp v)]
noncomputable def jz (c : Fn -> List V -> M V) : M Fl := (u340 c)
theorem yR (c : Fn -> List V -> M V) : j0 c = (u341 c) := rfl
theorem fol_call {NG d TR DR NR m : Nat} {hp : Hp} {G : GX} {s : GS} {toks : List Tk} {v : T} {Q : V -> Hp -> Prop} {E : V -> V -> Hp -> Prop} (h2 : 2 <= NG) (hd : d + 10 <= 2 ^ 20) (hDR : DR <= 500) (HA : k7 NG d TR DR NR) (hn : NG <= m) (g : GAt G hp s toks) (hv : wft v) (ht : toks.length + (3 * (TR + 3) + 4) <= 1000000)
  (hq : FolQ G hp s toks d (3 * (TR + 3) + 4) (DR + 1) (NR + 10) v Q) : W (jz (run m)) (Q9 G d v 0) hp (fun fl _ hp' => Q (flV fl) hp') E := by
 unfold jz Q9
 refine zR (Zi (yU (kD zK (qr (W_gt (jT rfl (zz (qY (zR (Qw (KW (W_eLst ?_))))))))))))
 refine wZ (qr (wZ (qr (wZ (qr (X6 ⟨by walk_at "p", ?_⟩))))))
 refine kD zK (KV ?_)
 refine qY (xK (o := 75) HA (by walk_at "l") (by exact le2 h2 hn) (by walk_at "look") (by walk_at "look") (by walk_at "look") (by walk_at "look") g (by exact le1 ht) fun tk0 x xs i j hp₂ s2 c0 cn c1 c2 c3 c4 c5 c6 c7 g₂ w₂ c8 c9 K₂ => ?_)
 rw [List.length_append] at c4 c5
 have hall : ∀ y ∈ x :: xs.map (·.2), jH NR (d + 2) DR y := fun y hy => by
  rcases List.mem_cons.mp hy with rfl | hy
  ·exact c2
  ·obtain ⟨z, hz, rfl⟩ := List.mem_map.mp hy; exact (c3 z hz).2
 refine zR (Qz (Q0 ?_))
 walk_at "g"
 refine kW (by decide) (by decide) ?_
 rw [show zo (if ((0 : Int) == 2) = true then 2 else 1) = [V.int 0] from rfl]
 refine kz ?_
 walk_at "g"
 refine qI (zc (tv := .op 114) (by exact le2 h2 hn) (by simp only [List.length_append, List.length_cons, List.length_nil]; exact le2 c5 ht) g₂ fun nl3 k3 m3 hp3 hnl3 g₃ K₃ => ?_)
 walk_at "g"
 generalize ht3 : (⟨.op 114, 10 * (toks ++ (tk0 :: (x.toks ++ qj xs))).length, nl3⟩ : Tk) = clt at g₃
 have h3 : clt.tv = .op 114 := by rw [<- ht3]
 refine j4 ?_
 refine qY (zR (vh (by walk_at "look") (by dsimp only; exact lt1 (eR c6)) g₃ fun hp5 g₅ K₅ => ?_))
 have w₅ := ((w₂.keep K₃).keep K₅)
 walk_at "gz"
 refine zU (pc_items w₅.ci (fun y hy => (hall y hy).wf) (fun y hy => (hall y hy).dp) hDR) ?_
 obtain ⟨f1, f2, f3⟩ := J3 hall hv
 rw [List.length_cons, List.length_map] at f3
 have fin : Q (qp (vZ v (x :: xs.map (·.2)))) hp5 := by
  refine hq hp5 { k := k3, mix := m3, inner := s2.inner - 1, bad := s2.bad, room := s2.room } (tk0 :: (x.toks ++ (qj xs ++ [clt]))) (fun v => vZ v (x :: xs.map (·.2))) (q7 (x :: xs.map (·.2))) (by dsimp only at c6 ⊢; lia) c7 ?_ (K₂.trans (K₃.trans K₅)) (post_call (by exact le1 hd) c0 cn h3 (by exact le1 c1) c2.ok (fun y hy => ⟨(c3 y hy).1, (c3 y hy).2.ok⟩) (fun _ y hy => (hall y hy).wf) fun _ v hv => (J3 hall hv).1) f1 (by walk_at "l") ?_ ?_
  ·have e : toks ++ (tk0 :: (x.toks ++ qj xs)) ++ [clt] = toks ++ (tk0 :: (x.toks ++ (qj xs ++ [clt]))) := by simp only [List.append_assoc, List.cons_append, List.nil_append]
   rw [<- e]; exact g₅
  ·simp only [List.length_cons, List.length_append, List.length_nil]; exact le3 f3 c4 (Nat.mul_le_mul_left 2 c1)
  ·simp only [List.length_cons, List.length_append, List.length_nil]; exact le1 c5
 have hlx : (x :: xs.map (·.2)).length <= 3 := by simp only [List.length_map, List.length_cons]; exact le1 c1
 generalize hys : x :: xs.map (·.2) = ys at *
 have full : vJ ys = false -> ∀ l : Nv, l.lookup 177 = some (qp v) -> l.lookup 2 = some (.ref i) -> l.lookup 5 = some (.ref j) -> W (qF (sIf (qi .Eq (qV (qD (nm 177)) (pure (.int 0))) (pure (.str (nm 24)))) (qF (qy (nm 177) (zF [(pure (.str (nm 4))), (qV (qV (qD (nm 177)) (pure (.int 1))) (pure (.int 0)))])) qK) qK) (qF (qs (zF [(pure (.str (nm 139))), (zf .Add (q8 [(qD (nm 177))]) (qD (nm 2))), (zf .Add (q8 [(pure .none)]) (qD (nm 5)))])) qK)) l hp5 (fun fl _ hp' => Q (flV fl) hp') E := by
  intro hna l l177 l2 l5
  refine XO (is := ys.map Arg.tree) (gs := ys.map Arg.tag) hv (by rw [yF]; simp only [qo, w₅.ci]) (by simp only [qo, w₅.cj]) (by rw [List.length_map]; exact le1 hlx) (by rw [List.length_map]; exact le1 hlx) l177 l2 l5 ?_
  unfold vZ at fin
  rw [hna] at fin
  exact fin
 cases hc1 : zk ys with
 | false =>
  refine jT rfl (qr (Zu (zz (qY ?_))))
  refine full ?_ _ (by walk_at "look") (by walk_at "look") (by walk_at "look")
  rw [yK, hc1, Bool.false_and]
 | true =>
  refine jS rfl ?_
  walk_at "gz"
  refine zU (pc_tags w₅.cj fun g hg => by obtain ⟨y, hy, rfl⟩ := List.mem_map.mp hg; exact (hall y hy).tag) ?_
  cases hc2 : vo (ys.map Arg.tag) with
  | false =>
   refine jT rfl (qr (Zu (zz (qY ?_))))
   refine full ?_ _ (by walk_at "look") (by walk_at "look") (by walk_at "look")
   rw [yK, hc2, Bool.and_false]
  | true =>
   refine jS rfl ?_
   walk_at "gz"
   refine XG rfl ?_
   rw [show [nm 2, nm 5].reverse = [nm 5, nm 2] from rfl, show [V.lst [], V.lst []].reverse = [V.lst [], V.lst []] from rfl]
   refine JE (JE (KS (qY (zz (qY ?_)))))
   refine XO (is := []) (gs := []) hv rfl rfl (by simp) (by simp) (by walk_at "look") (by walk_at "look") (by walk_at "look") ?_
   have hna : vJ ys = true := by rw [yK, hc1, hc2]; rfl
   unfold vZ at fin
   rw [hna] at fin
   exact fin
theorem fol_idx1 {NG d TR DR NR m : Nat} {hp : Hp} {G : GX} {s : GS} {toks : List Tk} {v : T} {Q : V -> Hp -> Prop} {E : V -> V -> Hp -> Prop} (h2 : 2 <= NG) (hd : d + 10 <= 2 ^ 20) (hDR : DR <= 500) (HA : k7 NG d TR DR NR) (hn : NG <= m) (g : GAt G hp s toks) (hv : wft v) (ht : toks.length + (3 * (TR + 3) + 4) <= 1000000)
  (hq : FolQ G hp s toks d (3 * (TR + 3) + 4) (DR + 1) (NR + 10) v Q) : W (jz (run m)) (Q9 G d v 1) hp (fun fl _ hp' => Q (flV fl) hp') E := by
 unfold jz Q9
 walk_at "gz"
 refine zZ rfl (by decide) rfl (by decide) ?_
 refine qY (xK (o := 77) HA (by walk_at "l") (by exact le2 h2 hn) (by walk_at "look") (by walk_at "look") (by walk_at "look") (by walk_at "look") g (by exact le1 ht) fun tk0 x xs i j hp₂ s2 c0 cn c1 c2 c3 c4 c5 c6 c7 g₂ w₂ c8 c9 K₂ => ?_)
 rw [List.length_append] at c4 c5
 have hall : ∀ y ∈ x :: xs.map (·.2), jH NR (d + 2) DR y := fun y hy => by
  rcases List.mem_cons.mp hy with rfl | hy
  ·exact c2
  ·obtain ⟨z, hz, rfl⟩ := List.mem_map.mp hy; exact (c3 z hz).2
 refine zR (Qz (Q0 ?_))
 walk_at "g"
 refine kW (by decide) (by decide) ?_
 rw [show zo (if ((1 : Int) == 2) = true then 2 else 1) = [V.int 0] from rfl]
 refine kz ?_
 walk_at "g"
 refine qI (zc (tv := .op 116) (by exact le2 h2 hn) (by simp only [List.length_append, List.length_cons, List.length_nil]; exact le2 c5 ht) g₂ fun nl3 k3 m3 hp3 hnl3 g₃ K₃ => ?_)
 walk_at "g"
 generalize ht3 : (⟨.op 116, 10 * (toks ++ (tk0 :: (x.toks ++ qj xs))).length, nl3⟩ : Tk) = clt at g₃
 have h3 : clt.tv = .op 116 := by rw [<- ht3]
 refine j4 ?_
 refine qY (zR (vh (by walk_at "look") (by dsimp only; exact lt1 (eR c6)) g₃ fun hp5 g₅ K₅ => ?_))
 have w₅ := ((w₂.keep K₃).keep K₅)
 refine qY (zR (Zi (yU (kD (by walk_at "look") (qr (W_gt (jS rfl ?_)))))))
 have hlx : ((x :: xs.map (·.2)).map fun y => qp y.tree).length <= 200 := by simp only [List.length_map, List.length_cons]; exact le1 c1
 have hlg : ((x :: xs.map (·.2)).map Arg.tag).length <= 200 := by simp only [List.length_map, List.length_cons]; exact le1 c1
 refine Xl (o := 77) (v := qp v) (iv := .ref i) (gv := .ref j) (is := (x :: xs.map (·.2)).map fun y => qp y.tree) (gs := (x :: xs.map (·.2)).map Arg.tag) (by simp only [qo, w₅.ci]) (by simp only [qo, w₅.cj]) hlx hlg (by walk_at "look") (by walk_at "look") (by walk_at "look") (by walk_at "look") (QH ?_)
 obtain ⟨f1, f2, f3⟩ := yv (o := 77) hall (by decide) hv
 rw [List.length_cons, List.length_map] at f3
 have hqq := hq hp5 { k := k3, mix := m3, inner := s2.inner - 1, bad := s2.bad, room := s2.room } (tk0 :: (x.toks ++ (qj xs ++ (clt :: [])))) (fun v => ym 77 v (x :: xs.map (·.2))) (q7 (x :: xs.map (·.2))) (by dsimp only at c6 ⊢; lia) c7 ?_ (K₂.trans (K₃.trans K₅)) (QM (by exact le1 hd) c0 (.inl ⟨rfl, rfl⟩) cn h3 (by exact le1 c1) c2.ok (fun y hy => ⟨(c3 y hy).1, (c3 y hy).2.ok⟩) fun _ v hv => (yv hall (by decide) hv).1) f1 (by walk_at "l") ?_ ?_
 ·rw [Xk] at hqq; exact hqq
 ·have e : toks ++ (tk0 :: (x.toks ++ qj xs)) ++ [clt] = toks ++ (tk0 :: (x.toks ++ (qj xs ++ (clt :: [])))) := by simp only [List.append_assoc, List.cons_append, List.nil_append]
  rw [<- e]; exact g₅
 ·simp only [List.length_cons, List.length_append, List.length_nil]; exact le3 f3 c4 (Nat.mul_le_mul_left 2 c1)
 ·simp only [List.length_cons, List.length_append, List.length_nil]; exact le1 c5
theorem fol_idx2 {NG d TR DR NR m : Nat} {hp : Hp} {G : GX} {s : GS} {toks : List Tk} {v : T} {Q : V -> Hp -> Prop} {E : V -> V -> Hp -> Prop} (h2 : 2 <= NG) (hd : d + 10 <= 2 ^ 20) (hDR : DR <= 500) (HA : k7 NG d TR DR NR) (hn : NG <= m) (g : GAt G hp s toks) (hv : wft v) (ht : toks.length + (3 * (TR + 3) + 4) <= 1000000)
  (hq : FolQ G hp s toks d (3 * (TR + 3) + 4) (DR + 1) (NR + 10) v Q) : W (jz (run m)) (Q9 G d v 2) hp (fun fl _ hp' => Q (flV fl) hp') E := by
 unfold jz Q9
 walk_at "gz"
 refine zZ rfl (by decide) rfl (by decide) ?_
 refine qY (xK (o := 78) HA (by walk_at "l") (by exact le2 h2 hn) (by walk_at "look") (by walk_at "look") (by walk_at "look") (by walk_at "look") g (by exact le1 ht) fun tk0 x xs i j hp₂ s2 c0 cn c1 c2 c3 c4 c5 c6 c7 g₂ w₂ c8 c9 K₂ => ?_)
 rw [List.length_append] at c4 c5
 have hall : ∀ y ∈ x :: xs.map (·.2), jH NR (d + 2) DR y := fun y hy => by
  rcases List.mem_cons.mp hy with rfl | hy
  ·exact c2
  ·obtain ⟨z, hz, rfl⟩ := List.mem_map.mp hy; exact (c3 z hz).2
 refine zR (Qz (Q0 ?_))
 walk_at "g"
 refine kW (by decide) (by decide) ?_
 rw [show zo (if ((2 : Int) == 2) = true then 2 else 1) = [V.int 0, V.int 1] from rfl]
 refine kz ?_
 walk_at "g"
 refine qI (zc (tv := .op 116) (by exact le2 h2 hn) (by simp only [List.length_append, List.length_cons, List.length_nil]; exact le2 c5 ht) g₂ fun nl3 k3 m3 hp3 hnl3 g₃ K₃ => ?_)
 walk_at "g"
 generalize ht3 : (⟨.op 116, 10 * (toks ++ (tk0 :: (x.toks ++ qj xs))).length, nl3⟩ : Tk) = clt at g₃
 have h3 : clt.tv = .op 116 := by rw [<- ht3]
 refine kz ?_
 walk_at "g"
 refine qI (zc (tv := .op 116) (by exact le2 h2 hn) (by simp only [List.length_append, List.length_cons, List.length_nil]; exact le2 c5 ht) g₃ fun nl4 k4 m4 hp4 hnl4 g₄ K₄ => ?_)
 walk_at "g"
 generalize ht4 : (⟨.op 116, 10 * (toks ++ (tk0 :: (x.toks ++ qj xs)) ++ [clt]).length, nl4⟩ : Tk) = cl2 at g₄
 have h4 : cl2.tv = .op 116 := by rw [<- ht4]
 refine j4 ?_
 refine qY (zR (vh (by walk_at "look") (by dsimp only; exact lt1 (eR c6)) g₄ fun hp5 g₅ K₅ => ?_))
 have w₅ := (((w₂.keep K₃).keep K₄).keep K₅)
 refine qY (zR (Zi (yU (kD (by walk_at "look") (qr (W_gt (jS rfl ?_)))))))
 have hlx : ((x :: xs.map (·.2)).map fun y => qp y.tree).length <= 200 := by simp only [List.length_map, List.length_cons]; exact le1 c1
 have hlg : ((x :: xs.map (·.2)).map Arg.tag).length <= 200 := by simp only [List.length_map, List.length_cons]; exact le1 c1
 refine Xl (o := 78) (v := qp v) (iv := .ref i) (gv := .ref j) (is := (x :: xs.map (·.2)).map fun y => qp y.tree) (gs := (x :: xs.map (·.2)).map Arg.tag) (by simp only [qo, w₅.ci]) (by simp only [qo, w₅.cj]) hlx hlg (by walk_at "look") (by walk_at "look") (by walk_at "look") (by walk_at "look") (QH ?_)
 obtain ⟨f1, f2, f3⟩ := yv (o := 78) hall (by decide) hv
 rw [List.length_cons, List.length_map] at f3
 have hqq := hq hp5 { k := k4, mix := m4, inner := s2.inner - 1, bad := s2.bad, room := s2.room } (tk0 :: (x.toks ++ (qj xs ++ (clt :: [cl2])))) (fun v => ym 78 v (x :: xs.map (·.2))) (q7 (x :: xs.map (·.2))) (by dsimp only at c6 ⊢; lia) c7 ?_ (K₂.trans (K₃.trans (K₄.trans K₅))) (QM (by exact le1 hd) c0 (.inr ⟨rfl, cl2, rfl, h4⟩) cn h3 (by exact le1 c1) c2.ok (fun y hy => ⟨(c3 y hy).1, (c3 y hy).2.ok⟩) fun _ v hv => (yv hall (by decide) hv).1) f1 (by walk_at "l") ?_ ?_
 ·rw [Xk] at hqq; exact hqq
 ·have e : toks ++ (tk0 :: (x.toks ++ qj xs)) ++ [clt] ++ [cl2] = toks ++ (tk0 :: (x.toks ++ (qj xs ++ (clt :: [cl2])))) := by simp only [List.append_assoc, List.cons_append, List.nil_append]
  rw [<- e]; exact g₅
 ·simp only [List.length_cons, List.length_append, List.length_nil]; exact le3 f3 c4 (Nat.mul_le_mul_left 2 c1)
 ·simp only [List.length_cons, List.length_append, List.length_nil]; exact le1 c5
theorem fol_mem3 {NG d TR DR NR m : Nat} {hp : Hp} {G : GX} {s : GS} {toks : List Tk} {v : T} {Q : V -> Hp -> Prop} {E : V -> V -> Hp -> Prop} (h2 : 2 <= NG) (hd : d + 10 <= 2 ^ 20) (HB : yW NG d TR DR NR) (hn : NG <= m) (g : GAt G hp s toks) (hv : wft v) (ht : toks.length + (3 * (TR + 3) + 4) <= 1000000)
  (hq : FolQ G hp s toks d (3 * (TR + 3) + 4) (DR + 1) (NR + 10) v Q) : W (jz (run m)) (Q9 G d v 3) hp (fun fl _ hp' => Q (flV fl) hp') E := by
 unfold jz Q9
 walk_at "g"
 refine z9 (.str (nm 79)) hp (fun lc _ => by kernel_rfl) ?_
 walk_at "g"
 refine qI (zc (tv := .op 79) (by exact le2 h2 hn) (by exact le1 ht) g fun nl k2 m2 hp₂ hnl g₂ K₂ => ?_)
 generalize htk : (⟨.op 79, 10 * toks.length, nl⟩ : Tk) = tk at g₂
 have htk1 : tk.tv = .op 79 := by rw [<- htk]
 have htk3 : tk.nl = nl := by rw [<- htk]
 have cn : tk.nl = true -> inB s = true := fun q => by rw [htk3] at q; exact decide_eq_true (hnl q)
 walk_at "g"
 refine qI (zt (by exact le2 h2 hn) (by decide) g₂ fun w k3 m3 hp3 w0 w1 g₃ K₃ => ?_)
 have hw : w = 0 \/ w = 1 \/ w = 2 := by lia
 have hpv := vk v
 rcases hw with rfl | rfl | rfl
 ·walk_at "gz"
  walk_at "g"
  refine qI (zc (tv := .id 189) (by exact le2 h2 hn) (by refine lA0 ?_; exact le1 ht) g₃ fun nl4 k4 m4 hp4 hnl4 g₄ K₄ => ?_)
  generalize htk' : (⟨.id 189, 10 * (toks ++ [tk]).length, nl4⟩ : Tk) = tk' at g₄
  have htk2 : tk'.tv = .id 189 := by rw [<- htk']
  walk_at "gz"
  walk_at "gz"
  refine hq hp4 { k := k4, mix := m4, inner := s.inner, bad := s.bad, room := s.room } (tk :: [tk']) (fun v => .call [.name 79, v, .name 189] [.none, .none, .none]) none rfl (by rw [jg]) ?_ (K₂.trans (K₃.trans K₄)) (vQ (by walk_at "l") htk1 (by decide) cn ((mem_id htk2).mono (by walk_at "l")) fun _ => (show 189 ∈ sig by decide)) ⟨by simp, by simp, ⟨(show 79 ∈ sig by decide), hv, (show 189 ∈ sig by decide), trivial⟩, by simp [jZ]⟩ ?_ ?_ ?_
  ·simpa only [List.append_assoc, List.cons_append, List.nil_append] using g₄
  ·walk_at "dp"
  ·simp only [tsz, j5, List.length_cons, List.length_nil]; exact le0
  ·simp only [List.length_cons, List.length_nil]; exact le0
 ·walk_at "gz"
  refine zZ rfl (by decide) rfl (by decide) ?_
  walk_at "g"
  refine qI (zc (tv := .str 189) (by exact le2 h2 hn) (by refine lA0 ?_; exact le1 ht) g₃ fun nl4 k4 m4 hp4 hnl4 g₄ K₄ => ?_)
  generalize htk' : (⟨.str 189, 10 * (toks ++ [tk]).length, nl4⟩ : Tk) = tk' at g₄
  have htk2 : tk'.tv = .str 189 := by rw [<- htk']
  walk_at "gz"
  refine zZ rfl (by decide) rfl (by decide) ?_
  walk_at "gz"
  refine hq hp4 { k := k4, mix := m4, inner := s.inner, bad := s.bad, room := s.room } (tk :: [tk']) (fun v => .call [.name 79, v, .vec 24 [.str (nm 189)]] [.none, .none, .none]) none rfl (by rw [jg]) ?_ (K₂.trans (K₃.trans K₄)) (vQ (by walk_at "l") htk1 (by decide) cn ((Xg htk2).mono (by walk_at "l")) fun _ => wf_m) ⟨by simp, by simp, ⟨(show 79 ∈ sig by decide), hv, wf_m, trivial⟩, by simp [jZ]⟩ ?_ ?_ ?_
  ·simpa only [List.append_assoc, List.cons_append, List.nil_append] using g₄
  ·walk_at "dp"
  ·simp only [tsz, j5, List.length_cons, List.length_nil]; exact le0
  ·simp only [List.length_cons, List.length_nil]; exact le0
 ·walk_at "g"
  refine qI (HB m hp3 G _ (toks ++ [tk]) _ _ (by walk_at "l") g₃ (by refine lA1 ?_; exact le1 ht) fun hp4 s4 tk0 tk1 ts t b c0 cn0 c1 e1 e2 g₄ K₄ wt hdp hsz htl hrd => ?_)
  dsimp only at e1 e2
  walk_at "gz"
  have wb : wft (.call [.name 75, t] [.none, .none]) := ⟨by simp, by simp, ⟨(show 75 ∈ sig by decide), wt, trivial⟩, by simp [jZ]⟩
  have ht1 := vk t
  refine hq hp4 s4 (tk :: (tk0 :: (ts ++ [tk1]))) (fun v => .call [.name 79, v, .call [.name 75, t] [.none, .none]] [.none, .none, .none]) b e1 e2 ?_ (K₂.trans (K₃.trans K₄)) (vQ (by walk_at "l") htk1 (by decide) cn ((mem_br (by exact le1 hd) hrd c0 c1).mono (by exact le0)) fun _ => wb) ⟨by simp, by simp, ⟨(show 79 ∈ sig by decide), hv, wb, trivial⟩, by simp [jZ]⟩ ?_ ?_ ?_
  ·simpa only [List.append_assoc, List.cons_append, List.nil_append] using g₄
  ·walk_at "dp"
  ·simp only [tsz, j5, List.length_cons, List.length_append, List.length_nil]; exact le1 hsz
  ·simp only [List.length_cons, List.length_append, List.length_nil]; exact le1 htl
theorem fol_mem4 {NG d TR DR NR m : Nat} {hp : Hp} {G : GX} {s : GS} {toks : List Tk} {v : T} {Q : V -> Hp -> Prop} {E : V -> V -> Hp -> Prop} (h2 : 2 <= NG) (hd : d + 10 <= 2 ^ 20) (HB : yW NG d TR DR NR) (hn : NG <= m) (g : GAt G hp s toks) (hv : wft v) (ht : toks.length + (3 * (TR + 3) + 4) <= 1000000)
  (hq : FolQ G hp s toks d (3 * (TR + 3) + 4) (DR + 1) (NR + 10) v Q) : W (jz (run m)) (Q9 G d v 4) hp (fun fl _ hp' => Q (flV fl) hp') E := by
 unfold jz Q9
 walk_at "g"
 refine z9 (.str (nm 80)) hp (fun lc _ => by kernel_rfl) ?_
 walk_at "g"
 refine qI (zc (tv := .op 80) (by exact le2 h2 hn) (by exact le1 ht) g fun nl k2 m2 hp₂ hnl g₂ K₂ => ?_)
 generalize htk : (⟨.op 80, 10 * toks.length, nl⟩ : Tk) = tk at g₂
 have htk1 : tk.tv = .op 80 := by rw [<- htk]
 have htk3 : tk.nl = nl := by rw [<- htk]
 have cn : tk.nl = true -> inB s = true := fun q => by rw [htk3] at q; exact decide_eq_true (hnl q)
 walk_at "g"
 refine qI (zt (by exact le2 h2 hn) (by decide) g₂ fun w k3 m3 hp3 w0 w1 g₃ K₃ => ?_)
 have hw : w = 0 \/ w = 1 \/ w = 2 := by lia
 have hpv := vk v
 rcases hw with rfl | rfl | rfl
 ·walk_at "gz"
  walk_at "g"
  refine qI (zc (tv := .id 189) (by exact le2 h2 hn) (by refine lA0 ?_; exact le1 ht) g₃ fun nl4 k4 m4 hp4 hnl4 g₄ K₄ => ?_)
  generalize htk' : (⟨.id 189, 10 * (toks ++ [tk]).length, nl4⟩ : Tk) = tk' at g₄
  have htk2 : tk'.tv = .id 189 := by rw [<- htk']
  walk_at "gz"
  walk_at "gz"
  refine hq hp4 { k := k4, mix := m4, inner := s.inner, bad := s.bad, room := s.room } (tk :: [tk']) (fun v => .call [.name 80, v, .name 189] [.none, .none, .none]) none rfl (by rw [jg]) ?_ (K₂.trans (K₃.trans K₄)) (vQ (by walk_at "l") htk1 (by decide) cn ((mem_id htk2).mono (by walk_at "l")) fun _ => (show 189 ∈ sig by decide)) ⟨by simp, by simp, ⟨(show 80 ∈ sig by decide), hv, (show 189 ∈ sig by decide), trivial⟩, by simp [jZ]⟩ ?_ ?_ ?_
  ·simpa only [List.append_assoc, List.cons_append, List.nil_append] using g₄
  ·walk_at "dp"
  ·simp only [tsz, j5, List.length_cons, List.length_nil]; exact le0
  ·simp only [List.length_cons, List.length_nil]; exact le0
 ·walk_at "gz"
  refine zZ rfl (by decide) rfl (by decide) ?_
  walk_at "g"
  refine qI (zc (tv := .str 189) (by exact le2 h2 hn) (by refine lA0 ?_; exact le1 ht) g₃ fun nl4 k4 m4 hp4 hnl4 g₄ K₄ => ?_)
  generalize htk' : (⟨.str 189, 10 * (toks ++ [tk]).length, nl4⟩ : Tk) = tk' at g₄
  have htk2 : tk'.tv = .str 189 := by rw [<- htk']
  walk_at "gz"
  refine zZ rfl (by decide) rfl (by decide) ?_
  walk_at "gz"
  refine hq hp4 { k := k4, mix := m4, inner := s.inner, bad := s.bad, room := s.room } (tk :: [tk']) (fun v => .call [.name 80, v, .vec 24 [.str (nm 189)]] [.none, .none, .none]) none rfl (by rw [jg]) ?_ (K₂.trans (K₃.trans K₄)) (vQ (by walk_at "l") htk1 (by decide) cn ((Xg htk2).mono (by walk_at "l")) fun _ => wf_m) ⟨by simp, by simp, ⟨(show 80 ∈ sig by decide), hv, wf_m, trivial⟩, by simp [jZ]⟩ ?_ ?_ ?_
  ·simpa only [List.append_assoc, List.cons_append, List.nil_append] using g₄
  ·walk_at "dp"
  ·simp only [tsz, j5, List.length_cons, List.length_nil]; exact le0
  ·simp only [List.length_cons, List.length_nil]; exact le0
 ·walk_at "g"
  refine qI (HB m hp3 G _ (toks ++ [tk]) _ _ (by walk_at "l") g₃ (by refine lA1 ?_; exact le1 ht) fun hp4 s4 tk0 tk1 ts t b c0 cn0 c1 e1 e2 g₄ K₄ wt hdp hsz htl hrd => ?_)
  dsimp only at e1 e2
  walk_at "gz"
  have wb : wft (.call [.name 75, t] [.none, .none]) := ⟨by simp, by simp, ⟨(show 75 ∈ sig by decide), wt, trivial⟩, by simp [jZ]⟩
  have ht1 := vk t
  refine hq hp4 s4 (tk :: (tk0 :: (ts ++ [tk1]))) (fun v => .call [.name 80, v, .call [.name 75, t] [.none, .none]] [.none, .none, .none]) b e1 e2 ?_ (K₂.trans (K₃.trans K₄)) (vQ (by walk_at "l") htk1 (by decide) cn ((mem_br (by exact le1 hd) hrd c0 c1).mono (by exact le0)) fun _ => wb) ⟨by simp, by simp, ⟨(show 80 ∈ sig by decide), hv, wb, trivial⟩, by simp [jZ]⟩ ?_ ?_ ?_
  ·simpa only [List.append_assoc, List.cons_append, List.nil_append] using g₄
  ·walk_at "dp"
  ·simp only [tsz, j5, List.length_cons, List.length_append, List.length_nil]; exact le1 hsz
  ·simp only [List.length_cons, List.length_append, List.length_nil]; exact le1 htl
theorem KQ {E : V -> V -> Hp -> Prop} {l : Nv} {hp : Hp} {i : Nat} {v : V} {b : M Fl} {Q : Fl -> Nv -> Hp -> Prop} (h : W b ((i, v) :: l) hp Q E) : xM b Q E .nxt ((i, v) :: l) hp := qY h
theorem fol_spec {NG d TR DR NR : Nat} (h2 : 2 <= NG) (hd : d + 10 <= 2 ^ 20) (hDR : DR <= 500) (HA : k7 NG d TR DR NR) (HB : yW NG d TR DR NR) : y7 (NG + 1) d (3 * (TR + 3) + 4) (DR + 1) (NR + 10) := by
 refine fun n hp G s toks v Q E hn g hv ht hq => ?_
 obtain ⟨m, rfl⟩ := Nat.exists_eq_add_of_le' (by walk_at "l" : 1 <= n)
 refine qh [136, 143, 164, 177] none (j0 (run m)) rfl rfl ?_
 simp only [List.zip_cons_cons, List.zip_nil_left, List.zip_nil_right]
 rw [yR]
 walk_at "g"
 refine qI (zt (by exact le2 h2 hn) (by decide) g fun kd k mm hp₁ k0 k1 g₁ K₁ => ?_)
 refine KQ ?_
 have hq1 : FolQ G hp₁ { k := k, mix := mm, inner := s.inner, bad := s.bad, room := s.room } toks d (3 * (TR + 3) + 4) (DR + 1) (NR + 10) v Q := fun hp' s' ts F b a1 a2 a3 a4 a5 a6 a7 a8 a9 => hq hp' s' ts F b a1 a2 a3 (K₁.trans a4) a5 a6 a7 a8 a9
 have hk : kd = 0 \/ kd = 1 \/ kd = 2 \/ kd = 3 \/ kd = 4 := by lia
 rcases hk with rfl | rfl | rfl | rfl | rfl
 ·exact fol_call h2 hd hDR HA (by exact le1 hn) g₁ hv ht hq1
 ·exact fol_idx1 h2 hd hDR HA (by exact le1 hn) g₁ hv ht hq1
 ·exact fol_idx2 h2 hd hDR HA (by exact le1 hn) g₁ hv ht hq1
 ·exact fol_mem3 h2 hd HB (by exact le1 hn) g₁ hv ht hq1
 ·exact fol_mem4 h2 hd HB (by exact le1 hn) g₁ hv ht hq1
section
variable {n : Nat} {E : V -> V -> Hp -> Prop} {G : GX}
noncomputable def Zy (c : Fn -> List V -> M V) : M Fl := (u278 c)
theorem Sub.over {k j : Nat} {w w' x : V} {l : Nv} (hj : l.lookup j = none) (hkj : j ≠ k) : Sub ((k, w) :: l) ((k, w) :: (j, x) :: (k, w') :: l) := by
 intro i v e
 by_cases q : i = k
 ·subst q
  have : v = w := by simpa [List.lookup_cons] using e.symm
  subst this; exact zK
 ·have qb : (i == k) = false := by simpa using q
  rw [List.lookup_cons, qb] at e
  have e : l.lookup i = some v := e
  refine ja qb (ja ?_ (ja qb e))
  by_cases q2 : i = j
  ·subst q2; rw [hj] at e; cases e
  ·simpa using q2
theorem w_fols {NG d TF D0 NP : Nat} {l : Nv} {Q : Fl -> Nv -> Hp -> Prop} (H : y7 NG d TF D0 NP) (hn : NG <= n) (l136 : l.lookup 136 = some (.ref G.pc)) (l143 : l.lookup 143 = some (.ref G.wc)) (l164 : l.lookup 164 = some (.int d)) (l134 : l.lookup 134 = none) :
  ∀ (xs : List V) (hp : Hp) (s : GS) (toks : List Tk) (v : T), wft v -> toks.length + xs.length * TF <= 1000000 -> GAt G hp s toks ->
   (∀ hp' s' ts F b, s'.inner = s.inner -> s'.bad = orB s.bad b -> GAt G hp' s' (toks ++ ts) -> qx G hp hp' -> wB NP (d + 1) (inB s) ts F b -> wft (F v) -> tdp (F v) <= max (tdp v) D0 + xs.length -> tsz (F v) <= tsz v + 10 * ts.length -> ts.length <= xs.length * TF -> Q .nxt ((177, qp (F v)) :: l) hp') ->
   W (jI (nm 134) (Zy (run n)) xs) ((177, qp v) :: l) hp Q E := by
 intro xs
 induction xs with
 | nil =>
  intro hp s toks v hv hz g hq
  refine j4 (hq hp s [] (fun v => v) none rfl (by rw [jg]) (by rw [List.append_nil]; exact g) .refl .nil hv (by simp only [List.length_nil]; lia) (by simp) (Nat.zero_le _))
 | cons x xs ih =>
  intro hp s toks v hv hz g hq
  rw [List.length_cons, Nat.succ_mul] at hz
  refine kz ?_
  unfold Zy
  walk_at "g"
  refine qI (H n hp G s toks v _ _ hn g hv (by exact le1 hz) fun hp₁ s₁ ts F b e1 e2 g₁ K₁ hP hF hd hs hl => ?_)
  walk_at "g"
  refine ve (Sub.over l134 (by decide)) ?_
  have ei : inB s₁ = inB s := by unfold inB; rw [e1]
  refine ih hp₁ s₁ (toks ++ ts) (F v) hF (by rw [List.length_append]; exact le2 hz hl) g₁ fun hp' s' ts' F' b' f1 f2 g' K' hP' hF' hd' hs' hl' => ?_
  rw [ei] at hP'
  refine hq hp' s' (ts ++ ts') (fun v => F' (F v)) (orB b b') (by rw [f1, e1]) (by rw [f2, e2, wo]) (by rw [<- List.append_assoc]; exact g') (K₁.trans K') (.cons hP hP') hF' (by simp only [List.length_cons]; lia) (by rw [List.length_append]; exact le2 hs' hs) (by rw [List.length_append, List.length_cons, Nat.succ_mul]; exact le2 hl' hl)
end
theorem first_app {ts ts' : List Tk} (h : kY ts) (h' : ∀ t0 tl, ts' = t0 :: tl -> ∃ o, t0.tv = .op o /\ o ∈ xC) : kY (ts ++ ts') := by
 obtain ⟨t0, tl, rfl, h1, h2, h3⟩ := h
 refine ⟨t0, tl ++ ts', rfl, h1, h2, fun hn t1 tl' e => ?_⟩
 cases tl with
 | cons y tl => cases e; exact h3 hn _ _ rfl
 | nil =>
  obtain ⟨o, e1, e2⟩ := h' t1 tl' e
  rw [e1]
  refine ⟨(by decide : ∀ o ∈ xC, o ∈ zE) o e2, fun q => ?_⟩
  cases q
  exact absurd e2 (by decide)
theorem wB.first {N L inb ts F b} (h : wB N L inb ts F b) : ∀ t0 tl, ts = t0 :: tl -> ∃ o, t0.tv = .op o /\ o ∈ xC := by
 cases h with
 | nil => intro t0 tl e; cases e
 | cons h1 h2 =>
  obtain ⟨t0, tl, o, e1, e2, e3, _⟩ := h1.first
  intro t0' tl' e
  rw [e1] at e
  cases e
  exact ⟨o, e2, e3⟩
theorem orErr_orB (b : Option Err) (e : Err) : vS b e = orB b (some e) := by cases b <;> rfl
theorem kE.mono' {N N' L inb ts t b} (h : kE N L inb ts t b) (hN : N <= N') : kE N' L inb ts t b := h.mono hN
theorem Xc {NG d TP DP NP TF D0 : Nat} (h3 : 3 <= NG) (hN : 6 <= NP) (hd3 : d <= 3) (hTP : 1 <= TP) (hDP : 1 <= DP) (HP : yD NG d TP DP NP) (HF : d < 3 -> y7 NG d TF D0 NP) (hD0 : DP <= D0) (hz : 2 * TF <= 900000) : Q2 (NG + 1) d (TP + 2 * TF) (D0 + 2) (NP + 2) := by
 refine fun n hp G s toks Q E hn g ht hq => ?_
 obtain ⟨m, rfl⟩ := Nat.exists_eq_add_of_le' (by walk_at "l" : 1 <= n)
 refine qh [136, 143, 164] none (kU (run m)) rfl rfl ?_
 simp only [List.zip_cons_cons, List.zip_nil_left, List.zip_nil_right]
 unfold kU
 refine zR (w_roomSub (by walk_at "look") g fun hp₁ g₁ K₁ => qY ?_)
 walk_at "g"
 refine qI (zt (by exact le2 h3 hn) (by decide) g₁ fun v k mm hp₂ v0 v1 g₂ K₂ => ?_)
 walk_at "g"
 refine zL (fun q => ?_) fun q => ?_
 ·-- a token that begins no operand
  walk_at "gz"
  refine qI (zt (by exact le2 h3 hn) (by decide) g₂ fun v' k' mm' hp3 v0' v1' g₃ K₃ => ?_)
  have fin : ∀ (tv : Tv) (nl : Bool) hp' s', tv.ok -> isBad tv = true -> named tv = false -> GAt G hp' s' (toks ++ [⟨tv, 10 * toks.length, nl⟩]) -> s'.inner = s.inner -> s'.bad = vS s.bad (Jw tv, .int (10 * toks.length)) -> qx G hp hp' -> Q (qp .null) hp' := by
   intro tv nl hp' s' hk hb hnm g' e1 e2 K'
   have hrd : kE NP (d + 1) (inB s) [⟨tv, 10 * toks.length, nl⟩] .null (some (Jw tv, .int (10 * toks.length))) := (prim_bad (t0 := ⟨tv, 10 * toks.length, nl⟩) hk hb).mono hN
   refine hq hp' s' [⟨tv, 10 * toks.length, nl⟩] .null (some (Jw tv, .int (10 * toks.length))) e1 (by rw [e2, orErr_orB]) g' K' trivial (by simp only [tdp]; exact le0) (by simp only [tsz, List.length_cons, List.length_nil]; exact le0) (by simp only [List.length_cons, List.length_nil]; exact le1 hTP) (fun pre => ?_) ⟨_, [], rfl, hk, fun o e => ?_, fun e => ?_⟩
   ·have := Xb hN hrd (fun _ => trivial) (wB.nil (N := NP) (L := d + 1) (inb := inB s)) (by simp) pre
    exact this
   ·have e : tv = .op o := e
    rw [e] at hb
    have : o = 175 := eq_of_beq (a := o) hb
    subst this; decide
   ·have e : named tv = true := e
    rw [hnm] at e; cases e
  have hv : v' = 0 \/ v' = 1 \/ v' = 2 \/ v' = 3 := by lia
  rcases hv with rfl | rfl | rfl | rfl
  ·refine zZ rfl (by decide) rfl (by decide) ?_
   refine zW rfl ?_
   walk_at "g"
   refine qI (zc (tv := .key 173) (by exact le2 h3 hn) (by exact le1 ht) g₃ fun nl k3 m3 hp4 hnl g₄ K₄ => ?_)
   walk_at "g"
   refine qI (Qd (by exact le2 h3 hn) g₄ fun hp5 g₅ K₅ => ?_)
   walk_at "gz"
   exact fin (.key 173) nl hp5 _ (by show 173 < 204; decide) rfl rfl g₅ rfl rfl (K₁.trans (K₂.trans (K₃.trans (K₄.trans K₅))))
  ·refine zZ rfl (by decide) rfl (by decide) ?_
   refine zW rfl ?_
   walk_at "g"
   refine qI (zc (tv := .key 174) (by exact le2 h3 hn) (by exact le1 ht) g₃ fun nl k3 m3 hp4 hnl g₄ K₄ => ?_)
   walk_at "g"
   refine qI (Qd (by exact le2 h3 hn) g₄ fun hp5 g₅ K₅ => ?_)
   walk_at "gz"
   exact fin (.key 174) nl hp5 _ (by show 174 < 204; decide) rfl rfl g₅ rfl rfl (K₁.trans (K₂.trans (K₃.trans (K₄.trans K₅))))
  ·refine zZ rfl (by decide) rfl (by decide) ?_
   refine zW rfl ?_
   walk_at "g"
   refine qI (zc (tv := .op 175) (by exact le2 h3 hn) (by exact le1 ht) g₃ fun nl k3 m3 hp4 hnl g₄ K₄ => ?_)
   walk_at "g"
   refine qI (Qd (by exact le2 h3 hn) g₄ fun hp5 g₅ K₅ => ?_)
   walk_at "gz"
   exact fin (.op 175) nl hp5 _ (by show 175 ∈ zE; decide) rfl rfl g₅ rfl rfl (K₁.trans (K₂.trans (K₃.trans (K₄.trans K₅))))
  ·refine zZ rfl (by decide) rfl (by decide) ?_
   refine zW rfl ?_
   walk_at "g"
   refine qI (zc (tv := .eof) (by exact le2 h3 hn) (by exact le1 ht) g₃ fun nl k3 m3 hp4 hnl g₄ K₄ => ?_)
   walk_at "g"
   refine qI (Qd (by exact le2 h3 hn) g₄ fun hp5 g₅ K₅ => ?_)
   walk_at "gz"
   exact fin (.eof) nl hp5 _ trivial rfl rfl g₅ rfl rfl (K₁.trans (K₂.trans (K₃.trans (K₄.trans K₅))))
 ·walk_at "g"
  refine qI (HP m hp₂ G _ toks _ _ (by exact le1 hn) g₂ (by exact le1 ht) fun hp3 s3 ts t b e1 e2 g₃ K₃ wt hdp hsz htl hrd hfst => ?_)
  dsimp only at e1 e2
  refine KQ ?_
  refine zR (Qz (W_eIf (w_deep (by walk_at "look") (by walk_at "look") g₃ fun dt hdt => ?_)))
  have ei : ∀ (k : Nat) (mm rm : Int), inB { k := k, mix := mm, inner := s.inner, bad := s.bad, room := rm } = inB s := fun _ _ _ => rfl
  have ei3 : inB s3 = inB s := by unfold inB; rw [e1]
  have fin : ∀ (xs : List V) hp4 s4, xs.length <= 2 -> (xs ≠ [] -> d < 3) -> s4.inner = s3.inner -> s4.bad = s3.bad -> GAt G hp4 s4 (toks ++ ts) -> qx G hp hp4 -> W (jI (nm 134) (Zy (run m)) xs) [(177, qp t), (136, .ref G.pc), (143, .ref G.wc), (164, .int d)] hp4 (xM (qF (qs (qD (nm 177))) qK) (fun fl _ hp' => Q (flV fl) hp') E) E := by
   intro xs hp4 s4 hx hx3 f1 f2 g₄ K₄
   have ei4 : inB s4 = inB s := by unfold inB; rw [f1, e1]
   have wrap : ∀ hp' s' ts' F b', s'.inner = s4.inner -> s'.bad = orB s4.bad b' -> GAt G hp' s' (toks ++ ts ++ ts') -> qx G hp4 hp' -> wB NP (d + 1) (inB s) ts' F b' -> wft (F t) -> tdp (F t) <= max (tdp t) D0 + 2 -> tsz (F t) <= tsz t + 10 * ts'.length -> ts'.length <= 2 * TF -> Q (qp (F t)) hp' := by
    intro hp' s' ts' F b' a1 a2 a3 a4 a5 a6 a7 a8 a9
    rw [ei] at hrd
    refine hq hp' s' (ts ++ ts') (F t) (orB b b') (by rw [a1, f1, e1]) (by rw [a2, f2, e2, wo]) (by rw [<- List.append_assoc]; exact a3) (K₄.trans a4) a6 (by walk_at "l") (by rw [List.length_append]; exact le2 a8 hsz) (by rw [List.length_append]; exact le2 a9 htl) (fun pre => ?_) (first_app hfst a5.first)
    exact Xb hN hrd (fun _ => wt) a5 (by exact le2 a9 hz) pre
   cases xs with
   | nil =>
    refine j4 ?_
    walk_at "g"
    exact wrap hp4 s4 [] (fun v => v) none rfl (by rw [jg]) (by rw [List.append_nil]; exact g₄) .refl .nil wt (by walk_at "l") (by simp) (Nat.zero_le _)
   | cons x xs =>
    have hxl : (x :: xs).length * TF <= 2 * TF := Nat.mul_le_mul_right _ hx
    refine w_fols (HF (hx3 (by simp))) (by exact le1 hn) (by walk_at "look") (by walk_at "look") (by walk_at "look") rfl (x :: xs) hp4 s4 (toks ++ ts) t wt (by rw [List.length_append]; exact le3 hxl ht htl) g₄ fun hp' s' ts' F b' a1 a2 a3 a4 a5 a6 a7 a8 a9 => ?_
    rw [ei4] at a5
    walk_at "g"
    exact wrap hp' s' ts' F b' a1 a2 a3 a4 a5 a6 (by exact le2 a7 hx) a8 (by exact le2 a9 hxl)
  refine zL (fun q => ?_) fun q => ?_
  ·walk_at "g"
   refine qI (zt (by exact le2 h3 hn) (by decide) g₃ fun w k3 m3 hp4 w0 w1 g₄ K₄ => ?_)
   refine kW w0 (by walk_at "l") ?_
   refine fin (zo w) hp4 { k := k3, mix := m3, inner := s3.inner, bad := s3.bad, room := s3.room } (by unfold zo; rw [List.length_map, List.length_range]; lia) (fun _ => hdt q) rfl rfl g₄ (K₁.trans (K₂.trans (K₃.trans K₄)))
  ·refine qr (kW (by decide) (by decide) ?_)
   refine fin [] hp3 s3 (by simp) (fun q => absurd rfl q) rfl rfl g₃ (K₁.trans (K₂.trans K₃))
theorem QJ {NG d TR DR NR C : Nat} (hd : d < 3) (hC : C = if d = 0 then 4 else 2) (h6 : 6 <= NG) (hD : 1 <= DR) (hDR : DR <= 499) (hz : 10 * ((C + 1) * ((TR + 2 + 2 * (3 * (TR + 3) + 4)) + 3)) <= 4000000) (hz2 : 2 * (3 * (TR + 3) + 4) <= 900000) (H : jU NG (d + 1) TR DR NR) :
  jU (NG + 4) d ((C + 1) * ((TR + 2 + 2 * (3 * (TR + 3) + 4)) + 3)) ((DR + 1 + 2) + 2 + 3 * C) (5 * C + 6 + (NR + 10 + 2)) := by
 have br : yW (NG + 1) d TR DR NR := br_spec (by walk_at "l") H
 have ar : k7 (NG + 1) d TR DR NR := args_spec (by walk_at "l") hD H
 have fo : y7 (NG + 2) d (3 * (TR + 3) + 4) (DR + 1) (NR + 10) := fol_spec (by exact le1 h6) (by walk_at "l") (by exact le1 hDR) ar br
 have pr : yD (NG + 2) d (TR + 2) (DR + 1) (NR + 10) := ZQ (NG := NG + 1) (by exact le1 (sL hd)) (by exact le1 h6) (by walk_at "l") (by walk_at "l") (by walk_at "l") (fun _ => ⟨by exact le0, by exact le0, by exact le0⟩) fun _ => br
 have op : Q2 (NG + 3) d (TR + 2 + 2 * (3 * (TR + 3) + 4)) (DR + 1 + 2) (NR + 10 + 2) := Xc (NG := NG + 2) (by exact le1 h6) (by walk_at "l") (by exact le1 (sL hd)) (by walk_at "l") (by walk_at "l") pr (fun _ => fo) (Nat.le_refl _) hz2
 exact JU hC (by exact le0) (by exact le1 h6) hz op
theorem all_rows : jU 20 0 256985 50 118 := by
 have p3 : yD 6 3 1 1 6 := ZQ (NG := 5) (TR := 0) (DR := 0) (NR := 0) (by decide) (by decide) (by decide) (by decide) (by decide) (fun h => absurd h (by decide)) fun h => absurd h (by decide)
 have o3 : Q2 7 3 1 3 8 := Xc (NG := 6) (TF := 0) (D0 := 1) (by decide) (by decide) (by decide) (by decide) (by decide) p3 (fun h => absurd h (by decide)) (by decide) (by decide)
 have r3 : jU 8 3 12 11 24 := JU (C := 2) rfl (by decide) (by decide) (by decide) o3
 have r2 : jU 12 2 345 22 52 := QJ (C := 2) (by decide) rfl (by decide) (by decide) (by decide) (by decide) (by decide) r3
 have r1 : jU 16 1 7338 33 80 := QJ (C := 2) (by decide) rfl (by decide) (by decide) (by decide) (by decide) (by decide) r2
 exact QJ (C := 4) (by decide) rfl (by decide) (by decide) (by decide) (by decide) (by decide) r1
section
variable {l : Nv} {hp : Hp} {E : V -> V -> Hp -> Prop}
theorem W_inC {Q : V -> Nv -> Hp -> Prop} {x : Nat} {v w : V} {e : M V} (h : W e [(x, v)] hp (fun u _ hp' => u = w /\ hp' = hp) (fun _ _ _ => False)) (hq : Q w l hp) : W (inC (nm x) v e) l hp Q E := by
 refine ⟨fun lc hl => ?_⟩
 have := h.go (FL [(x, v)]) Has.FL
 unfold inC
 dsimp only
 rw [show [(nm x, v)] = FL [(x, v)] from rfl]
 cases hm : e ⟨FL [(x, v)], hp⟩ with
 | ok a s =>
  rw [hm] at this
  obtain ⟨l', _, rfl, h3⟩ := this
  dsimp only
  rw [h3]
  exact ⟨l, hl, hq⟩
 | exc k p s => rw [hm] at this; exact this.elim
 | stuck => rw [hm] at this; exact this.elim
theorem W_mapC {x : Nat} {e : M V} (zs : List (V × V)) : ∀ {Q : List V -> Nv -> Hp -> Prop}, (∀ z ∈ zs, W e [(x, z.1)] hp (fun u _ hp' => u = z.2 /\ hp' = hp) (fun _ _ _ => False)) -> Q (zs.map (·.2)) l hp -> W (yl (nm x) e (zs.map (·.1))) l hp Q E := by
 induction zs with
 | nil => intro Q _ hq; exact qr hq
 | cons z r ih =>
  intro Q h hq
  exact qS (W_inC (h z (.head _)) (qS (ih (fun y hy => h y (.tail _ hy)) (qr hq))))
theorem X5 {Q : V -> Nv -> Hp -> Prop} {x : Nat} {e src : M V} (h : W src l hp (fun v l hp => W (Ji (nm x) e v) l hp Q E) E) : W (Xq (nm x) e src) l hp Q E := qS h
theorem Xz {Q : V -> Nv -> Hp -> Prop} {x : Nat} {e : M V} (zs : List (V × V)) (hz : zs.length <= zh) (h : ∀ z ∈ zs, W e [(x, z.1)] hp (fun u _ hp' => u = z.2 /\ hp' = hp) (fun _ _ _ => False)) (hq : Q (.lst (zs.map (·.2))) l hp) : W (Ji (nm x) e (.lst (zs.map (·.1)))) l hp Q E := by
 unfold Ji
 dsimp only
 rw [if_pos (by rw [List.length_map]; exact hz)]
 exact qS (W_mapC zs h (qr hq))
end
theorem Kr : ∀ (n : Nat) (t : T) (hp : Hp) (Q : V -> Hp -> Prop) (E : V -> V -> Hp -> Prop), wft t -> tdp t <= n -> tsz t <= 4000000 -> Q (qp t) hp -> Call n .lawPlain [qg t] hp Q E := by
 intro n
 induction n with
 | zero => intro t hp Q E hw hd; have := vk t; lia
 | succ n ih =>
  intro t hp Q E hw hd hz hq
  refine qh [7] none (vw (run n)) rfl rfl ?_
  simp only [List.zip_cons_cons, List.zip_nil_left, List.zip_nil_right]
  unfold vw
  cases t with
  | name s =>
   simp only [qg]
   walk_at "gz"
   exact hq
  | vec k items =>
   have hlen := hw.2.2.1
   simp only [qg]
   rcases hw.1 with rfl | rfl | rfl
   all_goals
    walk_at "gz"
    refine wy [64, 115] (by decide) (by decide) ?_
    refine jT (by decide) ?_
    walk_at "gz"
    refine XH (xs := items) rfl (by refine pLe ?_; exact le1 hlen) ?_
    walk_at "gz"
    exact hq
  | null =>
   simp only [qg]
   walk_at "gz"
   refine wy [64, 115] (by decide) (by decide) ?_
   refine jS (by decide) ?_
   walk_at "gz"
   exact hq
  | missing =>
   simp only [qg]
   walk_at "gz"
   refine wy [64, 115] (by decide) (by decide) ?_
   refine jS (by decide) ?_
   walk_at "gz"
   exact hq
  | call is gs =>
   have hts := xW is
   have hd2 : 1 + vj is <= n + 1 := hd
   have hz2 : 1 + gs.length + j5 is <= 4000000 := hz
   have hall : ∀ t ∈ is, wft t /\ tdp t <= vj is /\ tsz t <= j5 is := by
    obtain ⟨-, -, h3, -⟩ := hw
    clear hz hd hq hts hd2 hz2
    induction is with
    | nil => exact fun t ht => nomatch ht
    | cons x is ih2 =>
     intro t ht
     obtain ⟨h3, h4⟩ := h3
     rcases List.mem_cons.mp ht with rfl | ht
     ·exact ⟨h3, by simp only [vj]; lia, by simp only [j5]; exact le0⟩
     ·obtain ⟨a1, a2, a3⟩ := ih2 h4 t ht
      exact ⟨a1, by simp only [vj]; lia, by simp only [j5]; exact le1 a3⟩
   simp only [qg]
   walk_at "gz"
   refine wy [64, 115] (by decide) (by decide) ?_
   refine jT (by decide) ?_
   walk_at "gz"
   refine X5 ?_
   walk_at "g"
   have e1 : ju is = (is.map fun t => (qg t, qp t)).map (·.1) := by rw [List.map_map, vT]; rfl
   have e2 : (is.map fun t => (qg t, qp t)).map (·.2) = zy is := by rw [List.map_map, vN]; rfl
   rw [e1]
   refine Xz _ (by rw [zY, List.length_map]; exact le2 hts hz2) (fun z hzm => ?_) ?_
   ·obtain ⟨t, ht, rfl⟩ := List.mem_map.mp hzm
    obtain ⟨a1, a2, a3⟩ := hall t ht
    walk_at "g"
    exact qI (ih t hp _ _ a1 (by exact le2 a2 hd2) (by exact le2 a3 hz2) ⟨rfl, rfl⟩)
   ·rw [e2]
    walk_at "g"
    refine XH (xs := gs) rfl (by refine pLe ?_; exact le1 hz2) ?_
    walk_at "gz"
    exact hq
section
variable {n : Nat} {hp : Hp} {E : V -> V -> Hp -> Prop}
theorem W_augDiv {l : Nv} {Q : V -> Nv -> Hp -> Prop} {x : Int} (h : Q (.int (x.fdiv 840)) l hp) : W (Jj .FloorDiv (.int x) (.int 840)) l hp Q E := by
 show W (if (840 : Int) ≠ 0 /\ (840 : Int).natAbs < 1073741824 then pure (.int (x.fdiv 840)) else zC) l hp Q E
 rw [if_pos (by decide)]
 exact qr h
noncomputable def Xn : M Fl := u202
noncomputable def Jd : M Fl := u207
theorem JB (c : Fn -> List V -> M V) : wr c = u211 := rfl
theorem w_figs {fc : Nat} {l₀ : Nv} {Q : Fl -> Nv -> Hp -> Prop} (l127 : l₀.lookup 127 = some (.ref fc)) (l133 : l₀.lookup 133 = none) (l134 : l₀.lookup 134 = none) :
  ∀ (xs : List V) (hp : Hp) (figs : List Int) (a : Int) (l : Nv), figs.length + xs.length <= 4000 -> hp[fc]? = some (.lst (figs.map .int)) -> Sub l₀ l -> l.lookup 133 = some (.int a) ->
   (∀ (hp' : Hp) (figs' : List Int) (l' : Nv), figs'.length <= figs.length + xs.length -> hp'[fc]? = some (.lst (figs'.map .int)) -> Sub l₀ l' -> Q .nxt l' hp') -> W (jI (nm 134) Xn xs) l hp Q E := by
 intro xs
 induction xs with
 | nil => intro hp figs a l hz hf hs l1 hq; exact j4 (hq hp figs l (Nat.le_refl _) hf hs)
 | cons x xs ih =>
  intro hp figs a l hz hf hs l1 hq
  have m127 := hs _ _ l127
  simp only [List.length_cons] at hz
  refine kz ?_
  unfold Xn
  walk_at "g"
  refine Zj (by decide) ?_
  refine zQ hf (by rw [zY, List.length_map]; exact le1 hz) fun hp₁ u₁ => ?_
  have hf1 : hp₁[fc]? = some (.lst ((figs ++ [a.fmod 840]).map .int)) := by rw [u₁.at_, List.map_append]; rfl
  walk_at "g"
  refine W_augDiv ?_
  walk_at "g"
  refine zL (fun q => ?_) fun q => ?_
  ·walk_at "g"
   exact hq hp₁ _ _ (by rw [List.length_append]; simp only [List.length_cons, List.length_nil]; exact le0) hf1 (Sub.cons l133 (Sub.cons l134 hs))
  ·walk_at "g"
   refine ih hp₁ _ (a.fdiv 840) _ (by refine lA1 ?_; exact le1 hz) hf1 (Sub.cons l133 (Sub.cons l134 hs)) zK fun hp' figs' l' h1 h2 h3 => hq hp' figs' l' (by rw [List.length_append] at h1; simp only [List.length_cons, List.length_nil] at h1 ⊢; exact le1 h1) h2 h3
theorem w_pool {fc : Nat} {Q : Fl -> Nv -> Hp -> Prop} :
  ∀ (ks : List Int) (hp : Hp) (figs : List Int) (mix : Int) (l : Nv), figs.length + 60 * ks.length <= 4000 -> hp[fc]? = some (.lst (figs.map .int)) -> Sub [(127, .ref fc)] l -> l.lookup 128 = some (.int mix) ->
   (∀ (hp' : Hp) (figs' : List Int) (mix' : Int) (l' : Nv), figs'.length <= 4000 -> hp'[fc]? = some (.lst (figs'.map .int)) -> Sub [(127, .ref fc)] l' -> l'.lookup 128 = some (.int mix') -> Q .nxt l' hp') -> W (jI (nm 129) Jd (ks.map .int)) l hp Q E := by
 intro ks
 induction ks with
 | nil => intro hp figs mix l hz hf hs l1 hq; exact j4 (hq hp figs mix l (by exact le1 hz) hf hs l1)
 | cons k ks ih =>
  intro hp figs mix l hz hf hs l1 hq
  have m127 : l.lookup 127 = some (.ref fc) := hs _ _ rfl
  simp only [List.length_cons] at hz
  refine kz ?_
  unfold Jd
  walk_at "g"
  refine W_mulR (by decide) ?_
  walk_at "g"
  refine Zj (by decide) ?_
  walk_at "g"
  refine kW (by decide) (by decide) ?_
  have hx : (zo 60).length = 60 := by unfold zo; rw [List.length_map, List.length_range]; rfl
  refine w_figs (l₀ := [(128, .int ((mix * 31 + k).fmod 1009)), (127, .ref fc)]) rfl rfl rfl (zo 60) hp figs (if k < 0 then -k else k) _ (by exact le2 (eL hx) hz) hf ?_ zK fun hp₁ figs1 l₁ h1 h2 h3 => ?_
  ·refine Sub.cons rfl ?_
   intro i v e
   by_cases q : i = 128
   ·subst q
    have : v = .int ((mix * 31 + k).fmod 1009) := by simpa [List.lookup_cons] using e.symm
    subst this; exact zK
   ·have qb : (i == 128) = false := by simpa using q
    rw [List.lookup_cons, qb] at e
    have e : List.lookup i [(127, V.ref fc)] = some v := e
    refine ja qb (Sub.cons rfl (Sub.cons rfl hs) i v e)
  have h3b : Sub [(127, .ref fc)] l₁ := fun i v e => h3 i v (ja (by
   by_cases q : i = 128
   ·subst q; cases e
   ·simpa using q) e)
  have m1 : l₁.lookup 127 = some (.ref fc) := h3 _ _ rfl
  walk_at "g"
  refine wX h2 (by rw [List.length_map]; lia) ?_
  walk_at "g"
  ·exact hq hp₁ figs1 _ l₁ (by exact le3 h1 (eL hx) hz) h2 h3b (h3 _ _ rfl)
  ·exact ih hp₁ figs1 _ l₁ (by exact le3 hz h1 (eL hx)) h2 h3b (h3 _ _ rfl) hq
theorem k_lawPool {ns : List Int} {Q : V -> Hp -> Prop} (hn : 1 <= n) (hz : ns.length <= 63) (h : ∀ (hp' : Hp) (pc fc : Nat) (figs : List Int) (mix : Int), figs.length <= 4000 -> pc ≠ fc -> hp'[pc]? = some (.lst [.ref fc, .int 0, .int mix]) -> hp'[fc]? = some (.lst (figs.map .int)) -> Q (.ref pc) hp') : Call n .lawPool [.ext (ns.map .int)] hp Q E := by
 obtain ⟨m, rfl⟩ := Nat.exists_eq_add_of_le' (by walk_at "l" : 1 <= n)
 refine qh [135] none (wr (run m)) rfl rfl ?_
 simp only [List.zip_cons_cons, List.zip_nil_left, List.zip_nil_right]
 rw [JB]
 walk_at "g"
 refine ⟨by walk_at "p", fun hp₁ u₁ => ?_⟩
 walk_at "g"
 refine Xy (xs := ns.map .int) rfl (by rw [zY, List.length_map]; exact le1 hz) ?_
 rw [<- List.map_take]
 walk_at "g"
 refine w_pool (ns.take 40) hp₁ [] 5 _ (by rw [List.length_take]; simp only [List.length_nil]; lia) u₁.at_ (Sub.cons rfl (fun i v e => ?_)) zK fun hp₂ figs mix l h1 h2 h3 h4 => ?_
 ·by_cases q : i = 127
  ·subst q
   have : v = .ref hp.length := by simpa [List.lookup_cons] using e.symm
   subst this; exact zK
  ·have qb : (i == 127) = false := by simpa using q
   rw [List.lookup_cons, qb] at e
   cases e
 have m1 : l.lookup 127 = some (.ref hp.length) := h3 _ _ rfl
 walk_at "g"
 refine ⟨by walk_at "p", fun hp3 u₃ => ?_⟩
 refine h hp3 _ hp.length figs mix h1 ?_ u₃.at_ (u₃.keep h2)
 have := (List.getElem?_eq_some_iff.mp h2).1
 exact Nat.ne_of_gt (lt1 (sL this))
end
mutual
theorem Qi : ∀ d : PyData, PyData.canLay0 d = true -> PyData.eqv d d = true
 | .none, _ => by simp [PyData.eqv]
 | .bool _, _ => by simp [PyData.eqv]
 | .int _, _ => by simp [PyData.eqv]
 | .str _, _ => by simp [PyData.eqv]
 | .list xs, h => by simp only [PyData.eqv]; exact wS xs (by simpa only [PyData.canLay0] using h)
 | .tuple xs, h => by simp only [PyData.eqv]; exact wS xs (by simpa only [PyData.canLay0] using h)
 | .dict _, h => by simp [PyData.canLay0] at h
theorem wS : ∀ ds : List PyData, PyData.canLayAll0 ds = true -> PyData.eqvAll ds ds = true
 | [], _ => rfl
 | d :: r, h => by
  simp only [PyData.canLayAll0, Bool.and_eq_true] at h
  simp only [PyData.eqvAll, Bool.and_eq_true]
  exact ⟨Qi d h.1, wS r h.2⟩
end
set_option tactic.hygienic true in
theorem peq_tree {hp : Hp} {t : T} (h : wft t) (hd : tdp t <= 500) : peq hp (qp t) (qp t) = some true := by
 obtain ⟨d, h1, h2, h3⟩ := pd_tup t h
 have a : zu d = true := by
  unfold zu
  rw [Bool.and_eq_true]
  exact ⟨h2, decide_eq_true (by exact le2 h3 (Nat.mul_le_mul_left 3 hd))⟩
 have e : wD hp (qp t) = some d := by
  unfold wD
  split
  ·rename_i i q; cases t <;> simp [qp] at q
  ·exact h1
 unfold peq
 rw [e]
 simp only [a, Bool.and_self, if_true]
 rw [Qi d h2]
theorem peq_err {hp : Hp} {e : Err} (h : ErrOk e) : peq hp (.tup [e.1, e.2]) (XC (some e)) = some true := by
 obtain ⟨i, p, hi, rfl⟩ := h
 unfold peq XC
 have a : zu (.tuple [.str (nm i), .int p]) = true := by
  unfold zu
  rw [Bool.and_eq_true]
  exact ⟨by simp only [PyData.canLay0, PyData.canLayAll0, jB hi, Bool.and_self], decide_eq_true (by simp only [PyData.depth, PyData.depthAll]; lia)⟩
 simp only [wD, pd, pds, Option.map_some, a, Bool.and_self, if_true]
 rw [Qi _ (by simp only [PyData.canLay0, PyData.canLayAll0, jB hi, Bool.and_self])]
noncomputable def WX {α : Type} (m : M α) (l : Nv) (hp : Hp) (Q : α -> Nv -> Hp -> Prop) (E : V -> V -> Hp -> Prop) : Prop := ∀ lc, Has lc l -> match m ⟨lc, hp⟩ with
 | .ok a s => ∃ l', Has s.lc l' /\ Q a l' s.hp
 | .exc k p s => s.lc = lc /\ E k p s.hp
 | .stuck => False
section
variable {α β : Type} {l : Nv} {hp : Hp} {E : V -> V -> Hp -> Prop}
theorem WX_ok {m : M α} {f : α -> M β} {Q : β -> Nv -> Hp -> Prop} (a : α) (h : ∀ lc, Has lc l -> m ⟨lc, hp⟩ = .ok a ⟨lc, hp⟩) (k : WX (f a) l hp Q E) : WX (m >>= f) l hp Q E := by
 intro lc hl
 rw [M.bind_eq, h lc hl]
 exact k lc hl
theorem y0 {m : M α} {f : α -> M β} {Q : β -> Nv -> Hp -> Prop} (h : WX m l hp (fun a l hp => W (f a) l hp Q (fun _ _ _ => False)) E) : WX (m >>= f) l hp Q E := by
 intro lc hl
 have := h lc hl
 rw [M.bind_eq]
 cases hm : m ⟨lc, hp⟩ with
 | stuck => rw [hm] at this; exact this.elim
 | exc k p s => rw [hm] at this; exact this
 | ok a s =>
  rw [hm] at this
  obtain ⟨l', h1, h2⟩ := this
  have h3 := h2.go s.lc h1
  dsimp only
  rw [show (⟨s.lc, s.hp⟩ : St) = s from rfl] at h3
  cases hf : f a s with
  | ok b s' => rw [hf] at h3; exact h3
  | exc k p s' => rw [hf] at h3; exact h3.elim
  | stuck => rw [hf] at h3; exact h3.elim
theorem def_exc {xs : List Str} {d : Option V} {m : M Fl} {vs : List V} {st s : St} {k p : V} (h : qq xs d m vs st = .exc k p s) : s.lc = st.lc := by
 unfold qq at h
 cases hf : xu xs d vs with
 | none => rw [hf] at h; cases h
 | some lc =>
  rw [hf] at h
  have h : (match m ⟨lc, st.hp⟩ with | .ok fl st' => Out.ok (flV fl) ⟨st.lc, st'.hp⟩ | .exc k p st' => .exc k p ⟨st.lc, st'.hp⟩ | .stuck => .stuck) = .exc k p s := h
  split at h
  ·cases h
  ·cases h; rfl
  ·cases h
theorem WX_expr {n : Nat} {vs : List V} {Q : V -> Nv -> Hp -> Prop} (h : Call (n + 1) .expression vs hp (fun v hp' => Q v l hp') E) : WX (run (n + 1) .expression vs) l hp Q E := by
 intro lc hl
 have := h.go lc
 cases hm : run (n + 1) .expression vs ⟨lc, hp⟩ with
 | ok a s => rw [hm] at this; exact ⟨l, by rw [this.1]; exact hl, this.2⟩
 | exc k p s => rw [hm] at this; exact ⟨def_exc (st := ⟨lc, hp⟩) hm, this⟩
 | stuck => rw [hm] at this; exact this
theorem W_sTry {b : M Fl} {wv bk : Nat} {Q : Fl -> Nv -> Hp -> Prop} (h : WX b l hp (fun f l hp => f = .nxt /\ Q .nxt l hp) (fun k p hp' => ∃ wj kv v, l.lookup wv = some (.ref wj) /\ hp'[wj]? = some (.dct (FL kv)) /\ kv.lookup bk = some v /\ peq hp' (.tup [k, p]) v = some true /\ Q (.ret (.bool true)) [] hp')) : W (sTry b (nm wv) (nm bk)) l hp Q E := by
 refine ⟨fun lc hl => ?_⟩
 have := h lc hl
 unfold sTry
 cases hm : b ⟨lc, hp⟩ with
 | stuck => rw [hm] at this; exact this.elim
 | ok f s =>
  rw [hm] at this
  obtain ⟨l', h1, rfl, h2⟩ := this
  exact ⟨l', h1, h2⟩
 | exc k p s =>
  rw [hm] at this
  obtain ⟨h1, wj, kv, v, h2, h3, h4, h5, h6⟩ := this
  dsimp only
  unfold Zt
  rw [h1, hl _ _ h2]
  dsimp only
  rw [show dictAt s.hp (.ref wj) = some (FL kv) by simp only [dictAt, h3]]
  dsimp only
  rw [jw, h4]
  dsimp only
  rw [h5]
  exact ⟨[], Has.nil, h6⟩
end
noncomputable def KO (k : Int) : Int := if k < 0 then -k else k
theorem w_law (ns : List Int) (h1 : ns.length <= 63) : W (Ze (run 220)) [(135, .ext (ns.map .int))] [] (fun fl _ _ => fl = .ret (.bool true)) (fun _ _ _ => False) := by
 unfold Ze
 walk_at "g"
 refine qI (k_lawPool (by decide) h1 fun hp₁ pc fc figs mix hfl hpf hpc hfc => ?_)
 walk_at "gz"
 refine X5 ?_
 walk_at "g"
 refine Xy (xs := ns.map .int) rfl (by rw [zY, List.length_map]; exact le1 h1) ?_
 have e1 : (ns.map V.int).take 3 = ((ns.take 3).map fun k => (V.int k, V.int (KO k))).map (·.1) := by rw [List.map_map, <- List.map_take]; rfl
 have e2 : ((ns.take 3).map fun k => (V.int k, V.int (KO k))).map (·.2) = ((ns.take 3).map KO).map V.int := by rw [List.map_map, List.map_map]; rfl
 rw [e1]
 have ht3 : (ns.take 3).length <= 3 := by rw [List.length_take]; lia
 refine Xz _ (by rw [zY, List.length_map]; exact le1 ht3) (fun z hz => ?_) ?_
 ·obtain ⟨k, _, rfl⟩ := List.mem_map.mp hz
  walk_at "g"
  exact ⟨rfl, rfl⟩
 rw [e2]
 refine jP rfl rfl (by refine pLe ?_; simp only [List.length_cons, List.length_nil, List.length_map]; exact le1 ht3) ?_
 have e3 : [V.int 0, V.int 7] ++ ((ns.take 3).map KO).map V.int = (0 :: 7 :: (ns.take 3).map KO).map V.int := rfl
 rw [e3]
 have hwl : 0 < (0 :: 7 :: (ns.take 3).map KO).length /\ (0 :: 7 :: (ns.take 3).map KO).length <= 100 := by simp only [List.length_cons, List.length_map]; exact ⟨lt0, le1 ht3⟩
 generalize (0 :: 7 :: (ns.take 3).map KO) = wfl at hwl
 walk_at "g"
 refine JI (ks := [13, 145, 151, 172, 127]) ?_
 walk_at "g"
 refine ⟨by walk_at "p", fun hp₂ u₂ => ?_⟩
 walk_at "g"
 refine ⟨⟨rfl, by decide⟩, fun hp3 u₃ => ?_⟩
 have lpc := (List.getElem?_eq_some_iff.mp hpc).1
 have lfc := (List.getElem?_eq_some_iff.mp hfc).1
 have g₃ : GAt ⟨pc, fc, hp₂.length, hp₁.length, figs, wfl⟩ hp3 { k := 0, mix := mix, inner := 0, bad := none, room := 14 } [] :=
  ⟨u₃.keep (u₂.keep hpc), u₃.keep (u₂.keep hfc), u₃.at_, u₃.keep u₂.at_, ⟨hpf, by dsimp only; exact Nat.ne_of_lt (lt1 (sL lpc)), by dsimp only; exact Nat.ne_of_lt (lt1 (sL lfc))⟩, ⟨by dsimp only; lia, hwl⟩, fun e q => nomatch q⟩
 walk_at "g"
 refine qI (all_rows 220 hp3 ⟨pc, fc, hp₂.length, hp₁.length, figs, wfl⟩ _ [] 1 _ _ (by decide) (.inl rfl) g₃ (by decide) fun hp4 s4 ts t b f1 f2 g₄ K₄ wt hdp hsz htl hrd _ => ?_)
 dsimp only at f1 f2
 have f2 : s4.bad = b := f2
 rw [List.nil_append] at g₄
 walk_at "g"
 refine qI (zc (tv := .op 194) (by decide) (by exact le1 htl) g₄ fun nl k5 m5 hp5 hnl g₅ K₅ => ?_)
 have hnl0 : nl = false := by
  cases nl with
  | false => rfl
  | true => have := hnl rfl; lia
 generalize htk : (⟨.op 194, 10 * ts.length, nl⟩ : Tk) = tk at g₅
 have htk1 : tk.tv = .op 194 := by rw [<- htk]
 have htk3 : tk.nl = false := by rw [<- htk]; exact hnl0
 have hw5 := g₅.world
 have lw5 := (List.getElem?_eq_some_iff.mp hw5).1
 have ltk := (List.getElem?_eq_some_iff.mp g₅.toks).1
 dsimp only at hw5 lw5 ltk
 walk_at "g"
 refine qI (k_cRow fun hp6 u₆ => ?_)
 walk_at "g"
 refine qI (k_cReader ?_)
 have u₇ : New hp6 (.lst []) (hp6 ++ [jE.lst []]) := .app
 generalize hp6 ++ [jE.lst []] = hp7 at u₇
 have u₈ : New hp7 (.lst [V.str (nm 200)]) (hp7 ++ [jE.lst [V.str (nm 200)]]) := .app
 generalize hp7 ++ [jE.lst [V.str (nm 200)]] = hp8 at u₈
 have u₉ : New hp8 (.obj .reader (FL [(10, V.ref hp5.length), (11, .ref hp6.length), (12, .ref hp7.length)])) (hp8 ++ [.obj .reader (FL [(10, V.ref hp5.length), (11, .ref hp6.length), (12, .ref hp7.length)])]) := .app
 generalize hp8 ++ [jE.obj Cls.reader (FL [(10, V.ref hp5.length), (11, .ref hp6.length), (12, .ref hp7.length)])] = hp9 at u₉
 have n6 := u₆.len
 have n7 := u₇.len
 have n8 := u₈.len
 have n9 := u₉.len
 have R : qw ⟨hp8.length, hp5.length, hp7.length, hp₁.length, ts ++ [tk]⟩ hp9 hp6.length (ts ++ [tk]) [V.str (nm 200)] :=
  ⟨u₉.at_, ⟨0, [], u₉.keep (u₈.keep (u₇.keep u₆.at_)), u₉.keep (u₈.keep u₇.at_), rfl, Nat.zero_le _, by decide⟩, u₉.keep u₈.at_, u₉.keep (u₈.keep (u₇.keep (u₆.keep g₅.toks))), ⟨by dsimp only; exact Nat.ne_of_lt (lt1 (eR n7)), by dsimp only; exact Nat.ne_of_gt (lt2 (sL ltk) (eR n6)), by dsimp only; exact Nat.ne_of_gt (lt3 (sL ltk) (eR n6) (eR n7))⟩, by dsimp only; rw [List.length_append]; simp only [List.length_cons, List.length_nil]; lia⟩
 have hr := R.hr
 dsimp only at hr
 have hin0 : inB { k := 0, mix := mix, inner := 0, bad := none, room := 14 } = false := rfl
 rw [hin0] at hrd
 walk_at "g"
 refine W_sTry (y0 (y0 (y0 (y0 (WX_ok (.ref hp8.length) (fun lc hl => ?_) (WX_ok () (fun lc hl => ?_) (WX_ok [.int 1] (fun lc hl => rfl) (WX_expr ?_))))))))
 ·unfold qD; rw [hl 197 _ zK]
 ·unfold xO; simp [hr]
 have hwx : ∀ (hp' : Hp) (a' : Nat), zA ⟨hp8.length, hp5.length, hp7.length, hp₁.length, ts ++ [tk]⟩ hp9 hp6.length hp' a' -> hp'[hp₂.length]? = hp5[hp₂.length]? := fun hp' a' K => by
  have h := K.old hp₂.length (by exact lt5 (sL lw5) (eR n6) (eR n7) (eR n8) (eR n9)) (by exact Nat.ne_of_lt (lt2 (sL lw5) (eR n6))) (by dsimp only; exact Nat.ne_of_lt (lt4 (sL lw5) (eR n6) (eR n7) (eR n8))) (by dsimp only; exact Nat.ne_of_lt (lt1 (sL lw5))) (by dsimp only; exact Nat.ne_of_lt (lt3 (sL lw5) (eR n6) (eR n7)))
  rw [h, u₉.old _ (by exact lt4 (sL lw5) (eR n6) (eR n7) (eR n8)), u₈.old _ (by exact lt3 (sL lw5) (eR n6) (eR n7)), u₇.old _ (by exact lt2 (sL lw5) (eR n6)), u₆.old _ (by walk_at "l")]
 refine hrd.rd 220 ⟨hp8.length, hp5.length, hp7.length, hp₁.length, ts ++ [tk]⟩ hp9 hp6.length [tk] [V.str (nm 200)] _ _ (by decide) ⟨.inr rfl, by decide⟩ (by decide) (fun q => nomatch q) ⟨tk, [], 194, rfl, htk1, by decide, by decide, by decide, fun q => by rw [htk3] at q; cases q⟩ R (fun hb hp' a' R' K' => ?_) fun e he hp' a' K' => ?_
 ·-- it reads
  walk_at "g"
  refine qI (Kr 220 t hp' _ _ wt (by exact le1 hdp) (by exact le2 hsz (Nat.mul_le_mul_left 10 htl)) ?_)
  refine qS (vc ?_)
  refine qr ?_
  refine zz ?_
  refine ⟨rfl, qY ?_⟩
  have hw' := (hwx hp' a' K').trans hw5
  have hr' := R'.hr
  dsimp only at hr'
  rw [hb] at f2
  rw [f2] at hw'
  walk_at "g"
  refine zU (peq_tree wt (by exact le1 hdp)) ?_
  walk_at "g"
  refine qI (kr (X := ⟨hp8.length, hp5.length, hp7.length, hp₁.length, ts ++ [tk]⟩) (by decide) (by decide) (by rw [htk1]; show 194 ∈ zE; decide) R' fun hp10 R10 K10 => ?_)
  rw [htk1]
  walk_at "g"
  rfl
 ·-- it raises what is noted
  refine ⟨hp₂.length, _, XC s4.bad, by walk_at "look", (hwx hp' a' K').trans hw5, rfl, ?_, rfl⟩
  have hs : s4.bad = some e := by rw [f2]; exact he
  rw [hs]
  exact peq_err (g₅.eok e hs)
theorem plain_law (ns : List Int) (h1 : ns.length <= 63) : ∃ st', Ze (run 220) ⟨[(nm 135, .ext (ns.map .int))], []⟩ = .ok (.ret (.bool true)) st' := by
 have := (w_law ns h1).go (FL [(135, .ext (ns.map .int))]) Has.FL
 rw [show FL [(135, V.ext (ns.map .int))] = [(nm 135, .ext (ns.map .int))] from rfl] at this
 cases hm : Ze (run 220) ⟨[(nm 135, .ext (ns.map .int))], []⟩ with
 | ok f s =>
  rw [hm] at this
  obtain ⟨_, _, rfl⟩ := this
  exact ⟨s, rfl⟩
 | exc k p s => rw [hm] at this; exact this.elim
 | stuck => rw [hm] at this; exact this.elim
end
end Mine.Internal
open PySem PySem.W PySem.Calls PyProof.Rows
namespace Mine.Internal.hold
theorem tw6374707884067367503:True:=⟨⟩
theorem tw6281893171500456398:True:=⟨⟩
theorem tw5156402418827331989:True:=⟨⟩
theorem tw424587550139992278:True:=⟨⟩
theorem tw8888239631756823119:True:=⟨⟩
theorem tw5900837387320658095:True:=⟨⟩
theorem tw15271205067981737239:True:=⟨⟩
theorem tw14623408788488460054:True:=⟨⟩
theorem tw9333419034139279697:True:=⟨⟩
theorem tw18364239282717710504:True:=⟨⟩
theorem tw4271391960319709304:True:=⟨⟩
theorem tw4163726957445263221:True:=⟨⟩
theorem tw7039549766132581010:True:=⟨⟩
theorem tw2341934323420034183:True:=⟨⟩
theorem tw11561983406957067364:True:=⟨⟩
theorem tw11175558341149084074:True:=⟨⟩
theorem tw13596616252741833194:True:=⟨⟩
theorem tw14202003897707264611:True:=⟨⟩
theorem tw13922630161593804150:True:=⟨⟩
theorem tw213725854039125857:True:=⟨⟩
theorem tw2847067058452590726:True:=⟨⟩
theorem tw12317261305376479130:True:=⟨⟩
theorem tw1279597954190479043:True:=⟨⟩
theorem tw1436307596630065228:True:=⟨⟩
theorem tw13218283421443320774:True:=⟨⟩
theorem tw2683458839792130346:True:=⟨⟩
theorem tw12750261903427301149:True:=⟨⟩
theorem tw2017749205288481044:True:=⟨⟩
theorem tw1244136224158924356:True:=⟨⟩
theorem tw1550189185602480883:True:=⟨⟩
theorem tw16070374717577184018:True:=⟨⟩
theorem tw12340391825067631917:True:=⟨⟩
theorem tw12880918926891645124:True:=⟨⟩
theorem tw13004858611968097258:True:=⟨⟩
theorem tw8364894286433344200:True:=⟨⟩
theorem tw4773127643746456929:True:=⟨⟩
theorem tw82974508452056917:True:=⟨⟩
theorem tw2554792173853462067:True:=⟨⟩
theorem tw7255715784688782981:True:=⟨⟩
theorem tw3598723669618720710:True:=⟨⟩
theorem tw10233372990580293931:True:=⟨⟩
theorem tw2394665504911289397:True:=⟨⟩
theorem tw9827832966209863066:True:=⟨⟩
theorem tw6007894375427831741:True:=⟨⟩
theorem tw1187021851230420489:True:=⟨⟩
theorem tw1139476851202102060:True:=⟨⟩
theorem tw13602578443646782773:True:=⟨⟩
theorem tw356705470007754405:True:=⟨⟩
theorem tw2892757906382365696:True:=⟨⟩
theorem tw8774958935244763696:True:=⟨⟩
theorem tw12146876448615921789:True:=⟨⟩
theorem tw13643324385945905504:True:=⟨⟩
theorem tw5906709551991923147:True:=⟨⟩
theorem tw9666510643176976464:True:=⟨⟩
theorem tw17325019840441100704:True:=⟨⟩
theorem tw9372990385395989675:True:=⟨⟩
theorem tw8789936031233019322:True:=⟨⟩
theorem tw18180390530367053281:True:=⟨⟩
theorem tw15539385129348531124:True:=⟨⟩
theorem tw9751658882899635238:True:=⟨⟩
theorem tw3445475697652516712:True:=⟨⟩
theorem tw11488303629826767566:True:=⟨⟩
theorem tw2823213851838954758:True:=⟨⟩
theorem tw18385471745183450867:True:=⟨⟩
theorem tw12112857806363774541:True:=⟨⟩
theorem tw3637306440745377956:True:=⟨⟩
theorem tw9162939191106977688:True:=⟨⟩
theorem tw11163814207807740454:True:=⟨⟩
theorem tw208478048331320905:True:=⟨⟩
theorem tw10644398991751854344:True:=⟨⟩
theorem tw8735738507600346352:True:=⟨⟩
theorem tw457998290280319174:True:=⟨⟩
theorem tw6397470330670179797:True:=⟨⟩
theorem tw3488294932937239635:True:=⟨⟩
theorem tw6325899093337969959:True:=⟨⟩
theorem tw6863462688265869492:True:=⟨⟩
theorem tw706594177864395220:True:=⟨⟩
theorem tw5755982084450002925:True:=⟨⟩
theorem tw17620574716612770458:True:=⟨⟩
theorem tw9493336226808714544:True:=⟨⟩
theorem tw3642737882559365712:True:=⟨⟩
theorem tw7454399944107076004:True:=⟨⟩
theorem tw10856144552901767237:True:=⟨⟩
theorem tw8860704864548654292:True:=⟨⟩
theorem tw18271450450394495940:True:=⟨⟩
theorem tw15421838614707134297:True:=⟨⟩
theorem tw37993990007140541:True:=⟨⟩
theorem tw74785054212068957:True:=⟨⟩
theorem tw16276739133472481194:True:=⟨⟩
theorem tw12534749164518244599:True:=⟨⟩
theorem tw12582751012034811389:True:=⟨⟩
theorem tw3847171729114588634:True:=⟨⟩
theorem tw8686142273131004480:True:=⟨⟩
theorem tw1344113144939923270:True:=⟨⟩
theorem tw14232503204054784504:True:=⟨⟩
theorem tw13616873880960097257:True:=⟨⟩
theorem tw15209270587944496700:True:=⟨⟩
theorem tw3466113867878909506:True:=⟨⟩
theorem tw5718501862574037843:True:=⟨⟩
theorem tw8437639621396080385:True:=⟨⟩
theorem tw13242211350409091713:True:=⟨⟩
theorem tw10666128468571404218:True:=⟨⟩
theorem tw4028548541793727056:True:=⟨⟩
theorem tw12391080950628566222:True:=⟨⟩
theorem tw16610914639810566727:True:=⟨⟩
theorem tw10617706031917406737:True:=⟨⟩
theorem tw2539058147039253999:True:=⟨⟩
theorem tw15345451409101086388:True:=⟨⟩
theorem tw12491054697644975770:True:=⟨⟩
theorem tw3488956797362712286:True:=⟨⟩
theorem tw11119182838110366856:True:=⟨⟩
theorem tw4147585107434919732:True:=⟨⟩
theorem tw4438307960919295117:True:=⟨⟩
theorem tw12176777226634607880:True:=⟨⟩
theorem tw1908973378092332244:True:=⟨⟩
theorem tw4245614876062933035:True:=⟨⟩
theorem tw1541318246222173855:True:=⟨⟩
theorem tw18336942925030404169:True:=⟨⟩
theorem tw5696409466631123193:True:=⟨⟩
theorem tw12923288631952711080:True:=⟨⟩
theorem tw737393324645367067:True:=⟨⟩
theorem tw10227094240803472181:True:=⟨⟩
theorem tw3584802747375617396:True:=⟨⟩
theorem tw9975835356363531718:True:=⟨⟩
theorem tw6077854072052054498:True:=⟨⟩
theorem tw2940517374163465890:True:=⟨⟩
theorem tw234845205236655323:True:=⟨⟩
theorem tw13982662366641216210:True:=⟨⟩
theorem tw1700059508494685628:True:=⟨⟩
theorem tw18416474867331215448:True:=⟨⟩
theorem tw15796982415155522136:True:=⟨⟩
theorem tw6962926987581827243:True:=⟨⟩
theorem tw5924105912075787695:True:=⟨⟩
theorem tw14262454775388837054:True:=⟨⟩
theorem tw14341282067788837252:True:=⟨⟩
theorem tw3954571375622317430:True:=⟨⟩
theorem tw16015401831243038960:True:=⟨⟩
theorem tw1640153933559535267:True:=⟨⟩
theorem tw8691642135069722348:True:=⟨⟩
theorem tw15750694225675789241:True:=⟨⟩
theorem tw5782089617843461374:True:=⟨⟩
theorem tw17958691107931688242:True:=⟨⟩
theorem tw2827530731498114019:True:=⟨⟩
theorem tw1255212364446917908:True:=⟨⟩
theorem tw1250131368200352785:True:=⟨⟩
theorem tw12658574661679767751:True:=⟨⟩
theorem tw1123377425289416621:True:=⟨⟩
theorem tw6650179570000352291:True:=⟨⟩
theorem tw11883312300554748643:True:=⟨⟩
theorem tw6886771389745780514:True:=⟨⟩
theorem tw8908140733238501370:True:=⟨⟩
theorem tw16739396512968057076:True:=⟨⟩
theorem tw5942234356707151199:True:=⟨⟩
theorem tw1566352471317879975:True:=⟨⟩
theorem tw5918485419058424510:True:=⟨⟩
theorem tw5360069787900873474:True:=⟨⟩
theorem tw166693701716249679:True:=⟨⟩
theorem tw13688980430129985822:True:=⟨⟩
theorem tw1444105926691551578:True:=⟨⟩
theorem tw9390925449502424143:True:=⟨⟩
theorem tw10213374907064758850:True:=⟨⟩
theorem tw9121309514353849781:True:=⟨⟩
theorem tw5696219580566022185:True:=⟨⟩
theorem tw16389560106373510733:True:=⟨⟩
theorem tw8881204764382873096:True:=⟨⟩
theorem tw16758286662501526690:True:=⟨⟩
theorem tw7865807112777879724:True:=⟨⟩
theorem tw7964584026810580548:True:=⟨⟩
theorem tw11823885359206876465:True:=⟨⟩
theorem tw15039857680546459461:True:=⟨⟩
theorem tw1261790032637666574:True:=⟨⟩
theorem tw15444501941042636253:True:=⟨⟩
theorem tw1444900169426365770:True:=⟨⟩
theorem tw6614854268343008524:True:=⟨⟩
theorem tw748334201490489317:True:=⟨⟩
theorem tw16487418747384699814:True:=⟨⟩
theorem tw181616576292649477:True:=⟨⟩
theorem tw12507445248704006699:True:=⟨⟩
theorem tw4132981138405551543:True:=⟨⟩
theorem tw16784108670060164592:True:=⟨⟩
theorem tw17308272550730172607:True:=⟨⟩
theorem tw10266804003971412250:True:=⟨⟩
theorem tw14783696721205135630:True:=⟨⟩
theorem tw6236653344611714301:True:=⟨⟩
theorem tw12520137996822634611:True:=⟨⟩
theorem tw15132291935172793080:True:=⟨⟩
theorem tw6889406992487444469:True:=⟨⟩
theorem tw1909010370525239160:True:=⟨⟩
theorem tw10824830113659400580:True:=⟨⟩
theorem tw12575875596609468654:True:=⟨⟩
theorem tw14147754714045575467:True:=⟨⟩
theorem tw16386703199146335354:True:=⟨⟩
theorem tw9663938340801772074:True:=⟨⟩
theorem tw14742591391468165075:True:=⟨⟩
theorem tw3530031788313338733:True:=⟨⟩
theorem tw893362055105676530:True:=⟨⟩
theorem tw949180640437792921:True:=⟨⟩
theorem tw15247023981863384989:True:=⟨⟩
theorem tw11707293231498607975:True:=⟨⟩
theorem tw1064642226770464679:True:=⟨⟩
theorem tw8371842040307735488:True:=⟨⟩
theorem tw15420495999680500171:True:=⟨⟩
theorem tw263997307643043266:True:=⟨⟩
theorem tw3245098927632814358:True:=⟨⟩
theorem tw13821222027799338440:True:=⟨⟩
theorem tw3686739353626239398:True:=⟨⟩
theorem tw9528643393734171882:True:=⟨⟩
theorem tw16514352677844496871:True:=⟨⟩
theorem tw18035411172995604883:True:=⟨⟩
theorem tw14653089596908976603:True:=⟨⟩
theorem tw5701064476672157663:True:=⟨⟩
theorem tw12116799620829000151:True:=⟨⟩
theorem tw977129849891979768:True:=⟨⟩
theorem tw17526957157579331451:True:=⟨⟩
theorem tw16013859064716934824:True:=⟨⟩
theorem tw15610090430620820287:True:=⟨⟩
theorem tw16370515248336912343:True:=⟨⟩
theorem tw6270350645208164138:True:=⟨⟩
theorem tw12240640723240245787:True:=⟨⟩
theorem tw1913094176829873517:True:=⟨⟩
theorem tw10337460662435696068:True:=⟨⟩
theorem tw17509578355208504389:True:=⟨⟩
theorem tw15672217257759269882:True:=⟨⟩
theorem tw5162120450784385160:True:=⟨⟩
theorem tw963921493853825327:True:=⟨⟩
theorem tw18361239513343487988:True:=⟨⟩
theorem tw2926932622314857200:True:=⟨⟩
theorem tw13123392021538168948:True:=⟨⟩
theorem tw10005308965372031369:True:=⟨⟩
theorem tw13403055744788718991:True:=⟨⟩
theorem tw9667902322544849223:True:=⟨⟩
theorem tw18269958244826696911:True:=⟨⟩
theorem tw3211590305470430117:True:=⟨⟩
theorem tw13938704354443702526:True:=⟨⟩
theorem tw8942159988071467890:True:=⟨⟩
theorem tw968345072681262991:True:=⟨⟩
theorem tw12473388078035882665:True:=⟨⟩
theorem tw2429974190098230931:True:=⟨⟩
theorem tw18360878340300566368:True:=⟨⟩
theorem tw14580399957526739560:True:=⟨⟩
theorem tw12693324619916251155:True:=⟨⟩
theorem tw3049393044119364414:True:=⟨⟩
theorem tw9889280748520116497:True:=⟨⟩
theorem tw2522708829778115660:True:=⟨⟩
theorem tw13311921545595015102:True:=⟨⟩
theorem tw15073747414979850306:True:=⟨⟩
theorem tw6392776275470826604:True:=⟨⟩
theorem tw16792601549250204985:True:=⟨⟩
theorem tw640171176966778969:True:=⟨⟩
theorem tw6315366726293228568:True:=⟨⟩
theorem tw16092867079066846151:True:=⟨⟩
theorem tw10642913015094203719:True:=⟨⟩
theorem tw7055313112105246903:True:=⟨⟩
theorem tw16999174358289879028:True:=⟨⟩
theorem tw14424576251080708776:True:=⟨⟩
theorem tw2811356950101080697:True:=⟨⟩
theorem tw7032413433575113788:True:=⟨⟩
theorem tw8517571530252025924:True:=⟨⟩
theorem tw4416456895852983063:True:=⟨⟩
theorem tw10328039989889642326:True:=⟨⟩
theorem tw12886860778213179520:True:=⟨⟩
theorem tw4719185493303920892:True:=⟨⟩
theorem tw17704222567358611809:True:=⟨⟩
theorem tw1868751651603099744:True:=⟨⟩
theorem tw11256793312069645747:True:=⟨⟩
theorem tw10757183643316519911:True:=⟨⟩
theorem tw13138301534159610599:True:=⟨⟩
theorem tw16111346270487962653:True:=⟨⟩
theorem tw10555740075561779090:True:=⟨⟩
theorem tw9806513362412856389:True:=⟨⟩
theorem tw7939948437274934204:True:=⟨⟩
theorem tw4709204952714610338:True:=⟨⟩
theorem tw16705715438715668946:True:=⟨⟩
theorem tw10559899951368437948:True:=⟨⟩
theorem tw15467158007754992507:True:=⟨⟩
theorem tw16863033466422946014:True:=⟨⟩
theorem tw16908279652988693886:True:=⟨⟩
theorem tw17862105003359883007:True:=⟨⟩
theorem tw11730943591992450652:True:=⟨⟩
theorem tw7316649353655019148:True:=⟨⟩
theorem tw12332053643240618183:True:=⟨⟩
theorem tw857841594074790364:True:=⟨⟩
theorem tw11340617567033173740:True:=⟨⟩
theorem tw17238350334393270806:True:=⟨⟩
theorem tw8108514109772446780:True:=⟨⟩
theorem tw16568200305843176803:True:=⟨⟩
theorem tw2243362703934862405:True:=⟨⟩
theorem tw11506756866070705451:True:=⟨⟩
theorem tw3813449871175617415:True:=⟨⟩
theorem tw17068404734573385824:True:=⟨⟩
theorem tw2774767958312531469:True:=⟨⟩
theorem tw4777617230712119905:True:=⟨⟩
theorem tw18133874752571326829:True:=⟨⟩
theorem tw16587276952038469671:True:=⟨⟩
theorem tw12306907664940257690:True:=⟨⟩
theorem tw4841265694013267792:True:=⟨⟩
theorem tw5947351194263500741:True:=⟨⟩
theorem tw479198104021015724:True:=⟨⟩
theorem tw7849008421340170508:True:=⟨⟩
theorem tw17121253198297015069:True:=⟨⟩
theorem tw431806589546216071:True:=⟨⟩
theorem tw13211563271000660460:True:=⟨⟩
theorem tw15667266914538341077:True:=⟨⟩
theorem tw1004710272858206308:True:=⟨⟩
theorem tw4876579827265390713:True:=⟨⟩
theorem tw2935028517992706643:True:=⟨⟩
theorem tw17883793382120097710:True:=⟨⟩
theorem tw14817351329516639331:True:=⟨⟩
theorem tw3746592085524565931:True:=⟨⟩
theorem tw349059038848653821:True:=⟨⟩
theorem tw14624434971498308852:True:=⟨⟩
theorem tw14371912826795959212:True:=⟨⟩
theorem tw17990370131737893457:True:=⟨⟩
theorem tw7435923000105211343:True:=⟨⟩
theorem tw9325085779791516379:True:=⟨⟩
theorem tw11616999901462113560:True:=⟨⟩
theorem tw4441150876120266293:True:=⟨⟩
theorem tw4616849501966569204:True:=⟨⟩
theorem tw14792954723097026097:True:=⟨⟩
theorem tw5783683132853739897:True:=⟨⟩
theorem tw12474876367979225209:True:=⟨⟩
theorem tw14552828420685705674:True:=⟨⟩
theorem tw12312400114630690717:True:=⟨⟩
theorem tw15883844449438074266:True:=⟨⟩
theorem tw13964794010220295365:True:=⟨⟩
theorem tw3286902423758821726:True:=⟨⟩
theorem tw12788799612020573610:True:=⟨⟩
theorem tw15440037182910870841:True:=⟨⟩
theorem tw12483739174314213687:True:=⟨⟩
theorem tw16187099370074694286:True:=⟨⟩
theorem tw12529366341352773302:True:=⟨⟩
theorem tw11416816730955624394:True:=⟨⟩
theorem tw15897375719372242258:True:=⟨⟩
theorem tw7592347019510842958:True:=⟨⟩
theorem tw13329599036977823917:True:=⟨⟩
theorem tw2471809845997872840:True:=⟨⟩
theorem tw3018907936427050486:True:=⟨⟩
theorem tw9777250326984102911:True:=⟨⟩
theorem tw1293118379542457649:True:=⟨⟩
theorem tw12987268223825340242:True:=⟨⟩
theorem tw8792159330479184185:True:=⟨⟩
theorem tw1933093224589960383:True:=⟨⟩
theorem tw1920572021680272834:True:=⟨⟩
theorem tw11888092283082970588:True:=⟨⟩
theorem tw11614097982787887308:True:=⟨⟩
theorem tw8389326703019291519:True:=⟨⟩
theorem tw10079984594597935831:True:=⟨⟩
theorem tw7183458435948298129:True:=⟨⟩
theorem tw16347308682196608682:True:=⟨⟩
theorem tw1547577385735456323:True:=⟨⟩
theorem tw8476550462949699691:True:=⟨⟩
theorem tw10502031499284780797:True:=⟨⟩
theorem tw4561464520366956344:True:=⟨⟩
theorem tw9353799252930835832:True:=⟨⟩
theorem tw16583103306650438993:True:=⟨⟩
theorem tw4057656336510461174:True:=⟨⟩
theorem tw13581451629766574409:True:=⟨⟩
theorem tw156728228983066210:True:=⟨⟩
theorem tw18410870874720437564:True:=⟨⟩
theorem tw1861654283250435585:True:=⟨⟩
theorem tw13332931519263365652:True:=⟨⟩
theorem tw8331863475822371392:True:=⟨⟩
theorem tw9212012689351045656:True:=⟨⟩
theorem tw4594774073138745013:True:=⟨⟩
theorem tw6551895433374505479:True:=⟨⟩
theorem tw10090813574858757679:True:=⟨⟩
theorem tw11779763668041148196:True:=⟨⟩
theorem tw15207481531357068296:True:=⟨⟩
theorem tw3167103937059982404:True:=⟨⟩
theorem tw8469551812750046793:True:=⟨⟩
theorem tw5047937978723646564:True:=⟨⟩
theorem tw10422636367085801486:True:=⟨⟩
theorem tw11612291567595810166:True:=⟨⟩
theorem tw6531006895721555529:True:=⟨⟩
theorem tw17336670708927311976:True:=⟨⟩
theorem tw9590535101120524467:True:=⟨⟩
theorem tw9107612857714901300:True:=⟨⟩
theorem tw6796335822714286368:True:=⟨⟩
theorem tw11435491636579931988:True:=⟨⟩
theorem tw3920646513523305649:True:=⟨⟩
theorem tw11296844653145920743:True:=⟨⟩
theorem tw734832651347015487:True:=⟨⟩
theorem tw16883426996272369581:True:=⟨⟩
theorem tw3375694620648720048:True:=⟨⟩
theorem tw14160602334564750125:True:=⟨⟩
theorem tw3531575403116199882:True:=⟨⟩
theorem tw5839072463446532722:True:=⟨⟩
theorem tw3959293276664441567:True:=⟨⟩
theorem tw15556386725810851948:True:=⟨⟩
theorem tw13465683689244959582:True:=⟨⟩
theorem tw5602191363605518376:True:=⟨⟩
theorem tw1143268612900878272:True:=⟨⟩
theorem tw18281415464163818408:True:=⟨⟩
theorem tw9022851203361631149:True:=⟨⟩
theorem tw10858917204986451335:True:=⟨⟩
theorem tw11657827045027185476:True:=⟨⟩
theorem tw14264360124197886101:True:=⟨⟩
theorem tw16054215773265197735:True:=⟨⟩
theorem tw5503501143252459850:True:=⟨⟩
theorem tw10547043775084889011:True:=⟨⟩
end Mine.Internal.hold
set_option tactic.hygienic true in
set_option Elab.async true in
theorem Mine.Internal.hold : PySem.Challenge.rw_no0510_01.Holds := by
 w_on; o_law; k_head; (case hw => w_witness2)
 k_go0
 rename_i w s0 s₁ mg mb G Y fa o pm doc kV ho hg KX X V GL T B TE TW w9 w8 M w7 w6 hcd ns hs hlay0 hL1 hr1 hl2 as4 as3 ls vs as hL ra w1 r0 hI hr hc1 hc2 K0 hD h₁ F N0
 obtain ⟨st', hlaw⟩ := Mine.Internal.plain_law ns (by omega)
 refine Mine.Internal.conn KX ?kf ?ka (Top.nolimit T) ⟨_, Top.b T, Top.builtins T⟩ F hL hI hg rfl hlaw (fun s2 hst hg2 hos2 => ?go) rfl (by kernel_rfl)
 case go => exact ⟨.inl ⟨.bool true, .bool true, [], rfl, raisesW_false (by wrow_none_raised), .bool true, (by first | rfl | kernel_rfl), unshared_nil⟩, hst, hos2, hg2⟩
 case kf => exact Mine.Internal.chkC_ (by kernel_rfl)
 case ka =>
  exact {
   gl := Mine.Internal.chkG_ (by kernel_rfl)
   gi := ⟨⟨_, rfl⟩, ⟨_, rfl⟩, ⟨_, rfl⟩⟩
   gb := Mine.Internal.chkB_ (by kernel_rfl)
   mt := Mine.Internal.chkM_ (by kernel_rfl)
   ci := Mine.Internal.chkI_ (by kernel_rfl)
   fn := by
    repeat refine .cons (Mine.Internal.fnFact (by kernel_rfl) (by kernel_rfl)) ?_
    exact .nil
   df1 := ⟨_, _, _, rfl, rfl⟩
   df2 := ⟨_, _, _, rfl, rfl⟩
   df3 := ⟨_, _, rfl, rfl⟩
   df4 := ⟨_, _, rfl, rfl⟩
   ki := ⟨fun c hc => by rcases hc with rfl | rfl <;> exact ⟨by kernel_rfl, by kernel_rfl, by kernel_rfl, by kernel_rfl⟩, ⟨by kernel_rfl, by kernel_rfl⟩, by kernel_rfl, by kernel_rfl⟩
   keg := ⟨by kernel_rfl, by kernel_rfl, by kernel_rfl, by kernel_rfl⟩
   kex := {
    cls := ⟨_, _, _, _, _, _, _, _, _, _, _, _, _, _, rfl⟩
    tail := by kernel_rfl
    init := ⟨by kernel_rfl, by kernel_rfl⟩
    sa := by kernel_rfl
    kn := ⟨by kernel_rfl, by kernel_rfl⟩
    fn := Mine.Internal.fnFact (by kernel_rfl) (by kernel_rfl)
    cell := Mine.Internal.wp (by kernel_rfl)
    loc := ⟨by kernel_rfl, by kernel_rfl, by kernel_rfl⟩
    scope := ⟨by kernel_rfl, by kernel_rfl, by kernel_rfl⟩
    selfOk := ⟨by decide +kernel, by decide +kernel, by decide +kernel⟩
    body := ⟨_, _, _, _, _, _, _, _, rfl⟩
    binds := fun s a b c kV doc pm an cdv ct => BindsTo.of_eq rfl } }
theorem PySem.Challenge.cw_no0510_01_holds : PySem.Challenge.rw_no0510_01.Holds :=
  Mine.Internal.hold
